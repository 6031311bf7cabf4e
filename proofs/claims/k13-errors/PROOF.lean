import PyProof.Rows.All
import Wide.All
import OpenK.AllK
import Wide.FinOn
import HandS.ForMost
import HandS.ForExc
import HandS.Evl
import KE.KeyNested
import HandS.Wide
import HandS.WideBits
import HandS.Deep
import HandS.IsInst
import HandS.Star
import HandS.CallSlots
import HandS.ExcOwn
import HandS.Property
import HandS.Zip
import KE.KOpsOwn
import HandS.OwnEq
import KE.KFmtOwn
import HandS.ExcIs
import HandS.TupAny
import HandS.Text
import HandS.ExcField
import HandS.TryOnly
import HandS.ExcInit
import HandS.Small
import HandS.Conv
import HandS.Iter
import KE.KUnpackStar
import HandS.StrMore
import HandS.FStr
import HandS.Flow
import HandS.TryMany
import PyProof.NeKinds
import HandS.Dict
import HandS.MakeKw
import HandS.Style
import HandS.SortInts
import KE.KExcIs
import HandS.ExcValue
import PySem.Challenge.RW_boardbits_k13_errors
set_option Elab.async false
set_option linter.all false
set_option maxRecDepth 100000
set_option maxHeartbeats 4000000
/-! DL, part a: data without a heap (D), how values and objects stand for it (Rp, Own), frames of data (I2), what code does on data (Res). -/
namespace DL
open PySem L2 Evl

/-- data: a value with all that it holds -/
inductive D where
  | non | bl (b : Bool) | int (i : Int) | str (s : Str)
  | lst (xs : List D) | tup (xs : List D) | rol (xs : List D) | ins (k : Nat) (xs : List D)
  /-- a dict: are its keys tuples; its keys, its values -/
  | dct (t : Bool) (ks : List D) (vs : List D)
  /-- an error (an object of an exception class) as a value: its class, its attributes -/
  | exv (k : Nat) (xs : List D)

/-- what stands fast: the written part, the classes' addresses, their fields in order -/
structure Ct where
  K : PySem.W.Frag
  cl : Nat → Addr
  fn : Nat → List Str
  /-- the exception that is handled here: its address, class, attributes' dict -/
  xs : Option (Addr × Value × Option Addr) := none
  /-- the world (the hashes of texts hang on it) -/
  w : World
/-- the entries of a dict whose keys are tuples: the key, its address, the value -/
abbrev TEs := List (NestedKey × Addr × V)
/-- .. the object at p -/
def tdO (w : World) (p : Addr) (xs : TEs) : HO := .ext fun h => xs.length ≤ sizeLine ∧ (p == sysModules) = false ∧ (∀ x ∈ xs, x.1.depth ≤ 8) ∧ ∃ ys : List (NestedKey × Addr × Value), Paired (fun (a : NestedKey × Addr × V) (b : NestedKey × Addr × Value) => a.1 = b.1 ∧ a.2.1 = b.2.1 ∧ RelV a.2.2 b.2.2) xs ys ∧
  ∃ o es ep, h.get? p = some o ∧ o.ExactDict ∧ o.data = .dict es ep ∧ es.toList = ys.map (fun x => (⟨x.1.hash w, .ref x.2.1, x.2.2⟩ : DictEntry)) ∧ (ys.map (·.1)).Nodup
/-- an int or a text as data -/
def keyD : Key → D
  | .inl i => .int i
  | .inr s => .str s
mutual
/-- what a thing is as a key of a dict -/
def nkOf : D → Option NestedKey
  | .non => some .none
  | .bl b => some (.num (if b then 1 else 0))
  | .int i => some (.num i)
  | .str s => some (.text s)
  | .tup ds => (nkOfL ds).map .tup
  | _ => none
def nkOfL : List D → Option (List NestedKey)
  | [] => some []
  | d :: ds => (nkOf d).bind fun k => (nkOfL ds).map fun r => k :: r
end

/-- an error object as a value: its class, its dict -/
def exV (cls : Value) (d : Option Addr) (a : Addr) : HO := .ext fun h => ∃ (oe : Obj) (vs : Array Value), h.get? a = some oe ∧ Zc cls d oe ∧ oe.data = .fields vs
mutual
/-- v stands for d, by objects that never change -/
def Rp (c : Ct) (F : Hp) : D → V → Prop
  | .non, v => v = .non
  | .bl b, v => v = .bl b
  | .int i, v => v = .int i
  | .str s, v => v = .str s
  | .lst ds, v => ∃ p vs, v = .ref p ∧ F p = some (.lst vs) ∧ RpL c F ds vs
  | .tup ds, v => ∃ p vs, v = .ref p ∧ SqT c.K F p vs ∧ RpL c F ds vs
  | .rol ds, v => ∃ p vs, v = .ref p ∧ SqL c.K F p vs ∧ RpL c F ds vs
  | .ins k ds, v => ∃ p dx vs, v = .ref p ∧ F p = some (.ins (c.cl k) dx ((c.fn k).zip vs)) ∧ RpL c F ds vs
  | .dct t ks ds, v => ∃ p ws vs, v = .ref p ∧ ((t = false ∧ ∃ kvs : List (Key × V), F p = some (.dK kvs) ∧ ks = kvs.map (fun x => keyD x.1) ∧ ws = kvs.map (fun x => kV x.1) ∧ vs = kvs.map (·.2)) ∨
      t = true ∧ ∃ xs : TEs, F p = some (tdO c.w p xs) ∧ nkOfL ks = some (xs.map (·.1)) ∧ ws = xs.map (fun x => V.ref x.2.1) ∧ vs = xs.map (·.2.2)) ∧ RpL c F ks ws ∧ RpL c F ds vs
  | .exv k ds, v => ∃ p dd, v = .ref p ∧ F p = some (exV (.ref (c.cl k)) dd p) ∧ ((ds = [] ∧ dd = none) ∨ ds ≠ [] ∧ ∃ a fs vs, dd = some a ∧ F a = some (.xd fs) ∧ RpL c F ds vs ∧ (∀ (i : Nat) (f : Str) (v : V), (c.fn k)[i]? = some f → vs[i]? = some v → fs.lookup f = some v))
def RpL (c : Ct) (F : Hp) : List D → List V → Prop
  | [], vs => vs = []
  | d :: ds, vs => ∃ v r, vs = v :: r ∧ Rp c F d v ∧ RpL c F ds r
end

section
variable {c : Ct} {F G H H' : Hp}
mutual
theorem Rp.mono (e : Ex F G) : ∀ (d : D) (v : V), Rp c F d v → Rp c G d v
  | .non, _, h => h
  | .bl _, _, h => h
  | .int _, _, h => h
  | .str _, _, h => h
  | .lst ds, _, ⟨p, vs, h1, h2, h3⟩ => ⟨p, vs, h1, e _ _ h2, RpL.mono e ds vs h3⟩
  | .tup ds, _, ⟨p, vs, h1, h2, h3⟩ => ⟨p, vs, h1, ex_t e h2, RpL.mono e ds vs h3⟩
  | .rol ds, _, ⟨p, vs, h1, h2, h3⟩ => ⟨p, vs, h1, ex_l e h2, RpL.mono e ds vs h3⟩
  | .ins _ ds, _, ⟨p, dx, vs, h1, h2, h3⟩ => ⟨p, dx, vs, h1, e _ _ h2, RpL.mono e ds vs h3⟩
  | .dct t ks ds, _, ⟨p, ws, vs, h1, h2, h3, h4⟩ => ⟨p, ws, vs, h1, h2.elim (fun ⟨g0, kvs, g1, g2⟩ => .inl ⟨g0, kvs, e _ _ g1, g2⟩) (fun ⟨g0, xs, g1, g2⟩ => .inr ⟨g0, xs, e _ _ g1, g2⟩), RpL.mono e ks ws h3, RpL.mono e ds vs h4⟩
  | .exv k ds, _, ⟨p, dd, h1, h2, h3⟩ => ⟨p, dd, h1, e _ _ h2, h3.elim .inl fun ⟨h0, a, fs, vs, h4, h5, h6, h7⟩ => .inr ⟨h0, a, fs, vs, h4, e _ _ h5, RpL.mono e ds vs h6, h7⟩⟩
theorem RpL.mono (e : Ex F G) : ∀ (ds : List D) (vs : List V), RpL c F ds vs → RpL c G ds vs
  | [], _, h => h
  | d :: ds, _, ⟨v, r, h1, h2, h3⟩ => ⟨v, r, h1, Rp.mono e d v h2, RpL.mono e ds r h3⟩
end
theorem RpL.len : ∀ {ds : List D} {vs : List V}, RpL c F ds vs → ds.length = vs.length
  | [], _, h => by cases h; rfl
  | d :: ds, _, ⟨v, r, h1, h2, h3⟩ => by subst h1; simp [RpL.len h3]
theorem RpL.get : ∀ {ds : List D} {vs : List V} {i : Nat} {d : D}, RpL c F ds vs → ds[i]? = some d → ∃ v, vs[i]? = some v ∧ Rp c F d v
  | [], _, _, _, h, g => by simp at g
  | d :: ds, _, i, x, ⟨v, r, h1, h2, h3⟩, g => by
    subst h1
    cases i with
    | zero => simp at g; subst g; exact ⟨v, rfl, h2⟩
    | succ i =>
      simp at g
      obtain ⟨w, h4, h5⟩ := RpL.get (i := i) h3 g
      exact ⟨w, by simpa using h4, h5⟩
theorem RpL.getV : ∀ {ds : List D} {vs : List V} {i : Nat} {v : V}, RpL c F ds vs → vs[i]? = some v → ∃ d, ds[i]? = some d ∧ Rp c F d v
  | [], _, _, _, h, g => by cases h; simp at g
  | d :: ds, _, i, x, ⟨v, r, h1, h2, h3⟩, g => by
    subst h1
    cases i with
    | zero => simp at g; subst g; exact ⟨d, rfl, h2⟩
    | succ i =>
      simp at g
      obtain ⟨w, h4, h5⟩ := RpL.getV (i := i) h3 g
      exact ⟨w, by simpa using h4, h5⟩
theorem RpL.app : ∀ {ds es : List D} {vs ws : List V}, RpL c F ds vs → RpL c F es ws → RpL c F (ds ++ es) (vs ++ ws)
  | [], _, _, _, h, g => by cases h; exact g
  | d :: ds, _, _, _, ⟨v, r, h1, h2, h3⟩, g => by subst h1; exact ⟨v, _, rfl, h2, RpL.app h3 g⟩
theorem RpL.one {d : D} {v : V} (h : Rp c F d v) : RpL c F [d] [v] := ⟨v, [], rfl, h, rfl⟩
theorem RpL.set : ∀ {ds : List D} {vs : List V} {d : D} {v : V} (i : Nat), RpL c F ds vs → Rp c F d v → RpL c F (ds.set i d) (vs.set i v)
  | [], _, _, _, _, h, g => by cases h; exact rfl
  | d :: ds, _, x, y, i, ⟨v, r, h1, h2, h3⟩, g => by
    subst h1
    cases i with
    | zero => exact ⟨y, r, rfl, g, h3⟩
    | succ i => exact ⟨v, _, rfl, h2, RpL.set i h3 g⟩
theorem RpL.take : ∀ {ds : List D} {vs : List V} (n : Nat), RpL c F ds vs → RpL c F (ds.take n) (vs.take n)
  | _, _, 0, _ => rfl
  | [], _, n + 1, h => by cases h; exact rfl
  | d :: ds, _, n + 1, ⟨v, r, h1, h2, h3⟩ => by subst h1; exact ⟨v, _, rfl, h2, RpL.take n h3⟩
theorem RpL.drop : ∀ {ds : List D} {vs : List V} (n : Nat), RpL c F ds vs → RpL c F (ds.drop n) (vs.drop n)
  | _, _, 0, h => h
  | [], _, n + 1, h => by cases h; exact rfl
  | d :: ds, _, n + 1, ⟨v, r, h1, h2, h3⟩ => by subst h1; exact RpL.drop n h3
theorem RpL.rev : ∀ {ds : List D} {vs : List V}, RpL c F ds vs → RpL c F ds.reverse vs.reverse
  | [], _, h => by cases h; exact rfl
  | d :: ds, _, ⟨v, r, h1, h2, h3⟩ => by subst h1; rw [List.reverse_cons, List.reverse_cons]; exact RpL.app (RpL.rev h3) (RpL.one h2)
theorem RpL.ints : ∀ {ns : List Int} {vs : List V}, RpL c F (ns.map D.int) vs → vs = ns.map V.int
  | [], _, h => h
  | n :: ns, _, ⟨v, r, h1, h2, h3⟩ => by subst h1; rw [List.map_cons, RpL.ints h3, show v = V.int n from h2]
theorem RpL.of_ints : ∀ (ns : List Int), RpL c F (ns.map D.int) (ns.map V.int)
  | [] => rfl
  | n :: ns => ⟨V.int n, _, rfl, rfl, RpL.of_ints ns⟩

/-- an object at p that is known alone here, and may change: it holds d -/
def Own (c : Ct) (F H : Hp) (d : D) (p : Addr) : Prop := F p = none ∧ match d with
  | .lst ds => ∃ vs, H p = some (.lst vs) ∧ RpL c F ds vs
  | .ins k ds => ∃ dx vs, H p = some (.ins (c.cl k) dx ((c.fn k).zip vs)) ∧ RpL c F ds vs
  | .dct t ks ds => ∃ ws vs, ((t = false ∧ ∃ kvs : List (Key × V), H p = some (.dK kvs) ∧ ks = kvs.map (fun x => keyD x.1) ∧ ws = kvs.map (fun x => kV x.1) ∧ vs = kvs.map (·.2)) ∨
      t = true ∧ ∃ xs : TEs, H p = some (tdO c.w p xs) ∧ nkOfL ks = some (xs.map (·.1)) ∧ ws = xs.map (fun x => V.ref x.2.1) ∧ vs = xs.map (·.2.2)) ∧ RpL c F ks ws ∧ RpL c F ds vs
  | _ => False
theorem Own.at {d : D} {p : Addr} (h : Own c F H d p) : ∃ o, H p = some o := by
  cases d with
  | lst ds => obtain ⟨_, vs, h, _⟩ := h; exact ⟨_, h⟩
  | ins k ds => obtain ⟨_, dx, vs, h, _⟩ := h; exact ⟨_, h⟩
  | dct t ks ds => obtain ⟨_, ws, vs, ⟨_, kvs, h, _⟩ | ⟨_, xs, h, _⟩, _⟩ := h <;> exact ⟨_, h⟩
  | _ => exact h.2.elim
/-- the known part grows, the object stays -/
theorem Own.mono {d : D} {p : Addr} (h : Own c F H d p) (e : Ex F G) (hp : G p = none) (k : ∀ o, H p = some o → H' p = some o) : Own c G H' d p := by
  cases d with
  | lst ds => obtain ⟨_, vs, h1, h2⟩ := h; exact ⟨hp, vs, k _ h1, RpL.mono e ds vs h2⟩
  | ins j ds => obtain ⟨_, dx, vs, h1, h3⟩ := h; exact ⟨hp, dx, vs, k _ h1, RpL.mono e ds vs h3⟩
  | dct t ks ds => obtain ⟨_, ws, vs, h2, h3, h4⟩ := h; exact ⟨hp, ws, vs, h2.elim (fun ⟨g0, kvs, g1, g2⟩ => .inl ⟨g0, kvs, k _ g1, g2⟩) (fun ⟨g0, xs, g1, g2⟩ => .inr ⟨g0, xs, k _ g1, g2⟩), RpL.mono e ks ws h3, RpL.mono e ds vs h4⟩
  | _ => exact h.2.elim
/-- frozen: from here on it never changes -/
theorem Own.seal {d : D} {p : Addr} (h : Own c F H d p) (e : Ex F H) : ∃ G, Ex F G ∧ Ex G H ∧ Rp c G d (.ref p) ∧ ∀ b, b ≠ p → G b = F b := by
  have key : ∀ o, H p = some o → Ex (upd F p o) H := fun o h1 a u h => by
    by_cases ha : a = p
    · subst ha; rw [upd_same] at h; rw [← h]; exact h1
    · rw [upd_ne ha] at h; exact e _ _ h
  cases d with
  | lst ds =>
    obtain ⟨hp, vs, h1, h2⟩ := h
    have x := Ex.new (o := .lst vs) hp
    exact ⟨_, x, key _ h1, ⟨p, vs, rfl, upd_same, RpL.mono x ds vs h2⟩, fun b hb => upd_ne hb⟩
  | ins j ds =>
    obtain ⟨hp, dx, vs, h1, h3⟩ := h
    have x := Ex.new (o := .ins (c.cl j) dx ((c.fn j).zip vs)) hp
    exact ⟨_, x, key _ h1, ⟨p, dx, vs, rfl, upd_same, RpL.mono x ds vs h3⟩, fun b hb => upd_ne hb⟩
  | dct t ks ds =>
    obtain ⟨hp, ws, vs, ⟨g0, kvs, h1, g⟩ | ⟨g0, xs, h1, g⟩, h3, h4⟩ := h
    · have x := Ex.new (o := .dK kvs) hp
      exact ⟨_, x, key _ h1, ⟨p, ws, vs, rfl, .inl ⟨g0, kvs, upd_same, g⟩, RpL.mono x ks ws h3, RpL.mono x ds vs h4⟩, fun b hb => upd_ne hb⟩
    · have x := Ex.new (o := tdO c.w p xs) hp
      exact ⟨_, x, key _ h1, ⟨p, ws, vs, rfl, .inr ⟨g0, xs, upd_same, g⟩, RpL.mono x ks ws h3, RpL.mono x ds vs h4⟩, fun b hb => upd_ne hb⟩
  | _ => exact h.2.elim
end
end DL

/-! DL, part b: frames of data (I2), what is handed from step to step (T, TR), the steps on them. -/
namespace DL
open PySem L2 Evl

structure XV where
  k : Nat
  ds : List D
/-- what a name holds: shared data; an object known to this name alone; an object of a caller's; the exception that is handled -/
inductive B where
  | sh (d : D) | ow (d : D) | br (d : D) | ex (x : XV)
def B.d : B → D
  | .sh d => d | .ow d => d | .br d => d | .ex _ => .non
def B.isRoot : B → Bool
  | .sh _ => false | .ow _ => true | .br _ => true | .ex _ => false
def B.re : B → D → B
  | .sh _, d => .sh d | .ow _, d => .ow d | .br _, d => .br d | .ex x, _ => .ex x
abbrev DEnv := List (Option B)
/-- what an expression hands on: a name's object itself; data; a new object -/
inductive T where
  | sl (i : Nat) | vl (d : D) | nw (d : D)
inductive Res (α : Type) where
  | stuck | ok (a : α) | exc (x : XV) (e : DEnv)
def Res.bind {α β : Type} (r : Res α) (f : α → Res β) : Res β := match r with
  | .stuck => .stuck | .ok a => f a | .exc x e => .exc x e
def Wp {α : Type} (r : Res α) (ok : α → Prop) (ex : XV → DEnv → Prop) : Prop := match r with
  | .stuck => False | .ok a => ok a | .exc x e => ex x e
theorem Wp.bind {α β : Type} {r : Res α} {f : α → Res β} {ok : β → Prop} {ex : XV → DEnv → Prop} : Wp (r.bind f) ok ex = Wp r (fun a => Wp (f a) ok ex) ex := by
  cases r <;> rfl
theorem Wp.mono {α : Type} {r : Res α} {ok ok' : α → Prop} {ex ex' : XV → DEnv → Prop} (h : Wp r ok ex) (h1 : ∀ a, r = .ok a → ok a → ok' a) (h2 : ∀ x e, ex x e → ex' x e) : Wp r ok' ex' := by
  cases r with
  | stuck => exact h
  | ok a => exact h1 a rfl h
  | exc x e => exact h2 x e h
/-- of an option: none is stuck -/
def Res.of {α : Type} : Option α → Res α
  | none => .stuck | some a => .ok a
theorem Wp.of {α : Type} {o : Option α} {ok : α → Prop} {ex : XV → DEnv → Prop} (h : Wp (Res.of o) ok ex) : ∃ a, o = some a ∧ ok a := by
  cases o with
  | none => exact h.elim
  | some a => exact ⟨a, rfl, h⟩

/-- what a frame starts from: the heap at the entry, what is known to stand fast, the callers' objects that are lent -/
structure Zs where
  H0 : Hp
  F0 : Hp
  Bo : Addr → Prop
  V0 : Nat → V

/-- an exception of a class of one's own, by its attributes -/
def XR (c : Ct) (F : Hp) (x : XV) (cls : Value) (dd : Option Addr) : Prop := cls = .ref (c.cl x.k) ∧
  ((x.ds = [] ∧ dd = none) ∨ x.ds ≠ [] ∧ ∃ a fs vs, dd = some a ∧ F a = some (.xd fs) ∧ RpL c F x.ds vs ∧ (∀ (i : Nat) (f : Str) (v : V), (c.fn x.k)[i]? = some f → vs[i]? = some v → fs.lookup f = some v))
theorem XR.mono {c : Ct} {F G : Hp} (e : Ex F G) {x : XV} {cls : Value} {dd : Option Addr} (h : XR c F x cls dd) : XR c G x cls dd := by
  obtain ⟨h1, h2⟩ := h
  refine ⟨h1, ?_⟩
  rcases h2 with h2 | ⟨h0, a, fs, vs, h2, h3, h4, h5⟩
  · exact .inl h2
  · exact .inr ⟨h0, a, fs, vs, h2, e _ _ h3, RpL.mono e _ _ h4, h5⟩
def BR (c : Ct) (z : Zs) (F H : Hp) : B → V → Prop
  | .sh d, v => Rp c F d v
  | .ow d, v => ∃ p, v = .ref p ∧ Own c F H d p ∧ z.H0 p = none
  | .br d, v => ∃ p, v = .ref p ∧ Own c F H d p ∧ z.Bo p
  | .ex x, v => ∃ a cls dd, c.xs = some (a, cls, dd) ∧ v = .ref a ∧ XR c F x cls dd
def RootAt (σ : L2.St) (e : DEnv) (i : Nat) (p : Addr) : Prop := ∃ b, e[i]? = some (some b) ∧ b.isRoot = true ∧ σ[i]? = some (some (.ref p))
structure I2 (c : Ct) (z : Zs) (σ : L2.St) (H F : Hp) (e : DEnv) : Prop where
  len : e.length = σ.length
  f0 : Ex z.F0 F
  fh : Ex F H
  keep : ∀ p o, z.H0 p = some o → ¬ z.Bo p → H p = some o
  slot : ∀ (i : Nat) (b : B), e[i]? = some (some b) → ∃ v, σ[i]? = some (some v) ∧ BR c z F H b v
  dist : ∀ (i j : Nat) (p : Addr), RootAt σ e i p → RootAt σ e j p → i = j
  bo : ∀ p, z.Bo p → ∃ o, H p = some o
  nf : ∀ p, z.H0 p ≠ none → z.F0 p = none → F p = none
  brv : ∀ (i : Nat) (d : D) (v : V), e[i]? = some (some (.br d)) → σ[i]? = some (some v) → z.V0 i = v

def TR (c : Ct) (z : Zs) (F H : Hp) (σ : L2.St) (e : DEnv) : T → V → Prop
  | .sl i, v => σ[i]? = some (some v)
  | .vl d, v => Rp c F d v
  | .nw d, v => ∃ p, v = .ref p ∧ Own c F H d p ∧ z.H0 p = none ∧ ∀ i, ¬ RootAt σ e i p

section
variable {c : Ct} {z : Zs} {σ : L2.St} {H H' F G : Hp} {e : DEnv}
theorem I2.own {i : Nat} {b : B} (I : I2 c z σ H F e) (h : e[i]? = some (some b)) (hr : b.isRoot = true) : ∃ p, σ[i]? = some (some (.ref p)) ∧ Own c F H b.d p ∧ (z.H0 p = none ∨ z.Bo p) := by
  obtain ⟨v, hv, r⟩ := I.slot i b h
  cases b with
  | sh d => cases hr
  | ow d => obtain ⟨p, rfl, o, k⟩ := r; exact ⟨p, hv, o, .inl k⟩
  | br d => obtain ⟨p, rfl, o, k⟩ := r; exact ⟨p, hv, o, .inr k⟩
  | ex x => cases hr
theorem I2.rootAt {i : Nat} {p : Addr} (I : I2 c z σ H F e) (h : RootAt σ e i p) : ∃ d, Own c F H d p := by
  obtain ⟨b, h1, h2, h3⟩ := h
  obtain ⟨q, h4, o, _⟩ := I.own h1 h2
  rw [h3] at h4; cases h4
  exact ⟨_, o⟩
theorem Own.ne_none {d : D} {p q : Addr} (o : Own c F H d p) (h : H q = none) : p ≠ q := fun z => by
  obtain ⟨x, hx⟩ := o.at
  rw [z, h] at hx; cases hx
theorem I2.fresh0 {p : Addr} (I : I2 c z σ H F e) (hp : H p = none) : z.H0 p = none := by
  cases h : z.H0 p with
  | none => rfl
  | some o =>
    by_cases hb : z.Bo p
    · obtain ⟨o', h'⟩ := I.bo p hb
      rw [hp] at h'; cases h'
    · rw [I.keep p o h hb] at hp; cases hp
theorem I2.noroot {p : Addr} (I : I2 c z σ H F e) (hp : H p = none) (i : Nat) : ¬ RootAt σ e i p := fun h => by
  obtain ⟨d, o⟩ := I.rootAt h
  exact o.ne_none hp rfl

/-- the known part grows by objects that no name owns -/
theorem I2.grow (I : I2 c z σ H F e) (x : Ex F G) (y : Ex G H) (k : ∀ (i : Nat) (p : Addr), RootAt σ e i p → G p = none) (n : ∀ p, z.H0 p ≠ none → G p = F p) : I2 c z σ H G e := by
  refine ⟨I.len, I.f0.trans x, y, I.keep, fun i b h => ?_, I.dist, I.bo, fun p h1 h2 => (n p h1).trans (I.nf p h1 h2), I.brv⟩
  obtain ⟨v, hv, r⟩ := I.slot i b h
  refine ⟨v, hv, ?_⟩
  cases b with
  | sh d => exact Rp.mono x d v r
  | ow d => obtain ⟨p, rfl, o, q⟩ := r; exact ⟨p, rfl, o.mono x (k i p ⟨_, h, rfl, hv⟩) (fun _ h => h), q⟩
  | br d => obtain ⟨p, rfl, o, q⟩ := r; exact ⟨p, rfl, o.mono x (k i p ⟨_, h, rfl, hv⟩) (fun _ h => h), q⟩
  | ex y => obtain ⟨a, cls, dd, h1, h2, h3⟩ := r; exact ⟨a, cls, dd, h1, h2, h3.mono x⟩
/-- a new object of no name is frozen -/
theorem I2.sealNew {d : D} {p : Addr} (I : I2 c z σ H F e) (o : Own c F H d p) (h0 : z.H0 p = none) (hr : ∀ i, ¬ RootAt σ e i p) : ∃ G, Ex F G ∧ I2 c z σ H G e ∧ Rp c G d (.ref p) := by
  obtain ⟨G, x, y, r, k⟩ := o.seal I.fh
  refine ⟨G, x, I.grow x y (fun i q h => ?_) (fun q h => k q fun z => h (z ▸ h0)), r⟩
  obtain ⟨d', o'⟩ := I.rootAt h
  rw [k q fun z => hr i (z ▸ h)]
  exact o'.1
theorem get_set {α : Type} {l : List α} {i j : Nat} {a x : α} (h : (l.set i a)[j]? = some x) : (j = i ∧ x = a) ∨ (j ≠ i ∧ l[j]? = some x) := by
  by_cases e : i = j
  · subst e
    rw [List.getElem?_set] at h
    by_cases hi : i < l.length
    · simp [hi] at h; exact .inl ⟨rfl, h.symm⟩
    · simp [hi] at h
  · rw [List.getElem?_set_ne e] at h
    exact .inr ⟨fun q => e q.symm, h⟩
theorem get_setS {α : Type} {l : List α} {i : Nat} {a : α} (h : i < l.length) : (l.set i a)[i]? = some a := by
  rw [List.getElem?_set]; simp [h]
theorem get_lt {α : Type} {l : List α} {i : Nat} {x : α} (h : l[i]? = some x) : i < l.length := (List.getElem?_eq_some_iff.mp h).1
/-- a name forgets what it is alone with -/
theorem I2.drop (I : I2 c z σ H F e) (i : Nat) : I2 c z σ H F (e.set i none) := by
  have key : ∀ (j : Nat) (b : B), (e.set i none)[j]? = some (some b) → e[j]? = some (some b) := fun j b h => by
    rcases get_set h with ⟨_, q⟩ | ⟨_, q⟩
    · cases q
    · exact q
  exact ⟨by rw [List.length_set]; exact I.len, I.f0, I.fh, I.keep, fun j b h => I.slot j b (key j b h), fun j k p ⟨b, h1, h2, h3⟩ ⟨b', h1', h2', h3'⟩ => I.dist j k p ⟨b, key _ _ h1, h2, h3⟩ ⟨b', key _ _ h1', h2', h3'⟩, I.bo, I.nf, fun j d v h => I.brv j d v (key _ _ h)⟩
/-- a name's binding is replaced by shared data -/
theorem I2.rebind {i : Nat} {v : V} {d : D} (I : I2 c z σ H F e) (hv : σ[i]? = some (some v)) (r : Rp c F d v) : I2 c z σ H F (e.set i (some (.sh d))) := by
  refine ⟨by rw [List.length_set]; exact I.len, I.f0, I.fh, I.keep, fun j b h => ?_, fun j k p ⟨b, h1, h2, h3⟩ ⟨b', h1', h2', h3'⟩ => ?_, I.bo, I.nf, fun j d' v' h => ?_⟩
  · rcases get_set h with ⟨rfl, q⟩ | ⟨_, q⟩
    · cases q; exact ⟨v, hv, r⟩
    · exact I.slot j b q
  · rcases get_set h1 with ⟨_, q⟩ | ⟨_, q⟩
    · cases q; cases h2
    · rcases get_set h1' with ⟨_, q'⟩ | ⟨_, q'⟩
      · cases q'; cases h2'
      · exact I.dist j k p ⟨b, q, h2, h3⟩ ⟨b', q', h2', h3'⟩
  · rcases get_set h with ⟨_, q⟩ | ⟨_, q⟩
    · cases q
    · exact I.brv j d' v' q
/-- a name's own object is frozen -/
theorem I2.freeze {i : Nat} {d : D} (I : I2 c z σ H F e) (h : e[i]? = some (some (.ow d))) : ∃ G v, Ex F G ∧ I2 c z σ H G (e.set i (some (.sh d))) ∧ σ[i]? = some (some v) ∧ Rp c G d v := by
  obtain ⟨v, hv, p, rfl, o, hp⟩ := I.slot i _ h
  obtain ⟨G, x, I', r⟩ := (I.drop i).sealNew o hp fun j ⟨b, h1, h2, h3⟩ => by
    rcases get_set h1 with ⟨_, q⟩ | ⟨ne, q⟩
    · cases q
    · exact ne (I.dist j i p ⟨b, q, h2, h3⟩ ⟨_, h, rfl, hv⟩)
  have I'' := I'.rebind (i := i) (by exact hv) r
  rw [List.set_set] at I''
  exact ⟨G, _, x, I'', hv, r⟩
/-- the heap grows: new objects are laid, nobody's yet -/
theorem I2.alloc (I : I2 c z σ H F e) (e1 : Ex H H') : I2 c z σ H' F e := by
  refine ⟨I.len, I.f0, I.fh.trans e1, fun q u h1 h2 => e1 _ _ (I.keep q u h1 h2), fun i b h => ?_, I.dist, fun q h => let ⟨u, k⟩ := I.bo q h; ⟨u, e1 _ _ k⟩, I.nf, I.brv⟩
  obtain ⟨v, hv, r⟩ := I.slot i b h
  refine ⟨v, hv, ?_⟩
  cases b with
  | sh d => exact r
  | ow d => obtain ⟨q, rfl, w, k⟩ := r; exact ⟨q, rfl, w.mono (Ex.refl F) w.1 (fun _ h => e1 _ _ h), k⟩
  | br d => obtain ⟨q, rfl, w, k⟩ := r; exact ⟨q, rfl, w.mono (Ex.refl F) w.1 (fun _ h => e1 _ _ h), k⟩
  | ex y => exact r
/-- a new tuple, known at once -/
theorem I2.allocT {p : Addr} {o : HO} (I : I2 c z σ H F e) (hp : H p = none) : I2 c z σ (upd H p o) (upd F p o) e := by
  have hF : F p = none := fresh_back I.fh hp
  have J := I.alloc (Ex.new (o := o) hp)
  refine J.grow (Ex.new hF) (fun a u h => ?_) (fun i q h => ?_) (fun q h => upd_ne fun z => h (z ▸ I.fresh0 hp))
  · by_cases ha : a = p
    · subst ha; rw [upd_same] at h; rw [upd_same]; exact h
    · rw [upd_ne ha] at h; rw [upd_ne ha]; exact I.fh _ _ h
  · obtain ⟨d, w⟩ := I.rootAt h
    rw [upd_ne (w.ne_none hp)]
    exact w.1
theorem B.re_root {b : B} {d : D} : (b.re d).isRoot = b.isRoot := by cases b <;> rfl
/-- names' objects are changed (those of the names in L), the known part and the heap grow -/
theorem I2.change {L : List Nat} {e' : DEnv} (I : I2 c z σ H F e) (hl : e'.length = e.length) (x : Ex F G) (y : Ex G H') (kp : ∀ p o, H p = some o → (∀ i ∈ L, ¬ RootAt σ e i p) → H' p = some o)
    (kb : ∀ p, H p ≠ none → H' p ≠ none) (nf : ∀ p, H p ≠ none → F p = none → G p = none)
    (hb : ∀ (i : Nat) (b' : B), e'[i]? = some (some b') → ∃ b, e[i]? = some (some b) ∧ ((b' = b ∧ (b.isRoot = true → i ∉ L)) ∨ (b.isRoot = true ∧ ∃ d p, b' = b.re d ∧ σ[i]? = some (some (.ref p)) ∧ Own c G H' d p))) : I2 c z σ H' G e' := by
  have key : ∀ i p, RootAt σ e' i p → RootAt σ e i p := fun i p ⟨b', h1, h2, h3⟩ => by
    obtain ⟨b, h4, h5⟩ := hb i b' h1
    refine ⟨b, h4, ?_, h3⟩
    rcases h5 with ⟨rfl, _⟩ | ⟨h5, _⟩
    · exact h2
    · exact h5
  have h0 : ∀ p, z.H0 p ≠ none → H p ≠ none := fun p h => by
    cases q : z.H0 p with
    | none => exact absurd q h
    | some o =>
      by_cases hB : z.Bo p
      · obtain ⟨u, k⟩ := I.bo p hB; rw [k]; exact fun z => nomatch z
      · rw [I.keep p o q hB]; exact fun z => nomatch z
  refine ⟨hl.trans I.len, I.f0.trans x, y, fun p o h1 h2 => kp p o (I.keep p o h1 h2) fun i _ ⟨b, h3, h4, h5⟩ => ?_, fun i b' h => ?_, fun i j p h1 h2 => I.dist i j p (key _ _ h1) (key _ _ h2), fun p h => ?_, fun p h1 h2 => nf p (h0 p h1) (I.nf p h1 h2), fun i d v h hv => ?_⟩
  · obtain ⟨v, hv, r⟩ := I.slot i b h3
    rw [h5] at hv; cases hv
    cases b with
    | sh d => cases h4
    | ow d => obtain ⟨q, e1, _, h6⟩ := r; cases e1; rw [h1] at h6; cases h6
    | br d => obtain ⟨q, e1, _, h6⟩ := r; cases e1; exact h2 h6
    | ex y => cases h4
  · obtain ⟨b, h1, h2⟩ := hb i b' h
    obtain ⟨v, hv, r⟩ := I.slot i b h1
    refine ⟨v, hv, ?_⟩
    rcases h2 with ⟨rfl, h2⟩ | ⟨h2, d, p, rfl, h3, h4⟩
    · cases b' with
      | sh d => exact Rp.mono x d v r
      | ow d =>
        obtain ⟨p, rfl, o, q⟩ := r
        have hp : H p ≠ none := by obtain ⟨u, hu⟩ := o.at; rw [hu]; exact fun z => nomatch z
        exact ⟨p, rfl, o.mono x (nf p hp o.1) (fun u hu => kp p u hu fun j hj hr => h2 rfl (I.dist i j p ⟨_, h1, rfl, hv⟩ hr ▸ hj)), q⟩
      | br d =>
        obtain ⟨p, rfl, o, q⟩ := r
        have hp : H p ≠ none := by obtain ⟨u, hu⟩ := o.at; rw [hu]; exact fun z => nomatch z
        exact ⟨p, rfl, o.mono x (nf p hp o.1) (fun u hu => kp p u hu fun j hj hr => h2 rfl (I.dist i j p ⟨_, h1, rfl, hv⟩ hr ▸ hj)), q⟩
      | ex y => obtain ⟨a, cls, dd, h1, h2, h3⟩ := r; exact ⟨a, cls, dd, h1, h2, h3.mono x⟩
    · rw [h3] at hv; cases hv
      cases b with
      | sh d => cases h2
      | ow d' => obtain ⟨q, e1, _, h6⟩ := r; cases e1; exact ⟨p, rfl, h4, h6⟩
      | br d' => obtain ⟨q, e1, _, h6⟩ := r; cases e1; exact ⟨p, rfl, h4, h6⟩
      | ex y => cases h2
  · obtain ⟨u, hu⟩ := I.bo p h
    have := kb p (by rw [hu]; exact fun z => nomatch z)
    cases q : H' p with
    | none => exact absurd q this
    | some o => exact ⟨o, rfl⟩
  · obtain ⟨b, h1, h2⟩ := hb i _ h
    have : ∃ d', b = .br d' := by
      rcases h2 with ⟨rfl, _⟩ | ⟨_, d', p, h3, _⟩
      · exact ⟨d, rfl⟩
      · cases b with
        | sh _ => cases h3
        | ow _ => cases h3
        | br d'' => exact ⟨d'', rfl⟩
        | ex _ => cases h3
    obtain ⟨d', rfl⟩ := this
    exact I.brv i d' v h1 hv
/-- one name's object is changed -/
theorem I2.mut {i : Nat} {b : B} {p : Addr} {d : D} {o : HO} (I : I2 c z σ H F e) (h : e[i]? = some (some b)) (hr : b.isRoot = true) (hv : σ[i]? = some (some (.ref p))) (w : Own c F (upd H p o) d p) : I2 c z σ (upd H p o) F (e.set i (some (b.re d))) := by
  refine I.change (L := [i]) (by rw [List.length_set]) (Ex.refl F) (fun a u h1 => ?_) (fun q u h1 h2 => ?_) (fun q h1 => ?_) (fun _ _ h => h) fun j b' h1 => ?_
  · by_cases ha : a = p
    · subst ha; rw [w.1] at h1; cases h1
    · rw [upd_ne ha]; exact I.fh _ _ h1
  · by_cases ha : q = p
    · subst ha; exact absurd ⟨b, h, hr, hv⟩ (h2 i List.mem_cons_self)
    · rw [upd_ne ha]; exact h1
  · by_cases ha : q = p
    · subst ha; rw [upd_same]; exact fun z => nomatch z
    · rw [upd_ne ha]; exact h1
  · rcases get_set h1 with ⟨rfl, q⟩ | ⟨ne, q⟩
    · cases q; exact ⟨b, h, .inr ⟨hr, d, p, rfl, hv, w⟩⟩
    · exact ⟨b', q, .inl ⟨rfl, fun _ => by simp [ne]⟩⟩
/-- a name is bound to shared data -/
theorem I2.store {i : Nat} {v : V} {d : D} (I : I2 c z σ H F e) (hi : i < σ.length) (r : Rp c F d v) : I2 c z (σ.set i (some v)) H F (e.set i (some (.sh d))) := by
  have key : ∀ (j : Nat) (p : Addr), RootAt (σ.set i (some v)) (e.set i (some (.sh d))) j p → RootAt σ e j p := fun j p ⟨b, h1, h2, h3⟩ => by
    rcases get_set h1 with ⟨_, q⟩ | ⟨ne, q⟩
    · cases q; cases h2
    · rcases get_set h3 with ⟨q', _⟩ | ⟨_, q'⟩
      · exact absurd q' ne
      · exact ⟨b, q, h2, q'⟩
  refine ⟨by rw [List.length_set, List.length_set]; exact I.len, I.f0, I.fh, I.keep, fun j b h => ?_, fun j k p h1 h2 => I.dist j k p (key _ _ h1) (key _ _ h2), I.bo, I.nf, fun j d' v' h h' => ?_⟩
  · rcases get_set h with ⟨rfl, q⟩ | ⟨ne, q⟩
    · cases q; exact ⟨v, get_setS hi, r⟩
    · obtain ⟨w, h1, h2⟩ := I.slot j b q
      exact ⟨w, by rw [List.getElem?_set_ne (Ne.symm ne)]; exact h1, h2⟩
  · rcases get_set h with ⟨_, q⟩ | ⟨ne, q⟩
    · cases q
    · rw [List.getElem?_set_ne (Ne.symm ne)] at h'
      exact I.brv j d' v' q h'
/-- a name is bound to a new object -/
theorem I2.storeN {i : Nat} {p : Addr} {d : D} (I : I2 c z σ H F e) (hi : i < σ.length) (w : Own c F H d p) (h0 : z.H0 p = none) (hn : ∀ i, ¬ RootAt σ e i p) : I2 c z (σ.set i (some (.ref p))) H F (e.set i (some (.ow d))) := by
  have key : ∀ (j : Nat) (q : Addr), RootAt (σ.set i (some (.ref p))) (e.set i (some (.ow d))) j q → (j = i ∧ q = p) ∨ (j ≠ i ∧ RootAt σ e j q) := fun j q ⟨b, h1, h2, h3⟩ => by
    rcases get_set h1 with ⟨e1, q1⟩ | ⟨ne, q1⟩
    · rcases get_set h3 with ⟨_, q2⟩ | ⟨ne, _⟩
      · cases q2; exact .inl ⟨e1, rfl⟩
      · exact absurd e1 ne
    · rcases get_set h3 with ⟨q', _⟩ | ⟨_, q'⟩
      · exact absurd q' ne
      · exact .inr ⟨ne, b, q1, h2, q'⟩
  refine ⟨by rw [List.length_set, List.length_set]; exact I.len, I.f0, I.fh, I.keep, fun j b h => ?_, fun j k q h1 h2 => ?_, I.bo, I.nf, fun j d' v' h h' => ?_⟩
  · rcases get_set h with ⟨rfl, q⟩ | ⟨ne, q⟩
    · cases q; exact ⟨_, get_setS hi, p, rfl, w, h0⟩
    · obtain ⟨w, h1, h2⟩ := I.slot j b q
      exact ⟨w, by rw [List.getElem?_set_ne (Ne.symm ne)]; exact h1, h2⟩
  · rcases key j q h1 with ⟨rfl, rfl⟩ | ⟨n1, r1⟩
    · rcases key k q h2 with ⟨rfl, _⟩ | ⟨_, r2⟩
      · rfl
      · exact absurd r2 (hn k)
    · rcases key k q h2 with ⟨rfl, rfl⟩ | ⟨_, r2⟩
      · exact absurd r1 (hn j)
      · exact I.dist j k q r1 r2
  · rcases get_set h with ⟨_, q⟩ | ⟨ne, q⟩
    · cases q
    · rw [List.getElem?_set_ne (Ne.symm ne)] at h'
      exact I.brv j d' v' q h'
/-- a name goes -/
theorem I2.unbind {i : Nat} (I : I2 c z σ H F e) : I2 c z (σ.set i none) H F (e.set i none) := by
  have key : ∀ (j : Nat) (b : B), (e.set i none)[j]? = some (some b) → j ≠ i ∧ e[j]? = some (some b) := fun j b h => by
    rcases get_set h with ⟨_, q⟩ | ⟨ne, q⟩
    · cases q
    · exact ⟨ne, q⟩
  refine ⟨by rw [List.length_set, List.length_set]; exact I.len, I.f0, I.fh, I.keep, fun j b h => ?_, fun j k p ⟨b, h1, h2, h3⟩ ⟨b', h1', h2', h3'⟩ => ?_, I.bo, I.nf, fun j d' v' h h' => ?_⟩
  · obtain ⟨ne, q⟩ := key j b h
    obtain ⟨w, h1, h2⟩ := I.slot j b q
    exact ⟨w, by rw [List.getElem?_set_ne (Ne.symm ne)]; exact h1, h2⟩
  · obtain ⟨ne, q⟩ := key j b h1
    obtain ⟨ne', q'⟩ := key k b' h1'
    rw [List.getElem?_set_ne (Ne.symm ne)] at h3
    rw [List.getElem?_set_ne (Ne.symm ne')] at h3'
    exact I.dist j k p ⟨b, q, h2, h3⟩ ⟨b', q', h2', h3'⟩
  · obtain ⟨ne, q⟩ := key j _ h
    rw [List.getElem?_set_ne (Ne.symm ne)] at h'
    exact I.brv j d' v' q h'

/-! ### what is handed on -/
/-- read: shared, or of a name -/
def View (c : Ct) (F H : Hp) (d : D) (v : V) : Prop := Rp c F d v ∨ ∃ p, v = .ref p ∧ Own c F H d p
def T.seal : T → T
  | .nw d => .vl d
  | t => t
def lookT (t : T) (e : DEnv) : Option D := match t with
  | .sl i => match e[i]? with
    | some (some (.ex _)) => none
    | some (some b) => some b.d
    | _ => none
  | .vl d => some d
  | .nw d => some d
def escape (t : T) (e : DEnv) : Option (D × DEnv) := match t with
  | .sl i => match e[i]? with
    | some (some (.sh d)) => some (d, e)
    | some (some (.ow d)) => some (d, e.set i (some (.sh d)))
    | _ => none
  | .vl d => some (d, e)
  | .nw d => some (d, e)
theorem TR.seal {t : T} {v : V} (I : I2 c z σ H F e) (h : TR c z F H σ e t v) : ∃ G, Ex F G ∧ I2 c z σ H G e ∧ TR c z G H σ e t.seal v := by
  cases t with
  | sl i => exact ⟨F, Ex.refl F, I, h⟩
  | vl d => exact ⟨F, Ex.refl F, I, h⟩
  | nw d =>
    obtain ⟨p, rfl, w, h0, hn⟩ := h
    exact I.sealNew w h0 hn
theorem TR.keep {t : T} {v : V} {e' : DEnv} (h : TR c z F H σ e t.seal v) (x : Ex F G) : TR c z G H' σ e' t.seal v := by
  cases t with
  | sl i => exact h
  | vl d => exact Rp.mono x d v h
  | nw d => exact Rp.mono x d v h
theorem TR.view {t : T} {v : V} {d : D} (I : I2 c z σ H F e) (h : TR c z F H σ e t v) (l : lookT t e = some d) : View c F H d v := by
  cases t with
  | sl i =>
    unfold lookT at l
    dsimp only at l
    split at l
    · cases l
    · rename_i b hne hb
      obtain ⟨w, hw, r⟩ := I.slot i b hb
      have h' : σ[i]? = some (some v) := h
      rw [h'] at hw; cases hw; cases l
      cases b with
      | sh d => exact .inl r
      | ow d => obtain ⟨p, rfl, o, _⟩ := r; exact .inr ⟨p, rfl, o⟩
      | br d => obtain ⟨p, rfl, o, _⟩ := r; exact .inr ⟨p, rfl, o⟩
      | ex y => exact (hne y rfl).elim
    · cases l
  | vl d => cases l; exact .inl h
  | nw d => cases l; obtain ⟨p, rfl, w, _⟩ := h; exact .inr ⟨p, rfl, w⟩
theorem TR.escape {t : T} {v : V} {d : D} {e' : DEnv} (I : I2 c z σ H F e) (h : TR c z F H σ e t v) (l : escape t e = some (d, e')) : ∃ G, Ex F G ∧ I2 c z σ H G e' ∧ Rp c G d v := by
  cases t with
  | sl i =>
    have h' : σ[i]? = some (some v) := h
    unfold DL.escape at l
    dsimp only at l
    split at l
    · rename_i d' hb
      obtain ⟨w, hw, r⟩ := I.slot i _ hb
      rw [h'] at hw; cases hw; cases l
      exact ⟨F, Ex.refl F, I, r⟩
    · rename_i d' hb
      obtain ⟨G, w, x, J, hw, r⟩ := I.freeze hb
      rw [h'] at hw; cases hw; cases l
      exact ⟨G, x, J, r⟩
    · cases l
  | vl d' => cases l; exact ⟨F, Ex.refl F, I, h⟩
  | nw d' =>
    cases l
    obtain ⟨p, rfl, w, h0, hn⟩ := h
    exact I.sealNew w h0 hn
end
end DL

/-! DL, part c: judgements of expressions (DE), tests (DT), arguments (DA) by what they do on data; operators. -/
namespace DL
open PySem L2 Evl

abbrev FE := DEnv → Res (T × DEnv)
abbrev FT := DEnv → Res (Bool × DEnv)
abbrev FA := DEnv → Res (List T × DEnv)
/-- what is wished of an exception -/
def Xp (c : Ct) (z : Zs) (W : WX) (σ : L2.St) (F : Hp) (x : XV) (e' : DEnv) : Prop := ∀ cls dd H' F', Ex F F' → I2 c z σ H' F' e' → XR c F' x cls dd → W cls dd σ H'
theorem Xp.mono {c : Ct} {z : Zs} {W : WX} {σ : L2.St} {F G : Hp} {x : XV} {e' : DEnv} (h : Xp c z W σ F x e') (k : Ex F G) : Xp c z W σ G x e' := fun cls dd H' F' k' I r => h cls dd H' F' (k.trans k') I r
def SndE (c : Ct) (W : WX) (te : TE) (f : FE) : Prop := ∀ (z : Zs) σ H F e (Q : VK), I2 c z σ H F e →
  Wp (f e) (fun r => ∀ v H' F', Ex F F' → I2 c z σ H' F' r.2 → TR c z F' H' σ r.2 r.1 v → Q v H') (Xp c z W σ F) → te σ H Q
def SndT (c : Ct) (W : WX) (tt : TT) (f : FT) : Prop := ∀ (z : Zs) σ H F e (Q : Bool → Hp → Prop), I2 c z σ H F e →
  Wp (f e) (fun r => ∀ H' F', Ex F F' → I2 c z σ H' F' r.2 → Q r.1 H') (Xp c z W σ F) → tt σ H Q
/-- tokens of arguments, all sealed -/
def TRs (c : Ct) (z : Zs) (F H : Hp) (σ : L2.St) (e : DEnv) : List T → List V → Prop
  | [], vs => vs = []
  | t :: ts, vs => ∃ v r, vs = v :: r ∧ t.seal = t ∧ TR c z F H σ e t v ∧ TRs c z F H σ e ts r
def SndA (c : Ct) (W : WX) (ta : TA) (f : FA) : Prop := ∀ (z : Zs) σ H F e (Q : List V → Hp → Prop), I2 c z σ H F e →
  Wp (f e) (fun r => ∀ vs H' F', Ex F F' → I2 c z σ H' F' r.2 → TRs c z F' H' σ r.2 r.1 vs → Q vs H') (Xp c z W σ F) → ta σ H Q

structure DE (X : Cx) (c : Ct) (W : WX) (ex : Expr) (te : TE) (f : FE) : Prop where
  pe : PE X ex te
  sn : SndE c W te f
structure DT (X : Cx) (c : Ct) (W : WX) (ex : Expr) (tt : TT) (f : FT) : Prop where
  pt : PT X ex tt
  sn : SndT c W tt f
structure DA (X : Cx) (c : Ct) (W : WX) (es : List Expr) (ta : TA) (f : FA) : Prop where
  pa : PA X es ta
  sn : SndA c W ta f

theorem T.seal_seal (t : T) : t.seal.seal = t.seal := by cases t <;> rfl
section
variable {X : Cx} {c : Ct} {z : Zs} {W : WX} {σ : L2.St} {H H' F G : Hp} {e : DEnv} {a b : Expr} {ta tb : TE} {fa fb : FE} {es : List Expr} {tr : TA} {fr : FA} {pos : Pos}
theorem TRs.keep {e' : DEnv} (x : Ex F G) : ∀ {ts : List T} {vs : List V}, TRs c z F H σ e ts vs → TRs c z G H' σ e' ts vs
  | [], _, h => h
  | t :: ts, _, ⟨v, r, h1, h2, h3, h4⟩ => ⟨v, r, h1, h2, by rw [← h2] at h3 ⊢; exact h3.keep x, TRs.keep x h4⟩
theorem TRs.len : ∀ {ts : List T} {vs : List V}, TRs c z F H σ e ts vs → ts.length = vs.length
  | [], _, h => by cases h; rfl
  | t :: ts, _, ⟨v, r, h1, h2, h3, h4⟩ => by subst h1; simp [TRs.len h4]

/-! ### names, constants -/
def fVar (i : Nat) : FE := fun e => match e[i]? with
  | some (some _) => .ok (.sl i, e)
  | _ => .stuck
theorem sn_var (i : Nat) : SndE c W (tVar i) (fVar i) := fun z σ H F e Q I h => by
  unfold fVar at h
  split at h
  · rename_i b hb
    obtain ⟨v, hv, r⟩ := I.slot i b hb
    exact ⟨v, hv, h v H F (Ex.refl F) I hv⟩
  · exact h.elim
def fC (d : D) : FE := fun e => .ok (.vl d, e)
theorem sn_c {d : D} {v : V} (h : ∀ F, Rp c F d v) : SndE c W (tC v) (fC d) := fun z σ H F e Q I k => k v H F (Ex.refl F) I (h F)
theorem de_var (i : Nat) {x : Str} (h : PE X (.Name x pos) (tVar i)) : DE X c W (.Name x pos) (tVar i) (fVar i) := ⟨h, sn_var i⟩
theorem de_int {n j} : DE X c W (.Constant (.int n) j pos) (tC (.int n)) (fC (.int n)) := ⟨pe_int, sn_c fun _ => rfl⟩
theorem de_bl {n j} : DE X c W (.Constant (.bool n) j pos) (tC (.bl n)) (fC (.bl n)) := ⟨pe_bl, sn_c fun _ => rfl⟩
theorem de_non {j} : DE X c W (.Constant .none j pos) (tC .non) (fC .non) := ⟨pe_non, sn_c fun _ => rfl⟩
theorem de_str {n j} : DE X c W (.Constant (.str n) j pos) (tC (.str n)) (fC (.str n)) := ⟨pe_str, sn_c fun _ => rfl⟩

/-! ### arguments -/
def fA0 : FA := fun e => .ok ([], e)
def fA1 (fa : FE) (fr : FA) : FA := fun e => (fa e).bind fun r => (fr r.2).bind fun q => .ok (r.1.seal :: q.1, q.2)
theorem da_nil : DA X c W [] tNil fA0 := ⟨pa_nil, fun z σ H F e Q I h => h [] H F (Ex.refl F) I rfl⟩
theorem da_cons (ha : DE X c W a ta fa) (hr : DA X c W es tr fr) (hs : starEach (a :: es) X.env = (false, eval a X.env) :: starEach es X.env := by rfl) : DA X c W (a :: es) (tCons ta tr) (fA1 fa fr) := by
  refine ⟨pa_cons ha.pe hr.pa hs, fun z σ H F e Q I h => ?_⟩
  unfold fA1 at h
  rw [Wp.bind] at h
  refine ha.sn z σ H F e _ I (h.mono (fun r _ h v H1 F1 x1 I1 t1 => ?_) fun _ _ h => h)
  obtain ⟨F2, x2, I2, t2⟩ := t1.seal I1
  rw [Wp.bind] at h
  refine hr.sn z σ H1 F2 _ _ I2 (h.mono (fun q _ h vs H3 F3 x3 I3 t3 => ?_) fun _ _ h => h.mono (x1.trans x2))
  exact h (v :: vs) H3 F3 ((x1.trans x2).trans x3) I3 ⟨v, vs, rfl, T.seal_seal _, t2.keep x3, t3⟩

/-! ### results of operations -/
inductive RV where
  | fl (d : D) | nl (ds : List D) | nt (ds : List D)
def RV.tok : RV → T
  | .fl d => .vl d | .nl ds => .nw (.lst ds) | .nt ds => .vl (.tup ds)
def RV.Post (c : Ct) (F H : Hp) (Q : VK) : RV → Prop
  | .fl d => ∀ v, Rp c F d v → Q v H
  | .nl ds => ∀ p vs, RpL c F ds vs → H p = none → Q (.ref p) (upd H p (.lst vs))
  | .nt ds => ∀ p vs, RpL c F ds vs → H p = none → Q (.ref p) (upd H p (.tup vs))
theorem RV.post_of {rv : RV} {Q : VK} (I : I2 c z σ H F e) (k : ∀ v H' F', Ex F F' → I2 c z σ H' F' e → TR c z F' H' σ e rv.tok v → Q v H') : rv.Post c F H Q := by
  cases rv with
  | fl d => exact fun v r => k v H F (Ex.refl F) I r
  | nl ds =>
    intro p vs r hp
    exact k _ _ F (Ex.refl F) (I.alloc (Ex.new hp)) ⟨p, rfl, ⟨fresh_back I.fh hp, vs, upd_same, r⟩, I.fresh0 hp, I.noroot hp⟩
  | nt ds =>
    intro p vs r hp
    have x := Ex.new (o := HO.tup vs) (fresh_back I.fh hp)
    exact k _ _ _ x (I.allocT hp) ⟨p, vs, rfl, st_of upd_same, RpL.mono x ds vs r⟩

/-! ### operators -/
def R2Ok (c : Ct) (r : R2) (op : D → D → Option RV) : Prop := ∀ F H d1 d2 v1 v2 rv (Q : VK), Ex F H → View c F H d1 v1 → View c F H d2 v2 → op d1 d2 = some rv → rv.Post c F H Q → r v1 v2 H Q
def R1Ok (c : Ct) (r : V → Hp → VK → Prop) (op : D → Option RV) : Prop := ∀ F H d1 v1 rv (Q : VK), Ex F H → View c F H d1 v1 → op d1 = some rv → rv.Post c F H Q → r v1 H Q
def fOp2 (op : D → D → Option RV) (fa fb : FE) : FE := fun e => (fa e).bind fun r => (fb r.2).bind fun q => Res.of ((lookT r.1.seal q.2).bind fun d1 => (lookT q.1 q.2).bind fun d2 => (op d1 d2).bind fun rv => some (rv.tok, q.2))
def fOp1 (op : D → Option RV) (fa : FE) : FE := fun e => (fa e).bind fun r => Res.of ((lookT r.1 r.2).bind fun d1 => (op d1).bind fun rv => some (rv.tok, r.2))
theorem obind {α β : Type} {o : Option α} {f : α → Option β} {b : β} (h : o.bind f = some b) : ∃ a, o = some a ∧ f a = some b := by
  cases o with
  | none => cases h
  | some a => exact ⟨a, rfl, h⟩
theorem sn_op2 {r : R2} {op : D → D → Option RV} (ho : R2Ok c r op) (ha : SndE c W ta fa) (hb : SndE c W tb fb) : SndE c W (tOp r ta tb) (fOp2 op fa fb) := fun z σ H F e Q I h => by
  unfold fOp2 at h
  rw [Wp.bind] at h
  refine ha z σ H F e _ I (h.mono (fun r _ h v H1 F1 x1 I1 t1 => ?_) fun _ _ h => h)
  obtain ⟨F2, x2, I2, t2⟩ := t1.seal I1
  rw [Wp.bind] at h
  refine hb z σ H1 F2 _ _ I2 (h.mono (fun q _ h w H3 F3 x3 I3 t3 => ?_) fun _ _ h => h.mono (x1.trans x2))
  obtain ⟨a, ea, h⟩ := Wp.of h
  obtain ⟨d1, l1, ea⟩ := obind ea
  obtain ⟨d2, l2, ea⟩ := obind ea
  obtain ⟨rv, l3, ea⟩ := obind ea
  cases ea
  refine ho F3 H3 d1 d2 v w rv Q I3.fh ((t2.keep (H' := H3) x3).view I3 l1) (t3.view I3 l2) l3 (RV.post_of I3 fun v' H' F' x' I' t' => ?_)
  exact h v' H' F' (((x1.trans x2).trans x3).trans x') I' t'
theorem sn_op1 {r : V → Hp → VK → Prop} {op : D → Option RV} (ho : R1Ok c r op) (ha : SndE c W ta fa) : SndE c W (tUn r ta) (fOp1 op fa) := fun z σ H F e Q I h => by
  unfold fOp1 at h
  rw [Wp.bind] at h
  refine ha z σ H F e _ I (h.mono (fun r _ h v H1 F1 x1 I1 t1 => ?_) fun _ _ h => h)
  obtain ⟨a, ea, h⟩ := Wp.of h
  obtain ⟨d1, l1, ea⟩ := obind ea
  obtain ⟨rv, l3, ea⟩ := obind ea
  cases ea
  exact ho F1 H1 d1 v rv Q I1.fh (t1.view I1 l1) l3 (RV.post_of I1 fun v' H' F' x' I' t' => h v' H' F' (x1.trans x') I' t')
theorem de_op {o : Operator} {r : R2} {op : D → D → Option RV} (hp : OpR X (binaryOp o) r) (ho : R2Ok c r op) (ha : DE X c W a ta fa) (hb : DE X c W b tb fb) : DE X c W (.BinOp a o b pos) (tOp r ta tb) (fOp2 op fa fb) :=
  ⟨pe_op hp ha.pe hb.pe, sn_op2 ho ha.sn hb.sn⟩
theorem de_un {o : UnaryOp} {r : V → Hp → VK → Prop} {op : D → Option RV} (hp : UnR X (unaryOp o) r) (ho : R1Ok c r op) (ha : DE X c W a ta fa) : DE X c W (.UnaryOp o a pos) (tUn r ta) (fOp1 op fa) :=
  ⟨pe_un hp ha.pe, sn_op1 ho ha.sn⟩
theorem de_cmp {o : CmpOp} {r : R2} {op : D → D → Option RV} (hp : OpR X (compareOp o) r) (ho : R2Ok c r op) (ha : DE X c W a ta fa) (hb : DE X c W b tb fb) (hm : behindInMarks o b = false) : DE X c W (.Compare a [o] [b] pos) (tOp r ta tb) (fOp2 op fa fb) :=
  ⟨pe_cmpR hp ha.pe hb.pe hm, sn_op2 ho ha.sn hb.sn⟩
/-- an item -/
theorem de_ix {r : R2} {op : D → D → Option RV} (hp : IxR X r) (ho : R2Ok c r op) (ha : DE X c W a ta fa) (hb : DE X c W b tb fb) (hs : PlainIx b) : DE X c W (.Subscript a b pos) (tOp r ta tb) (fOp2 op fa fb) :=
  ⟨pe_ix hp ha.pe hb.pe hs, sn_op2 ho ha.sn hb.sn⟩

/-! ### calls of what is built in -/
def lookTs : List T → DEnv → Option (List D)
  | [], _ => some []
  | t :: ts, e => (lookT t e).bind fun d => (lookTs ts e).bind fun ds => some (d :: ds)
def Views (c : Ct) (F H : Hp) : List D → List V → Prop
  | [], vs => vs = []
  | d :: ds, vs => ∃ v r, vs = v :: r ∧ View c F H d v ∧ Views c F H ds r
theorem TRs.views (I : I2 c z σ H F e) : ∀ {ts : List T} {vs : List V} {ds : List D}, TRs c z F H σ e ts vs → lookTs ts e = some ds → Views c F H ds vs
  | [], _, _, h, l => by cases l; exact h
  | t :: ts, _, _, ⟨v, r, h1, h2, h3, h4⟩, l => by
    obtain ⟨d, l1, l⟩ := obind l
    obtain ⟨ds, l2, l⟩ := obind l
    cases l
    exact ⟨v, r, h1, h3.view I l1, TRs.views I h4 l2⟩
def RlOk (c : Ct) (r : List V → Hp → VK → Prop) (op : List D → Option RV) : Prop := ∀ F H ds vs rv (Q : VK), Ex F H → Views c F H ds vs → op ds = some rv → rv.Post c F H Q → r vs H Q
def fCB (op : List D → Option RV) (fr : FA) : FE := fun e => (fr e).bind fun r => Res.of ((lookTs r.1 r.2).bind fun ds => (op ds).bind fun rv => some (rv.tok, r.2))
theorem sn_cb {r : List V → Hp → VK → Prop} {op : List D → Option RV} (ho : RlOk c r op) (ha : SndA c W tr fr) : SndE c W (tCB r tr) (fCB op fr) := fun z σ H F e Q I h => by
  unfold fCB at h
  rw [Wp.bind] at h
  refine ha z σ H F e _ I (h.mono (fun r _ h v H1 F1 x1 I1 t1 => ?_) fun _ _ h => h)
  obtain ⟨a, ea, h⟩ := Wp.of h
  obtain ⟨d1, l1, ea⟩ := obind ea
  obtain ⟨rv, l3, ea⟩ := obind ea
  cases ea
  exact ho F1 H1 d1 v rv Q I1.fh (t1.views I1 l1) l3 (RV.post_of I1 fun v' H' F' x' I' t' => h v' H' F' (x1.trans x') I' t')
theorem de_callB {r : List V → Hp → VK → Prop} {op : List D → Option RV} {x : Str} {id : String} {p : Pos} (hc : CallR X (.builtin id) r) (ho : RlOk c r op) (hg : Gl X x) (hm : X.mg x = none) (hv : bootBuiltins x = some (.builtin id)) (ha : DA X c W (a :: es) tr fr)
    (hn : x ≠ "__name__" := by decide) (hdb : (x == ("__debug__" : Str)) = false := by decide) (he : starEach (a :: es) X.env = (false, eval a X.env) :: starEach es X.env := by rfl) (hpl : (backTo pos (starEach es X.env)).any (·.1) = false := by rfl) :
    DE X c W (.Call (.Name x p) (a :: es) [] pos) (tCB r tr) (fCB op fr) := ⟨pe_callB hc hg hm hv ha.pa hn hdb he hpl, sn_cb ho ha.sn⟩
theorem de_callTy {r : List V → Hp → VK → Prop} {op : List D → Option RV} {x : Str} {id : String} {p : Pos} (hc : CallR X (.type id) r) (ho : RlOk c r op) (hg : Gl X x) (hm : X.mg x = none) (hv : bootBuiltins x = some (.type id)) (ha : DA X c W (a :: es) tr fr)
    (hn : x ≠ "__name__" := by decide) (hdb : (x == ("__debug__" : Str)) = false := by decide) (he : starEach (a :: es) X.env = (false, eval a X.env) :: starEach es X.env := by rfl) (hpl : (backTo pos (starEach es X.env)).any (·.1) = false := by rfl) :
    DE X c W (.Call (.Name x p) (a :: es) [] pos) (tCB r tr) (fCB op fr) := ⟨pe_callTy hc hg hm hv ha.pa hn hdb he hpl, sn_cb ho ha.sn⟩

/-! ### tests -/
def fB (f : FE) : FT := fun e => (f e).bind fun r => match lookT r.1 r.2 with
  | some (.bl b) => .ok (b, r.2)
  | _ => .stuck
theorem View.bl {b : Bool} {v : V} (h : View c F H (.bl b) v) : v = .bl b := by
  rcases h with h | ⟨p, _, h⟩
  · exact h
  · exact h.2.elim
theorem View.int {n : Int} {v : V} (h : View c F H (.int n) v) : v = .int n := by
  rcases h with h | ⟨p, _, h⟩
  · exact h
  · exact h.2.elim
theorem View.str {n : Str} {v : V} (h : View c F H (.str n) v) : v = .str n := by
  rcases h with h | ⟨p, _, h⟩
  · exact h
  · exact h.2.elim
theorem View.non {v : V} (h : View c F H .non v) : v = .non := by
  rcases h with h | ⟨p, _, h⟩
  · exact h
  · exact h.2.elim
theorem View.lst {ds : List D} {v : V} (x : Ex F H) (h : View c F H (.lst ds) v) : ∃ p vs, v = .ref p ∧ H p = some (.lst vs) ∧ RpL c F ds vs := by
  rcases h with ⟨p, vs, h1, h2, h3⟩ | ⟨p, h1, _, vs, h2, h3⟩
  · exact ⟨p, vs, h1, x _ _ h2, h3⟩
  · exact ⟨p, vs, h1, h2, h3⟩
theorem View.rol {ds : List D} {v : V} (x : Ex F H) (h : View c F H (.rol ds) v) : ∃ p vs, v = .ref p ∧ SqL c.K H p vs ∧ RpL c F ds vs := by
  rcases h with ⟨p, vs, h1, h2, h3⟩ | ⟨p, h1, h⟩
  · exact ⟨p, vs, h1, ex_l x h2, h3⟩
  · exact h.2.elim
theorem View.tup {ds : List D} {v : V} (x : Ex F H) (h : View c F H (.tup ds) v) : ∃ p vs, v = .ref p ∧ SqT c.K H p vs ∧ RpL c F ds vs := by
  rcases h with ⟨p, vs, h1, h2, h3⟩ | ⟨p, h1, h⟩
  · exact ⟨p, vs, h1, ex_t x h2, h3⟩
  · exact h.2.elim
theorem View.ins {k : Nat} {ds : List D} {v : V} (x : Ex F H) (h : View c F H (.ins k ds) v) : ∃ p dx vs, v = .ref p ∧ H p = some (.ins (c.cl k) dx ((c.fn k).zip vs)) ∧ RpL c F ds vs := by
  rcases h with ⟨p, dx, vs, h1, h2, h3⟩ | ⟨p, h1, _, dx, vs, h2, h3⟩
  · exact ⟨p, dx, vs, h1, x _ _ h2, h3⟩
  · exact ⟨p, dx, vs, h1, h2, h3⟩
theorem sn_B {t : TT} (h : ∀ σ H Q, (ta σ H fun x H1 => ∃ k, x = .bl k ∧ Q k H1) → t σ H Q) (ha : SndE c W ta fa) : SndT c W t (fB fa) := fun z σ H F e Q I k => by
  unfold fB at k
  rw [Wp.bind] at k
  refine h σ H Q (ha z σ H F e _ I (k.mono (fun r _ h v H1 F1 x1 I1 t1 => ?_) fun _ _ h => h))
  cases hl : lookT r.1 r.2 with
  | none => rw [hl] at h; exact h.elim
  | some d =>
    rw [hl] at h
    cases d <;> first | exact h.elim | skip
    rename_i b
    exact ⟨b, (t1.view I1 hl).bl, h H1 F1 x1 I1⟩
theorem dt_val (ha : DE X c W a ta fa) (he : ∀ whole, isTrue a X.env whole = (do let v ← whole; standAt a.pos; holding [v] (truthy v)) := by intro _; rfl) : DT X c W a (tB ta) (fB fa) := ⟨pt_val ha.pe he, sn_B (fun _ _ _ h => h) ha.sn⟩
theorem dt_cmp {o : CmpOp} {r : R2} {op : D → D → Option RV} (hp : OpR X (compareOp o) r) (ho : R2Ok c r op) (ha : DE X c W a ta fa) (hb : DE X c W b tb fb) (hm : behindInMarks o b = false) : DT X c W (.Compare a [o] [b] pos) (tTest (tOp r ta tb)) (fB (fOp2 op fa fb)) :=
  ⟨pt_cmpR hp ha.pe hb.pe hm, sn_B (fun _ _ _ h => h) (sn_op2 ho ha.sn hb.sn)⟩
variable {tA tB' : TT} {fA fB' : FT} {rest : List Expr}
def fNot (f : FT) : FT := fun e => (f e).bind fun r => .ok (!r.1, r.2)
def fAnd (f g : FT) : FT := fun e => (f e).bind fun r => if r.1 = true then g r.2 else .ok (false, r.2)
def fOr (f g : FT) : FT := fun e => (f e).bind fun r => if r.1 = true then .ok (true, r.2) else g r.2
theorem sn_not (ha : SndT c W tA fA) : SndT c W (tNot tA) (fNot fA) := fun z σ H F e Q I h => by
  unfold fNot at h
  rw [Wp.bind] at h
  exact ha z σ H F e _ I (h.mono (fun r _ h => h) fun _ _ h => h)
theorem sn_and (ha : SndT c W tA fA) (hb : SndT c W tB' fB') : SndT c W (tAnd tA tB') (fAnd fA fB') := fun z σ H F e Q I h => by
  unfold fAnd at h
  rw [Wp.bind] at h
  refine ha z σ H F e _ I (h.mono (fun r _ h H1 F1 x1 I1 => ?_) fun _ _ h => h)
  obtain ⟨b, e1⟩ := r
  cases b with
  | true =>
    rw [if_pos rfl] at h
    show tB' σ H1 Q
    exact hb z σ H1 F1 e1 Q I1 (h.mono (fun q _ h H2 F2 x2 I2 => h H2 F2 (x1.trans x2) I2) fun _ _ h => h.mono x1)
  | false =>
    rw [if_neg Bool.false_ne_true] at h
    exact h H1 F1 x1 I1
theorem sn_or (ha : SndT c W tA fA) (hb : SndT c W tB' fB') : SndT c W (tOr tA tB') (fOr fA fB') := fun z σ H F e Q I h => by
  unfold fOr at h
  rw [Wp.bind] at h
  refine ha z σ H F e _ I (h.mono (fun r _ h H1 F1 x1 I1 => ?_) fun _ _ h => h)
  obtain ⟨b, e1⟩ := r
  cases b with
  | false =>
    rw [if_neg Bool.false_ne_true] at h
    show tB' σ H1 Q
    exact hb z σ H1 F1 e1 Q I1 (h.mono (fun q _ h H2 F2 x2 I2 => h H2 F2 (x1.trans x2) I2) fun _ _ h => h.mono x1)
  | true =>
    rw [if_pos rfl] at h
    exact h H1 F1 x1 I1
/-- and, or: a test whatever its whole is -/
structure DW (X : Cx) (c : Ct) (W : WX) (ex : Expr) (tt : TT) (f : FT) : Prop where
  pw : PW X ex tt
  sn : SndT c W tt f
theorem DW.dt {ex : Expr} (h : DW X c W ex tA fA) : DT X c W ex tA fA := ⟨h.pw.pt, h.sn⟩
theorem dt_not (ha : DT X c W a tA fA) : DT X c W (.UnaryOp .Not a pos) (tNot tA) (fNot fA) := ⟨pt_not ha.pt, sn_not ha.sn⟩
theorem dw_and1 (ha : DT X c W a tA fA) : DW X c W (.BoolOp .And [a] pos) tA fA := ⟨pw_and1 ha.pt, ha.sn⟩
theorem dw_or1 (ha : DT X c W a tA fA) : DW X c W (.BoolOp .Or [a] pos) tA fA := ⟨pw_or1 ha.pt, ha.sn⟩
theorem dw_and (ha : DT X c W a tA fA) (hb : DW X c W (.BoolOp .And (b :: rest) pos) tB' fB') : DW X c W (.BoolOp .And (a :: b :: rest) pos) (tAnd tA tB') (fAnd fA fB') := ⟨pw_and ha.pt hb.pw, sn_and ha.sn hb.sn⟩
theorem dw_or (ha : DT X c W a tA fA) (hb : DW X c W (.BoolOp .Or (b :: rest) pos) tB' fB') : DW X c W (.BoolOp .Or (a :: b :: rest) pos) (tOr tA tB') (fOr fA fB') := ⟨pw_or ha.pt hb.pw, sn_or ha.sn hb.sn⟩
/-! as values -/
def fNotV (f : FE) : FE := fun e => (fB f e).bind fun r => .ok (.vl (.bl (!r.1)), r.2)
def fAndV (f g : FE) : FE := fun e => (fB f e).bind fun r => if r.1 = true then g r.2 else .ok (.vl (.bl false), r.2)
def fOrV (f g : FE) : FE := fun e => (fB f e).bind fun r => if r.1 = true then .ok (.vl (.bl true), r.2) else g r.2
theorem sn_notV (ha : SndE c W ta fa) : SndE c W (tNotV ta) (fNotV fa) := fun z σ H F e Q I h => by
  unfold fNotV at h
  rw [Wp.bind] at h
  exact sn_B (t := fun σ H Q => ta σ H fun x H1 => ∃ k, x = .bl k ∧ Q k H1) (fun _ _ _ h => h) ha z σ H F e (fun k H1 => Q (.bl (!k)) H1) I (h.mono (fun r _ h H1 F1 x1 I1 => h _ H1 F1 x1 I1 rfl) fun _ _ h => h)
theorem sn_andV (ha : SndE c W ta fa) (hb : SndE c W tb fb) : SndE c W (tAndV ta tb) (fAndV fa fb) := fun z σ H F e Q I h => by
  unfold fAndV at h
  rw [Wp.bind] at h
  refine sn_B (t := fun σ H Q => ta σ H fun x H1 => ∃ k, x = .bl k ∧ Q k H1) (fun _ _ _ h => h) ha z σ H F e (fun k H1 => if k = true then tb σ H1 Q else Q (.bl false) H1) I (h.mono (fun r _ h H1 F1 x1 I1 => ?_) fun _ _ h => h)
  obtain ⟨b, e1⟩ := r
  cases b with
  | true =>
    rw [if_pos rfl] at h ⊢
    exact hb z σ H1 F1 e1 Q I1 (h.mono (fun q _ h v H2 F2 x2 I2 t2 => h v H2 F2 (x1.trans x2) I2 t2) fun _ _ h => h.mono x1)
  | false =>
    rw [if_neg Bool.false_ne_true] at h ⊢
    exact h _ H1 F1 x1 I1 rfl
theorem sn_orV (ha : SndE c W ta fa) (hb : SndE c W tb fb) : SndE c W (tOrV ta tb) (fOrV fa fb) := fun z σ H F e Q I h => by
  unfold fOrV at h
  rw [Wp.bind] at h
  refine sn_B (t := fun σ H Q => ta σ H fun x H1 => ∃ k, x = .bl k ∧ Q k H1) (fun _ _ _ h => h) ha z σ H F e (fun k H1 => if k = true then Q (.bl true) H1 else tb σ H1 Q) I (h.mono (fun r _ h H1 F1 x1 I1 => ?_) fun _ _ h => h)
  obtain ⟨b, e1⟩ := r
  cases b with
  | false =>
    rw [if_neg Bool.false_ne_true] at h ⊢
    exact hb z σ H1 F1 e1 Q I1 (h.mono (fun q _ h v H2 F2 x2 I2 t2 => h v H2 F2 (x1.trans x2) I2 t2) fun _ _ h => h.mono x1)
  | true =>
    rw [if_pos rfl] at h ⊢
    exact h _ H1 F1 x1 I1 rfl
theorem de_notV (ha : DE X c W a ta fa) : DE X c W (.UnaryOp .Not a pos) (tNotV ta) (fNotV fa) := ⟨pe_not ha.pe, sn_notV ha.sn⟩
theorem de_and1 {o} (ha : DE X c W a ta fa) : DE X c W (.BoolOp o [a] pos) ta fa := ⟨pe_one ha.pe, ha.sn⟩
theorem de_and (ha : DE X c W a ta fa) (hb : DE X c W (.BoolOp .And (b :: rest) pos) tb fb) : DE X c W (.BoolOp .And (a :: b :: rest) pos) (tAndV ta tb) (fAndV fa fb) := ⟨pe_and ha.pe hb.pe, sn_andV ha.sn hb.sn⟩
theorem de_or (ha : DE X c W a ta fa) (hb : DE X c W (.BoolOp .Or (b :: rest) pos) tb fb) : DE X c W (.BoolOp .Or (a :: b :: rest) pos) (tOrV ta tb) (fOrV fa fb) := ⟨pe_or ha.pe hb.pe, sn_orV ha.sn hb.sn⟩
def fIf (t : FT) (f g : FE) : FE := fun e => (t e).bind fun r => if r.1 = true then f r.2 else g r.2
theorem sn_if (hc : SndT c W tA fA) (ha : SndE c W ta fa) (hb : SndE c W tb fb) : SndE c W (tIf tA ta tb) (fIf fA fa fb) := fun z σ H F e Q I h => by
  unfold fIf at h
  rw [Wp.bind] at h
  refine hc z σ H F e _ I (h.mono (fun r _ h H1 F1 x1 I1 => ?_) fun _ _ h => h)
  obtain ⟨b, e1⟩ := r
  cases b with
  | true =>
    rw [if_pos rfl] at h ⊢
    exact ha z σ H1 F1 e1 Q I1 (h.mono (fun q _ h v H2 F2 x2 I2 t2 => h v H2 F2 (x1.trans x2) I2 t2) fun _ _ h => h.mono x1)
  | false =>
    rw [if_neg Bool.false_ne_true] at h ⊢
    exact hb z σ H1 F1 e1 Q I1 (h.mono (fun q _ h v H2 F2 x2 I2 t2 => h v H2 F2 (x1.trans x2) I2 t2) fun _ _ h => h.mono x1)
theorem de_if {t : Expr} (hc : DT X c W t tA fA) (ha : DE X c W a ta fa) (hb : DE X c W b tb fb) : DE X c W (.IfExp t a b pos) (tIf tA ta tb) (fIf fA fa fb) := ⟨pe_ifExp hc.pt ha.pe hb.pe, sn_if hc.sn ha.sn hb.sn⟩
end
end DL

/-! DL, part d: the operators on data. -/
namespace DL
open PySem L2 Evl

def lim : Nat := 1000000
theorem lim_ok {n : Nat} (h : n ≤ lim) : n ≤ sizeLine := Nat.le_trans h (by decide)
theorem lim_lt {n : Nat} (h : n < lim) : n < sizeLine := Nat.lt_of_lt_of_le h (by decide)

/-! ### two ints -/
def opI (C : Int → Int → Bool) (g : Int → Int → D) (a b : D) : Option RV := match a, b with
  | .int i, .int j => if C i j then some (.fl (g i j)) else none
  | _, _ => none
section
variable {c : Ct}
theorem ok_rI {C : Int → Int → Prop} {B : Int → Int → Bool} {g : Int → Int → V} {G : Int → Int → D} (h : ∀ i j, B i j = true → C i j) (hg : ∀ i j F, Rp c F (G i j) (g i j)) : R2Ok c (rI C g) (opI B G) := by
  intro F H d1 d2 v1 v2 rv Q x k1 k2 l q
  cases d1 <;> cases d2 <;> try cases l
  rename_i i j
  unfold opI at l
  dsimp only at l
  split at l
  · rename_i hb
    cases l
    exact ⟨i, j, k1.int, k2.int, h i j hb, q _ (hg i j F)⟩
  · cases l
theorem ok_rI0 {g : Int → Int → V} {G : Int → Int → D} (hg : ∀ i j F, Rp c F (G i j) (g i j)) : R2Ok c (rI0 g) (opI (fun _ _ => true) G) := by
  intro F H d1 d2 v1 v2 rv Q x k1 k2 l q
  cases d1 <;> cases d2 <;> try cases l
  rename_i i j
  exact ⟨i, j, k1.int, k2.int, q _ (hg i j F)⟩
def opSub := opI (fun _ _ => true) fun i j => .int (i - j)
def mulOk (i j : Int) : Bool := decide (i.natAbs.log2 + j.natAbs.log2 < 1000000)
def divOk (_ j : Int) : Bool := decide (j ≠ 0) && decide (j.natAbs.log2 < 9000)
def modOk (_ j : Int) : Bool := decide (j ≠ 0)
def powOk (i j : Int) : Bool := decide (0 ≤ j) && decide (j ≤ 1000000) && decide (i.natAbs < 2 ^ 64)
def shlOk (i j : Int) : Bool := decide (0 ≤ j) && decide ((Builtin.Int.intBits i : Int) + j ≤ 2 ^ 27)
def shrOk (_ j : Int) : Bool := decide (0 ≤ j)
def opDiv := opI divOk fun i j => .int (i.fdiv j)
def opMod := opI modOk fun i j => .int (i.fmod j)
def opPow := opI powOk fun i j => .int (i ^ j.toNat)
def opShl := opI shlOk fun i j => .int (i * 2 ^ j.toNat)
def opShr := opI shrOk fun i j => .int (i / 2 ^ j.toNat)
def opAnd := opI (fun _ _ => true) fun i j => .int (Builtin.bitAnd i j)
def opOr := opI (fun _ _ => true) fun i j => .int (Builtin.bitOr i j)
def opXor := opI (fun _ _ => true) fun i j => .int (Builtin.bitXor i j)
def opLt := opI (fun _ _ => true) fun i j => .bl (decide (i < j))
def opLe := opI (fun _ _ => true) fun i j => .bl (decide (i ≤ j))
def opGt := opI (fun _ _ => true) fun i j => .bl (decide (j < i))
def opGe := opI (fun _ _ => true) fun i j => .bl (decide (j ≤ i))
def CDivD (i j : Int) : Prop := j ≠ 0 ∧ j.natAbs.log2 < 9000
section
variable {X : Cx}
theorem op_fdivD : OpR X (binaryOp .FloorDiv) (rI CDivD fun i j => .int (i.fdiv j)) := L2.opI fun _ _ _ _ _ _ _ hc q => PyProof.Rows.floordiv_int hc.1 q (.inl (PyProof.noPylong_of_log2 hc.2))
end
theorem ok_sub : R2Ok c (rI0 fun i j => .int (i - j)) opSub := ok_rI0 fun _ _ _ => rfl
theorem ok_div : R2Ok c (rI CDivD fun i j => .int (i.fdiv j)) opDiv := ok_rI (fun i j h => by simp [divOk] at h; exact h) fun _ _ _ => rfl
theorem ok_mod : R2Ok c (rI (fun _ j => j ≠ 0) fun i j => .int (i.fmod j)) opMod := ok_rI (fun i j h => by simp [modOk] at h; exact h) fun _ _ _ => rfl
theorem ok_pow : R2Ok c (rI CPow fun i j => .int (i ^ j.toNat)) opPow := ok_rI (fun i j h => by simp [powOk] at h; exact ⟨h.1.1, h.1.2, h.2⟩) fun _ _ _ => rfl
theorem ok_shl : R2Ok c (rI CShl fun i j => .int (i * 2 ^ j.toNat)) opShl := ok_rI (fun i j h => by
  unfold shlOk at h
  obtain ⟨h1, h2⟩ := Bool.and_eq_true_iff.mp h
  exact ⟨of_decide_eq_true h1, of_decide_eq_true h2⟩) fun _ _ _ => rfl
theorem ok_shr : R2Ok c (rI (fun _ j => 0 ≤ j) fun i j => .int (i / 2 ^ j.toNat)) opShr := ok_rI (fun i j h => by simp [shrOk] at h; exact h) fun _ _ _ => rfl
theorem ok_and : R2Ok c (rI0 fun i j => .int (Builtin.bitAnd i j)) opAnd := ok_rI0 fun _ _ _ => rfl
theorem ok_or : R2Ok c (rI0 fun i j => .int (Builtin.bitOr i j)) opOr := ok_rI0 fun _ _ _ => rfl
theorem ok_xor : R2Ok c (rI0 fun i j => .int (Builtin.bitXor i j)) opXor := ok_rI0 fun _ _ _ => rfl
theorem ok_lt : R2Ok c (rI0 fun i j => .bl (decide (i < j))) opLt := ok_rI0 fun _ _ _ => rfl
theorem ok_le : R2Ok c (rI0 fun i j => .bl (decide (i ≤ j))) opLe := ok_rI0 fun _ _ _ => rfl
theorem ok_gt : R2Ok c (rI0 fun i j => .bl (decide (j < i))) opGt := ok_rI0 fun _ _ _ => rfl
theorem ok_ge : R2Ok c (rI0 fun i j => .bl (decide (j ≤ i))) opGe := ok_rI0 fun _ _ _ => rfl
/-- one int -/
def opU (g : Int → D) (a : D) : Option RV := match a with
  | .int i => some (.fl (g i))
  | _ => none
theorem ok_rU {g : Int → V} {G : Int → D} (hg : ∀ i F, Rp c F (G i) (g i)) : R1Ok c (rU g) (opU G) := by
  intro F H d1 v1 rv Q x k1 l q
  cases d1 <;> try cases l
  rename_i i
  exact ⟨i, k1.int, q _ (hg i F)⟩
def opNeg := opU fun i => .int (-i)
def opInv := opU fun i => .int (Builtin.bitNot i)
theorem ok_neg : R1Ok c (rU fun i => .int (-i)) opNeg := ok_rU fun _ _ => rfl
theorem ok_inv : R1Ok c (rU fun i => .int (Builtin.bitNot i)) opInv := ok_rU fun _ _ => rfl

/-! ### + and * of any kind -/
def ROr (r r' : R2) : R2 := fun x y H Q => r x y H Q ∨ r' x y H Q
def rAddS' : R2 := fun x y H Q => ∃ i j, x = .str i ∧ y = .str j ∧ i.length + j.length ≤ sizeLine ∧ Q (.str (i ++ j)) H
def opAdd (a b : D) : Option RV := match a, b with
  | .int i, .int j => some (.fl (.int (i + j)))
  | .str i, .str j => if i.length + j.length ≤ lim then some (.fl (.str (i ++ j))) else none
  | .lst i, .lst j => if i.length + j.length ≤ lim then some (.nl (i ++ j)) else none
  | _, _ => none
theorem op_addA {X : Cx} : OpR X (binaryOp .Add) (ROr (rI0 fun i j => .int (i + j)) (ROr rAddS' rCat)) := op_add.or (op_add_str.or op_cat)
theorem ok_add : R2Ok c (ROr (rI0 fun i j => .int (i + j)) (ROr rAddS' rCat)) opAdd := by
  intro F H d1 d2 v1 v2 rv Q x k1 k2 l q
  cases d1 <;> cases d2 <;> try cases l
  · rename_i i j
    exact .inl ⟨i, j, k1.int, k2.int, q _ rfl⟩
  · rename_i i j
    unfold opAdd at l
    dsimp only at l
    split at l
    · rename_i h
      cases l
      exact .inr (.inl ⟨i, j, k1.str, k2.str, lim_ok h, q _ rfl⟩)
    · cases l
  · rename_i i j
    unfold opAdd at l
    dsimp only at l
    split at l
    · rename_i h
      cases l
      obtain ⟨p1, w1, e1, h1, r1⟩ := k1.lst x
      obtain ⟨p2, w2, e2, h2, r2⟩ := k2.lst x
      refine .inr (.inr ⟨p1, p2, w1, w2, e1, e2, h1, h2, ?_, fun p hp => q p _ (r1.app r2) hp⟩)
      rw [← r1.len, ← r2.len]
      exact lim_ok h
    · cases l
def opMul (a b : D) : Option RV := match a, b with
  | .int i, .int j => if mulOk i j then some (.fl (.int (i * j))) else none
  | .lst i, .int k => if decide (0 ≤ k) && decide (k ≤ 1000000) && decide (i.length * k.toNat ≤ lim) then some (.nl (List.replicate k.toNat i).flatten) else none
  | _, _ => none
theorem RpL.rep {F : Hp} {ds : List D} {vs : List V} (h : RpL c F ds vs) : ∀ n : Nat, RpL c F (List.replicate n ds).flatten (List.replicate n vs).flatten
  | 0 => rfl
  | n + 1 => by
    rw [List.replicate_succ, List.replicate_succ, List.flatten_cons, List.flatten_cons]
    exact h.app (RpL.rep h n)
theorem op_mulA {X : Cx} : OpR X (binaryOp .Mult) (ROr (rI CMulW fun i j => .int (i * j)) rRep) := op_mulW.or op_rep
theorem ok_mul : R2Ok c (ROr (rI CMulW fun i j => .int (i * j)) rRep) opMul := by
  intro F H d1 d2 v1 v2 rv Q x k1 k2 l q
  cases d1 <;> cases d2 <;> try cases l
  · rename_i i j
    unfold opMul at l
    dsimp only at l
    split at l
    · rename_i h
      cases l
      exact .inl ⟨i, j, k1.int, k2.int, show i.natAbs.log2 + j.natAbs.log2 < 1000000 from of_decide_eq_true h, q _ rfl⟩
    · cases l
  · rename_i i j
    unfold opMul at l
    dsimp only at l
    split at l
    · rename_i h
      cases l
      obtain ⟨h, h3⟩ := Bool.and_eq_true_iff.mp h
      obtain ⟨h1, h2⟩ := Bool.and_eq_true_iff.mp h
      have h1 := of_decide_eq_true h1
      have h2 := of_decide_eq_true h2
      have h3 := of_decide_eq_true h3
      obtain ⟨p1, w1, e1, h4, r1⟩ := k1.lst x
      refine .inr ⟨p1, j, w1, e1, k2.int, h4, by omega, by omega, ?_, fun p hp => q p _ (r1.rep _) hp⟩
      rw [← r1.len]
      exact lim_ok h3
    · cases l

/-! ### equality of data -/
mutual
def toPy : D → PyData
  | .non => .none
  | .bl b => .bool b
  | .int i => .int i
  | .str s => .str s
  | .lst ds => .list (toPyL ds)
  | .rol ds => .list (toPyL ds)
  | .tup ds => .tuple (toPyL ds)
  | .ins _ _ => .dict []
  | .dct _ _ _ => .dict []
  | .exv _ _ => .dict []
def toPyL : List D → List PyData
  | [] => []
  | d :: ds => toPy d :: toPyL ds
end
def dOk (d : D) : Bool := SeqAt.shaped (toPy d)
def deq (a b : D) : Bool := PyData.eqv (toPy a) (toPy b)
mutual
theorem Rp.dp {F H : Hp} (x : Ex F H) : ∀ (d : D) (v : V), (toPy d).canLay0 = true → Rp c F d v → Dp c.K H v (toPy d)
  | .non, _, _, h => by cases h; exact .non
  | .bl _, _, _, h => by cases h; exact .bl _
  | .int _, _, _, h => by cases h; exact .int _
  | .str _, _, _, h => by cases h; exact .str _
  | .lst ds, _, k, ⟨p, vs, h1, h2, h3⟩ => by subst h1; exact .lst (sq_of (x _ _ h2)) (RpL.dp x ds vs k h3)
  | .rol ds, _, k, ⟨p, vs, h1, h2, h3⟩ => by subst h1; exact .lst (ex_l x h2) (RpL.dp x ds vs k h3)
  | .tup ds, _, k, ⟨p, vs, h1, h2, h3⟩ => by subst h1; exact .tup (ex_t x h2) (RpL.dp x ds vs k h3)
  | .ins _ ds, _, k, _ => by cases k
  | .dct _ _ _, _, k, _ => by cases k
  | .exv _ _, _, k, _ => by cases k
theorem RpL.dp {F H : Hp} (x : Ex F H) : ∀ (ds : List D) (vs : List V), PyData.canLayAll0 (toPyL ds) = true → RpL c F ds vs → DpAll c.K H vs (toPyL ds)
  | [], _, _, h => by cases h; exact .nil
  | d :: ds, _, k, ⟨v, r, h1, h2, h3⟩ => by
    subst h1
    obtain ⟨k1, k2⟩ := Bool.and_eq_true_iff.mp k
    exact .cons (Rp.dp x d v k1 h2) (RpL.dp x ds r k2 h3)
end
theorem View.dp {F H : Hp} {d : D} {v : V} (x : Ex F H) (k : (toPy d).canLay0 = true) (h : View c F H d v) : Dp c.K H v (toPy d) := by
  rcases h with h | ⟨p, rfl, h⟩
  · exact h.dp x d v k
  · cases d with
    | lst ds => obtain ⟨_, vs, h1, h2⟩ := h; exact .lst (sq_of h1) (h2.dp x ds vs k)
    | ins j ds => cases k
    | dct t ks ds => cases k
    | _ => exact h.2.elim
theorem dOk.lay {d : D} (h : dOk d = true) : (toPy d).canLay0 = true := SeqAt.canLay_of_shaped h
def opEq (a b : D) : Option RV := if dOk a && dOk b then some (.fl (.bl (deq a b))) else none
def opNe (a b : D) : Option RV := if dOk a && dOk b then some (.fl (.bl (!deq a b))) else none
theorem ok_eq : R2Ok c (rEqD c.K) opEq := by
  intro F H d1 d2 v1 v2 rv Q x k1 k2 l q
  unfold opEq at l
  split at l
  · rename_i h
    obtain ⟨h1, h2⟩ := Bool.and_eq_true_iff.mp h
    cases l
    exact ⟨_, _, k1.dp x (dOk.lay h1), k2.dp x (dOk.lay h2), h1, h2, q _ rfl⟩
  · cases l
theorem ok_ne : R2Ok c (rNeD c.K) opNe := by
  intro F H d1 d2 v1 v2 rv Q x k1 k2 l q
  unfold opNe at l
  split at l
  · rename_i h
    obtain ⟨h1, h2⟩ := Bool.and_eq_true_iff.mp h
    cases l
    exact ⟨_, _, k1.dp x (dOk.lay h1), k2.dp x (dOk.lay h2), h1, h2, q _ rfl⟩
  · cases l
/-- x in a list -/
def opIn (a b : D) : Option RV := match b with
  | .lst ds => if dOk a && dOk b then some (.fl (.bl (ds.any fun y => deq y a))) else none
  | _ => none
def opNi (a b : D) : Option RV := match b with
  | .lst ds => if dOk a && dOk b then some (.fl (.bl (!ds.any fun y => deq y a))) else none
  | _ => none
theorem any_py (d : D) : ∀ ds : List D, ((toPyL ds).any fun y => PyData.eqv y (toPy d)) = ds.any fun y => deq y d
  | [] => rfl
  | e :: ds => by
    show (PyData.eqv (toPy e) (toPy d) || (toPyL ds).any fun y => PyData.eqv y (toPy d)) = (deq e d || ds.any fun y => deq y d)
    rw [any_py d ds]
    rfl
theorem ok_in : R2Ok c (rInD c.K) opIn := by
  intro F H d1 d2 v1 v2 rv Q x k1 k2 l q
  cases d2 <;> try cases l
  rename_i ds
  unfold opIn at l
  dsimp only at l
  split at l
  · rename_i h
    obtain ⟨h1, h2⟩ := Bool.and_eq_true_iff.mp h
    cases l
    refine ⟨_, _, k1.dp x (dOk.lay h1), k2.dp x (dOk.lay h2), h1, h2, ?_⟩
    rw [any_py]
    exact q _ rfl
  · cases l
theorem ok_ni : R2Ok c (rNotInD c.K) opNi := by
  intro F H d1 d2 v1 v2 rv Q x k1 k2 l q
  cases d2 <;> try cases l
  rename_i ds
  unfold opNi at l
  dsimp only at l
  split at l
  · rename_i h
    obtain ⟨h1, h2⟩ := Bool.and_eq_true_iff.mp h
    cases l
    refine ⟨_, _, k1.dp x (dOk.lay h1), k2.dp x (dOk.lay h2), h1, h2, ?_⟩
    rw [any_py]
    exact q _ rfl
  · cases l

/-! ### items, slices, lengths -/
def opIx (a b : D) : Option RV := match a, b with
  | .lst ds, .int i => (atI ds i).map .fl
  | .rol ds, .int i => (atI ds i).map .fl
  | .tup ds, .int i => (atI ds i).map .fl
  | .str z, .int i => if z.length ≤ lim then (atI z.cps.toList i).map fun c => .fl (.str ⟨#[c]⟩) else none
  | _, _ => none
theorem atI_rp {F : Hp} {ds : List D} {vs : List V} {i : Int} {d : D} (r : RpL c F ds vs) (h : atI ds i = some d) : ∃ v, atI vs i = some v ∧ Rp c F d v := by
  unfold atI at h ⊢
  rw [← r.len]
  obtain ⟨j, h1, h2⟩ := obind h
  obtain ⟨v, h3, h4⟩ := r.get h2
  exact ⟨v, by rw [h1]; exact h3, h4⟩
theorem omap {α β : Type} {o : Option α} {f : α → β} {b : β} (h : o.map f = some b) : ∃ a, o = some a ∧ f a = b := by
  cases o with
  | none => cases h
  | some a => exact ⟨a, rfl, Option.some.inj h⟩
theorem ok_ix : R2Ok c (rIx c.K) opIx := by
  intro F H d1 d2 v1 v2 rv Q x k1 k2 l q
  cases d1 <;> cases d2 <;> try cases l
  · rename_i z i
    unfold opIx at l
    dsimp only at l
    split at l
    · rename_i h
      obtain ⟨ch, h1, h2⟩ := omap l
      subst h2
      exact .inr (.inr ⟨z, i, ch, k1.str, k2.int, lim_ok h, h1, q _ rfl⟩)
    · cases l
  · rename_i ds i
    obtain ⟨d, h1, h2⟩ := omap l
    subst h2
    obtain ⟨p, vs, e1, h3, r⟩ := k1.lst x
    obtain ⟨v, h4, r'⟩ := atI_rp r h1
    exact .inl ⟨p, vs, i, v, e1, k2.int, sq_of h3, h4, q _ r'⟩
  · rename_i ds i
    obtain ⟨d, h1, h2⟩ := omap l
    subst h2
    obtain ⟨p, vs, e1, h3, r⟩ := k1.tup x
    obtain ⟨v, h4, r'⟩ := atI_rp r h1
    exact .inr (.inl ⟨p, vs, i, v, e1, k2.int, h3, h4, q _ r'⟩)
  · rename_i ds i
    obtain ⟨d, h1, h2⟩ := omap l
    subst h2
    obtain ⟨p, vs, e1, h3, r⟩ := k1.rol x
    obtain ⟨v, h4, r'⟩ := atI_rp r h1
    exact .inl ⟨p, vs, i, v, e1, k2.int, h3, h4, q _ r'⟩
def opLen (ds : List D) : Option RV := match ds with
  | [.lst xs] => some (.fl (.int xs.length))
  | [.rol xs] => some (.fl (.int xs.length))
  | [.tup xs] => some (.fl (.int xs.length))
  | [.str z] => if z.length ≤ lim then some (.fl (.int z.length)) else none
  | _ => none
abbrev rLen' (K : PySem.W.Frag) : List V → Hp → VK → Prop := fun xs H Q => (∃ p ys, xs = [.ref p] ∧ (SqL K H p ys ∨ SqT K H p ys) ∧ Q (.int ys.length) H) ∨ ∃ z, xs = [.str z] ∧ z.length ≤ sizeLine ∧ Q (.int z.length) H
theorem call_lenA {X : Cx} : CallR X (.builtin "len") (rLen' X.K) := call_len_seq.or call_len_str
theorem Views.one {F H : Hp} {d : D} {vs : List V} (h : Views c F H [d] vs) : ∃ v, vs = [v] ∧ View c F H d v := by
  obtain ⟨v, r, rfl, h1, h2⟩ := h
  cases h2
  exact ⟨v, rfl, h1⟩
theorem Views.two {F H : Hp} {d e : D} {vs : List V} (h : Views c F H [d, e] vs) : ∃ v w, vs = [v, w] ∧ View c F H d v ∧ View c F H e w := by
  obtain ⟨v, r, rfl, h1, h2⟩ := h
  obtain ⟨w, rfl, h3⟩ := h2.one
  exact ⟨v, w, rfl, h1, h3⟩
theorem ok_len : RlOk c (rLen' c.K) opLen := by
  intro F H ds vs rv Q x k l q
  unfold opLen at l
  split at l
  · rename_i xs
    cases l
    obtain ⟨v, rfl, y⟩ := k.one
    obtain ⟨p, ws, rfl, h, r⟩ := y.lst x
    exact .inl ⟨p, ws, rfl, .inl (sq_of h), by rw [← r.len]; exact q _ rfl⟩
  · rename_i xs
    cases l
    obtain ⟨v, rfl, y⟩ := k.one
    obtain ⟨p, ws, rfl, h, r⟩ := y.rol x
    exact .inl ⟨p, ws, rfl, .inl h, by rw [← r.len]; exact q _ rfl⟩
  · rename_i xs
    cases l
    obtain ⟨v, rfl, y⟩ := k.one
    obtain ⟨p, ws, rfl, h, r⟩ := y.tup x
    exact .inl ⟨p, ws, rfl, .inr h, by rw [← r.len]; exact q _ rfl⟩
  · rename_i z
    split at l
    · rename_i h
      cases l
      obtain ⟨v, rfl, y⟩ := k.one
      exact .inr ⟨z, by rw [y.str], lim_ok h, q _ rfl⟩
    · cases l
  · cases l
/-- list(x), tuple(x) -/
def opList (ds : List D) : Option RV := match ds with
  | [.lst xs] => some (.nl xs)
  | [.rol xs] => some (.nl xs)
  | [.tup xs] => some (.nl xs)
  | _ => none
abbrev rList' (K : PySem.W.Frag) : List V → Hp → VK → Prop := fun xs H Q => ∃ p ys, xs = [.ref p] ∧ (SqL K H p ys ∨ SqT K H p ys) ∧ ∀ l, H l = none → Q (.ref l) (upd H l (.lst ys))
theorem ok_list : RlOk c (rList' c.K) opList := by
  intro F H ds vs rv Q x k l q
  unfold opList at l
  split at l <;> try cases l
  · obtain ⟨v, rfl, y⟩ := k.one
    obtain ⟨p, ws, rfl, h, r⟩ := y.lst x
    exact ⟨p, ws, rfl, .inl (sq_of h), fun l hl => q l ws r hl⟩
  · obtain ⟨v, rfl, y⟩ := k.one
    obtain ⟨p, ws, rfl, h, r⟩ := y.rol x
    exact ⟨p, ws, rfl, .inl h, fun l hl => q l ws r hl⟩
  · obtain ⟨v, rfl, y⟩ := k.one
    obtain ⟨p, ws, rfl, h, r⟩ := y.tup x
    exact ⟨p, ws, rfl, .inr h, fun l hl => q l ws r hl⟩
def opTuple (ds : List D) : Option RV := match ds with
  | [.lst xs] => some (.nt xs)
  | [.rol xs] => some (.nt xs)
  | [.tup xs] => some (.fl (.tup xs))
  | _ => none
abbrev rTuple' (K : PySem.W.Frag) : List V → Hp → VK → Prop := fun xs H Q => ∃ p ys, xs = [.ref p] ∧ ((SqL K H p ys ∧ ∀ l, H l = none → Q (.ref l) (upd H l (.tup ys))) ∨ (SqT K H p ys ∧ Q (.ref p) H))
theorem ok_tuple : RlOk c (rTuple' c.K) opTuple := by
  intro F H ds vs rv Q x k l q
  unfold opTuple at l
  split at l <;> try cases l
  · obtain ⟨v, rfl, y⟩ := k.one
    obtain ⟨p, ws, rfl, h, r⟩ := y.lst x
    exact ⟨p, ws, rfl, .inl ⟨sq_of h, fun l hl => q l ws r hl⟩⟩
  · obtain ⟨v, rfl, y⟩ := k.one
    obtain ⟨p, ws, rfl, h, r⟩ := y.rol x
    exact ⟨p, ws, rfl, .inl ⟨h, fun l hl => q l ws r hl⟩⟩
  · rename_i xs
    obtain ⟨v, rfl, y⟩ := k.one
    rcases y with y | ⟨p, _, y⟩
    · obtain ⟨p, ws, rfl, h, r⟩ := id y
      exact ⟨p, ws, rfl, .inr ⟨ex_t x h, q _ y⟩⟩
    · exact y.2.elim
/-- int(n), int(flag); abs; min, max of two -/
def opInt (ds : List D) : Option RV := match ds with
  | [.int i] => some (.fl (.int i))
  | [.bl b] => some (.fl (.int (if b then 1 else 0)))
  | _ => none
abbrev rInt' : List V → Hp → VK → Prop := fun xs H Q => (∃ i, xs = [.int i] ∧ Q (.int i) H) ∨ ∃ k, xs = [.bl k] ∧ Q (.int (if k then 1 else 0)) H
theorem ok_int : RlOk c rInt' opInt := by
  intro F H ds vs rv Q x k l q
  unfold opInt at l
  split at l <;> try cases l
  · obtain ⟨v, rfl, y⟩ := k.one
    exact .inl ⟨_, by rw [y.int], q _ rfl⟩
  · obtain ⟨v, rfl, y⟩ := k.one
    exact .inr ⟨_, by rw [y.bl], q _ rfl⟩
def opAbs (ds : List D) : Option RV := match ds with
  | [.int i] => some (.fl (.int (if i < 0 then -i else i)))
  | _ => none
abbrev rAbs' : List V → Hp → VK → Prop := fun xs H Q => ∃ i, xs = [.int i] ∧ Q (.int (if i < 0 then -i else i)) H
theorem ok_abs : RlOk c rAbs' opAbs := by
  intro F H ds vs rv Q x k l q
  unfold opAbs at l
  split at l <;> try cases l
  obtain ⟨v, rfl, y⟩ := k.one
  exact ⟨_, by rw [y.int], q _ rfl⟩
def opMax2 (ds : List D) : Option RV := match ds with
  | [.int i, .int j] => some (.fl (.int (if j > i then j else i)))
  | _ => none
abbrev rMax2' : List V → Hp → VK → Prop := fun xs H Q => ∃ i j, xs = [.int i, .int j] ∧ Q (.int (if j > i then j else i)) H
theorem ok_max2 : RlOk c rMax2' opMax2 := by
  intro F H ds vs rv Q x k l q
  unfold opMax2 at l
  split at l <;> try cases l
  obtain ⟨v, w, rfl, k1, k2⟩ := k.two
  exact ⟨_, _, by rw [k1.int, k2.int], q _ rfl⟩
def opMin2 (ds : List D) : Option RV := match ds with
  | [.int i, .int j] => some (.fl (.int (if j < i then j else i)))
  | _ => none
abbrev rMin2' : List V → Hp → VK → Prop := fun xs H Q => ∃ i j, xs = [.int i, .int j] ∧ Q (.int (if j < i then j else i)) H
theorem ok_min2 : RlOk c rMin2' opMin2 := by
  intro F H ds vs rv Q x k l q
  unfold opMin2 at l
  split at l <;> try cases l
  obtain ⟨v, w, rfl, k1, k2⟩ := k.two
  exact ⟨_, _, by rw [k1.int, k2.int], q _ rfl⟩
end

/-! ### displays -/
section
variable {X : Cx} {c : Ct} {z : Zs} {W : WX} {es : List Expr} {ta : TA} {fa : FA} {pos : Pos}
def escs : List T → DEnv → Option (List D × DEnv)
  | [], e => some ([], e)
  | t :: ts, e => (escape t e).bind fun r => (escs ts r.2).bind fun q => some (r.1 :: q.1, q.2)
theorem TRs.escs {σ : L2.St} {H : Hp} : ∀ {ts : List T} {vs : List V} {F : Hp} {e : DEnv} {ds : List D} {e' : DEnv}, I2 c z σ H F e → TRs c z F H σ e ts vs → DL.escs ts e = some (ds, e') → ∃ G, Ex F G ∧ I2 c z σ H G e' ∧ RpL c G ds vs
  | [], vs, F, e, ds, e', I, h, l => by cases h; cases l; exact ⟨F, Ex.refl F, I, rfl⟩
  | t :: ts, vs, F, e, ds, e', I, h, l => by
    obtain ⟨v, r, rfl, h2, h3, h4⟩ := h
    obtain ⟨⟨d, e1⟩, l1, l⟩ := obind l
    obtain ⟨⟨ds', e2⟩, l2, l⟩ := obind l
    cases l
    obtain ⟨G, x1, I1, r1⟩ := h3.escape I l1
    obtain ⟨G2, x2, I2', r2⟩ := TRs.escs I1 (h4.keep x1) l2
    exact ⟨G2, x1.trans x2, I2', v, r, rfl, r1.mono x2 d v, r2⟩
def fLst (fa : FA) : FE := fun e => (fa e).bind fun r => Res.of ((escs r.1 r.2).bind fun q => if q.1.length ≤ lim then some (.nw (.lst q.1), q.2) else none)
def fTup (fa : FA) : FE := fun e => (fa e).bind fun r => Res.of ((escs r.1 r.2).bind fun q => if q.1.length ≤ lim then some (.vl (.tup q.1), q.2) else none)
theorem sn_lst (ha : SndA c W ta fa) : SndE c W (tLst ta) (fLst fa) := fun z σ H F e Q I h => by
  unfold fLst at h
  rw [Wp.bind] at h
  refine ha z σ H F e _ I (h.mono (fun r _ h vs H1 F1 x1 I1 t1 => ?_) fun _ _ h => h)
  obtain ⟨a, ea, h⟩ := Wp.of h
  obtain ⟨⟨ds, e2⟩, l1, ea⟩ := obind ea
  dsimp only at ea
  split at ea
  · rename_i hl
    cases ea
    obtain ⟨G, x2, J, rr⟩ := t1.escs I1 l1
    refine ⟨by rw [← rr.len]; exact lim_ok hl, fun p hp => ?_⟩
    exact h _ _ G (x1.trans x2) (J.alloc (Ex.new hp)) ⟨p, rfl, ⟨fresh_back J.fh hp, vs, upd_same, rr⟩, J.fresh0 hp, J.noroot hp⟩
  · cases ea
theorem sn_tup (ha : SndA c W ta fa) : SndE c W (tTup ta) (fTup fa) := fun z σ H F e Q I h => by
  unfold fTup at h
  rw [Wp.bind] at h
  refine ha z σ H F e _ I (h.mono (fun r _ h vs H1 F1 x1 I1 t1 => ?_) fun _ _ h => h)
  obtain ⟨a, ea, h⟩ := Wp.of h
  obtain ⟨⟨ds, e2⟩, l1, ea⟩ := obind ea
  dsimp only at ea
  split at ea
  · rename_i hl
    cases ea
    obtain ⟨G, x2, J, rr⟩ := t1.escs I1 l1
    refine ⟨by rw [← rr.len]; exact lim_ok hl, fun p hp => ?_⟩
    have x3 := Ex.new (o := HO.tup vs) (fresh_back J.fh hp)
    exact h _ _ _ ((x1.trans x2).trans x3) (J.allocT hp) ⟨p, vs, rfl, st_of upd_same, rr.mono x3 ds vs⟩
  · cases ea
theorem de_lst (ha : DA X c W es ta fa) : DE X c W (.List es pos) (tLst ta) (fLst fa) := ⟨pe_lst ha.pa, sn_lst ha.sn⟩
theorem de_tup {x1} (ha : DA X c W es ta fa) : DE X c W (.Tuple es x1 pos) (tTup ta) (fTup fa) := ⟨pe_tup ha.pa, sn_tup ha.sn⟩
end
end DL

/-! DL, part e: statements, loops, comprehensions. -/
namespace DL
open PySem L2 Evl

inductive Out where
  | nx (e : DEnv) | rt (t : T) (e : DEnv) | bk (e : DEnv) | ct (e : DEnv)
abbrev FS := DEnv → Res Out
def PoS (c : Ct) (z : Zs) (F : Hp) (D : Ends) : Out → Prop
  | .nx e' => ∀ σ' H' F', Ex F F' → I2 c z σ' H' F' e' → D.nx σ' H'
  | .rt t e' => ∀ v σ' H' F', Ex F F' → I2 c z σ' H' F' e' → TR c z F' H' σ' e' t v → D.rt v H'
  | .bk e' => ∀ σ' H' F', Ex F F' → I2 c z σ' H' F' e' → D.bk σ' H'
  | .ct e' => ∀ σ' H' F', Ex F F' → I2 c z σ' H' F' e' → D.ct σ' H'
def XpS (c : Ct) (z : Zs) (W : WX) (F : Hp) (x : XV) (e' : DEnv) : Prop := ∀ σ', Xp c z W σ' F x e'
def SndS (c : Ct) (W : WX) (ts : TS) (f : FS) : Prop := ∀ (z : Zs) σ H F e (D : Ends), I2 c z σ H F e → Wp (f e) (PoS c z F D) (XpS c z W F) → ts D σ H
structure DS (X : Cx) (c : Ct) (W : WX) (st : Stmt) (ts : TS) (f : FS) : Prop where
  ps : PS X st ts
  sn : SndS c W ts f
structure DSs (X : Cx) (c : Ct) (W : WX) (st : List Stmt) (ts : TS) (f : FS) : Prop where
  ps : PSs X st ts
  sn : SndS c W ts f
structure DG (X : Cx) (c : Ct) (tg : Expr) (g : TG) (fg : D → DEnv → Option DEnv) : Prop where
  pg : PG X tg g
  sn : ∀ (z : Zs) σ H F e d v e' (Q : L2.St → Hp → Prop), I2 c z σ H F e → Rp c F d v → fg d e = some e' → (∀ σ', I2 c z σ' H F e' → Q σ' H) → g v σ H Q

section
variable {X : Cx} {c : Ct} {z : Zs} {W : WX} {σ : L2.St} {H H' F G : Hp} {e : DEnv} {a b : Expr} {ta tb : TE} {fa fb : FE} {st : Stmt} {sts rest : List Stmt} {ts us : TS} {f g : FS} {tt : TT} {ft : FT} {pos : Pos}
theorem PoS.mono {D : Ends} {o : Out} (h : PoS c z F D o) (k : Ex F G) : PoS c z G D o := by
  cases o with
  | nx e' => exact fun σ' H' F' x I => h σ' H' F' (k.trans x) I
  | rt t e' => exact fun v σ' H' F' x I r => h v σ' H' F' (k.trans x) I r
  | bk e' => exact fun σ' H' F' x I => h σ' H' F' (k.trans x) I
  | ct e' => exact fun σ' H' F' x I => h σ' H' F' (k.trans x) I
theorem XpS.mono {x : XV} {e' : DEnv} (h : XpS c z W F x e') (k : Ex F G) : XpS c z W G x e' := fun σ' => (h σ').mono k

/-! ### stores -/
def storeT (i : Nat) (t : T) (e : DEnv) : Option DEnv := if i < e.length then (match t with
  | .vl d => some (e.set i (some (.sh d)))
  | .nw d => some (e.set i (some (.ow d)))
  | .sl j => match e[j]? with
    | some (some (.sh d)) => some (e.set i (some (.sh d)))
    | some (some (.ow d)) => some ((e.set j (some (.sh d))).set i (some (.sh d)))
    | _ => none) else none
theorem TR.store {i : Nat} {t : T} {v : V} {e' : DEnv} (I : I2 c z σ H F e) (h : TR c z F H σ e t v) (l : storeT i t e = some e') : ∃ G, Ex F G ∧ I2 c z (σ.set i (some v)) H G e' := by
  unfold storeT at l
  split at l
  · rename_i hi
    have hi' : i < σ.length := by rw [← I.len]; exact hi
    cases t with
    | vl d => cases l; exact ⟨F, Ex.refl F, I.store hi' h⟩
    | nw d => cases l; obtain ⟨p, rfl, w, h0, hn⟩ := h; exact ⟨F, Ex.refl F, I.storeN hi' w h0 hn⟩
    | sl j =>
      have h' : σ[j]? = some (some v) := h
      dsimp only at l
      split at l
      · rename_i d hb
        cases l
        obtain ⟨w, hw, r⟩ := I.slot j _ hb
        rw [h'] at hw; cases hw
        exact ⟨F, Ex.refl F, I.store hi' r⟩
      · rename_i d hb
        cases l
        obtain ⟨G, w, x, J, hw, r⟩ := I.freeze hb
        rw [h'] at hw; cases hw
        exact ⟨G, x, J.store hi' r⟩
      · cases l
  · cases l
def fSet (i : Nat) (f : FE) : FS := fun e => (f e).bind fun r => Res.of ((storeT i r.1 r.2).map .nx)
theorem sn_set {i : Nat} (ha : SndE c W ta fa) : SndS c W (tAsg ta (gName i)) (fSet i fa) := fun z σ H F e D I h => by
  unfold fSet at h
  rw [Wp.bind] at h
  refine ha z σ H F e _ I (h.mono (fun r _ h v H1 F1 x1 I1 t1 => ?_) fun _ _ h => h σ)
  obtain ⟨o, ea, h⟩ := Wp.of h
  obtain ⟨e', l1, rfl⟩ := omap ea
  obtain ⟨G, x2, J⟩ := t1.store I1 l1
  exact h _ _ _ (x1.trans x2) J
theorem ds_set {i : Nat} {x : Str} {pos' : Pos} (hN : X.N.Nodup) (hi : X.N[i]? = some x) (hx : Loc X.env.scope x) (ha : DE X c W a ta fa) (hs : swapsWith a (some (.Name x pos')) pos.line X.env = pure false := by rfl)
    (hf : X.fn x = true ∨ X.env.scope.names.lookup x = some .local := by first | exact .inl rfl | exact .inr rfl | assumption) : DS X c W (.Assign [.Name x pos'] a pos) (tAsg ta (gName i)) (fSet i fa) := ⟨ps_set hN hi hx ha.pe hs hf, sn_set ha.sn⟩

/-! ### plain statements -/
def fNext : FS := fun e => .ok (.nx e)
def fSeq (f g : FS) : FS := fun e => (f e).bind fun o => match o with
  | .nx e1 => g e1
  | .rt t e1 => .ok (.rt t e1)
  | .bk e1 => .ok (.bk e1)
  | .ct e1 => .ok (.ct e1)
theorem sn_next : SndS c W tNext fNext := fun z σ H F e D I h => h σ H F (Ex.refl F) I
theorem sn_seq (h1 : SndS c W ts f) (h2 : SndS c W us g) : SndS c W (tSeq ts us) (fSeq f g) := fun z σ H F e D I h => by
  unfold fSeq at h
  rw [Wp.bind] at h
  refine h1 z σ H F e { D with nx := us D } I (h.mono (fun o _ h => ?_) fun _ _ h => h)
  cases o with
  | nx e1 => exact fun σ' H' F' x I' => h2 z σ' H' F' e1 D I' (h.mono (fun _ _ h => h.mono x) fun _ _ h => h.mono x)
  | rt t e1 => exact h
  | bk e1 => exact h
  | ct e1 => exact h
theorem dss_nil : DSs X c W [] tNext fNext := ⟨pss_nil, sn_next⟩
theorem dss_cons (h1 : DS X c W st ts f) (h2 : DSs X c W rest us g) : DSs X c W (st :: rest) (tSeq ts us) (fSeq f g) := ⟨pss_cons h1.ps h2.ps, sn_seq h1.sn h2.sn⟩
theorem dss_one (h1 : DS X c W st ts f) : DSs X c W [st] ts f := ⟨pss_one h1.ps, h1.sn⟩
theorem ds_pass : DS X c W (.Pass pos) tNext fNext := ⟨ps_pass, sn_next⟩
def fBreak : FS := fun e => .ok (.bk e)
def fCont : FS := fun e => .ok (.ct e)
theorem ds_break : DS X c W (.Break pos) tBreak fBreak := ⟨ps_break, fun z σ H F e D I h => h σ H F (Ex.refl F) I⟩
theorem ds_cont : DS X c W (.Continue pos) tCont fCont := ⟨ps_continue, fun z σ H F e D I h => h σ H F (Ex.refl F) I⟩
def fDrop (f : FE) : FS := fun e => (f e).bind fun r => .ok (.nx r.2)
theorem sn_drop (ha : SndE c W ta fa) : SndS c W (tDrop ta) (fDrop fa) := fun z σ H F e D I h => by
  unfold fDrop at h
  rw [Wp.bind] at h
  exact ha z σ H F e _ I (h.mono (fun r _ h v H1 F1 x1 I1 t1 => h σ H1 F1 x1 I1) fun _ _ h => h σ)
theorem ds_expr (ha : DE X c W a ta fa) (hs : swapsWith a none pos.line X.env = pure false := by rfl) : DS X c W (.Expr a pos) (tDrop ta) (fDrop fa) := ⟨ps_expr ha.pe hs, sn_drop ha.sn⟩
def fRet (f : FE) : FS := fun e => (f e).bind fun r => .ok (.rt r.1 r.2)
theorem sn_ret (ha : SndE c W ta fa) : SndS c W (tRet ta) (fRet fa) := fun z σ H F e D I h => by
  unfold fRet at h
  rw [Wp.bind] at h
  exact ha z σ H F e _ I (h.mono (fun r _ h v H1 F1 x1 I1 t1 => h v σ H1 F1 x1 I1 t1) fun _ _ h => h σ)
theorem ds_ret (ha : DE X c W a ta fa) : DS X c W (.Return (some a) pos) (tRet ta) (fRet fa) := ⟨ps_ret ha.pe, sn_ret ha.sn⟩
def fRetN : FS := fun e => .ok (.rt (.vl .non) e)
theorem ds_retN : DS X c W (.Return none pos) tRetN fRetN := ⟨ps_retN, fun z σ H F e D I h => h _ σ H F (Ex.refl F) I rfl⟩
def fIfS (t : FT) (f g : FS) : FS := fun e => (t e).bind fun r => if r.1 = true then f r.2 else g r.2
theorem sn_ifS (hc : SndT c W tt ft) (h1 : SndS c W ts f) (h2 : SndS c W us g) : SndS c W (tIfS tt ts us) (fIfS ft f g) := fun z σ H F e D I h => by
  unfold fIfS at h
  rw [Wp.bind] at h
  refine hc z σ H F e _ I (h.mono (fun r _ h H1 F1 x1 I1 => ?_) fun _ _ h => h σ)
  obtain ⟨b, e1⟩ := r
  cases b with
  | true =>
    rw [if_pos rfl] at h ⊢
    exact h1 z σ H1 F1 e1 D I1 (h.mono (fun _ _ h => h.mono x1) fun _ _ h => h.mono x1)
  | false =>
    rw [if_neg Bool.false_ne_true] at h ⊢
    exact h2 z σ H1 F1 e1 D I1 (h.mono (fun _ _ h => h.mono x1) fun _ _ h => h.mono x1)
theorem ds_if {t : Expr} (hc : DT X c W t tt ft) (h1 : DSs X c W sts ts f) (h2 : DSs X c W rest us g) : DS X c W (.If t sts rest pos) (tIfS tt ts us) (fIfS ft f g) := ⟨ps_if hc.pt h1.ps h2.ps, sn_ifS hc.sn h1.sn h2.sn⟩

/-! ### targets -/
def fgName (i : Nat) (d : D) (e : DEnv) : Option DEnv := if i < e.length then some (e.set i (some (.sh d))) else none
theorem dg_name {i : Nat} {x : Str} (hN : X.N.Nodup) (hi : X.N[i]? = some x) (hx : Loc X.env.scope x) (hf : X.fn x = true ∨ X.env.scope.names.lookup x = some .local := by first | exact .inl rfl | exact .inr rfl | assumption) :
    DG X c (.Name x pos) (gName i) (fgName i) := by
  refine ⟨pg_name hN hi hx hf, fun z σ H F e d v e' Q I r l k => ?_⟩
  unfold fgName at l
  split at l
  · rename_i hl
    cases l
    exact k _ (I.store (by rw [← I.len]; exact hl) r)
  · cases l
/-- several targets for the items of a tuple -/
structure DGs (X : Cx) (c : Ct) (tgs : List Expr) (g : TGs) (fg : List D → DEnv → Option DEnv) : Prop where
  pg : PGs X tgs g
  sn : ∀ (z : Zs) σ H F e ds vs e' (Q : L2.St → Hp → Prop), I2 c z σ H F e → RpL c F ds vs → fg ds e = some e' → (∀ σ', I2 c z σ' H F e' → Q σ' H) → g vs σ H Q
def fgNil (ds : List D) (e : DEnv) : Option DEnv := match ds with
  | [] => some e
  | _ => none
def fgCons (f : D → DEnv → Option DEnv) (g : List D → DEnv → Option DEnv) (ds : List D) (e : DEnv) : Option DEnv := match ds with
  | [] => none
  | d :: ds => (f d e).bind fun e1 => g ds e1
theorem dgs_nil : DGs X c [] gNil fgNil := ⟨pgs_nil, fun z σ H F e ds vs e' Q I r l k => by
  cases ds with
  | nil => cases l; cases r; exact ⟨rfl, k σ I⟩
  | cons _ _ => cases l⟩
theorem dgs_cons {es : List Expr} {g1 : TG} {f1 : D → DEnv → Option DEnv} {gs : TGs} {fs : List D → DEnv → Option DEnv} (h1 : DG X c a g1 f1) (h2 : DGs X c es gs fs)
    (hs : (assignEach (a :: es) X.env).map (·.2) = assign a X.env :: (assignEach es X.env).map (·.2) := by rfl) : DGs X c (a :: es) (gCons g1 gs) (fgCons f1 fs) := ⟨pgs_cons h1.pg h2.pg hs, fun z σ H F e ds vs e' Q I r l k => by
  cases ds with
  | nil => cases l
  | cons d ds =>
    obtain ⟨v, w, rfl, r1, r2⟩ := r
    obtain ⟨e1, l1, l2⟩ := obind l
    exact ⟨v, w, rfl, h1.sn z σ H F e d v e1 _ I r1 l1 fun σ1 I1 => h2.sn z σ1 H F e1 ds w e' Q I1 r2 l2 k⟩⟩
def fgTup (n : Nat) (fg : List D → DEnv → Option DEnv) (d : D) (e : DEnv) : Option DEnv := match d with
  | .tup ds => if ds.length = n then fg ds e else none
  | _ => none
theorem dg_tup {es : List Expr} {k n : Nat} {gs : TGs} {fs : List D → DEnv → Option DEnv} (hK : X.K = c.K := by rfl) (hc : X.calm = true := by rfl) (h : DGs X c es gs fs) (hp : PG X (.Tuple es k pos) (gTup X.K n gs)) : DG X c (.Tuple es k pos) (gTup c.K n gs) (fgTup n fs) := by
  refine ⟨hK ▸ hp, fun z σ H F e d v e' Q I r l q => ?_⟩
  cases d <;> try cases l
  rename_i ds
  unfold fgTup at l
  dsimp only at l
  split at l
  · rename_i hl
    obtain ⟨p, vs, rfl, h1, h2⟩ := r
    exact ⟨p, vs, rfl, ex_t I.fh h1, by rw [← h2.len]; exact hl, h.sn z σ H F e ds vs e' Q I h2 l q⟩
  · cases l
/-- target = e -/
def fAsg (fg : D → DEnv → Option DEnv) (f : FE) : FS := fun e => (f e).bind fun r => Res.of ((escape r.1 r.2).bind fun q => (fg q.1 q.2).map .nx)
theorem sn_asg {gg : TG} {fg : D → DEnv → Option DEnv} (ha : SndE c W ta fa) (hg : ∀ (z : Zs) σ H F e d v e' (Q : L2.St → Hp → Prop), I2 c z σ H F e → Rp c F d v → fg d e = some e' → (∀ σ', I2 c z σ' H F e' → Q σ' H) → gg v σ H Q) :
    SndS c W (tAsg ta gg) (fAsg fg fa) := fun z σ H F e D I h => by
  unfold fAsg at h
  rw [Wp.bind] at h
  refine ha z σ H F e _ I (h.mono (fun r _ h v H1 F1 x1 I1 t1 => ?_) fun _ _ h => h σ)
  obtain ⟨o, ea, h⟩ := Wp.of h
  obtain ⟨⟨d, e1⟩, l1, ea⟩ := obind ea
  obtain ⟨e', l2, rfl⟩ := omap ea
  obtain ⟨G, x2, J, rr⟩ := t1.escape I1 l1
  exact hg z σ H1 G e1 d v e' D.nx J rr l2 fun σ' I' => h σ' H1 G (x1.trans x2) I'
theorem ds_asg {tg : Expr} {gg : TG} {fg : D → DEnv → Option DEnv} (ha : DE X c W a ta fa) (hg : DG X c tg gg fg) (hs : swapsWithSole [tg] a pos.line X.env = pure false := by rfl) (hw : swappedStores [tg] a X.env = pure none := by rfl) (h1 : (assignEach [tg] X.env).map (·.2) = [assign tg X.env] := by rfl) :
    DS X c W (.Assign [tg] a pos) (tAsg ta gg) (fAsg fg fa) := ⟨ps_asg ha.pe hg.pg hs hw h1, sn_asg ha.sn hg.sn⟩
/-- x, y = e1, e2 (two names) -/
def fPar (i j : Nat) (fr : FA) : FS := fun e => (fr e).bind fun r => Res.of (match r.1 with
  | [t, u] => (escape t r.2).bind fun q => (escape u q.2).bind fun q2 => if i < q2.2.length ∧ j < q2.2.length then some (.nx ((q2.2.set i (some (.sh q.1))).set j (some (.sh q2.1)))) else none
  | _ => none)
theorem sn_par {i j : Nat} {tr : TA} {fr : FA} (ha : SndA c W tr fr) : SndS c W (tPar i j tr) (fPar i j fr) := fun z σ H F e D I h => by
  unfold fPar at h
  rw [Wp.bind] at h
  refine ha z σ H F e _ I (h.mono (fun r _ h vs H1 F1 x1 I1 t1 => ?_) fun _ _ h => h σ)
  obtain ⟨o, ea, h⟩ := Wp.of h
  obtain ⟨ts, e1⟩ := r
  dsimp only at ea
  split at ea
  · rename_i t u _
    obtain ⟨v, r1, rfl, s1, k1, w, r2, rfl, s2, k2, k3⟩ := t1
    cases k3
    obtain ⟨⟨d1, e2⟩, l1, ea⟩ := obind ea
    obtain ⟨⟨d2, e3⟩, l2, ea⟩ := obind ea
    dsimp only at ea
    split at ea
    · rename_i hl
      cases ea
      obtain ⟨G1, y1, J1, q1⟩ := k1.escape I1 l1
      have k2' : TR c z G1 H1 σ e2 u w := by rw [← s2] at k2 ⊢; exact k2.keep y1
      obtain ⟨G2, y2, J2, q2⟩ := k2'.escape J1 l2
      have hi : i < σ.length := by rw [← J2.len]; exact hl.1
      have hj : j < σ.length := by rw [← J2.len]; exact hl.2
      have K1 := J2.store hi (q1.mono y2 d1 v)
      have K2 := K1.store (i := j) (by rw [List.length_set]; exact hj) q2
      exact ⟨v, w, rfl, h _ _ G2 ((x1.trans y1).trans y2) K2⟩
    · cases ea
  · cases ea
theorem ds_par {i j : Nat} {x y : Str} {px py pt : Pos} {kt k2 pt2} {tr : TA} {fr : FA} (hp : PS X (.Assign [.Tuple [.Name x px, .Name y py] kt pt] (.Tuple [a, b] k2 pt2) pos) (tPar i j tr)) (ha : DA X c W [a, b] tr fr) :
    DS X c W (.Assign [.Tuple [.Name x px, .Name y py] kt pt] (.Tuple [a, b] k2 pt2) pos) (tPar i j tr) (fPar i j fr) := ⟨hp, sn_par ha.sn⟩

/-! ### x += e, xs.append(e), xs[i] = e -/
def fAug (i : Nat) (op : D → D → Option RV) (f : FE) : FS := fun e => match e[i]? with
  | some (some (.sh d1)) => (f e).bind fun r => Res.of ((lookT r.1 r.2).bind fun d2 => (op d1 d2).bind fun rv => (storeT i rv.tok r.2).map .nx)
  | _ => .stuck
theorem sn_aug {i : Nat} {ti : TIp} {op : D → D → Option RV} (ho : ∀ F H d1 d2 v1 v2 rv (Q : VK), Ex F H → View c F H d1 v1 → View c F H d2 v2 → op d1 d2 = some rv → rv.Post c F H Q → ti v1 v2 H Q) (ha : SndE c W ta fa) :
    SndS c W (tAug i ta ti) (fAug i op fa) := fun z σ H F e D I h => by
  unfold fAug at h
  split at h
  · rename_i d1 hb
    obtain ⟨v1, hv1, r1⟩ := I.slot i _ hb
    refine ⟨v1, hv1, ?_⟩
    rw [Wp.bind] at h
    refine ha z σ H F e _ I (h.mono (fun r _ h v H1 F1 x1 I1 t1 => ?_) fun _ _ h => h σ)
    obtain ⟨o, ea, h⟩ := Wp.of h
    obtain ⟨d2, l1, ea⟩ := obind ea
    obtain ⟨rv, l2, ea⟩ := obind ea
    obtain ⟨e', l3, rfl⟩ := omap ea
    refine ho F1 H1 d1 d2 v1 v rv _ I1.fh (.inl (Rp.mono x1 d1 v1 r1)) (t1.view I1 l1) l2 (RV.post_of I1 fun w H2 F2 x2 I2' t2 => ?_)
    obtain ⟨G, x3, J⟩ := t2.store I2' l3
    exact h _ _ _ ((x1.trans x2).trans x3) J
  · exact h.elim
theorem ds_aug {i : Nat} {x : Str} {o : Operator} {ti : TIp} {op : D → D → Option RV} {pos' : Pos} (hN : X.N.Nodup) (hi : X.N[i]? = some x) (hx : Loc X.env.scope x) (ha : DE X c W a ta fa) (hp : PIp X o ti)
    (ho : ∀ F H d1 d2 v1 v2 rv (Q : VK), Ex F H → View c F H d1 v1 → View c F H d2 v2 → op d1 d2 = some rv → rv.Post c F H Q → ti v1 v2 H Q)
    (hf : X.fn x = true ∨ X.env.scope.names.lookup x = some .local := by first | exact .inl rfl | exact .inr rfl | assumption) : DS X c W (.AugAssign (.Name x pos') o a pos) (tAug i ta ti) (fAug i op fa) := ⟨ps_aug hN hi hx ha.pe hp hf, sn_aug ho ha.sn⟩
/-- a list that a name alone knows -/
def rootLst (e : DEnv) (j : Nat) : Option (List D) := match e[j]? with
  | some (some (.ow (.lst ds))) => some ds
  | some (some (.br (.lst ds))) => some ds
  | _ => none
def putLst (e : DEnv) (j : Nat) (ds : List D) : DEnv := match e[j]? with
  | some (some b) => e.set j (some (b.re (.lst ds)))
  | _ => e
theorem I2.rootLst {j : Nat} {ds : List D} (I : I2 c z σ H F e) (h : rootLst e j = some ds) : ∃ p vs, σ[j]? = some (some (.ref p)) ∧ H p = some (.lst vs) ∧ RpL c F ds vs ∧
    ∀ vs' ds', RpL c F ds' vs' → I2 c z σ (upd H p (.lst vs')) F (putLst e j ds') := by
  unfold DL.rootLst at h
  split at h <;> try cases h
  · rename_i hb
    obtain ⟨v, hv, p, rfl, ⟨hF, vs, h1, h2⟩, _⟩ := I.slot j _ hb
    refine ⟨p, vs, hv, h1, h2, fun vs' ds' r => ?_⟩
    unfold putLst
    rw [hb]
    exact I.mut (d := .lst ds') hb rfl hv ⟨hF, vs', upd_same, r⟩
  · rename_i hb
    obtain ⟨v, hv, p, rfl, ⟨hF, vs, h1, h2⟩, _⟩ := I.slot j _ hb
    refine ⟨p, vs, hv, h1, h2, fun vs' ds' r => ?_⟩
    unfold putLst
    rw [hb]
    exact I.mut (d := .lst ds') hb rfl hv ⟨hF, vs', upd_same, r⟩
/-- xs.append(e), xs a name -/
def fApp (j : Nat) (f : FE) : FE := fun e => (Res.of (rootLst e j)).bind fun _ => (f e).bind fun r => Res.of ((escape r.1 r.2).bind fun q => (rootLst q.2 j).bind fun ds => if ds.length < lim then some (.vl .non, putLst q.2 j (ds ++ [q.1])) else none)
theorem sn_app {j : Nat} (ha : SndE c W ta fa) : SndE c W (tBM c.K "list" rAppend (tVar j) (tCons ta tNil)) (fApp j fa) := fun z σ H F e Q I h => by
  unfold fApp at h
  rw [Wp.bind] at h
  obtain ⟨ds0, l0, h⟩ := Wp.of h
  obtain ⟨p0, vs0, hv0, h0, _, _⟩ := I.rootLst l0
  refine ⟨_, hv0, .inl ⟨rfl, _, sq_of h0⟩, ?_⟩
  rw [Wp.bind] at h
  refine ha z σ H F e _ I (h.mono (fun r _ h v H1 F1 x1 I1 t1 => ?_) fun _ _ h => h)
  obtain ⟨o, ea, h⟩ := Wp.of h
  obtain ⟨⟨d, e1⟩, l1, ea⟩ := obind ea
  obtain ⟨ds, l2, ea⟩ := obind ea
  dsimp only at ea
  split at ea
  · rename_i hl
    cases ea
    obtain ⟨G, x2, J, rr⟩ := t1.escape I1 l1
    obtain ⟨p, vs, hv, h1, r1, k⟩ := J.rootLst l2
    rw [hv0] at hv; cases hv
    refine ⟨p0, vs, v, rfl, rfl, h1, by rw [← r1.len]; exact lim_lt hl, ?_⟩
    exact h _ _ G (x1.trans x2) (k _ _ (r1.app (RpL.one rr))) rfl
  · cases ea
/-- xs.pop() -/
def fPop (j : Nat) : FE := fun e => Res.of ((rootLst e j).bind fun ds => (ds[ds.length - 1]?).bind fun d => some (.vl d, putLst e j ds.dropLast))
theorem RpL.dropLast {ds : List D} {vs : List V} (h : RpL c F ds vs) : RpL c F ds.dropLast vs.dropLast := by
  rw [List.dropLast_eq_take, List.dropLast_eq_take, h.len]
  exact h.take _
theorem sn_pop {j : Nat} : SndE c W (tBM0 c.K "list" rPop (tVar j)) (fPop j) := fun z σ H F e Q I h => by
  unfold fPop at h
  obtain ⟨o, ea, h⟩ := Wp.of h
  obtain ⟨ds, l1, ea⟩ := obind ea
  obtain ⟨d, l2, ea⟩ := obind ea
  cases ea
  obtain ⟨p, vs, hv, h1, r1, k⟩ := I.rootLst l1
  obtain ⟨v, h3, r3⟩ := r1.get l2
  refine ⟨_, hv, .inl ⟨rfl, _, sq_of h1⟩, p, vs, v, rfl, rfl, h1, by rw [← r1.len]; exact h3, ?_⟩
  exact h _ _ F (Ex.refl F) (k _ _ r1.dropLast) r3
/-- xs.extend(ys) -/
def fExt (j : Nat) (f : FE) : FE := fun e => (Res.of (rootLst e j)).bind fun _ => (f e).bind fun r => Res.of ((escape r.1 r.2).bind fun q => match q.1 with
  | .lst es => (rootLst q.2 j).bind fun ds => if ds.length + es.length ≤ lim then some (.vl .non, putLst q.2 j (ds ++ es)) else none
  | _ => none)
theorem sn_ext {j : Nat} (ha : SndE c W ta fa) : SndE c W (tBM c.K "list" rExtend (tVar j) (tCons ta tNil)) (fExt j fa) := fun z σ H F e Q I h => by
  unfold fExt at h
  rw [Wp.bind] at h
  obtain ⟨ds0, l0, h⟩ := Wp.of h
  obtain ⟨p0, vs0, hv0, h0, _, _⟩ := I.rootLst l0
  refine ⟨_, hv0, .inl ⟨rfl, _, sq_of h0⟩, ?_⟩
  rw [Wp.bind] at h
  refine ha z σ H F e _ I (h.mono (fun r _ h v H1 F1 x1 I1 t1 => ?_) fun _ _ h => h)
  obtain ⟨o, ea, h⟩ := Wp.of h
  obtain ⟨⟨d, e1⟩, l1, ea⟩ := obind ea
  obtain ⟨G, x2, J, rr⟩ := t1.escape I1 l1
  cases d <;> try cases ea
  rename_i es
  obtain ⟨ds, l2, ea⟩ := obind ea
  dsimp only at ea
  split at ea
  · rename_i hl
    cases ea
    obtain ⟨p, vs, hv, h1, r1, k⟩ := J.rootLst l2
    rw [hv0] at hv; cases hv
    obtain ⟨q, ws, rfl, h2, r2⟩ := rr
    refine ⟨p0, q, vs, ws, rfl, rfl, h1, J.fh _ _ h2, by rw [← r1.len, ← r2.len]; exact lim_ok hl, ?_⟩
    exact h _ _ G (x1.trans x2) (k _ _ (r1.app r2)) rfl
  · cases ea
/-- xs[i] = e, xs a name -/
def fSetIx (j : Nat) (fi fv : FE) : FS := fun e => (fv e).bind fun r => (Res.of ((escape r.1 r.2).bind fun q => (rootLst q.2 j).map fun _ => q)).bind fun q => (fi q.2).bind fun s => Res.of ((lookT s.1 s.2).bind fun k => match k with
  | .int k => (rootLst s.2 j).bind fun ds => (ixN ds.length k).map fun n => .nx (putLst s.2 j (ds.set n q.1))
  | _ => none)
theorem sn_setIx {j : Nat} {ti tv : TE} {fi fv : FE} (hi : SndE c W ti fi) (hv : SndE c W tv fv) : SndS c W (tAsg tv (gSub (tVar j) ti rSetL)) (fSetIx j fi fv) := fun z σ H F e D I h => by
  unfold fSetIx at h
  rw [Wp.bind] at h
  refine hv z σ H F e _ I (h.mono (fun r _ h v H1 F1 x1 I1 t1 => ?_) fun _ _ h => h σ)
  rw [Wp.bind] at h
  obtain ⟨⟨d, e1⟩, ea, h⟩ := Wp.of h
  obtain ⟨⟨d', e1'⟩, l1, ea⟩ := obind ea
  obtain ⟨ds0, l0, ea⟩ := omap ea
  cases ea
  obtain ⟨G, x2, J, rr⟩ := t1.escape I1 l1
  obtain ⟨p0, vs0, hv0, h0, _, _⟩ := J.rootLst l0
  refine ⟨_, hv0, ?_⟩
  rw [Wp.bind] at h
  refine hi z σ H1 G e1 _ J (h.mono (fun s _ h w H2 F2 x3 I2' t2 => ?_) fun _ _ h => (h.mono (x1.trans x2)) σ)
  obtain ⟨o, ea, h⟩ := Wp.of h
  obtain ⟨k, l2, ea⟩ := obind ea
  cases k <;> try cases ea
  rename_i k
  obtain ⟨ds, l3, ea⟩ := obind ea
  obtain ⟨n, l4, rfl⟩ := omap ea
  obtain ⟨p, vs, hv1, h1, r1, kk⟩ := I2'.rootLst l3
  rw [hv0] at hv1; cases hv1
  have ew := (t2.view I2' l2).int
  subst ew
  refine ⟨p0, vs, k, n, rfl, rfl, h1, by rw [← r1.len]; exact l4, ?_⟩
  exact h σ _ F2 ((x1.trans x2).trans x3) (kk _ _ (r1.set n (rr.mono x3 d v)))
theorem ds_setIx {j : Nat} {o i : Expr} {ti tv : TE} {fi fv : FE} {tgp : Pos} (hp : PS X (.Assign [.Subscript o i tgp] a pos) (tAsg tv (gSub (tVar j) ti rSetL))) (hi : SndE c W ti fi) (hv : SndE c W tv fv) : DS X c W (.Assign [.Subscript o i tgp] a pos) (tAsg tv (gSub (tVar j) ti rSetL)) (fSetIx j fi fv) := ⟨hp, sn_setIx hi hv⟩

/-! ### what is walked -/
/-- the iterator hands on the items -/
def ItOk (c : Ct) (z : Zs) (J : It) (F : Hp) (items : List D) : Prop := ∀ (i : Nat) (σ : L2.St) (H1 F1 : Hp) (e : DEnv), Ex F F1 → I2 c z σ H1 F1 e →
  (∀ d, items[i]? = some d → J.go i H1 ∧ ∀ x H2, J.yld i H1 x H2 → ∃ F2, Ex F1 F2 ∧ Ex H1 H2 ∧ I2 c z σ H2 F2 e ∧ Rp c F2 d x) ∧ (items.length ≤ i → J.stop i H1)
abbrev FI := DEnv → Res (List D × DEnv)
def SndI (c : Ct) (W : WX) (wi : TI) (fi : FI) : Prop := ∀ (z : Zs) σ H F e (R : It → Hp → Prop), I2 c z σ H F e →
  Wp (fi e) (fun r => ∀ J H' F', Ex F F' → I2 c z σ H' F' r.2 → (∀ z', ItOk c z' J F' r.1) → R J H') (Xp c z W σ F) → wi σ H R
structure DI (X : Cx) (c : Ct) (W : WX) (tg iter : Expr) (wi : TI) (fi : FI) : Prop where
  pi : PI X tg iter wi
  sn : SndI c W wi fi
/-- over a list -/
def fiL (f : FE) : FI := fun e => (f e).bind fun r => Res.of ((escape r.1 r.2).bind fun q => match q.1 with
  | .lst ds => some (ds, q.2)
  | .rol ds => some (ds, q.2)
  | _ => none)
theorem itOk_list {z' : Zs} {p : Addr} {vs : List V} {ds : List D} (h : SqL c.K F p vs) (r : RpL c F ds vs) : ItOk c z' (Itl c.K p) F ds := fun i σ H1 F1 e x I => by
  have h1 := ex_l (x.trans I.fh) h
  refine ⟨fun d hd => ?_, fun hl => ⟨vs, h1, by rw [← r.len]; exact hl⟩⟩
  obtain ⟨v, hv, rv⟩ := r.get hd
  refine ⟨⟨vs, v, h1, hv⟩, fun y H2 hy => ?_⟩
  obtain ⟨rfl, hy⟩ := hy
  have e1 := hy vs h1
  rw [hv] at e1; cases e1
  exact ⟨F1, Ex.refl F1, Ex.refl _, I, rv.mono x d v⟩
theorem sn_iL (ha : SndE c W ta fa) : SndI c W (iList c.K ta) (fiL fa) := fun z σ H F e R I h => by
  unfold fiL at h
  rw [Wp.bind] at h
  refine ha z σ H F e _ I (h.mono (fun r _ h v H1 F1 x1 I1 t1 => ?_) fun _ _ h => h)
  obtain ⟨o, ea, h⟩ := Wp.of h
  obtain ⟨⟨d, e1⟩, l1, ea⟩ := obind ea
  obtain ⟨G, x2, J, rr⟩ := t1.escape I1 l1
  cases d <;> try cases ea
  · obtain ⟨p, vs, rfl, h1, r⟩ := rr
    exact ⟨p, rfl, ⟨vs, sq_of (J.fh _ _ h1)⟩, h _ _ G (x1.trans x2) J fun z' => itOk_list (sq_of h1) r⟩
  · obtain ⟨p, vs, rfl, h1, r⟩ := rr
    exact ⟨p, rfl, ⟨vs, ex_l J.fh h1⟩, h _ _ G (x1.trans x2) J fun z' => itOk_list h1 r⟩
theorem di_list {tg : Expr} (hK : X.K = c.K := by rfl) (ha : DE X c W a ta fa) : DI X c W tg a (iList c.K ta) (fiL fa) := ⟨hK ▸ pi_list ha.pe, sn_iL ha.sn⟩
/-- over a tuple -/
def fiT (f : FE) : FI := fun e => (f e).bind fun r => Res.of ((escape r.1 r.2).bind fun q => match q.1 with
  | .tup ds => some (ds, q.2)
  | _ => none)
theorem itOk_tup {z' : Zs} {p : Addr} {vs : List V} {ds : List D} (h : SqT c.K F p vs) (r : RpL c F ds vs) : ItOk c z' (Itt c.K p) F ds := fun i σ H1 F1 e x I => by
  have h1 := ex_t (x.trans I.fh) h
  refine ⟨fun d hd => ?_, fun hl => ⟨vs, h1, by rw [← r.len]; exact hl⟩⟩
  obtain ⟨v, hv, rv⟩ := r.get hd
  refine ⟨⟨vs, v, h1, hv⟩, fun y H2 hy => ?_⟩
  obtain ⟨rfl, hy⟩ := hy
  have e1 := hy vs h1
  rw [hv] at e1; cases e1
  exact ⟨F1, Ex.refl F1, Ex.refl _, I, rv.mono x d v⟩
theorem sn_iT (ha : SndE c W ta fa) : SndI c W (iTup c.K ta) (fiT fa) := fun z σ H F e R I h => by
  unfold fiT at h
  rw [Wp.bind] at h
  refine ha z σ H F e _ I (h.mono (fun r _ h v H1 F1 x1 I1 t1 => ?_) fun _ _ h => h)
  obtain ⟨o, ea, h⟩ := Wp.of h
  obtain ⟨⟨d, e1⟩, l1, ea⟩ := obind ea
  obtain ⟨G, x2, J, rr⟩ := t1.escape I1 l1
  cases d <;> try cases ea
  obtain ⟨p, vs, rfl, h1, r⟩ := rr
  exact ⟨p, rfl, ⟨vs, ex_t J.fh h1⟩, h _ _ G (x1.trans x2) J fun z' => itOk_tup h1 r⟩
theorem di_tup {tg : Expr} (hK : X.K = c.K := by rfl) (ha : DE X c W a ta fa) : DI X c W tg a (iTup c.K ta) (fiT fa) := ⟨hK ▸ pi_tup ha.pe, sn_iT ha.sn⟩
/-- over range(n), range(a, b) -/
def irange (lo : Int) (n : Nat) : List D := (List.range n).map fun (i : Nat) => D.int (lo + (i : Int))
theorem itOk_range {z' : Zs} {lo : Int} {n : Nat} : ItOk c z' (Itr lo n) F (irange lo n) := fun i σ H1 F1 e x I => by
  refine ⟨fun d hd => ?_, fun hl => ?_⟩
  · unfold irange at hd
    rw [List.getElem?_map] at hd
    obtain ⟨k, hk, rfl⟩ := omap hd
    have hlt : i < n := by
      have := get_lt hk
      rwa [List.length_range] at this
    rw [List.getElem?_range hlt] at hk
    cases hk
    exact ⟨hlt, fun y H2 hy => ⟨F1, Ex.refl F1, by rw [hy.1]; exact Ex.refl _, by rw [hy.1]; exact I, hy.2⟩⟩
  · unfold irange at hl
    rw [List.length_map, List.length_range] at hl
    exact hl
def ok62 (i : Int) : Bool := decide (-(2 ^ 62) ≤ i) && decide (i < 2 ^ 62)
def fiR1 (fr : FA) : FI := fun e => (fr e).bind fun r => Res.of ((lookTs r.1 r.2).bind fun ds => match ds with
  | [.int n] => if ok62 n then some (irange 0 n.toNat, r.2) else none
  | _ => none)
def fiR2 (fr : FA) : FI := fun e => (fr e).bind fun r => Res.of ((lookTs r.1 r.2).bind fun ds => match ds with
  | [.int i, .int j] => if ok62 i && ok62 j then some (irange i (j - i).toNat, r.2) else none
  | _ => none)
theorem sn_iR1 {tr : TA} {fr : FA} (ha : SndA c W tr fr) : SndI c W (iRng1 tr) (fiR1 fr) := fun z σ H F e R I h => by
  unfold fiR1 at h
  rw [Wp.bind] at h
  refine ha z σ H F e _ I (h.mono (fun r _ h vs H1 F1 x1 I1 t1 => ?_) fun _ _ h => h)
  obtain ⟨o, ea, h⟩ := Wp.of h
  obtain ⟨ds, l1, ea⟩ := obind ea
  have k := t1.views I1 l1
  split at ea
  · rename_i n
    split at ea
    · rename_i hk
      cases ea
      obtain ⟨v, rfl, k'⟩ := k.one
      obtain ⟨b1, b2⟩ := Bool.and_eq_true_iff.mp hk
      exact ⟨n, by rw [k'.int], of_decide_eq_true b1, of_decide_eq_true b2, h _ H1 F1 x1 I1 fun z' => itOk_range⟩
    · cases ea
  · cases ea
theorem sn_iR2 {tr : TA} {fr : FA} (ha : SndA c W tr fr) : SndI c W (iRng2 tr) (fiR2 fr) := fun z σ H F e R I h => by
  unfold fiR2 at h
  rw [Wp.bind] at h
  refine ha z σ H F e _ I (h.mono (fun r _ h vs H1 F1 x1 I1 t1 => ?_) fun _ _ h => h)
  obtain ⟨o, ea, h⟩ := Wp.of h
  obtain ⟨ds, l1, ea⟩ := obind ea
  have k := t1.views I1 l1
  split at ea
  · rename_i i j
    split at ea
    · rename_i hk
      cases ea
      obtain ⟨v, w, rfl, k1, k2⟩ := k.two
      obtain ⟨b0, b3⟩ := Bool.and_eq_true_iff.mp hk
      obtain ⟨b1, b2⟩ := Bool.and_eq_true_iff.mp b0
      obtain ⟨b3, b4⟩ := Bool.and_eq_true_iff.mp b3
      exact ⟨i, j, by rw [k1.int, k2.int], ⟨of_decide_eq_true b1, of_decide_eq_true b2, of_decide_eq_true b3, of_decide_eq_true b4⟩, h _ H1 F1 x1 I1 fun z' => itOk_range⟩
    · cases ea
  · cases ea
theorem di_range1 {tg : Expr} {p : Pos} {tr : TA} {fr : FA} (hg : Gl X "range") (hm : X.mg "range" = none) (ha : DA X c W [a] tr fr) (hs : starEach [a] X.env = [(false, eval a X.env)] := by rfl) : DI X c W tg (.Call (.Name "range" p) [a] [] pos) (iRng1 tr) (fiR1 fr) := ⟨pi_range1 hg hm ha.pa hs, sn_iR1 ha.sn⟩
theorem di_range2 {tg : Expr} {p : Pos} {tr : TA} {fr : FA} (hg : Gl X "range") (hm : X.mg "range" = none) (ha : DA X c W [a, b] tr fr) (hs : starEach [a, b] X.env = [(false, eval a X.env), (false, eval b X.env)] := by rfl) (hs2 : starEach [b] X.env = [(false, eval b X.env)] := by rfl) :
    DI X c W tg (.Call (.Name "range" p) [a, b] [] pos) (iRng2 tr) (fiR2 fr) := ⟨pi_range2 hg hm ha.pa hs hs2, sn_iR2 ha.sn⟩

/-! ### for, while -/
def loopF (fg : D → DEnv → Option DEnv) (fb : FS) : List D → DEnv → Res Out
  | [], e => .ok (.nx e)
  | d :: ds, e => (Res.of (fg d e)).bind fun e1 => (fb e1).bind fun o => match o with
    | .nx e2 => loopF fg fb ds e2
    | .ct e2 => loopF fg fb ds e2
    | .bk e2 => .ok (.nx e2)
    | .rt t e2 => .ok (.rt t e2)
def fFor (fi : FI) (fg : D → DEnv → Option DEnv) (fb : FS) : FS := fun e => (fi e).bind fun r => loopF fg fb r.1 r.2
theorem sn_for {wi : TI} {fi : FI} {gg : TG} {fg : D → DEnv → Option DEnv} (hi : SndI c W wi fi) (hg : ∀ (z : Zs) σ H F e d v e' (Q : L2.St → Hp → Prop), I2 c z σ H F e → Rp c F d v → fg d e = some e' → (∀ σ', I2 c z σ' H F e' → Q σ' H) → gg v σ H Q) (hb : SndS c W ts f) :
    SndS c W (tFor wi gg ts) (fFor fi fg f) := fun z σ H F e D I h => by
  unfold fFor at h
  rw [Wp.bind] at h
  refine hi z σ H F e _ I (h.mono (fun r _ h J H1 F1 x1 I1 it => ?_) fun _ _ h => h σ)
  obtain ⟨items, e1⟩ := r
  refine ⟨fun i m σ' H' => m = items.length - i ∧ i ≤ items.length ∧ ∃ F' e', Ex F1 F' ∧ I2 c z σ' H' F' e' ∧ Wp (loopF fg f (items.drop i) e') (PoS c z F' D) (XpS c z W F'), ⟨items.length, rfl, Nat.zero_le _, F1, e1, Ex.refl F1, I1, h.mono (fun _ _ h => h.mono x1) fun _ _ h => h.mono x1⟩, ?_⟩
  rintro i m σ' H' ⟨rfl, hle, F', e', x', I', h'⟩
  obtain ⟨it1, it2⟩ := it z i σ' H' F' e' x' I'
  by_cases hlt : i < items.length
  · have hd : items[i]? = some items[i] := List.getElem?_eq_getElem hlt
    obtain ⟨go, yld⟩ := it1 _ hd
    rw [List.drop_eq_getElem_cons hlt] at h'
    unfold loopF at h'
    rw [Wp.bind] at h'
    obtain ⟨e2, l1, h'⟩ := Wp.of h'
    rw [Wp.bind] at h'
    refine .inr ⟨go, fun σ2 H2 => i + 1 ≤ items.length ∧ ∃ F2 e2, Ex F1 F2 ∧ I2 c z σ2 H2 F2 e2 ∧ Wp (loopF fg f (items.drop (i + 1)) e2) (PoS c z F2 D) (XpS c z W F2), fun σ2 H2 q => ⟨items.length - (i + 1), by omega, rfl, q⟩, fun y H2 hy => ?_⟩
    obtain ⟨F2, x2, _, J2, r2⟩ := yld y H2 hy
    refine hg z σ' H2 F2 e' _ y e2 _ J2 r2 l1 fun σ3 J3 => ?_
    refine hb z σ3 H2 F2 e2 _ J3 (h'.mono (fun o _ h => ?_) fun _ _ h => h.mono x2)
    cases o with
    | nx e4 => exact fun σ4 H4 F4 x4 I4 => ⟨hlt, F4, e4, (x'.trans x2).trans x4, I4, h.mono (fun _ _ h => h.mono (x2.trans x4)) fun _ _ h => h.mono (x2.trans x4)⟩
    | ct e4 => exact fun σ4 H4 F4 x4 I4 => ⟨hlt, F4, e4, (x'.trans x2).trans x4, I4, h.mono (fun _ _ h => h.mono (x2.trans x4)) fun _ _ h => h.mono (x2.trans x4)⟩
    | bk e4 => exact fun σ4 H4 F4 x4 I4 => h σ4 H4 F4 (x2.trans x4) I4
    | rt t e4 => exact fun v σ4 H4 F4 x4 I4 t4 => h v σ4 H4 F4 (x2.trans x4) I4 t4
  · have e0 : i = items.length := by omega
    subst e0
    rw [List.drop_length] at h'
    exact .inl ⟨it2 (Nat.le_refl _), h' σ' H' F' (Ex.refl F') I'⟩
theorem ds_for {tg iter : Expr} {wi : TI} {fi : FI} {gg : TG} {fg : D → DEnv → Option DEnv} (hp : PassesOwn (model X.prog X.w) X.A X.env X.xe) (hc : X.calm = true) (hi : DI X c W tg iter wi fi) (hg : DG X c tg gg fg) (hb : DSs X c W sts ts f)
    (hs : ∀ x, foldedSetIterable iter X.env x = pure x := by intro _; rfl) : DS X c W (.For tg iter sts [] pos) (tFor wi gg ts) (fFor fi fg f) := ⟨ps_for hp hc hi.pi hg.pg hb.ps hs, sn_for hi.sn hg.sn hb.sn⟩
def loopW (fc : FT) (fb : FS) : Nat → DEnv → Res Out
  | 0, _ => .stuck
  | n + 1, e => (fc e).bind fun r => if r.1 = true then (fb r.2).bind fun o => match o with
    | .nx e2 => loopW fc fb n e2
    | .ct e2 => loopW fc fb n e2
    | .bk e2 => .ok (.nx e2)
    | .rt t e2 => .ok (.rt t e2)
    else .ok (.nx r.2)
theorem sn_while (n : Nat) (hc : SndT c W tt ft) (hb : SndS c W ts f) : SndS c W (tWhile tt ts) (loopW ft f n) := fun z σ H F e D I h => by
  refine ⟨fun m σ' H' => ∃ F' e', Ex F F' ∧ I2 c z σ' H' F' e' ∧ Wp (loopW ft f m e') (PoS c z F' D) (XpS c z W F'), ⟨n, F, e, Ex.refl F, I, h⟩, ?_⟩
  rintro m σ' H' ⟨F', e', x', I', h'⟩
  cases m with
  | zero => exact h'.elim
  | succ m =>
    unfold loopW at h'
    rw [Wp.bind] at h'
    refine hc z σ' H' F' e' _ I' (h'.mono (fun r _ h H1 F1 x1 I1 => ?_) fun _ _ h => h σ')
    obtain ⟨b, e1⟩ := r
    cases b with
    | false =>
      rw [if_neg Bool.false_ne_true] at h
      show D.nx σ' H1
      exact h σ' H1 F1 x1 I1
    | true =>
      rw [if_pos rfl] at h ⊢
      rw [Wp.bind] at h
      refine ⟨fun σ2 H2 => ∃ F2 e2, Ex F F2 ∧ I2 c z σ2 H2 F2 e2 ∧ Wp (loopW ft f m e2) (PoS c z F2 D) (XpS c z W F2), fun σ2 H2 q => ⟨m, Nat.lt_succ_self _, q⟩, ?_⟩
      refine hb z σ' H1 F1 e1 _ I1 (h.mono (fun o _ h => ?_) fun _ _ h => h.mono x1)
      cases o with
      | nx e4 => exact fun σ4 H4 F4 x4 I4 => ⟨F4, e4, (x'.trans x1).trans x4, I4, h.mono (fun _ _ h => h.mono (x1.trans x4)) fun _ _ h => h.mono (x1.trans x4)⟩
      | ct e4 => exact fun σ4 H4 F4 x4 I4 => ⟨F4, e4, (x'.trans x1).trans x4, I4, h.mono (fun _ _ h => h.mono (x1.trans x4)) fun _ _ h => h.mono (x1.trans x4)⟩
      | bk e4 => exact fun σ4 H4 F4 x4 I4 => h σ4 H4 F4 (x1.trans x4) I4
      | rt t e4 => exact fun v σ4 H4 F4 x4 I4 t4 => h v σ4 H4 F4 (x1.trans x4) I4 t4
theorem ds_while {t : Expr} (n : Nat) (hp : PassesOwn (model X.prog X.w) X.A X.env X.xe) (hc : DT X c W t tt ft) (hb : DSs X c W sts ts f) : DS X c W (.While t sts [] pos) (tWhile tt ts) (loopW ft f n) := ⟨ps_while hp hc.pt hb.ps, sn_while n hc.sn hb.sn⟩
end
end DL

/-! DL, part f: comprehensions, defs and their calls, fields, new instances. -/
namespace DL
open PySem L2 Evl

section
variable {c : Ct} {z : Zs} {σ σw : L2.St} {H H' F F' G : Hp} {e e' : DEnv}
/-! ### a frame's names lent -/
def lendB : Option B → Option B
  | some (.ow d) => some (.br d)
  | some (.ex _) => none
  | x => x
def lendE (e : DEnv) : DEnv := e.map lendB
def lendZ (σ : L2.St) (H F : Hp) (e : DEnv) : Zs := ⟨H, F, fun p => ∃ i, RootAt σ e i p, fun i => ((σ[i]?).bind id).getD .non⟩
theorem lend_get {i : Nat} {b : B} (h : (lendE e)[i]? = some (some b)) : (∃ d, b = .sh d ∧ e[i]? = some (some (.sh d))) ∨ ∃ d b0, b = .br d ∧ e[i]? = some (some b0) ∧ b0.isRoot = true ∧ b0.d = d := by
  unfold lendE at h
  rw [List.getElem?_map] at h
  obtain ⟨x, h1, h2⟩ := omap h
  cases x with
  | none => cases h2
  | some b0 =>
    cases b0 with
    | sh d => cases h2; exact .inl ⟨d, rfl, h1⟩
    | ow d => cases h2; exact .inr ⟨d, _, rfl, h1, rfl, rfl⟩
    | br d => cases h2; exact .inr ⟨d, _, rfl, h1, rfl, rfl⟩
    | ex x => cases h2
theorem I2.lend (I : I2 c z σ H F e) : I2 c (lendZ σ H F e) σ H F (lendE e) := by
  refine ⟨by unfold lendE; rw [List.length_map]; exact I.len, Ex.refl F, I.fh, fun p o h _ => h, fun i b h => ?_, fun i j p ⟨b, h1, h2, h3⟩ ⟨b', h1', h2', h3'⟩ => ?_, fun p ⟨i, h⟩ => ?_, fun p _ h => h, fun i d v h hv => ?_⟩
  · rcases lend_get h with ⟨d, rfl, h1⟩ | ⟨d, b0, rfl, h1, h2, rfl⟩
    · exact I.slot i _ h1
    · obtain ⟨p, hp, o, _⟩ := I.own h1 h2
      exact ⟨_, hp, p, rfl, o, ⟨i, b0, h1, h2, hp⟩⟩
  · rcases lend_get h1 with ⟨d, rfl, q⟩ | ⟨d, b0, rfl, q, q2, rfl⟩
    · cases h2
    · rcases lend_get h1' with ⟨d', rfl, q'⟩ | ⟨d', b0', rfl, q', q2', rfl⟩
      · cases h2'
      · exact I.dist i j p ⟨b0, q, q2, h3⟩ ⟨b0', q', q2', h3'⟩
  · obtain ⟨d, o⟩ := I.rootAt h
    exact o.at
  · show ((σ[i]?).bind id).getD .non = v
    rw [hv]
    rfl
def backB : Option B → Option B → Option B
  | some (.sh d), _ => some (.sh d)
  | some (.ex x), _ => some (.ex x)
  | some (.ow _), some (.br d) => some (.ow d)
  | some (.br _), some (.br d) => some (.br d)
  | _, _ => none
def backE : DEnv → DEnv → DEnv
  | [], _ => []
  | b :: e, e2 => backB b (e2.headD none) :: backE e e2.tail
theorem back_len : ∀ (e e2 : DEnv), (backE e e2).length = e.length
  | [], _ => rfl
  | _ :: e, e2 => by unfold backE; rw [List.length_cons, List.length_cons, back_len e]
theorem back_get : ∀ {e e2 : DEnv} {i : Nat} {b : B}, (backE e e2)[i]? = some (some b) → ∃ b0, e[i]? = some (some b0) ∧ ((b = b0 ∧ b0.isRoot = false) ∨ (b0.isRoot = true ∧ ∃ d, e2[i]? = some (some (.br d)) ∧ b = b0.re d))
  | [], _, _, _, h => by simp [backE] at h
  | x :: e, e2, 0, b, h => by
    unfold backE at h
    have h' : backB x (e2.headD none) = some b := by simpa using h
    have e0 : e2.headD none ≠ none → e2[0]? = some (e2.headD none) := by
      cases e2 with
      | nil => exact fun z => absurd rfl z
      | cons y r => exact fun _ => rfl
    cases x with
    | none => cases h'
    | some b0 =>
      refine ⟨b0, rfl, ?_⟩
      cases b0 with
      | sh d => cases h'; exact .inl ⟨rfl, rfl⟩
      | ex x => cases h'; exact .inl ⟨rfl, rfl⟩
      | ow d =>
        generalize hq : e2.headD none = q at h' e0
        cases q with
        | none => cases h'
        | some b1 =>
          cases b1 <;> try cases h'
          rename_i d1
          exact .inr ⟨rfl, d1, e0 (fun z => nomatch z), rfl⟩
      | br d =>
        generalize hq : e2.headD none = q at h' e0
        cases q with
        | none => cases h'
        | some b1 =>
          cases b1 <;> try cases h'
          rename_i d1
          exact .inr ⟨rfl, d1, e0 (fun z => nomatch z), rfl⟩
  | x :: e, e2, i + 1, b, h => by
    unfold backE at h
    obtain ⟨b0, h1, h2⟩ := back_get (e := e) (e2 := e2.tail) (i := i) (b := b) (by simpa using h)
    refine ⟨b0, by simpa using h1, ?_⟩
    rcases h2 with h2 | ⟨h2, d, h3, h4⟩
    · exact .inl h2
    · refine .inr ⟨h2, d, ?_, h4⟩
      cases e2 with
      | nil => simp at h3
      | cons y r => simpa using h3
theorem I2.back (I : I2 c z σ H F e) (J : I2 c (lendZ σ H F e) σw H' F' e') : I2 c z σ H' F' (backE e e') := by
  have kb : ∀ p, H p ≠ none → H' p ≠ none := fun p h => by
    by_cases hb : (lendZ σ H F e).Bo p
    · obtain ⟨o, ho⟩ := J.bo p hb
      rw [ho]; exact fun z => nomatch z
    · cases q : H p with
      | none => exact absurd q h
      | some o => rw [J.keep p o q hb]; exact fun z => nomatch z
  refine I.change (L := List.range e.length) (back_len e e') J.f0 J.fh (fun p o h1 h2 => J.keep p o h1 fun ⟨i, hi⟩ => h2 i (List.mem_range.mpr (get_lt hi.choose_spec.1)) hi) kb (fun p h1 h2 => J.nf p h1 h2) fun i b h => ?_
  obtain ⟨b0, h1, h2⟩ := back_get h
  refine ⟨b0, h1, ?_⟩
  rcases h2 with ⟨rfl, h2⟩ | ⟨h2, d, h3, rfl⟩
  · exact .inl ⟨rfl, fun z => by rw [h2] at z; cases z⟩
  · obtain ⟨v, hv, p, rfl, o, _⟩ := J.slot i _ h3
    have e1 := J.brv i d _ h3 hv
    obtain ⟨p0, hp0, _⟩ := I.own h1 h2
    have e2 : ((σ[i]?).bind id).getD .non = V.ref p := e1
    rw [hp0] at e2
    have e3 : V.ref p0 = V.ref p := e2
    cases e3
    exact .inr ⟨h2, d, _, rfl, hp0, o⟩

/-! ### comprehensions -/
def wipeE (e : DEnv) : List Nat → DEnv
  | [] => e
  | v :: vs => (wipeE e vs).set v none
theorem I2.wipe (I : I2 c z σ H F e) : ∀ vs : List Nat, I2 c z (L2.wipe σ vs) H F (wipeE e vs)
  | [] => I
  | v :: vs => (I2.wipe I vs).unbind
end

/-- no name owns a new object -/
def noOw (e : DEnv) : Bool := e.all fun b => match b with
  | some (.ow _) => false
  | _ => true
/-- the block's slots bear nothing that is owned -/
def clearAt (e : DEnv) (vs : List Nat) : Bool := vs.all fun i => match e[i]? with
  | some (some (.ow _)) => false
  | some (some (.br _)) => false
  | _ => true
def loopC (fg : D → DEnv → Option DEnv) (ft : FT) (fe : FE) (vs : List Nat) : List D → List D → DEnv → Option (List D × DEnv)
  | [], acc, e => some (acc, e)
  | d :: ds, acc, e => if noOw e then (fg d e).bind fun e1 => match ft e1 with
    | .ok (true, e2) => match fe e2 with
      | .ok (t, e3) => (escape t e3).bind fun q => if noOw q.2 && decide (acc.length < lim) then loopC fg ft fe vs ds (acc ++ [q.1]) (wipeE q.2 vs) else none
      | _ => none
    | .ok (false, e2) => if noOw e2 then loopC fg ft fe vs ds acc (wipeE e2 vs) else none
    | _ => none
    else none
def fLc (fi : FI) (fg : D → DEnv → Option DEnv) (ft : FT) (fe : FE) (vs : List Nat) : FE := fun e => (fi e).bind fun r => Res.of (if clearAt r.2 vs then (loopC fg ft fe vs r.1 [] (wipeE (lendE r.2) vs)).map fun q => (.nw (.lst q.1), backE r.2 q.2) else none)
/-- no wish of an exception -/
abbrev W0 : WX := fun _ _ _ _ => False

section
variable {X : Cx} {c : Ct} {z : Zs} {W : WX} {σ σ' : L2.St} {H H' F F' G : Hp} {e e' : DEnv} {wi : TI} {fi : FI} {g : TG} {fg : D → DEnv → Option DEnv} {tt : TT} {ft : FT} {te : TE} {fe : FE} {vs : List Nat}
theorem noOw_get {i : Nat} {d : D} (h : noOw e = true) (h1 : e[i]? = some (some (.ow d))) : False := by
  have := List.all_eq_true.mp h _ (List.mem_of_getElem? h1)
  cases this
theorem I2.rebase (I : I2 c z σ H F e) (no : noOw e = true) : I2 c ⟨H, F, z.Bo, z.V0⟩ σ H F e := by
  refine ⟨I.len, Ex.refl F, I.fh, fun p o h _ => h, fun i b h => ?_, I.dist, I.bo, fun p _ h => h, I.brv⟩
  obtain ⟨v, hv, r⟩ := I.slot i b h
  refine ⟨v, hv, ?_⟩
  cases b with
  | sh d => exact r
  | ow d => exact (noOw_get no h).elim
  | br d => exact r
  | ex x => exact r
theorem I2.h0 (I : I2 c z σ H F e) {p : Addr} (h : z.H0 p ≠ none) : H p ≠ none := by
  cases q : z.H0 p with
  | none => exact absurd q h
  | some o =>
    by_cases hB : z.Bo p
    · obtain ⟨u, k⟩ := I.bo p hB; rw [k]; exact fun z => nomatch z
    · rw [I.keep p o q hB]; exact fun z => nomatch z
theorem I2.unbase (I : I2 c z σ H F e) (J : I2 c ⟨H, F, z.Bo, z.V0⟩ σ' H' F' e') (no : noOw e' = true) : I2 c z σ' H' F' e' := by
  refine ⟨J.len, I.f0.trans J.f0, J.fh, fun p o h hb => J.keep p o (I.keep p o h hb) hb, fun i b h => ?_, J.dist, J.bo, fun p h1 h2 => J.nf p (I.h0 h1) (I.nf p h1 h2), J.brv⟩
  obtain ⟨v, hv, r⟩ := J.slot i b h
  refine ⟨v, hv, ?_⟩
  cases b with
  | sh d => exact r
  | ow d => exact (noOw_get no h).elim
  | br d => exact r
  | ex x => exact r
theorem I2.other {Da : Addr} {o : HO} (I : I2 c z σ H F e) (no : noOw e = true) (hF : F Da = none) (h0 : z.H0 Da = none) (hb : ¬ z.Bo Da) : I2 c z σ (upd H Da o) F e := by
  refine ⟨I.len, I.f0, fun a u h => ?_, fun p u h hb' => ?_, fun i b h => ?_, I.dist, fun p h => ?_, I.nf, I.brv⟩
  · by_cases ha : a = Da
    · subst ha; rw [hF] at h; cases h
    · rw [upd_ne ha]; exact I.fh _ _ h
  · by_cases ha : p = Da
    · subst ha; rw [h0] at h; cases h
    · rw [upd_ne ha]; exact I.keep p u h hb'
  · obtain ⟨v, hv, r⟩ := I.slot i b h
    refine ⟨v, hv, ?_⟩
    cases b with
    | sh d => exact r
    | ow d => exact (noOw_get no h).elim
    | ex x => exact r
    | br d =>
      obtain ⟨p, rfl, w, hB⟩ := r
      have ne : p ≠ Da := fun z => hb (z ▸ hB)
      exact ⟨p, rfl, w.mono (Ex.refl F) w.1 (fun u hu => by rw [upd_ne ne]; exact hu), hB⟩
  · obtain ⟨u, hu⟩ := I.bo p h
    have ne : p ≠ Da := fun z => hb (z ▸ h)
    exact ⟨u, by rw [upd_ne ne]; exact hu⟩
theorem wipe_key : ∀ (vs : List Nat) (σ τ : L2.St), σ.length = τ.length → (∀ j, j ∉ vs → σ[j]? = τ[j]?) → L2.wipe σ vs = L2.wipe τ vs := by
  intro vs
  induction vs with
  | nil =>
    intro σ τ hl h
    exact List.ext_getElem? fun j => h j (by simp)
  | cons v vs ih =>
    intro σ τ hl h
    unfold L2.wipe
    have e1 : L2.wipe (σ.set v none) vs = L2.wipe (τ.set v none) vs := ih _ _ (by rw [List.length_set, List.length_set]; exact hl) fun j hj => by
      by_cases ej : v = j
      · subst ej
        rw [List.getElem?_set, List.getElem?_set, hl]
        simp
      · rw [List.getElem?_set_ne ej, List.getElem?_set_ne ej]
        exact h j (by simp; exact ⟨fun z => ej z.symm, hj⟩)
    have com : ∀ (vs : List Nat) (σ : L2.St), (L2.wipe σ vs).set v none = L2.wipe (σ.set v none) vs := by
      intro vs
      induction vs with
      | nil => intro σ; rfl
      | cons w vs ih2 =>
        intro σ
        unfold L2.wipe
        rw [← ih2 σ]
        by_cases ew : v = w
        · subst ew; rfl
        · exact List.set_comm _ _ (fun z => ew z.symm)
    rw [com, com]
    exact e1
theorem wipe_set {i : Nat} {x : Option V} (hi : i ∈ vs) : L2.wipe (σ.set i x) vs = L2.wipe σ vs := wipe_key vs _ _ (by rw [List.length_set]) fun j hj => by
  have hne : i ≠ j := fun z => hj (z ▸ hi)
  rw [List.getElem?_set_ne hne]
theorem wipe_idem : L2.wipe (L2.wipe σ vs) vs = L2.wipe σ vs := wipe_key vs _ _ (wipe_length _ _) fun j hj => wipe_out hj
theorem sn_lc (hi : SndI c W wi fi) (hg : ∀ (z : Zs) σ H F e d v e' (Q : L2.St → Hp → Prop), I2 c z σ H F e → Rp c F d v → fg d e = some e' → (∀ σ', I2 c z σ' H F e' → L2.wipe σ' vs = L2.wipe σ vs → Q σ' H) → g v σ H Q)
    (ht : SndT c W0 tt ft) (he : SndE c W0 te fe) : SndE c W (tLc wi g tt te vs) (fLc fi fg ft fe vs) := fun z σ H F e Q I h => by
  unfold fLc at h
  rw [Wp.bind] at h
  refine hi z σ H F e _ I (h.mono (fun r _ h J H1 F1 x1 I1 it => ?_) fun _ _ h => h)
  obtain ⟨items, e1⟩ := r
  obtain ⟨o, ea, h⟩ := Wp.of h
  dsimp only at ea
  split at ea
  · rename_i hclear
    obtain ⟨⟨res, eo⟩, lc, rfl⟩ := omap ea
    intro Da hDa
    have hF1 : F1 Da = none := fresh_back I1.fh hDa
    have hBo : ¬ (lendZ σ H1 F1 e1).Bo Da := fun ⟨i, hi⟩ => I1.noroot hDa i hi
    have hH0 : (lendZ σ H1 F1 e1).H0 Da = none := hDa
    refine ⟨fun i m H2 => m = items.length - i ∧ i ≤ items.length ∧ ∃ F2 e2 acc vs2, Ex F1 F2 ∧ H2 Da = some (.lst vs2) ∧ F2 Da = none ∧ RpL c F2 acc vs2 ∧
      I2 c (lendZ σ H1 F1 e1) (L2.wipe σ vs) H2 F2 e2 ∧ loopC fg ft fe vs (items.drop i) acc e2 = some (res, eo),
      ⟨items.length, rfl, Nat.zero_le _, F1, wipeE (lendE e1) vs, [], [], Ex.refl F1, upd_same, hF1, rfl, (I1.lend.wipe vs).alloc (Ex.new hDa), lc⟩, ?_⟩
    rintro i m H2 ⟨rfl, hle, F2, e2, acc, vs2, x2, hacc, hFD, racc, J2, lc'⟩
    by_cases hlt : i < items.length
    · have hd : items[i]? = some items[i] := List.getElem?_eq_getElem hlt
      rw [List.drop_eq_getElem_cons hlt] at lc'
      unfold loopC at lc'
      split at lc'
      · rename_i hno
        obtain ⟨e3, l3, lc'⟩ := obind lc'
        have R2 := J2.rebase hno
        obtain ⟨it1, _⟩ := it ⟨H2, F2, (lendZ σ H1 F1 e1).Bo, (lendZ σ H1 F1 e1).V0⟩ i _ H2 F2 e2 x2 R2
        obtain ⟨go, yld⟩ := it1 _ hd
        refine .inr ⟨go, fun H' => i + 1 ≤ items.length ∧ ∃ F2 e2 acc vs2, Ex F1 F2 ∧ H' Da = some (.lst vs2) ∧ F2 Da = none ∧ RpL c F2 acc vs2 ∧
          I2 c (lendZ σ H1 F1 e1) (L2.wipe σ vs) H' F2 e2 ∧ loopC fg ft fe vs (items.drop (i + 1)) acc e2 = some (res, eo), fun H' q => ⟨items.length - (i + 1), by omega, rfl, q⟩, fun y H3 hy => ?_⟩
        obtain ⟨F3, x3, xh3, J3, r3⟩ := yld y H3 hy
        refine hg _ (L2.wipe σ vs) H3 F3 e2 _ y e3 _ J3 r3 l3 fun σ4 J4 w4 => ?_
        have w4' : L2.wipe σ4 vs = L2.wipe σ vs := w4.trans wipe_idem
        refine ⟨w4', ?_⟩
        -- what stands at Da through a state of this turn
        have stays : ∀ {σ5 H5 F5 e5}, I2 c ⟨H2, F2, (lendZ σ H1 F1 e1).Bo, (lendZ σ H1 F1 e1).V0⟩ σ5 H5 F5 e5 → H5 Da = some (.lst vs2) ∧ F5 Da = none := fun {σ5 H5 F5 e5} K => ⟨K.keep Da _ hacc hBo, K.nf Da (by show H2 Da ≠ none; rw [hacc]; exact fun z => nomatch z) hFD⟩
        cases hft : ft e3 with
        | stuck => rw [hft] at lc'; cases lc'
        | exc x e' => rw [hft] at lc'; cases lc'
        | ok r =>
          obtain ⟨b, e5⟩ := r
          rw [hft] at lc'
          refine ht _ σ4 H3 F3 e3 _ J4 ?_
          rw [hft]
          show ∀ H' F', Ex F3 F' → I2 c _ σ4 H' F' e5 → _
          intro H5 F5 x5 J5
          cases b with
          | false =>
            dsimp only at lc'
            split at lc'
            · rename_i hno5
              rw [if_neg Bool.false_ne_true]
              obtain ⟨k1, k2⟩ := stays J5
              have U := (J2.unbase J5 hno5).wipe vs
              rw [w4'] at U
              exact ⟨hlt, F5, _, acc, vs2, (x2.trans x3).trans x5, k1, k2, racc.mono (x3.trans x5) _ _, U, lc'⟩
            · cases lc'
          | true =>
            dsimp only at lc'
            rw [if_pos rfl]
            cases hfe : fe e5 with
            | stuck => rw [hfe] at lc'; cases lc'
            | exc x e' => rw [hfe] at lc'; cases lc'
            | ok r =>
              obtain ⟨t, e6⟩ := r
              rw [hfe] at lc'
              refine he _ σ4 H5 F5 e5 _ J5 ?_
              rw [hfe]
              show ∀ v H' F', Ex F5 F' → I2 c _ σ4 H' F' e6 → TR c _ F' H' σ4 e6 t v → _
              intro v H6 F6 x6 J6 t6
              obtain ⟨⟨d, e7⟩, l7, lc'⟩ := obind lc'
              dsimp only at lc'
              split at lc'
              · rename_i hk
                obtain ⟨hno7, hlen⟩ := Bool.and_eq_true_iff.mp hk
                have hlen := of_decide_eq_true hlen
                obtain ⟨F7, x7, J7, r7⟩ := t6.escape J6 l7
                obtain ⟨k1, k2⟩ := stays J7
                have U0 := (J2.unbase J7 hno7)
                have U := (U0.other (o := .lst (vs2 ++ [v])) hno7 k2 hH0 hBo).wipe vs
                rw [w4'] at U
                have xx : Ex F2 F7 := ((x3.trans x5).trans x6).trans x7
                exact ⟨vs2, k1, by rw [← racc.len]; exact lim_lt hlen, hlt, F7, _, acc ++ [d], vs2 ++ [v], x2.trans xx, upd_same, k2, (racc.mono xx _ _).app (RpL.one r7), U, lc'⟩
              · cases lc'
      · cases lc'
    · have e0 : i = items.length := by omega
      subst e0
      rw [List.drop_length] at lc'
      cases lc'
      obtain ⟨_, it2⟩ := it (lendZ σ H1 F1 e1) items.length _ H2 F2 _ x2 J2
      have B := I1.back J2
      refine .inl ⟨it2 (Nat.le_refl _), h _ H2 F2 (x1.trans x2) B ⟨Da, rfl, ⟨hFD, vs2, hacc, racc⟩, I1.fresh0 hDa, fun i ⟨b, h1, h2, h3⟩ => ?_⟩⟩
      obtain ⟨b0, h4, h5⟩ := back_get h1
      have hr : b0.isRoot = true := by
        rcases h5 with ⟨rfl, h5⟩ | ⟨h5, _⟩
        · rw [h5] at h2; cases h2
        · exact h5
      exact I1.noroot hDa i ⟨b0, h4, hr, h3⟩
  · cases ea

/-- a target within a comprehension: it sets only the block's own names -/
structure DGC (X : Cx) (c : Ct) (vs : List Nat) (tg : Expr) (g : TG) (fg : D → DEnv → Option DEnv) : Prop where
  pg : PG X tg g
  sn : ∀ (z : Zs) σ H F e d v e' (Q : L2.St → Hp → Prop), I2 c z σ H F e → Rp c F d v → fg d e = some e' → (∀ σ', I2 c z σ' H F e' → L2.wipe σ' vs = L2.wipe σ vs → Q σ' H) → g v σ H Q
theorem dgc_name {i : Nat} {x : Str} {pos : Pos} (hN : X.N.Nodup) (hi : X.N[i]? = some x) (hx : Loc X.env.scope x) (hv : i ∈ vs) (hf : X.fn x = true ∨ X.env.scope.names.lookup x = some .local := by first | exact .inl rfl | exact .inr rfl | assumption) :
    DGC X c vs (.Name x pos) (gName i) (fgName i) := by
  refine ⟨pg_name hN hi hx hf, fun z σ H F e d v e' Q I r l k => ?_⟩
  unfold fgName at l
  split at l
  · rename_i hl
    cases l
    exact k _ (I.store (by rw [← I.len]; exact hl) r) (wipe_set hv)
  · cases l
structure DGCs (X : Cx) (c : Ct) (vs : List Nat) (tgs : List Expr) (g : TGs) (fg : List D → DEnv → Option DEnv) : Prop where
  pg : PGs X tgs g
  sn : ∀ (z : Zs) σ H F e ds ws e' (Q : L2.St → Hp → Prop), I2 c z σ H F e → RpL c F ds ws → fg ds e = some e' → (∀ σ', I2 c z σ' H F e' → L2.wipe σ' vs = L2.wipe σ vs → Q σ' H) → g ws σ H Q
theorem dgcs_nil : DGCs X c vs [] gNil fgNil := ⟨pgs_nil, fun z σ H F e ds ws e' Q I r l k => by
  cases ds with
  | nil => cases l; cases r; exact ⟨rfl, k σ I rfl⟩
  | cons _ _ => cases l⟩
theorem dgcs_cons {a : Expr} {es : List Expr} {g1 : TG} {f1 : D → DEnv → Option DEnv} {gs : TGs} {fs : List D → DEnv → Option DEnv} (h1 : DGC X c vs a g1 f1) (h2 : DGCs X c vs es gs fs)
    (hs : (assignEach (a :: es) X.env).map (·.2) = assign a X.env :: (assignEach es X.env).map (·.2) := by rfl) : DGCs X c vs (a :: es) (gCons g1 gs) (fgCons f1 fs) := ⟨pgs_cons h1.pg h2.pg hs, fun z σ H F e ds ws e' Q I r l k => by
  cases ds with
  | nil => cases l
  | cons d ds =>
    obtain ⟨v, w, rfl, r1, r2⟩ := r
    obtain ⟨e1, l1, l2⟩ := obind l
    exact ⟨v, w, rfl, h1.sn z σ H F e d v e1 _ I r1 l1 fun σ1 I1 w1 => h2.sn z σ1 H F e1 ds w e' Q I1 r2 l2 fun σ2 I2 w2 => k σ2 I2 (w2.trans w1)⟩⟩
theorem dgc_tup {es : List Expr} {k n : Nat} {pos : Pos} {gs : TGs} {fs : List D → DEnv → Option DEnv} (hK : X.K = c.K := by rfl) (h : DGCs X c vs es gs fs) (hc : X.calm = true := by rfl)
    (hn : (assignEach es X.env).length = n := by rfl) (hst : (assignEach es X.env).findIdx? (·.1) = none := by rfl) : DGC X c vs (.Tuple es k pos) (gTup c.K n gs) (fgTup n fs) := by
  refine ⟨hK ▸ pg_tup hc h.pg hn hst, fun z σ H F e d v e' Q I r l q => ?_⟩
  cases d <;> try cases l
  rename_i ds
  unfold fgTup at l
  dsimp only at l
  split at l
  · rename_i hl
    obtain ⟨p, ws, rfl, h1, h2⟩ := r
    exact ⟨p, ws, rfl, ex_t I.fh h1, by rw [← h2.len]; exact hl, h.sn z σ H F e ds ws e' Q I h2 l q⟩
  · cases l
theorem dg_tup' {es : List Expr} {k n : Nat} {pos : Pos} {gs : TGs} {fs : List D → DEnv → Option DEnv} (hK : X.K = c.K := by rfl) (h : DGs X c es gs fs) (hc : X.calm = true := by rfl)
    (hn : (assignEach es X.env).length = n := by rfl) (hst : (assignEach es X.env).findIdx? (·.1) = none := by rfl) : DG X c (.Tuple es k pos) (gTup c.K n gs) (fgTup n fs) := dg_tup hK hc h (pg_tup hc h.pg hn hst)

/-- the tests of a comprehension -/
structure DTs (X : Cx) (c : Ct) (W : WX) (ifs : List Expr) (tt : TT) (f : FT) : Prop where
  pts : PTs X ifs tt
  sn : SndT c W tt f
def fYes : FT := fun e => .ok (true, e)
theorem dts_nil : DTs X c W [] tYes fYes := ⟨pts_nil, fun z σ H F e Q I h => h H F (Ex.refl F) I⟩
theorem dts_one {a : Expr} (h : DT X c W a tt ft) : DTs X c W [a] tt ft := ⟨pts_one h.pt, h.sn⟩
abbrev Blk (X : Cx) (scope : Scope) (s : Shared) (H : Hp) (C : Addr) (cl : List (Str × Addr)) (fp : List Addr) : Cx := X.blk s H scope (compEnvC scope cl C X.env) fp
theorem de_lc {elt tg iter : Expr} {ifs : List Expr} {scope : Scope} {own : List (Str × Nat)} {pos : Pos} (hc : X.calm = true) (hN : X.N.Nodup) (hi : DI X c W tg iter wi fi) (ok : BlkOk X.N X.env.scope scope own)
    (hg : ∀ s H C cl fp, DGC (Blk X scope s H C cl fp) c (own.map (·.2)) tg g fg) (ht : ∀ s H C cl fp, DTs (Blk X scope s H C cl fp) c W0 ifs tt ft) (he : ∀ s H C cl fp, DE (Blk X scope s H C cl fp) c W0 elt te fe)
    (hs : ∀ x, foldedSetIterable iter X.env x = pure x := by intro _; rfl) : DE X c W (.ListComp elt [⟨tg, iter, ifs, 0⟩] scope pos) (tLc wi g tt te (own.map (·.2))) (fLc fi fg ft fe (own.map (·.2))) :=
  ⟨pe_lc hc hN hi.pi ok (fun s H C cl fp => (hg s H C cl fp).pg) (fun s H C cl fp => (ht s H C cl fp).pts) (fun s H C cl fp => (he s H C cl fp).pe) hs,
    sn_lc hi.sn (hg {} (fun _ => none) 0 [] []).sn (ht {} (fun _ => none) 0 [] []).sn (he {} (fun _ => none) 0 [] []).sn⟩
theorem ds_setLc {i : Nat} {y : Str} {py : Pos} {elt tg iter : Expr} {ifs : List Expr} {scope : Scope} {own : List (Str × Nat)} {pos spos : Pos} (hc : X.calm = true) (hN : X.N.Nodup) (hy : X.N[i]? = some y) (hyl : X.env.scope.names.lookup y = some .local)
    (hsw : swapsWith (.ListComp elt [⟨tg, iter, ifs, 0⟩] scope pos) (some (.Name y py)) spos.line X.env = pure true) (hi : DI X c W tg iter wi fi) (ok : BlkOk X.N X.env.scope scope own)
    (hg : ∀ s H C cl fp, DGC (Blk X scope s H C cl fp) c (own.map (·.2)) tg g fg) (ht : ∀ s H C cl fp, DTs (Blk X scope s H C cl fp) c W0 ifs tt ft) (he : ∀ s H C cl fp, DE (Blk X scope s H C cl fp) c W0 elt te fe)
    (hs : ∀ x, foldedSetIterable iter X.env x = pure x := by intro _; rfl) : DS X c W (.Assign [.Name y py] (.ListComp elt [⟨tg, iter, ifs, 0⟩] scope pos) spos) (tAsg (tLc wi g tt te (own.map (·.2))) (gName i)) (fSet i (fLc fi fg ft fe (own.map (·.2)))) :=
  ⟨ps_setLc hc hN hy hyl hsw hi.pi ok (fun s H C cl fp => (hg s H C cl fp).pg) (fun s H C cl fp => (ht s H C cl fp).pts) (fun s H C cl fp => (he s H C cl fp).pe) hs,
    sn_set (sn_lc hi.sn (hg {} (fun _ => none) 0 [] []).sn (ht {} (fun _ => none) 0 [] []).sn (he {} (fun _ => none) 0 [] []).sn)⟩
end
end DL

/-! DL, part g: defs as functions on data, their calls. -/
namespace DL
open PySem L2 Evl

/-- what a def hands back: its value, whether it is a new object, its arguments behind it -/
abbrev FnR := D × Bool × List B
abbrev Fn := List B → Res FnR
def ArgR (c : Ct) (F H : Hp) : B → V → Prop
  | .sh d, v => Rp c F d v
  | .br d, v => ∃ p, v = .ref p ∧ Own c F H d p
  | .ow _, _ => False
  | .ex _, _ => False
structure AR (c : Ct) (F H : Hp) (bs : List B) (vs : List V) : Prop where
  len : bs.length = vs.length
  get : ∀ (i : Nat) (b : B), bs[i]? = some b → ∃ v, vs[i]? = some v ∧ ArgR c F H b v
  dist : ∀ (i j : Nat) (p : Addr) (d d' : D), bs[i]? = some (.br d) → bs[j]? = some (.br d') → vs[i]? = some (.ref p) → vs[j]? = some (.ref p) → i = j
def BrAt (bs : List B) (vs : List V) (p : Addr) : Prop := ∃ (i : Nat) (d : D), bs[i]? = some (B.br d) ∧ vs[i]? = some (V.ref p)
structure Kp (H F H' F' : Hp) (Bo : Addr → Prop) : Prop where
  keep : ∀ p o, H p = some o → ¬ Bo p → H' p = some o
  nf : ∀ p, H p ≠ none → F p = none → F' p = none
  th : ∀ p, H p ≠ none → H' p ≠ none
def DR (c : Ct) (H F' H' : Hp) (d : D) (fr : Bool) (v : V) : Prop := match fr with
  | true => ∃ p, v = .ref p ∧ Own c F' H' d p ∧ H p = none
  | false => Rp c F' d v
/-- a def that does m on data -/
def spD (c : Ct) (n : Nat) (m : Fn) : Sp := fun vs H Q E => vs.length = n ∧ ∃ F bs, Ex F H ∧ AR c F H bs vs ∧
  Wp (m bs) (fun r => ∀ v H' F', Ex F F' → Ex F' H' → Kp H F H' F' (BrAt bs vs) → AR c F' H' r.2.2 vs → DR c H F' H' r.1 r.2.1 v → Q v H')
    (fun x _ => ∀ cls dd H' F', Ex F F' → Ex F' H' → Kp H F H' F' (BrAt bs vs) → XR c F' x cls dd → E cls dd H')

/-! ### from the body -/
def env0 (N : Nat) (bs : List B) : DEnv := bs.map some ++ List.replicate (N - bs.length) none
def outB : List B → DEnv → Option (List B)
  | [], _ => some []
  | b :: bs, e => match b with
    | .br _ => match e.head? with
      | some (some (.br d)) => (outB bs e.tail).map fun q => .br d :: q
      | _ => none
    | b => (outB bs e.tail).map fun q => b :: q
def fnRet (bs : List B) (t : T) (e : DEnv) : Option FnR := (outB bs e).bind fun q => match t with
  | .vl d => some (d, false, q)
  | .nw d => some (d, true, q)
  | .sl i => match e[i]? with
    | some (some (.sh d)) => some (d, false, q)
    | some (some (.ow d)) => some (d, true, q)
    | _ => none
def fFn (N : Nat) (body : FS) : Fn := fun bs => (body (env0 N bs)).bind fun o => Res.of (match o with
  | .nx e => fnRet bs (.vl .non) e
  | .rt t e => fnRet bs t e
  | _ => none)
section
variable {c : Ct} {z : Zs} {σ : L2.St} {H H' F F' G : Hp} {e : DEnv}
theorem outB_get : ∀ {bs : List B} {e : DEnv} {qs : List B}, outB bs e = some qs → qs.length = bs.length ∧ ∀ (i : Nat) (b : B), qs[i]? = some b → (∃ d0 d, bs[i]? = some (B.br d0) ∧ b = B.br d ∧ e[i]? = some (some (B.br d))) ∨ (bs[i]? = some b ∧ ∀ d, b ≠ B.br d)
  | [], e, qs, h => by cases h; exact ⟨rfl, fun i b h => by simp at h⟩
  | b0 :: bs, e, qs, h => by
    have tl : ∀ {i : Nat} {x : Option B}, e.tail[i]? = some x → e[i + 1]? = some x := fun {i x} h => by
      cases e with
      | nil => simp at h
      | cons y r => simpa using h
    cases b0 with
    | br d0 =>
      unfold outB at h
      dsimp only at h
      split at h
      · rename_i d hd
        obtain ⟨q, l1, rfl⟩ := omap h
        obtain ⟨l2, k⟩ := outB_get l1
        refine ⟨by rw [List.length_cons, List.length_cons, l2], fun i b hb => ?_⟩
        cases i with
        | zero =>
          simp at hb; subst hb
          refine .inl ⟨d0, d, rfl, rfl, ?_⟩
          cases e with
          | nil => simp at hd
          | cons y r => simpa using hd
        | succ i =>
          rcases k i b (by simpa using hb) with ⟨d1, d2, h1, h2, h3⟩ | ⟨h1, h2⟩
          · exact .inl ⟨d1, d2, by simpa using h1, h2, tl h3⟩
          · exact .inr ⟨by simpa using h1, h2⟩
      · cases h
    | sh d0 =>
      unfold outB at h
      dsimp only at h
      obtain ⟨q, l1, rfl⟩ := omap h
      obtain ⟨l2, k⟩ := outB_get l1
      refine ⟨by rw [List.length_cons, List.length_cons, l2], fun i b hb => ?_⟩
      cases i with
      | zero => simp at hb; subst hb; exact .inr ⟨rfl, fun d z => nomatch z⟩
      | succ i =>
        rcases k i b (by simpa using hb) with ⟨d1, d2, h1, h2, h3⟩ | ⟨h1, h2⟩
        · exact .inl ⟨d1, d2, by simpa using h1, h2, tl h3⟩
        · exact .inr ⟨by simpa using h1, h2⟩
    | ow d0 =>
      unfold outB at h
      dsimp only at h
      obtain ⟨q, l1, rfl⟩ := omap h
      obtain ⟨l2, k⟩ := outB_get l1
      refine ⟨by rw [List.length_cons, List.length_cons, l2], fun i b hb => ?_⟩
      cases i with
      | zero => simp at hb; subst hb; exact .inr ⟨rfl, fun d z => nomatch z⟩
      | succ i =>
        rcases k i b (by simpa using hb) with ⟨d1, d2, h1, h2, h3⟩ | ⟨h1, h2⟩
        · exact .inl ⟨d1, d2, by simpa using h1, h2, tl h3⟩
        · exact .inr ⟨by simpa using h1, h2⟩
    | ex d0 =>
      unfold outB at h
      dsimp only at h
      obtain ⟨q, l1, rfl⟩ := omap h
      obtain ⟨l2, k⟩ := outB_get l1
      refine ⟨by rw [List.length_cons, List.length_cons, l2], fun i b hb => ?_⟩
      cases i with
      | zero => simp at hb; subst hb; exact .inr ⟨rfl, fun d z => nomatch z⟩
      | succ i =>
        rcases k i b (by simpa using hb) with ⟨d1, d2, h1, h2, h3⟩ | ⟨h1, h2⟩
        · exact .inl ⟨d1, d2, by simpa using h1, h2, tl h3⟩
        · exact .inr ⟨by simpa using h1, h2⟩
def zOf (H F : Hp) (bs : List B) (vs : List V) : Zs := ⟨H, F, BrAt bs vs, fun i => (vs[i]?).getD .non⟩
theorem env0_get {N i : Nat} {bs : List B} {b : B} (h : (env0 N bs)[i]? = some (some b)) : bs[i]? = some b := by
  unfold env0 at h
  by_cases hi : i < bs.length
  · rw [List.getElem?_append_left (by simpa using hi), List.getElem?_map] at h
    obtain ⟨x, h1, h2⟩ := omap h
    cases h2
    exact h1
  · rw [List.getElem?_append_right (by simpa using hi)] at h
    rw [List.getElem?_replicate] at h
    split at h <;> cases h
theorem start_get {N : List Str} {vs : List V} {i : Nat} {v : V} (h : vs[i]? = some v) : (start N vs)[i]? = some (some v) := by
  unfold L2.start
  rw [List.getElem?_append_left (by simpa using get_lt h), List.getElem?_map, h]
  rfl
theorem start_get' {N : List Str} {vs : List V} {i : Nat} {v : V} (h : (start N vs)[i]? = some (some v)) : vs[i]? = some v := by
  unfold L2.start at h
  by_cases hi : i < vs.length
  · rw [List.getElem?_append_left (by simpa using hi), List.getElem?_map] at h
    obtain ⟨x, h1, h2⟩ := omap h
    cases h2
    exact h1
  · rw [List.getElem?_append_right (by simpa using hi)] at h
    rw [List.getElem?_replicate] at h
    split at h <;> cases h
theorem AR.start {N : List Str} {bs : List B} {vs : List V} (A : AR c F H bs vs) (x : Ex F H) : I2 c (zOf H F bs vs) (start N vs) H F (env0 N.length bs) := by
  refine ⟨?_, Ex.refl F, x, fun p o h _ => h, fun i b h => ?_, fun i j p ⟨b, h1, h2, h3⟩ ⟨b', h1', h2', h3'⟩ => ?_, fun p ⟨i, d, h1, h2⟩ => ?_, fun p _ h => h, fun i d v h hv => ?_⟩
  · unfold env0 L2.start
    simp [A.len]
  · have h1 := env0_get h
    obtain ⟨v, h2, r⟩ := A.get i b h1
    refine ⟨v, start_get h2, ?_⟩
    cases b with
    | sh d => exact r
    | ow d => exact r.elim
    | ex x => exact r.elim
    | br d => obtain ⟨p, rfl, o⟩ := r; exact ⟨p, rfl, o, i, d, h1, h2⟩
  · have g1 := env0_get h1
    have g2 := env0_get h1'
    have k1 := start_get' h3
    have k2 := start_get' h3'
    obtain ⟨v, _, r⟩ := A.get i b g1
    obtain ⟨v', _, r'⟩ := A.get j b' g2
    cases b with
    | sh d => cases h2
    | ow d => exact r.elim
    | ex x => cases h2
    | br d =>
      cases b' with
      | sh d => cases h2'
      | ow d => exact r'.elim
      | ex x => cases h2'
      | br d' => exact A.dist i j p d d' g1 g2 k1 k2
  · obtain ⟨v, h3, r⟩ := A.get i _ h1
    rw [h2] at h3; cases h3
    obtain ⟨q, e, o⟩ := r
    cases e
    exact o.at
  · have k1 := start_get' hv
    show (vs[i]?).getD .non = v
    rw [k1]; rfl
theorem I2.kp {bs : List B} {vs : List V} (J : I2 c (zOf H F bs vs) σ H' F' e) : Kp H F H' F' (BrAt bs vs) := ⟨fun p o h hb => J.keep p o h hb, fun p h1 h2 => J.nf p h1 h2, fun p h => J.h0 h⟩
theorem I2.outs {bs qs : List B} {vs : List V} (A : AR c F H bs vs) (J : I2 c (zOf H F bs vs) σ H' F' e) (h : outB bs e = some qs) : AR c F' H' qs vs := by
  obtain ⟨l, k⟩ := outB_get h
  refine ⟨l.trans A.len, fun i b hb => ?_, fun i j p d d' h1 h2 h3 h4 => ?_⟩
  · rcases k i b hb with ⟨d0, d, h1, rfl, h3⟩ | ⟨h1, h2⟩
    · obtain ⟨v, hv, r⟩ := J.slot i _ h3
      obtain ⟨p, rfl, o, _⟩ := r
      obtain ⟨v0, hv0, _⟩ := A.get i _ h1
      have e1 := J.brv i d _ h3 hv
      have e2 : (vs[i]?).getD .non = V.ref p := e1
      rw [hv0] at e2
      have e3 : v0 = V.ref p := e2
      subst e3
      exact ⟨_, hv0, p, rfl, o⟩
    · obtain ⟨v, hv, r⟩ := A.get i b h1
      refine ⟨v, hv, ?_⟩
      cases b with
      | sh d => exact Rp.mono J.f0 d v r
      | ow d => exact r.elim
      | ex x => exact r.elim
      | br d => exact (h2 d rfl).elim
  · rcases k i _ h1 with ⟨d0, _, g1, _, _⟩ | ⟨_, g⟩
    · rcases k j _ h2 with ⟨d1, _, g2, _, _⟩ | ⟨_, g⟩
      · exact A.dist i j p d0 d1 g1 g2 h3 h4
      · exact (g _ rfl).elim
    · exact (g _ rfl).elim
theorem I2.ret {bs : List B} {vs : List V} {t : T} {v : V} {r : FnR} (A : AR c F H bs vs) (J : I2 c (zOf H F bs vs) σ H' F' e) (ht : TR c (zOf H F bs vs) F' H' σ e t v) (h : fnRet bs t e = some r) :
    AR c F' H' r.2.2 vs ∧ DR c H F' H' r.1 r.2.1 v := by
  unfold fnRet at h
  obtain ⟨q, l1, h⟩ := obind h
  have a := J.outs A l1
  cases t with
  | vl d => cases h; exact ⟨a, ht⟩
  | nw d => cases h; obtain ⟨p, rfl, w, h0, _⟩ := ht; exact ⟨a, p, rfl, w, h0⟩
  | sl i =>
    have ht' : σ[i]? = some (some v) := ht
    dsimp only at h
    split at h
    · rename_i d hb
      obtain ⟨w, hw, k⟩ := J.slot i _ hb
      rw [ht'] at hw; cases hw; cases h
      exact ⟨a, k⟩
    · rename_i d hb
      obtain ⟨w, hw, p, rfl, o, h0⟩ := J.slot i _ hb
      rw [ht'] at hw; cases hw; cases h
      exact ⟨a, p, rfl, o, h0⟩
    · cases h
end
section
variable {P : Program} {w : World} {K : PySem.W.Frag} {mg : Str → Option Value} {base : Heap} {c : Ct}
/-- THE RULE of a def -/
theorem fn_ok {x qual : Str} {st : Stmt} {f : Addr} {fd : FuncData} {N ps : List Str} {k : Nat} {m : Fn} {body : FS} (F : Fun K x qual st f fd) (S : FnScope N ps (defScope st)) (hm : ∀ bs, bs.length = ps.length → fFn N.length body bs = m bs)
    (hb : ∀ (cdv : Value) (A : Around) (outer : List Env) (s : Shared) (H : Hp) (E : XK), Room k (A.deeper (PyProof.Rows.envOfC qual (defScope st) s.heap.objs.size f cdv)) →
      ∃ t, DSs (cxOf (CX P w) P w K mg base N qual (defScope st) f cdv A outer s H E) c (fun cls d _ H => E cls d H) (defBody st) t body) : FnOk P w K mg base (CX P w) (k + 1) f fd ps (spD c ps.length m) := by
  refine F.okX S (fun vs H Q E h => h.1) fun cdv A outer s H vs Q E hr h => ?_
  obtain ⟨t, dd⟩ := hb cdv A outer s H E hr
  refine ⟨t, dd.ps, ?_⟩
  obtain ⟨hl, FF, bs, x, a, h⟩ := h
  rw [← hm bs (a.len.trans hl)] at h
  unfold fFn at h
  rw [Wp.bind] at h
  refine dd.sn (zOf H FF bs vs) (start N vs) H FF _ _ (a.start x) (h.mono (fun o _ h => ?_) fun x e h σ' cls d H' F' x' J r => h cls d H' F' x' J.fh J.kp r)
  cases o with
  | nx e =>
    intro σ' H' F' x' J
    obtain ⟨r, l, h⟩ := Wp.of h
    obtain ⟨h1, h2⟩ := J.ret a (t := .vl .non) (v := .non) rfl l
    exact h .non H' F' x' J.fh J.kp h1 h2
  | rt t e =>
    intro v σ' H' F' x' J ht
    obtain ⟨r, l, h⟩ := Wp.of h
    obtain ⟨h1, h2⟩ := J.ret a ht l
    exact h v H' F' x' J.fh J.kp h1 h2
  | bk e => exact h.elim
  | ct e => exact h.elim
end
end DL

/-! DL, part h: calls. -/
namespace DL
open PySem L2 Evl

/-- arguments that are not lent are shared from here on -/
def escN : List Bool → List T → DEnv → Option (List T × DEnv)
  | _, [], e => some ([], e)
  | ms, t :: ts, e => match ms.headD false with
    | true => (escN ms.tail ts e).map fun q => (t :: q.1, q.2)
    | false => (escape t e).bind fun r => (escN ms.tail ts r.2).map fun q => (.vl r.1 :: q.1, q.2)
def argB (t : T) (e : DEnv) : Option B := match t with
  | .vl d => some (.sh d)
  | .nw _ => none
  | .sl i => match e[i]? with
    | some (some (.sh d)) => some (.sh d)
    | some (some (.ow d)) => some (.br d)
    | some (some (.br d)) => some (.br d)
    | _ => none
def argBs : List T → DEnv → Option (List B)
  | [], _ => some []
  | t :: ts, e => (argB t e).bind fun b => (argBs ts e).map fun bs => b :: bs
def isSl (i : Nat) : T → Bool
  | .sl j => i == j
  | _ => false
def nodupT : List T → Bool
  | [] => true
  | t :: ts => (match t with
    | .sl i => !ts.any (isSl i)
    | _ => true) && nodupT ts
/-- the lent names and what they hold behind the call -/
def upds : List T → List B → List (Nat × D)
  | [], _ => []
  | _, [] => []
  | t :: ts, b :: bs => match t, b with
    | .sl j, .br d => (j, d) :: upds ts bs
    | _, _ => upds ts bs
def isBr : B → Bool
  | .br _ => true
  | _ => false
def sameB (bs qs : List B) : Bool := bs.map isBr == qs.map isBr
def putAll (l : List (Nat × D)) : Nat → DEnv → DEnv
  | _, [] => []
  | k, x :: r => (match l.lookup k with
    | some d => x.map fun b => b.re d
    | none => x) :: putAll l (k + 1) r
def dropAll (l : List (Nat × D)) : Nat → DEnv → DEnv
  | _, [] => []
  | k, x :: r => (match l.lookup k with
    | some _ => none
    | none => x) :: dropAll l (k + 1) r
def callM (dds : List D) (m : Fn) (ts : List T) (e : DEnv) : Res (T × DEnv) :=
  (Res.of (argBs ts e)).bind fun bs => if nodupT ts then (match m (bs ++ dds.map .sh) with
    | .stuck => .stuck
    | .ok r => if sameB (bs ++ dds.map .sh) r.2.2 then .ok (if r.2.1 then .nw r.1 else .vl r.1, putAll (upds ts r.2.2) 0 e) else .stuck
    | .exc x _ => .exc x (dropAll (upds ts bs) 0 e)) else .stuck
def fCall (ms : List Bool) (dds : List D) (m : Fn) (fa : FA) : FE := fun e => (fa e).bind fun r => (Res.of (escN ms r.1 r.2)).bind fun q => callM dds m q.1 q.2

section
variable {c : Ct} {z : Zs} {W : WX} {σ : L2.St} {H H' F F' G : Hp} {e : DEnv} {ta : TA} {fa : FA}
theorem TRs.escN : ∀ {ts ts' : List T} {ms : List Bool} {vs : List V} {F : Hp} {e e' : DEnv}, I2 c z σ H F e → TRs c z F H σ e ts vs → DL.escN ms ts e = some (ts', e') → ∃ G, Ex F G ∧ I2 c z σ H G e' ∧ TRs c z G H σ e' ts' vs
  | [], ts', ms, vs, F, e, e', I, h, l => by
    unfold DL.escN at l
    cases l
    exact ⟨F, Ex.refl F, I, h⟩
  | t :: ts, ts', ms, vs, F, e, e', I, h, l => by
    obtain ⟨v, r, rfl, h1, h2, h3⟩ := h
    unfold DL.escN at l
    split at l
    · obtain ⟨⟨q, e2⟩, l1, eq1⟩ := omap l
      cases eq1
      obtain ⟨G, x, J, k⟩ := TRs.escN I h3 l1
      refine ⟨G, x, J, v, r, rfl, h1, ?_, k⟩
      rw [← h1] at h2 ⊢
      exact h2.keep x
    · obtain ⟨⟨d, e1⟩, l1, l⟩ := obind l
      obtain ⟨⟨q, e2⟩, l2, eq2⟩ := omap l
      cases eq2
      obtain ⟨G, x, J, rr⟩ := h2.escape I l1
      obtain ⟨G2, x2, J2, k⟩ := TRs.escN J (h3.keep x) l2
      exact ⟨G2, x.trans x2, J2, v, r, rfl, rfl, rr.mono x2 d v, k⟩
theorem argBs_get : ∀ {ts : List T} {bs : List B}, argBs ts e = some bs → ts.length = bs.length ∧ ∀ (i : Nat) (b : B), bs[i]? = some b → ∃ t, ts[i]? = some t ∧ argB t e = some b
  | [], bs, h => by cases h; exact ⟨rfl, fun i b h => by simp at h⟩
  | t :: ts, bs, h => by
    obtain ⟨b, l1, h⟩ := obind h
    obtain ⟨r, l2, rfl⟩ := omap h
    obtain ⟨l, k⟩ := argBs_get l2
    refine ⟨by simp [l], fun i b' hb => ?_⟩
    cases i with
    | zero => simp at hb; subst hb; exact ⟨t, rfl, l1⟩
    | succ i =>
      obtain ⟨t', h1, h2⟩ := k i b' (by simpa using hb)
      exact ⟨t', by simpa using h1, h2⟩
theorem TRs.get : ∀ {ts : List T} {vs : List V} {i : Nat} {t : T}, TRs c z F H σ e ts vs → ts[i]? = some t → ∃ v, vs[i]? = some v ∧ TR c z F H σ e t v
  | [], vs, i, t, h, g => by simp at g
  | t0 :: ts, vs, i, t, ⟨v, r, h1, h2, h3, h4⟩, g => by
    subst h1
    cases i with
    | zero => simp at g; subst g; exact ⟨v, rfl, h3⟩
    | succ i =>
      obtain ⟨w, h5, h6⟩ := TRs.get (i := i) h4 (by simpa using g)
      exact ⟨w, by simpa using h5, h6⟩
theorem nodupT_ix : ∀ {ts : List T} {i j s : Nat}, nodupT ts = true → ts[i]? = some (.sl s) → ts[j]? = some (.sl s) → i = j
  | [], i, j, s, h, g, _ => by simp at g
  | t :: ts, i, j, s, h, g1, g2 => by
    unfold nodupT at h
    obtain ⟨h1, h2⟩ := Bool.and_eq_true_iff.mp h
    have no : ∀ {k : Nat}, t = .sl s → ts[k]? = some (.sl s) → False := fun {k} e hk => by
      subst e
      have : ts.any (isSl s) = true := List.any_eq_true.mpr ⟨_, List.mem_of_getElem? hk, by simp [isSl]⟩
      have h1' : (!ts.any (isSl s)) = true := h1
      rw [this] at h1'; cases h1'
    cases i with
    | zero =>
      cases j with
      | zero => rfl
      | succ j => simp at g1 g2; exact (no g1 g2).elim
    | succ i =>
      cases j with
      | zero => simp at g1 g2; exact (no g2 g1).elim
      | succ j => exact congrArg (· + 1) (nodupT_ix (ts := ts) (i := i) (j := j) (s := s) h2 (by simpa using g1) (by simpa using g2))
/-- a lent argument: its token is a name's, which owns it -/
theorem argB_br {t : T} {d : D} (h : argB t e = some (.br d)) : ∃ j b, t = .sl j ∧ e[j]? = some (some b) ∧ b.isRoot = true ∧ b.d = d := by
  cases t with
  | vl d => cases h
  | nw d => cases h
  | sl j =>
    unfold argB at h
    dsimp only at h
    split at h <;> cases h
    · rename_i hb; exact ⟨j, _, rfl, hb, rfl, rfl⟩
    · rename_i hb; exact ⟨j, _, rfl, hb, rfl, rfl⟩
theorem argB_sh {t : T} {d : D} (h : argB t e = some (.sh d)) : t = .vl d ∨ ∃ j, t = .sl j ∧ e[j]? = some (some (.sh d)) := by
  cases t with
  | vl d => cases h; exact .inl rfl
  | nw d => cases h
  | sl j =>
    unfold argB at h
    dsimp only at h
    split at h <;> cases h
    rename_i hb; exact .inr ⟨j, rfl, hb⟩
theorem argB_ow {t : T} {d : D} (h : argB t e = some (.ow d)) : False := by
  cases t with
  | vl d => cases h
  | nw d => cases h
  | sl j =>
    unfold argB at h
    dsimp only at h
    split at h <;> cases h
theorem argB_ex {t : T} {x : XV} {e : DEnv} (h : argB t e = some (.ex x)) : False := by
  cases t with
  | vl d => cases h
  | nw d => cases h
  | sl j =>
    unfold argB at h
    dsimp only at h
    split at h <;> cases h
theorem args_ar {ts : List T} {bs : List B} {vs dvs : List V} {dds : List D} (I : I2 c z σ H F e) (h : TRs c z F H σ e ts vs) (l : argBs ts e = some bs) (nd : nodupT ts = true) (hd : RpL c F dds dvs) : AR c F H (bs ++ dds.map .sh) (vs ++ dvs) := by
  obtain ⟨ll, k⟩ := argBs_get l
  have lv : bs.length = vs.length := ll.symm.trans h.len
  have brs : ∀ {i : Nat} {d : D}, (bs ++ dds.map .sh)[i]? = some (.br d) → bs[i]? = some (.br d) := fun {i d} g => by
    by_cases hi : i < bs.length
    · rwa [List.getElem?_append_left hi] at g
    · rw [List.getElem?_append_right (by omega), List.getElem?_map] at g
      obtain ⟨x, _, q⟩ := omap g
      cases q
  refine ⟨by simp [lv, hd.len], fun i b g => ?_, fun i j p d d' g1 g2 g3 g4 => ?_⟩
  · by_cases hi : i < bs.length
    · rw [List.getElem?_append_left hi] at g
      obtain ⟨t, h1, h2⟩ := k i b g
      obtain ⟨v, h3, h4⟩ := h.get h1
      refine ⟨v, by rw [List.getElem?_append_left (by omega)]; exact h3, ?_⟩
      cases b with
      | sh d =>
        rcases argB_sh h2 with rfl | ⟨j, rfl, h5⟩
        · exact h4
        · obtain ⟨w, h6, r⟩ := I.slot j _ h5
          have h4' : σ[j]? = some (some v) := h4
          rw [h4'] at h6; cases h6
          exact r
      | ow d => exact (argB_ow h2).elim
      | ex x => exact (argB_ex h2).elim
      | br d =>
        obtain ⟨j, b0, rfl, h5, h6, rfl⟩ := argB_br h2
        obtain ⟨p, h7, o, _⟩ := I.own h5 h6
        have h4' : σ[j]? = some (some v) := h4
        rw [h4'] at h7; cases h7
        exact ⟨p, rfl, o⟩
    · rw [List.getElem?_append_right (by omega), List.getElem?_map] at g
      obtain ⟨d, h1, rfl⟩ := omap g
      obtain ⟨v, h2, r⟩ := hd.get h1
      exact ⟨v, by rw [List.getElem?_append_right (by omega), ← lv]; exact h2, r⟩
  · have k1 := brs g1
    have k2 := brs g2
    obtain ⟨t1, h1, h2⟩ := k i _ k1
    obtain ⟨t2, h3, h4⟩ := k j _ k2
    obtain ⟨s1, b1, rfl, h5, h6, _⟩ := argB_br h2
    obtain ⟨s2, b2, rfl, h7, h8, _⟩ := argB_br h4
    obtain ⟨v1, q1, r1⟩ := h.get h1
    obtain ⟨v2, q2, r2⟩ := h.get h3
    rw [List.getElem?_append_left (by have := get_lt q1; omega), q1] at g3
    rw [List.getElem?_append_left (by have := get_lt q2; omega), q2] at g4
    cases g3; cases g4
    have e12 := I.dist s1 s2 p ⟨b1, h5, h6, r1⟩ ⟨b2, h7, h8, r2⟩
    subst e12
    exact nodupT_ix nd h1 h3
theorem upds_mem : ∀ {ts : List T} {qs : List B} {j : Nat} {d : D}, (j, d) ∈ upds ts qs → ∃ (i : Nat), ts[i]? = some (T.sl j) ∧ qs[i]? = some (B.br d)
  | [], _, _, _, h => by simp [upds] at h
  | _ :: _, [], _, _, h => by simp [upds] at h
  | t :: ts, b :: qs, j, d, h => by
    unfold upds at h
    split at h
    · rcases List.mem_cons.mp h with h | h
      · cases h; exact ⟨0, rfl, rfl⟩
      · obtain ⟨i, h1, h2⟩ := upds_mem h
        exact ⟨i + 1, by simpa using h1, by simpa using h2⟩
    · obtain ⟨i, h1, h2⟩ := upds_mem h
      exact ⟨i + 1, by simpa using h1, by simpa using h2⟩
theorem mem_upds : ∀ {ts : List T} {qs : List B} {i j : Nat} {d : D}, ts[i]? = some (T.sl j) → qs[i]? = some (B.br d) → (j, d) ∈ upds ts qs
  | [], _, _, _, _, h, _ => by simp at h
  | _ :: _, [], _, _, _, _, h => by simp at h
  | t :: ts, b :: qs, 0, j, d, h, h' => by
    simp at h h'
    subst h; subst h'
    unfold upds
    exact List.mem_cons_self
  | t :: ts, b :: qs, i + 1, j, d, h, h' => by
    have r := mem_upds (ts := ts) (qs := qs) (i := i) (j := j) (d := d) (by simpa using h) (by simpa using h')
    unfold upds
    split
    · exact List.mem_cons_of_mem _ r
    · exact r
theorem lookup_mem' : ∀ {l : List (Nat × D)} {k : Nat} {d : D}, l.lookup k = some d → (k, d) ∈ l
  | [], _, _, h => by cases h
  | (a, x) :: l, k, d, h => by
    rw [List.lookup_cons] at h
    cases q : k == a with
    | true => rw [q] at h; cases h; rw [beq_iff_eq.mp q]; exact List.mem_cons_self
    | false => rw [q] at h; exact List.mem_cons_of_mem _ (lookup_mem' h)
theorem lookup_none' : ∀ {l : List (Nat × D)} {k : Nat}, l.lookup k = none → ∀ d, (k, d) ∉ l
  | [], _, _, _ => by simp
  | (a, x) :: l, k, h, d => by
    rw [List.lookup_cons] at h
    cases q : k == a with
    | true => rw [q] at h; cases h
    | false =>
      rw [q] at h
      intro hm
      rcases List.mem_cons.mp hm with hm | hm
      · cases hm; simp at q
      · exact lookup_none' h d hm
theorem putAll_len (l : List (Nat × D)) : ∀ (k : Nat) (e : DEnv), (putAll l k e).length = e.length
  | _, [] => rfl
  | k, x :: r => by unfold putAll; rw [List.length_cons, List.length_cons, putAll_len l (k + 1) r]
theorem putAll_get (l : List (Nat × D)) : ∀ (k : Nat) (e : DEnv) (j : Nat), (putAll l k e)[j]? = (e[j]?).map fun x => match l.lookup (k + j) with
    | some d => x.map fun b => b.re d
    | none => x
  | _, [], j => by simp [putAll]
  | k, x :: r, 0 => by simp [putAll]
  | k, x :: r, j + 1 => by
    unfold putAll
    rw [List.getElem?_cons_succ, List.getElem?_cons_succ, putAll_get l (k + 1) r j, show k + 1 + j = k + (j + 1) by omega]
theorem dropAll_len (l : List (Nat × D)) : ∀ (k : Nat) (e : DEnv), (dropAll l k e).length = e.length
  | _, [] => rfl
  | k, x :: r => by unfold dropAll; rw [List.length_cons, List.length_cons, dropAll_len l (k + 1) r]
theorem dropAll_get (l : List (Nat × D)) : ∀ (k : Nat) (e : DEnv) (j : Nat), (dropAll l k e)[j]? = (e[j]?).map fun x => match l.lookup (k + j) with
    | some d => none
    | none => x
  | _, [], j => by simp [dropAll]
  | k, x :: r, 0 => by simp [dropAll]
  | k, x :: r, j + 1 => by
    unfold dropAll
    rw [List.getElem?_cons_succ, List.getElem?_cons_succ, dropAll_get l (k + 1) r j, show k + 1 + j = k + (j + 1) by omega]
theorem sameB_get {bs qs : List B} (h : sameB bs qs = true) {i : Nat} {d : D} (g : bs[i]? = some (.br d)) : ∃ d', qs[i]? = some (.br d') := by
  have e : bs.map isBr = qs.map isBr := eq_of_beq h
  have h1 : (bs.map isBr)[i]? = some true := by rw [List.getElem?_map, g]; rfl
  rw [e, List.getElem?_map] at h1
  obtain ⟨b, h2, h3⟩ := omap h1
  cases b <;> cases h3
  exact ⟨_, h2⟩
theorem sameB_get' {bs qs : List B} (h : sameB bs qs = true) {i : Nat} {d : D} (g : qs[i]? = some (.br d)) : ∃ d', bs[i]? = some (.br d') := by
  have e : bs.map isBr = qs.map isBr := eq_of_beq h
  have h1 : (qs.map isBr)[i]? = some true := by rw [List.getElem?_map, g]; rfl
  rw [← e, List.getElem?_map] at h1
  obtain ⟨b, h2, h3⟩ := omap h1
  cases b <;> cases h3
  exact ⟨_, h2⟩
/-- the caller's frame behind the call -/
theorem I2.called {ts : List T} {bs qs : List B} {vs dvs : List V} {dds : List D} (I : I2 c z σ H F e) (h : TRs c z F H σ e ts vs) (l : argBs ts e = some bs) (nd : nodupT ts = true)
    (x : Ex F F') (y : Ex F' H') (kp : Kp H F H' F' (BrAt (bs ++ dds.map .sh) (vs ++ dvs))) (a : AR c F' H' qs (vs ++ dvs)) (sm : sameB (bs ++ dds.map .sh) qs = true) : I2 c z σ H' F' (putAll (upds ts qs) 0 e) := by
  obtain ⟨ll, k⟩ := argBs_get l
  have lv : bs.length = vs.length := ll.symm.trans h.len
  have brs : ∀ {i : Nat} {d : D}, (bs ++ dds.map .sh)[i]? = some (.br d) → bs[i]? = some (.br d) := fun {i d} g => by
    by_cases hi : i < bs.length
    · rwa [List.getElem?_append_left hi] at g
    · rw [List.getElem?_append_right (by omega), List.getElem?_map] at g
      obtain ⟨x, _, q⟩ := omap g
      cases q
  -- a lent place: its token and the name that owns it
  have lent : ∀ {i : Nat} {d : D}, bs[i]? = some (.br d) → ∃ j b0 p, ts[i]? = some (.sl j) ∧ e[j]? = some (some b0) ∧ b0.isRoot = true ∧ vs[i]? = some (.ref p) ∧ σ[j]? = some (some (.ref p)) := fun {i d} g => by
    obtain ⟨t, h1, h2⟩ := k i _ g
    obtain ⟨j, b0, rfl, h5, h6, _⟩ := argB_br h2
    obtain ⟨v, q1, r1⟩ := h.get h1
    obtain ⟨p, h7, _⟩ := I.own h5 h6
    have r1' : σ[j]? = some (some v) := r1
    rw [r1'] at h7; cases h7
    exact ⟨j, b0, p, h1, h5, h6, q1, r1⟩
  refine I.change (L := (upds ts qs).map (·.1)) (putAll_len _ _ _) x y (fun p o h1 h2 => kp.keep p o h1 fun ⟨i, d, g1, g2⟩ => ?_) kp.th kp.nf fun j b hb => ?_
  · obtain ⟨j, b0, p', t1, t2, t3, t4, t5⟩ := lent (brs g1)
    rw [List.getElem?_append_left (by have := get_lt t4; omega), t4] at g2
    cases g2
    obtain ⟨d', g3⟩ := sameB_get sm g1
    exact h2 j (List.mem_map.mpr ⟨(j, d'), mem_upds t1 g3, rfl⟩) ⟨b0, t2, t3, t5⟩
  · rw [putAll_get] at hb
    obtain ⟨xo, h1, h2⟩ := omap hb
    rw [Nat.zero_add] at h2
    cases hl : (upds ts qs).lookup j with
    | none =>
      rw [hl] at h2
      have h2' : xo = some b := h2
      subst h2'
      exact ⟨b, h1, .inl ⟨rfl, fun _ hm => by
        obtain ⟨⟨j', d⟩, m1, m2⟩ := List.mem_map.mp hm
        have m2' : j' = j := m2
        subst m2'
        exact lookup_none' hl d m1⟩⟩
    | some d =>
      rw [hl] at h2
      obtain ⟨i, g1, g2⟩ := upds_mem (lookup_mem' hl)
      obtain ⟨d0, g3⟩ := sameB_get' sm g2
      obtain ⟨j', b0, p, t1, t2, t3, t4, t5⟩ := lent (brs g3)
      rw [g1] at t1; cases t1
      rw [t2] at h1; cases h1
      have h2' : some (b0.re d) = some b := h2
      cases h2'
      obtain ⟨v, a1, a2⟩ := a.get i _ g2
      rw [List.getElem?_append_left (by have := get_lt t4; omega), t4] at a1
      cases a1
      obtain ⟨p', ep, o⟩ := a2
      cases ep
      exact ⟨b0, t2, .inr ⟨t3, d, p, rfl, t5, o⟩⟩
theorem I2.thrown {ts : List T} {bs : List B} {vs dvs : List V} {dds : List D} (I : I2 c z σ H F e) (h : TRs c z F H σ e ts vs) (l : argBs ts e = some bs)
    (x : Ex F F') (y : Ex F' H') (kp : Kp H F H' F' (BrAt (bs ++ dds.map .sh) (vs ++ dvs))) : I2 c z σ H' F' (dropAll (upds ts bs) 0 e) := by
  obtain ⟨ll, k⟩ := argBs_get l
  have lv : bs.length = vs.length := ll.symm.trans h.len
  have brs : ∀ {i : Nat} {d : D}, (bs ++ dds.map .sh)[i]? = some (.br d) → bs[i]? = some (.br d) := fun {i d} g => by
    by_cases hi : i < bs.length
    · rwa [List.getElem?_append_left hi] at g
    · rw [List.getElem?_append_right (by omega), List.getElem?_map] at g
      obtain ⟨x, _, q⟩ := omap g
      cases q
  refine I.change (L := (upds ts bs).map (·.1)) (dropAll_len _ _ _) x y (fun p o h1 h2 => kp.keep p o h1 fun ⟨i, d, g1, g2⟩ => ?_) kp.th kp.nf fun j b hb => ?_
  · have g3 := brs g1
    obtain ⟨t, h3, h4⟩ := k i _ g3
    obtain ⟨j, b0, rfl, h5, h6, _⟩ := argB_br h4
    obtain ⟨v, q1, r1⟩ := h.get h3
    rw [List.getElem?_append_left (by have := get_lt q1; omega), q1] at g2
    cases g2
    exact h2 j (List.mem_map.mpr ⟨(j, d), mem_upds h3 g3, rfl⟩) ⟨b0, h5, h6, r1⟩
  · rw [dropAll_get] at hb
    obtain ⟨xo, h1, h2⟩ := omap hb
    rw [Nat.zero_add] at h2
    cases hl : (upds ts bs).lookup j with
    | none =>
      rw [hl] at h2
      have h2' : xo = some b := h2
      subst h2'
      exact ⟨b, h1, .inl ⟨rfl, fun _ hm => by
        obtain ⟨⟨j', d⟩, m1, m2⟩ := List.mem_map.mp hm
        have m2' : j' = j := m2
        subst m2'
        exact lookup_none' hl d m1⟩⟩
    | some d =>
      rw [hl] at h2
      cases h2
/-- a call by its promise, its arguments' tokens at hand -/
theorem sp_call {n : Nat} {m : Fn} {ts : List T} {vs dvs : List V} {dds : List D} {Q : VK} (I : I2 c z σ H F e) (h : TRs c z F H σ e ts vs) (hn : (vs ++ dvs).length = n) (hd : RpL c F dds dvs)
    (k : Wp (callM dds m ts e) (fun r => ∀ v H' F', Ex F F' → I2 c z σ H' F' r.2 → TR c z F' H' σ r.2 r.1 v → Q v H') (Xp c z W σ F)) : spD c n m (vs ++ dvs) H Q (WE W σ) := by
  unfold callM at k
  rw [Wp.bind] at k
  obtain ⟨bs, l, k⟩ := Wp.of k
  split at k
  · rename_i nd
    refine ⟨hn, F, bs ++ dds.map .sh, I.fh, args_ar I h l nd hd, ?_⟩
    cases hm : m (bs ++ dds.map .sh) with
    | stuck => rw [hm] at k; exact k.elim
    | ok r =>
      rw [hm] at k
      obtain ⟨d, fr, qs⟩ := r
      dsimp only at k
      split at k
      · rename_i sm
        intro v H' F' x y kp a dr
        have J := I.called h l nd x y kp a sm
        refine k v H' F' x J ?_
        cases fr with
        | false => exact dr
        | true =>
          obtain ⟨p, rfl, o, hp⟩ := dr
          refine ⟨p, rfl, o, I.fresh0 hp, fun i ⟨b, h1, h2, h3⟩ => ?_⟩
          rw [putAll_get] at h1
          obtain ⟨xo, h4, h5⟩ := omap h1
          have : ∃ b0, xo = some b0 ∧ b0.isRoot = true := by
            cases hl : (upds ts qs).lookup (0 + i) with
            | none => rw [hl] at h5; exact ⟨b, h5, h2⟩
            | some d' =>
              rw [hl] at h5
              obtain ⟨b0, e1, e2⟩ := omap (show xo.map (fun b => b.re d') = some b from h5)
              exact ⟨b0, e1, by rw [← e2, B.re_root] at h2; exact h2⟩
          obtain ⟨b0, rfl, h6⟩ := this
          exact I.noroot hp i ⟨b0, h4, h6, h3⟩
      · exact k.elim
    | exc x e' =>
      rw [hm] at k
      intro cls dd H' F' x' y kp r
      exact k cls dd H' F' x' (I.thrown h l x' y kp) r
  · exact k.elim
theorem sn_call {n : Nat} {ms : List Bool} {m : Fn} {dvs : List V} {dds : List D} (hn : ∀ vs, (∃ e r, fa e = .ok r ∧ r.1.length = vs.length) → (vs ++ dvs).length = n) (hd : ∀ F, RpL c F dds dvs) (ha : SndA c W ta fa) :
    SndE c W (tCallSD (spD c n m) dvs (WE W) ta) (fCall ms dds m fa) := fun z σ H F e Q I h => by
  unfold fCall at h
  rw [Wp.bind] at h
  refine ha z σ H F e _ I (h.mono (fun r hr h vs H1 F1 x1 I1 t1 => ?_) fun _ _ h => h)
  rw [Wp.bind] at h
  obtain ⟨⟨ts, e2⟩, l, h⟩ := Wp.of h
  obtain ⟨G, x2, J, t2⟩ := t1.escN I1 l
  exact sp_call J t2 (hn vs ⟨e, r, hr, t1.len⟩) (hd G) (h.mono (fun r _ h v H' F' x' I' t' => h v H' F' ((x1.trans x2).trans x') I' t') fun _ _ h => h.mono (x1.trans x2))
end
end DL

/-! DL, part i: rules of calls, fields, methods, properties, new instances. -/
namespace DL
open PySem L2 Evl

def LenA (fa : FA) (k : Nat) : Prop := ∀ e r, fa e = .ok r → r.1.length = k
theorem lenA0 : LenA fA0 0 := fun e r h => by cases h; rfl
theorem lenA1 {fa : FE} {fr : FA} {k : Nat} (h : LenA fr k) : LenA (fA1 fa fr) (k + 1) := fun e r hr => by
  unfold fA1 at hr
  cases h1 : fa e with
  | stuck => rw [h1] at hr; cases hr
  | exc x e' => rw [h1] at hr; cases hr
  | ok q =>
    rw [h1] at hr
    cases h2 : fr q.2 with
    | stuck => simp only [Res.bind, h2] at hr; cases hr
    | exc x e' => simp only [Res.bind, h2] at hr; cases hr
    | ok q2 =>
      simp only [Res.bind, h2] at hr
      cases hr
      simp [h q.2 q2 h2]

section
variable {X : Cx} {c : Ct} {W : WX} {k n j : Nat} {f C : Addr} {fd : FuncData} {ps : List Str} {m : Fn} {x y : Str} {p pos apos : Pos} {a o : Expr} {es : List Expr} {ta to : TE} {tr : TA} {fa fo : FE} {fr : FA} {dvs : List V} {ds : List Value} {dds : List D} {ms : List Bool} {sp : Sp}
/-- f(a, ..) -/
theorem de_call (tk : Takes X W) (F : FnOk X.prog X.w X.K X.mg X.base (CX X.prog X.w) k f fd ps (spD c n m)) (hr : Room k X.A) (hg : Gl X x) (hm : X.mg x = some (.ref f)) (hk : PySem.W.keepIn X.K (.ref f) = true) (hb : Binds X.K fd ps ds) (hd : Vals dvs ds) (hdd : ∀ F, RpL c F dds dvs)
    (hlen : LenA fr j) (hn : j + dvs.length = n) (ha : DA X c W (a :: es) tr fr) (hdb : (x == ("__debug__" : Str)) = false := by decide) (he : starEach (a :: es) X.env = (false, eval a X.env) :: starEach es X.env := by rfl) (hpl : (backTo pos (starEach es X.env)).any (·.1) = false := by rfl) :
    DE X c W (.Call (.Name x p) (a :: es) [] pos) (tCallSD (spD c n m) dvs (WE W) tr) (fCall ms dds m fr) :=
  ⟨pe_callSD F hr hg hm hk hb hd (fun σ => passAt tk σ) ha.pa hdb he hpl, sn_call (fun vs ⟨e, r, h1, h2⟩ => by rw [List.length_append, ← h2, hlen e r h1]; exact hn) hdd ha.sn⟩
theorem de_call0 (tk : Takes X W) (F : FnOk X.prog X.w X.K X.mg X.base (CX X.prog X.w) k f fd ps (spD c n m)) (hr : Room k X.A) (hg : Gl X x) (hm : X.mg x = some (.ref f)) (hk : PySem.W.keepIn X.K (.ref f) = true) (hb : Binds X.K fd ps ds) (hd : Vals dvs ds) (hdd : ∀ F, RpL c F dds dvs)
    (hn : dvs.length = n) (hdb : (x == ("__debug__" : Str)) = false := by decide) : DE X c W (.Call (.Name x p) [] [] pos) (tCallSD (spD c n m) dvs (WE W) tNil) (fCall ms dds m fA0) := by
  refine ⟨⟨fun pins s σ H Q I h => ?_⟩, sn_call (fun vs ⟨e, r, h1, h2⟩ => by rw [List.length_append, ← h2, lenA0 e r h1, Nat.zero_add]; exact hn) hdd (da_nil (X := X)).sn⟩
  refine wpAny_Call_Name_kw (ld_glob I hg hm ?_ hdb)
  exact PySem.W.callWith_K0 I.kIn hk (run_fnSD (us := []) F hr hb hd (passAt tk σ) I .nil h)

/-! ### fields -/
def fldOf (ns : List Str) (f : Str) (ds : List D) : Option D := (ns.zip ds).lookup f
theorem zip_look {F : Hp} : ∀ {ns : List Str} {ds : List D} {vs : List V} {d : D}, RpL c F ds vs → (ns.zip ds).lookup x = some d → ∃ v, (ns.zip vs).lookup x = some v ∧ Rp c F d v
  | [], _, _, _, _, h => by simp at h
  | _ :: _, [], _, _, _, h => by simp at h
  | n0 :: ns, d0 :: ds, vs, d, ⟨v, r, e, h1, h2⟩, h => by
    subst e
    rw [List.zip_cons_cons, List.lookup_cons] at h
    rw [List.zip_cons_cons, List.lookup_cons]
    cases q : x == n0 with
    | true => rw [q] at h; cases h; exact ⟨v, rfl, h1⟩
    | false => rw [q] at h; exact zip_look h2 h
def fFld (ns : List Str) (k : Nat) (f : Str) (fo : FE) : FE := fun e => (fo e).bind fun r => Res.of ((lookT r.1 r.2).bind fun d => match d with
  | .ins k' ds => if k' = k then (fldOf ns f ds).map fun d => (.vl d, r.2) else none
  | _ => none)
theorem sn_fld {i : Nat} (cl : Cls c.K (c.cl i)) (na : NoAttr c.K (c.cl i) x) (ho : SndE c W to fo) : SndE c W (tFld c.K to x) (fFld (c.fn i) i x fo) := fun z σ H F e Q I h => by
  unfold fFld at h
  rw [Wp.bind] at h
  refine ho z σ H F e _ I (h.mono (fun r _ h v H1 F1 x1 I1 t1 => ?_) fun _ _ h => h)
  obtain ⟨q, ea, h⟩ := Wp.of h
  obtain ⟨d, l1, ea⟩ := obind ea
  cases d <;> try cases ea
  rename_i k' ds
  dsimp only at ea
  split at ea
  · rename_i ek
    subst ek
    obtain ⟨d, l2, rfl⟩ := omap ea
    obtain ⟨p, dx, vs, rfl, h2, r2⟩ := (t1.view I1 l1).ins I1.fh
    obtain ⟨v, h3, r3⟩ := zip_look r2 l2
    exact ⟨p, _, dx, _, v, rfl, h2, cl, na, h3, h _ H1 F1 x1 I1 r3⟩
  · cases ea
theorem de_fld {i : Nat} (hK : X.K = c.K) (cl : Cls c.K (c.cl i)) (na : NoAttr c.K (c.cl i) x) (ho : DE X c W o to fo) (hb : attributeBase o x X.env (eval o X.env) = eval o X.env := by rfl) : DE X c W (.Attribute o x pos) (tFld c.K to x) (fFld (c.fn i) i x fo) := ⟨hK ▸ pe_fld ho.pe hb, sn_fld cl na ho.sn⟩
/-- self.f = e -/
def putD (ns : List Str) (f : Str) (d : D) (ds : List D) : Option (List D) := match ns.idxOf? f with
  | some i => if i < ds.length then some (ds.set i d) else if i = ds.length then some (ds ++ [d]) else none
  | none => none
theorem putF_zip {f : Str} {y : V} : ∀ {ns : List Str} {vs : List V} {i : Nat}, ns.idxOf? f = some i → i ≤ vs.length → putF f y (ns.zip vs) = ns.zip (if i < vs.length then vs.set i y else vs ++ [y])
  | [], _, _, h, _ => by simp at h
  | n :: ns, vs, i, h, hl => by
    rw [List.idxOf?_cons] at h
    split at h
    · rename_i hn
      cases h
      have hn' : n = f := by simpa using hn
      cases vs with
      | nil =>
        rw [if_neg (by simp), List.zip_nil_right]
        show [(f, y)] = (n :: ns).zip ([] ++ [y])
        rw [hn']
        simp
      | cons v vs =>
        rw [if_pos (by simp), List.zip_cons_cons]
        show (if n = f then (n, y) :: ns.zip vs else (n, v) :: putF f y (ns.zip vs)) = (n :: ns).zip ((v :: vs).set 0 y)
        rw [if_pos hn']
        simp
    · rename_i hn
      obtain ⟨i', h1, rfl⟩ := omap h
      have hn' : ¬ n = f := by simpa using hn
      cases vs with
      | nil => simp at hl
      | cons v vs =>
        have ih := putF_zip (y := y) (vs := vs) h1 (by simpa using hl)
        rw [List.zip_cons_cons]
        show (if n = f then (n, y) :: ns.zip vs else (n, v) :: putF f y (ns.zip vs)) = _
        rw [if_neg hn', ih]
        by_cases hi : i' < vs.length
        · rw [if_pos hi, if_pos (by simpa using hi)]
          simp
        · rw [if_neg hi, if_neg (by simpa using hi)]
          simp
def rootIns (k : Nat) (e : DEnv) (j : Nat) : Option (List D) := match e[j]? with
  | some (some (.ow (.ins k' ds))) => if k' = k then some ds else none
  | some (some (.br (.ins k' ds))) => if k' = k then some ds else none
  | _ => none
def putIns (k : Nat) (e : DEnv) (j : Nat) (ds : List D) : DEnv := match e[j]? with
  | some (some b) => e.set j (some (b.re (.ins k ds)))
  | _ => e
theorem I2.rootIns {z : Zs} {σ : L2.St} {H F : Hp} {e : DEnv} {k j : Nat} {ds : List D} (I : I2 c z σ H F e) (h : rootIns k e j = some ds) : ∃ p dx vs, σ[j]? = some (some (.ref p)) ∧ H p = some (.ins (c.cl k) dx ((c.fn k).zip vs)) ∧ RpL c F ds vs ∧
    ∀ vs' ds', RpL c F ds' vs' → I2 c z σ (upd H p (.ins (c.cl k) dx ((c.fn k).zip vs'))) F (putIns k e j ds') := by
  unfold DL.rootIns at h
  split at h <;> try cases h
  · rename_i hb
    split at h
    · rename_i ek
      subst ek; cases h
      obtain ⟨v, hv, p, rfl, ⟨hF, dx, vs, h1, h2⟩, _⟩ := I.slot j _ hb
      refine ⟨p, dx, vs, hv, h1, h2, fun vs' ds' r => ?_⟩
      unfold putIns
      rw [hb]
      exact I.mut hb rfl hv ⟨hF, dx, vs', upd_same, r⟩
    · cases h
  · rename_i hb
    split at h
    · rename_i ek
      subst ek; cases h
      obtain ⟨v, hv, p, rfl, ⟨hF, dx, vs, h1, h2⟩, _⟩ := I.slot j _ hb
      refine ⟨p, dx, vs, hv, h1, h2, fun vs' ds' r => ?_⟩
      unfold putIns
      rw [hb]
      exact I.mut hb rfl hv ⟨hF, dx, vs', upd_same, r⟩
    · cases h
def fPutF (ns : List Str) (k j : Nat) (f : Str) (fv : FE) : FS := fun e => (fv e).bind fun r => Res.of ((escape r.1 r.2).bind fun q => (rootIns k q.2 j).bind fun ds => (putD ns f q.1 ds).bind fun ds' => if ds.length < 900 then some (.nx (putIns k q.2 j ds')) else none)
theorem sn_putF {i j : Nat} {tv : TE} {fv : FE} (cl : Cls c.K (c.cl i)) (na : NoAttr c.K (c.cl i) x) (hv : SndE c W tv fv) : SndS c W (sFld c.K (tVar j) tv x) (fPutF (c.fn i) i j x fv) := fun z σ H F e D I h => by
  unfold fPutF at h
  rw [Wp.bind] at h
  refine hv z σ H F e _ I (h.mono (fun r _ h v H1 F1 x1 I1 t1 => ?_) fun _ _ h => h σ)
  obtain ⟨q, ea, h⟩ := Wp.of h
  obtain ⟨⟨d, e1⟩, l1, ea⟩ := obind ea
  obtain ⟨ds, l2, ea⟩ := obind ea
  obtain ⟨ds', l3, ea⟩ := obind ea
  dsimp only at ea
  split at ea
  · rename_i hlen
    cases ea
    obtain ⟨G, x2, J, rr⟩ := t1.escape I1 l1
    obtain ⟨p, dx, vs, hp, h2, r2, kk⟩ := J.rootIns l2
    refine ⟨_, hp, p, _, dx, _, rfl, h2, cl, na, ?_, ?_⟩
    · rw [List.length_zip]
      have := r2.len
      omega
    · unfold putD at l3
      split at l3
      · rename_i ix hix
        split at l3
        · rename_i hi
          cases l3
          rw [putF_zip hix (by rw [← r2.len]; omega), if_pos (by rw [← r2.len]; exact hi)]
          exact h σ _ G (x1.trans x2) (kk _ _ (r2.set ix rr))
        · split at l3
          · rename_i hi hi2
            cases l3
            rw [putF_zip hix (by rw [← r2.len]; omega), if_neg (by rw [← r2.len]; exact hi)]
            exact h σ _ G (x1.trans x2) (kk _ _ (r2.app (RpL.one rr)))
          · cases l3
      · cases l3
  · cases ea
theorem ds_putF {i j : Nat} {v : Expr} {tv : TE} {fv : FE} {pos' : Pos} (hK : X.K = c.K) (cl : Cls c.K (c.cl i)) (na : NoAttr c.K (c.cl i) x) (ho : PE X (.Name y p) (tVar j)) (hv : DE X c W v tv fv) (hs : swapsWith v (some (.Attribute (.Name y p) x pos')) pos.line X.env = pure false := by rfl) :
    DS X c W (.Assign [.Attribute (.Name y p) x pos'] v pos) (sFld c.K (tVar j) tv x) (fPutF (c.fn i) i j x fv) := ⟨hK ▸ ps_fld ho hv.pe hs, sn_putF cl na hv.sn⟩

/-! ### methods, properties -/
/-- the object first, then the arguments -/
def fMeth (k : Nat) (ms : List Bool) (dds : List D) (m : Fn) (fo : FE) (fa : FA) : FE := fun e => (fo e).bind fun r0 => match lookT r0.1.seal r0.2 with
  | some (.ins k' _) => if k' = k then (fa r0.2).bind fun r => (Res.of (escN ms (r0.1.seal :: r.1) r.2)).bind fun q => callM dds m q.1 q.2 else .stuck
  | _ => .stuck
def tMethS (C : Addr) (m : Str) (sp : Sp) (dvs : List V) (E : L2.St → XK) (ta : TE) (t : TA) : TE := fun σ H Q => ta σ H fun x H1 => ∃ a dx fs, x = .ref a ∧ H1 a = some (.ins C dx fs) ∧ fs.lookup m = none ∧
  t σ H1 fun vs H2 => sp (x :: (vs ++ dvs)) H2 Q (E σ)
theorem zip_none {vs : List V} : ∀ {ns : List Str}, x ∉ ns → (ns.zip vs).lookup x = none := by
  induction vs with
  | nil => intro ns h; simp
  | cons v vs ih =>
    intro ns h
    cases ns with
    | nil => simp
    | cons n ns =>
      rw [List.zip_cons_cons, List.lookup_cons]
      have h1 : (x == n) = false := by simp; exact fun z => h (z ▸ List.mem_cons_self)
      rw [h1]
      exact ih fun z => h (List.mem_cons_of_mem _ z)
theorem lookT_seal {t : T} {e : DEnv} : lookT t.seal e = lookT t e := by cases t <;> rfl
theorem sn_meth {i : Nat} (hx : x ∉ c.fn i) (hn : ∀ vs : List V, (∃ e r, fr e = .ok r ∧ r.1.length = vs.length) → vs.length + dvs.length + 1 = n) (hd : ∀ F, RpL c F dds dvs) (ho : SndE c W to fo) (ha : SndA c W tr fr) :
    SndE c W (tMethS (c.cl i) x (spD c n m) dvs (WE W) to tr) (fMeth i ms dds m fo fr) := fun z σ H F e Q I h => by
  unfold fMeth at h
  rw [Wp.bind] at h
  refine ho z σ H F e _ I (h.mono (fun r0 _ g v H1 F1 x1 I1 t1 => ?_) fun _ _ h => h)
  clear h
  obtain ⟨F2, x2, J, t2⟩ := t1.seal I1
  split at g
  · rename_i k' ds hl
    split at g
    · rename_i ek
      subst ek
      obtain ⟨p, dx, vs, rfl, h2, r2⟩ := (t2.view J hl).ins J.fh
      refine ⟨p, dx, _, rfl, h2, zip_none hx, ?_⟩
      rw [Wp.bind] at g
      refine ha z σ H1 F2 _ _ J (g.mono (fun r hr h vs H3 F3 x3 I3 t3 => ?_) fun _ _ h => h.mono (x1.trans x2))
      rw [Wp.bind] at h
      obtain ⟨⟨ts, e3⟩, l, h⟩ := Wp.of h
      have t4 : TRs c z F3 H3 σ r.2 (r0.1.seal :: r.1) (V.ref p :: vs) := ⟨_, _, rfl, T.seal_seal _, t2.keep x3, t3⟩
      obtain ⟨G, x4, K, t5⟩ := t4.escN I3 l
      have sc := sp_call (n := n) (m := m) (dvs := dvs) (W := W) (Q := Q) K t5 (by
        have := hn vs ⟨_, r, hr, t3.len⟩
        simp; omega) (hd G) (h.mono (fun r _ h v H' F' x' I' t' => h v H' F' (((x1.trans x2).trans (x3.trans x4)).trans x') I' t') fun _ _ h => h.mono ((x1.trans x2).trans (x3.trans x4)))
      exact sc
    · exact g.elim
  · exact g.elim
theorem pe_methS {E : L2.St → XK} {CX : CXT} {pl : Sem Bool} {t : TA} (he : PE X o to) (cl : Cls X.K C) (hm : Meth X.K C x f) (F : FnOk X.prog X.w X.K X.mg X.base CX k f fd ps sp) (hr : Room k X.A) (hb : Binds X.K fd ps ds) (hd : Vals dvs ds) (hx : ∀ σ, PassesAt CX X σ (E σ)) (ha : PA X (a :: es) t)
    (hst : starEach (a :: es) X.env = (false, eval a X.env) :: starEach es X.env := by rfl) (hpl : (backTo pos (starEach es X.env)).any (·.1) = false := by rfl)
    (ht : eval (.Call (.Attribute o x apos) (a :: es) [] pos) X.env = (do
      let ov ← eval o X.env
      standAt apos.atName
      let (f, first) ← holding [ov] (getMethod ov x pl)
      callWith pos f first (backTo pos (starEach (a :: es) X.env)) (backToKw pos (keywordEach [] X.env))) := by rfl) :
    PE X (.Call (.Attribute o x apos) (a :: es) [] pos) (tMethS C x sp dvs E to t) := by
  refine ⟨fun pins s σ H Q I h => ?_⟩
  refine PySem.W.methodCall_KW (pl := pl) (thn (he.run pins s σ H _ I h) fun u s1 ⟨x, H1, I1, rx, a, dx, fs, ex, ea, l, q⟩ => ?_) ht
  subst ex
  obtain rfl : u = Value.ref a := rx
  refine getmeth_ok I1 ea cl hm l ?_
  refine PySem.W.callWith_K (first := [.ref a]) (h₀ := X.base) I.ok.mod.kin hm.kp (thn (ha.run pos pins s1 σ H1 _ I1 q) fun us s2 ⟨vs, H2, I2, r, q2⟩ => ⟨I2.kIn, ?_⟩) hst hpl
  exact run_fnSD (us := .ref a :: us) (vs := .ref a :: vs) F hr hb hd (hx σ) I2 (.cons rfl r) q2
theorem pe_methS0 {E : L2.St → XK} {CX : CXT} {pl : Sem Bool} (he : PE X o to) (cl : Cls X.K C) (hm : Meth X.K C x f) (F : FnOk X.prog X.w X.K X.mg X.base CX k f fd ps sp) (hr : Room k X.A) (hb : Binds X.K fd ps ds) (hd : Vals dvs ds) (hx : ∀ σ, PassesAt CX X σ (E σ))
    (ht : eval (.Call (.Attribute o x apos) [] [] pos) X.env = (do
      let ov ← eval o X.env
      standAt apos.atName
      let (f, first) ← holding [ov] (getMethod ov x pl)
      callWith pos f first (backTo pos (starEach [] X.env)) (backToKw pos (keywordEach [] X.env))) := by rfl) :
    PE X (.Call (.Attribute o x apos) [] [] pos) (tMethS C x sp dvs E to tNil) := by
  refine ⟨fun pins s σ H Q I h => ?_⟩
  refine PySem.W.methodCall_KW (pl := pl) (thn (he.run pins s σ H _ I h) fun u s1 ⟨x, H1, I1, rx, a, dx, fs, ex, ea, l, q⟩ => ?_) ht
  subst ex
  obtain rfl : u = Value.ref a := rx
  refine getmeth_ok I1 ea cl hm l ?_
  exact PySem.W.callWith_K0 (first := [.ref a]) I1.kIn hm.kp (run_fnSD (us := [.ref a]) (vs := [.ref a]) F hr hb hd (hx σ) I1 (.cons rfl .nil) q)
/-- o.m(a, ..) -/
theorem de_meth {i : Nat} {pl : Sem Bool} (tk : Takes X W) (hK : X.K = c.K) (hx : x ∉ c.fn i) (cl : Cls c.K (c.cl i)) (hm : Meth c.K (c.cl i) x f) (F : FnOk X.prog X.w X.K X.mg X.base (CX X.prog X.w) k f fd ps (spD c n m)) (hr : Room k X.A) (hb : Binds X.K fd ps ds) (hd : Vals dvs ds) (hdd : ∀ F, RpL c F dds dvs)
    (hlen : LenA fr j) (hn : j + dvs.length + 1 = n) (ho : DE X c W o to fo) (ha : DA X c W (a :: es) tr fr)
    (hst : starEach (a :: es) X.env = (false, eval a X.env) :: starEach es X.env := by rfl) (hpl : (backTo pos (starEach es X.env)).any (·.1) = false := by rfl)
    (ht : eval (.Call (.Attribute o x apos) (a :: es) [] pos) X.env = (do
      let ov ← eval o X.env
      standAt apos.atName
      let (f, first) ← holding [ov] (getMethod ov x pl)
      callWith pos f first (backTo pos (starEach (a :: es) X.env)) (backToKw pos (keywordEach [] X.env))) := by rfl) :
    DE X c W (.Call (.Attribute o x apos) (a :: es) [] pos) (tMethS (c.cl i) x (spD c n m) dvs (WE W) to tr) (fMeth i ms dds m fo fr) :=
  ⟨pe_methS (pl := pl) ho.pe (hK ▸ cl) (hK ▸ hm) F hr hb hd (fun σ => passAt tk σ) ha.pa hst hpl ht, sn_meth hx (fun vs ⟨e, r, h1, h2⟩ => by rw [← h2, hlen e r h1]; exact hn) hdd ho.sn ha.sn⟩
theorem de_meth0 {i : Nat} {pl : Sem Bool} (tk : Takes X W) (hK : X.K = c.K) (hx : x ∉ c.fn i) (cl : Cls c.K (c.cl i)) (hm : Meth c.K (c.cl i) x f) (F : FnOk X.prog X.w X.K X.mg X.base (CX X.prog X.w) k f fd ps (spD c n m)) (hr : Room k X.A) (hb : Binds X.K fd ps ds) (hd : Vals dvs ds) (hdd : ∀ F, RpL c F dds dvs)
    (hn : dvs.length + 1 = n) (ho : DE X c W o to fo)
    (ht : eval (.Call (.Attribute o x apos) [] [] pos) X.env = (do
      let ov ← eval o X.env
      standAt apos.atName
      let (f, first) ← holding [ov] (getMethod ov x pl)
      callWith pos f first (backTo pos (starEach [] X.env)) (backToKw pos (keywordEach [] X.env))) := by rfl) :
    DE X c W (.Call (.Attribute o x apos) [] [] pos) (tMethS (c.cl i) x (spD c n m) dvs (WE W) to tNil) (fMeth i ms dds m fo fA0) :=
  ⟨pe_methS0 (pl := pl) ho.pe (hK ▸ cl) (hK ▸ hm) F hr hb hd (fun σ => passAt tk σ) ht, sn_meth hx (fun vs ⟨e, r, h1, h2⟩ => by rw [← h2, lenA0 e r h1, Nat.zero_add]; exact hn) hdd ho.sn (da_nil (X := X)).sn⟩
/-- o.p, a property -/
def noExc (r : Res (T × DEnv)) : Res (T × DEnv) := match r with
  | .exc _ _ => .stuck
  | r => r
def fProp (k : Nat) (m : Fn) (fo : FE) : FE := fun e => (fo e).bind fun r0 => match lookT r0.1.seal r0.2 with
  | some (.ins k' _) => if k' = k then (Res.of (escN [false] [r0.1.seal] r0.2)).bind fun q => noExc (callM [] m q.1 q.2) else .stuck
  | _ => .stuck
theorem sn_prop {i : Nat} (ho : SndE c W to fo) : SndE c W (tProp (c.cl i) (spD c 1 m) [] E0 to) (fProp i m fo) := fun z σ H F e Q I h => by
  unfold fProp at h
  rw [Wp.bind] at h
  refine ho z σ H F e _ I (h.mono (fun r0 _ g v H1 F1 x1 I1 t1 => ?_) fun _ _ h => h)
  clear h
  obtain ⟨F2, x2, J, t2⟩ := t1.seal I1
  split at g
  · rename_i k' ds hl
    split at g
    · rename_i ek
      subst ek
      obtain ⟨p, dx, vs, rfl, h2, r2⟩ := (t2.view J hl).ins J.fh
      refine ⟨p, dx, _, rfl, h2, ?_⟩
      rw [Wp.bind] at g
      obtain ⟨⟨ts, e3⟩, l, h⟩ := Wp.of g
      have t4 : TRs c z F2 H1 σ r0.2 [r0.1.seal] [V.ref p] := ⟨_, _, rfl, T.seal_seal _, t2, rfl⟩
      obtain ⟨G, x4, K, t5⟩ := t4.escN J l
      have h' : Wp (callM [] m ts e3) (fun r => ∀ v H' F', Ex F F' → I2 c z σ H' F' r.2 → TR c z F' H' σ r.2 r.1 v → Q v H') (fun _ _ => False) := by
        unfold noExc at h
        cases hq : callM [] m ts e3 with
        | stuck => rw [hq] at h; exact h
        | ok r => rw [hq] at h; exact h
        | exc x e' => rw [hq] at h; exact h.elim
      have sc := sp_call (n := 1) (m := m) (dvs := []) (dds := []) (W := W0) (Q := Q) K t5 rfl rfl (h'.mono (fun r _ h v H' F' x' I' t' => h v H' F' (((x1.trans x2).trans x4).trans x') I' t') fun _ _ h => h.elim)
      exact sc
    · exact g.elim
  · exact g.elim
theorem de_prop {i : Nat} {pp g : Addr} (hK : X.K = c.K) (cl : Cls c.K (c.cl i)) (hp : PropOf c.K (c.cl i) x pp g) (F : FnOk X.prog X.w X.K X.mg X.base (CX X.prog X.w) k g fd ps (spD c 1 m)) (hr : Room (k + 1) X.A) (hb : Binds X.K fd ps []) (ho : DE X c W o to fo)
    (hab : attributeBase o x X.env (eval o X.env) = eval o X.env := by rfl) : DE X c W (.Attribute o x pos) (tProp (c.cl i) (spD c 1 m) [] E0 to) (fProp i m fo) :=
  ⟨pe_prop (E := E0) ho.pe (hK ▸ cl) (hK ▸ hp) F hr hb .nil passL hab, sn_prop ho.sn⟩
end
end DL

/-! DL, part j: new instances, isinstance, zip. -/
namespace DL
open PySem L2 Evl

section
variable {c : Ct} {z : Zs} {W : WX} {σ σ' : L2.St} {H H' F F' G : Hp} {e e' : DEnv}
/-! ### a frame with one more name -/
theorem get_app {α : Type} {l : List α} {x y : α} {i : Nat} (h : (l ++ [x])[i]? = some y) : (i < l.length ∧ l[i]? = some y) ∨ (i = l.length ∧ y = x) := by
  by_cases hi : i < l.length
  · rw [List.getElem?_append_left hi] at h; exact .inl ⟨hi, h⟩
  · rw [List.getElem?_append_right (by omega)] at h
    cases hk : i - l.length with
    | zero => rw [hk] at h; simp at h; exact .inr ⟨by omega, h.symm⟩
    | succ n => rw [hk] at h; simp at h
theorem I2.ext {x : Addr} {d : D} (I : I2 c z σ H F e) (w : Own c F H d x) (h0 : z.H0 x = none) (hn : ∀ i, ¬ RootAt σ e i x) : I2 c z (σ ++ [some (.ref x)]) H F (e ++ [some (.ow d)]) := by
  have key : ∀ (j : Nat) (q : Addr), RootAt (σ ++ [some (.ref x)]) (e ++ [some (.ow d)]) j q → (j = e.length ∧ q = x) ∨ RootAt σ e j q := fun j q ⟨b, h1, h2, h3⟩ => by
    rcases get_app h1 with ⟨l1, g1⟩ | ⟨l1, g1⟩
    · rcases get_app h3 with ⟨_, g3⟩ | ⟨l3, _⟩
      · exact .inr ⟨b, g1, h2, g3⟩
      · rw [← I.len] at l3; omega
    · rcases get_app h3 with ⟨l3, _⟩ | ⟨_, g3⟩
      · rw [← I.len] at l3; omega
      · cases g3; exact .inl ⟨l1, rfl⟩
  refine ⟨by simp [I.len], I.f0, I.fh, I.keep, fun i b h => ?_, fun i j p h1 h2 => ?_, I.bo, I.nf, fun i d' v h h' => ?_⟩
  · rcases get_app h with ⟨l1, g1⟩ | ⟨l1, g1⟩
    · obtain ⟨v, hv, r⟩ := I.slot i b g1
      exact ⟨v, by rw [List.getElem?_append_left (get_lt hv)]; exact hv, r⟩
    · cases g1
      exact ⟨.ref x, by rw [l1, I.len]; simp, x, rfl, w, h0⟩
  · rcases key i p h1 with ⟨rfl, rfl⟩ | r1
    · rcases key j _ h2 with ⟨rfl, _⟩ | r2
      · rfl
      · exact (hn j r2).elim
    · rcases key j p h2 with ⟨rfl, rfl⟩ | r2
      · exact (hn i r1).elim
      · exact I.dist i j p r1 r2
  · rcases get_app h with ⟨l1, g1⟩ | ⟨l1, g1⟩
    · rcases get_app h' with ⟨_, g2⟩ | ⟨l2, _⟩
      · exact I.brv i d' v g1 g2
      · rw [← I.len] at l2; omega
    · cases g1
theorem I2.unext {x : Option V} {b : Option B} (I : I2 c z (σ ++ [x]) H F (e ++ [b])) : I2 c z σ H F e := by
  have hl : e.length = σ.length := by have := I.len; simp at this; exact this
  have upe : ∀ {i : Nat} {y : Option B}, e[i]? = some y → (e ++ [b])[i]? = some y := fun {i y} h => by rw [List.getElem?_append_left (get_lt h)]; exact h
  have ups : ∀ {i : Nat} {y : Option V}, σ[i]? = some y → (σ ++ [x])[i]? = some y := fun {i y} h => by rw [List.getElem?_append_left (get_lt h)]; exact h
  have key : ∀ (i : Nat) (p : Addr), RootAt σ e i p → RootAt (σ ++ [x]) (e ++ [b]) i p := fun i p ⟨b', h1, h2, h3⟩ => ⟨b', upe h1, h2, ups h3⟩
  refine ⟨hl, I.f0, I.fh, I.keep, fun i b' h => ?_, fun i j p h1 h2 => I.dist i j p (key _ _ h1) (key _ _ h2), I.bo, I.nf, fun i d v h h' => I.brv i d v (upe h) (ups h')⟩
  obtain ⟨v, hv, r⟩ := I.slot i b' (upe h)
  rcases get_app hv with ⟨_, g⟩ | ⟨l, _⟩
  · exact ⟨v, g, r⟩
  · have := get_lt h; omega
/-- C(..): a new instance is laid behind the frame's names, handed to __init__, and taken back -/
def fMake (k : Nat) (ms : List Bool) (dds : List D) (m : Fn) (fa : FA) : FE := fun e => (fa e).bind fun r => (Res.of (escN ms r.1 r.2)).bind fun q => match callM dds m (.sl q.2.length :: q.1) (q.2 ++ [some (.ow (.ins k []))]) with
  | .stuck => .stuck
  | .exc x e' => .exc x e'.dropLast
  | .ok (.vl .non, e') => match e'.getLast? with
    | some (some (.ow (.ins k' ds))) => .ok (.nw (.ins k' ds), e'.dropLast)
    | _ => .stuck
  | .ok _ => .stuck
def tMakeS (C : Addr) (sp : Sp) (dvs : List V) (E : L2.St → XK) (t : TA) : TE := fun σ H Q => t σ H fun vs H1 => ∀ x dx, H1 x = none → H1 dx = none → dx ≠ x →
  sp (.ref x :: (vs ++ dvs)) (upd (upd H1 dx (.own x)) x (.ins C dx [])) (fun v H2 => v = .non ∧ Q (.ref x) H2) (E σ)
theorem TRs.ext {x : Option V} {b : Option B} : ∀ {ts : List T} {vs : List V}, TRs c z F H σ e ts vs → TRs c z F H' (σ ++ [x]) (e ++ [b]) ts vs
  | [], _, h => h
  | t :: ts, _, ⟨v, r, h1, h2, h3, h4⟩ => by
    have h5 : TR c z F H' (σ ++ [x]) (e ++ [b]) t v := by
      cases t with
      | sl i =>
        have h3' : σ[i]? = some (some v) := h3
        show (σ ++ [x])[i]? = some (some v)
        rw [List.getElem?_append_left (get_lt h3')]; exact h3'
      | vl d => exact h3
      | nw d => cases h2
    exact ⟨v, r, h1, h2, h5, TRs.ext h4⟩
theorem drop_last_of {e : DEnv} {n : Nat} (h : e.length = n + 1) : ∃ e0 b, e = e0 ++ [b] ∧ e0.length = n ∧ e.dropLast = e0 ∧ e.getLast? = some b := by
  have hne : e ≠ [] := fun z => by rw [z] at h; cases h
  refine ⟨e.dropLast, e.getLast hne, (List.dropLast_concat_getLast hne).symm, by simp [h], rfl, by rw [List.getLast?_eq_some_getLast hne]⟩
theorem sn_make {n k : Nat} {ms : List Bool} {m : Fn} {dvs : List V} {dds : List D} {ta : TA} {fa : FA} (hn : ∀ vs : List V, (∃ e r, fa e = .ok r ∧ r.1.length = vs.length) → vs.length + dvs.length + 1 = n) (hd : ∀ F, RpL c F dds dvs) (ha : SndA c W ta fa)
    (hW : ∀ cls dd σ H, W cls dd σ H → W cls dd σ H) : SndE c W (tMakeS (c.cl k) (spD c n m) dvs (WE W) ta) (fMake k ms dds m fa) := fun z σ H F e Q I h => by
  unfold fMake at h
  rw [Wp.bind] at h
  refine ha z σ H F e _ I (h.mono (fun r hr g vs H1 F1 x1 I1 t1 => ?_) fun _ _ h => h)
  clear h
  rw [Wp.bind] at g
  obtain ⟨⟨ts, e2⟩, l, g⟩ := Wp.of g
  obtain ⟨G, x2, J, t2⟩ := t1.escN I1 l
  intro x dx hx hdx hne
  -- the heap with the new instance
  have eH : Ex H1 (upd (upd H1 dx (.own x)) x (.ins (c.cl k) dx [])) := (Ex.new hdx).trans (Ex.new (by rw [upd_ne hne.symm]; exact hx))
  have J1 := J.alloc eH
  have hz : (c.fn k).zip ([] : List V) = [] := by simp
  have w : Own c G (upd (upd H1 dx (.own x)) x (.ins (c.cl k) dx [])) (.ins k []) x := ⟨fresh_back J.fh hx, dx, [], by rw [upd_same, hz], rfl⟩
  have J2 := J1.ext w (J.fresh0 hx) (J.noroot hx)
  have t3 : TRs c z G (upd (upd H1 dx (.own x)) x (.ins (c.cl k) dx [])) (σ ++ [some (.ref x)]) (e2 ++ [some (.ow (.ins k []))]) (.sl e2.length :: ts) (.ref x :: vs) :=
    ⟨_, _, rfl, rfl, by show (σ ++ [some (V.ref x)])[e2.length]? = _; rw [J.len]; simp, TRs.ext t2⟩
  have sc := sp_call (n := n) (m := m) (dvs := dvs) (dds := dds) (W := fun cls dd _ H => W cls dd σ H) (Q := fun v H2 => v = .non ∧ Q (.ref x) H2) J2 t3 (by
    have := hn vs ⟨_, r, hr, t1.len⟩
    simp; omega) (hd G) ?_
  · exact sc
  · have hln : ∀ {e' : DEnv} {H' F' : Hp}, I2 c z (σ ++ [some (V.ref x)]) H' F' e' → e'.length = e2.length + 1 := fun {e' H' F'} K => by rw [K.len]; simp [J.len]
    cases hq : callM dds m (.sl e2.length :: ts) (e2 ++ [some (.ow (.ins k []))]) with
    | stuck => rw [hq] at g; exact g.elim
    | exc xv e' =>
      rw [hq] at g
      intro cls dd H' F' x' K r'
      obtain ⟨e0, b, rfl, l0, ed, _⟩ := drop_last_of (hln K)
      have K0 := K.unext
      dsimp only at g
      rw [show List.dropLast (e0 ++ [b]) = e0 from ed] at g
      exact g cls dd H' F' ((x1.trans x2).trans x') K0 r'
    | ok r' =>
      rw [hq] at g
      obtain ⟨t, e'⟩ := r'
      intro v H' F' x' K t'
      obtain ⟨e0, b, rfl, l0, ed, eg⟩ := drop_last_of (hln K)
      cases t with
      | sl i => exact g.elim
      | nw d => exact g.elim
      | vl d =>
        cases d <;> try exact g.elim
        have ev : v = .non := t'
        refine ⟨ev, ?_⟩
        dsimp only at g
        rw [show List.getLast? (e0 ++ [b]) = some b from eg, show List.dropLast (e0 ++ [b]) = e0 from ed] at g
        cases b with
        | none => exact g.elim
        | some b =>
          cases b <;> try exact g.elim
          rename_i d
          cases d <;> try exact g.elim
          rename_i k' ds
          have K0 := K.unext
          have hs : (e0 ++ [some (B.ow (.ins k' ds))])[e0.length]? = some (some (.ow (.ins k' ds))) := by simp
          obtain ⟨v0, hv0, p, rfl, w', h0'⟩ := K.slot e0.length _ hs
          have hp : (σ ++ [some (V.ref x)])[e0.length]? = some (some (.ref x)) := by rw [l0, J.len]; simp
          rw [hp] at hv0; cases hv0
          refine g (.ref x) H' F' ((x1.trans x2).trans x') K0 ⟨x, rfl, w', h0', fun i ⟨b', q1, q2, q3⟩ => ?_⟩
          have := K.dist i e0.length x ⟨b', by rw [List.getElem?_append_left (get_lt q1)]; exact q1, q2, by rw [List.getElem?_append_left (get_lt q3)]; exact q3⟩ ⟨_, hs, rfl, hp⟩
          have hlt := get_lt q1
          dsimp only at hlt
          omega
end

section
variable {X : Cx} {c : Ct} {W : WX} {k n j : Nat} {f C : Addr} {fd : FuncData} {ps : List Str} {m : Fn} {x y : Str} {p pos apos : Pos} {a o : Expr} {es : List Expr} {ta to : TE} {tr : TA} {fa fo : FE} {fr : FA} {dvs : List V} {ds : List Value} {dds : List D} {ms : List Bool} {sp : Sp} {E : L2.St → XK} {CX : CXT}
theorem run_makeS {pins : List (Addr × Obj)} {σ : L2.St} {H : Hp} {s : Shared} {Q : VK} {us : List Value} {vs : List V} (M : Mk X.K C f) (F : FnOk X.prog X.w X.K X.mg X.base CX k f fd ps sp) (hr : Room (k + 1) X.A) (hb : Binds X.K fd ps ds) (hd : Vals dvs ds)
    (hx : PassesAt CX X σ (E σ)) (hx2 : ∀ (H : Hp) (s : Shared) (C : Addr) (e : Value) (s' : Shared), Inv X pins σ H s → CX X.stack H s (E σ) e s' → X.xe e s') (I : Inv X pins σ H s) (r : Vals vs us)
    (h : ∀ x dx, H x = none → H dx = none → dx ≠ x → sp (.ref x :: (vs ++ dvs)) (upd (upd H dx (.own x)) x (.ins C dx [])) (fun v H2 => v = .non ∧ Q (.ref x) H2) (E σ)) :
    wpAny (model X.prog X.w) X.A (call (.ref C) us) (EP X pins σ Q) X.xe s := by
  have hq := h (s.heap.objs.size + 1) s.heap.objs.size (I.hok.fresh (Nat.le_succ _)) (I.hok.fresh (Nat.le_refl _)) (Nat.ne_of_lt (Nat.lt_succ_self _))
  have I2 := Inv.made (C := C) I
  have r2 : Vals (V.ref (s.heap.objs.size + 1) :: (vs ++ dvs)) (Value.ref (s.heap.objs.size + 1) :: (us ++ ds)) := .cons rfl (r.append hd)
  have hl : (Value.ref (s.heap.objs.size + 1) :: us ++ ds).length = ps.length := by
    have e := r2.length
    rw [F.len _ _ _ _ hq] at e
    exact e.symm
  refine wpAny_call (make_map (f := f) I.kIn M.makes M.init (beq_iff_eq.mp M.fn) (codeAny_mono (F.run _ X.stack _ _ ⟨Value.ref (s.heap.objs.size + 1) :: us, []⟩ (Value.ref (s.heap.objs.size + 1) :: (us ++ ds)) _ _ (E σ) (hr.make C us [])
    (I2.env0.make C us []) (hb _ (Value.ref (s.heap.objs.size + 1) :: us) I2.kIn hl) r2 hq) fun r s' hq' => ?_))
  cases r with
  | error e => exact hx pins _ _ e s' I2 hq'
  | ok fl =>
    cases fl with
    | ret u =>
      obtain ⟨v, H', I3, rv, ev, q3⟩ := I2.after hq'
      subst ev
      exact ⟨rv, ⟨V.ref (s.heap.objs.size + 1), H', I3, rfl, q3⟩⟩
    | next => exact False.elim hq'
    | brk => exact False.elim hq'
    | cont => exact False.elim hq'
theorem pe_makeS (M : Mk X.K C f) (F : FnOk X.prog X.w X.K X.mg X.base CX k f fd ps sp) (hr : Room (k + 1) X.A) (hg : Gl X x) (hm : X.mg x = some (.ref C)) (hb : Binds X.K fd ps ds) (hd : Vals dvs ds) (hx : ∀ σ, PassesAt CX X σ (E σ))
    (ha : PA X (a :: es) tr) (hdb : (x == ("__debug__" : Str)) = false := by decide) (he : starEach (a :: es) X.env = (false, eval a X.env) :: starEach es X.env := by rfl) (hpl : (backTo pos (starEach es X.env)).any (·.1) = false := by rfl) :
    PE X (.Call (.Name x p) (a :: es) [] pos) (tMakeS C sp dvs E tr) := by
  refine ⟨fun pins s σ H Q I h => ?_⟩
  refine wpAny_Call_Name_kw (ld_glob I hg hm ?_ hdb)
  refine PySem.W.callWith_K (h₀ := X.base) I.ok.mod.kin M.kp (thn (ha.run pos pins s σ H _ I h) fun us s1 ⟨vs, H1, I1, r, q⟩ => ⟨I1.kIn, ?_⟩) he hpl
  exact run_makeS M F hr hb hd (hx σ) (fun H s _ e s' I h => hx σ pins H s e s' I h) I1 r q
/-- C(a, ..) -/
theorem de_make {i : Nat} (tk : Takes X W) (hK : X.K = c.K) (M : Mk c.K (c.cl i) f) (F : FnOk X.prog X.w X.K X.mg X.base (L2.CX X.prog X.w) k f fd ps (spD c n m)) (hr : Room (k + 1) X.A) (hg : Gl X x) (hm : X.mg x = some (.ref (c.cl i))) (hb : Binds X.K fd ps ds) (hd : Vals dvs ds) (hdd : ∀ F, RpL c F dds dvs)
    (hlen : LenA fr j) (hn : j + dvs.length + 1 = n) (ha : DA X c W (a :: es) tr fr) (hdb : (x == ("__debug__" : Str)) = false := by decide) (he : starEach (a :: es) X.env = (false, eval a X.env) :: starEach es X.env := by rfl) (hpl : (backTo pos (starEach es X.env)).any (·.1) = false := by rfl) :
    DE X c W (.Call (.Name x p) (a :: es) [] pos) (tMakeS (c.cl i) (spD c n m) dvs (WE W) tr) (fMake i ms dds m fr) :=
  ⟨pe_makeS (hK ▸ M) F hr hg hm hb hd (fun σ => passAt tk σ) ha.pa hdb he hpl, sn_make (fun vs ⟨e, r, h1, h2⟩ => by rw [← h2, hlen e r h1]; exact hn) hdd ha.sn fun _ _ _ _ h => h⟩

/-! ### isinstance -/
/-- of a class of one's own: what isinstance asks -/
structure InsT (K : PySem.W.Frag) (C : Addr) : Prop where
  cl : Cls K C
  ha : PySem.W.findIn K (.ref C) "__class__" = some (some (.builtin "object.__class__"))
  hn : PySem.W.specialIn K (.builtin "object.__class__") "__get__" = some (some (.builtin "getset_descriptor.__get__"))
  ht : PySem.W.takesIn K (.builtin "object.__class__") = some true
  hm : PySem.W.mroIn K C (.type "object") = some true
def isiP (tbl : Nat → Option Bool) (bt : String → Option Bool) : D → Option Bool
  | .non => bt "NoneType"
  | .bl _ => bt "bool"
  | .int _ => bt "int"
  | .str _ => bt "str"
  | .lst _ => bt "list"
  | .tup _ => bt "tuple"
  | .rol _ => none
  | .ins k _ => tbl k
  | .dct _ _ _ => none
  | .exv _ _ => none
def IsiOk (c : Ct) (u : Value) (tbl : Nat → Option Bool) (bt : String → Option Bool) : Prop := (∀ T b, bt T = some b → PySem.W.kitOne c.K (.type T) u = some b) ∧ ∀ k b, tbl k = some b → InsT c.K (c.cl k) ∧ PySem.W.kitOne c.K (.ref (c.cl k)) u = some b
theorem SqT.tyX {K : PySem.W.Frag} {H : Hp} {a : Addr} {xs : List V} (h : SqT K H a xs) : TyX K H (.ref a) (.type "tuple") := by
  rcases h with (h | ⟨o, h⟩) | h
  · exact .base (.tup h)
  · exact .fTuple h
  · obtain ⟨o, its, n, h1, h2, _⟩ := h
    exact .kTuple h1 h2
theorem isi_ty {u : Value} {tbl : Nat → Option Bool} {bt : String → Option Bool} (ok : IsiOk c u tbl bt) {F H : Hp} {d : D} {v : V} {b : Bool} (x : Ex F H) (k : View c F H d v) (h : isiP tbl bt d = some b) : ∃ t, TyX c.K H v t ∧ PySem.W.kitOne c.K t u = some b := by
  cases d with
  | non => rw [k.non]; exact ⟨_, .base .non, ok.1 _ _ h⟩
  | bl i => rw [k.bl]; exact ⟨_, .base (.bl i), ok.1 _ _ h⟩
  | int i => rw [k.int]; exact ⟨_, .base (.int i), ok.1 _ _ h⟩
  | str i => rw [k.str]; exact ⟨_, .base (.str i), ok.1 _ _ h⟩
  | lst ds => obtain ⟨p, vs, rfl, h1, _⟩ := k.lst x; exact ⟨_, .base (.lst h1), ok.1 _ _ h⟩
  | tup ds => obtain ⟨p, vs, rfl, h1, _⟩ := k.tup x; exact ⟨_, SqT.tyX h1, ok.1 _ _ h⟩
  | rol ds => cases h
  | dct t ks ds => cases h
  | exv k ds => cases h
  | ins j ds =>
    obtain ⟨p, dx, vs, rfl, h1, _⟩ := k.ins x
    obtain ⟨i, h2⟩ := ok.2 j b h
    exact ⟨_, .base (.ins h1 i.cl i.ha i.hn i.ht i.hm), h2⟩
def fIsi (P : D → Option Bool) (fa : FE) : FE := fun e => (fa e).bind fun r => Res.of ((lookT r.1 r.2).bind fun d => (P d).map fun b => (.vl (.bl b), r.2))
theorem sn_isi {cv : V} {u : Value} {tbl : Nat → Option Bool} {bt : String → Option Bool} (cu : ClsV cv u) (ok : IsiOk c u tbl bt) (ha : SndE c W ta fa) : SndE c W (tCB (rIsi c.K) (tCons ta (tCons (tC cv) tNil))) (fIsi (isiP tbl bt) fa) := fun z σ H F e Q I h => by
  unfold fIsi at h
  rw [Wp.bind] at h
  refine ha z σ H F e _ I (h.mono (fun r _ h v H1 F1 x1 I1 t1 => ?_) fun _ _ h => h)
  obtain ⟨q, ea, h⟩ := Wp.of h
  obtain ⟨d, l1, ea⟩ := obind ea
  obtain ⟨b, l2, rfl⟩ := omap ea
  obtain ⟨t, h1, h2⟩ := isi_ty ok I1.fh (t1.view I1 l1) l2
  exact ⟨v, cv, t, u, b, rfl, cu, h1, h2, h _ H1 F1 x1 I1 rfl⟩
theorem de_isi {cv : V} {u : Value} {tbl : Nat → Option Bool} {bt : String → Option Bool} {b : Expr} (hK : X.K = c.K) (cu : ClsV cv u) (ok : IsiOk c u tbl bt) (hg : Gl X "isinstance") (hm : X.mg "isinstance" = none) (ha : DE X c W a ta fa) (hb : PE X b (tC cv))
    (he : starEach [a, b] X.env = (false, eval a X.env) :: starEach [b] X.env := by rfl) (he2 : starEach [b] X.env = (false, eval b X.env) :: starEach [] X.env := by rfl) (hpl : (backTo pos (starEach [b] X.env)).any (·.1) = false := by rfl) :
    DE X c W (.Call (.Name "isinstance" p) [a, b] [] pos) (tCB (rIsi c.K) (tCons ta (tCons (tC cv) tNil))) (fIsi (isiP tbl bt) fa) :=
  ⟨pe_callB (hK ▸ call_isi) hg hm (by decide +kernel) (pa_cons ha.pe (pa_cons hb pa_nil he2) he) (by decide) (by decide) he hpl, sn_isi cu ok ha.sn⟩

/-! ### zip of two lists, of two tuples -/
def izip (xs ys : List D) : List D := (xs.zip ys).map fun p => .tup [p.1, p.2]
def fiZip (fr : FA) : FI := fun e => (fr e).bind fun r => Res.of ((escs r.1 r.2).bind fun q => match q.1 with
  | [.lst xs, .lst ys] => some (izip xs ys, q.2)
  | [.tup xs, .tup ys] => some (izip xs ys, q.2)
  | _ => none)
theorem zip_ix {xs ys : List D} {i : Nat} {d : D} (h : (izip xs ys)[i]? = some d) : ∃ x y, xs[i]? = some x ∧ ys[i]? = some y ∧ d = .tup [x, y] := by
  unfold izip at h
  rw [List.getElem?_map] at h
  obtain ⟨q, h1, rfl⟩ := omap h
  rw [List.getElem?_zip_eq_some] at h1
  exact ⟨q.1, q.2, h1.1, h1.2, rfl⟩
theorem itOk_zipT {F : Hp} {z' : Zs} {p q : Addr} {vs ws : List V} {xs ys : List D} (h : SqT c.K F p vs) (r : RpL c F xs vs) (h' : SqT c.K F q ws) (r' : RpL c F ys ws) : ItOk c z' (RZ.ItzT c.K p q) F (izip xs ys) := fun i σ H1 F1 e x I => by
  have h1 := ex_t (x.trans I.fh) h
  have h2 := ex_t (x.trans I.fh) h'
  refine ⟨fun d hd => ?_, fun hl => ⟨vs, ws, h1, h2, ?_⟩⟩
  · obtain ⟨a, b, hx, hy, rfl⟩ := zip_ix hd
    obtain ⟨v, hv, rv⟩ := r.get hx
    obtain ⟨w, hw, rw'⟩ := r'.get hy
    refine ⟨⟨vs, ws, v, w, h1, h2, hv, hw⟩, fun y H2 hy => ?_⟩
    obtain ⟨T, v', w', rfl, hT, rfl, k1, k2⟩ := hy
    have e1 := k1 vs h1
    have e2 := k2 ws h2
    rw [hv] at e1; cases e1
    rw [hw] at e2; cases e2
    have xn := Ex.new (o := HO.tup [v, w]) (fresh_back I.fh hT)
    exact ⟨_, xn, Ex.new hT, I.allocT hT, T, [v, w], rfl, st_of upd_same, v, [w], rfl, rv.mono (x.trans xn) _ _, w, [], rfl, rw'.mono (x.trans xn) _ _, rfl⟩
  · unfold izip at hl
    rw [List.length_map, List.length_zip, r.len, r'.len] at hl
    omega
theorem itOk_zipL {F : Hp} {z' : Zs} {p q : Addr} {vs ws : List V} {xs ys : List D} (h : SqL c.K F p vs) (r : RpL c F xs vs) (h' : SqL c.K F q ws) (r' : RpL c F ys ws) : ItOk c z' (Itz c.K p q) F (izip xs ys) := fun i σ H1 F1 e x I => by
  have h1 := ex_l (x.trans I.fh) h
  have h2 := ex_l (x.trans I.fh) h'
  refine ⟨fun d hd => ?_, fun hl => ⟨vs, ws, h1, h2, ?_⟩⟩
  · obtain ⟨a, b, hx, hy, rfl⟩ := zip_ix hd
    obtain ⟨v, hv, rv⟩ := r.get hx
    obtain ⟨w, hw, rw'⟩ := r'.get hy
    refine ⟨⟨vs, ws, v, w, h1, h2, hv, hw⟩, fun y H2 hy => ?_⟩
    obtain ⟨T, v', w', rfl, hT, rfl, k1, k2⟩ := hy
    have e1 := k1 vs h1
    have e2 := k2 ws h2
    rw [hv] at e1; cases e1
    rw [hw] at e2; cases e2
    have xn := Ex.new (o := HO.tup [v, w]) (fresh_back I.fh hT)
    exact ⟨_, xn, Ex.new hT, I.allocT hT, T, [v, w], rfl, st_of upd_same, v, [w], rfl, rv.mono (x.trans xn) _ _, w, [], rfl, rw'.mono (x.trans xn) _ _, rfl⟩
  · unfold izip at hl
    rw [List.length_map, List.length_zip, r.len, r'.len] at hl
    omega
theorem sn_iZip (ha : SndA c W tr fr) : SndI c W (RZ.iZipA c.K tr) (fiZip fr) := fun z σ H F e R I h => by
  unfold fiZip at h
  rw [Wp.bind] at h
  refine ha z σ H F e _ I (h.mono (fun r _ h vs H1 F1 x1 I1 t1 => ?_) fun _ _ h => h)
  obtain ⟨o, ea, h⟩ := Wp.of h
  obtain ⟨⟨ds, e1⟩, l1, ea⟩ := obind ea
  obtain ⟨G, x2, J, rr⟩ := t1.escs I1 l1
  dsimp only at ea
  split at ea <;> try cases ea
  · obtain ⟨v, r1, rfl, ⟨p, vs1, rfl, h1, q1⟩, w, r2, rfl, ⟨q, vs2, rfl, h2, q2⟩, rfl⟩ := rr
    exact ⟨p, q, vs1, vs2, rfl, .inl ⟨sq_of (J.fh _ _ h1), sq_of (J.fh _ _ h2), h _ _ G (x1.trans x2) J fun z' => itOk_zipL (sq_of h1) q1 (sq_of h2) q2⟩⟩
  · obtain ⟨v, r1, rfl, ⟨p, vs1, rfl, h1, q1⟩, w, r2, rfl, ⟨q, vs2, rfl, h2, q2⟩, rfl⟩ := rr
    exact ⟨p, q, vs1, vs2, rfl, .inr ⟨ex_t J.fh h1, ex_t J.fh h2, h _ _ G (x1.trans x2) J fun z' => itOk_zipT h1 q1 h2 q2⟩⟩
theorem di_zip {b : Expr} {elts : List Expr} {kk : Nat} {tpos : Pos} (hK : X.K = c.K) (hg : Gl X "zip") (hm : X.mg "zip" = none) (ha : DA X c W [a, b] tr fr)
    (hs : starEach [a, b] X.env = (false, eval a X.env) :: starEach [b] X.env := by rfl) (hpl : (backTo pos (starEach [b] X.env)).any (·.1) = false := by rfl) :
    DI X c W (.Tuple elts kk tpos) (.Call (.Name "zip" p) [a, b] [] pos) (RZ.iZipA c.K tr) (fiZip fr) := ⟨hK ▸ RZ.pi_zipA hg hm ha.pa hs hpl, sn_iZip ha.sn⟩
end
end DL

/-! DL, part k: operators that a class of one's own defines. -/
namespace PySem.W
open PySem PySem.Calls PyProof.Rows
section
variable {prog : Program} {w : World} {A : Around} {E : Value → Shared → Prop} {s : Shared} {K : Frag} {x C L f g : Addr} {h₀ : Heap} {m : Str → Option Value} {ox : Obj} {od : Option Obj}
/-- an int on the left, an own instance on the right: its reflected method -/
theorem dl_binR {op : Operator} {i : Int} {t : Tok} {id : String} {B : Builtin} {Q : Value → Shared → Prop} (F : Fr h₀ L s.heap m) (X₀ : K.In h₀) (I : InstAt s.heap x ox C od) (hc : selfFirst K C = true)
    (hs : findIn K (.ref C) (PySem.dunder op.info.2) = some (some (.ref f))) (hr : findIn K (.ref C) (dunderR op.info.2) = some (some (.ref g))) (hg : isFn K (.ref g) = true) (hsub : subIn K (.ref C) (.type "int") = some false)
    (fills : fillsNumberSlot (.type "int") op.info.2 = pure true) (slot : Slot "int" (PySem.dunder op.info.2) id) (entry : entryFor table id = some B) (args : argsOk id ⟨[.int i t, .ref x], []⟩)
    (dec : ∀ (A : Around) (E : Value → Shared → Prop) (Q : Fin → Shared → Prop), Q (.done (.ret .notImplemented)) s → wpAny (model prog w) A (B ⟨[.int i t, .ref x], []⟩) Q E s)
    (h : wpAny (model prog w) A (call (.ref g) [.ref x, .int i t]) (CmpBack Q) E s) : wpAny (model prog w) A (binaryOp op (.int i t) (.ref x)) Q E s := by
  have X := X₀.keeps F.keep
  obtain ⟨cd, rest, hcd, hm⟩ := ksp_first hc
  rcases hi : op.info with ⟨sym, nm'⟩
  rw [hi] at hs hr fills slot
  dsimp only at hs hr fills slot
  have one := ksp_try X I hr hg h
  have left : wpAny (model prog w) A (tryMethod (.int i t) (PySem.dunder nm') (.ref x)) (fun r s' => r = none ∧ s' = s) E s :=
    wpAny_tryMethod_declines (typeIs_int s i t) slot (wpAny_call (codeAny_call_builtin slot.plain entry (slot.check _ _ _ _ _ _ _ _ (typeIs_int s i t) args (dec _ _ _ ⟨rfl, rfl, rfl⟩))))
  have L1 : Looks (model prog w) s.heap (typeOf (.ref x)) (.ref C) := I.type
  have L2 : Looks (model prog w) s.heap (typeOf (.int i t)) (.type "int") := Looks.of_pure rfl
  have L3 : Looks (model prog w) s.heap (fillsNumberSlot (.ref C) nm') true := fills_K X hcd hm hs
  have L4 : Looks (model prog w) s.heap (fillsNumberSlot (.type "int") nm') true := Looks.of_pure fills
  have L5 : Looks (model prog w) s.heap (isSubtype (.ref C) (.type "int")) false := looks_subIn X hsub
  have L7 : Looks (model prog w) s.heap (numberSlotInPython (.type "int") nm') false := Looks.of_pure rfl
  have hne : (Value.type "int" == Value.ref C) = false := Bool.eq_false_iff.mpr fun q => by cases beq_iff_eq.mp q
  simp only [binaryOp, hi]
  refine wpAny_holding (wpAny_bind ?_)
  unfold binaryOp1
  refine wpAny_bind (L2.here (wpAny_bind (L1.here (wpAny_bind (L4.here ?_)))))
  simp only [hne, Bool.false_eq_true, if_false]
  refine wpAny_bind (L3.here ?_)
  simp only [Bool.and_self, if_true]
  refine wpAny_bind (L5.here ?_)
  simp only [Bool.false_eq_true, if_false, pure_bind, Bool.not_false, Bool.and_self, if_true]
  refine wpAny_bind (L7.here ?_)
  simp only [Bool.false_eq_true, if_false, pure_bind]
  refine wpAny_bind (wpAny_mono left (fun r s' hr' => ?_) fun _ _ e => e)
  obtain ⟨rfl, rfl⟩ := hr'
  dsimp only
  first
    | (refine wpAny_bind (wpAny_mono one (fun r s' hr' => ?_) fun _ _ e => e)
       obtain ⟨v, rfl, hq⟩ := hr'
       exact wpAny_bind (wpAny_rule (wpAny_pure (wpAny_pure hq))))
    | trace_state
theorem dl_decAdd {i : Int} {t : Tok} {dx : Addr} (hx : s.heap.get? x = some (instObj C dx)) (A : Around) (E : Value → Shared → Prop) (Q : Fin → Shared → Prop) (h : Q (.done (.ret .notImplemented)) s) : wpAny (model prog w) A (Builtin.«int.__add__» ⟨[.int i t, .ref x], []⟩) Q E s := by
  obtain ⟨hp, g, d, tk, os⟩ := s
  wp_walk using wpAny_load hx
  all_goals first | exact h | trace_state
theorem dl_decSub {i : Int} {t : Tok} {dx : Addr} (hx : s.heap.get? x = some (instObj C dx)) (A : Around) (E : Value → Shared → Prop) (Q : Fin → Shared → Prop) (h : Q (.done (.ret .notImplemented)) s) : wpAny (model prog w) A (Builtin.«int.__sub__» ⟨[.int i t, .ref x], []⟩) Q E s := by
  obtain ⟨hp, g, d, tk, os⟩ := s
  wp_walk using wpAny_load hx
  all_goals first | exact h | trace_state
theorem dl_decMul {i : Int} {t : Tok} {dx : Addr} (hx : s.heap.get? x = some (instObj C dx)) (A : Around) (E : Value → Shared → Prop) (Q : Fin → Shared → Prop) (h : Q (.done (.ret .notImplemented)) s) : wpAny (model prog w) A (Builtin.«int.__mul__» ⟨[.int i t, .ref x], []⟩) Q E s := by
  obtain ⟨hp, g, d, tk, os⟩ := s
  wp_walk using wpAny_load hx
  all_goals first | exact h | trace_state
end
end PySem.W

namespace DL
open PySem L2 Evl

section
variable {X : Cx} {c : Ct} {W : WX} {k n j : Nat} {f g C : Addr} {fd : FuncData} {ps : List Str} {m : Fn} {x y : Str} {p pos apos : Pos} {a b o : Expr} {es : List Expr} {ta tb to : TE} {tr : TA} {fa fb fo : FE} {fr : FA} {sp : Sp} {E : L2.St → XK} {CX : CXT} {op : Operator}

/-- a class's own operator: the def, and that it is asked first -/
structure Own2 (K : PySem.W.Frag) (C f : Addr) (op : Operator) : Prop where
  s : PySem.W.findIn K (.ref C) (PySem.dunder op.info.2) = some (some (.ref f))
  fn : PySem.W.isFn K (.ref f) = true
  fst : PySem.W.selfFirst K C = true
/-- .. with an int on the right -/
structure Own2I (K : PySem.W.Frag) (C : Addr) (op : Operator) : Prop where
  r : ∃ rc, PySem.W.findIn K (.ref C) (dunderR op.info.2) = some rc ∧ (rc = none ∨ ∃ g : Addr, rc = some (.ref g))
  h1 : ∃ fo, PySem.W.findIn K (.type "int") (PySem.dunder op.info.2) = some fo
  h2 : ∃ ro, PySem.W.findIn K (.type "int") (dunderR op.info.2) = some ro
  sub : PySem.W.subIn K (.type "int") (.ref C) = some false
/-- .. with an int on the left -/
structure Own2R (K : PySem.W.Frag) (C g : Addr) (op : Operator) : Prop where
  s : ∃ f : Addr, PySem.W.findIn K (.ref C) (PySem.dunder op.info.2) = some (some (.ref f))
  r : PySem.W.findIn K (.ref C) (dunderR op.info.2) = some (some (.ref g))
  fn : PySem.W.isFn K (.ref g) = true
  fst : PySem.W.selfFirst K C = true
  sub : PySem.W.subIn K (.ref C) (.type "int") = some false
theorem EP.back {pins : List (Addr × Obj)} {σ : L2.St} {Q : VK} {u : Value} {s' : Shared} (h : EP X pins σ Q u s') : PySem.W.CmpBack (EP X pins σ Q) u s' := by
  cases u <;> first | exact h | skip
  obtain ⟨v, H', _, r, _⟩ := h
  cases v with
  | non => cases r
  | bl _ => cases r
  | int _ => obtain ⟨_, r⟩ := r; cases r
  | str _ => obtain ⟨_, r⟩ := r; cases r
  | byt _ => obtain ⟨_, r⟩ := r; cases r
  | flt _ => obtain ⟨_, r⟩ := r; cases r
  | ref _ => cases r
  | ty _ => cases r
theorem Inv.inst {pins : List (Addr × Obj)} {σ : L2.St} {H : Hp} {s : Shared} {a dx : Addr} {fs : List (Str × V)} (I : Inv X pins σ H s) (h : H a = some (.ins C dx fs)) : s.heap.get? a = some (PySem.W.instObj C dx) ∧ ∃ od, PySem.W.InstAt s.heap a (PySem.W.instObj C dx) C (some od) := by
  obtain ⟨mA, O, _⟩ := ins_get I.hok h
  obtain ⟨od, J, _⟩ := O.look
  exact ⟨O.1, od, J⟩
def tOwnLL (C : Addr) (sp : Sp) (E : L2.St → XK) (ta tb : TE) : TE := fun σ H Q => ta σ H fun x H1 => tb σ H1 fun y H2 => ∃ a dx fs b dy gs, x = .ref a ∧ H2 a = some (.ins C dx fs) ∧ y = .ref b ∧ H2 b = some (.ins C dy gs) ∧ sp [x, y] H2 Q (E σ)
def tOwnLI (C : Addr) (sp : Sp) (E : L2.St → XK) (ta tb : TE) : TE := fun σ H Q => ta σ H fun x H1 => tb σ H1 fun y H2 => ∃ a dx fs i, x = .ref a ∧ H2 a = some (.ins C dx fs) ∧ y = .int i ∧ sp [x, y] H2 Q (E σ)
def tOwnIL (C : Addr) (sp : Sp) (E : L2.St → XK) (ta tb : TE) : TE := fun σ H Q => ta σ H fun x H1 => tb σ H1 fun y H2 => ∃ b dy gs i, x = .int i ∧ y = .ref b ∧ H2 b = some (.ins C dy gs) ∧ sp [y, x] H2 Q (E σ)
theorem binS {pins : List (Addr × Obj)} {s : Shared} {σ : L2.St} {H : Hp} {R : V → V → Hp → Prop} (ha : PE X a ta) (hb : PE X b tb) (I : Inv X pins σ H s) (h : ta σ H fun x H1 => tb σ H1 fun y H2 => R x y H2)
    {Q : Value → Shared → Prop} {fn : Value → Value → Sem Value}
    (hf : ∀ v u s2 x y H2, Inv X pins σ H2 s2 → RelV x v → RelV y u → R x y H2 → wpAny (model X.prog X.w) X.A (fn v u) Q X.xe s2) :
    wpAny (model X.prog X.w) X.A (eval a X.env) (fun v s₁ => wpAny (model X.prog X.w) X.A (eval b X.env) (fun u s₂ => wpAny (model X.prog X.w) X.A (fn v u) Q X.xe s₂) X.xe s₁) X.xe s := bin ha hb I h hf
theorem pe_ownLL (w2 : Own2 X.K C f op) (F : FnOk X.prog X.w X.K X.mg X.base CX k f fd ps sp) (hr : Room k X.A) (hb : Binds X.K fd ps []) (hx : ∀ σ, PassesAt CX X σ (E σ)) (ha : PE X a ta) (hb' : PE X b tb) : PE X (.BinOp a op b pos) (tOwnLL C sp E ta tb) := by
  refine ⟨fun pins s σ H Q I h => ?_⟩
  refine wpAny_BinOp (bin ha hb' I h fun v u s2 x y H2 I2 rx ry q => ?_)
  obtain ⟨p, dx, fs, q', dy, gs, rfl, h1, rfl, h2, hsp⟩ := q
  cases rx; cases ry
  obtain ⟨_, od, J⟩ := Inv.inst I2 h1
  obtain ⟨_, od', J'⟩ := Inv.inst I2 h2
  obtain ⟨m, hF⟩ := I2.fr
  refine PySem.W.binop_K hF I2.ok.mod.kin J J'.type w2.fst w2.s w2.fn (wpAny_mono (run_fnSD (us := [.ref p, .ref q']) (vs := [.ref p, .ref q']) F hr hb .nil (hx σ) I2 (.cons rfl (.cons rfl .nil)) hsp) (fun _ _ h => EP.back h) fun _ _ h => h)
theorem pe_ownLI (w2 : Own2 X.K C f op) (wi : Own2I X.K C op) (F : FnOk X.prog X.w X.K X.mg X.base CX k f fd ps sp) (hr : Room k X.A) (hb : Binds X.K fd ps []) (hx : ∀ σ, PassesAt CX X σ (E σ)) (ha : PE X a ta) (hb' : PE X b tb) : PE X (.BinOp a op b pos) (tOwnLI C sp E ta tb) := by
  refine ⟨fun pins s σ H Q I h => ?_⟩
  refine wpAny_BinOp (bin ha hb' I h fun v u s2 x y H2 I2 rx ry q => ?_)
  obtain ⟨p, dx, fs, i, rfl, h1, rfl, hsp⟩ := q
  cases rx
  obtain ⟨t, rfl⟩ := ry
  obtain ⟨_, od, J⟩ := Inv.inst I2 h1
  obtain ⟨m, hF⟩ := I2.fr
  obtain ⟨⟨rc, r1, r2⟩, ⟨fo, e1⟩, ⟨ro, e2⟩, hsub⟩ := wi
  refine PySem.W.ksp_binT hF I2.ok.mod.kin J (T := "int") rfl w2.fst w2.s w2.fn r1 r2 e1 e2 hsub (wpAny_mono (run_fnSD (us := [.ref p, .int i t]) (vs := [.ref p, .int i]) F hr hb .nil (hx σ) I2 (.cons rfl (.cons ⟨t, rfl⟩ .nil)) hsp) (fun _ _ h => EP.back h) fun _ _ h => h)
/-- the ints' own part in it: they decline -/
def Declines (op : Operator) : Prop := ∃ (id : String) (B : Builtin), fillsNumberSlot (.type "int") op.info.2 = pure true ∧ Nonempty (PLift (Slot "int" (PySem.dunder op.info.2) id)) ∧ entryFor table id = some B ∧ (∀ i t x, argsOk id ⟨[.int i t, .ref x], []⟩) ∧
  ∀ (prog : Program) (w : World) (s : Shared) (C x dx : Addr) (i : Int) (t : Tok), s.heap.get? x = some (PySem.W.instObj C dx) → ∀ (A : Around) (E : Value → Shared → Prop) (Q : Fin → Shared → Prop), Q (.done (.ret .notImplemented)) s → wpAny (model prog w) A (B ⟨[.int i t, .ref x], []⟩) Q E s
theorem decl_add : Declines .Add := ⟨_, _, F.fills_int_add, ⟨⟨F.slot_int_add⟩⟩, F.entry_int_add, fun _ _ _ => F.args_int_add_2 _ _, fun _ _ _ _ _ _ _ _ hx A E Q h => PySem.W.dl_decAdd hx A E Q h⟩
theorem decl_sub : Declines .Sub := ⟨_, _, F.fills_int_sub, ⟨⟨F.slot_int_sub⟩⟩, F.entry_int_sub, fun _ _ _ => F.args_int_sub_2 _ _, fun _ _ _ _ _ _ _ _ hx A E Q h => PySem.W.dl_decSub hx A E Q h⟩
theorem decl_mul : Declines .Mult := ⟨_, _, F.fills_int_mul, ⟨⟨F.slot_int_mul⟩⟩, F.entry_int_mul, fun _ _ _ => F.args_int_mul_2 _ _, fun _ _ _ _ _ _ _ _ hx A E Q h => PySem.W.dl_decMul hx A E Q h⟩
theorem pe_ownIL (d : Declines op) (w2 : Own2R X.K C g op) (F : FnOk X.prog X.w X.K X.mg X.base CX k g fd ps sp) (hr : Room k X.A) (hb : Binds X.K fd ps []) (hx : ∀ σ, PassesAt CX X σ (E σ)) (ha : PE X a ta) (hb' : PE X b tb) : PE X (.BinOp a op b pos) (tOwnIL C sp E ta tb) := by
  refine ⟨fun pins s σ H Q I h => ?_⟩
  refine wpAny_BinOp (bin ha hb' I h fun v u s2 x y H2 I2 rx ry q => ?_)
  obtain ⟨p, dx, fs, i, rfl, rfl, h1, hsp⟩ := q
  cases ry
  obtain ⟨t, rfl⟩ := rx
  obtain ⟨ho, od, J⟩ := Inv.inst I2 h1
  obtain ⟨m, hF⟩ := I2.fr
  obtain ⟨id, B, d1, ⟨⟨d2⟩⟩, d3, d4, d5⟩ := d
  obtain ⟨f0, hs⟩ := w2.s
  refine PySem.W.dl_binR hF I2.ok.mod.kin J w2.fst hs w2.r w2.fn w2.sub d1 d2 d3 (d4 _ _ _) (d5 X.prog X.w s2 C p dx i t ho) (wpAny_mono (run_fnSD (us := [.ref p, .int i t]) (vs := [.ref p, .int i]) F hr hb .nil (hx σ) I2 (.cons rfl (.cons ⟨t, rfl⟩ .nil)) hsp) (fun _ _ h => EP.back h) fun _ _ h => h)

def isIns (k : Nat) : D → Bool
  | .ins k' _ => k' == k
  | _ => false
def isInt : D → Bool
  | .int _ => true
  | _ => false
def fOwn2 (p1 p2 : D → Bool) (sw : Bool) (m : Fn) (fa fb : FE) : FE := fun e => (fa e).bind fun r => (fb r.2).bind fun q => match lookT r.1.seal q.2, lookT q.1.seal q.2 with
  | some d1, some d2 => if p1 d1 && p2 d2 then (Res.of (escN [] (if sw then [q.1.seal, r.1.seal] else [r.1.seal, q.1.seal]) q.2)).bind fun q => callM [] m q.1 q.2 else .stuck
  | _, _ => .stuck
theorem isIns_eq {d : D} (h : isIns k d = true) : ∃ ds, d = .ins k ds := by
  cases d <;> try cases h
  exact ⟨_, by rw [show _ = k from beq_iff_eq.mp h]⟩
theorem isInt_eq {d : D} (h : isInt d = true) : ∃ i, d = .int i := by
  cases d <;> try cases h
  exact ⟨_, rfl⟩
theorem sn_own2 {R : L2.St → V → V → Hp → VK → Prop} {p1 p2 : D → Bool} {sw : Bool} (hR : ∀ σ x y H2 Q F d1 d2, Ex F H2 → View c F H2 d1 x → View c F H2 d2 y → p1 d1 = true → p2 d2 = true → spD c 2 m (if sw then [y, x] else [x, y]) H2 Q (WE W σ) → R σ x y H2 Q)
    (ha : SndE c W ta fa) (hb : SndE c W tb fb) : SndE c W (fun σ H Q => ta σ H fun x H1 => tb σ H1 fun y H2 => R σ x y H2 Q) (fOwn2 p1 p2 sw m fa fb) := fun z σ H F e Q I h => by
  unfold fOwn2 at h
  rw [Wp.bind] at h
  refine ha z σ H F e _ I (h.mono (fun r _ h v H1 F1 x1 I1 t1 => ?_) fun _ _ h => h)
  obtain ⟨F2, x2, J, t2⟩ := t1.seal I1
  rw [Wp.bind] at h
  refine hb z σ H1 F2 _ _ J (h.mono (fun q _ h w H3 F3 x3 I3 t3 => ?_) fun _ _ h => h.mono (x1.trans x2))
  obtain ⟨F4, x4, K, t4⟩ := t3.seal I3
  have t2' : TR c z F4 H3 σ q.2 r.1.seal v := t2.keep (x3.trans x4)
  cases h1 : lookT r.1.seal q.2 with
  | none => rw [h1] at h; exact h.elim
  | some d1 =>
    cases h2 : lookT q.1.seal q.2 with
    | none => rw [h1, h2] at h; exact h.elim
    | some d2 =>
      rw [h1, h2] at h
      dsimp only at h
      split at h
      · rename_i hp
        obtain ⟨hp1, hp2⟩ := Bool.and_eq_true_iff.mp hp
        refine hR σ v w H3 Q F4 d1 d2 K.fh (t2'.view K h1) (t4.view K h2) hp1 hp2 ?_
        rw [Wp.bind] at h
        obtain ⟨⟨ts, e3⟩, l, g⟩ := Wp.of h
        have xx := (x1.trans x2).trans (x3.trans x4)
        cases sw with
        | false =>
          have t5 : TRs c z F4 H3 σ q.2 [r.1.seal, q.1.seal] [v, w] := ⟨v, [w], rfl, T.seal_seal _, t2', w, [], rfl, T.seal_seal _, t4, rfl⟩
          obtain ⟨G, x5, K2, t6⟩ := t5.escN K l
          have sc := sp_call (n := 2) (m := m) (dvs := []) (dds := []) (W := W) (Q := Q) K2 t6 rfl rfl (g.mono (fun r _ h v H' F' x' I' t' => h v H' F' ((xx.trans x5).trans x') I' t') fun _ _ h => h.mono (xx.trans x5))
          exact sc
        | true =>
          have t5 : TRs c z F4 H3 σ q.2 [q.1.seal, r.1.seal] [w, v] := ⟨w, [v], rfl, T.seal_seal _, t4, v, [], rfl, T.seal_seal _, t2', rfl⟩
          obtain ⟨G, x5, K2, t6⟩ := t5.escN K l
          have sc := sp_call (n := 2) (m := m) (dvs := []) (dds := []) (W := W) (Q := Q) K2 t6 rfl rfl (g.mono (fun r _ h v H' F' x' I' t' => h v H' F' ((xx.trans x5).trans x') I' t') fun _ _ h => h.mono (xx.trans x5))
          exact sc
      · exact h.elim
theorem de_ownLL {i : Nat} (tk : Takes X W) (hK : X.K = c.K) (w2 : Own2 c.K (c.cl i) f op) (F : FnOk X.prog X.w X.K X.mg X.base (L2.CX X.prog X.w) k f fd ps (spD c 2 m)) (hr : Room k X.A) (hb : Binds X.K fd ps []) (ha : DE X c W a ta fa) (hb' : DE X c W b tb fb) :
    DE X c W (.BinOp a op b pos) (tOwnLL (c.cl i) (spD c 2 m) (WE W) ta tb) (fOwn2 (isIns i) (isIns i) false m fa fb) :=
  ⟨pe_ownLL (hK ▸ w2) F hr hb (fun σ => passAt tk σ) ha.pe hb'.pe, sn_own2 (R := fun σ x y H2 Q => ∃ a dx fs b dy gs, x = .ref a ∧ H2 a = some (.ins (c.cl i) dx fs) ∧ y = .ref b ∧ H2 b = some (.ins (c.cl i) dy gs) ∧ spD c 2 m [x, y] H2 Q (WE W σ)) (fun σ x y H2 Q F d1 d2 e v1 v2 h1 h2 hs => by
    obtain ⟨ds, rfl⟩ := isIns_eq h1
    obtain ⟨es, rfl⟩ := isIns_eq h2
    obtain ⟨p, dx, vs, rfl, g1, _⟩ := v1.ins e
    obtain ⟨q, dy, ws, rfl, g2, _⟩ := v2.ins e
    exact ⟨p, dx, _, q, dy, _, rfl, g1, rfl, g2, hs⟩) ha.sn hb'.sn⟩
theorem de_ownLI {i : Nat} (tk : Takes X W) (hK : X.K = c.K) (w2 : Own2 c.K (c.cl i) f op) (wi : Own2I c.K (c.cl i) op) (F : FnOk X.prog X.w X.K X.mg X.base (L2.CX X.prog X.w) k f fd ps (spD c 2 m)) (hr : Room k X.A) (hb : Binds X.K fd ps []) (ha : DE X c W a ta fa) (hb' : DE X c W b tb fb) :
    DE X c W (.BinOp a op b pos) (tOwnLI (c.cl i) (spD c 2 m) (WE W) ta tb) (fOwn2 (isIns i) isInt false m fa fb) :=
  ⟨pe_ownLI (hK ▸ w2) (hK ▸ wi) F hr hb (fun σ => passAt tk σ) ha.pe hb'.pe, sn_own2 (R := fun σ x y H2 Q => ∃ a dx fs j, x = .ref a ∧ H2 a = some (.ins (c.cl i) dx fs) ∧ y = .int j ∧ spD c 2 m [x, y] H2 Q (WE W σ)) (fun σ x y H2 Q F d1 d2 e v1 v2 h1 h2 hs => by
    obtain ⟨ds, rfl⟩ := isIns_eq h1
    obtain ⟨j, rfl⟩ := isInt_eq h2
    obtain ⟨p, dx, vs, rfl, g1, _⟩ := v1.ins e
    exact ⟨p, dx, _, j, rfl, g1, v2.int, hs⟩) ha.sn hb'.sn⟩
theorem de_ownIL {i : Nat} (tk : Takes X W) (hK : X.K = c.K) (d : Declines op) (w2 : Own2R c.K (c.cl i) g op) (F : FnOk X.prog X.w X.K X.mg X.base (L2.CX X.prog X.w) k g fd ps (spD c 2 m)) (hr : Room k X.A) (hb : Binds X.K fd ps []) (ha : DE X c W a ta fa) (hb' : DE X c W b tb fb) :
    DE X c W (.BinOp a op b pos) (tOwnIL (c.cl i) (spD c 2 m) (WE W) ta tb) (fOwn2 isInt (isIns i) true m fa fb) :=
  ⟨pe_ownIL d (hK ▸ w2) F hr hb (fun σ => passAt tk σ) ha.pe hb'.pe, sn_own2 (R := fun σ x y H2 Q => ∃ b dy gs j, x = .int j ∧ y = .ref b ∧ H2 b = some (.ins (c.cl i) dy gs) ∧ spD c 2 m [y, x] H2 Q (WE W σ)) (fun σ x y H2 Q F d1 d2 e v1 v2 h1 h2 hs => by
    obtain ⟨j, rfl⟩ := isInt_eq h1
    obtain ⟨ds, rfl⟩ := isIns_eq h2
    obtain ⟨p, dx, vs, rfl, g1, _⟩ := v2.ins e
    exact ⟨p, dx, _, j, v1.int, rfl, g1, hs⟩) ha.sn hb'.sn⟩

/-! ### one operand -/
/-- the method of an operator of one operand -/
def un1 : UnaryOp → Str
  | .USub => "__neg__"
  | .UAdd => "__pos__"
  | .Invert => "__invert__"
  | .Not => "__bool__"
structure Own1 (K : PySem.W.Frag) (C f : Addr) (n : Str) : Prop where
  s : PySem.W.findIn K (.ref C) n = some (some (.ref f))
  fn : PySem.W.isFn K (.ref f) = true
def tOwn1 (C : Addr) (sp : Sp) (E : L2.St → XK) (ta : TE) : TE := fun σ H Q => ta σ H fun x H1 => ∃ a dx fs, x = .ref a ∧ H1 a = some (.ins C dx fs) ∧ sp [x] H1 Q (E σ)
theorem pe_own1 {o : UnaryOp} (ho : o = .USub ∨ o = .Invert) (w1 : Own1 X.K C f (un1 o)) (F : FnOk X.prog X.w X.K X.mg X.base CX k f fd ps sp) (hr : Room k X.A) (hb : Binds X.K fd ps []) (hx : ∀ σ, PassesAt CX X σ (E σ)) (ha : PE X a ta) : PE X (.UnaryOp o a pos) (tOwn1 C sp E ta) := by
  refine ⟨fun pins s σ H Q I h => ?_⟩
  refine PyProof.Rows.UnaryOp_ (thn (ha.run pins s σ H _ I h) fun v s1 ⟨x, H1, I1, r1, p, dx, fs, ex, h1, hsp⟩ => ?_)
  subst ex
  cases r1
  obtain ⟨_, od, J⟩ := Inv.inst I1 h1
  obtain ⟨m, hF⟩ := I1.fr
  have cl := run_fnSD (us := [.ref p]) (vs := [.ref p]) F hr hb .nil (hx σ) I1 (.cons rfl .nil) hsp
  rcases ho with rfl | rfl
  · exact PySem.W.ksp_neg hF I1.ok.mod.kin J w1.s w1.fn cl
  · exact PySem.W.ksp_inv hF I1.ok.mod.kin J w1.s w1.fn cl
def fOwn1 (i : Nat) (m : Fn) (fa : FE) : FE := fun e => (fa e).bind fun r => match lookT r.1.seal r.2 with
  | some d => if isIns i d then (Res.of (escN [] [r.1.seal] r.2)).bind fun q => callM [] m q.1 q.2 else .stuck
  | _ => .stuck
theorem sn_own1 {i : Nat} (ha : SndE c W ta fa) : SndE c W (tOwn1 (c.cl i) (spD c 1 m) (WE W) ta) (fOwn1 i m fa) := fun z σ H F e Q I h => by
  unfold fOwn1 at h
  rw [Wp.bind] at h
  refine ha z σ H F e _ I (h.mono (fun r _ h v H1 F1 x1 I1 t1 => ?_) fun _ _ h => h)
  obtain ⟨F2, x2, J, t2⟩ := t1.seal I1
  cases h1 : lookT r.1.seal r.2 with
  | none => rw [h1] at h; exact h.elim
  | some d =>
    rw [h1] at h
    dsimp only at h
    split at h
    · rename_i hp
      obtain ⟨ds, rfl⟩ := isIns_eq hp
      obtain ⟨p, dx, vs, rfl, g1, _⟩ := (t2.view J h1).ins J.fh
      refine ⟨p, dx, _, rfl, g1, ?_⟩
      rw [Wp.bind] at h
      obtain ⟨⟨ts, e3⟩, l, g⟩ := Wp.of h
      have t5 : TRs c z F2 H1 σ r.2 [r.1.seal] [V.ref p] := ⟨_, [], rfl, T.seal_seal _, t2, rfl⟩
      obtain ⟨G, x5, K2, t6⟩ := t5.escN J l
      have sc := sp_call (n := 1) (m := m) (dvs := []) (dds := []) (W := W) (Q := Q) K2 t6 rfl rfl (g.mono (fun r _ h v H' F' x' I' t' => h v H' F' (((x1.trans x2).trans x5).trans x') I' t') fun _ _ h => h.mono ((x1.trans x2).trans x5))
      exact sc
    · exact h.elim
theorem de_own1 {i : Nat} {o : UnaryOp} (ho : o = .USub ∨ o = .Invert) (tk : Takes X W) (hK : X.K = c.K) (w1 : Own1 c.K (c.cl i) f (un1 o)) (F : FnOk X.prog X.w X.K X.mg X.base (L2.CX X.prog X.w) k f fd ps (spD c 1 m)) (hr : Room k X.A) (hb : Binds X.K fd ps []) (ha : DE X c W a ta fa) :
    DE X c W (.UnaryOp o a pos) (tOwn1 (c.cl i) (spD c 1 m) (WE W) ta) (fOwn1 i m fa) := ⟨pe_own1 ho (hK ▸ w1) F hr hb (fun σ => passAt tk σ) ha.pe, sn_own1 ha.sn⟩
end
end DL

/-! DL, part l: == and != that a class of one's own defines (its != is the built-in one over its ==). -/
namespace PySem.W
open PySem PySem.Calls PyProof.Rows
section
variable {prog : Program} {w : World} {A : Around} {E : Value → Shared → Prop} {s : Shared} {K : Frag} {x C L f : Addr} {h₀ : Heap} {m : Str → Option Value} {ox : Obj} {od : Option Obj} {b tb : Value} {name : Str}
theorem dl_ifBoundB {M : Model} {id : String} {args : List Value} {Q : Option Value → Shared → Prop} (X : K.In s.heap) (I : InstAt s.heap x ox C od) (hs : findIn K (.ref C) name = some (some (.builtin id)))
    (hb : ∀ self, bindSpecial (.builtin id) self = pure (.builtin id, [self]))
    (h : wpAny M A (call (.builtin id) (.ref x :: args)) (fun v => Q (some v)) E s) : wpAny M A (callSpecialIfBound? (.ref x) name args) Q E s := by
  simp only [callSpecialIfBound?, bindSpecialIfBound?]
  refine wpAny_holding (wpAny_bind (wpAny_bind (wpAny_bind (I.type.here ((looks_findIn X hs).here ?_)))))
  refine wpAny_bind (wpAny_askSetting (wpAny_ite ?_))
  have fin : wpAny M A (call (.builtin id) ([.ref x] ++ args) >>= fun v => pure (some v)) Q E s := wpAny_bind (wpAny_mono h (fun v s' h' => wpAny_pure h') fun _ _ h' => h')
  split
  · exact wpAny_bind ((Looks.of_pure (hb _)).here (wpAny_pure (by exact fin)))
  · exact wpAny_tryCatch (wpAny_bind ((Looks.of_pure (hb _)).here (wpAny_pure (by exact fin))))
open Builtin in
theorem dl_ne {Q : Value → Shared → Prop} (hu : A.units < cLine) (hu1 : A.in1.units < cLine) (F : Fr h₀ L s.heap m) (X₀ : K.In h₀) (I : InstAt s.heap x ox C od) (hb : Looks (model prog w) s.heap (typeOf b) tb) (hn : notFirst K C tb = true)
    (hm : mroIn K C (.type "object") = some true) (hs : findIn K (.ref C) "__ne__" = some (some (.builtin "object.__ne__"))) (he : findIn K (.ref C) "__eq__" = some (some (.ref f))) (hf : isFn K (.ref f) = true)
    (h : wpAny (model prog w) A.in1 (call (.ref f) [.ref x, b]) (fun v s' => ∃ k, v = .bool k ∧ Q (.bool (!k)) s') E s) : wpAny (model prog w) A (richCompare .NotEq (.ref x) b) Q E s := by
  have X := X₀.keeps F.keep
  have one : wpAny (model prog w) A (tryCompare (.ref x) (cmpInfo .NotEq).2.1 b) (fun r s' => ∃ v, r = some v ∧ Q v s') E s := by
    unfold tryCompare
    refine wpAny_bind (dl_ifBoundB X I (name := (cmpInfo .NotEq).2.1) hs PySem.F.slot_object_ne.bind ?_)
    refine wpAny_call (codeAny_call_builtin PySem.F.slot_object_ne.plain PySem.F.entry_object_ne (check_slot (i := "object.__ne__") (owner := "object") (n := "__ne__") (by decide +kernel) (by decide +kernel) (I.type.andThen (looks_mroIn X hm)) (PySem.F.args_object_ne_2 _ _) ?_))
    unfold Builtin.«object.__ne__»
    refine wpAny_bind (m := slotArgs "__ne__" 1 _) (wpAny_pure ?_)
    refine wpAny_bind (m := cRoomFor _ _) (wpAny_cRoomFor hu1 ?_)
    refine wpAny_bind (m := callSpecialIfBound? (.ref x) (Str.ofString "__eq__") _) (ifBound_K X I he hf (wpAny_mono h (fun r s' hq => ?_) fun _ _ y => y))
    obtain ⟨k, rfl, hq⟩ := hq
    refine wpAny_bind (m := truthy (.bool k)) (wpAny_truthy_bool ?_)
    exact wpAny_pure (wpAny_pure ⟨_, rfl, hq⟩)
  unfold richCompare
  simp only [oneThing_ref]
  refine wpAny_holding (wpAny_bind (wpAny_cRoomFor hu ?_))
  refine wpAny_bind (I.type.here (wpAny_bind (hb.here ?_)))
  split
  · rename_i q
    have e : subIn K tb (.ref C) = some false := by
      rcases Bool.or_eq_true_iff.mp hn with e | e
      · rw [beq_iff_eq.mp e] at q; simp at q
      · exact beq_iff_eq.mp e
    refine wpAny_bind ((looks_subIn X e).here ?_)
    simp only [Bool.false_eq_true, if_false]
    refine wpAny_bind (wpAny_mono one (fun r s' z => ?_) fun _ _ e => e)
    obtain ⟨v, rfl, hq⟩ := z
    exact wpAny_pure hq
  · refine wpAny_bind (wpAny_pure ?_)
    simp only [Bool.false_eq_true, if_false]
    refine wpAny_bind (wpAny_mono one (fun r s' z => ?_) fun _ _ e => e)
    obtain ⟨v, rfl, hq⟩ := z
    exact wpAny_pure hq
end
end PySem.W

namespace DL
open PySem L2 Evl
section
variable {X : Cx} {c : Ct} {W : WX} {k n j : Nat} {f g C : Addr} {fd : FuncData} {ps : List Str} {m : Fn} {p pos apos : Pos} {a b o : Expr} {ta tb : TE} {fa fb : FE} {sp : Sp} {E : L2.St → XK} {CX : CXT}

/-- the class's own == -/
structure OwnE (K : PySem.W.Frag) (C f : Addr) : Prop where
  s : PySem.W.findIn K (.ref C) "__eq__" = some (some (.ref f))
  fn : PySem.W.isFn K (.ref f) = true
/-- .. and the != that is built in -/
structure OwnN (K : PySem.W.Frag) (C : Addr) : Prop where
  n : PySem.W.findIn K (.ref C) "__ne__" = some (some (.builtin "object.__ne__"))
  m : PySem.W.mroIn K C (.type "object") = some true
/-- what may stand on the right -/
def eqR (tbl : Nat → Bool) (bt : String → Bool) : D → Bool
  | .non => bt "NoneType"
  | .bl _ => bt "bool"
  | .int _ => bt "int"
  | .str _ => bt "str"
  | .lst _ => bt "list"
  | .tup _ => bt "tuple"
  | .rol _ => false
  | .ins k _ => tbl k
  | .dct _ _ _ => false
  | .exv _ _ => false
def EqROk (c : Ct) (C : Addr) (tbl : Nat → Bool) (bt : String → Bool) : Prop := (∀ T, bt T = true → PySem.W.notFirst c.K C (.type T) = true) ∧ ∀ k, tbl k = true → InsT c.K (c.cl k) ∧ PySem.W.notFirst c.K C (.ref (c.cl k)) = true
theorem eqR_ty {tbl : Nat → Bool} {bt : String → Bool} (ok : EqROk c C tbl bt) {F H : Hp} {d : D} {v : V} (x : Ex F H) (k : View c F H d v) (h : eqR tbl bt d = true) : ∃ t, TyX c.K H v t ∧ PySem.W.notFirst c.K C t = true := by
  cases d with
  | non => rw [k.non]; exact ⟨_, .base .non, ok.1 _ h⟩
  | bl i => rw [k.bl]; exact ⟨_, .base (.bl i), ok.1 _ h⟩
  | int i => rw [k.int]; exact ⟨_, .base (.int i), ok.1 _ h⟩
  | str i => rw [k.str]; exact ⟨_, .base (.str i), ok.1 _ h⟩
  | lst ds => obtain ⟨p, vs, rfl, h1, _⟩ := k.lst x; exact ⟨_, .base (.lst h1), ok.1 _ h⟩
  | tup ds => obtain ⟨p, vs, rfl, h1, _⟩ := k.tup x; exact ⟨_, SqT.tyX h1, ok.1 _ h⟩
  | rol ds => cases h
  | dct t ks ds => cases h
  | exv k ds => cases h
  | ins j ds =>
    obtain ⟨p, dx, vs, rfl, h1, _⟩ := k.ins x
    obtain ⟨i, h2⟩ := ok.2 j h
    exact ⟨_, .base (.ins h1 i.cl i.ha i.hn i.ht i.hm), h2⟩
/-- an operation of two operands, by the frame's slots -/
def OpS (X : Cx) (f : Value → Value → Sem Value) (r : L2.St → R2) : Prop :=
  ∀ (pins : List (Addr × Obj)) (s : Shared) (σ : L2.St) (H : Hp) (x y : V) (v u : Value) (Q : VK), Inv X pins σ H s → RelV x v → RelV y u → r σ x y H Q →
    wpAny (model X.prog X.w) X.A (f v u) (EP X pins σ Q) X.xe s
def tOpS (r : L2.St → R2) (ta tb : TE) : TE := fun σ H Q => ta σ H fun x H1 => tb σ H1 fun y H2 => r σ x y H2 Q
theorem pe_cmpS {op : CmpOp} {r : L2.St → R2} (ho : OpS X (compareOp op) r) (ha : PE X a ta) (hb : PE X b tb) (hm : behindInMarks op b = false) : PE X (.Compare a [op] [b] pos) (tOpS r ta tb) := by
  refine ⟨fun pins s σ H Q I h => ?_⟩
  exact wpAny_Compare1 (binT ha hb I h fun v u s2 x y H2 I2 rx ry q => ho pins s2 σ H2 x y v u Q I2 rx ry q) hm
theorem pt_cmpS {op : CmpOp} {r : L2.St → R2} (ho : OpS X (compareOp op) r) (ha : PE X a ta) (hb : PE X b tb) (hm : behindInMarks op b = false) : PT X (.Compare a [op] [b] pos) (tTest (tOpS r ta tb)) := by
  refine ⟨fun pins s σ H Q I h => ?_⟩
  refine wpAny_isTrue_Compare1 (thn (ha.run pins s σ H _ I h) fun v s1 ⟨x, H1, I1, r1, q1⟩ => thn (hb.run pins s1 σ H1 _ I1 q1) fun u s2 ⟨y, H2, I2, r2, q2⟩ =>
    thn (ho pins s2 σ H2 x y v u _ I2 r1 r2 q2) fun c s3 ⟨z, H3, I3, r3, k, e, q3⟩ => ?_) hm
  subst e
  cases r3
  exact wpAny_truthy_bool ⟨H3, I3, q3⟩
def rOwnE (K : PySem.W.Frag) (C : Addr) (sp : Sp) (E : L2.St → XK) : L2.St → R2 := fun σ x y H2 Q => ∃ a dx fs t, x = .ref a ∧ H2 a = some (.ins C dx fs) ∧ TyX K H2 y t ∧ PySem.W.notFirst K C t = true ∧ sp [x, y] H2 Q (E σ)
def rOwnN (K : PySem.W.Frag) (C : Addr) (sp : Sp) (E : L2.St → XK) : L2.St → R2 := fun σ x y H2 Q => ∃ a dx fs t, x = .ref a ∧ H2 a = some (.ins C dx fs) ∧ TyX K H2 y t ∧ PySem.W.notFirst K C t = true ∧ sp [x, y] H2 (fun v H3 => ∃ b, v = .bl b ∧ Q (.bl (!b)) H3) (E σ)
theorem ops_ownE (w : OwnE X.K C f) (F : FnOk X.prog X.w X.K X.mg X.base CX k f fd ps sp) (hr : Room k X.A) (hb : Binds X.K fd ps []) (hx : ∀ σ, PassesAt CX X σ (E σ)) : OpS X (compareOp .Eq) (rOwnE X.K C sp E) := by
  intro pins s σ H x y v u Q I rx ry q
  obtain ⟨p, dx, fs, t, rfl, h1, ty, nf, hsp⟩ := q
  cases rx
  obtain ⟨_, od, J⟩ := Inv.inst I h1
  obtain ⟨m, hF⟩ := I.fr
  obtain ⟨P, kit, hP, _⟩ := kit_of I ry ty
  have cl := run_fnSD (us := [.ref p, u]) (vs := [.ref p, y]) F hr hb .nil (hx σ) I (.cons rfl (.cons ry .nil)) hsp
  show wpAny _ _ (compareOp .Eq (.ref p) u) _ _ _
  unfold compareOp
  exact PySem.W.cmp_K hr.units0 hF I.ok.mod.kin J (kit.ty _ _ I.kIn hP) nf w.s w.fn (wpAny_mono cl (fun _ _ h => EP.back h) fun _ _ h => h)
theorem ops_ownN (w : OwnE X.K C f) (wn : OwnN X.K C) (F : FnOk X.prog X.w X.K X.mg X.base CX k f fd ps sp) (hr : Room (k + 1) X.A) (hb : Binds X.K fd ps []) (hx : ∀ σ, PassesAt CX X σ (E σ)) : OpS X (compareOp .NotEq) (rOwnN X.K C sp E) := by
  intro pins s σ H x y v u Q I rx ry q
  obtain ⟨p, dx, fs, t, rfl, h1, ty, nf, hsp⟩ := q
  cases rx
  obtain ⟨_, od, J⟩ := Inv.inst I h1
  obtain ⟨m, hF⟩ := I.fr
  obtain ⟨P, kit, hP, _⟩ := kit_of I ry ty
  have r2 : Vals [V.ref p, y] [Value.ref p, u] := .cons rfl (.cons ry .nil)
  have hl := F.len _ _ _ _ hsp
  show wpAny _ _ (compareOp .NotEq (.ref p) u) _ _ _
  unfold compareOp
  refine PySem.W.dl_ne hr.units0 hr.in1.units0 hF I.ok.mod.kin J (kit.ty _ _ I.kIn hP) nf wn.m wn.n w.s w.fn ?_
  refine wpAny_call (codeAny_mono (F.run X.A.in1 X.stack s H ⟨[.ref p, u], []⟩ [.ref p, u] [.ref p, y] _ (E σ) hr.in1 I.env0.in1 (by
    have := hb s [.ref p, u] I.kIn (by simpa using hl)
    simpa using this) r2 hsp) fun r s' hq => ?_)
  cases r with
  | error e => exact hx σ pins H s e s' I hq
  | ok fl =>
    cases fl with
    | ret u =>
      obtain ⟨v', H', I', rv, b, eb, q'⟩ := I.after hq
      subst eb
      cases rv
      exact ⟨b, rfl, V.bl (!b), H', I', rfl, q'⟩
    | next => exact False.elim hq
    | brk => exact False.elim hq
    | cont => exact False.elim hq
/-- .. on data -/
def fOwnE (i : Nat) (P : D → Bool) (m : Fn) (fa fb : FE) : FE := fOwn2 (isIns i) P false m fa fb
def fOwnN (i : Nat) (P : D → Bool) (m : Fn) (fa fb : FE) : FE := fun e => (fOwn2 (isIns i) P false m fa fb e).bind fun r => match r.1 with
  | .vl (.bl b) => .ok (.vl (.bl (!b)), r.2)
  | _ => .stuck
theorem sn_ownE {i : Nat} {tbl : Nat → Bool} {bt : String → Bool} (ok : EqROk c (c.cl i) tbl bt) (ha : SndE c W ta fa) (hb : SndE c W tb fb) : SndE c W (tOpS (rOwnE c.K (c.cl i) (spD c 2 m) (WE W)) ta tb) (fOwnE i (eqR tbl bt) m fa fb) :=
  sn_own2 (R := fun σ x y H2 Q => rOwnE c.K (c.cl i) (spD c 2 m) (WE W) σ x y H2 Q) (fun σ x y H2 Q F d1 d2 e v1 v2 h1 h2 hs => by
    obtain ⟨ds, rfl⟩ := isIns_eq h1
    obtain ⟨p, dx, vs, rfl, g1, _⟩ := v1.ins e
    obtain ⟨t, ty, nf⟩ := eqR_ty ok e v2 h2
    exact ⟨p, dx, _, t, rfl, g1, ty, nf, hs⟩) ha hb
theorem sn_ownN {i : Nat} {tbl : Nat → Bool} {bt : String → Bool} (ok : EqROk c (c.cl i) tbl bt) (ha : SndE c W ta fa) (hb : SndE c W tb fb) : SndE c W (tOpS (rOwnN c.K (c.cl i) (spD c 2 m) (WE W)) ta tb) (fOwnN i (eqR tbl bt) m fa fb) := fun z σ H F e Q I h => by
  unfold fOwnN at h
  rw [Wp.bind] at h
  exact sn_own2 (R := fun σ x y H2 Q => ∃ a dx fs t, x = .ref a ∧ H2 a = some (.ins (c.cl i) dx fs) ∧ TyX c.K H2 y t ∧ PySem.W.notFirst c.K (c.cl i) t = true ∧ spD c 2 m [x, y] H2 Q (WE W σ)) (fun σ x y H2 Q F d1 d2 e v1 v2 h1 h2 hs => by
    obtain ⟨ds, rfl⟩ := isIns_eq h1
    obtain ⟨p, dx, vs, rfl, g1, _⟩ := v1.ins e
    obtain ⟨t, ty, nf⟩ := eqR_ty ok e v2 h2
    exact ⟨p, dx, _, t, rfl, g1, ty, nf, hs⟩) ha hb z σ H F e (fun v H3 => ∃ b, v = .bl b ∧ Q (.bl (!b)) H3) I (h.mono (fun r _ h v H' F' x' I' t' => by
      obtain ⟨t, e1⟩ := r
      dsimp only at h
      split at h
      · rename_i b q
        exact ⟨b, t', h _ H' F' x' I' rfl⟩
      · exact h.elim) fun _ _ h => h)
theorem de_ownE {i : Nat} {tbl : Nat → Bool} {bt : String → Bool} (tk : Takes X W) (hK : X.K = c.K) (w : OwnE c.K (c.cl i) f) (ok : EqROk c (c.cl i) tbl bt) (F : FnOk X.prog X.w X.K X.mg X.base (L2.CX X.prog X.w) k f fd ps (spD c 2 m)) (hr : Room k X.A) (hb : Binds X.K fd ps []) (ha : DE X c W a ta fa) (hb' : DE X c W b tb fb) (hm : behindInMarks .Eq b = false := by rfl) :
    DE X c W (.Compare a [.Eq] [b] pos) (tOpS (rOwnE c.K (c.cl i) (spD c 2 m) (WE W)) ta tb) (fOwnE i (eqR tbl bt) m fa fb) :=
  ⟨pe_cmpS (hK ▸ ops_ownE (hK ▸ w) F hr hb fun σ => passAt tk σ) ha.pe hb'.pe hm, sn_ownE ok ha.sn hb'.sn⟩
theorem dt_ownE {i : Nat} {tbl : Nat → Bool} {bt : String → Bool} (tk : Takes X W) (hK : X.K = c.K) (w : OwnE c.K (c.cl i) f) (ok : EqROk c (c.cl i) tbl bt) (F : FnOk X.prog X.w X.K X.mg X.base (L2.CX X.prog X.w) k f fd ps (spD c 2 m)) (hr : Room k X.A) (hb : Binds X.K fd ps []) (ha : DE X c W a ta fa) (hb' : DE X c W b tb fb) (hm : behindInMarks .Eq b = false := by rfl) :
    DT X c W (.Compare a [.Eq] [b] pos) (tTest (tOpS (rOwnE c.K (c.cl i) (spD c 2 m) (WE W)) ta tb)) (fB (fOwnE i (eqR tbl bt) m fa fb)) :=
  ⟨pt_cmpS (hK ▸ ops_ownE (hK ▸ w) F hr hb fun σ => passAt tk σ) ha.pe hb'.pe hm, sn_B (fun _ _ _ h => h) (sn_ownE ok ha.sn hb'.sn)⟩
theorem de_ownN {i : Nat} {tbl : Nat → Bool} {bt : String → Bool} (tk : Takes X W) (hK : X.K = c.K) (w : OwnE c.K (c.cl i) f) (wn : OwnN c.K (c.cl i)) (ok : EqROk c (c.cl i) tbl bt) (F : FnOk X.prog X.w X.K X.mg X.base (L2.CX X.prog X.w) k f fd ps (spD c 2 m)) (hr : Room (k + 1) X.A) (hb : Binds X.K fd ps []) (ha : DE X c W a ta fa) (hb' : DE X c W b tb fb) (hm : behindInMarks .NotEq b = false := by rfl) :
    DE X c W (.Compare a [.NotEq] [b] pos) (tOpS (rOwnN c.K (c.cl i) (spD c 2 m) (WE W)) ta tb) (fOwnN i (eqR tbl bt) m fa fb) :=
  ⟨pe_cmpS (hK ▸ ops_ownN (hK ▸ w) (hK ▸ wn) F hr hb fun σ => passAt tk σ) ha.pe hb'.pe hm, sn_ownN ok ha.sn hb'.sn⟩
theorem dt_ownN {i : Nat} {tbl : Nat → Bool} {bt : String → Bool} (tk : Takes X W) (hK : X.K = c.K) (w : OwnE c.K (c.cl i) f) (wn : OwnN c.K (c.cl i)) (ok : EqROk c (c.cl i) tbl bt) (F : FnOk X.prog X.w X.K X.mg X.base (L2.CX X.prog X.w) k f fd ps (spD c 2 m)) (hr : Room (k + 1) X.A) (hb : Binds X.K fd ps []) (ha : DE X c W a ta fa) (hb' : DE X c W b tb fb) (hm : behindInMarks .NotEq b = false := by rfl) :
    DT X c W (.Compare a [.NotEq] [b] pos) (tTest (tOpS (rOwnN c.K (c.cl i) (spD c 2 m) (WE W)) ta tb)) (fB (fOwnN i (eqR tbl bt) m fa fb)) :=
  ⟨pt_cmpS (hK ▸ ops_ownN (hK ▸ w) (hK ▸ wn) F hr hb fun σ => passAt tk σ) ha.pe hb'.pe hm, sn_B (fun _ _ _ h => h) (sn_ownN ok ha.sn hb'.sn)⟩
end
end DL

/-! DL, part m: a call whose first argument is a new object that the callee may change; short names for the rules. -/
namespace DL
open PySem L2 Evl

section
variable {c : Ct} {z : Zs} {W : WX} {σ σ' : L2.St} {H H' F F' G : Hp} {e e' : DEnv} {p : Addr} {o : HO}
/-! ### an object put aside -/
def hideZ (z : Zs) (p : Addr) (o : HO) : Zs := ⟨upd z.H0 p o, z.F0, fun q => z.Bo q ∧ q ≠ p, z.V0⟩
theorem I2.hide (I : I2 c z σ H F e) (w : H p = some o) (hF : F p = none) (hr : ∀ i, ¬ RootAt σ e i p) : I2 c (hideZ z p o) σ H F e := by
  refine ⟨I.len, I.f0, I.fh, fun q u hq hb => ?_, fun i b h => ?_, I.dist, fun q h => I.bo q h.1, fun q h1 h2 => ?_, I.brv⟩
  · by_cases e : q = p
    · subst e
      have hq' : upd z.H0 q o q = some u := hq
      rw [upd_same] at hq'; cases hq'; exact w
    · have hq' : upd z.H0 p o q = some u := hq
      rw [upd_ne e] at hq'
      exact I.keep q u hq' fun hB => hb ⟨hB, e⟩
  · obtain ⟨v, hv, r⟩ := I.slot i b h
    refine ⟨v, hv, ?_⟩
    cases b with
    | sh d => exact r
    | ow d =>
      obtain ⟨q, rfl, w', h0⟩ := r
      have ne : q ≠ p := fun z => hr i ⟨_, h, rfl, z ▸ hv⟩
      exact ⟨q, rfl, w', by show upd z.H0 p o q = none; rw [upd_ne ne]; exact h0⟩
    | br d =>
      obtain ⟨q, rfl, w', hB⟩ := r
      have ne : q ≠ p := fun z => hr i ⟨_, h, rfl, z ▸ hv⟩
      exact ⟨q, rfl, w', hB, ne⟩
    | ex x => exact r
  · by_cases e : q = p
    · subst e; exact hF
    · have h1' : upd z.H0 p o q ≠ none := h1
      rw [upd_ne e] at h1'
      exact I.nf q h1' h2
theorem I2.unhide (I : I2 c (hideZ z p o) σ H F e) (h0 : z.H0 p = none) (hF : z.F0 p = none) : I2 c z σ H F e ∧ H p = some o ∧ F p = none ∧ ∀ i, ¬ RootAt σ e i p := by
  have hp : H p = some o := I.keep p o (by show upd z.H0 p o p = _; rw [upd_same]) fun h => h.2 rfl
  refine ⟨⟨I.len, I.f0, I.fh, fun q u hq hb => ?_, fun i b h => ?_, I.dist, fun q h => ?_, fun q h1 h2 => ?_, I.brv⟩, hp, I.nf p (by show upd z.H0 p o p ≠ none; rw [upd_same]; exact fun z => nomatch z) hF, fun i ⟨b, h1, h2, h3⟩ => ?_⟩
  · have e : q ≠ p := fun z => by rw [z, h0] at hq; cases hq
    exact I.keep q u (by show upd z.H0 p o q = _; rw [upd_ne e]; exact hq) fun h => hb h.1
  · obtain ⟨v, hv, r⟩ := I.slot i b h
    refine ⟨v, hv, ?_⟩
    cases b with
    | sh d => exact r
    | ow d =>
      obtain ⟨q, rfl, w', h1⟩ := r
      have h1' : upd z.H0 p o q = none := h1
      have ne : q ≠ p := fun z => by rw [z, upd_same] at h1'; cases h1'
      rw [upd_ne ne] at h1'
      exact ⟨q, rfl, w', h1'⟩
    | br d => obtain ⟨q, rfl, w', hB⟩ := r; exact ⟨q, rfl, w', hB.1⟩
    | ex x => exact r
  · by_cases e : q = p
    · subst e; exact ⟨o, hp⟩
    · exact I.bo q ⟨h, e⟩
  · have e : q ≠ p := fun z => h1 (by rw [z]; exact h0)
    exact I.nf q (by show upd z.H0 p o q ≠ none; rw [upd_ne e]; exact h1) h2
  · obtain ⟨v, hv, r⟩ := I.slot i b h1
    rw [h3] at hv; cases hv
    cases b with
    | sh d => cases h2
    | ow d =>
      obtain ⟨q, e, w', h1⟩ := r
      cases e
      have h1' : upd z.H0 p o p = none := h1
      rw [upd_same] at h1'; cases h1'
    | br d => obtain ⟨q, e, w', hB⟩ := r; cases e; exact hB.2 rfl
    | ex x => cases h2

def dropG (r : Res (T × DEnv)) : Res (T × DEnv) := match r with
  | .stuck => .stuck
  | .exc x e => .exc x e.dropLast
  | .ok (.sl _, _) => .stuck
  | .ok (.vl d, e) => .ok (.vl d, e.dropLast)
  | .ok (.nw d, e) => .ok (.nw d, e.dropLast)
/-- f(a new object, ..) -/
def fCallF (ms : List Bool) (dds : List D) (m : Fn) (f1 : FE) (fr : FA) : FE := fun e => (f1 e).bind fun r1 => match r1.1 with
  | .nw d => (fr r1.2).bind fun r => (Res.of (escN ms r.1 r.2)).bind fun q => dropG (callM dds m (.sl q.2.length :: q.1) (q.2 ++ [some (.ow d)]))
  | _ => .stuck
theorem sn_callF {n : Nat} {ms : List Bool} {m : Fn} {dvs : List V} {dds : List D} {t1 : TE} {f1 : FE} {ta : TA} {fa : FA} (hn : ∀ vs : List V, (∃ e r, fa e = .ok r ∧ r.1.length = vs.length) → vs.length + dvs.length + 1 = n) (hd : ∀ F, RpL c F dds dvs) (h1 : SndE c W t1 f1) (ha : SndA c W ta fa) :
    SndE c W (tCallSD (spD c n m) dvs (WE W) (tCons t1 ta)) (fCallF ms dds m f1 fa) := fun z σ H F e Q I h => by
  unfold fCallF at h
  rw [Wp.bind] at h
  refine h1 z σ H F e _ I (h.mono (fun r1 _ g v H1 F1 x1 I1 t1 => ?_) fun _ _ h => h)
  clear h
  obtain ⟨t, e1⟩ := r1
  cases t with
  | sl i => exact g.elim
  | vl d => exact g.elim
  | nw d =>
    obtain ⟨x, rfl, w, h0, hr⟩ := t1
    obtain ⟨o, ho⟩ := w.at
    have hF0 : z.F0 x = none := by
      cases q : z.F0 x with
      | none => rfl
      | some u => have := I1.f0 _ _ q; rw [w.1] at this; cases this
    dsimp only at g
    rw [Wp.bind] at g
    refine ha (hideZ z x o) σ H1 F1 e1 _ (I1.hide ho w.1 hr) (g.mono (fun r hrr g vs H2 F2 x2 K1 t2 => ?_) fun xv e' g cls dd H' F' x' K r => g cls dd H' F' (x1.trans x') (K.unhide h0 hF0).1 r)
    rw [Wp.bind] at g
    obtain ⟨⟨ts, e2⟩, l, g⟩ := Wp.of g
    obtain ⟨G, x3, J, t3⟩ := t2.escN K1 l
    obtain ⟨J0, hp, hG, nr⟩ := J.unhide h0 hF0
    have w2 : Own c G H2 d x := w.mono (x2.trans x3) hG fun u hu => by rw [ho] at hu; cases hu; exact hp
    have J2 := J0.ext w2 h0 nr
    have t3' : TRs c z G H2 σ e2 ts vs := by
      have key : ∀ {ts : List T} {vs : List V}, TRs c (hideZ z x o) G H2 σ e2 ts vs → TRs c z G H2 σ e2 ts vs := by
        intro ts
        induction ts with
        | nil => intro vs h; exact h
        | cons t ts ih =>
          intro vs ⟨v, r, q1, q2, q3, q4⟩
          refine ⟨v, r, q1, q2, ?_, ih q4⟩
          cases t with
          | sl i => exact q3
          | vl d => exact q3
          | nw d => cases q2
      exact key t3
    have t4 : TRs c z G H2 (σ ++ [some (.ref x)]) (e2 ++ [some (.ow d)]) (.sl e2.length :: ts) (.ref x :: vs) :=
      ⟨_, _, rfl, rfl, by show (σ ++ [some (V.ref x)])[e2.length]? = _; rw [J.len]; simp, TRs.ext t3'⟩
    have sc := sp_call (n := n) (m := m) (dvs := dvs) (dds := dds) (W := fun cls dd _ H => W cls dd σ H) (Q := Q) J2 t4 (by
      have := hn vs ⟨_, r, hrr, t2.len⟩
      simp; omega) (hd G) ?_
    · exact sc
    · have hln : ∀ {e' : DEnv} {H' F' : Hp}, I2 c z (σ ++ [some (V.ref x)]) H' F' e' → e'.length = e2.length + 1 := fun {e' H' F'} K => by rw [K.len]; simp [J.len]
      cases hq : callM dds m (.sl e2.length :: ts) (e2 ++ [some (.ow d)]) with
      | stuck => rw [hq] at g; exact g.elim
      | exc xv e' =>
        rw [hq] at g
        intro cls dd H' F' x' K r'
        obtain ⟨e0, b, rfl, l0, ed, _⟩ := drop_last_of (hln K)
        have K0 := K.unext
        have g' : Xp c z W σ F xv (List.dropLast (e0 ++ [b])) := g
        rw [ed] at g'
        exact g' cls dd H' F' (((x1.trans x2).trans x3).trans x') K0 r'
      | ok r' =>
        rw [hq] at g
        obtain ⟨t, e'⟩ := r'
        intro v H' F' x' K t'
        obtain ⟨e0, b, rfl, l0, ed, eg⟩ := drop_last_of (hln K)
        have K0 := K.unext
        cases t with
        | sl i => exact g.elim
        | nw d' =>
          have g' : ∀ v H' F', Ex F F' → I2 c z σ H' F' (List.dropLast (e0 ++ [b])) → TR c z F' H' σ (List.dropLast (e0 ++ [b])) (.nw d') v → Q v H' := g
          rw [ed] at g'
          obtain ⟨q, rfl, w', h0', hn'⟩ := t'
          refine g' _ H' F' (((x1.trans x2).trans x3).trans x') K0 ⟨q, rfl, w', h0', fun i ⟨b', q1, q2, q3⟩ => hn' i ⟨b', ?_, q2, ?_⟩⟩
          · show (e0 ++ [b])[i]? = _
            rw [List.getElem?_append_left (get_lt q1)]; exact q1
          · rw [List.getElem?_append_left (get_lt q3)]; exact q3
        | vl d' =>
          have g' : ∀ v H' F', Ex F F' → I2 c z σ H' F' (List.dropLast (e0 ++ [b])) → TR c z F' H' σ (List.dropLast (e0 ++ [b])) (.vl d') v → Q v H' := g
          rw [ed] at g'
          exact g' v H' F' (((x1.trans x2).trans x3).trans x') K0 t'
end

section
variable {X : Cx} {c : Ct} {W : WX} {k n j : Nat} {f C : Addr} {fd : FuncData} {ps : List Str} {m : Fn} {x y : Str} {p pos apos : Pos} {a b o : Expr} {es : List Expr} {ta tb to : TE} {tr : TA} {fa fb fo : FE} {fr : FA} {dvs : List V} {ds : List Value} {dds : List D} {ms : List Bool} {i : Nat}
theorem de_callF (tk : Takes X W) (F : FnOk X.prog X.w X.K X.mg X.base (CX X.prog X.w) k f fd ps (spD c n m)) (hr : Room k X.A) (hg : Gl X x) (hm : X.mg x = some (.ref f)) (hk : PySem.W.keepIn X.K (.ref f) = true) (hb : Binds X.K fd ps ds) (hd : Vals dvs ds) (hdd : ∀ F, RpL c F dds dvs)
    (hlen : LenA fr j) (hn : j + dvs.length + 1 = n) (h1 : DE X c W a ta fa) (ha : DA X c W es tr fr) (hs : starEach (a :: es) X.env = (false, eval a X.env) :: starEach es X.env := by rfl) (hdb : (x == ("__debug__" : Str)) = false := by decide) (hpl : (backTo pos (starEach es X.env)).any (·.1) = false := by rfl) :
    DE X c W (.Call (.Name x p) (a :: es) [] pos) (tCallSD (spD c n m) dvs (WE W) (tCons ta tr)) (fCallF ms dds m fa fr) :=
  ⟨pe_callSD F hr hg hm hk hb hd (fun σ => passAt tk σ) (pa_cons h1.pe ha.pa hs) hdb hs hpl, sn_callF (fun vs ⟨e, r, q1, q2⟩ => by rw [← q2, hlen e r q1]; exact hn) hdd h1.sn ha.sn⟩

/-! ### short names -/
theorem de_v (i : Nat) {x : Str} {pos : Pos} (hN : X.N[i]? = some x := by rfl) (hv : Vis X.env.scope x := by first | exact Or.inl rfl | exact Or.inr (Or.inl rfl) | exact Or.inr (Or.inr rfl)) (hd : (x == ("__debug__" : Str)) = false := by decide)
    (hcd : (x == ("__classdict__" : Str)) = false := by decide) : DE X c W (.Name x pos) (tVar i) (fVar i) := de_var i (pe_var hN hv hd hcd)
/-- xs.append(e) and kin, xs a name -/
theorem de_app {j : Nat} (ho : PE X o (tVar j)) (hK : X.K = c.K) (ha : DE X c W a ta fa)
    (hbase : attributeBase o "append" X.env (eval o X.env) = eval o X.env := by rfl)
    (hfew : ((backTo pos (starEach [a] X.env)).all (fun x => !x.1) && (backToKw pos (keywordEach [] X.env)).all (fun x => x.1.isSome)
      && decide (([a] : List Expr).length + ([] : List Keyword).length + (if ([] : List Keyword).isEmpty then 0 else 1) < 30)) = true := by rfl)
    (hline : (apos.endLine == pos.line) = true := by rfl) (hs : starEach [a] X.env = (false, eval a X.env) :: starEach [] X.env := by rfl) :
    DE X c W (.Call (.Attribute o "append" apos) [a] [] pos) (tBM c.K "list" rAppend (tVar j) (tCons ta tNil)) (fApp j fa) :=
  ⟨hK ▸ pe_bm PySem.F.plainAttrs_list PySem.F.slot_list_append PySem.F.type_list_append mt_append ho (pa_cons ha.pe pa_nil hs) hbase hfew hline hs, sn_app ha.sn⟩
theorem de_extend {j : Nat} (ho : PE X o (tVar j)) (hK : X.K = c.K) (ha : DE X c W a ta fa)
    (hbase : attributeBase o "extend" X.env (eval o X.env) = eval o X.env := by rfl)
    (hfew : ((backTo pos (starEach [a] X.env)).all (fun x => !x.1) && (backToKw pos (keywordEach [] X.env)).all (fun x => x.1.isSome)
      && decide (([a] : List Expr).length + ([] : List Keyword).length + (if ([] : List Keyword).isEmpty then 0 else 1) < 30)) = true := by rfl)
    (hline : (apos.endLine == pos.line) = true := by rfl) (hs : starEach [a] X.env = (false, eval a X.env) :: starEach [] X.env := by rfl) :
    DE X c W (.Call (.Attribute o "extend" apos) [a] [] pos) (tBM c.K "list" rExtend (tVar j) (tCons ta tNil)) (fExt j fa) :=
  ⟨hK ▸ pe_bm PySem.F.plainAttrs_list PySem.F.slot_list_extend PySem.F.type_list_extend mt_extend ho (pa_cons ha.pe pa_nil hs) hbase hfew hline hs, sn_ext ha.sn⟩
theorem de_pop {j : Nat} (ho : PE X o (tVar j)) (hK : X.K = c.K)
    (hbase : attributeBase o "pop" X.env (eval o X.env) = eval o X.env := by rfl) (hline : (apos.endLine == pos.line) = true := by rfl) :
    DE X c W (.Call (.Attribute o "pop" apos) [] [] pos) (tBM0 c.K "list" rPop (tVar j)) (fPop j) :=
  ⟨hK ▸ pe_bm0 PySem.F.plainAttrs_list PySem.F.slot_list_pop PySem.F.type_list_pop mt_pop ho hbase hline, sn_pop⟩
end
end DL

/-! DL, part n: what a text of facts needs. -/
namespace DL
open PySem L2 Evl
def AllT (K : PySem.W.Frag) (u : Value) : List (String × Bool) → Prop
  | [] => True
  | q :: r => PySem.W.kitOne K (.type q.1) u = some q.2 ∧ AllT K u r
def AllI (c : Ct) (u : Value) : List (Nat × Bool) → Prop
  | [] => True
  | q :: r => (InsT c.K (c.cl q.1) ∧ PySem.W.kitOne c.K (.ref (c.cl q.1)) u = some q.2) ∧ AllI c u r
def lkT (l : List (String × Bool)) (T : String) : Option Bool := l.lookup T
def lkI (l : List (Nat × Bool)) (k : Nat) : Option Bool := l.lookup k
theorem lkT_all {K : PySem.W.Frag} {u : Value} : ∀ {l : List (String × Bool)}, AllT K u l → ∀ T b, lkT l T = some b → PySem.W.kitOne K (.type T) u = some b
  | [], _, T, b, h => by cases h
  | (a, x) :: l, h, T, b, e => by
    unfold lkT at e
    rw [List.lookup_cons] at e
    cases q : T == a with
    | true => rw [q] at e; cases e; rw [beq_iff_eq.mp q]; exact h.1
    | false => rw [q] at e; exact lkT_all h.2 T b e
theorem lkI_all {c : Ct} {u : Value} : ∀ {l : List (Nat × Bool)}, AllI c u l → ∀ k b, lkI l k = some b → InsT c.K (c.cl k) ∧ PySem.W.kitOne c.K (.ref (c.cl k)) u = some b
  | [], _, T, b, h => by cases h
  | (a, x) :: l, h, T, b, e => by
    unfold lkI at e
    rw [List.lookup_cons] at e
    cases q : T == a with
    | true => rw [q] at e; cases e; rw [beq_iff_eq.mp q]; exact h.1
    | false => rw [q] at e; exact lkI_all h.2 T b e
theorem isi_mk {c : Ct} {u : Value} {lT : List (String × Bool)} {lI : List (Nat × Bool)} (h1 : AllT c.K u lT) (h2 : AllI c u lI) : IsiOk c u (lkI lI) (lkT lT) := ⟨fun T b h => lkT_all h1 T b h, fun k b h => lkI_all h2 k b h⟩
/-- isinstance of a handled exception -/
def AllX (c : Ct) (u : Value) : List (Nat × Bool) → Prop
  | [] => True
  | q :: r => (ExcC c.K (c.cl q.1) ∧ PySem.W.kitOne c.K (.ref (c.cl q.1)) u = some q.2) ∧ AllX c u r
theorem lkX_all {c : Ct} {u : Value} : ∀ {l : List (Nat × Bool)}, AllX c u l → ∀ k b, lkI l k = some b → ExcC c.K (c.cl k) ∧ PySem.W.kitOne c.K (.ref (c.cl k)) u = some b
  | [], _, T, b, h => by cases h
  | (a, x) :: l, h, T, b, e => by
    unfold lkI at e
    rw [List.lookup_cons] at e
    cases q : T == a with
    | true => rw [q] at e; cases e; rw [beq_iff_eq.mp q]; exact h.1
    | false => rw [q] at e; exact lkX_all h.2 T b e
/-- what may stand right of an own == -/
def AllE (K : PySem.W.Frag) (C : Addr) : List String → Prop
  | [] => True
  | q :: r => PySem.W.notFirst K C (.type q) = true ∧ AllE K C r
def AllF (c : Ct) (C : Addr) : List Nat → Prop
  | [] => True
  | q :: r => (InsT c.K (c.cl q) ∧ PySem.W.notFirst c.K C (.ref (c.cl q)) = true) ∧ AllF c C r
def inT (l : List String) (T : String) : Bool := l.contains T
def inI (l : List Nat) (k : Nat) : Bool := l.contains k
theorem inT_all {K : PySem.W.Frag} {C : Addr} : ∀ {l : List String}, AllE K C l → ∀ T, T ∈ l → PySem.W.notFirst K C (.type T) = true
  | [], _, T, h => by cases h
  | a :: l, h, T, e => by
    rcases List.mem_cons.mp e with rfl | e
    · exact h.1
    · exact inT_all h.2 T e
theorem inI_all {c : Ct} {C : Addr} : ∀ {l : List Nat}, AllF c C l → ∀ k, k ∈ l → InsT c.K (c.cl k) ∧ PySem.W.notFirst c.K C (.ref (c.cl k)) = true
  | [], _, T, h => by cases h
  | a :: l, h, T, e => by
    rcases List.mem_cons.mp e with rfl | e
    · exact h.1
    · exact inI_all h.2 T e
theorem eqr_mk {c : Ct} {C : Addr} {lT : List String} {lI : List Nat} (h1 : AllE c.K C lT) (h2 : AllF c C lI) : EqROk c C (inI lI) (inT lT) := ⟨fun T h => inT_all h1 T (List.contains_iff_mem.mp h), fun k h => inI_all h2 k (List.contains_iff_mem.mp h)⟩
theorem takes0 {X : Cx} : Takes X W0 := fun u s' ⟨_, _, _, _, _, _, _, _, _, _, _, _, _, _, _, _, w⟩ => w.elim
/-- law's promise: a list of at most 63 ints is handed in, True comes out -/
def spLawD (K : PySem.W.Frag) : Sp := fun vs H Q _ => ∃ (a : Addr) (ns : List Int), vs = [.ref a] ∧ SqL K H a (ns.map V.int) ∧ ns.length ≤ 63 ∧ ∀ H', Q (.bl true) H'
theorem law_fn {P : Program} {w : World} {K : PySem.W.Frag} {mg : Str → Option Value} {base : Heap} {c : Ct} {CX : CXT} {k : Nat} {f : Addr} {fd : FuncData} {ps : List Str} {m : Fn} (hK : c.K = K) (F : FnOk P w K mg base CX k f fd ps (spD c 1 m))
    (hs : ∀ ns : List Int, ns.length ≤ 63 → ∃ q, m [.sh (.rol (ns.map .int))] = .ok (.bl true, false, q)) : FnOk P w K mg base CX k f fd ps (spLawD K) := by
  have key : ∀ vs H Q E, spLawD K vs H Q E → spD c 1 m vs H Q E := fun vs H Q E ⟨a, ns, e, hS, hl, hq⟩ => by
    subst e
    obtain ⟨q, hm⟩ := hs ns hl
    refine ⟨rfl, H, [.sh (.rol (ns.map .int))], Ex.refl H, ⟨rfl, fun i b hb => ?_, fun i j p d d' h1 => ?_⟩, ?_⟩
    · cases i with
      | zero => cases hb; exact ⟨_, rfl, a, ns.map V.int, rfl, hK ▸ hS, RpL.of_ints ns⟩
      | succ i => simp at hb
    · cases i with
      | zero => cases h1
      | succ i => simp at h1
    · rw [hm]
      intro v H' F' _ _ _ _ hd
      have e : v = .bl true := hd
      rw [e]
      exact hq H'
  exact F.imp key
/-- fields of a class by their order -/
def fieldsOf (l : List (List Str)) (k : Nat) : List Str := l.getD k []
def nthA (l : List Addr) (k : Nat) : Addr := l.getD k 0
end DL

/-! DL, part o: slices. -/
namespace DL
open PySem L2 Evl
abbrev FO := DEnv → Res (Option Int × DEnv)
def SndO (c : Ct) (W : WX) (to : TO) (f : FO) : Prop := ∀ (z : Zs) σ H F e (Q : Option Int → Hp → Prop), I2 c z σ H F e →
  Wp (f e) (fun r => ∀ H' F', Ex F F' → I2 c z σ H' F' r.2 → Q r.1 H') (Xp c z W σ F) → to σ H Q
structure DO (X : Cx) (c : Ct) (W : WX) (o : Option Expr) (to : TO) (f : FO) : Prop where
  po : PO X o to
  sn : SndO c W to f
def fNoP : FO := fun e => .ok (none, e)
def fPo (f : FE) : FO := fun e => (f e).bind fun r => match lookT r.1 r.2 with
  | some (.int i) => .ok (some i, r.2)
  | _ => .stuck
section
variable {X : Cx} {c : Ct} {W : WX} {a : Expr} {ta : TE} {fa : FE} {lo hi : Option Expr} {tl th : TO} {fl fh : FO} {pos p2 : Pos}
theorem do_none : DO X c W none tNoPart fNoP := ⟨po_none, fun z σ H F e Q I h => h H F (Ex.refl F) I⟩
theorem do_some (ha : DE X c W a ta fa) : DO X c W (some a) (tPart ta) (fPo fa) := ⟨po_some ha.pe, fun z σ H F e Q I h => by
  unfold fPo at h
  rw [Wp.bind] at h
  refine ha.sn z σ H F e _ I (h.mono (fun r _ h v H1 F1 x1 I1 t1 => ?_) fun _ _ h => h)
  cases hl : lookT r.1 r.2 with
  | none => rw [hl] at h; exact h.elim
  | some d =>
    rw [hl] at h
    cases d <;> first | exact h.elim | skip
    rename_i i
    exact ⟨i, (t1.view I1 hl).int, h H1 F1 x1 I1⟩⟩
def cutD (xs : List D) (lo hi : Option Int) : List D := (xs.drop (HT.sIx xs.length 0 lo)).take (HT.sIx xs.length xs.length hi - HT.sIx xs.length 0 lo)
def opSl (d : D) (lo hi : Option Int) : Option RV := match d with
  | .lst ds => some (.nl (cutD ds lo hi))
  | .rol ds => some (.nl (cutD ds lo hi))
  | .tup ds => if HT.sIx ds.length 0 lo = 0 ∧ HT.sIx ds.length ds.length hi = ds.length then some (.fl (.tup ds)) else some (.nt (cutD ds lo hi))
  | .str z => if z.length ≤ lim then some (.fl (.str (cutS z lo hi))) else none
  | _ => none
theorem RpL.cut {F : Hp} {ds : List D} {vs : List V} (h : RpL c F ds vs) (lo hi : Option Int) : RpL c F (cutD ds lo hi) (cutV vs lo hi) := by
  unfold cutD cutV
  rw [h.len]
  exact (h.drop _).take _
abbrev rSlAll (K : PySem.W.Frag) : V → Option Int → Option Int → Hp → VK → Prop := fun x lo hi H Q => rSlL K x lo hi H Q ∨ (rSlA K x lo hi H Q ∨ rSlS x lo hi H Q)
theorem sl_all : SlR X (rSlAll X.K) := sl_list.or (sl_tupA.or sl_str)
theorem ok_sl {F H : Hp} {d : D} {v : V} {lo hi : Option Int} {rv : RV} {Q : VK} (x : Ex F H) (k : View c F H d v) (l : opSl d lo hi = some rv) (q : rv.Post c F H Q) : rSlAll c.K v lo hi H Q := by
  cases d <;> try cases l
  · rename_i z
    unfold opSl at l
    dsimp only at l
    split at l
    · rename_i h
      cases l
      exact .inr (.inr ⟨z, k.str, lim_ok h, q _ rfl⟩)
    · cases l
  · rename_i ds
    obtain ⟨p, vs, rfl, h1, r⟩ := k.lst x
    exact .inl ⟨p, vs, rfl, sq_of h1, fun p hp => q p _ (r.cut lo hi) hp⟩
  · rename_i ds
    obtain ⟨p, vs, rfl, h1, r⟩ := k.tup x
    unfold opSl at l
    dsimp only at l
    refine .inr (.inl ⟨p, vs, rfl, h1, fun hw => ?_, fun hw p hp => ?_⟩)
    · rw [if_pos (by rw [r.len]; exact hw)] at l
      cases l
      rcases k with k | ⟨_, _, k⟩
      · exact q _ k
      · exact k.2.elim
    · rw [if_neg (by rw [r.len]; exact hw)] at l
      cases l
      exact q p _ (r.cut lo hi) hp
  · rename_i ds
    obtain ⟨p, vs, rfl, h1, r⟩ := k.rol x
    exact .inl ⟨p, vs, rfl, h1, fun p hp => q p _ (r.cut lo hi) hp⟩
def fSl (fa : FE) (fl fh : FO) : FE := fun e => (fa e).bind fun r => (fl r.2).bind fun l => (fh l.2).bind fun h => Res.of ((lookT r.1.seal h.2).bind fun d => (opSl d l.1 h.1).map fun rv => (rv.tok, h.2))
theorem sn_sl (ha : SndE c W ta fa) (hl : SndO c W tl fl) (hh : SndO c W th fh) : SndE c W (tSl (rSlAll c.K) ta tl th) (fSl fa fl fh) := fun z σ H F e Q I h => by
  unfold fSl at h
  rw [Wp.bind] at h
  refine ha z σ H F e _ I (h.mono (fun r _ h v H1 F1 x1 I1 t1 => ?_) fun _ _ h => h)
  obtain ⟨F2, x2, J, t2⟩ := t1.seal I1
  rw [Wp.bind] at h
  refine hl z σ H1 F2 _ _ J (h.mono (fun l _ h H3 F3 x3 I3 => ?_) fun _ _ h => h.mono (x1.trans x2))
  rw [Wp.bind] at h
  refine hh z σ H3 F3 _ _ I3 (h.mono (fun u _ h H4 F4 x4 I4 => ?_) fun _ _ h => h.mono ((x1.trans x2).trans x3))
  obtain ⟨a, ea, h⟩ := Wp.of h
  obtain ⟨d1, l1, ea⟩ := obind ea
  obtain ⟨rv, l3, rfl⟩ := omap ea
  exact ok_sl I4.fh ((t2.keep (H' := H4) (x3.trans x4)).view I4 l1) l3 (RV.post_of I4 fun v' H' F' x' I' t' => h v' H' F' ((((x1.trans x2).trans x3).trans x4).trans x') I' t')
theorem de_sl (hK : X.K = c.K) (ha : DE X c W a ta fa) (hl : DO X c W lo tl fl) (hh : DO X c W hi th fh) : DE X c W (.Subscript a (.Slice lo hi none p2) pos) (tSl (rSlAll c.K) ta tl th) (fSl fa fl fh) := ⟨hK ▸ pe_slice sl_all ha.pe hl.po hh.po, sn_sl ha.sn hl.sn hh.sn⟩
end
section
variable {X : Cx} {c : Ct} {W : WX} {a b o i : Expr} {ti tv : TE} {fi fv : FE} {tr : TA} {fr : FA} {pos tgp : Pos} {j : Nat}
theorem ds_setL (ho : PE X o (tVar j)) (hi : DE X c W i ti fi) (hv : DE X c W a tv fv)
    (ha : ∀ v, assign (.Subscript o i tgp) X.env v = (do
      let ov ← holding [v] (eval o X.env)
      let iv ← holding [v, ov] (eval i X.env)
      standAt tgp
      holding [v, ov, iv] (setItem ov iv v)
      release [v, ov, iv] []) := by intro _; rfl)
    (hs : swapsWithSole [.Subscript o i tgp] a pos.line X.env = pure false := by rfl) (hw : swappedStores [.Subscript o i tgp] a X.env = pure none := by rfl) (h1 : (assignEach [.Subscript o i tgp] X.env).map (·.2) = [assign (.Subscript o i tgp) X.env] := by rfl) :
    DS X c W (.Assign [.Subscript o i tgp] a pos) (tAsg tv (gSub (tVar j) ti rSetL)) (fSetIx j fi fv) := ds_setIx (ps_asg hv.pe (pg_sub ho hi.pe set_list ha) hs hw h1) hi.sn hv.sn
theorem ds_par2 {i j : Nat} {x y : Str} {px py pt : Pos} {kt k2 pt2} (hc : X.calm = true) (hN : X.N.Nodup) (hi : X.N[i]? = some x) (hj : X.N[j]? = some y) (hij : i ≠ j)
    (hx : X.env.scope.names.lookup x = some .local) (hy : X.env.scope.names.lookup y = some .local) (ha : DA X c W [a, b] tr fr)
    (hw : swappedStores [.Tuple [.Name x px, .Name y py] kt pt] (.Tuple [a, b] k2 pt2) X.env = pure (some [x, y]))
    (hs : swapsWithSole [.Tuple [.Name x px, .Name y py] kt pt] (.Tuple [a, b] k2 pt2) pos.line X.env = pure false := by rfl) :
    DS X c W (.Assign [.Tuple [.Name x px, .Name y py] kt pt] (.Tuple [a, b] k2 pt2) pos) (tPar i j tr) (fPar i j fr) := ds_par (ps_par hc hN hi hj hij hx hy ha.pa hw hs) ha
end
theorem u65 {A : Around} {k : Nat} (hr : Room k A) : A.units + 65 < cLine := by have := hr.un; omega
end DL

/-! DL, part p: try, except. -/
namespace DL
open PySem L2 Evl
/-- .. while an exception is handled -/
abbrev Ct.hd (c : Ct) (o : Option (Addr × Value × Option Addr)) : Ct := ⟨c.K, c.cl, c.fn, o, c.w⟩
section
variable {c : Ct} {o : Option (Addr × Value × Option Addr)} {F H : Hp}
mutual
theorem Rp.hd : ∀ (d : D) (v : V), Rp (c.hd o) F d v ↔ Rp c F d v
  | .non, v => Iff.rfl
  | .bl b, v => Iff.rfl
  | .int i, v => Iff.rfl
  | .str s, v => Iff.rfl
  | .lst ds, v => ⟨fun ⟨p, vs, h1, h2, h3⟩ => ⟨p, vs, h1, h2, (RpL.hd ds vs).mp h3⟩, fun ⟨p, vs, h1, h2, h3⟩ => ⟨p, vs, h1, h2, (RpL.hd ds vs).mpr h3⟩⟩
  | .tup ds, v => ⟨fun ⟨p, vs, h1, h2, h3⟩ => ⟨p, vs, h1, h2, (RpL.hd ds vs).mp h3⟩, fun ⟨p, vs, h1, h2, h3⟩ => ⟨p, vs, h1, h2, (RpL.hd ds vs).mpr h3⟩⟩
  | .rol ds, v => ⟨fun ⟨p, vs, h1, h2, h3⟩ => ⟨p, vs, h1, h2, (RpL.hd ds vs).mp h3⟩, fun ⟨p, vs, h1, h2, h3⟩ => ⟨p, vs, h1, h2, (RpL.hd ds vs).mpr h3⟩⟩
  | .ins k ds, v => ⟨fun ⟨p, dx, vs, h1, h2, h3⟩ => ⟨p, dx, vs, h1, h2, (RpL.hd ds vs).mp h3⟩, fun ⟨p, dx, vs, h1, h2, h3⟩ => ⟨p, dx, vs, h1, h2, (RpL.hd ds vs).mpr h3⟩⟩
  | .dct t ks ds, v => ⟨fun ⟨p, ws, vs, h1, h2, h3, h4⟩ => ⟨p, ws, vs, h1, h2, (RpL.hd ks ws).mp h3, (RpL.hd ds vs).mp h4⟩, fun ⟨p, ws, vs, h1, h2, h3, h4⟩ => ⟨p, ws, vs, h1, h2, (RpL.hd ks ws).mpr h3, (RpL.hd ds vs).mpr h4⟩⟩
  | .exv k ds, v => ⟨fun ⟨p, dd, h1, h2, h3⟩ => ⟨p, dd, h1, h2, h3.elim .inl fun ⟨h0, a, fs, vs, h4, h5, h6, h7⟩ => .inr ⟨h0, a, fs, vs, h4, h5, (RpL.hd ds vs).mp h6, h7⟩⟩, fun ⟨p, dd, h1, h2, h3⟩ => ⟨p, dd, h1, h2, h3.elim .inl fun ⟨h0, a, fs, vs, h4, h5, h6, h7⟩ => .inr ⟨h0, a, fs, vs, h4, h5, (RpL.hd ds vs).mpr h6, h7⟩⟩⟩
theorem RpL.hd : ∀ (ds : List D) (vs : List V), RpL (c.hd o) F ds vs ↔ RpL c F ds vs
  | [], _ => Iff.rfl
  | d :: ds, _ => ⟨fun ⟨v, r, h1, h2, h3⟩ => ⟨v, r, h1, (Rp.hd d v).mp h2, (RpL.hd ds r).mp h3⟩, fun ⟨v, r, h1, h2, h3⟩ => ⟨v, r, h1, (Rp.hd d v).mpr h2, (RpL.hd ds r).mpr h3⟩⟩
end
theorem Own.hd {d : D} {p : Addr} : Own (c.hd o) F H d p ↔ Own c F H d p := by
  cases d with
  | lst ds => exact ⟨fun ⟨h, vs, h1, h2⟩ => ⟨h, vs, h1, (RpL.hd ds vs).mp h2⟩, fun ⟨h, vs, h1, h2⟩ => ⟨h, vs, h1, (RpL.hd ds vs).mpr h2⟩⟩
  | ins k ds => exact ⟨fun ⟨h, dx, vs, h1, h2⟩ => ⟨h, dx, vs, h1, (RpL.hd ds vs).mp h2⟩, fun ⟨h, dx, vs, h1, h2⟩ => ⟨h, dx, vs, h1, (RpL.hd ds vs).mpr h2⟩⟩
  | dct t ks ds => exact ⟨fun ⟨h, ws, vs, h1, h2, h3⟩ => ⟨h, ws, vs, h1, (RpL.hd ks ws).mp h2, (RpL.hd ds vs).mp h3⟩, fun ⟨h, ws, vs, h1, h2, h3⟩ => ⟨h, ws, vs, h1, (RpL.hd ks ws).mpr h2, (RpL.hd ds vs).mpr h3⟩⟩
  | _ => exact ⟨fun h => h.2.elim, fun h => h.2.elim⟩
theorem XR.hd {x : XV} {cls : Value} {dd : Option Addr} : XR (c.hd o) F x cls dd ↔ XR c F x cls dd := by
  unfold XR
  refine ⟨fun ⟨h1, h2⟩ => ⟨h1, ?_⟩, fun ⟨h1, h2⟩ => ⟨h1, ?_⟩⟩
  · rcases h2 with h2 | ⟨h0, a, fs, vs, h2, h3, h4, h5⟩
    · exact .inl h2
    · exact .inr ⟨h0, a, fs, vs, h2, h3, (RpL.hd _ _).mp h4, h5⟩
  · rcases h2 with h2 | ⟨h0, a, fs, vs, h2, h3, h4, h5⟩
    · exact .inl h2
    · exact .inr ⟨h0, a, fs, vs, h2, h3, (RpL.hd _ _).mpr h4, h5⟩
theorem ArgR.hd {b : B} {v : V} : ArgR (c.hd o) F H b v ↔ ArgR c F H b v := by
  cases b with
  | sh d => exact Rp.hd d v
  | br d => exact ⟨fun ⟨p, h1, h2⟩ => ⟨p, h1, Own.hd.mp h2⟩, fun ⟨p, h1, h2⟩ => ⟨p, h1, Own.hd.mpr h2⟩⟩
  | ow d => exact Iff.rfl
  | ex x => exact Iff.rfl
theorem AR.hd {bs : List B} {vs : List V} : AR (c.hd o) F H bs vs ↔ AR c F H bs vs :=
  ⟨fun h => ⟨h.len, fun i b g => by obtain ⟨v, h1, h2⟩ := h.get i b g; exact ⟨v, h1, ArgR.hd.mp h2⟩, h.dist⟩, fun h => ⟨h.len, fun i b g => by obtain ⟨v, h1, h2⟩ := h.get i b g; exact ⟨v, h1, ArgR.hd.mpr h2⟩, h.dist⟩⟩
theorem DR.hd {F' H' : Hp} {d : D} {fr : Bool} {v : V} : DR (c.hd o) H F' H' d fr v ↔ DR c H F' H' d fr v := by
  cases fr with
  | false => exact Rp.hd d v
  | true => exact ⟨fun ⟨p, h1, h2, h3⟩ => ⟨p, h1, Own.hd.mp h2, h3⟩, fun ⟨p, h1, h2, h3⟩ => ⟨p, h1, Own.hd.mpr h2, h3⟩⟩
theorem spD_hd {n : Nat} {m : Fn} : spD (c.hd o) n m = spD c n m := by
  funext vs H Q E
  refine propext ⟨fun ⟨h0, F, bs, h1, h2, h3⟩ => ⟨h0, F, bs, h1, AR.hd.mp h2, ?_⟩, fun ⟨h0, F, bs, h1, h2, h3⟩ => ⟨h0, F, bs, h1, AR.hd.mpr h2, ?_⟩⟩
  · exact h3.mono (fun r _ h v H' F' a b k q d => h v H' F' a b k (AR.hd.mpr q) (DR.hd.mpr d)) fun x _ h cls dd H' F' a b k r => h cls dd H' F' a b k (XR.hd.mpr r)
  · exact h3.mono (fun r _ h v H' F' a b k q d => h v H' F' a b k (AR.hd.mp q) (DR.hd.mp d)) fun x _ h cls dd H' F' a b k r => h cls dd H' F' a b k (XR.hd.mp r)
/-- a callee's promise in a suite -/
theorem fn_hd {P : Program} {w : World} {K : PySem.W.Frag} {mg : Str → Option Value} {base : Heap} {CX : CXT} {k n : Nat} {f : Addr} {fd : FuncData} {ps : List Str} {m : Fn} (F : FnOk P w K mg base CX k f fd ps (spD c n m)) : FnOk P w K mg base CX k f fd ps (spD (c.hd o) n m) := by
  rw [spD_hd]; exact F
end
/-- no exception is bound -/
def noX (e : DEnv) : Bool := e.all fun b => match b with
  | some (.ex _) => false
  | _ => true
section
variable {c : Ct} {z : Zs} {W : WX} {σ σ' : L2.St} {H H' F F' G : Hp} {e e' : DEnv} {o : Option (Addr × Value × Option Addr)}
theorem noX_get {i : Nat} {x : XV} (h : noX e = true) (h1 : e[i]? = some (some (.ex x))) : False := by
  have := List.all_eq_true.mp h _ (List.mem_of_getElem? h1)
  cases this
theorem I2.hd (I : I2 c z σ H F e) (no : noX e = true) : I2 (c.hd o) z σ H F e := by
  refine ⟨I.len, I.f0, I.fh, I.keep, fun i b h => ?_, I.dist, I.bo, I.nf, I.brv⟩
  obtain ⟨v, hv, r⟩ := I.slot i b h
  refine ⟨v, hv, ?_⟩
  cases b with
  | sh d => exact (Rp.hd d v).mpr r
  | ow d => obtain ⟨p, h1, h2, h3⟩ := r; exact ⟨p, h1, Own.hd.mpr h2, h3⟩
  | br d => obtain ⟨p, h1, h2, h3⟩ := r; exact ⟨p, h1, Own.hd.mpr h2, h3⟩
  | ex x => exact (noX_get no h).elim
theorem I2.unhd (I : I2 (c.hd o) z σ H F e) (no : noX e = true) : I2 c z σ H F e := by
  refine ⟨I.len, I.f0, I.fh, I.keep, fun i b h => ?_, I.dist, I.bo, I.nf, I.brv⟩
  obtain ⟨v, hv, r⟩ := I.slot i b h
  refine ⟨v, hv, ?_⟩
  cases b with
  | sh d => exact (Rp.hd d v).mp r
  | ow d => obtain ⟨p, h1, h2, h3⟩ := r; exact ⟨p, h1, Own.hd.mp h2, h3⟩
  | br d => obtain ⟨p, h1, h2, h3⟩ := r; exact ⟨p, h1, Own.hd.mp h2, h3⟩
  | ex x => exact (noX_get no h).elim
theorem I2.storeX {i : Nat} {v : V} {x : XV} (I : I2 c z σ H F e) (hi : i < σ.length) (r : BR c z F H (.ex x) v) : I2 c z (σ.set i (some v)) H F (e.set i (some (.ex x))) := by
  have key : ∀ (j : Nat) (p : Addr), RootAt (σ.set i (some v)) (e.set i (some (.ex x))) j p → RootAt σ e j p := fun j p ⟨b, h1, h2, h3⟩ => by
    rcases get_set h1 with ⟨_, q⟩ | ⟨ne, q⟩
    · cases q; cases h2
    · rcases get_set h3 with ⟨q', _⟩ | ⟨_, q'⟩
      · exact absurd q' ne
      · exact ⟨b, q, h2, q'⟩
  refine ⟨by rw [List.length_set, List.length_set]; exact I.len, I.f0, I.fh, I.keep, fun j b h => ?_, fun j k p h1 h2 => I.dist j k p (key _ _ h1) (key _ _ h2), I.bo, I.nf, fun j d' v' h h' => ?_⟩
  · rcases get_set h with ⟨rfl, q⟩ | ⟨ne, q⟩
    · cases q; exact ⟨v, get_setS hi, r⟩
    · obtain ⟨w, h1, h2⟩ := I.slot j b q
      exact ⟨w, by rw [List.getElem?_set_ne (Ne.symm ne)]; exact h1, h2⟩
  · rcases get_set h with ⟨_, q⟩ | ⟨ne, q⟩
    · cases q
    · rw [List.getElem?_set_ne (Ne.symm ne)] at h'
      exact I.brv j d' v' q h'
/-- a token that does not name the slot i -/
def offT (i : Nat) : T → Bool
  | .sl j => j != i
  | _ => true
/-- the end of an except suite: its name goes -/
def goneO (i : Nat) : Out → Res Out
  | .nx e => if noX (e.set i none) then .ok (.nx (e.set i none)) else .stuck
  | .bk e => if noX (e.set i none) then .ok (.bk (e.set i none)) else .stuck
  | .ct e => if noX (e.set i none) then .ok (.ct (e.set i none)) else .stuck
  | .rt t e => if noX (e.set i none) && offT i t then .ok (.rt t (e.set i none)) else .stuck
/-- try: f, except X as i: g -/
def fTry (tbl : Nat → Option Bool) (i : Nat) (f : FS) (g : FS) : FS := fun e => match f e with
  | .exc x e' => (match tbl x.k with
    | some true => if noX e' && decide (i < e'.length) then (match g (e'.set i (some (.ex x))) with
        | .ok out => goneO i out
        | _ => .stuck) else .stuck
    | some false => .exc x e'
    | none => .stuck)
  | r => r
def TryOk (c : Ct) (cv : Value) (tbl : Nat → Option Bool) : Prop := ∀ k b, tbl k = some b → PySem.W.exmOne c.K (.ref (c.cl k)) cv = some b
theorem TR.unhd {t : T} {v : V} {i : Nat} (h : TR (c.hd o) z F H σ e t v) (ht : offT i t = true) : TR c z F H (σ.set i none) (e.set i none) t v := by
  cases t with
  | sl j =>
    have hj : j ≠ i := by simpa [offT] using ht
    have h' : σ[j]? = some (some v) := h
    show (σ.set i none)[j]? = some (some v)
    rw [List.getElem?_set_ne (Ne.symm hj)]
    exact h'
  | vl d => exact (Rp.hd d v).mp h
  | nw d =>
    obtain ⟨p, rfl, w, h0, hn⟩ := h
    refine ⟨p, rfl, Own.hd.mp w, h0, fun j ⟨b, h1, h2, h3⟩ => ?_⟩
    rcases get_set h1 with ⟨_, q⟩ | ⟨ne, q⟩
    · cases q
    · rw [List.getElem?_set_ne (Ne.symm ne)] at h3
      exact hn j ⟨b, q, h2, h3⟩
theorem Res.bind_wp {α β : Type} {r : Res α} {f : α → Res β} {ok : β → Prop} {ex : XV → DEnv → Prop} (h : Wp (r.bind f) ok ex) : Wp r (fun a => Wp (f a) ok ex) ex := by rw [← Wp.bind]; exact h
theorem sn_try {cv : Value} {tbl : Nat → Option Bool} {i : Nat} {tb : WX → TS} {ts : Addr → Value → Option Addr → TS} {f g : FS} (ok : TryOk c cv tbl) (hb : ∀ W', SndS c W' (tb W') f) (hg : ∀ a cls d, SndS (c.hd (some (a, cls, d))) W0 (ts a cls d) g) :
    SndS c W (fun D σ H => tb (wAs c.K cv i ts W D) D σ H) (fTry tbl i f g) := fun z σ H F e D I h => by
  refine hb (wAs c.K cv i ts W D) z σ H F e D I ?_
  unfold fTry at h
  cases hf : f e with
  | stuck => rw [hf] at h; exact h
  | ok r => rw [hf] at h; exact h
  | exc x e' =>
    rw [hf] at h
    dsimp only at h
    intro σ' cls dd H' F' x1 J r
    have hc : cls = .ref (c.cl x.k) := r.1
    cases ht : tbl x.k with
    | none => rw [ht] at h; exact h.elim
    | some b =>
      rw [ht] at h
      refine ⟨b, by rw [hc]; exact ok _ _ ht, fun hb1 a ha => ?_, fun hb0 => ?_⟩
      · subst hb1
        dsimp only at h
        split at h
        · rename_i hk
          obtain ⟨no, hi⟩ := Bool.and_eq_true_iff.mp hk
          have hi := of_decide_eq_true hi
          have J1 := (J.hd (o := some (a, cls, dd)) no).storeX (i := i) (v := .ref a) (x := x) (by rw [← J.len]; exact hi) ⟨a, cls, dd, rfl, rfl, XR.hd.mpr r⟩
          refine hg a cls dd z (σ'.set i (some (.ref a))) H' F' _ _ J1 ?_
          cases hq : g (e'.set i (some (.ex x))) with
          | stuck => rw [hq] at h; exact h
          | exc x2 e2 => rw [hq] at h; exact h.elim
          | ok out =>
            rw [hq] at h
            cases out with
            | nx e2 =>
              intro σ2 H2 F2 x2 K
              have h' : Wp (if noX (e2.set i none) then (Res.ok (Out.nx (e2.set i none))) else .stuck) (PoS c z F D) (XpS c z W F) := h
              split at h'
              · rename_i hn
                exact h' _ H2 F2 (x1.trans x2) (K.unbind.unhd hn)
              · exact h'.elim
            | bk e2 =>
              intro σ2 H2 F2 x2 K
              have h' : Wp (if noX (e2.set i none) then (Res.ok (Out.bk (e2.set i none))) else .stuck) (PoS c z F D) (XpS c z W F) := h
              split at h'
              · rename_i hn
                exact h' _ H2 F2 (x1.trans x2) (K.unbind.unhd hn)
              · exact h'.elim
            | ct e2 =>
              intro σ2 H2 F2 x2 K
              have h' : Wp (if noX (e2.set i none) then (Res.ok (Out.ct (e2.set i none))) else .stuck) (PoS c z F D) (XpS c z W F) := h
              split at h'
              · rename_i hn
                exact h' _ H2 F2 (x1.trans x2) (K.unbind.unhd hn)
              · exact h'.elim
            | rt t e2 =>
              intro v σ2 H2 F2 x2 K tr
              have h' : Wp (if noX (e2.set i none) && offT i t then (Res.ok (Out.rt t (e2.set i none))) else .stuck) (PoS c z F D) (XpS c z W F) := h
              split at h'
              · rename_i hn
                obtain ⟨hn, ho⟩ := Bool.and_eq_true_iff.mp hn
                exact h' v _ H2 F2 (x1.trans x2) (K.unbind.unhd hn) (tr.unhd ho)
              · exact h'.elim
        · exact h.elim
      · subst hb0
        exact h σ' cls dd H' F' x1 J r
/-- .. except X: g -/
def fTryO (tbl : Nat → Option Bool) (f : FS) (g : FS) : FS := fun e => match f e with
  | .exc x e' => (match tbl x.k with
    | some true => (match g e' with
        | .ok out => .ok out
        | _ => .stuck)
    | some false => .exc x e'
    | none => .stuck)
  | r => r
theorem sn_tryO {cv : Value} {tbl : Nat → Option Bool} {tb : WX → TS} {ts : Addr → Value → Option Addr → TS} {f g : FS} (ok : TryOk c cv tbl) (hb : ∀ W', SndS c W' (tb W') f) (hg : ∀ a cls d, SndS c W0 (ts a cls d) g) :
    SndS c W (fun D σ H => tb (wOnly c.K cv ts W D) D σ H) (fTryO tbl f g) := fun z σ H F e D I h => by
  refine hb (wOnly c.K cv ts W D) z σ H F e D I ?_
  unfold fTryO at h
  cases hf : f e with
  | stuck => rw [hf] at h; exact h
  | ok r => rw [hf] at h; exact h
  | exc x e' =>
    rw [hf] at h
    dsimp only at h
    intro σ' cls dd H' F' x1 J r
    have hc : cls = .ref (c.cl x.k) := r.1
    cases ht : tbl x.k with
    | none => rw [ht] at h; exact h.elim
    | some b =>
      rw [ht] at h
      refine ⟨b, by rw [hc]; exact ok _ _ ht, fun hb1 a ha => ?_, fun hb0 => ?_⟩
      · subst hb1
        dsimp only at h
        refine hg a cls dd z σ' H' F' _ _ J ?_
        cases hq : g e' with
        | stuck => rw [hq] at h; exact h
        | exc x2 e2 => rw [hq] at h; exact h.elim
        | ok out =>
          rw [hq] at h
          have h' : PoS c z F D out := h
          exact h'.mono x1
      · subst hb0
        exact h σ' cls dd H' F' x1 J r
end
/-! ### the rules -/
section
variable {X : Cx} {c : Ct} {W : WX}
def xeT (X : Cx) : Value → Shared → Prop := fun e s₁ => wpAny (model X.prog X.w) X.A (noteFrame e X.env) (fun _ s₂ => wpAny (model X.prog X.w) X.A (setFlight e none) (fun _ _ => True) (fun _ _ => True) s₂) (fun _ _ => True) s₁
theorem pass_T : PassesOwn (model X.prog X.w) X.A X.env (xeT X) := PassesOwn.looking (K := fun e s₂ => wpAny (model X.prog X.w) X.A (setFlight e none) (fun _ _ => True) (fun _ _ => True) s₂)
theorem takes_T {W' : WX} {pn : List (Addr × Obj)} (hs : X.stack = X.env :: X.outer) (hf : X.env.frame = some X.env.locals) : Takes (X.tr pn (xeT X)) W' := fun u s' ⟨a, B, sI, pins, σ, H, cls, d, e, J, nb, up, sky, na, os, ag, w⟩ => by
  subst e
  have hfr : X.A.frames = some (X.env :: X.outer) := by rw [← hs]; exact J.ok.frames
  have sky' : Sky B (X.env :: X.outer) a (Zc cls d) X.env.locals s'.heap := by rw [← hs]; exact sky
  exact Sky.land Zc.steady hfr hf sky' fun _ _ _ => trivial
theorem ds_try_as {x n : Str} {cv : Value} {i : Nat} {body suite : List Stmt} {b₀ : Stmt} {np pos pos' : Pos} {tb : WX → TS} {ts : Addr → Value → Option Addr → TS} {tbl : Nat → Option Bool} {f g : FS} (hs : X.stack = X.env :: X.outer) (hf : X.env.frame = some X.env.locals) (hN : X.N.Nodup) (hi : X.N[i]? = some n) (hln : X.env.kindOf n = some .local) (hc : Names X x cv) (tk : Takes X W) (hK : X.K = c.K) (ok : TryOk c cv tbl)
    (hb : ∀ (W' : WX) (pn : List (Addr × Obj)) (xe : Value → Shared → Prop), Takes (X.tr pn xe) W' → PassesOwn (model X.prog X.w) X.A X.env xe → DSs (X.tr pn xe) c W' body (tb W') f)
    (hsu : ∀ (a : Addr) (oe : Obj) (cls : Value) (d : Option Addr) (pn : List (Addr × Obj)), Zc cls d oe → (∃ vs, oe.data = .fields vs) → DSs (X.suite a ((a, oe) :: pn)) (c.hd (some (a, cls, d))) W0 (b₀ :: suite) (ts a cls d) g) :
    DS X c W (.Try body [.ExceptHandler (some (.Name x np)) (some n) (b₀ :: suite) pos'] [] [] pos) (fun D σ H => tb (wAs c.K cv i ts W D) D σ H) (fTry tbl i f g) :=
  ⟨hK ▸ ps_try_as hs hf hN hi hln hc tk (fun W' pn xe tk' pa => (hb W' pn xe tk' pa).ps) (fun a oe cls d pn hz hf => (hsu a oe cls d pn hz hf).ps),
    sn_try ok (fun W' => (hb W' [] (xeT X) (takes_T hs hf) pass_T).sn) fun a cls d => (hsu a ⟨cls, d, .fields #[], #[]⟩ cls d [] ⟨rfl, rfl⟩ ⟨_, rfl⟩).sn⟩
theorem ds_try_only {x : Str} {cv : Value} {body suite : List Stmt} {b₀ : Stmt} {np pos pos' : Pos} {tb : WX → TS} {ts : Addr → Value → Option Addr → TS} {tbl : Nat → Option Bool} {f g : FS} (hs : X.stack = X.env :: X.outer) (hf : X.env.frame = some X.env.locals) (hc : Names X x cv) (tk : Takes X W) (hK : X.K = c.K) (ok : TryOk c cv tbl)
    (hb : ∀ (W' : WX) (pn : List (Addr × Obj)) (xe : Value → Shared → Prop), Takes (X.tr pn xe) W' → PassesOwn (model X.prog X.w) X.A X.env xe → DSs (X.tr pn xe) c W' body (tb W') f)
    (hsu : ∀ (a : Addr) (oe : Obj) (cls : Value) (d : Option Addr) (pn : List (Addr × Obj)), Zc cls d oe → (∃ vs, oe.data = .fields vs) → DSs (X.suite a ((a, oe) :: pn)) c W0 (b₀ :: suite) (ts a cls d) g) :
    DS X c W (.Try body [.ExceptHandler (some (.Name x np)) none (b₀ :: suite) pos'] [] [] pos) (fun D σ H => tb (wOnly c.K cv ts W D) D σ H) (fTryO tbl f g) :=
  ⟨hK ▸ ps_try_only hs hf hc tk (fun W' pn xe tk' pa => (hb W' pn xe tk' pa).ps) (fun a oe cls d pn hz hf => (hsu a oe cls d pn hz hf).ps),
    sn_tryO ok (fun W' => (hb W' [] (xeT X) (takes_T hs hf) pass_T).sn) fun a cls d => (hsu a ⟨cls, d, .fields #[], #[]⟩ cls d [] ⟨rfl, rfl⟩ ⟨_, rfl⟩).sn⟩

/-! ### e.f, e the exception that is handled -/
def fXf (ns : List Str) (k i : Nat) (f : Str) : FE := fun e => match e[i]? with
  | some (some (.ex x)) => if x.k = k then (match (ns.zip x.ds).lookup f with
    | some d => .ok (.vl d, e)
    | none => .stuck) else .stuck
  | _ => .stuck
theorem idx_look {f : Str} {d : D} : ∀ {ns : List Str} {ds : List D}, (ns.zip ds).lookup f = some d → ∃ i : Nat, ns[i]? = some f ∧ ds[i]? = some d
  | [], _, h => by simp at h
  | _ :: _, [], h => by simp at h
  | n :: ns, d0 :: ds, h => by
    rw [List.zip_cons_cons, List.lookup_cons] at h
    cases q : f == n with
    | true => rw [q] at h; cases h; exact ⟨0, by rw [beq_iff_eq.mp q]; rfl, rfl⟩
    | false =>
      rw [q] at h
      obtain ⟨i, h1, h2⟩ := idx_look h
      exact ⟨i + 1, h1, h2⟩
theorem sn_xf {a : Addr} {cls : Value} {dd : Option Addr} {i k : Nat} {f : Str} : SndE (c.hd (some (a, cls, dd))) W (tXf a cls dd (c.cl k) f (tVar i)) (fXf (c.fn k) k i f) := fun z σ H F e Q I h => by
  unfold fXf at h
  split at h
  · rename_i x hx
    split at h
    · rename_i hk
      split at h
      · rename_i d hd
        obtain ⟨v, hv, a', cls', dd', ha, rfl, r⟩ := I.slot i _ hx
        cases ha
        subst hk
        refine ⟨_, hv, rfl, r.1, ?_⟩
        obtain ⟨j, h1, h2⟩ := idx_look hd
        rcases r.2 with ⟨h3, _⟩ | ⟨_, p, fs, vs, h3, h4, h5, h6⟩
        · rw [h3] at h2; simp at h2
        · obtain ⟨w, h7, h8⟩ := h5.get h2
          exact ⟨p, fs, w, h3, I.fh _ _ h4, h6 j f w h1 h7, h w H F (Ex.refl F) I h8⟩
      · exact h.elim
    · exact h.elim
  · exact h.elim
theorem de_xf {a : Addr} {oe : Obj} {cls : Value} {d : Option Addr} {pn : List (Addr × Obj)} {o : Expr} {pos : Pos} {f : Str} {i k : Nat} (hK : X.K = c.K) (T : XfC c.K (c.cl k)) (hno : PySem.W.findIn c.K (.ref (c.cl k)) f = some none)
    (hz : Zc cls d oe) (hf : ∃ vs, oe.data = .fields vs) (he : PE (X.suite a ((a, oe) :: pn)) o (tVar i)) (hb : attributeBase o f X.env (eval o X.env) = eval o X.env := by rfl) :
    DE (X.suite a ((a, oe) :: pn)) (c.hd (some (a, cls, d))) W (.Attribute o f pos) (tXf a cls d (c.cl k) f (tVar i)) (fXf (c.fn k) k i f) := ⟨pe_xf (hK ▸ T) (hK ▸ hno) hz hf he hb, sn_xf⟩
/-! ### a, b = a list -/
def fgLst (n : Nat) (fg : List D → DEnv → Option DEnv) (d : D) (e : DEnv) : Option DEnv := match d with
  | .lst ds => if ds.length = n then fg ds e else none
  | _ => none
theorem dg_lst' {es : List Expr} {k n : Nat} {pos : Pos} {gs : TGs} {fs : List D → DEnv → Option DEnv} (hK : X.K = c.K := by rfl) (h : DGs X c es gs fs) (hc : X.calm = true := by rfl)
    (hn : (assignEach es X.env).length = n := by rfl) (hst : (assignEach es X.env).findIdx? (·.1) = none := by rfl) : DG X c (.Tuple es k pos) (gLst c.K n gs) (fgLst n fs) := by
  refine ⟨hK ▸ pg_lst hc h.pg hn hst, fun z σ H F e d v e' Q I r l q => ?_⟩
  cases d <;> try cases l
  rename_i ds
  unfold fgLst at l
  dsimp only at l
  split at l
  · rename_i hl
    obtain ⟨p, vs, rfl, h1, h2⟩ := r
    exact ⟨p, vs, rfl, sq_of (I.fh _ _ h1), by rw [← h2.len]; exact hl, h.sn z σ H F e ds vs e' Q I h2 l q⟩
  · cases l
/-! ### isinstance(e, C), e the exception that is handled, made without arguments -/
def fIsX (tbl : Nat → Option Bool) (i : Nat) : FE := fun e => match e[i]? with
  | some (some (.ex x)) => if x.ds.isEmpty then (match tbl x.k with
    | some b => .ok (.vl (.bl b), e)
    | none => .stuck) else .stuck
  | _ => .stuck
def rIsX (K : PySem.W.Frag) (cls : Value) (d : Option Addr) (a : Addr) : List V → Hp → VK → Prop := fun xs H Q => ∃ C, cls = .ref C ∧ d = none ∧ ExcC K C ∧ rIsE K C a xs H Q
theorem call_isX {a : Addr} {oe : Obj} {cls : Value} {d : Option Addr} {pn : List (Addr × Obj)} (hz : Zc cls d oe) (hf : ∃ vs, oe.data = .fields vs) : CallR (X.suite a ((a, oe) :: pn)) (.builtin "isinstance") (rIsX X.K cls d a) := by
  intro pins s σ H xs us Q I r h
  obtain ⟨C, rfl, rfl, hC, h⟩ := h
  exact call_isE hC hz hf pins s σ H xs us Q I r h
def IsXOk (c : Ct) (u : Value) (tbl : Nat → Option Bool) : Prop := ∀ k b, tbl k = some b → ExcC c.K (c.cl k) ∧ PySem.W.kitOne c.K (.ref (c.cl k)) u = some b
theorem isx_mk {c : Ct} {u : Value} {l : List (Nat × Bool)} (h : AllX c u l) : IsXOk c u (lkI l) := fun k b e => lkX_all h k b e
theorem sn_isX {a : Addr} {cls : Value} {dd : Option Addr} {i : Nat} {cv : V} {u : Value} {tbl : Nat → Option Bool} (cu : ClsV cv u) (ok : IsXOk c u tbl) : SndE (c.hd (some (a, cls, dd))) W (tCB (rIsX c.K cls dd a) (tCons (tVar i) (tCons (tC cv) tNil))) (fIsX tbl i) := fun z σ H F e Q I h => by
  unfold fIsX at h
  split at h
  · rename_i x hx
    split at h
    · rename_i hk
      split at h
      · rename_i b hb
        obtain ⟨v, hv, a', cls', dd', ha, rfl, r⟩ := I.slot i _ hx
        cases ha
        obtain ⟨h1, h2⟩ := ok x.k b hb
        refine ⟨_, hv, c.cl x.k, r.1, ?_, h1, cv, u, b, rfl, fun w hw => cu.eq hw, h2, h _ H F (Ex.refl F) I rfl⟩
        rcases r.2 with ⟨_, h3⟩ | ⟨h3, _⟩
        · exact h3
        · exact absurd (List.isEmpty_iff.mp hk) h3
      · exact h.elim
    · exact h.elim
  · exact h.elim
theorem de_isX {a : Addr} {oe : Obj} {cls : Value} {d : Option Addr} {pn : List (Addr × Obj)} {o b : Expr} {p pos : Pos} {i : Nat} {cv : V} {u : Value} {tbl : Nat → Option Bool} (hK : X.K = c.K) (hz : Zc cls d oe) (hf : ∃ vs, oe.data = .fields vs) (cu : ClsV cv u) (ok : IsXOk c u tbl)
    (hg : Gl (X.suite a ((a, oe) :: pn)) "isinstance") (hm : (X.suite a ((a, oe) :: pn)).mg "isinstance" = none) (he : PE (X.suite a ((a, oe) :: pn)) o (tVar i)) (hb : PE (X.suite a ((a, oe) :: pn)) b (tC cv))
    (hs : starEach [o, b] (X.suite a ((a, oe) :: pn)).env = (false, eval o (X.suite a ((a, oe) :: pn)).env) :: starEach [b] (X.suite a ((a, oe) :: pn)).env := by rfl) (hs2 : starEach [b] (X.suite a ((a, oe) :: pn)).env = (false, eval b (X.suite a ((a, oe) :: pn)).env) :: starEach [] (X.suite a ((a, oe) :: pn)).env := by rfl) (hpl : (backTo pos (starEach [b] (X.suite a ((a, oe) :: pn)).env)).any (·.1) = false := by rfl) :
    DE (X.suite a ((a, oe) :: pn)) (c.hd (some (a, cls, d))) W (.Call (.Name "isinstance" p) [o, b] [] pos) (tCB (rIsX c.K cls d a) (tCons (tVar i) (tCons (tC cv) tNil))) (fIsX tbl i) :=
  ⟨pe_callB (hK ▸ call_isX hz hf) hg hm (by decide +kernel) (pa_cons he (pa_cons hb pa_nil hs2) hs) (by decide) (by decide) hs hpl, sn_isX cu ok⟩
end
end DL

/-! DL, part q: raise C(..), C an error with an own __init__ that stores its arguments. -/
namespace DL
open PySem L2 Evl
/-- such an __init__'s promise: the attributes ns, by the arguments -/
def spXi (C : Addr) (ns : List Str) : Sp := fun vs H Q _ => ∃ (a : Addr) (ws : List V), vs = .ref a :: ws ∧ ws.length = ns.length ∧ H a = some (exo a C none) ∧
  ∀ (d : Addr) (fs : List (Str × V)) (H2 : Hp), H d = none → H2 a = some (exo a C (some d)) → H2 d = some (exd d fs) → (∀ b, b ≠ a → b ≠ d → H2 b = H b) → (∀ (i : Nat) (f : Str) (v : V), ns[i]? = some f → ws[i]? = some v → fs.lookup f = some v) → Q .non H2
/-- self.f = (a parameter), one after the other -/
def tOsts (K : PySem.W.Frag) : List (Nat × Str) → TS
  | [] => tNext
  | [q] => tOst K q.2 (tVar 0) (tVar q.1)
  | q :: r => tSeq (tOst K q.2 (tVar 0) (tVar q.1)) (tOsts K r)
section
variable {K : PySem.W.Frag} {C : Addr}
theorem tOsts_cons {D : Ends} {σ : L2.St} {H : Hp} {q : Nat × Str} {r : List (Nat × Str)} (h : tSeq (tOst K q.2 (tVar 0) (tVar q.1)) (tOsts K r) D σ H) : tOsts K (q :: r) D σ H := by
  cases r with
  | nil => exact h
  | cons _ _ => exact h
theorem osts_run (T : OexC K C) {σ : L2.St} {a dx : Addr} (ha : σ[0]? = some (some (.ref a))) {D : Ends} : ∀ (l : List (Nat × Str)) (H : Hp) (fs : List (Str × V)), (∀ q ∈ l, PySem.W.findIn K (.ref C) q.2 = some none) → (∀ q ∈ l, ∃ v, σ[q.1]? = some (some v)) →
    H a = some (exo a C (some dx)) → H dx = some (exd dx fs) → a ≠ dx → fs.length + l.length ≤ 900 → (l.map (·.2)).Nodup → (∀ q ∈ l, fs.lookup q.2 = none) →
    (∀ (H2 : Hp) (fs2 : List (Str × V)), H2 a = some (exo a C (some dx)) → H2 dx = some (exd dx fs2) → (∀ b, b ≠ dx → H2 b = H b) → (∀ g v, fs.lookup g = some v → fs2.lookup g = some v) → (∀ q ∈ l, ∀ v, σ[q.1]? = some (some v) → fs2.lookup q.2 = some v) → D.nx σ H2) →
    tOsts K l D σ H
  | [], H, fs, _, _, h1, h2, _, _, _, _, k => k H fs h1 h2 (fun _ _ => rfl) (fun _ _ h => h) fun q hq => nomatch hq
  | q :: r, H, fs, hn, hv, h1, h2, ne, hl, nd, hf, k => by
    refine tOsts_cons ?_
    obtain ⟨v, hv1⟩ := hv q List.mem_cons_self
    rw [List.map_cons, List.nodup_cons] at nd
    refine ⟨v, hv1, .ref a, ha, a, C, rfl, T, hn q List.mem_cons_self, .inr ⟨dx, fs, h1, h2, by simp at hl; omega, ?_⟩⟩
    refine osts_run T ha r _ ((q.2, v) :: fs) (fun x hx => hn x (List.mem_cons_of_mem _ hx)) (fun x hx => hv x (List.mem_cons_of_mem _ hx)) (by rw [upd_ne ne]; exact h1) upd_same ne (by simp at hl ⊢; omega) nd.2 (fun x hx => ?_) fun H2 fs2 g1 g2 g3 g4 g5 => ?_
    · rw [lookup_put]
      rw [if_neg fun z => nd.1 (by rw [← z]; exact List.mem_map.mpr ⟨x, hx, rfl⟩)]
      exact hf x (List.mem_cons_of_mem _ hx)
    · refine k H2 fs2 g1 g2 (fun b hb => by rw [g3 b hb, upd_ne hb]) (fun g w hw => g4 g w ?_) fun x hx w hw => ?_
      · rw [lookup_put]
        rw [if_neg fun z => by rw [z, hf q List.mem_cons_self] at hw; cases hw]
        exact hw
      · rcases List.mem_cons.mp hx with rfl | hx
        · rw [hv1] at hw; cases hw
          exact g4 _ _ (by rw [lookup_put, if_pos rfl])
        · exact g5 x hx w hw
/-- .. from the start -/
theorem osts_new (T : OexC K C) {σ : L2.St} {a : Addr} (ha : σ[0]? = some (some (.ref a))) {D : Ends} (q : Nat × Str) (r : List (Nat × Str)) (H : Hp) (hn : ∀ x ∈ q :: r, PySem.W.findIn K (.ref C) x.2 = some none) (hv : ∀ x ∈ q :: r, ∃ v, σ[x.1]? = some (some v))
    (h1 : H a = some (exo a C none)) (hl : r.length ≤ 800) (nd : ((q :: r).map (·.2)).Nodup)
    (k : ∀ (d : Addr) (H2 : Hp) (fs2 : List (Str × V)), H d = none → H2 a = some (exo a C (some d)) → H2 d = some (exd d fs2) → (∀ b, b ≠ a → b ≠ d → H2 b = H b) → (∀ x ∈ q :: r, ∀ v, σ[x.1]? = some (some v) → fs2.lookup x.2 = some v) → D.nx σ H2) :
    tOsts K (q :: r) D σ H := by
  refine tOsts_cons ?_
  obtain ⟨v, hv1⟩ := hv q List.mem_cons_self
  rw [List.map_cons, List.nodup_cons] at nd
  refine ⟨v, hv1, .ref a, ha, a, C, rfl, T, hn q List.mem_cons_self, .inl ⟨h1, fun dx hdx ne => ?_⟩⟩
  refine osts_run T ha r _ [(q.2, v)] (fun x hx => hn x (List.mem_cons_of_mem _ hx)) (fun x hx => hv x (List.mem_cons_of_mem _ hx)) upd_same (by rw [upd_ne ne]; exact upd_same) ne.symm (by simp; omega) nd.2 (fun x hx => ?_) fun H2 fs2 g1 g2 g3 g4 g5 => ?_
  · rw [lookup_put, if_neg fun z => nd.1 (by rw [← z]; exact List.mem_map.mpr ⟨x, hx, rfl⟩)]
    rfl
  · refine k dx H2 fs2 hdx g1 g2 (fun b hb hb2 => by rw [g3 b hb2, upd_ne hb, upd_ne hb2]) fun x hx w hw => ?_
    rcases List.mem_cons.mp hx with rfl | hx
    · rw [hv1] at hw; cases hw
      exact g4 _ _ (by rw [lookup_put, if_pos rfl])
    · exact g5 x hx w hw
end
/-- the slots and attributes of such an __init__: self in slot 0, then the arguments -/
def slotsX (ns : List Str) : List (Nat × Str) := (List.range ns.length).zip ns |>.map fun q => (q.1 + 1, q.2)
theorem slotsX_len (ns : List Str) : (slotsX ns).length = ns.length := by simp [slotsX]
theorem slotsX_mem {ns : List Str} {q : Nat × Str} (h : q ∈ slotsX ns) : ∃ i, i < ns.length ∧ q.1 = i + 1 ∧ ns[i]? = some q.2 := by
  obtain ⟨⟨i, f⟩, h1, rfl⟩ := List.mem_map.mp h
  obtain ⟨j, h2⟩ := List.getElem?_of_mem h1
  rw [List.getElem?_zip_eq_some] at h2
  have hj : j < ns.length := get_lt h2.2
  rw [List.getElem?_range hj] at h2
  have e : j = i := Option.some.inj h2.1
  subst e
  exact ⟨j, hj, rfl, h2.2⟩
theorem slotsX_get {ns : List Str} {i : Nat} {f : Str} (h : ns[i]? = some f) : (i + 1, f) ∈ slotsX ns := by
  refine List.mem_map.mpr ⟨(i, f), ?_, rfl⟩
  have hi := get_lt h
  refine List.mem_of_getElem? (i := i) ?_
  rw [List.getElem?_zip_eq_some]
  exact ⟨List.getElem?_range hi, h⟩
theorem slotsX_nd {ns : List Str} (h : ns.Nodup) : ((slotsX ns).map (·.2)).Nodup := by
  have e : (slotsX ns).map (·.2) = ns := by
    unfold slotsX
    rw [List.map_map]
    have : ((fun x : Nat × Str => x.2) ∘ fun q : Nat × Str => (q.1 + 1, q.2)) = Prod.snd := rfl
    rw [this, List.map_snd_zip]
    simp
  rw [e]; exact h
section
variable {P : Program} {w : World} {K : PySem.W.Frag} {mg : Str → Option Value} {base : Heap}
/-- THE RULE of such an __init__ -/
theorem fn_xinit {x qual : Str} {st : Stmt} {f C : Addr} {fd : FuncData} {ps ns : List Str} (F : Fun K x qual st f fd) (S : FnScope ps ps (defScope st)) (T : OexC K C) (hp : ps.length = ns.length + 1) (h0 : 0 < ns.length) (h9 : ns.length ≤ 800) (nd : ns.Nodup) (hn : ∀ g ∈ ns, PySem.W.findIn K (.ref C) g = some none)
    (hb : ∀ (cdv : Value) (A : Around) (outer : List Env) (s : Shared) (H : Hp) (E : XK), PSs (cxOf CX0 P w K mg base ps qual (defScope st) f cdv A outer s H E).nox (defBody st) (tOsts K (slotsX ns))) : FnOk P w K mg base CX0 1 f fd ps (spXi C ns) := by
  refine F.ok S (fun vs H Q E h => ?_) (fun cdv A outer s H vs Q E hr h => ?_)
  · obtain ⟨a, ws, rfl, hl, _⟩ := h
    simp [hl, hp]
  · obtain ⟨a, ws, rfl, hl, h1, k⟩ := h
    refine ⟨_, hb cdv A outer s H E, ?_⟩
    have hs : ∀ (i : Nat) (v : V), ws[i]? = some v → (start ps (.ref a :: ws))[i + 1]? = some (some v) := fun i v h => start_get (by simpa using h)
    have hs' : ∀ (i : Nat) (v : V), (start ps (.ref a :: ws))[i + 1]? = some (some v) → ws[i]? = some v := fun i v h => by simpa using start_get' h
    have hw : ∀ i, i < ns.length → ∃ v, ws[i]? = some v := fun i hi => ⟨_, List.getElem?_eq_getElem (by omega)⟩
    cases hq : slotsX ns with
    | nil =>
      have : (slotsX ns).length = 0 := by rw [hq]; rfl
      rw [slotsX_len] at this
      omega
    | cons q r =>
      have hr : r.length ≤ 800 := by
        have : (slotsX ns).length = r.length + 1 := by rw [hq]; rfl
        rw [slotsX_len] at this
        omega
      refine osts_new T (start_get rfl) q r H (fun x hx => ?_) (fun x hx => ?_) h1 hr (by rw [← hq]; exact slotsX_nd nd) fun d H2 fs g1 g2 g3 g4 g5 => ?_
      · rw [← hq] at hx
        obtain ⟨i, hi, _, h2⟩ := slotsX_mem hx
        exact hn _ (List.mem_of_getElem? h2)
      · rw [← hq] at hx
        obtain ⟨i, hi, e, _⟩ := slotsX_mem hx
        obtain ⟨v, hv⟩ := hw i hi
        exact ⟨v, by rw [e]; exact hs i v hv⟩
      · refine k d fs H2 g1 g2 g3 g4 fun i f v hf hv => ?_
        exact g5 (i + 1, f) (by rw [← hq]; exact slotsX_get hf) v (hs i v hv)
end
/-- raise C(..) -/
def fRaise (k n : Nat) (fa : FA) : FS := fun e => (fa e).bind fun r => (Res.of (escs r.1 r.2)).bind fun q => if q.1.length = n then .exc ⟨k, q.1⟩ q.2 else .stuck
section
variable {X : Cx} {c : Ct} {W : WX} {k j : Nat} {f : Addr} {fd : FuncData} {ps : List Str} {x : Str} {p pos rpos : Pos} {a : Expr} {es : List Expr} {tr : TA} {fr : FA}
theorem sn_raise {C : Addr} {n : Nat} (hC : C = c.cl k) (hn : (c.fn k).length = n) (h9 : n ≤ 800) (h0 : 0 < n) (ha : SndA c W tr fr) : SndS c W (fun _ σ H => tMkO C (spXi C (c.fn k)) [] tr σ H fun cls d H' => W cls d σ H') (fRaise k n fr) := fun z σ H F e D I h => by
  unfold fRaise at h
  rw [Wp.bind] at h
  refine ha z σ H F e _ I (h.mono (fun r _ h vs H1 F1 x1 I1 t1 => ?_) fun _ _ h => h σ)
  rw [Wp.bind] at h
  obtain ⟨⟨ds, e1⟩, l1, h⟩ := Wp.of h
  obtain ⟨G, x2, J, rr⟩ := t1.escs I1 l1
  dsimp only at h
  split at h
  · rename_i hl
    have hlen : vs.length = n := by rw [← rr.len]; exact hl
    refine ⟨by omega, fun a ha => ⟨a, vs, by rw [List.append_nil], by rw [hlen, hn], upd_same, fun d fs H2 g1 g2 g3 g4 g5 => ?_⟩⟩
    have nda : d ≠ a := fun z => by rw [z, upd_same] at g1; cases g1
    have hd : H1 d = none := by rw [upd_ne nda] at g1; exact g1
    refine ⟨rfl, d, fs, g2, g3, hd, ?_⟩
    have e2 : upd (del H2 a) d (.xd fs) = upd H1 d (.xd fs) := by
      funext b
      by_cases hb : b = d
      · subst hb; rw [upd_same, upd_same]
      · rw [upd_ne hb, upd_ne hb]
        by_cases hba : b = a
        · subst hba; rw [del_same, ha]
        · rw [del_ne hba, g4 b hba hb, upd_ne hba]
    rw [e2]
    have xn := Ex.new (o := HO.xd fs) (fresh_back J.fh hd)
    refine h σ (.ref C) (some d) _ _ ((x1.trans x2).trans xn) (J.allocT hd) ⟨by rw [hC], .inr ⟨fun z => by rw [show ds = [] from z] at hl; simp at hl; omega, d, fs, vs, rfl, upd_same, rr.mono xn _ _, g5⟩⟩
  · exact h.elim
theorem ds_raise {n : Nat} (hc : X.calm = true) (tk : Takes X W) (hK : X.K = c.K) (T : OexC c.K (c.cl k)) (iC : PySem.W.findIn c.K (.ref (c.cl k)) "__init__" = some (some (.ref f))) (tI : PySem.W.typeIn c.K (.ref f) = some (.type "function"))
    (F : FnOk X.prog X.w X.K X.mg X.base CX0 j f fd ps (spXi (c.cl k) (c.fn k))) (hr : Room (j + 1) X.A) (hb : Binds X.K fd ps []) (hg : Gl X x) (hm : X.mg x = some (.ref (c.cl k))) (hn : (c.fn k).length = n) (h9 : n ≤ 800) (ha : DA X c W (a :: es) tr fr)
    (hdb : (x == ("__debug__" : Str)) = false := by decide) (he : starEach (a :: es) X.env = (false, eval a X.env) :: starEach es X.env := by rfl) (hpl : (backTo pos (starEach es X.env)).any (·.1) = false := by rfl) (h0 : 0 < n := by decide) :
    DS X c W (.Raise (some (.Call (.Name x p) (a :: es) [] pos)) none rpos) (fun _ σ H => tMkO (c.cl k) (spXi (c.cl k) (c.fn k)) [] tr σ H fun cls d H' => W cls d σ H') (fRaise k n fr) :=
  ⟨ps_raise hc tk (pmk_oex (hK ▸ T) (hK ▸ iC) (hK ▸ tI) F hr hb .nil pass0 hg hm ha.pa hdb he hpl), sn_raise rfl hn h9 h0 ha.sn⟩
/-- raise C(), C without own __init__ -/
theorem pmk_own0 {C : Addr} {bmB : List Value} {B newId initId : String} {x : Str} {p : Pos} (F : ExcBaseFacts B newId initId bmB) (q : PySem.W.excIn X.K C bmB newId = true) (gC : X.mg x = some (.ref C))
    (kC : PySem.W.keepIn X.K (.ref C) = true) (r : Raises X (.ref C)) (hg : Gl X x) (hdb : (x == ("__debug__" : Str)) = false := by decide) : PMk X (.Call (.Name x p) [] [] pos) (fun _ H Q => Q (.ref C) none H) := by
  intro pins s σ H Q I h
  refine wpAny_Call_Name_kw (ld_glob I hg gC ?_ hdb)
  refine PySem.W.callWith_K0 I.kIn kC ?_
  show wpAny _ _ (call (.ref C) []) _ _ _
  obtain ⟨bm, N, nm, qn, bs, hdct, sn, sub, ab, col, dd, k0, k1, k2, k3, k5, mN, hC, hN, hni, T⟩ := exc_obj I.kIn q
  refine wpAny_call_exc_subT F T hC hN hni (fun h' e hm => ?_) (Nat.zero_le _)
  exact mk_of I hm r h (I.hok.gone hm.new)
def fRaise0 (k : Nat) : FS := fun e => .exc ⟨k, []⟩ e
theorem sn_raise0 : SndS c W (fun _ σ H => W (.ref (c.cl k)) none σ H) (fRaise0 k) := fun z σ H F e D I h => by
  have h' : XpS c z W F ⟨k, []⟩ e := h
  exact h' σ (.ref (c.cl k)) none H F (Ex.refl F) I ⟨rfl, .inl ⟨rfl, rfl⟩⟩
theorem ds_raise0 {bmB : List Value} {B newId initId : String} (hc : X.calm = true) (tk : Takes X W) (hK : X.K = c.K) (F : ExcBaseFacts B newId initId bmB) (q : PySem.W.excIn c.K (c.cl k) bmB newId = true) (hm : X.mg x = some (.ref (c.cl k)))
    (kC : PySem.W.keepIn c.K (.ref (c.cl k)) = true) (r1 : PySem.W.subIn c.K (.ref (c.cl k)) (.type "BaseException") = some true) (r2 : PySem.W.typeIn c.K (.ref (c.cl k)) = some (.type "type")) (hg : Gl X x) (hdb : (x == ("__debug__" : Str)) = false := by decide) :
    DS X c W (.Raise (some (.Call (.Name x p) [] [] pos)) none rpos) (fun _ σ H => W (.ref (c.cl k)) none σ H) (fRaise0 k) :=
  ⟨ps_raise hc tk (pmk_own0 F (hK ▸ q) hm (hK ▸ kC) (raises_own (hK ▸ r1) (hK ▸ r2)) hg hdb), sn_raise0⟩
end
/-- an error class without own __init__ -/
structure XcC (K : PySem.W.Frag) (C : Addr) : Prop where
  q : PySem.W.excIn K C [.type "ValueError", .type "Exception", .type "BaseException", .type "object"] "ValueError.__new__" = true
  kC : PySem.W.keepIn K (.ref C) = true
  r1 : PySem.W.subIn K (.ref C) (.type "BaseException") = some true
  r2 : PySem.W.typeIn K (.ref C) = some (.type "type")
/-- .. with one -/
structure XiC (K : PySem.W.Frag) (C fI : Addr) : Prop where
  T : OexC K C
  iC : PySem.W.findIn K (.ref C) "__init__" = some (some (.ref fI))
  tI : PySem.W.typeIn K (.ref fI) = some (.type "function")
def AllY (c : Ct) (cv : Value) : List (Nat × Bool) → Prop
  | [] => True
  | q :: r => PySem.W.exmOne c.K (.ref (c.cl q.1)) cv = some q.2 ∧ AllY c cv r
theorem try_mk {c : Ct} {cv : Value} : ∀ {l : List (Nat × Bool)}, AllY c cv l → TryOk c cv (lkI l)
  | [], _, k, b, e => by cases e
  | q :: l, h, k, b, e => by
    unfold lkI at e
    rw [List.lookup_cons] at e
    cases hq : k == q.1 with
    | true => rw [hq] at e; cases e; rw [beq_iff_eq.mp hq]; exact h.1
    | false => rw [hq] at e; exact try_mk h.2 k b e
def AllN (K : PySem.W.Frag) (C : Addr) : List Str → Prop
  | [] => True
  | g :: r => NoAttr K C g ∧ AllN K C r
theorem xnone {K : PySem.W.Frag} {C : Addr} : ∀ {ns : List Str}, AllN K C ns → ∀ g ∈ ns, PySem.W.findIn K (.ref C) g = some none
  | [], _, g, h => by cases h
  | n :: ns, h, g, e => by
    rcases List.mem_cons.mp e with rfl | e
    · exact h.1
    · exact xnone h.2 g e
end DL

/-! DL, part r: operators in place, attributes changed in place, ranges with a step, lists of ranges. -/
namespace DL
open PySem L2 Evl
section
variable {X : Cx}
theorem ip_of {op : Operator} {C : Int → Int → Prop} {g : Int → Int → Int} (hf : ∀ (s : Shared) (i j : Int) (t u : Tok) (Q : Value → Shared → Prop), C i j → Q (.int (g i j) s.toks) { s with toks := s.toks + 1 } → wpAny (model X.prog X.w) X.A (inplaceOp op (.int i t) (.int j u)) Q X.xe s) : PIp X op (rI C fun i j => .int (g i j)) := by
  intro pins s σ H x y v u Q I r1 r2 h
  obtain ⟨i, j, e1, e2, c, q⟩ := h
  subst e1; subst e2
  obtain ⟨t, rfl⟩ := r1
  obtain ⟨t', rfl⟩ := r2
  exact hf _ _ _ _ _ _ c ⟨.int _, H, I.tok _, ⟨_, rfl⟩, q⟩
theorem ip_of0 {op : Operator} {g : Int → Int → Int} (hf : ∀ (s : Shared) (i j : Int) (t u : Tok) (Q : Value → Shared → Prop), Q (.int (g i j) s.toks) { s with toks := s.toks + 1 } → wpAny (model X.prog X.w) X.A (inplaceOp op (.int i t) (.int j u)) Q X.xe s) : PIp X op (rI0 fun i j => .int (g i j)) := by
  intro pins s σ H x y v u Q I r1 r2 h
  obtain ⟨i, j, e1, e2, q⟩ := h
  subst e1; subst e2
  obtain ⟨t, rfl⟩ := r1
  obtain ⟨t', rfl⟩ := r2
  exact hf _ _ _ _ _ _ ⟨.int _, H, I.tok _, ⟨_, rfl⟩, q⟩
theorem ipd_and : PIp X .BitAnd (rI0 fun i j => .int (Builtin.bitAnd i j)) := ip_of0 fun _ _ _ _ _ _ q => PyProof.Rows.iand_int q
theorem ipd_or : PIp X .BitOr (rI0 fun i j => .int (Builtin.bitOr i j)) := ip_of0 fun _ _ _ _ _ _ q => PyProof.Rows.ior_int q
theorem ipd_xor : PIp X .BitXor (rI0 fun i j => .int (Builtin.bitXor i j)) := ip_of0 fun _ _ _ _ _ _ q => PyProof.Rows.ixor_int q
theorem ipd_sub : PIp X .Sub (rI0 fun i j => .int (i - j)) := ip_of0 fun _ _ _ _ _ _ q => PyProof.Rows.isub_int q
theorem ipd_mul : PIp X .Mult (rI CMulW fun i j => .int (i * j)) := ip_of fun _ _ _ _ _ _ c q => PyProof.Rows.imul_int q c.ok
theorem ipd_mod : PIp X .Mod (rI (fun _ j => j ≠ 0) fun i j => .int (i.fmod j)) := ip_of fun _ _ _ _ _ _ c q => PyProof.Rows.imod_int c q
theorem ipd_div : PIp X .FloorDiv (rI CDivD fun i j => .int (i.fdiv j)) := ip_of fun _ _ _ _ _ _ c q => PyProof.Rows.ifloordiv_int c.1 q (.inl (PyProof.noPylong_of_log2 c.2))
theorem ipd_shl : PIp X .LShift (rI CShl fun i j => .int (i * 2 ^ j.toNat)) := ip_of fun _ _ _ _ _ _ c q => PyProof.Rows.ilshift_int c.1 c.2 q
/-- += of ints, of texts -/
def opAddIS (a b : D) : Option RV := match a, b with
  | .int i, .int j => some (.fl (.int (i + j)))
  | .str i, .str j => if i.length + j.length ≤ lim then some (.fl (.str (i ++ j))) else none
  | _, _ => none
theorem ipd_addI : PIp X .Add (rI0 fun i j => .int (i + j)) := ip_of0 fun _ _ _ _ _ _ q => PyProof.Rows.iadd_int q
theorem ipd_addS : PIp X .Add rAddS' := by
  intro pins s σ H x y v u Q I r1 r2 h
  obtain ⟨i, j, e1, e2, hl, q⟩ := h
  subst e1; subst e2
  obtain ⟨t, rfl⟩ := r1
  obtain ⟨t', rfl⟩ := r2
  exact PyProof.Rows.iadd_str (fun t' tk => ⟨.str _, H, I.tok tk, ⟨_, rfl⟩, q⟩) hl
theorem ipd_add : PIp X .Add (ROr (rI0 fun i j => .int (i + j)) rAddS') := by
  intro pins s σ H x y v u Q I r1 r2 h
  rcases h with h | h
  · exact ipd_addI pins s σ H x y v u Q I r1 r2 h
  · exact ipd_addS pins s σ H x y v u Q I r1 r2 h
theorem ok_addIS {c : Ct} : R2Ok c (ROr (rI0 fun i j => .int (i + j)) rAddS') opAddIS := by
  intro F H d1 d2 v1 v2 rv Q x k1 k2 l q
  cases d1 <;> cases d2 <;> try cases l
  · rename_i i j
    exact .inl ⟨i, j, k1.int, k2.int, q _ rfl⟩
  · rename_i i j
    unfold opAddIS at l
    dsimp only at l
    split at l
    · rename_i h
      cases l
      exact .inr ⟨i, j, k1.str, k2.str, lim_ok h, q _ rfl⟩
    · cases l
end
/-! ### range(i, j, c) -/
def rg3n (i j c : Int) : Nat := (Builtin.Range.rangeSize i j c).toNat
def rg3ok (i j c : Int) : Bool := decide (c ≠ 0) && decide (c.natAbs < 1073741824) && Builtin.Range.small i j c && decide (Builtin.Range.rangeSize i j c = (rg3n i j c : Int))
theorem rg3_ok {i j c : Int} (h : rg3ok i j c = true) : RgC i j c (rg3n i j c) := by
  obtain ⟨h, h4⟩ := Bool.and_eq_true_iff.mp h
  obtain ⟨h, h3⟩ := Bool.and_eq_true_iff.mp h
  obtain ⟨h1, h2⟩ := Bool.and_eq_true_iff.mp h
  exact ⟨of_decide_eq_true h1, of_decide_eq_true h2, h3, of_decide_eq_true h4⟩
def irange3 (lo c : Int) (n : Nat) : List D := (List.range n).map fun (i : Nat) => D.int (lo + (i : Int) * c)
section
variable {X : Cx} {c : Ct} {W : WX} {F : Hp} {ta : TA} {fr : FA} {a b d e : Expr} {pos : Pos}
theorem itOk_range3 {z' : Zs} {lo st : Int} {n : Nat} : ItOk c z' (Itc lo st n) F (irange3 lo st n) := fun i σ H1 F1 e x I => by
  refine ⟨fun d hd => ?_, fun hl => ?_⟩
  · unfold irange3 at hd
    rw [List.getElem?_map] at hd
    obtain ⟨k, hk, rfl⟩ := omap hd
    have hlt : i < n := by
      have := get_lt hk
      rwa [List.length_range] at this
    rw [List.getElem?_range hlt] at hk
    cases hk
    exact ⟨hlt, fun y H2 hy => ⟨F1, Ex.refl F1, by rw [hy.1]; exact Ex.refl _, by rw [hy.1]; exact I, hy.2⟩⟩
  · unfold irange3 at hl
    rw [List.length_map, List.length_range] at hl
    exact hl
def fiR3 (fr : FA) : FI := fun e => (fr e).bind fun r => Res.of ((lookTs r.1 r.2).bind fun ds => match ds with
  | [.int i, .int j, .int st] => if rg3ok i j st then some (irange3 i st (rg3n i j st), r.2) else none
  | _ => none)
theorem Views.three {F H : Hp} {d e g : D} {vs : List V} (h : Views c F H [d, e, g] vs) : ∃ v w u, vs = [v, w, u] ∧ View c F H d v ∧ View c F H e w ∧ View c F H g u := by
  obtain ⟨v, r, rfl, h1, h2⟩ := h
  obtain ⟨w, u, rfl, h3, h4⟩ := Views.two h2
  exact ⟨v, w, u, rfl, h1, h3, h4⟩
theorem sn_iR3 (ha : SndA c W ta fr) : SndI c W (iRng3 ta) (fiR3 fr) := fun z σ H F e R I h => by
  unfold fiR3 at h
  rw [Wp.bind] at h
  refine ha z σ H F e _ I (h.mono (fun r _ h vs H1 F1 x1 I1 t1 => ?_) fun _ _ h => h)
  obtain ⟨o, ea, h⟩ := Wp.of h
  obtain ⟨ds, l1, ea⟩ := obind ea
  have k := t1.views I1 l1
  split at ea
  · rename_i i j st
    split at ea
    · rename_i hk
      cases ea
      obtain ⟨v, w, u, rfl, k1, k2, k3⟩ := k.three
      exact ⟨i, j, st, _, by rw [k1.int, k2.int, k3.int], rg3_ok hk, h _ H1 F1 x1 I1 fun z' => itOk_range3⟩
    · cases ea
  · cases ea
theorem di_range3 {tg : Expr} {p : Pos} (hg : Gl X "range") (hm : X.mg "range" = none) (ha : DA X c W [a, b, d] ta fr)
    (hs : starEach [a, b, d] X.env = (false, eval a X.env) :: starEach [b, d] X.env := by rfl) (hpl : (backTo pos (starEach [b, d] X.env)).any (·.1) = false := by rfl) :
    DI X c W tg (.Call (.Name "range" p) [a, b, d] [] pos) (iRng3 ta) (fiR3 fr) := ⟨pi_range3 hg hm ha.pa hs hpl, sn_iR3 ha.sn⟩
/-! ### list(range(..)) -/
def ok24 (i j : Int) : Bool := ok62 i && ok62 j && decide ((j - i).toNat ≤ 1000000)
theorem rgOk_of {i j : Int} (h : ok24 i j = true) : RgOk i j := by
  obtain ⟨h, h3⟩ := Bool.and_eq_true_iff.mp h
  obtain ⟨h1, h2⟩ := Bool.and_eq_true_iff.mp h
  obtain ⟨a1, a2⟩ := Bool.and_eq_true_iff.mp h1
  obtain ⟨b1, b2⟩ := Bool.and_eq_true_iff.mp h2
  have h3 := of_decide_eq_true h3
  exact ⟨of_decide_eq_true a1, of_decide_eq_true a2, of_decide_eq_true b1, of_decide_eq_true b2, by omega⟩
theorem RpL.rg (i j : Int) : RpL c F (irange i (j - i).toNat) (rgV i j) := by
  have h := RpL.of_ints (c := c) (F := F) ((List.range (j - i).toNat).map fun (k : Nat) => i + (k : Int))
  rw [List.map_map, List.map_map] at h
  exact h
def fLR1 (fa : FE) : FE := fun e => (fa e).bind fun r => Res.of ((lookT r.1 r.2).bind fun d => match d with
  | .int n => if ok24 0 n then some (.nw (.lst (irange 0 (n - 0).toNat)), r.2) else none
  | _ => none)
def fLR2 (fa fb : FE) : FE := fun e => (fa e).bind fun r => (fb r.2).bind fun q => Res.of ((lookT r.1.seal q.2).bind fun d1 => (lookT q.1 q.2).bind fun d2 => match d1, d2 with
  | .int i, .int j => if ok24 i j then some (.nw (.lst (irange i (j - i).toNat)), q.2) else none
  | _, _ => none)
variable {ta1 tb1 : TE} {fa fb : FE}
theorem lay_new {z : Zs} {σ : L2.St} {H : Hp} {e : DEnv} {Q : VK} {ds : List D} {vs : List V} (I : I2 c z σ H F e) (r : RpL c F ds vs) (h : ∀ v H' F', Ex F F' → I2 c z σ H' F' e → TR c z F' H' σ e (.nw (.lst ds)) v → Q v H') : ∀ p, H p = none → Q (.ref p) (upd H p (.lst vs)) := fun p hp =>
  h _ _ F (Ex.refl F) (I.alloc (Ex.new hp)) ⟨p, rfl, ⟨fresh_back I.fh hp, vs, upd_same, r⟩, I.fresh0 hp, I.noroot hp⟩
theorem sn_lr1 (ha : SndE c W ta1 fa) : SndE c W (tLstRg (tRg1 ta1)) (fLR1 fa) := fun z σ H F e Q I h => by
  unfold fLR1 at h
  rw [Wp.bind] at h
  refine ha z σ H F e _ I (h.mono (fun r _ h v H1 F1 x1 I1 t1 => ?_) fun _ _ h => h)
  obtain ⟨o, ea, h⟩ := Wp.of h
  obtain ⟨d, l1, ea⟩ := obind ea
  cases d <;> try cases ea
  rename_i n
  dsimp only at ea
  split at ea
  · rename_i hk
    cases ea
    exact ⟨n, (t1.view I1 l1).int, rgOk_of hk, lay_new I1 (RpL.rg 0 n) fun v' H' F' x' I' t' => h v' H' F' (x1.trans x') I' t'⟩
  · cases ea
theorem sn_lr2 (ha : SndE c W ta1 fa) (hb : SndE c W tb1 fb) : SndE c W (tLstRg (tRg2 ta1 tb1)) (fLR2 fa fb) := fun z σ H F e Q I h => by
  unfold fLR2 at h
  rw [Wp.bind] at h
  refine ha z σ H F e _ I (h.mono (fun r _ h v H1 F1 x1 I1 t1 => ?_) fun _ _ h => h)
  obtain ⟨F2, x2, J, t2⟩ := t1.seal I1
  rw [Wp.bind] at h
  refine hb z σ H1 F2 _ _ J (h.mono (fun q _ h w H3 F3 x3 I3 t3 => ?_) fun _ _ h => h.mono (x1.trans x2))
  obtain ⟨o, ea, h⟩ := Wp.of h
  obtain ⟨d1, l1, ea⟩ := obind ea
  obtain ⟨d2, l2, ea⟩ := obind ea
  cases d1 <;> cases d2 <;> try cases ea
  rename_i i _ j
  dsimp only at ea
  split at ea
  · rename_i hk
    cases ea
    exact ⟨i, j, ((t2.keep (H' := H3) x3).view I3 l1).int, (t3.view I3 l2).int, rgOk_of hk, lay_new I3 (RpL.rg i j) fun v' H' F' x' I' t' => h v' H' F' (((x1.trans x2).trans x3).trans x') I' t'⟩
  · cases ea
theorem de_lr1 {p p2 pos2 : Pos} (hc : X.calm = true) (hg : Gl X "list") (hm : X.mg "list" = none) (hg2 : Gl X "range") (hm2 : X.mg "range" = none) (ha : DE X c W a ta1 fa)
    (na : starEach [.Call (.Name "range" p2) [a] [] pos2] X.env = (false, eval (.Call (.Name "range" p2) [a] [] pos2) X.env) :: starEach [] X.env := by rfl) (nb : starEach [a] X.env = (false, eval a X.env) :: starEach [] X.env := by rfl) :
    DE X c W (.Call (.Name "list" p) [.Call (.Name "range" p2) [a] [] pos2] [] pos) (tLstRg (tRg1 ta1)) (fLR1 fa) := ⟨pe_listRg hc hg hm (prg_1 hg2 hm2 ha.pe nb) na, sn_lr1 ha.sn⟩
theorem de_lr2 {p p2 pos2 : Pos} (hc : X.calm = true) (hg : Gl X "list") (hm : X.mg "list" = none) (hg2 : Gl X "range") (hm2 : X.mg "range" = none) (ha : DE X c W a ta1 fa) (hb : DE X c W b tb1 fb)
    (na : starEach [.Call (.Name "range" p2) [a, b] [] pos2] X.env = (false, eval (.Call (.Name "range" p2) [a, b] [] pos2) X.env) :: starEach [] X.env := by rfl) (nb : starEach [a, b] X.env = (false, eval a X.env) :: starEach [b] X.env := by rfl)
    (nc : starEach [b] X.env = (false, eval b X.env) :: starEach [] X.env := by rfl) (hp : (backTo pos2 (starEach [b] X.env)).any (·.1) = false := by rfl) :
    DE X c W (.Call (.Name "list" p) [.Call (.Name "range" p2) [a, b] [] pos2] [] pos) (tLstRg (tRg2 ta1 tb1)) (fLR2 fa fb) := ⟨pe_listRg hc hg hm (prg_2 hg2 hm2 ha.pe hb.pe nb nc hp) na, sn_lr2 ha.sn hb.sn⟩
/-! .. with a step -/
open PySem.Spec PyProof.Rows
def PRg3 (X : Cx) (e : Expr) (t : L2.St → Hp → (Int → Int → Int → Hp → Prop) → Prop) : Prop :=
  ∀ (pins : List (Addr × Obj)) (s : Shared) (σ : L2.St) (H : Hp) (Q : Int → Int → Int → Hp → Prop), Inv X pins σ H s → t σ H Q →
    wpAny (model X.prog X.w) X.A (eval e X.env) (fun x s' => ∃ r a b c t u v H', x = .ref r ∧ IsRange s'.heap r a b c t u v ∧ Inv X pins σ H' s' ∧ Q a b c H') X.xe s
def tRg3 (ta : TA) : L2.St → Hp → (Int → Int → Int → Hp → Prop) → Prop := fun σ H Q => ta σ H fun vs H1 => ∃ i j c : Int, vs = [.int i, .int j, .int c] ∧ c ≠ 0 ∧ c.natAbs < 1073741824 ∧ Q i j c H1
theorem prg_3 {p : Pos} (hg : Gl X "range") (hm : X.mg "range" = none) (ha : PA X [a, b, d] ta) (hs : starEach [a, b, d] X.env = (false, eval a X.env) :: starEach [b, d] X.env := by rfl) (hpl : (backTo pos (starEach [b, d] X.env)).any (·.1) = false := by rfl) :
    PRg3 X (.Call (.Name "range" p) [a, b, d] [] pos) (tRg3 ta) := by
  intro pins s σ H Q I h
  refine Call_ (ld_blt I hg hm boot_range (PyProof.Rows.callWith_type1 (thn (ha.run pos pins s σ H _ I h) fun us s1 ⟨vs, H1, I1, r1, q1⟩ => ?_) hs hpl))
  obtain ⟨i, j, k, e, c0, c1, q⟩ := q1
  subst e
  cases r1 with
  | cons r rr =>
    cases rr with
    | cons r' rr =>
      cases rr with
      | cons r'' rr =>
        cases rr
        obtain ⟨t, rfl⟩ := r
        obtain ⟨t', rfl⟩ := r'
        obtain ⟨t'', rfl⟩ := r''
        refine call_range_3 c0 ?_ (.inl (PyProof.noPylong_small c1))
        exact ⟨_, i, j, k, _, _, _, H1, rfl, IsRange.new _ _ _ _ _ _ _, I1.kept fun b u e => Heap.get?_push_of_some _ e, q⟩
def rg3V (i c : Int) (n : Nat) : List V := (List.range n).map fun k => V.int (i + (k : Nat) * c)
theorem vals_rg3 {a c : Int} {n : Nat} {acc : Array Value} (h : ItemsOf (fun i v => ∃ t, v = .int (a + i * c) t) acc n) : Vals (rg3V a c n) acc.toList := by
  have e : acc.toList.length = n := by rw [Array.length_toList]; exact h.1
  unfold rg3V
  rw [← e]
  refine vals_of_get acc.toList _ fun j u hj => ?_
  obtain ⟨t, rfl⟩ := h.2 j u (by rw [← hj, Array.getElem?_toList])
  exact ⟨t, rfl⟩
def tLstRg3 (te : L2.St → Hp → (Int → Int → Int → Hp → Prop) → Prop) : TE := fun σ H Q => te σ H fun a b c H1 => RgC a b c (rg3n a b c) ∧ rg3n a b c ≤ 2 ^ 24 ∧ ∀ q, H1 q = none → Q (.ref q) (upd H1 q (.lst (rg3V a c (rg3n a b c))))
theorem pe_listRg3 {te : L2.St → Hp → (Int → Int → Int → Hp → Prop) → Prop} {p : Pos} (hc : X.calm = true) (hg : Gl X "list") (hm : X.mg "list" = none) (he : PRg3 X e te) (na : starEach [e] X.env = (false, eval e X.env) :: starEach [] X.env := by rfl) : PE X (.Call (.Name "list" p) [e] [] pos) (tLstRg3 te) := by
  refine ⟨fun pins s σ H Q I h => ?_⟩
  refine Call_ (ld_blt I hg hm boot_list (PyProof.Rows.callWith_type1 (args_cons (thn (he pins s σ H _ I h) fun x s1 ⟨r, a, b, st, t, u, v, H1, ex, hr, I1, ok, h24, q⟩ => args_nil ?_) na) na))
  subst ex
  obtain ⟨b1, b2, b3, b4⟩ := ok
  refine call_list_range (n := rg3n a b st) (I1.ok.hd hc) hr b3 b4 h24 fun h' tk acc c' hk e' hi => ?_
  refine ⟨.ref s1.heap.objs.size, upd H1 s1.heap.objs.size (.lst (rg3V a st (rg3n a b st))), I1.laid hk (Nat.le_refl _) (show ObjOk X.prog X.w _ _ _ (.lst (rg3V a st (rg3n a b st))) from ⟨?_, acc.toList, c', vals_rg3 hi, ?_⟩), rfl, q _ (I1.hok.fresh (Nat.le_refl _))⟩
  · unfold rg3V
    rw [List.length_map, List.length_range, sizeLine_eq]
    omega
  · rw [Array.toArray_toList]; exact e'
theorem RpL.rg3 (i st : Int) (n : Nat) : RpL c F (irange3 i st n) (rg3V i st n) := by
  have h := RpL.of_ints (c := c) (F := F) ((List.range n).map fun (k : Nat) => i + (k : Int) * st)
  rw [List.map_map, List.map_map] at h
  exact h
def fLR3 (fr : FA) : FE := fun e => (fr e).bind fun r => Res.of ((lookTs r.1 r.2).bind fun ds => match ds with
  | [.int i, .int j, .int st] => if rg3ok i j st && decide (rg3n i j st ≤ 1000000) then some (.nw (.lst (irange3 i st (rg3n i j st))), r.2) else none
  | _ => none)
theorem sn_lr3 (ha : SndA c W ta fr) : SndE c W (tLstRg3 (tRg3 ta)) (fLR3 fr) := fun z σ H F e Q I h => by
  unfold fLR3 at h
  rw [Wp.bind] at h
  refine ha z σ H F e _ I (h.mono (fun r _ h vs H1 F1 x1 I1 t1 => ?_) fun _ _ h => h)
  obtain ⟨o, ea, h⟩ := Wp.of h
  obtain ⟨ds, l1, ea⟩ := obind ea
  have k := t1.views I1 l1
  split at ea
  · rename_i i j st
    split at ea
    · rename_i hk
      cases ea
      obtain ⟨hk, h24⟩ := Bool.and_eq_true_iff.mp hk
      have h24 := of_decide_eq_true h24
      obtain ⟨v, w, u, rfl, k1, k2, k3⟩ := k.three
      have rc := rg3_ok hk
      exact ⟨i, j, st, by rw [k1.int, k2.int, k3.int], rc.1, rc.2.1, rc, by omega, lay_new I1 (RpL.rg3 i st _) fun v' H' F' x' I' t' => h v' H' F' (x1.trans x') I' t'⟩
    · cases ea
  · cases ea
theorem de_lr3 {p p2 pos2 : Pos} (hc : X.calm = true) (hg : Gl X "list") (hm : X.mg "list" = none) (hg2 : Gl X "range") (hm2 : X.mg "range" = none) (ha : DA X c W [a, b, d] ta fr)
    (na : starEach [.Call (.Name "range" p2) [a, b, d] [] pos2] X.env = (false, eval (.Call (.Name "range" p2) [a, b, d] [] pos2) X.env) :: starEach [] X.env := by rfl) (hs : starEach [a, b, d] X.env = (false, eval a X.env) :: starEach [b, d] X.env := by rfl) (hpl : (backTo pos2 (starEach [b, d] X.env)).any (·.1) = false := by rfl) :
    DE X c W (.Call (.Name "list" p) [.Call (.Name "range" p2) [a, b, d] [] pos2] [] pos) (tLstRg3 (tRg3 ta)) (fLR3 fr) := ⟨pe_listRg3 hc hg hm (prg_3 hg2 hm2 ha.pa hs hpl) na, sn_lr3 ha.sn⟩
end
end DL

/-! DL, part u: xs[::-1]. -/
namespace DL
open PySem L2 Evl
theorem fm_congr {α β : Type} {f g : α → Option β} : ∀ {l : List α}, (∀ a ∈ l, f a = g a) → l.filterMap f = l.filterMap g
  | [], _ => rfl
  | a :: l, h => by rw [List.filterMap_cons, List.filterMap_cons, h a List.mem_cons_self, fm_congr fun b hb => h b (List.mem_cons_of_mem _ hb)]
theorem slicePick_rev (its : List Value) : slicePick its.toArray none none (some (-1)) = its.reverse.toArray := by
  have e : sliceBounds none none (some (-1)) its.toArray.size = ((its.length : Int) - 1, -1, -1) := by simp [sliceBounds]
  unfold slicePick
  rw [e]
  dsimp only
  have e2 : sliceRange ((its.length : Int) - 1) (-1) (-1) = (List.range its.length).map fun (k : Nat) => its.length - 1 - k := by
    unfold sliceRange
    have hc : ¬ ((-1 : Int) > 0) := by decide
    simp only [hc, if_false]
    by_cases h : (its.length : Int) - 1 > -1
    · rw [if_pos h]
      have e3 : (((its.length : Int) - 1 - -1 - -1 - 1) / (- -1)).toNat = its.length := by
        have : (its.length : Int) - 1 - -1 - -1 - 1 = its.length := by omega
        rw [this, show (- -1 : Int) = 1 by decide, Int.ediv_one]
        omega
      rw [e3]
      refine List.map_congr_left fun k _ => ?_
      omega
    · have h0 : its.length = 0 := by omega
      simp [h0]
  rw [e2]
  have e4 : ((List.range its.length).map fun (k : Nat) => its.length - 1 - k).filterMap (its.toArray[·]?) = ((List.range its.length).map (0 + ·)).filterMap (its.reverse.toArray[·]?) := by
    rw [List.filterMap_map, List.filterMap_map]
    refine fm_congr fun k hk => ?_
    have hk' : k < its.length := List.mem_range.mp hk
    show its.toArray[its.length - 1 - k]? = its.reverse.toArray[0 + k]?
    rw [List.getElem?_toArray, List.getElem?_toArray, Nat.zero_add, List.getElem?_reverse hk']
  rw [e4, pick_run]
  simp
  exact List.take_of_length_le (by simp)
section
variable {X : Cx} {c : Ct} {W : WX} {a : Expr} {ta : TE} {fa : FE} {pos p2 p3 p4 : Pos}
def rRevL (K : PySem.W.Frag) : V → Hp → VK → Prop := fun x H Q => ∃ a xs, x = .ref a ∧ SqL K H a xs ∧ ∀ p, H p = none → Q (.ref p) (upd H p (.lst xs.reverse))
open PySem.Spec PyProof.Rows in
theorem pe_rev {j : Nat} (he : PE X a ta) : PE X (.Subscript a (.Slice none none (some (.UnaryOp .USub (.Constant (.int 1) j p4) p3)) p2) pos) (tUn (rRevL X.K) ta) := by
  refine ⟨fun pins s σ H Q I h => ?_⟩
  refine Subscript_ (thn (he.run pins s σ H _ I h) fun v s1 ⟨x, H1, I1, r1, b, xs, ex, hx, q⟩ => ?_)
  subst ex
  cases r1
  refine wpAny_Slice ?_
  rw [evalPart_none]
  refine wpAny_pure ?_
  refine wpAny_pure ?_
  rw [evalPart_some]
  have e1 : PE X (.UnaryOp .USub (.Constant (.int 1) j p4) p3) (tUn (rU fun i => .int (-i)) (tC (.int 1))) := pe_un un_neg pe_int
  refine thn (e1.run pins s1 σ H1 (fun y H2 => y = .int (-1) ∧ H2 = H1) I1 ⟨1, rfl, rfl, rfl⟩) fun u s2 ⟨y, H2, I2, r2, ey, eH⟩ => ?_
  subst ey; subst eH
  obtain ⟨t, rfl⟩ := r2
  have I3 : Inv X pins σ H2 { s2 with heap := s2.heap.push { cls := .type "slice", data := .fields #[.none, .none, .int (-1) t] } } := I2.kept (t' := s2.toks) fun b ob q => Heap.get?_push_of_some _ q
  obtain ⟨its, r, ht, hz⟩ := I3.list hx
  have hlen := r.length
  show wpAny (model X.prog X.w) X.A (subscriptTail a (.Slice none none (some (.UnaryOp .USub (.Constant (.int 1) j p4) p3)) p2) (.ref b) (.ref s2.heap.objs.size)) (EP X pins σ Q) X.xe { s2 with heap := s2.heap.push { cls := .type "slice", data := .fields #[.none, .none, .int (-1) t] } }
  refine tail_any (ops := [.ref b, .ref s2.heap.objs.size]) ht.isList.typeIs slot_list_getitem.lookup ?_ (by with_unfolding_all rfl)
  refine wpAny_getItem_list_slice (st := some (-1)) ht.isList (Heap.IsSliceOf.new ..) .none .none (.int _ _) (by simp) ?_ (by rw [List.size_toArray] <;> omega)
  rw [slicePick_rev]
  have hr : Vals xs.reverse its.reverse := by
    have : ∀ {xs : List V} {its : List Value}, Vals xs its → Vals xs.reverse its.reverse := by
      intro xs its h
      induction h with
      | nil => exact .nil
      | cons a b ih => rw [List.reverse_cons, List.reverse_cons]; exact ih.append (.cons a .nil)
    exact this r
  refine ⟨.ref _, _, I3.laid (t' := s2.toks) (o := .lst xs.reverse) (fun b ob q => Heap.get?_push_of_some _ q) (Nat.le_refl _) ?_, rfl, q _ (I3.hok.fresh (Nat.le_refl _))⟩
  exact ⟨by rw [List.length_reverse]; exact hz, _, 0, hr, Heap.get?_push_size _ rfl⟩
def opRev (a : D) : Option RV := match a with
  | .lst ds => some (.nl ds.reverse)
  | .rol ds => some (.nl ds.reverse)
  | _ => none
theorem ok_rev : R1Ok c (rRevL c.K) opRev := by
  intro F H d1 v1 rv Q x k1 l q
  cases d1 <;> try cases l
  · obtain ⟨p, vs, rfl, h1, r⟩ := k1.lst x
    exact ⟨p, vs, rfl, sq_of h1, fun p hp => q p _ r.rev hp⟩
  · obtain ⟨p, vs, rfl, h1, r⟩ := k1.rol x
    exact ⟨p, vs, rfl, h1, fun p hp => q p _ r.rev hp⟩
theorem de_rev {j : Nat} (hK : X.K = c.K) (ha : DE X c W a ta fa) : DE X c W (.Subscript a (.Slice none none (some (.UnaryOp .USub (.Constant (.int 1) j p4) p3)) p2) pos) (tUn (rRevL c.K) ta) (fOp1 opRev fa) := ⟨hK ▸ pe_rev ha.pe, sn_op1 ok_rev ha.sn⟩
end
end DL

/-! DL, part v: a, *b = a tuple. -/
namespace PySem.W
open PySem PySem.Spec PySem.Calls PyProof.Rows
section
variable {prog : Program} {w : World} {A : Around} {E : Value → Shared → Prop} {s : Shared} {env : Env} {elts : List Expr} {k : Nat} {pos : Pos}
theorem dl_starT {l : Addr} {items : Array Value} {n i : Nat} {Q : List Value → Shared → Prop} (hl : IsTup s.heap l items) (hh : A.handled = none) (hi : i < n) (hn : n ≤ items.size + 1) (hz : items.size ≤ 16384)
    (h : ∀ h2 tk, Heap.ExtBut s.heap.objs.size s.heap h2 → Q (items.toList.take i ++ [.ref h2.objs.size] ++ (items.toList.drop i).drop (items.size + 1 - n)) { s with heap := h2.push { cls := .type "list", data := .seq ((items.toList.drop i).take (items.size + 1 - n)).toArray }, toks := tk }) :
    wpAny (model prog w) A (unpackItems (.ref l) n (some i)) Q E s := by
  have hlt : l ≠ s.heap.objs.size := by obtain ⟨o, ho, _⟩ := hl; exact Nat.ne_of_lt (Heap.lt_size ho)
  unfold unpackItems
  refine wpAny_bind ?_
  unfold notIterableAtAll
  refine wpAny_bind (wpAny_specialOf hl.typeIs slot_tuple_iter.lookup (wpAny_pure ?_))
  simp only [Bool.false_eq_true, if_false]
  refine wpAny_bind (wpAny_holding (iter_tuple hl ?_))
  refine wpAny_bind (wpAny_holding (draw_tuple hlt i 0 _ _ ⟨_, Heap.get?_push_size _ rfl, rfl, rfl⟩ (hl.push _) (by omega) fun h₁ hit₁ hs₁ => ?_))
  have hl₁ : IsTup h₁ l items := (hl.push _).extBut hs₁.extBut hlt
  rw [Nat.zero_add] at hit₁
  obtain ⟨oi, hoi, _⟩ := id hit₁
  obtain ⟨ol, hol, _⟩ := id hl₁
  rw [List.drop_zero]
  have hfl : (items.toList.take i).length = i := by rw [List.length_take, Array.length_toList]; omega
  rw [if_neg (show ¬ ((items.toList.take i).length < i) by rw [hfl]; omega)]
  refine wpAny_bind (wpAny_holding (kun_collect (s := { s with heap := h₁ }) (T := "tuple_iterator") (.inr (.inr (.inr rfl))) (Walks.tuple (A := A.in1) hh s.heap.objs.size l hlt items) (fun j u st => st.1.typeIs)
    (k := i) (by omega) ⟨hit₁, hl₁⟩ (Heap.lt_size hoi) (Heap.lt_size hol) (fun h₂ tk hk => ?_) (by rw [sizeLine_eq]; omega)))
  have hrl : (items.toList.drop i).length = items.size - i := by rw [List.length_drop, Array.length_toList]
  have hmid : (items.toList.drop i).length - (n - 1 - i) = items.size + 1 - n := by rw [hrl]; omega
  show wpAny _ _ (if (items.toList.drop i).length < n - 1 - i then _ else _) _ _ _
  rw [if_neg (by rw [hrl]; omega)]
  show wpAny _ _ (newList ((items.toList.drop i).take ((items.toList.drop i).length - (n - 1 - i))) >>= fun d => pure (items.toList.take i ++ [d] ++ (items.toList.drop i).drop ((items.toList.drop i).length - (n - 1 - i)))) _ _ _
  rw [hmid]
  have he : Heap.ExtBut s.heap.objs.size s.heap h₂ := fun b o hb e => hk b o hb (hs₁.extBut b o hb (Heap.get?_push_of_some _ e))
  unfold newList
  exact wpAny_bind (wpAny_newObj_type (wpAny_pure (h h₂ tk he)) (by show ((items.toList.drop i).take (items.size + 1 - n)).toArray.size ≤ sizeLine; rw [List.size_toArray, List.length_take, hrl, sizeLine_eq]; omega))
end
end PySem.W
namespace DL
open PySem L2 Evl
section
variable {X : Cx} {c : Ct} {W : WX} {a : Expr} {ta : TE} {fa : FE} {pos tpos : Pos} {es : List Expr} {gs : TGs} {fs : List D → DEnv → Option DEnv} {n i k : Nat}
def gStar (K : PySem.W.Frag) (n i : Nat) (t : TGs) : TG := fun v σ H Q => ∃ a xs, v = .ref a ∧ SqT K H a xs ∧ n ≤ xs.length + 1 ∧ xs.length ≤ 16384 ∧
  ∀ q, H q = none → t (xs.take i ++ [.ref q] ++ (xs.drop i).drop (xs.length + 1 - n)) σ (upd H q (.lst ((xs.drop i).take (xs.length + 1 - n)))) Q
open PySem.Spec PyProof.Rows in
theorem pg_star (hc : X.calm = true) (h : PGs X es gs) (hi : i < n) (hn : (assignEach es X.env).length = n := by rfl) (hst : (assignEach es X.env).findIdx? (·.1) = some i := by rfl) : PG X (.Tuple es k pos) (gStar X.K n i gs) := by
  refine ⟨fun pins s σ H v u Q I r hw => ?_⟩
  obtain ⟨a, xs, e1, hq, hl, hz, hw⟩ := hw
  subst e1
  cases r
  obtain ⟨its, rv, ht, hz'⟩ := I.tuple hq
  have hlen : xs.length = its.length := rv.length
  rw [assign_Tuple]
  refine wpAny_bind (wpAny_standAt ?_)
  unfold unpack
  rw [hn, hst]
  refine wpAny_bind (wpAny_holding (PySem.W.dl_starT ht (I.ok.hd hc) hi (by rw [List.size_toArray]; omega) (by rw [List.size_toArray]; omega) fun h2 tk hx => ?_))
  have es' : its.toArray.size = xs.length := by rw [List.size_toArray, hlen]
  rw [es']
  have I1 : L2.Inv X pins σ H { s with heap := h2, toks := tk } := I.kept (t' := tk) fun b o e => hx b o (Nat.ne_of_lt (Heap.lt_size e)) e
  have I2 : L2.Inv X pins σ (upd H h2.objs.size (.lst ((xs.drop i).take (xs.length + 1 - n)))) { s with heap := h2.push { cls := .type "list", data := .seq ((its.drop i).take (xs.length + 1 - n)).toArray }, toks := tk } :=
    I1.laid (t' := tk) (fun b ob q => Heap.get?_push_of_some _ q) (Nat.le_refl _) (show ObjOk X.prog X.w _ _ _ (.lst _) from ⟨by rw [List.length_take, List.length_drop, sizeLine_eq]; omega, _, 0, (rv.drop i).take (xs.length + 1 - n), Heap.get?_push_size _ rfl⟩)
  exact h.run pins _ σ _ _ _ Q I2 (((rv.take i).append (show Vals [V.ref h2.objs.size] [Value.ref h2.objs.size] from .cons rfl .nil)).append ((rv.drop i).drop (xs.length + 1 - n))) (hw _ (I1.hok.fresh (Nat.le_refl _)))
def fStar (n i : Nat) (fs : List D → DEnv → Option DEnv) (f : FE) : FS := fun e => (f e).bind fun r => Res.of ((escape r.1 r.2).bind fun q => match q.1 with
  | .tup ds => if decide (n ≤ ds.length + 1) && decide (ds.length ≤ 16384) then (fs (ds.take i ++ [.lst ((ds.drop i).take (ds.length + 1 - n))] ++ (ds.drop i).drop (ds.length + 1 - n)) q.2).map .nx else none
  | _ => none)
theorem sn_star (ha : SndE c W ta fa) (hg : ∀ (z : Zs) σ H F e ds vs e' (Q : L2.St → Hp → Prop), I2 c z σ H F e → RpL c F ds vs → fs ds e = some e' → (∀ σ', I2 c z σ' H F e' → Q σ' H) → gs vs σ H Q) : SndS c W (tAsg ta (gStar c.K n i gs)) (fStar n i fs fa) := fun z σ H F e D I h => by
  unfold fStar at h
  rw [Wp.bind] at h
  refine ha z σ H F e _ I (h.mono (fun r _ h v H1 F1 x1 I1 t1 => ?_) fun _ _ h => h σ)
  obtain ⟨o, ea, h⟩ := Wp.of h
  obtain ⟨⟨d, e1⟩, l1, ea⟩ := obind ea
  obtain ⟨G, x2, J, rr⟩ := t1.escape I1 l1
  cases d <;> try cases ea
  rename_i ds
  dsimp only at ea
  split at ea
  · rename_i hk
    obtain ⟨hk1, hk2⟩ := Bool.and_eq_true_iff.mp hk
    have hk1 := of_decide_eq_true hk1
    have hk2 := of_decide_eq_true hk2
    obtain ⟨e2, l2, rfl⟩ := omap ea
    obtain ⟨p, vs, rfl, h1, h2⟩ := rr
    have hlen := h2.len
    refine ⟨p, vs, rfl, ex_t J.fh h1, by omega, by omega, fun q hq => ?_⟩
    have xn := Ex.new (o := HO.lst ((vs.drop i).take (vs.length + 1 - n))) (fresh_back J.fh hq)
    have J2 := J.allocT (o := HO.lst ((vs.drop i).take (vs.length + 1 - n))) hq
    refine hg z σ _ _ e1 _ _ e2 _ J2 ?_ l2 fun σ' K => h σ' _ _ ((x1.trans x2).trans xn) K
    have r2 := RpL.mono xn ds vs h2
    rw [hlen]
    have r3 : Rp c (upd G q (HO.lst ((vs.drop i).take (vs.length + 1 - n)))) (.lst ((ds.drop i).take (vs.length + 1 - n))) (.ref q) := ⟨q, _, rfl, upd_same, (r2.drop i).take _⟩
    exact ((r2.take i).app (RpL.one r3)).app ((r2.drop i).drop _)
  · cases ea
theorem ds_star (hK : X.K = c.K) (hc : X.calm = true) (ha : DE X c W a ta fa) (hp : PGs X es gs) (hg : ∀ (z : Zs) σ H F e ds vs e' (Q : L2.St → Hp → Prop), I2 c z σ H F e → RpL c F ds vs → fs ds e = some e' → (∀ σ', I2 c z σ' H F e' → Q σ' H) → gs vs σ H Q) (hi : i < n)
    (hn : (assignEach es X.env).length = n := by rfl) (hst : (assignEach es X.env).findIdx? (·.1) = some i := by rfl)
    (hs : swapsWithSole [.Tuple es k tpos] a pos.line X.env = pure false := by rfl) (hw : swappedStores [.Tuple es k tpos] a X.env = pure none := by rfl) (h1 : (assignEach [.Tuple es k tpos] X.env).map (·.2) = [assign (.Tuple es k tpos) X.env] := by rfl) :
    DS X c W (.Assign [.Tuple es k tpos] a pos) (tAsg ta (gStar c.K n i gs)) (fStar n i fs fa) := ⟨hK ▸ ps_asg ha.pe (pg_star hc hp hi hn hst) hs hw h1, sn_star ha.sn hg⟩
/-- a, *b = e -/
theorem ds_star2 {i1 i2 : Nat} {x y : Str} {p1 p2 p3 : Pos} (hK : X.K = c.K) (hc : X.calm = true) (ha : DE X c W a ta fa) (h1 : DG X c (.Name x p1) (gName i1) (fgName i1)) (h2 : DG X c (.Name y p3) (gName i2) (fgName i2))
    (hn : (assignEach [.Name x p1, .Starred (.Name y p3) p2] X.env).length = 2 := by rfl) (hst : (assignEach [.Name x p1, .Starred (.Name y p3) p2] X.env).findIdx? (·.1) = some 1 := by rfl)
    (hs : swapsWithSole [.Tuple [.Name x p1, .Starred (.Name y p3) p2] k tpos] a pos.line X.env = pure false := by rfl) (hw : swappedStores [.Tuple [.Name x p1, .Starred (.Name y p3) p2] k tpos] a X.env = pure none := by rfl)
    (h3 : (assignEach [.Tuple [.Name x p1, .Starred (.Name y p3) p2] k tpos] X.env).map (·.2) = [assign (.Tuple [.Name x p1, .Starred (.Name y p3) p2] k tpos) X.env] := by rfl)
    (hm : (assignEach [.Name x p1, .Starred (.Name y p3) p2] X.env).map (·.2) = (assignEach [.Name x p1, .Name y p3] X.env).map (·.2) := by rfl) :
    DS X c W (.Assign [.Tuple [.Name x p1, .Starred (.Name y p3) p2] k tpos] a pos) (tAsg ta (gStar c.K 2 1 (gCons (gName i1) (gCons (gName i2) gNil)))) (fStar 2 1 (fgCons (fgName i1) (fgCons (fgName i2) fgNil)) fa) :=
  ds_star hK hc ha ⟨fun pins s σ H vs us Q I r h => by rw [hm]; exact (dgs_cons h1 (dgs_cons h2 dgs_nil)).pg.run pins s σ H vs us Q I r h⟩ (dgs_cons h1 (dgs_cons h2 dgs_nil)).sn (by decide) hn hst hs hw h3
end
end DL

/-! DL, part aa: chains of comparisons, truth, is None, in (lists, tuples, texts), walks over anything. -/
namespace DL
open PySem L2 Evl
section
variable {X : Cx} {c : Ct} {z : Zs} {W : WX} {σ : L2.St} {H F : Hp} {e : DEnv} {a b d : Expr} {ta tb tc : TE} {fa fb fc : FE} {pos : Pos}
/-! ### a < b < c -/
def fChain (op op' : D → D → Option RV) (fa fb fc : FE) : FE := fun e => (fa e).bind fun r => (fb r.2).bind fun q => match (lookT r.1.seal q.2).bind fun d1 => (lookT q.1.seal q.2).bind fun d2 => op d1 d2 with
  | some (.fl (.bl true)) => (fc q.2).bind fun u => Res.of ((lookT q.1.seal u.2).bind fun d2 => (lookT u.1 u.2).bind fun d3 => (op' d2 d3).bind fun rv => some (rv.tok, u.2))
  | some (.fl (.bl false)) => .ok (.vl (.bl false), q.2)
  | _ => .stuck
theorem sn_chain {r r' : R2} {op op' : D → D → Option RV} (ho : R2Ok c r op) (ho' : R2Ok c r' op') (ha : SndE c W ta fa) (hb : SndE c W tb fb) (hc : SndE c W tc fc) : SndE c W (tChain r r' ta tb tc) (fChain op op' fa fb fc) := fun z σ H F e Q I h => by
  unfold fChain at h
  rw [Wp.bind] at h
  refine ha z σ H F e _ I (h.mono (fun r1 _ h v H1 F1 x1 I1 t1 => ?_) fun _ _ h => h)
  obtain ⟨F2, x2, I2, t2⟩ := t1.seal I1
  rw [Wp.bind] at h
  refine hb z σ H1 F2 _ _ I2 (h.mono (fun q _ h w H3 F3 x3 I3 t3 => ?_) fun _ _ h => h.mono (x1.trans x2))
  obtain ⟨F4, x4, I4, t4⟩ := t3.seal I3
  cases hop : (lookT r1.1.seal q.2).bind fun d1 => (lookT q.1.seal q.2).bind fun d2 => op d1 d2 with
  | none => rw [hop] at h; exact h.elim
  | some rv =>
    rw [hop] at h
    obtain ⟨d1, l1, hop⟩ := obind hop
    obtain ⟨d2, l2, hop⟩ := obind hop
    have t5 := t2.keep (H' := H3) (x3.trans x4) (e' := q.2)
    have t6 : TR c z F4 H3 σ q.2 q.1.seal w := t4
    have base : ∀ k, rv = .fl (.bl k) → (if k = true then tc σ H3 (fun w' H4 => r' w w' H4 Q) else Q (.bl false) H3) → r v w H3 fun z' H5 => ∃ k, z' = .bl k ∧ (if k = true then tc σ H5 (fun w' H4 => r' w w' H4 Q) else Q (.bl false) H5) := fun k hk g => by
      subst hk
      refine ho F4 H3 d1 d2 v w _ _ I4.fh (t5.view I4 l1) (t6.view I4 l2) hop fun v' hv' => ?_
      cases hv'
      exact ⟨k, rfl, g⟩
    cases rv with
    | nl _ => exact h.elim
    | nt _ => exact h.elim
    | fl d3 =>
      obtain ⟨k, rfl⟩ : ∃ k, d3 = .bl k := by cases d3 <;> first | exact h.elim | exact ⟨_, rfl⟩
      refine base k rfl ?_
      cases k with
      | false =>
        rw [if_neg Bool.false_ne_true]
        exact h _ H3 F4 (((x1.trans x2).trans x3).trans x4) I4 rfl
      | true =>
        rw [if_pos rfl]
        dsimp only at h
        rw [Wp.bind] at h
        refine hc z σ H3 F4 _ _ I4 (h.mono (fun u _ h w' H5 F5 x5 I5 t7 => ?_) fun _ _ h => h.mono (((x1.trans x2).trans x3).trans x4))
        obtain ⟨o, eo, h⟩ := Wp.of h
        obtain ⟨d2', l3, eo⟩ := obind eo
        obtain ⟨d3, l4, eo⟩ := obind eo
        obtain ⟨rv', l5, eo⟩ := obind eo
        cases eo
        have t8 : TR c z F5 H5 σ u.2 q.1.seal w := t6.keep (H' := H5) x5 (e' := u.2)
        refine ho' F5 H5 d2' d3 w w' rv' Q I5.fh (t8.view I5 l3) (t7.view I5 l4) l5 (RV.post_of I5 fun v' H' F' x' I' t' => ?_)
        exact h v' H' F' (((((x1.trans x2).trans x3).trans x4).trans x5).trans x') I' t'
theorem de_chain {o o' : CmpOp} {r r' : R2} {op op' : D → D → Option RV} (hp : OpR X (compareOp o) r) (ho : R2Ok c r op) (hp' : OpR X (compareOp o') r') (ho' : R2Ok c r' op') (ha : DE X c W a ta fa) (hb : DE X c W b tb fb) (hc : DE X c W d tc fc) (hm : lastMarks [o, o'] [b, d] = false := by rfl) :
    DE X c W (.Compare a [o, o'] [b, d] pos) (tChain r r' ta tb tc) (fChain op op' fa fb fc) := ⟨pe_chain hp hp' ha.pe hb.pe hc.pe hm, sn_chain ho ho' ha.sn hb.sn hc.sn⟩
theorem dt_chain {o o' : CmpOp} {r r' : R2} {op op' : D → D → Option RV} (hp : OpR X (compareOp o) r) (ho : R2Ok c r op) (hp' : OpR X (compareOp o') r') (ho' : R2Ok c r' op') (ha : DE X c W a ta fa) (hb : DE X c W b tb fb) (hc : DE X c W d tc fc) (hm : lastMarks [o, o'] [b, d] = false := by rfl) :
    DT X c W (.Compare a [o, o'] [b, d] pos) (tTest (tChain r r' ta tb tc)) (fB (fChain op op' fa fb fc)) := ⟨pt_chain hp hp' ha.pe hb.pe hc.pe hm, sn_B (fun _ _ _ h => h) (sn_chain ho ho' ha.sn hb.sn hc.sn)⟩
/-! ### truth -/
def truD : D → Option Bool
  | .non => some false
  | .bl b => some b
  | .int i => some (i != 0)
  | .str s => if s.length ≤ lim then some ((s.length : Int) != 0) else none
  | .lst ds => some (!ds.isEmpty)
  | .rol ds => some (!ds.isEmpty)
  | .tup ds => some (!ds.isEmpty)
  | .ins _ _ => none
  | .dct _ _ _ => none
  | .exv _ _ => none
theorem RpL.emp {ds : List D} {vs : List V} (h : RpL c F ds vs) : ds.isEmpty = vs.isEmpty := by
  cases ds with
  | nil => cases h; rfl
  | cons d ds => obtain ⟨v, r, rfl, _⟩ := h; rfl
theorem tru_of {d : D} {v : V} {k : Bool} (x : Ex F H) (y : View c F H d v) (h : truD d = some k) : TruV c.K v H k := by
  cases d with
  | non => cases h; rw [show v = .non from by rcases y with y | ⟨_, _, y⟩; exact y; exact y.2.elim]; rfl
  | bl b => cases h; rw [y.bl]; rfl
  | int i => cases h; rw [y.int]; rfl
  | str s =>
    unfold truD at h
    dsimp only at h
    split at h
    · rename_i hl
      cases h; rw [y.str]; exact ⟨lim_ok hl, rfl⟩
    · cases h
  | lst ds => cases h; obtain ⟨p, vs, rfl, h1, r⟩ := y.lst x; exact .inl ⟨vs, sq_of h1, by rw [r.emp]⟩
  | rol ds => cases h; obtain ⟨p, vs, rfl, h1, r⟩ := y.rol x; exact .inl ⟨vs, h1, by rw [r.emp]⟩
  | tup ds => cases h; obtain ⟨p, vs, rfl, h1, r⟩ := y.tup x; exact .inr (.inl ⟨vs, h1, by rw [r.emp]⟩)
  | ins k ds => cases h
  | dct t ks ds => cases h
  | exv k ds => cases h
def fTru (f : FE) : FT := fun e => (f e).bind fun r => match (lookT r.1 r.2).bind truD with
  | some b => .ok (b, r.2)
  | none => .stuck
theorem sn_tru (ha : SndE c W ta fa) : SndT c W (fun σ H Q => ta σ H fun x H' => ∃ k, TruV c.K x H' k ∧ Q k H') (fTru fa) := fun z σ H F e Q I h => by
  unfold fTru at h
  rw [Wp.bind] at h
  refine ha z σ H F e _ I (h.mono (fun r _ h v H1 F1 x1 I1 t1 => ?_) fun _ _ h => h)
  cases hl : (lookT r.1 r.2).bind truD with
  | none => rw [hl] at h; exact h.elim
  | some k =>
    rw [hl] at h
    obtain ⟨d, l1, l2⟩ := obind hl
    exact ⟨k, tru_of I1.fh (t1.view I1 l1) l2, h H1 F1 x1 I1⟩
theorem dt_tru (hK : X.K = c.K) (ha : DE X c W a ta fa) (he : ∀ whole, isTrue a X.env whole = (do let v ← whole; standAt a.pos; holding [v] (truthy v)) := by intro _; rfl) :
    DT X c W a (fun σ H Q => ta σ H fun x H' => ∃ k, TruV c.K x H' k ∧ Q k H') (fTru fa) := ⟨hK ▸ pt_truth ha.pe he, sn_tru ha.sn⟩
/-! ### is None -/
def isNon : D → Bool
  | .non => true
  | _ => false
def opIsN (a b : D) : Option RV := match b with
  | .non => some (.fl (.bl (isNon a)))
  | _ => none
def opNotN (a b : D) : Option RV := match b with
  | .non => some (.fl (.bl (!isNon a)))
  | _ => none
theorem isNon_of {d : D} {v : V} (x : Ex F H) (y : View c F H d v) : decide (v = .non) = isNon d := by
  have no : ∀ {p : Addr}, (V.ref p = .non) = False := by intro p; simp
  cases d with
  | non => rw [y.non]; rfl
  | bl b => rw [y.bl]; exact decide_eq_false (by simp)
  | int i => rw [y.int]; exact decide_eq_false (by simp)
  | str s => rw [y.str]; exact decide_eq_false (by simp)
  | lst ds => obtain ⟨p, vs, rfl, _⟩ := y.lst x; exact decide_eq_false (by simp)
  | rol ds => obtain ⟨p, vs, rfl, _⟩ := y.rol x; exact decide_eq_false (by simp)
  | tup ds => obtain ⟨p, vs, rfl, _⟩ := y.tup x; exact decide_eq_false (by simp)
  | ins k ds =>
    rcases y with ⟨p, dx, vs, rfl, _⟩ | ⟨p, rfl, _⟩ <;> exact decide_eq_false (by simp)
  | dct t ks ds =>
    rcases y with ⟨p, ws, vs, rfl, _⟩ | ⟨p, rfl, _⟩ <;> exact decide_eq_false (by simp)
  | exv k ds =>
    rcases y with ⟨p, dd, rfl, _⟩ | ⟨p, rfl, _⟩ <;> exact decide_eq_false (by simp)
theorem ok_isN : R2Ok c (fun x y H Q => y = .non ∧ Q (.bl (decide (x = .non))) H) opIsN := by
  intro F H d1 d2 v1 v2 rv Q x k1 k2 l q
  cases d2 <;> try cases l
  exact ⟨k2.non, by rw [isNon_of x k1]; exact q _ rfl⟩
theorem ok_notN : R2Ok c (fun x y H Q => y = .non ∧ Q (.bl (!decide (x = .non))) H) opNotN := by
  intro F H d1 d2 v1 v2 rv Q x k1 k2 l q
  cases d2 <;> try cases l
  exact ⟨k2.non, by rw [isNon_of x k1]; exact q _ rfl⟩
/-! ### in -/
def strIn (a b : Str) : Bool := !(Builtin.Str.occurrences b a 0 b.length 1).isEmpty
def opInA (a b : D) : Option RV := match a, b with
  | .str x, .str y => some (.fl (.bl (strIn x y)))
  | a, .lst ds => if dOk a && dOk (.lst ds) then some (.fl (.bl (ds.any fun y => deq y a))) else none
  | a, .rol ds => if dOk a && dOk (.rol ds) then some (.fl (.bl (ds.any fun y => deq y a))) else none
  | a, .tup ds => if dOk a && dOk (.tup ds) then some (.fl (.bl (ds.any fun y => deq y a))) else none
  | _, _ => none
def opNiA (a b : D) : Option RV := match opInA a b with
  | some (.fl (.bl k)) => some (.fl (.bl (!k)))
  | _ => none
def rInT (neg : Bool) (K : PySem.W.Frag) : R2 := fun x y H Q => ∃ u us, Dp K H x u ∧ Dp K H y (.tuple us) ∧ SeqAt.shaped u = true ∧ SeqAt.shaped (.tuple us) = true ∧ Q (.bl (if neg then !(us.any fun t => PyData.eqv t u) else us.any fun t => PyData.eqv t u)) H
theorem op_inT (hu : X.A.units + 65 < cLine) : OpR X (compareOp .In) (rInT false X.K) := by
  intro pins s σ H x y v u Q I rx ry ⟨d, ds, g1, g2, g3, g4, q⟩
  obtain ⟨l1, w1⟩ := Dp.reads I _ _ _ g1 rx
  obtain ⟨l2, w2⟩ := Dp.reads I _ _ _ g2 ry
  exact SeqAt.in_tuple_reads w2 w1 (SeqAt.canLay_of_shaped g4) (SeqAt.canLay_of_shaped g3) (PyProof.Rows.room_in_shaped g3 hu) ⟨.bl _, H, I, rfl, q⟩
theorem op_notInT (hu : X.A.units + 65 < cLine) : OpR X (compareOp .NotIn) (rInT true X.K) := by
  intro pins s σ H x y v u Q I rx ry ⟨d, ds, g1, g2, g3, g4, q⟩
  obtain ⟨l1, w1⟩ := Dp.reads I _ _ _ g1 rx
  obtain ⟨l2, w2⟩ := Dp.reads I _ _ _ g2 ry
  exact SeqAt.notIn_tuple_reads w2 w1 (SeqAt.canLay_of_shaped g4) (SeqAt.canLay_of_shaped g3) (PyProof.Rows.room_in_shaped g3 hu) ⟨.bl _, H, I, rfl, q⟩
abbrev rInSt : R2 := fun x y H Q => ∃ i j, x = .str i ∧ y = .str j ∧ Q (.bl (!(Builtin.Str.occurrences j i 0 j.length 1).isEmpty)) H
abbrev rNiSt : R2 := fun x y H Q => ∃ i j, x = .str i ∧ y = .str j ∧ Q (.bl (!(!(Builtin.Str.occurrences j i 0 j.length 1).isEmpty))) H
theorem op_inA (hu : X.A.units + 65 < cLine) : OpR X (compareOp .In) (ROr (rInD X.K) (ROr (rInT false X.K) rInSt)) := (op_inD hu).or ((op_inT hu).or op_in_str)
theorem op_niA (hu : X.A.units + 65 < cLine) : OpR X (compareOp .NotIn) (ROr (rNotInD X.K) (ROr (rInT true X.K) rNiSt)) := (op_notInD hu).or ((op_notInT hu).or op_notin_str)
theorem ok_inA : R2Ok c (ROr (rInD c.K) (ROr (rInT false c.K) rInSt)) opInA := by
  intro F H d1 d2 v1 v2 rv Q x k1 k2 l q
  unfold opInA at l
  split at l
  · cases l
    exact .inr (.inr ⟨_, _, k1.str, k2.str, q _ rfl⟩)
  · split at l
    · rename_i h
      obtain ⟨h1, h2⟩ := Bool.and_eq_true_iff.mp h
      cases l
      refine .inl ⟨_, _, k1.dp x (dOk.lay h1), k2.dp x (dOk.lay h2), h1, h2, ?_⟩
      rw [any_py]
      exact q _ rfl
    · cases l
  · split at l
    · rename_i h
      obtain ⟨h1, h2⟩ := Bool.and_eq_true_iff.mp h
      cases l
      refine .inl ⟨_, _, k1.dp x (dOk.lay h1), k2.dp x (dOk.lay h2), h1, h2, ?_⟩
      rw [any_py]
      exact q _ rfl
    · cases l
  · split at l
    · rename_i h
      obtain ⟨h1, h2⟩ := Bool.and_eq_true_iff.mp h
      cases l
      refine .inr (.inl ⟨_, _, k1.dp x (dOk.lay h1), k2.dp x (dOk.lay h2), h1, h2, ?_⟩)
      rw [any_py]
      exact q _ rfl
    · cases l
  · cases l
theorem ok_niA : R2Ok c (ROr (rNotInD c.K) (ROr (rInT true c.K) rNiSt)) opNiA := by
  intro F H d1 d2 v1 v2 rv Q x k1 k2 l q
  unfold opNiA opInA at l
  split at l <;> try cases l
  rename_i k hk
  split at hk
  · cases hk
    exact .inr (.inr ⟨_, _, k1.str, k2.str, q _ rfl⟩)
  · split at hk
    · rename_i h
      obtain ⟨h1, h2⟩ := Bool.and_eq_true_iff.mp h
      cases hk
      refine .inl ⟨_, _, k1.dp x (dOk.lay h1), k2.dp x (dOk.lay h2), h1, h2, ?_⟩
      rw [any_py]
      exact q _ rfl
    · cases hk
  · split at hk
    · rename_i h
      obtain ⟨h1, h2⟩ := Bool.and_eq_true_iff.mp h
      cases hk
      refine .inl ⟨_, _, k1.dp x (dOk.lay h1), k2.dp x (dOk.lay h2), h1, h2, ?_⟩
      rw [any_py]
      exact q _ rfl
    · cases hk
  · split at hk
    · rename_i h
      obtain ⟨h1, h2⟩ := Bool.and_eq_true_iff.mp h
      cases hk
      refine .inr (.inl ⟨_, _, k1.dp x (dOk.lay h1), k2.dp x (dOk.lay h2), h1, h2, ?_⟩)
      rw [any_py]
      exact q _ rfl
    · cases hk
  · cases hk
end
end DL

/-! DL, part ab: methods of texts, walks over anything, constants of modules, more built-ins. -/
namespace DL
open PySem L2 Evl
section
variable {X : Cx} {c : Ct} {z : Zs} {W : WX} {σ : L2.St} {H F : Hp} {e : DEnv} {a b d : Expr} {ta tb tc : TE} {fa fb fc : FE} {tr : TA} {fr : FA} {pos apos p : Pos}
/-! ### s.m(e) -/
def fM1 (op : Str → D → Option RV) (fo fe : FE) : FE := fun e => (fo e).bind fun r => match lookT r.1.seal r.2 with
  | some (.str a) => (fe r.2).bind fun q => Res.of ((lookT q.1 q.2).bind fun d => (op a d).bind fun rv => some (rv.tok, q.2))
  | _ => .stuck
def M1Ok (c : Ct) (r : V → List V → Hp → VK → Prop) (op : Str → D → Option RV) : Prop := ∀ F H a d v rv (Q : VK), Ex F H → View c F H d v → op a d = some rv → rv.Post c F H Q → r (.str a) [v] H Q
theorem sn_m1 {r : V → List V → Hp → VK → Prop} {op : Str → D → Option RV} (ho : M1Ok c r op) (ha : SndE c W ta fa) (hb : SndE c W tb fb) : SndE c W (tM1 r ta tb) (fM1 op fa fb) := fun z σ H F e Q I h => by
  unfold fM1 at h
  rw [Wp.bind] at h
  refine ha z σ H F e _ I (h.mono (fun r1 _ h v H1 F1 x1 I1 t1 => ?_) fun _ _ h => h)
  obtain ⟨F2, x2, I2, t2⟩ := t1.seal I1
  cases hl : lookT r1.1.seal r1.2 with
  | none => rw [hl] at h; exact h.elim
  | some d1 =>
    rw [hl] at h
    obtain ⟨s, rfl⟩ : ∃ s, d1 = .str s := by cases d1 <;> first | exact h.elim | exact ⟨_, rfl⟩
    have hv := (t2.view I2 hl).str
    subst hv
    refine ⟨⟨s, rfl⟩, ?_⟩
    dsimp only at h
    rw [Wp.bind] at h
    refine hb z σ H1 F2 _ _ I2 (h.mono (fun q _ h w H3 F3 x3 I3 t3 => ?_) fun _ _ h => h.mono (x1.trans x2))
    obtain ⟨o, eo, h⟩ := Wp.of h
    obtain ⟨d2, l2, eo⟩ := obind eo
    obtain ⟨rv, l3, eo⟩ := obind eo
    cases eo
    exact ho F3 H3 s d2 w rv Q I3.fh (t3.view I3 l2) l3 (RV.post_of I3 fun v' H' F' x' I' t' => h v' H' F' (((x1.trans x2).trans x3).trans x') I' t')
theorem de_m1 {id : String} {name : Str} {r : V → List V → Hp → VK → Prop} {op : Str → D → Option RV} (slot : Slot "str" name id) (ty : typeOf (.builtin id) = pure (.type "method_descriptor")) (rule : MtR X id r) (ho : M1Ok c r op) (ha : DE X c W a ta fa) (hb : DE X c W b tb fb)
    (hs : starEach [b] X.env = [(false, eval b X.env)] := by rfl) (hbase : attributeBase a name X.env (eval a X.env) = eval a X.env := by rfl) (hline : (apos.endLine == pos.line) = true := by rfl) :
    DE X c W (.Call (.Attribute a name apos) [b] [] pos) (tM1 r ta tb) (fM1 op fa fb) := ⟨pe_m1 slot ty rule ha.pe hb.pe hs hbase hline, sn_m1 ho ha.sn hb.sn⟩
theorem RpL.strs : ∀ {ys : List Str} {vs : List V}, RpL c F (ys.map D.str) vs → vs = ys.map V.str
  | [], _, h => h
  | y :: ys, vs, ⟨v, r, h1, h2, h3⟩ => by subst h1; rw [List.map_cons, RpL.strs h3, show v = V.str y from h2]
def opSplit (s : Str) (d : D) : Option RV := match d with
  | .str b => if (b.length == 0) = false ∧ s.length + 2 ≤ lim then some (.nl ((Txt.split s b).map .str)) else none
  | _ => none
abbrev rSplit : V → List V → Hp → VK → Prop := fun x xs H Q => ∃ a b, x = .str a ∧ xs = [.str b] ∧ (b.length == 0) = false ∧ a.length + 2 ≤ sizeLine ∧ rNewStrs (Txt.split a b) H Q
theorem ok_split : M1Ok c rSplit opSplit := by
  intro F H s d v rv Q x k l q
  cases d <;> try cases l
  unfold opSplit at l
  dsimp only at l
  split at l
  · rename_i h
    cases l
    refine ⟨_, _, rfl, by rw [k.str], h.1, lim_ok h.2, fun p hp => ?_⟩
    exact q p _ (by
      generalize Txt.split s _ = ys
      induction ys with
      | nil => exact rfl
      | cons y ys ih => exact ⟨_, _, rfl, rfl, ih⟩) hp
  · cases l
/-- texts among data -/
def strsOf : List D → Option (List Str)
  | [] => some []
  | .str s :: ds => (strsOf ds).map fun ys => s :: ys
  | _ :: _ => none
theorem strsOf_map : ∀ {ds : List D} {ys : List Str}, strsOf ds = some ys → ds = ys.map D.str
  | [], _, h => by cases h; rfl
  | d :: ds, ys, h => by
    cases d <;> try cases h
    obtain ⟨zs, h1, rfl⟩ := omap h
    rw [List.map_cons, ← strsOf_map h1]
def opJoin (s : Str) (d : D) : Option RV := match d with
  | .lst ds => (strsOf ds).bind fun ys => if (ys.map (·.length)).sum + ys.length * s.length ≤ lim then some (.fl (.str (Txt.join s ys))) else none
  | .rol ds => (strsOf ds).bind fun ys => if (ys.map (·.length)).sum + ys.length * s.length ≤ lim then some (.fl (.str (Txt.join s ys))) else none
  | .tup ds => (strsOf ds).bind fun ys => if (ys.map (·.length)).sum + ys.length * s.length ≤ lim then some (.fl (.str (Txt.join s ys))) else none
  | _ => none
abbrev rJoin (K : PySem.W.Frag) : V → List V → Hp → VK → Prop := fun x xs H Q => ∃ a p, ∃ ys : List Str, x = .str a ∧ xs = [.ref p] ∧ (SqL K H p (ys.map V.str) ∨ SqT K H p (ys.map V.str)) ∧ (ys.map (·.length)).sum + ys.length * a.length ≤ 16777216 ∧ Q (.str (Txt.join a ys)) H
theorem lim16 {n : Nat} (h : n ≤ lim) : n ≤ 16777216 := Nat.le_trans h (by decide)
theorem ok_join : M1Ok c (rJoin c.K) opJoin := by
  intro F H s d v rv Q x k l q
  cases d <;> try cases l
  all_goals
    obtain ⟨ys, h1, l⟩ := obind l
    split at l
    · rename_i h
      cases l
      have e := strsOf_map h1
      subst e
      first
        | (obtain ⟨p, vs, rfl, h2, r⟩ := k.lst x
           rw [r.strs] at h2
           exact ⟨_, p, ys, rfl, rfl, .inl (sq_of h2), lim16 h, q _ rfl⟩)
        | (obtain ⟨p, vs, rfl, h2, r⟩ := k.rol x
           rw [r.strs] at h2
           exact ⟨_, p, ys, rfl, rfl, .inl h2, lim16 h, q _ rfl⟩)
        | (obtain ⟨p, vs, rfl, h2, r⟩ := k.tup x
           rw [r.strs] at h2
           exact ⟨_, p, ys, rfl, rfl, .inr h2, lim16 h, q _ rfl⟩)
    · cases l
def opStripC (s : Str) (d : D) : Option RV := match d with
  | .str b => if s.length ≤ lim then some (.fl (.str (Txt.stripChars s b))) else none
  | _ => none
theorem ok_stripC : M1Ok c (fun x xs H Q => ∃ a b, x = .str a ∧ xs = [.str b] ∧ a.length ≤ sizeLine ∧ Q (.str (Txt.stripChars a b)) H) opStripC := by
  intro F H s d v rv Q x k l q
  cases d <;> try cases l
  unfold opStripC at l
  dsimp only at l
  split at l
  · rename_i h
    cases l
    exact ⟨_, _, rfl, by rw [k.str], lim_ok h, q _ rfl⟩
  · cases l
/-! ### str(n), int(s), sum -/
def opStrI (ds : List D) : Option RV := match ds with
  | [.int i] => if i.natAbs.log2 < 1920 then some (.fl (.str (toString i))) else none
  | _ => none
theorem ok_strI : RlOk c (fun xs H Q => ∃ i, xs = [.int i] ∧ i.natAbs.log2 < 1920 ∧ Q (.str (toString i)) H) opStrI := by
  intro F H ds vs rv Q x k l q
  unfold opStrI at l
  split at l <;> try cases l
  split at l
  · rename_i h
    cases l
    obtain ⟨v, rfl, y⟩ := k.one
    exact ⟨_, by rw [y.int], h, q _ rfl⟩
  · cases l
def opIntA (ds : List D) : Option RV := match ds with
  | [.str s] => if s.length ≤ 640 then (PySem.intText? s).map fun n => .fl (.int n) else none
  | ds => opInt ds
abbrev rIntA : List V → Hp → VK → Prop := fun xs H Q => rInt' xs H Q ∨ ∃ a n, xs = [.str a] ∧ PySem.intText? a = some n ∧ a.length ≤ 640 ∧ Q (.int n) H
theorem call_intA : CallR X (.type "int") rIntA := CallR.or call_int1 call_int_str
theorem ok_intA : RlOk c rIntA opIntA := by
  intro F H ds vs rv Q x k l q
  unfold opIntA at l
  split at l
  · split at l
    · rename_i h
      obtain ⟨n, h1, rfl⟩ := omap l
      obtain ⟨v, rfl, y⟩ := k.one
      exact .inr ⟨_, n, by rw [y.str], h1, h, q _ rfl⟩
    · cases l
  · exact .inl (ok_int F H _ vs rv Q x k l q)
def intsOf : List D → Option (List Int)
  | [] => some []
  | .int s :: ds => (intsOf ds).map fun ys => s :: ys
  | _ :: _ => none
theorem intsOf_map : ∀ {ds : List D} {ys : List Int}, intsOf ds = some ys → ds = ys.map D.int
  | [], _, h => by cases h; rfl
  | d :: ds, ys, h => by
    cases d <;> try cases h
    obtain ⟨zs, h1, rfl⟩ := omap h
    rw [List.map_cons, ← intsOf_map h1]
def opSum (ds : List D) : Option RV := match ds with
  | [.lst xs] => (intsOf xs).map fun ns => .fl (.int ns.sum)
  | [.rol xs] => (intsOf xs).map fun ns => .fl (.int ns.sum)
  | _ => none
theorem ok_sum : RlOk c (rSum c.K) opSum := by
  intro F H ds vs rv Q x k l q
  unfold opSum at l
  split at l <;> try cases l
  all_goals
    obtain ⟨ns, h1, rfl⟩ := omap l
    have e := intsOf_map h1
    subst e
    obtain ⟨v, rfl, y⟩ := k.one
    first
      | (obtain ⟨p, ws, rfl, h, r⟩ := y.lst x
         rw [r.ints] at h
         exact ⟨p, ns, rfl, sq_of h, q _ rfl⟩)
      | (obtain ⟨p, ws, rfl, h, r⟩ := y.rol x
         rw [r.ints] at h
         exact ⟨p, ns, rfl, h, q _ rfl⟩)
/-! ### walks -/
def signs (s : Str) : List D := s.cps.toList.map fun k => D.str ⟨#[k]⟩
def fiS (f : FE) : FI := fun e => (f e).bind fun r => Res.of ((lookT r.1 r.2).bind fun d => match d with
  | .str s => some (signs s, r.2)
  | _ => none)
theorem itOk_str {z' : Zs} {s : Str} : ItOk c z' (Its s) F (signs s) := fun i σ H1 F1 e x I => by
  unfold signs
  refine ⟨fun d hd => ?_, fun hl => by rw [List.length_map] at hl; exact hl⟩
  rw [List.getElem?_map] at hd
  obtain ⟨k, hk, rfl⟩ := omap hd
  have hlt : i < s.cps.size := get_lt hk
  refine ⟨hlt, fun y H2 ⟨e1, ch, hc, hy⟩ => ?_⟩
  subst e1
  rw [← Array.getElem?_toList, hk] at hc
  cases hc
  exact ⟨F1, Ex.refl F1, Ex.refl _, I, hy⟩
theorem sn_iS (ha : SndE c W ta fa) : SndI c W (iStr ta) (fiS fa) := fun z σ H F e R I h => by
  unfold fiS at h
  rw [Wp.bind] at h
  refine ha z σ H F e _ I (h.mono (fun r _ h v H1 F1 x1 I1 t1 => ?_) fun _ _ h => h)
  obtain ⟨o, ea, h⟩ := Wp.of h
  obtain ⟨d, l1, ea⟩ := obind ea
  cases d <;> try cases ea
  exact ⟨_, (t1.view I1 l1).str, h _ _ F1 x1 I1 fun z' => itOk_str⟩
theorem di_str {tg : Expr} (ha : DE X c W a ta fa) : DI X c W tg a (iStr ta) (fiS fa) := ⟨pi_str ha.pe, sn_iS ha.sn⟩
/-- enumerate of a list -/
def ienum (xs : List D) : List D := xs.mapIdx fun i d => .tup [.int (i : Nat), d]
def fiE (fr : FA) : FI := fun e => (fr e).bind fun r => Res.of ((escs r.1 r.2).bind fun q => match q.1 with
  | [.lst xs] => some (ienum xs, q.2)
  | [.rol xs] => some (ienum xs, q.2)
  | _ => none)
theorem itOk_enum {z' : Zs} {q : Addr} {vs : List V} {xs : List D} (h : SqL c.K F q vs) (r : RpL c F xs vs) : ItOk c z' (Ite c.K q) F (ienum xs) := fun i σ H1 F1 e x I => by
  have h1 := ex_l (x.trans I.fh) h
  unfold ienum
  refine ⟨fun d hd => ?_, fun hl => ⟨vs, h1, by rw [List.length_mapIdx] at hl; rw [← r.len]; exact hl⟩⟩
  rw [List.getElem?_mapIdx] at hd
  obtain ⟨d0, hx, rfl⟩ := omap hd
  obtain ⟨v, hv, rv⟩ := r.get hx
  refine ⟨⟨vs, v, h1, hv⟩, fun y H2 ⟨T, v', e1, hT, e2, k1⟩ => ?_⟩
  subst e1 e2
  have e1 := k1 vs h1
  rw [hv] at e1; cases e1
  have xn := Ex.new (o := HO.tup [.int (i : Nat), v]) (fresh_back I.fh hT)
  exact ⟨_, xn, Ex.new hT, I.allocT hT, T, [.int (i : Nat), v], rfl, st_of upd_same, _, [v], rfl, rfl, v, [], rfl, rv.mono (x.trans xn) _ _, rfl⟩
theorem sn_iE (ha : SndA c W tr fr) : SndI c W (iEnum c.K tr) (fiE fr) := fun z σ H F e R I h => by
  unfold fiE at h
  rw [Wp.bind] at h
  refine ha z σ H F e _ I (h.mono (fun r _ h vs H1 F1 x1 I1 t1 => ?_) fun _ _ h => h)
  obtain ⟨o, ea, h⟩ := Wp.of h
  obtain ⟨⟨ds, e1⟩, l1, ea⟩ := obind ea
  obtain ⟨G, x2, J, rr⟩ := t1.escs I1 l1
  dsimp only at ea
  split at ea <;> try cases ea
  · obtain ⟨v, r1, rfl, ⟨q, vs1, rfl, h1, q1⟩, rfl⟩ := rr
    exact ⟨q, vs1, rfl, sq_of (J.fh _ _ h1), h _ _ G (x1.trans x2) J fun z' => itOk_enum (sq_of h1) q1⟩
  · obtain ⟨v, r1, rfl, ⟨q, vs1, rfl, h1, q1⟩, rfl⟩ := rr
    exact ⟨q, vs1, rfl, ex_l J.fh h1, h _ _ G (x1.trans x2) J fun z' => itOk_enum h1 q1⟩
theorem di_enum {elts : List Expr} {kk : Nat} {tpos : Pos} (hK : X.K = c.K) (hg : Gl X "enumerate") (hm : X.mg "enumerate" = none) (ha : DA X c W [a] tr fr) (hs : starEach [a] X.env = [(false, eval a X.env)] := by rfl) :
    DI X c W (.Tuple elts kk tpos) (.Call (.Name "enumerate" p) [a] [] pos) (iEnum c.K tr) (fiE fr) := ⟨hK ▸ pi_enum hg hm ha.pa hs, sn_iE ha.sn⟩
/-- reversed of a list -/
def fiV (fr : FA) : FI := fun e => (fr e).bind fun r => Res.of ((escs r.1 r.2).bind fun q => match q.1 with
  | [.lst xs] => some (xs.reverse, q.2)
  | [.rol xs] => some (xs.reverse, q.2)
  | _ => none)
theorem itOk_rev {z' : Zs} {q : Addr} {vs : List V} {xs : List D} (h : SqL c.K F q vs) (r : RpL c F xs vs) : ItOk c z' (Itv c.K q vs.length) F xs.reverse := fun i σ H1 F1 e x I => by
  have h1 := ex_l (x.trans I.fh) h
  refine ⟨fun d hd => ?_, fun hl => by rw [List.length_reverse, r.len] at hl; exact hl⟩
  have hi := get_lt hd
  rw [List.length_reverse] at hi
  rw [List.getElem?_reverse hi] at hd
  obtain ⟨v, hv, rv⟩ := r.get hd
  rw [r.len] at hi hv
  refine ⟨⟨hi, vs, v, h1, hv⟩, fun y H2 ⟨e1, k1⟩ => ?_⟩
  subst e1
  have e1 := k1 vs h1
  rw [hv] at e1; cases e1
  exact ⟨F1, Ex.refl F1, Ex.refl _, I, rv.mono x d v⟩
theorem sn_iV (ha : SndA c W tr fr) : SndI c W (L2.iRev c.K tr) (fiV fr) := fun z σ H F e R I h => by
  unfold fiV at h
  rw [Wp.bind] at h
  refine ha z σ H F e _ I (h.mono (fun r _ h vs H1 F1 x1 I1 t1 => ?_) fun _ _ h => h)
  obtain ⟨o, ea, h⟩ := Wp.of h
  obtain ⟨⟨ds, e1⟩, l1, ea⟩ := obind ea
  obtain ⟨G, x2, J, rr⟩ := t1.escs I1 l1
  dsimp only at ea
  split at ea <;> try cases ea
  · obtain ⟨v, r1, rfl, ⟨q, vs1, rfl, h1, q1⟩, rfl⟩ := rr
    exact ⟨q, vs1, rfl, sq_of (J.fh _ _ h1), h _ _ G (x1.trans x2) J fun z' => itOk_rev (sq_of h1) q1⟩
  · obtain ⟨v, r1, rfl, ⟨q, vs1, rfl, h1, q1⟩, rfl⟩ := rr
    exact ⟨q, vs1, rfl, ex_l J.fh h1, h _ _ G (x1.trans x2) J fun z' => itOk_rev h1 q1⟩
theorem di_rev {tg : Expr} (hK : X.K = c.K) (hg : Gl X "reversed") (hm : X.mg "reversed" = none) (ha : DA X c W [a] tr fr) (hs : starEach [a] X.env = [(false, eval a X.env)] := by rfl) :
    DI X c W tg (.Call (.Name "reversed" p) [a] [] pos) (L2.iRev c.K tr) (fiV fr) := ⟨hK ▸ pi_reversed hg hm ha.pa hs, sn_iV ha.sn⟩
/-! ### constants of modules -/
structure GD (c : Ct) (mg : Str → Option Value) (x : Str) (d : D) : Prop where
  ex : ∃ u v, mg x = some u ∧ RelV v u ∧ ∀ F, Rp c F d v
theorem sn_cV {d : D} {v : V} (h : ∀ F, Rp c F d v) : SndE c W (tC v) (fC d) := fun z σ H F e Q I k => k v H F (Ex.refl F) I (h F)
/-- a constant: whatever stands for d everywhere -/
def tGd (c : Ct) (d : D) : TE := fun _ H Q => ∀ v, (∀ F, Rp c F d v) → Q v H
theorem pe_gd {x : Str} {d : D} (h : GD c X.mg x d) (hg : Gl X x) (hd : (x == ("__debug__" : Str)) = false) : PE X (.Name x pos) (tGd c d) := by
  obtain ⟨u, v, h1, h2, h3⟩ := h
  exact ⟨fun pins s σ H Q I q => (pe_glob hg h1 h2 hd).run pins s σ H Q I (q v h3)⟩
theorem de_glob {x : Str} {d : D} (h : GD c X.mg x d) (hg : Gl X x := by rfl) (hd : (x == ("__debug__" : Str)) = false := by decide) : DE X c W (.Name x pos) (tGd c d) (fC d) :=
  ⟨pe_gd h hg hd, fun z σ H F e Q I k v hv => k v H F (Ex.refl F) I (hv F)⟩
theorem gd_int {mg : Str → Option Value} {x : Str} {i : Int} {t : Tok} (h : mg x = some (.int i t)) : GD c mg x (.int i) := ⟨_, .int i, h, ⟨t, rfl⟩, fun _ => rfl⟩
theorem gd_str {mg : Str → Option Value} {x : Str} {s : Str} {t : Tok} (h : mg x = some (.str s t)) : GD c mg x (.str s) := ⟨_, .str s, h, ⟨t, rfl⟩, fun _ => rfl⟩
/-- items of a constant tuple -/
inductive CItems : List D → List Value → Prop
  | z : CItems [] []
  | s {s : Str} {t : Tok} {ds : List D} {us : List Value} : CItems ds us → CItems (.str s :: ds) (.str s t :: us)
  | i {i : Int} {t : Tok} {ds : List D} {us : List Value} : CItems ds us → CItems (.int i :: ds) (.int i t :: us)
theorem CItems.vals {ds : List D} {us : List Value} (h : CItems ds us) : ∃ vs, Vals vs us ∧ ∀ F, RpL c F ds vs := by
  induction h with
  | z => exact ⟨[], .nil, fun _ => rfl⟩
  | s h ih => obtain ⟨vs, h1, h2⟩ := ih; exact ⟨.str _ :: vs, .cons ⟨_, rfl⟩ h1, fun F => ⟨_, _, rfl, rfl, h2 F⟩⟩
  | i h ih => obtain ⟨vs, h1, h2⟩ := ih; exact ⟨.int _ :: vs, .cons ⟨_, rfl⟩ h1, fun F => ⟨_, _, rfl, rfl, h2 F⟩⟩
theorem gd_tup {mg : Str → Option Value} {x : Str} {ds : List D} {q : Addr} {o : Obj} {us : List Value} {n : Nat} (h : mg x = some (.ref q)) (ho : c.K.lookup q = some o) (hc : o.cls = .type "tuple") (hd : o.data = .seq us.toArray n) (hl : us.length ≤ 1000) (hi : CItems ds us) : GD c mg x (.tup ds) := by
  obtain ⟨vs, h1, h2⟩ := hi.vals (c := c)
  exact ⟨_, .ref q, h, rfl, fun F => ⟨q, vs, rfl, .inr ⟨o, us.toArray, n, ho, hc, hd, by rw [List.size_toArray]; exact lim_ok (Nat.le_trans hl (by decide)), h1⟩, h2 F⟩⟩
end
end DL

/-! DL, part ac: walks over a list, a tuple or a text; starred items; f-strings; >>=. -/
namespace DL
open PySem L2 Evl
section
variable {X : Cx} {c : Ct} {z : Zs} {W : WX} {σ : L2.St} {H F : Hp} {e : DEnv} {a b d : Expr} {es : List Expr} {ta tb tc : TE} {fa fb fc : FE} {tr : TA} {fr : FA} {pos apos p : Pos}
/-! ### a list, a tuple or a text -/
def iAll (K : PySem.W.Frag) (te : TE) : TI := fun σ H R => te σ H fun x H1 => ∃ J, R J H1 ∧ ((∃ q, x = V.ref q ∧ J = Itl K q ∧ ∃ xs, SqL K H1 q xs) ∨ (∃ q, x = V.ref q ∧ J = Itt K q ∧ ∃ xs, SqT K H1 q xs) ∨ ∃ s, x = V.str s ∧ J = Its s)
theorem new_it {pins : List (Addr × Obj)} {tg : Expr} {R : It → Hp → Prop} {J : It} {s : Shared} {o : Obj} {tn : Nat → Heap → Prop} (I : Inv X pins σ H s) (T : Turn X.prog X.w X.K tg J [s.heap.objs.size] s.heap.objs.size tn) (h0 : tn 0 (s.heap.push o)) (q : R J H) :
    PIE X pins σ tg R (.ref s.heap.objs.size) { s with heap := s.heap.push o } :=
  ⟨_, _, tn, J, H, rfl, I.kept (t' := s.toks) (fun b u g => Heap.get?_push_of_some _ g), T, h0, fun b hb => by
    rw [List.mem_singleton.mp hb]
    exact I.fpOk (Nat.le_refl _) (I.hok.fresh (Nat.le_refl _)), q⟩
theorem pi_all {tg : Expr} (ha : PE X a ta) : PI X tg a (iAll X.K ta) := by
  constructor
  intro pins s σ H R I h
  refine thn (ha.run pins s σ H _ I h) fun v s1 g => ?_
  obtain ⟨x, H1, I1, rx, J, q, g⟩ := g
  rcases g with ⟨l, rfl, rfl, xs, hq⟩ | ⟨l, rfl, rfl, xs, hq⟩ | ⟨y, rfl, rfl⟩
  · cases rx
    obtain ⟨its, _, pl, _⟩ := I1.list hq
    exact wpAny_pyIter_list pl.isList (new_it I1 (turn_list l _) ⟨_, Heap.get?_push_size _ rfl, rfl, rfl⟩ q)
  · cases rx
    obtain ⟨its, _, pl, _⟩ := I1.tuple hq
    exact wpAny_pyIter_tuple (show s1.heap.IsTuple l its.toArray from pl) (new_it I1 (turn_tuple l _) ⟨_, Heap.get?_push_size _ rfl, rfl, rfl⟩ q)
  · obtain ⟨t, rfl⟩ := rx
    cases ha : y.cps.all (· < 128)
    · exact wpAny_pyIter_wide ha (new_it I1 (turn_str _ y t "str_iterator" (.inr rfl)) ⟨_, Heap.get?_push_size _ rfl, rfl, rfl⟩ q)
    · exact wpAny_pyIter_ascii ha (new_it I1 (turn_str _ y t "str_ascii_iterator" (.inl rfl)) ⟨_, Heap.get?_push_size _ rfl, rfl, rfl⟩ q)
def itemsD : D → Option (List D)
  | .lst ds => some ds
  | .rol ds => some ds
  | .tup ds => some ds
  | .str s => some (signs s)
  | _ => none
def fiA (f : FE) : FI := fun e => (f e).bind fun r => Res.of ((escape r.1 r.2).bind fun q => (itemsD q.1).map fun ds => (ds, q.2))
theorem sn_iA (ha : SndE c W ta fa) : SndI c W (iAll c.K ta) (fiA fa) := fun z σ H F e R I h => by
  unfold fiA at h
  rw [Wp.bind] at h
  refine ha z σ H F e _ I (h.mono (fun r _ h v H1 F1 x1 I1 t1 => ?_) fun _ _ h => h)
  obtain ⟨o, ea, h⟩ := Wp.of h
  obtain ⟨⟨d, e1⟩, l1, ea⟩ := obind ea
  obtain ⟨G, x2, J, rr⟩ := t1.escape I1 l1
  obtain ⟨ds, l2, rfl⟩ := omap ea
  cases d <;> try cases l2
  · cases rr
    exact ⟨_, h _ _ G (x1.trans x2) J fun z' => itOk_str, .inr (.inr ⟨_, rfl, rfl⟩)⟩
  · obtain ⟨q, vs, rfl, h1, r⟩ := rr
    exact ⟨_, h _ _ G (x1.trans x2) J fun z' => itOk_list (sq_of h1) r, .inl ⟨q, rfl, rfl, vs, sq_of (J.fh _ _ h1)⟩⟩
  · obtain ⟨q, vs, rfl, h1, r⟩ := rr
    exact ⟨_, h _ _ G (x1.trans x2) J fun z' => itOk_tup h1 r, .inr (.inl ⟨q, rfl, rfl, vs, ex_t J.fh h1⟩)⟩
  · obtain ⟨q, vs, rfl, h1, r⟩ := rr
    exact ⟨_, h _ _ G (x1.trans x2) J fun z' => itOk_list h1 r, .inl ⟨q, rfl, rfl, vs, ex_l J.fh h1⟩⟩
theorem di_all {tg : Expr} (hK : X.K = c.K := by rfl) (ha : DE X c W a ta fa) : DI X c W tg a (iAll c.K ta) (fiA fa) := ⟨hK ▸ pi_all ha.pe, sn_iA ha.sn⟩
/-! ### *xs among items -/
def fAS (fa : FE) (fr : FA) : FA := fun e => (fa e).bind fun r => match lookT r.1 r.2 with
  | some (.lst ds) => (fr r.2).bind fun q => .ok (ds.map .vl ++ q.1, q.2)
  | some (.rol ds) => (fr r.2).bind fun q => .ok (ds.map .vl ++ q.1, q.2)
  | some (.tup ds) => (fr r.2).bind fun q => .ok (ds.map .vl ++ q.1, q.2)
  | _ => .stuck
theorem TRs.splice {ts : List T} {ws : List V} (h : TRs c z F H σ e ts ws) : ∀ {ds : List D} {vs : List V}, RpL c F ds vs → TRs c z F H σ e (ds.map .vl ++ ts) (vs ++ ws)
  | [], _, r => by cases r; exact h
  | d :: ds, _, ⟨v, r, h1, h2, h3⟩ => by subst h1; exact ⟨v, _, rfl, rfl, h2, TRs.splice h h3⟩
theorem sn_as (ha : SndE c W ta fa) (hr : SndA c W tr fr) : SndA c W (StX.tStar c.K ta tr) (fAS fa fr) := fun z σ H F e Q I h => by
  unfold fAS at h
  rw [Wp.bind] at h
  refine ha z σ H F e _ I (h.mono (fun r _ h v H1 F1 x1 I1 t1 => ?_) fun _ _ h => h)
  cases hl : lookT r.1 r.2 with
  | none => rw [hl] at h; exact h.elim
  | some d1 =>
    rw [hl] at h
    have y := t1.view I1 hl
    have go : ∀ (ds : List D) (vs : List V), RpL c F1 ds vs → Wp ((fr r.2).bind fun q => .ok (ds.map T.vl ++ q.1, q.2)) (fun r => ∀ vs H' F', Ex F F' → I2 c z σ H' F' r.2 → TRs c z F' H' σ r.2 r.1 vs → Q vs H') (Xp c z W σ F) → tr σ H1 fun ys H2 => Q (vs ++ ys) H2 := fun ds vs rr h => by
      rw [Wp.bind] at h
      refine hr z σ H1 F1 _ _ I1 (h.mono (fun q _ h ws H2 F2 x2 I2 t2 => ?_) fun _ _ h => h.mono x1)
      exact h _ H2 F2 (x1.trans x2) I2 (TRs.splice t2 (rr.mono x2))
    cases d1 <;> first | exact h.elim | skip
    · obtain ⟨q, vs, rfl, h1, rr⟩ := y.lst I1.fh
      obtain ⟨F9, vs9, e9, rr9⟩ : ∃ F9 vs9, vs9 = vs ∧ RpL c F1 _ vs9 := by
        rcases y with ⟨q', vs', e', h', r'⟩ | ⟨q', e', o'⟩
        · cases e'
          have := I1.fh _ _ h'
          rw [h1] at this; cases this
          exact ⟨F1, _, rfl, r'⟩
        · cases e'
          obtain ⟨_, vs', h', r'⟩ := o'
          rw [h1] at h'; cases h'
          exact ⟨F1, _, rfl, r'⟩
      subst e9
      exact ⟨q, _, rfl, .inr (sq_of h1), go _ _ rr9 h⟩
    · rcases y with ⟨q, vs, rfl, h1, rr⟩ | ⟨_, _, o⟩
      · exact ⟨q, _, rfl, .inl (ex_t I1.fh h1), go _ _ rr h⟩
      · exact o.2.elim
    · rcases y with ⟨q, vs, rfl, h1, rr⟩ | ⟨_, _, o⟩
      · exact ⟨q, _, rfl, .inr (ex_l I1.fh h1), go _ _ rr h⟩
      · exact o.2.elim
theorem da_star (hK : X.K = c.K := by rfl) (ha : DE X c W a ta fa) (hr : DA X c W es tr fr) (hs : starEach (.Starred a p :: es) X.env = (true, eval a X.env) :: starEach es X.env := by rfl) : DA X c W (.Starred a p :: es) (StX.tStar c.K ta tr) (fAS fa fr) := ⟨hK ▸ StX.pa_star ha.pe hr.pa hs, sn_as ha.sn hr.sn⟩
/-! ### f-strings -/
def fmtD : D → Option Str
  | .str s => if s.length ≤ lim then some s else none
  | .int i => if i.natAbs.log2 < 1920 then some (toString i) else none
  | _ => none
def fFmt (f : FE) : FE := fun e => (f e).bind fun r => Res.of ((lookT r.1 r.2).bind fun d => (fmtD d).map fun s => (.vl (.str s), r.2))
theorem sn_fmt (ha : SndE c W ta fa) : SndE c W (tFmt ta) (fFmt fa) := fun z σ H F e Q I h => by
  unfold fFmt at h
  rw [Wp.bind] at h
  refine ha z σ H F e _ I (h.mono (fun r _ h v H1 F1 x1 I1 t1 => ?_) fun _ _ h => h)
  obtain ⟨o, ea, h⟩ := Wp.of h
  obtain ⟨d, l1, ea⟩ := obind ea
  obtain ⟨s, l2, rfl⟩ := omap ea
  have y := t1.view I1 l1
  unfold fmtD at l2
  cases d <;> try cases l2
  · dsimp only at l2
    split at l2
    · rename_i hl
      cases l2
      exact .inr ⟨_, y.int, hl, h _ H1 F1 x1 I1 rfl⟩
    · cases l2
  · dsimp only at l2
    split at l2
    · rename_i hl
      cases l2
      exact .inl ⟨_, y.str, lim_ok hl, h _ H1 F1 x1 I1 rfl⟩
    · cases l2
theorem de_fmt (ha : DE X c W a ta fa) : DE X c W (.FormattedValue a (-1) none pos) (tFmt ta) (fFmt fa) := ⟨pe_fmt ha.pe, sn_fmt ha.sn⟩
/-- parts one behind the other -/
structure DJ (X : Cx) (c : Ct) (W : WX) (es : List Expr) (ts : List TE) (f : Str → DEnv → Res (Str × DEnv)) : Prop where
  pj : PJ X es ts
  sn : ∀ (acc : Str) (z : Zs) σ H F e (Q : Str → Hp → Prop), I2 c z σ H F e → Wp (f acc e) (fun r => ∀ H' F', Ex F F' → I2 c z σ H' F' r.2 → Q r.1 H') (Xp c z W σ F) → tJs ts acc σ H Q
def fJ0 : Str → DEnv → Res (Str × DEnv) := fun acc e => .ok (acc, e)
def fJ1 (f : FE) (g : Str → DEnv → Res (Str × DEnv)) : Str → DEnv → Res (Str × DEnv) := fun acc e => (f e).bind fun r => match lookT r.1 r.2 with
  | some (.str y) => if (acc ++ y).length ≤ lim then g (acc ++ y) r.2 else .stuck
  | _ => .stuck
theorem dj_nil : DJ X c W [] [] fJ0 := ⟨.nil, fun acc z σ H F e Q I h => h H F (Ex.refl F) I⟩
theorem dj_cons {ts : List TE} {g : Str → DEnv → Res (Str × DEnv)} (ha : DE X c W a ta fa) (hr : DJ X c W es ts g) : DJ X c W (a :: es) (ta :: ts) (fJ1 fa g) := ⟨.cons ha.pe hr.pj, fun acc z σ H F e Q I h => by
  unfold fJ1 at h
  rw [Wp.bind] at h
  refine ha.sn z σ H F e _ I (h.mono (fun r _ h v H1 F1 x1 I1 t1 => ?_) fun _ _ h => h)
  cases hl : lookT r.1 r.2 with
  | none => rw [hl] at h; exact h.elim
  | some d1 =>
    rw [hl] at h
    obtain ⟨y, rfl⟩ : ∃ y, d1 = .str y := by cases d1 <;> first | exact h.elim | exact ⟨_, rfl⟩
    dsimp only at h
    by_cases hy : (acc ++ y).length ≤ lim
    · rw [if_pos hy] at h
      exact ⟨y, (t1.view I1 hl).str, lim_ok hy, hr.sn _ z σ H1 F1 _ _ I1 (h.mono (fun q _ h H2 F2 x2 I2 => h H2 F2 (x1.trans x2) I2) fun _ _ h => h.mono x1)⟩
    · rw [if_neg hy] at h
      exact h.elim⟩
def fJoin (g : Str → DEnv → Res (Str × DEnv)) : FE := fun e => (g Str.empty e).bind fun r => .ok (.vl (.str r.1), r.2)
theorem de_joined {v1 v2 : Expr} {rest : List Expr} {ts : List TE} {g : Str → DEnv → Res (Str × DEnv)} (h : DJ X c W (v1 :: v2 :: rest) ts g) : DE X c W (.JoinedStr (v1 :: v2 :: rest) pos) (fun σ H Q => tJs ts Str.empty σ H fun out H1 => Q (.str out) H1) (fJoin g) :=
  ⟨pe_joined h.pj, fun z σ H F e Q I k => by
    unfold fJoin at k
    rw [Wp.bind] at k
    exact h.sn Str.empty z σ H F e _ I (k.mono (fun r _ k H' F' x I' => k _ H' F' x I' rfl) fun _ _ k => k)⟩
theorem de_joined1 (ha : DE X c W a ta fa) : DE X c W (.JoinedStr [a] pos) ta fa := ⟨pe_joined1 ha.pe, ha.sn⟩
/-! ### >>= -/
theorem ipd_shr : PIp X .RShift (rI (fun _ j => 0 ≤ j) fun i j => .int (i / 2 ^ j.toNat)) := ip_of fun _ _ _ _ _ _ c q => PyProof.Rows.irshift_int c (by rw [Int.fdiv_eq_ediv_of_nonneg _ (by exact Int.le_of_lt (Int.pow_pos (by decide)))]; exact q)
end
end DL

/-! DL, part ad: a text many times; not of anything; x.f op= e. -/
namespace DL
open PySem L2 Evl
section
variable {X : Cx} {c : Ct} {z : Zs} {W : WX} {σ : L2.St} {H F : Hp} {e : DEnv} {a b d : Expr} {es : List Expr} {ta tb tc : TE} {fa fb fc : FE} {tr : TA} {fr : FA} {pos apos p : Pos}
def strRep (x : Str) (n : Int) : Str := ⟨(List.replicate n.toNat x.cps.toList).flatten.toArray⟩
theorem joinA (l : List Nat) : ∀ (n : Nat) (s : List Nat), (List.replicate n l.toArray).foldl (fun u v => u ++ v) s.toArray = (s ++ (List.replicate n l).flatten).toArray
  | 0, s => by simp
  | n + 1, s => by
    rw [List.replicate_succ, List.foldl_cons, List.append_toArray, joinA l n, List.replicate_succ, List.flatten_cons, List.append_assoc]
theorem strRep_fold (x : Str) (n : Int) : (⟨(List.replicate n.toNat x.cps).foldl (fun u v => u ++ v) #[]⟩ : Str) = strRep x n := by
  have := joinA x.cps.toList n.toNat []
  rw [List.nil_append, Array.toArray_toList] at this
  unfold strRep
  rw [← this]
abbrev rMulS : R2 := fun x y H Q => ∃ (s : Str) (n : Int), x = .str s ∧ y = .int n ∧ -1000000 ≤ n ∧ n ≤ 1000000 ∧ s.length * n.toNat ≤ 1000000 ∧ Q (.str (strRep s n)) H
theorem op_mulS : OpR X (binaryOp .Mult) rMulS := by
  intro pins s σ H x y v u Q I rx ry ⟨w, n, e1, e2, g1, g2, g3, q⟩
  subst e1; subst e2
  obtain ⟨t, rfl⟩ := rx
  obtain ⟨t', rfl⟩ := ry
  have big : sizeLine ≥ 1000000 := by rw [sizeLine_eq]; decide
  have fits : (strRep w n).length ≤ sizeLine := by
    have : (strRep w n).length = n.toNat * w.length := by
      unfold strRep Str.length
      simp [List.length_flatten, List.map_replicate]
    rw [this, Nat.mul_comm]
    omega
  refine PySem.P.mul_str (by rw [decide_eq_false (by omega), decide_eq_false (by omega)]; rfl) (fun h1 _ => ?_) (fun _ _ => ?_) ?_
  · have h2 : (w.length : Int) ≤ 1000000 := by
      have : 1 ≤ n.toNat := by omega
      have : w.length * 1 ≤ w.length * n.toNat := Nat.mul_le_mul_left _ this
      omega
    have h3 : (9223372036854 : Int) ≤ (2 ^ 63 - 1) / n := by
      rw [Int.le_ediv_iff_mul_le (by omega)]
      have : (9223372036854 : Int) * n ≤ 9223372036854 * 1000000 := Int.mul_le_mul_of_nonneg_left g2 (by decide)
      omega
    omega
  · show decide _ = false
    exact decide_eq_false (by omega)
  · split
    · rename_i h
      have e0 : strRep w n = Str.empty := by
        unfold strRep
        rw [show n.toNat = 0 by omega]
        rfl
      rw [e0] at q
      exact ⟨by decide, .str _, H, I.tok _, ⟨_, rfl⟩, q⟩
    · split
      · rename_i h1 h2
        have e0 : strRep w n = w := by
          unfold strRep
          rcases Bool.or_eq_true_iff.mp h2 with h3 | h3
          · have : n = 1 := by simpa using h3
            subst this
            simp
          · have h4 : w.cps.size = 0 := by simpa [Str.length] using h3
            have h5 : w.cps = #[] := Array.eq_empty_of_size_eq_zero h4
            have h6 : (List.replicate n.toNat ([] : List Nat)).flatten = [] := by
              induction n.toNat with
              | zero => rfl
              | succ k ih => rw [List.replicate_succ, List.flatten_cons, ih]; rfl
            obtain ⟨cps⟩ := w
            have h7 : cps = #[] := h5
            subst h7
            rw [show (#[] : Array Nat).toList = [] from rfl, h6]
        rw [e0] at q
        exact ⟨.str _, H, I, ⟨_, rfl⟩, q⟩
      · rw [show (⟨(List.replicate n.toNat w.cps).foldl (· ++ ·) #[]⟩ : Str) = strRep w n from strRep_fold w n]
        exact ⟨fits, .str _, H, I.tok _, ⟨_, rfl⟩, q⟩
def opMulA (a b : D) : Option RV := match a, b with
  | .str s, .int n => if decide (-1000000 ≤ n) && decide (n ≤ 1000000) && decide (s.length * n.toNat ≤ lim) then some (.fl (.str (strRep s n))) else none
  | a, b => opMul a b
theorem op_mulAS : OpR X (binaryOp .Mult) (ROr rMulS (ROr (rI CMulW fun i j => .int (i * j)) rRep)) := op_mulS.or op_mulA
theorem ok_mulA : R2Ok c (ROr rMulS (ROr (rI CMulW fun i j => .int (i * j)) rRep)) opMulA := by
  intro F H d1 d2 v1 v2 rv Q x k1 k2 l q
  unfold opMulA at l
  split at l
  · split at l
    · rename_i h
      cases l
      obtain ⟨h, h3⟩ := Bool.and_eq_true_iff.mp h
      obtain ⟨h1, h2⟩ := Bool.and_eq_true_iff.mp h
      exact .inl ⟨_, _, k1.str, k2.int, of_decide_eq_true h1, of_decide_eq_true h2, of_decide_eq_true h3, q _ rfl⟩
    · cases l
  · exact .inr (ok_mul F H _ _ v1 v2 rv Q x k1 k2 l q)
/-! ### not -/
def fNotT (f : FE) : FE := fun e => (fTru f e).bind fun r => .ok (.vl (.bl (!r.1)), r.2)
theorem sn_notT (ha : SndE c W ta fa) : SndE c W (tNotT c.K ta) (fNotT fa) := fun z σ H F e Q I h => by
  unfold fNotT at h
  rw [Wp.bind] at h
  exact sn_tru ha z σ H F e (fun k H1 => Q (.bl (!k)) H1) I (h.mono (fun r _ h H1 F1 x1 I1 => h _ H1 F1 x1 I1 rfl) fun _ _ h => h)
theorem de_notT (hK : X.K = c.K) (ha : DE X c W a ta fa) : DE X c W (.UnaryOp .Not a pos) (tNotT c.K ta) (fNotT fa) := ⟨hK ▸ pe_notT ha.pe, sn_notT ha.sn⟩
/-! ### x.f op= e -/
def fAugF (ns : List Str) (k j : Nat) (f : Str) (op : D → D → Option RV) (fv : FE) : FS := fun e => match (rootIns k e j).bind (fldOf ns f) with
  | some d1 => (fv e).bind fun r => Res.of ((lookT r.1 r.2).bind fun d2 => (op d1 d2).bind fun rv => match rv with
    | .fl d => (rootIns k r.2 j).bind fun ds => (putD ns f d ds).bind fun ds' => if ds.length < 900 then some (.nx (putIns k r.2 j ds')) else none
    | _ => none)
  | none => .stuck
theorem sn_augF {i j : Nat} {f : Str} {tv : TE} {fv : FE} {ti : TIp} {op : D → D → Option RV} (cl : Cls c.K (c.cl i)) (na : NoAttr c.K (c.cl i) f) (ho : ∀ F H d1 d2 v1 v2 rv (Q : VK), Ex F H → View c F H d1 v1 → View c F H d2 v2 → op d1 d2 = some rv → rv.Post c F H Q → ti v1 v2 H Q) (hv : SndE c W tv fv) :
    SndS c W (sFldAug c.K (tVar j) tv ti f) (fAugF (c.fn i) i j f op fv) := fun z σ H F e D I h => by
  unfold fAugF at h
  cases hr : (rootIns i e j).bind (fldOf (c.fn i) f) with
  | none => rw [hr] at h; exact h.elim
  | some d1 =>
    rw [hr] at h
    obtain ⟨ds, l1, l2⟩ := obind hr
    obtain ⟨q, dx, vs, hq, h2, r2, _⟩ := I.rootIns l1
    obtain ⟨v1, h3, r3⟩ := zip_look r2 l2
    refine ⟨_, hq, q, _, dx, _, v1, rfl, h2, cl, na, h3, ?_⟩
    rw [Wp.bind] at h
    refine hv z σ H F e _ I (h.mono (fun r _ h v H1 F1 x1 I1 t1 => ?_) fun _ _ h => h σ)
    obtain ⟨o, ea, h⟩ := Wp.of h
    obtain ⟨d2, l3, ea⟩ := obind ea
    obtain ⟨rv, l4, ea⟩ := obind ea
    cases rv with
    | nl _ => cases ea
    | nt _ => cases ea
    | fl d =>
      obtain ⟨ds1, l5, ea⟩ := obind ea
      obtain ⟨ds2, l6, ea⟩ := obind ea
      split at ea
      · rename_i hlen
        cases ea
        refine ho F1 H1 d1 d2 v1 v (.fl d) _ I1.fh (.inl (Rp.mono x1 d1 v1 r3)) (t1.view I1 l3) l4 fun w rr => ?_
        obtain ⟨q', dx', vs', hq', h2', r2', kk⟩ := I1.rootIns l5
        rw [hq] at hq'; cases hq'
        refine ⟨dx', _, h2', ?_, ?_⟩
        · rw [List.length_zip]
          have := r2'.len
          omega
        · unfold putD at l6
          split at l6
          · rename_i ix hix
            split at l6
            · rename_i hi
              cases l6
              rw [putF_zip hix (by rw [← r2'.len]; omega), if_pos (by rw [← r2'.len]; exact hi)]
              exact h σ _ F1 x1 (kk _ _ (r2'.set ix rr))
            · split at l6
              · rename_i hi hi2
                cases l6
                rw [putF_zip hix (by rw [← r2'.len]; omega), if_neg (by rw [← r2'.len]; exact hi)]
                exact h σ _ F1 x1 (kk _ _ (r2'.app (RpL.one rr)))
              · cases l6
          · cases l6
      · cases ea
theorem ds_augF {i j : Nat} {f y : Str} {v : Expr} {tv : TE} {fv : FE} {o : Operator} {ti : TIp} {op : D → D → Option RV} {pos' : Pos} (hK : X.K = c.K) (cl : Cls c.K (c.cl i)) (na : NoAttr c.K (c.cl i) f) (hy : PE X (.Name y p) (tVar j)) (hv : DE X c W v tv fv) (hp : PIp X o ti)
    (ho : ∀ F H d1 d2 v1 v2 rv (Q : VK), Ex F H → View c F H d1 v1 → View c F H d2 v2 → op d1 d2 = some rv → rv.Post c F H Q → ti v1 v2 H Q) :
    DS X c W (.AugAssign (.Attribute (.Name y p) f pos') o v pos) (sFldAug c.K (tVar j) tv ti f) (fAugF (c.fn i) i j f op fv) := ⟨hK ▸ ps_fldaug hy hv.pe (fun pins s σ H x y u v Q I rx ry h => hp pins s σ H x y u v Q I rx ry h), sn_augF cl na ho hv.sn⟩
end
end DL

/-! DL, part ae: try with several excepts, each with a name or without. -/
namespace DL
open PySem PySem.Spec PyProof.Rows L2 Evl
/-- what an except clause names, what it binds, its suite -/
structure Cl where
  c : Value
  i : Option Nat
  ts : Addr → Value → Option Addr → TS
def Cl.ends (k : Cl) (D : Ends) : Ends := match k.i with
  | none => D
  | some i => { nx := fun t g => D.nx (t.set i none) g, rt := D.rt, bk := fun t g => D.bk (t.set i none) g, ct := fun t g => D.ct (t.set i none) g }
def Cl.st (k : Cl) (a : Addr) (t : L2.St) : L2.St := match k.i with
  | none => t
  | some i => t.set i (some (.ref a))
def wCl (K : PySem.W.Frag) (Wo : WX) (D : Ends) : List Cl → WX
  | [] => Wo
  | k :: r => fun q d t g => ∃ y, PySem.W.exmOne K q k.c = some y ∧ (y = true → ∀ a, g a = none → k.ts a q d (k.ends D) (k.st a t) g) ∧ (y = false → wCl K Wo D r q d t g)
/-- a suite of a clause -/
abbrev SuOk (X : Cx) (st : List Stmt) (ts : Addr → Value → Option Addr → TS) : Prop := ∀ (a : Addr) (u : Obj) (q : Value) (d : Option Addr) (pn : List (Addr × Obj)), Zc q d u → (∃ us, u.data = .fields us) → PSs (X.suite a ((a, u) :: pn)) st (ts a q d)
inductive ClOk (X : Cx) : List ExceptHandler → List Cl → Prop
  | nil : ClOk X [] []
  | no {x : Str} {c : Value} {ts : Addr → Value → Option Addr → TS} {s0 : Stmt} {st : List Stmt} {p1 p2 : Pos} {hs : List ExceptHandler} {l : List Cl} (hc : Names X x c) (hu : SuOk X (s0 :: st) ts) (r : ClOk X hs l) : ClOk X (.ExceptHandler (some (.Name x p1)) none (s0 :: st) p2 :: hs) (⟨c, none, ts⟩ :: l)
  | as {x n : Str} {i : Nat} {c : Value} {ts : Addr → Value → Option Addr → TS} {s0 : Stmt} {st : List Stmt} {p1 p2 : Pos} {hs : List ExceptHandler} {l : List Cl} (hN : X.N.Nodup) (hi : X.N[i]? = some n) (hn : X.env.kindOf n = some .local) (hc : Names X x c) (hu : SuOk X (s0 :: st) ts) (r : ClOk X hs l) :
      ClOk X (.ExceptHandler (some (.Name x p1)) (some n) (s0 :: st) p2 :: hs) (⟨c, some i, ts⟩ :: l)
section
variable {X : Cx} {Wo : WX} {D : Ends} {pins : List (Addr × Obj)} {t : L2.St} {g : Hp} {sI s0 : Shared} {B : Heap} {a : Addr} {q : Value} {d : Option Addr} {h3 : Heap}
/-- an exception that has been caught, ahead of the clauses -/
structure Cau (X : Cx) (pins : List (Addr × Obj)) (t : L2.St) (g : Hp) (sI s0 : Shared) (B : Heap) (a : Addr) (q : Value) (d : Option Addr) (h3 : Heap) : Prop where
  ok : X.Ok
  stk : X.stack = X.env :: X.outer
  fr : X.env.frame = some X.env.locals
  inv : Inv X pins t g sI
  nb : ∀ b o, sI.heap.get? b = some o → b ∉ frs X.stack → B.get? b = some o
  fly : HandSPX.FlyingZ B (X.env :: X.outer) a (Zc q d) h3
  up : sI.heap.UpToSlots h3
  na : g a = none
  os : s0.os = sI.os
  ag : AllBare s0.gens
theorem Cau.again (C : Cau X pins t g sI s0 B a q d h3) {h4 : Heap} (f : HandSPX.FlyingZ B (X.env :: X.outer) a (Zc q d) h4) (u : h3.UpToSlots h4) : Cau X pins t g sI s0 B a q d h4 :=
  ⟨C.ok, C.stk, C.fr, C.inv, C.nb, f, C.up.trans u, C.na, C.os, C.ag⟩
theorem Cau.here (C : Cau X pins t g sI s0 B a q d h3) : Inv X pins t g { s0 with heap := h3 } := C.inv.landed C.nb C.fly.1 C.up C.os C.ag
theorem Cau.obj (C : Cau X pins t g sI s0 B a q d h3) : ∃ u us, h3.get? a = some u ∧ Zc q d u ∧ u.data = .fields us ∧ Inv (X.suite a ((a, u) :: (X.pn ++ pins))) [] t g { s0 with heap := h3 } := by
  obtain ⟨u, us, g1, g2, g3⟩ := C.fly.there
  have out : a ∉ frs (X.env :: X.outer) := fun m => by
    obtain ⟨_, u', w1, w2⟩ := C.fly.2.2.1.mem m
    rw [g1] at w1; cases w1
    exact w2 _ g3
  refine ⟨u, us, g1, g2, g3, C.here.suite g1 g3 C.na (fun z => out ?_) fun m => ?_⟩
  · exact List.mem_filterMap.mpr ⟨X.env, List.mem_cons_self, by rw [C.fr, z]⟩
  · obtain ⟨v, w1, w2⟩ := List.mem_filterMap.mp m
    exact out (List.mem_filterMap.mpr ⟨v, List.mem_cons_of_mem _ w1, w2⟩)
/-- no clause takes it -/
theorem Cau.pass (C : Cau X pins t g sI s0 B a q d h3) (tk : Takes X Wo) (w : Wo q d t g) : wpAny (model X.prog X.w) X.A (handleBy (.ref a) X.env []) (SP X pins D) X.xe { s0 with heap := h3 } := by
  refine wpAny_handleBy_nil ?_
  have fl := C.fly
  obtain ⟨_, _, _, u, us, T, _, _, z1, _, z3, z4, _⟩ := id fl
  unfold PySem.passOn
  refine wpAny_bind (wpAny_field z1 z3 z4 ?_)
  have nz : ¬ ((Value.ref T == Value.none) = true) := by simp
  rw [if_neg nz]
  have last : wpAny (model X.prog X.w) X.A (setFlight (.ref a) X.env.frame) (fun _ v => wpAny (model X.prog X.w) X.A (throw (.ref a) : Sem Flow) (SP X pins D) X.xe v) X.xe { s0 with heap := h3 } := by
    rw [C.fr]
    refine HandSPX.setFlight_upZ fl fun k hk uk => wpAny_throw (tk _ _ ?_)
    exact ⟨a, B, sI, pins, t, g, q, d, rfl, C.inv, C.nb, C.up.trans uk, .inr (.inr (by rw [C.stk]; exact hk)), C.na, C.os, C.ag, w⟩
  first
    | exact wpAny_bind last
    | exact wpAny_bind (wpAny_pure (wpAny_bind last))
/-- a clause's class is looked up -/
theorem Cau.test (C : Cau X pins t g sI s0 B a q d h3) {x : Str} {c : Value} {p1 : Pos} (hc : Names X x c) {Q : Value → Shared → Prop} {E : Value → Shared → Prop} (k : Q c { s0 with heap := h3 }) : wpAny (model X.prog X.w) (X.A.mark (some (.ref a))) (eval (.Name x p1) X.env) Q E { s0 with heap := h3 } := by
  obtain ⟨u, us, _, _, _, S⟩ := C.obj
  obtain ⟨w1, w2, w3 | ⟨w3, w4, w5⟩⟩ := hc
  · exact ld_glob S w1 w3 k w2
  · exact ld_blt S w1 w3 w4 k w5 w2
/-- is it of the class? -/
theorem Cau.looks (C : Cau X pins t g sI s0 B a q d h3) {c : Value} {y : Bool} (e : PySem.W.exmOne X.K q c = some y) : PySem.W.Looks (model X.prog X.w) h3 (excMatches (.ref a) c) y := by
  obtain ⟨u, us, g1, g2, _, _⟩ := C.obj
  exact PySem.W.exm_one C.here.kIn (fun A Q E s k z => wpAny_typeOf_ref (k _ _ g1) (by rw [g2.1]; exact z)) e
theorem Cau.all (tk : Takes X Wo) : ∀ {hs : List ExceptHandler} {l : List Cl}, ClOk X hs l → ∀ {h3 : Heap}, Cau X pins t g sI s0 B a q d h3 → wCl X.K Wo D l q d t g → wpAny (model X.prog X.w) X.A (handleBy (.ref a) X.env hs) (SP X pins D) X.xe { s0 with heap := h3 } := by
  intro hs l hk
  induction hk with
  | nil => intro h3 C w; exact C.pass tk w
  | @no x c ts s1 st p1 p2 hs l hc hu r ih =>
    intro h3 C ⟨y, e1, e2, e3⟩
    refine wpAny_handleBy_cons (codeAny_handlers_test ?_) (by intro z; cases z)
    refine C.test hc ((C.looks e1).here ?_)
    cases y with
    | false => exact ih C (e3 rfl)
    | true =>
      refine codeAny_handlers_suite (HandSPX.lands_againZ C.fly fun h4 f4 u4 => ?_)
      obtain ⟨u, us, g1, g2, g3, S⟩ := (C.again f4 u4).obj
      refine wpAny_mono ((hu a u q d (X.pn ++ pins) g2 ⟨_, g3⟩).run [] _ t g _ S (e2 rfl a C.na)) (fun o v z => ?_) (fun _ _ z => z.elim)
      cases o with
      | next => obtain ⟨t', g', I, z⟩ := z; exact ⟨t', g', I.unsuite C.ok, z⟩
      | brk => obtain ⟨t', g', I, z⟩ := z; exact ⟨t', g', I.unsuite C.ok, z⟩
      | cont => obtain ⟨t', g', I, z⟩ := z; exact ⟨t', g', I.unsuite C.ok, z⟩
      | ret _ => obtain ⟨v', t', g', I, y1, z⟩ := z; exact ⟨v', t', g', I.unsuite C.ok, y1, z⟩
  | @as x n i c ts s1 st p1 p2 hs l hN hi hn hc hu r ih =>
    intro h3 C ⟨y, e1, e2, e3⟩
    refine wpAny_handleBy_cons (codeAny_handlers_test ?_) (by intro z; cases z)
    refine C.test hc ((C.looks e1).here ?_)
    cases y with
    | false => exact ih C (e3 rfl)
    | true =>
      refine codeAny_handlers_suite_as (HandSPX.lands_againZ C.fly fun h4 f4 u4 => ?_)
      obtain ⟨u, us, g1, g2, g3, S⟩ := (C.again f4 u4).obj
      refine store_ok (X := X.suite a ((a, u) :: (X.pn ++ pins))) (v := .ref a) S hN hi (.inl hn) rfl (fun v5 S5 => ?_) (.inr hn)
      refine wpAny_mono ((hu a u q d (X.pn ++ pins) g2 ⟨_, g3⟩).run [] v5 _ g _ S5 (e2 rfl a C.na)) (fun o v z => ?_) (fun _ _ z => z.elim)
      have gone : ∀ {t' : L2.St} {g' : Hp} {Q : Shared → Prop}, Inv (X.suite a ((a, u) :: (X.pn ++ pins))) [] t' g' v → (∀ v', Inv X pins (t'.set i none) g' v' → Q v') →
          wpAny (model X.prog X.w) X.A (do bindName X.env n .none; unbindBehindTheSuite X.env n p2) (fun _ v' => Q v') X.xe v := fun {_ _ _} I k => gone_ok (I.unsuite C.ok) hN hi hn k
      cases o with
      | next => obtain ⟨t', g', I, z⟩ := z; exact gone I fun v' J => ⟨_, g', J, z⟩
      | brk => obtain ⟨t', g', I, z⟩ := z; exact gone I fun v' J => ⟨_, g', J, z⟩
      | cont => obtain ⟨t', g', I, z⟩ := z; exact gone I fun v' J => ⟨_, g', J, z⟩
      | ret _ => obtain ⟨v9, t', g', I, y1, z⟩ := z; exact gone I fun v' J => ⟨v9, _, g', J, y1, z⟩
theorem ps_try_cl {body : List Stmt} {k0 : ExceptHandler} {hs : List ExceptHandler} {l : List Cl} {pos : Pos} {tb : WX → TS} (stk : X.stack = X.env :: X.outer) (fr : X.env.frame = some X.env.locals) (tk : Takes X Wo)
    (hb : ∀ (V : WX) (pn : List (Addr × Obj)) (xe : Value → Shared → Prop), Takes (X.tr pn xe) V → PassesOwn (model X.prog X.w) X.A X.env xe → PSs (X.tr pn xe) body (tb V)) (hk : ClOk X (k0 :: hs) l) :
    PS X (.Try body (k0 :: hs) [] [] pos) (fun D t g => tb (wCl X.K Wo D l) D t g) := by
  constructor
  intro pins s t g D I k
  have ok := I.ok
  have fs : X.A.frames = some (X.env :: X.outer) := by rw [ok.frames, stk]
  refine wpAny_Try_except (wpAny_mono ((hb (wCl X.K Wo D l) (X.pn ++ pins) _ (fun u s' xx => ?_) PassesOwn.looking).run [] s t g D (I.toTry _) k) (fun f v z => ?_) (fun e v z => z))
  · obtain ⟨a, B, sI, pins', t', g', q, d, rfl, J, nb, up, sky, na, os, ag, w⟩ := xx
    have sky2 : Sky B (X.env :: X.outer) a (Zc q d) X.env.locals s'.heap := by rw [← stk]; exact sky
    refine Sky.land Zc.steady fs fr sky2 fun h3 f3 u3 => ?_
    exact Cau.all (D := D) tk hk ⟨ok, stk, fr, J.ofTry ok, nb, f3, up.trans u3, na, os, ag⟩ w
  · cases f with
    | next => obtain ⟨t', g', J, z⟩ := z; exact wpAny_execs_nil ⟨t', g', J.ofTry ok, z⟩
    | brk => obtain ⟨t', g', J, z⟩ := z; exact ⟨t', g', J.ofTry ok, z⟩
    | cont => obtain ⟨t', g', J, z⟩ := z; exact ⟨t', g', J.ofTry ok, z⟩
    | ret _ => obtain ⟨v9, t', g', J, y, z⟩ := z; exact ⟨v9, t', g', J.ofTry ok, y, z⟩
end
/-! ### .. on data -/
/-- a clause on data -/
abbrev Cf := (Nat → Option Bool) × Option Nat × FS
def fCls : List Cf → XV → DEnv → Res Out
  | [], x, e => .exc x e
  | (tbl, none, g) :: r, x, e => (match tbl x.k with
    | some true => (match g e with
      | .ok out => .ok out
      | _ => .stuck)
    | some false => fCls r x e
    | none => .stuck)
  | (tbl, some i, g) :: r, x, e => (match tbl x.k with
    | some true => if noX e && decide (i < e.length) then (match g (e.set i (some (.ex x))) with
      | .ok out => goneO i out
      | _ => .stuck) else .stuck
    | some false => fCls r x e
    | none => .stuck)
/-- try: f, except ..: .., except ..: .. -/
def fTryM (l : List Cf) (f : FS) : FS := fun e => match f e with
  | .exc x e' => fCls l x e'
  | r => r
/-- the clauses' walks and what they are on data -/
inductive ClSn (c : Ct) : List Cl → List Cf → Prop
  | nil : ClSn c [] []
  | no {cv : Value} {tbl : Nat → Option Bool} {ts : Addr → Value → Option Addr → TS} {g : FS} {l : List Cl} {lf : List Cf} (ok : TryOk c cv tbl) (hg : ∀ a cls d, SndS c W0 (ts a cls d) g) (r : ClSn c l lf) : ClSn c (⟨cv, none, ts⟩ :: l) ((tbl, none, g) :: lf)
  | as {cv : Value} {tbl : Nat → Option Bool} {i : Nat} {ts : Addr → Value → Option Addr → TS} {g : FS} {l : List Cl} {lf : List Cf} (ok : TryOk c cv tbl) (hg : ∀ a cls d, SndS (c.hd (some (a, cls, d))) W0 (ts a cls d) g) (r : ClSn c l lf) : ClSn c (⟨cv, some i, ts⟩ :: l) ((tbl, some i, g) :: lf)
section
variable {c : Ct} {W : WX}
theorem sn_clauses {z : Zs} {F : Hp} {D : Ends} : ∀ {l : List Cl} {lf : List Cf}, ClSn c l lf → ∀ {x : XV} {e' : DEnv}, Wp (fCls lf x e') (PoS c z F D) (XpS c z W F) →
    ∀ (σ' : L2.St) (cls : Value) (dd : Option Addr) (H' F' : Hp), Ex F F' → I2 c z σ' H' F' e' → XR c F' x cls dd → wCl c.K W D l cls dd σ' H' := by
  intro l lf hk
  induction hk with
  | nil => intro x e' h σ' cls dd H' F' x1 J r; exact h σ' cls dd H' F' x1 J r
  | @no cv tbl ts g l lf ok hg _ ih =>
    intro x e' h σ' cls dd H' F' x1 J r
    have hc : cls = .ref (c.cl x.k) := r.1
    unfold fCls at h
    cases ht : tbl x.k with
    | none => rw [ht] at h; exact h.elim
    | some b =>
      rw [ht] at h
      refine ⟨b, by rw [hc]; exact ok _ _ ht, fun hb1 a ha => ?_, fun hb0 => ?_⟩
      · subst hb1
        dsimp only at h
        refine hg a cls dd z σ' H' F' _ _ J ?_
        cases hq : g e' with
        | stuck => rw [hq] at h; exact h
        | exc x2 e2 => rw [hq] at h; exact h.elim
        | ok out =>
          rw [hq] at h
          have h' : PoS c z F D out := h
          exact h'.mono x1
      · subst hb0
        exact ih h σ' cls dd H' F' x1 J r
  | @as cv tbl i ts g l lf ok hg _ ih =>
    intro x e' h σ' cls dd H' F' x1 J r
    have hc : cls = .ref (c.cl x.k) := r.1
    unfold fCls at h
    cases ht : tbl x.k with
    | none => rw [ht] at h; exact h.elim
    | some b =>
      rw [ht] at h
      refine ⟨b, by rw [hc]; exact ok _ _ ht, fun hb1 a ha => ?_, fun hb0 => ?_⟩
      · subst hb1
        dsimp only at h
        split at h
        · rename_i hk
          obtain ⟨no, hi⟩ := Bool.and_eq_true_iff.mp hk
          have hi := of_decide_eq_true hi
          have J1 := (J.hd (o := some (a, cls, dd)) no).storeX (i := i) (v := .ref a) (x := x) (by rw [← J.len]; exact hi) ⟨a, cls, dd, rfl, rfl, XR.hd.mpr r⟩
          refine hg a cls dd z (σ'.set i (some (.ref a))) H' F' _ _ J1 ?_
          cases hq : g (e'.set i (some (.ex x))) with
          | stuck => rw [hq] at h; exact h
          | exc x2 e2 => rw [hq] at h; exact h.elim
          | ok out =>
            rw [hq] at h
            cases out with
            | nx e2 =>
              intro σ2 H2 F2 x2 K
              have h' : Wp (if noX (e2.set i none) then (Res.ok (Out.nx (e2.set i none))) else .stuck) (PoS c z F D) (XpS c z W F) := h
              split at h'
              · rename_i hn
                exact h' _ H2 F2 (x1.trans x2) (K.unbind.unhd hn)
              · exact h'.elim
            | bk e2 =>
              intro σ2 H2 F2 x2 K
              have h' : Wp (if noX (e2.set i none) then (Res.ok (Out.bk (e2.set i none))) else .stuck) (PoS c z F D) (XpS c z W F) := h
              split at h'
              · rename_i hn
                exact h' _ H2 F2 (x1.trans x2) (K.unbind.unhd hn)
              · exact h'.elim
            | ct e2 =>
              intro σ2 H2 F2 x2 K
              have h' : Wp (if noX (e2.set i none) then (Res.ok (Out.ct (e2.set i none))) else .stuck) (PoS c z F D) (XpS c z W F) := h
              split at h'
              · rename_i hn
                exact h' _ H2 F2 (x1.trans x2) (K.unbind.unhd hn)
              · exact h'.elim
            | rt t e2 =>
              intro v σ2 H2 F2 x2 K tr
              have h' : Wp (if noX (e2.set i none) && offT i t then (Res.ok (Out.rt t (e2.set i none))) else .stuck) (PoS c z F D) (XpS c z W F) := h
              split at h'
              · rename_i hn
                obtain ⟨hn, ho⟩ := Bool.and_eq_true_iff.mp hn
                exact h' v _ H2 F2 (x1.trans x2) (K.unbind.unhd hn) (tr.unhd ho)
              · exact h'.elim
        · exact h.elim
      · subst hb0
        exact ih h σ' cls dd H' F' x1 J r
theorem sn_tryM {tb : WX → TS} {f : FS} {l : List Cl} {lf : List Cf} (hl : ClSn c l lf) (hb : ∀ W', SndS c W' (tb W') f) : SndS c W (fun D σ H => tb (wCl c.K W D l) D σ H) (fTryM lf f) := fun z σ H F e D I h => by
  refine hb (wCl c.K W D l) z σ H F e D I ?_
  unfold fTryM at h
  cases hf : f e with
  | stuck => rw [hf] at h; exact h
  | ok r => rw [hf] at h; exact h
  | exc x e' =>
    rw [hf] at h
    exact fun σ' cls dd H' F' x1 J r => sn_clauses hl h σ' cls dd H' F' x1 J r
/-- the clauses' derivations -/
inductive DCl (X : Cx) (c : Ct) : List ExceptHandler → List Cl → List Cf → Prop
  | nil : DCl X c [] [] []
  | no {x : Str} {cv : Value} {tbl : Nat → Option Bool} {ts : Addr → Value → Option Addr → TS} {g : FS} {s0 : Stmt} {st : List Stmt} {p1 p2 : Pos} {hs : List ExceptHandler} {l : List Cl} {lf : List Cf} (hc : Names X x cv) (ok : TryOk c cv tbl)
      (hu : ∀ (a : Addr) (u : Obj) (q : Value) (d : Option Addr) (pn : List (Addr × Obj)), Zc q d u → (∃ us, u.data = .fields us) → DSs (X.suite a ((a, u) :: pn)) c W0 (s0 :: st) (ts a q d) g) (r : DCl X c hs l lf) :
      DCl X c (.ExceptHandler (some (.Name x p1)) none (s0 :: st) p2 :: hs) (⟨cv, none, ts⟩ :: l) ((tbl, none, g) :: lf)
  | as {x n : Str} {i : Nat} {cv : Value} {tbl : Nat → Option Bool} {ts : Addr → Value → Option Addr → TS} {g : FS} {s0 : Stmt} {st : List Stmt} {p1 p2 : Pos} {hs : List ExceptHandler} {l : List Cl} {lf : List Cf} (hN : X.N.Nodup) (hi : X.N[i]? = some n) (hn : X.env.kindOf n = some .local) (hc : Names X x cv) (ok : TryOk c cv tbl)
      (hu : ∀ (a : Addr) (u : Obj) (q : Value) (d : Option Addr) (pn : List (Addr × Obj)), Zc q d u → (∃ us, u.data = .fields us) → DSs (X.suite a ((a, u) :: pn)) (c.hd (some (a, q, d))) W0 (s0 :: st) (ts a q d) g) (r : DCl X c hs l lf) :
      DCl X c (.ExceptHandler (some (.Name x p1)) (some n) (s0 :: st) p2 :: hs) (⟨cv, some i, ts⟩ :: l) ((tbl, some i, g) :: lf)
theorem DCl.walk {X : Cx} {hs : List ExceptHandler} {l : List Cl} {lf : List Cf} (h : DCl X c hs l lf) : ClOk X hs l ∧ ClSn c l lf := by
  induction h with
  | nil => exact ⟨.nil, .nil⟩
  | no hc ok hu _ ih => exact ⟨.no hc (fun a u q d pn z1 z2 => (hu a u q d pn z1 z2).ps) ih.1, .no ok (fun a q d => (hu a ⟨q, d, .fields #[], #[]⟩ q d [] ⟨rfl, rfl⟩ ⟨_, rfl⟩).sn) ih.2⟩
  | as hN hi hn hc ok hu _ ih => exact ⟨.as hN hi hn hc (fun a u q d pn z1 z2 => (hu a u q d pn z1 z2).ps) ih.1, .as ok (fun a q d => (hu a ⟨q, d, .fields #[], #[]⟩ q d [] ⟨rfl, rfl⟩ ⟨_, rfl⟩).sn) ih.2⟩
theorem ds_try_many {X : Cx} {body : List Stmt} {k0 : ExceptHandler} {hs : List ExceptHandler} {l : List Cl} {lf : List Cf} {pos : Pos} {tb : WX → TS} {f : FS} (stk : X.stack = X.env :: X.outer) (fr : X.env.frame = some X.env.locals) (tk : Takes X W) (hK : X.K = c.K)
    (hb : ∀ (W' : WX) (pn : List (Addr × Obj)) (xe : Value → Shared → Prop), Takes (X.tr pn xe) W' → PassesOwn (model X.prog X.w) X.A X.env xe → DSs (X.tr pn xe) c W' body (tb W') f) (hk : DCl X c (k0 :: hs) l lf) :
    DS X c W (.Try body (k0 :: hs) [] [] pos) (fun D σ H => tb (wCl c.K W D l) D σ H) (fTryM lf f) :=
  ⟨hK ▸ ps_try_cl stk fr tk (fun V pn xe t p => (hb V pn xe t p).ps) hk.walk.1, sn_tryM hk.walk.2 fun V => (hb V [] (xeT X) (takes_T stk fr) pass_T).sn⟩
end
end DL

/-! DL, part af: an own operator whose right side is an int or an instance of another class (which has no such operator). -/
namespace PySem.W
open PySem PySem.Calls PyProof.Rows
/-- a class right under object -/
def underObj (K : Frag) (C : Addr) : Bool := (clsIn K C).any fun cd => cd.mro == [.ref C, .type "object"]
section
variable {prog : Program} {w : World} {M : Model} {A : Around} {E : Value → Shared → Prop} {s : Shared} {K : Frag} {x C D L f : Addr} {h₀ : Heap} {m : Str → Option Value} {ox : Obj} {od : Option Obj} {nm : String}
theorem lacks_K {h : Heap} (X : K.In h) (u : underObj K D = true) (n1 : findIn K (.ref D) (PySem.dunder nm) = some none) (n2 : findIn K (.ref D) (dunderR nm) = some none)
    (o1 : findIn K (.type "object") (PySem.dunder nm) = some none) (o2 : findIn K (.type "object") (dunderR nm) = some none) : Looks M h (fillsNumberSlot (.ref D) nm) false := by
  intro A Q E s k q
  obtain ⟨cd, hc, hm⟩ := any_some u
  have hm := beq_iff_eq.mp hm
  unfold fillsNumberSlot
  refine wpAny_bind ((looks_clsIn X hc).andThen (f := fun cd => pure cd.mro) .now A _ E s k ?_)
  rw [hm, List.anyM_cons]
  refine wpAny_bind ?_
  show wpAny M A (List.anyM _ [PySem.dunder nm, dunderR nm]) _ _ _
  rw [List.anyM_cons]
  refine wpAny_bind (wpAny_bind (looks_findIn X n1 A _ E s k (wpAny_pure ?_)))
  rw [if_neg (by decide), List.anyM_cons]
  refine wpAny_bind (wpAny_bind (looks_findIn X n2 A _ E s k (wpAny_pure ?_)))
  rw [if_neg (by decide), List.anyM_nil]
  refine wpAny_pure ?_
  rw [if_neg (by decide), List.anyM_cons]
  refine wpAny_bind (wpAny_bind (looks_findIn X o1 A _ E s k (wpAny_bind (looks_findIn X o2 A _ E s k (wpAny_pure ?_)))))
  rw [if_neg (by decide), List.anyM_nil]
  exact wpAny_pure q
theorem dl_binO {op : Operator} {b : Value} {Q : Value → Shared → Prop} (F : Fr h₀ L s.heap m) (X₀ : K.In h₀) (I : InstAt s.heap x ox C od) (hb : Looks (model prog w) s.heap (typeOf b) (.ref D)) (hne : (C == D) = false) (hc : selfFirst K C = true)
    (hs : findIn K (.ref C) (PySem.dunder op.info.2) = some (some (.ref f))) (hf : isFn K (.ref f) = true)
    (u : underObj K D = true) (n1 : findIn K (.ref D) (PySem.dunder op.info.2) = some none) (n2 : findIn K (.ref D) (dunderR op.info.2) = some none)
    (o1 : findIn K (.type "object") (PySem.dunder op.info.2) = some none) (o2 : findIn K (.type "object") (dunderR op.info.2) = some none)
    (h : wpAny (model prog w) A (call (.ref f) [.ref x, b]) (CmpBack Q) E s) : wpAny (model prog w) A (binaryOp op (.ref x) b) Q E s := by
  have X := X₀.keeps F.keep
  obtain ⟨cd, rest, hcd, hm⟩ := ksp_first hc
  have ne : (Value.ref C == Value.ref D) = false := Bool.eq_false_iff.mpr fun q => by
    have := beq_iff_eq.mp q
    cases this
    simp at hne
  unfold binaryOp
  refine wpAny_holding (wpAny_bind ?_)
  unfold binaryOp1
  refine wpAny_bind (I.type.here (wpAny_bind (hb.here (wpAny_bind ((fills_K X hcd hm hs).here ?_)))))
  rw [ne]
  simp only [Bool.false_eq_true, if_false]
  refine wpAny_bind ((lacks_K X u n1 n2 o1 o2).here ?_)
  simp only [Bool.and_false, Bool.false_eq_true, if_false, Bool.false_and, pure_bind]
  refine wpAny_bind (m := tryMethod (.ref x) _ b) ?_
  unfold tryMethod
  refine wpAny_bind (special_fn X I hs (beq_iff_eq.mp hf) (wpAny_mono h (fun v s' hv => ?_) fun _ _ e => e))
  cases v <;> first | exact hv.elim | exact wpAny_pure (wpAny_pure (wpAny_pure hv))
end
end PySem.W
namespace DL
open PySem L2 Evl
section
variable {X : Cx} {c : Ct} {W : WX} {k n j : Nat} {f g C : Addr} {fd : FuncData} {ps : List Str} {m : Fn} {p pos apos : Pos} {a b o : Expr} {ta tb : TE} {fa fb : FE} {sp : Sp} {E : L2.St → XK} {CX : CXT} {op : Operator}
/-- .. with an instance of the class at D on the right -/
structure Own2O (K : PySem.W.Frag) (C D : Addr) (op : Operator) : Prop where
  ne : (C == D) = false
  u : PySem.W.underObj K D = true
  n1 : PySem.W.findIn K (.ref D) (PySem.dunder op.info.2) = some none
  n2 : PySem.W.findIn K (.ref D) (dunderR op.info.2) = some none
  o1 : PySem.W.findIn K (.type "object") (PySem.dunder op.info.2) = some none
  o2 : PySem.W.findIn K (.type "object") (dunderR op.info.2) = some none
def rOwnR (K : PySem.W.Frag) (C D : Addr) (sp : Sp) (E : L2.St → XK) : L2.St → R2 := fun σ x y H Q => ∃ a dx fs, x = .ref a ∧ H a = some (.ins C dx fs) ∧ ((∃ i, y = .int i) ∨ ∃ b dy gs, y = .ref b ∧ H b = some (.ins D dy gs)) ∧ sp [x, y] H Q (E σ)
theorem pe_ownR {D : Addr} (w2 : Own2 X.K C f op) (wi : Own2I X.K C op) (wo : Own2O X.K C D op) (F : FnOk X.prog X.w X.K X.mg X.base CX k f fd ps sp) (hr : Room k X.A) (hb : Binds X.K fd ps []) (hx : ∀ σ, PassesAt CX X σ (E σ)) (ha : PE X a ta) (hb' : PE X b tb) : PE X (.BinOp a op b pos) (tOpS (rOwnR X.K C D sp E) ta tb) := by
  refine ⟨fun pins s σ H Q I h => ?_⟩
  refine wpAny_BinOp (bin ha hb' I h fun v u s2 x y H2 I2 rx ry q => ?_)
  obtain ⟨p, dx, fs, rfl, h1, h2, hsp⟩ := q
  cases rx
  obtain ⟨_, od, J⟩ := Inv.inst I2 h1
  obtain ⟨m, hF⟩ := I2.fr
  rcases h2 with ⟨i, rfl⟩ | ⟨q', dy, gs, rfl, h2⟩
  · obtain ⟨t, rfl⟩ := ry
    obtain ⟨⟨rc, r1, r2⟩, ⟨fo, e1⟩, ⟨ro, e2⟩, hsub⟩ := wi
    exact PySem.W.ksp_binT hF I2.ok.mod.kin J (T := "int") rfl w2.fst w2.s w2.fn r1 r2 e1 e2 hsub (wpAny_mono (run_fnSD (us := [.ref p, .int i t]) (vs := [.ref p, .int i]) F hr hb .nil (hx σ) I2 (.cons rfl (.cons ⟨t, rfl⟩ .nil)) hsp) (fun _ _ h => EP.back h) fun _ _ h => h)
  · cases ry
    obtain ⟨_, od', J'⟩ := Inv.inst I2 h2
    exact PySem.W.dl_binO hF I2.ok.mod.kin J J'.type wo.ne w2.fst w2.s w2.fn wo.u wo.n1 wo.n2 wo.o1 wo.o2 (wpAny_mono (run_fnSD (us := [.ref p, .ref q']) (vs := [.ref p, .ref q']) F hr hb .nil (hx σ) I2 (.cons rfl (.cons rfl .nil)) hsp) (fun _ _ h => EP.back h) fun _ _ h => h)
def isR (j : Nat) : D → Bool
  | .int _ => true
  | .ins k _ => k == j
  | _ => false
theorem de_ownR {i j : Nat} (tk : Takes X W) (hK : X.K = c.K) (w2 : Own2 c.K (c.cl i) f op) (wi : Own2I c.K (c.cl i) op) (wo : Own2O c.K (c.cl i) (c.cl j) op) (F : FnOk X.prog X.w X.K X.mg X.base (L2.CX X.prog X.w) k f fd ps (spD c 2 m)) (hr : Room k X.A) (hb : Binds X.K fd ps []) (ha : DE X c W a ta fa) (hb' : DE X c W b tb fb) :
    DE X c W (.BinOp a op b pos) (tOpS (rOwnR c.K (c.cl i) (c.cl j) (spD c 2 m) (WE W)) ta tb) (fOwn2 (isIns i) (isR j) false m fa fb) :=
  ⟨hK ▸ pe_ownR (hK ▸ w2) (hK ▸ wi) (hK ▸ wo) F hr hb (fun σ => passAt tk σ) ha.pe hb'.pe, sn_own2 (R := fun σ x y H2 Q => rOwnR c.K (c.cl i) (c.cl j) (spD c 2 m) (WE W) σ x y H2 Q) (fun σ x y H2 Q F d1 d2 e v1 v2 h1 h2 hs => by
    obtain ⟨ds, rfl⟩ := isIns_eq h1
    obtain ⟨p, dx, vs, rfl, g1, _⟩ := v1.ins e
    cases d2 with
    | int n => exact ⟨p, dx, _, rfl, g1, .inl ⟨n, v2.int⟩, hs⟩
    | ins q es =>
      have : q = j := beq_iff_eq.mp h2
      subst this
      obtain ⟨r, dy, ws, rfl, g2, _⟩ := v2.ins e
      exact ⟨p, dx, _, rfl, g1, .inr ⟨r, dy, _, rfl, g2⟩, hs⟩
    | _ => cases h2) ha.sn hb'.sn⟩
end
end DL

/-! DL, part ag: == and != of lists that hold instances with an own ==, where they are equal. -/
namespace DLQ
open PySem PySem.SeqAt GQ
open AutoSeq1 (wpAny_loadPart')
open MeetsSeq MeetsSeq2 MeetsSeq3 SeqRoads2
section
variable {P : Program} {w : World} {A : Around} {R : Result → Shared → Prop}
theorem differ_turns (p q : Addr) (N : Nat) (J : Nat → Shared → Prop) (look : ListI P w A (fun e t => R (.error e) t) p q N J) (last : ∀ t, J N t → R (.ok (.ret (.bool false))) t) (left : Nat) :
    ∀ at_ : Nat, N - at_ = left → at_ ≤ N → ∀ t, J at_ t →
      wpAny (model P w) A.in1 (Builtin.«list.__eq__.loop» ⟨[.ref p, .ref q, rawInt at_, rawInt 3], []⟩) (FinOf P w A R) (fun e t => R (.error e) t) t := by
  induction left with
  | zero =>
    intro at_ le1 le2 t j
    obtain ⟨us, vs, m1, m2, at1, at2, z1, z2, _⟩ := look _ _ j
    obtain rfl : at_ = N := by omega
    have done_ := last t j
    obtain ⟨hp, g, d, tk, os⟩ := t
    wp_walk using wpAny_loadPart' at1, wpAny_loadPart' at2
    have none1 : us[((at_ : Nat) : Int).toNat]? = none := by simp; omega
    have none2 : vs[((at_ : Nat) : Int).toNat]? = none := by simp; omega
    rw [none1, none2]
    wp_walk using wpAny_loadPart' at1, wpAny_loadPart' at2
    show R (.ok (.ret (.bool (us.size != vs.size)))) _
    rw [z1, z2]
    simpa using done_
  | succ left more =>
    intro at_ le1 le2 t j
    obtain ⟨us, vs, m1, m2, at1, at2, z1, z2, each⟩ := look _ _ j
    have lt1 : at_ < us.size := by omega
    have lt2 : at_ < vs.size := by omega
    have this_ := each lt1 lt2
    obtain ⟨hp, g, d, tk, os⟩ := t
    wp_walk using wpAny_loadPart' at1, wpAny_loadPart' at2
    have some1 : us[((at_ : Nat) : Int).toNat]? = some us[at_] := by simp [lt1]
    have some2 : vs[((at_ : Nat) : Int).toNat]? = some vs[at_] := by simp [lt2]
    have up : ((at_ : Int) + 1) = ((at_ + 1 : Nat) : Int) := by omega
    rw [some1, some2]
    refine wpAny_bind (wpAny_mono this_ (fun y t2 z => ?_) fun _ _ z => z)
    obtain ⟨y1, z⟩ := z
    subst y1
    have rest_ := more (at_ + 1) (by omega) (by omega) t2 z
    obtain ⟨hp2, g2, d2, tk2, os2⟩ := t2
    wp_walk
    rw [up]
    refine ⟨plainId_quiet plain_eq_loop _, codeAny_builtin entry_eq_loop ?_⟩
    rw [Around.under_plainId plain_eq_loop _]; exact rest_
theorem differ_lists (p q : Addr) (N : Nat) (J : Nat → Shared → Prop) (look : ListI P w A (fun e t => R (.error e) t) p q N J) (last : ∀ t, J N t → R (.ok (.ret (.bool false))) t) {t : Shared} (j : J 0 t) :
    wpAny (model P w) A.in1 (Builtin.«list.__ne__» ⟨[.ref p, .ref q], []⟩) (FinOf P w A R) (fun e t => R (.error e) t) t := by
  obtain ⟨us, vs, m1, m2, at1, at2, z1, z2, _⟩ := look _ _ j
  have turns := differ_turns (A := A) (R := R) p q N J look last _ 0 rfl (Nat.zero_le _) t j
  obtain ⟨hp, g, d, tk, os⟩ := t
  have sub_ := AutoSeq1.sub_list_list
  have same_ : ¬ (us.size != vs.size) = true := by simp [z1, z2]
  wp_walk using wpAny_loadPart' at1, wpAny_loadPart' at2
  refine ⟨plainId_quiet plain_eq_loop _, codeAny_builtin entry_eq_loop ?_⟩
  rw [Around.under_plainId plain_eq_loop _]; exact turns
end
theorem rc_differ {P : Program} {w : World} {A : Around} {E : Value → Shared → Prop} {t : Shared} {p q : Addr} {N : Nat} {Q : Value → Shared → Prop} (hu : A.units < cLine) (J : Nat → Shared → Prop) (look : ListI P w A E p q N J)
    (last : ∀ t, J N t → Q (.bool false) t) (j : J 0 t) : wpAny (model P w) A (richCompare .NotEq (.ref p) (.ref q)) Q E t := by
  obtain ⟨us, vs, m1, m2, at1, at2, _, _, _⟩ := look _ _ j
  refine wpAny_richCompare_same_room (op := .NotEq) ⟨_, at1, rfl⟩ ⟨_, at2, rfl⟩ F.slot_list_ne (call_here F.slot_list_ne ⟨_, at1, rfl⟩ F.entry_list_ne (F.args_list_ne_2 _ _) ?_) hu
  exact differ_lists (R := wants (fun v t' => v ≠ .notImplemented ∧ Q v t') E) p q N J look (fun t' z => ⟨(fun y => nomatch y), last t' z⟩) j
end DLQ
namespace DL
open PySem L2 Evl
/-- == of plain things -/
def flatD : D → D → Bool
  | .non, .non => true
  | .bl a, .bl b => a == b
  | .int a, .int b => a == b
  | .str a, .str b => a == b
  | _, _ => false
/-- things that are equal, seen to the depth n; q: the own == -/
def deqI (q : D → D → Bool) : Nat → D → D → Bool
  | 0, a, b => flatD a b
  | n + 1, .lst xs, .lst ys => xs.length == ys.length && (xs.zip ys).all fun p => deqI q n p.1 p.2
  | n + 1, .tup xs, .tup ys => xs.length == ys.length && (xs.zip ys).all fun p => deqI q n p.1 p.2
  | _ + 1, .ins k xs, .ins j ys => q (.ins k xs) (.ins j ys)
  | _ + 1, a, b => flatD a b
/-- the own == of the class k says True -/
def ownQ (k : Nat) (m : Fn) (a b : D) : Bool := isIns k a && isIns k b && (match m [.sh a, .sh b] with
  | .ok r => (match r.1 with
    | .bl true => !r.2.1
    | _ => false)
  | _ => false)
section
variable {X : Cx} {c : Ct} {z : Zs} {W : WX} {k n lv : Nat} {f : Addr} {fd : FuncData} {ps : List Str} {m : Fn} {p pos : Pos} {a b : Expr} {ta tb : TE} {fa fb : FE} {q : D → D → Bool} {F H : Hp}
/-- they stand for things that are equal -/
def DDat (c : Ct) (r : D → D → Bool) : Eqv := fun x y H => ∃ F d1 d2, Ex F H ∧ Rp c F d1 x ∧ Rp c F d2 y ∧ r d1 d2 = true
theorem mon_dat {r : D → D → Bool} : Mon (DDat c r) := fun _ _ _ _ x ⟨F, d1, d2, h0, h1, h2, h3⟩ => ⟨F, d1, d2, fun a o e => x a o (h0 a o e), h1, h2, h3⟩
theorem flat_dat {x y : V} (h : DDat c flatD x y H) : DFlat x y H := by
  obtain ⟨F, d1, d2, h0, h1, h2, h3⟩ := h
  cases d1 <;> cases d2 <;> try cases h3
  · have e1 : x = .non := h1
    have e2 : y = .non := h2
    subst e1; subst e2
    exact ⟨rfl, rfl, rfl⟩
  · have e1 := beq_iff_eq.mp h3
    have e2 : x = .bl _ := h1
    have e3 : y = .bl _ := h2
    subst e1; subst e2; subst e3
    refine ⟨rfl, rfl, ?_⟩
    simp [eqV]
  · have e1 := beq_iff_eq.mp h3
    have e2 : x = .int _ := h1
    have e3 : y = .int _ := h2
    subst e1; subst e2; subst e3
    refine ⟨rfl, rfl, ?_⟩
    simp [eqV]
  · have e1 := beq_iff_eq.mp h3
    have e2 : x = .str _ := h1
    have e3 : y = .str _ := h2
    subst e1; subst e2; subst e3
    refine ⟨rfl, rfl, ?_⟩
    simp [eqV]
theorem prs_dat {r : D → D → Bool} {xs ys : List D} {us vs : List V} (x : Ex F H) (h1 : RpL c F xs us) (h2 : RpL c F ys vs) (hl : (xs.length == ys.length) = true) (ha : ((xs.zip ys).all fun p => r p.1 p.2) = true) : Prs (DDat c r) us vs H := by
  refine ⟨by rw [← h1.len, ← h2.len]; exact beq_iff_eq.mp hl, fun i u v g1 g2 => ?_⟩
  obtain ⟨d1, e1, r1⟩ := h1.getV g1
  obtain ⟨d2, e2, r2⟩ := h2.getV g2
  refine ⟨F, d1, d2, x, r1, r2, ?_⟩
  have := List.all_eq_true.mp ha (d1, d2) (List.mem_of_getElem? (i := i) (by rw [List.getElem?_zip_eq_some]; exact ⟨e1, e2⟩))
  exact this
/-- == to the depth n -/
theorem eqG_dat (hK : X.K = c.K) (ho : EqG X lv (DDat c q)) : ∀ n, EqG X (lv + n) (DDat c (deqI q n))
  | 0 => (eqG_flat.mono (Nat.zero_le _)).imp fun x y H h => flat_dat h
  | n + 1 => by
    have ih := eqG_dat hK ho n
    refine ((((eqG_list mon_dat ih).or (eqG_tup mon_dat ih)).or (ho.mono (m := lv + (n + 1)) (Nat.le_add_right _ _))).or (eqG_flat.mono (Nat.zero_le _))).imp fun x y H h => ?_
    obtain ⟨F, d1, d2, h0, h1, h2, h3⟩ := h
    by_cases e : ∃ xs ys, d1 = .lst xs ∧ d2 = .lst ys
    · obtain ⟨xs, ys, rfl, rfl⟩ := e
      obtain ⟨p1, us, rfl, a1, b1⟩ := h1
      obtain ⟨p2, vs, rfl, a2, b2⟩ := h2
      obtain ⟨g1, g2⟩ := Bool.and_eq_true_iff.mp h3
      exact .inl (.inl (.inl ⟨p1, p2, us, vs, rfl, rfl, h0 _ _ a1, h0 _ _ a2, prs_dat h0 b1 b2 g1 g2⟩))
    · by_cases e' : ∃ xs ys, d1 = .tup xs ∧ d2 = .tup ys
      · obtain ⟨xs, ys, rfl, rfl⟩ := e'
        obtain ⟨p1, us, rfl, a1, b1⟩ := h1
        obtain ⟨p2, vs, rfl, a2, b2⟩ := h2
        obtain ⟨g1, g2⟩ := Bool.and_eq_true_iff.mp h3
        exact .inl (.inl (.inr ⟨p1, p2, us, vs, rfl, rfl, hK ▸ ex_t h0 a1, hK ▸ ex_t h0 a2, prs_dat h0 b1 b2 g1 g2⟩))
      · by_cases e'' : ∃ i xs j ys, d1 = .ins i xs ∧ d2 = .ins j ys
        · obtain ⟨i, xs, j, ys, rfl, rfl⟩ := e''
          exact .inl (.inr ⟨F, _, _, h0, h1, h2, h3⟩)
        · refine .inr (flat_dat ⟨F, d1, d2, h0, h1, h2, ?_⟩)
          cases d1 <;> cases d2 <;> first
            | exact h3
            | exact absurd ⟨_, _, rfl, rfl⟩ e
            | exact absurd ⟨_, _, rfl, rfl⟩ e'
            | exact absurd ⟨_, _, _, _, rfl, rfl⟩ e''
theorem noBr {d1 d2 d : D} {i : Nat} (h : [B.sh d1, B.sh d2][i]? = some (.br d)) : False := by
  match i, h with
  | 0, h => cases h
  | 1, h => cases h
  | i + 2, h => simp at h
theorem eqG_own (hK : X.K = c.K) (w : OwnE c.K (c.cl k) f) (G : FnOk X.prog X.w X.K X.mg X.base (L2.CX X.prog X.w) lv f fd ps (spD c 2 m)) (hb : Binds X.K fd ps []) : EqG X lv (DDat c (ownQ k m)) := by
  have G' : FnOk X.prog X.w X.K X.mg X.base (L2.CX X.prog X.w) lv f fd ps (spEq fun a b H => DDat c (ownQ k m) (.ref a) (.ref b) H) := G.imp fun vs H Q E h => by
    obtain ⟨a, b, rfl, ⟨F, d1, d2, x, r1, r2, e⟩, hQ⟩ := h
    refine ⟨rfl, F, [.sh d1, .sh d2], x, ⟨rfl, fun i b' g => ?_, fun i j p w w' h1 => ?_⟩, ?_⟩
    · match i, g with
      | 0, g => cases g; exact ⟨_, rfl, r1⟩
      | 1, g => cases g; exact ⟨_, rfl, r2⟩
    · exact (noBr h1).elim
    · unfold ownQ at e
      obtain ⟨e1, e2⟩ := Bool.and_eq_true_iff.mp e
      split at e2
      · rename_i r hm
        split at e2
        · rename_i hr
          rw [hm]
          intro v H' F' y1 y2 kp _ dr
          rw [hr] at dr
          cases hf : r.2.1 with
          | true => rw [hf] at e2; cases e2
          | false =>
            rw [hf] at dr
            have dr : v = .bl true := dr
            subst dr
            exact hQ H' fun p o g => kp.keep p o g fun ⟨i, d, g1, _⟩ => noBr g1
        · cases e2
      · cases e2
  refine (eqG_ins (E := WE W0 []) G' (hK ▸ w.s) (hK ▸ w.fn) hb fun pins σ => passAt takes0 σ pins).imp fun x y H h => ?_
  obtain ⟨F, d1, d2, h0, h1, h2, h3⟩ := h
  obtain ⟨e1, e2⟩ := Bool.and_eq_true_iff.mp h3
  obtain ⟨e1, e3⟩ := Bool.and_eq_true_iff.mp e1
  obtain ⟨xs, rfl⟩ := isIns_eq e1
  obtain ⟨ys, rfl⟩ := isIns_eq e3
  obtain ⟨p1, dx, us, rfl, a1, b1⟩ := id h1
  obtain ⟨p2, dy, vs, rfl, a2, b2⟩ := id h2
  exact ⟨p1, p2, dx, dy, _, _, rfl, rfl, h0 _ _ a1, h0 _ _ a2, F, _, _, h0, h1, h2, h3⟩
/-! ### lists -/
/-- the two lists hold equal things -/
def DLs (c : Ct) (q : D → D → Bool) (n : Nat) : Eqv := DList (DDat c (deqI q n))
theorem ops_eqI (hK : X.K = c.K) (ho : EqG X lv (DDat c q)) (hr : Room (lv + n + 1) X.A) : OpR X (compareOp .Eq) (rEqG (DLs c q n)) := op_eqG (rcG_list mon_dat (eqG_dat hK ho n)) hr
def rNeG (D : Eqv) : R2 := fun x y H Q => D x y H ∧ ∀ H', Ext H H' → Q (.bl false) H'
theorem ops_neI (hK : X.K = c.K) (ho : EqG X lv (DDat c q)) (hr : Room (lv + n + 1) X.A) : OpR X (compareOp .NotEq) (rNeG (DLs c q n)) := by
  intro pins s σ H x y v u Q I rx ry hq
  obtain ⟨⟨p1, p2, us, vs, rfl, rfl, g1, g2, pr⟩, hq⟩ := hq
  cases rx
  cases ry
  have sb : Sub X (lv + n + 1) X.A := ⟨hr, rfl⟩
  show wpAny (model X.prog X.w) X.A (richCompare .NotEq (.ref p1) (.ref p2)) (EP X pins σ Q) X.xe s
  refine DLQ.rc_differ (N := us.length) hr.units0 (fun _ t => LoopI X pins σ H t) (fun i t l => ?_) (fun t l => ?_) ⟨H, I, Ext.rfl'⟩
  · obtain ⟨H1, I1, e1⟩ := id l
    obtain ⟨_, k1, n1, r1, m1⟩ := I1.hok p1 _ (e1 _ _ g1)
    obtain ⟨_, k2, n2, r2, m2⟩ := I1.hok p2 _ (e1 _ _ g2)
    exact ⟨k1.toArray, k2.toArray, n1, n2, m1, m2, by rw [List.size_toArray, ← r1.length], by rw [List.size_toArray, ← r2.length, ← pr.1], fun h1 h2 => turnG mon_dat (eqG_dat hK ho n) sb pr r1 r2 i h1 h2 t l⟩
  · obtain ⟨H1, I1, e1⟩ := l
    exact ⟨.bl false, H1, I1, rfl, hq H1 e1⟩
/-- == (neg: !=) of lists that are equal -/
def fEqI (q : D → D → Bool) (n : Nat) (neg : Bool) (fa fb : FE) : FE := fun e => (fa e).bind fun r => (fb r.2).bind fun s => Res.of ((lookT r.1.seal s.2).bind fun d1 => (lookT s.1 s.2).bind fun d2 => match d1, d2 with
  | .lst xs, .lst ys => if deqI q (n + 1) (.lst xs) (.lst ys) then some (T.vl (.bl (!neg)), s.2) else none
  | _, _ => none)
theorem sn_eqI {neg : Bool} {R : R2} (hR : ∀ x y H Q, DLs c q n x y H → (∀ H', Ext H H' → Q (.bl (!neg)) H') → R x y H Q) (ha : SndE c W ta fa) (hb : SndE c W tb fb) : SndE c W (tOp R ta tb) (fEqI q n neg fa fb) := fun z σ H F e Q I h => by
  unfold fEqI at h
  rw [Wp.bind] at h
  refine ha z σ H F e _ I (h.mono (fun r _ h v H1 F1 x1 I1 t1 => ?_) fun _ _ h => h)
  obtain ⟨F2, x2, I2, t2⟩ := t1.seal I1
  rw [Wp.bind] at h
  refine hb z σ H1 F2 _ _ I2 (h.mono (fun s _ h w H3 F3 x3 I3 t3 => ?_) fun _ _ h => h.mono (x1.trans x2))
  obtain ⟨a, ea, h⟩ := Wp.of h
  obtain ⟨d1, l1, ea⟩ := obind ea
  obtain ⟨d2, l2, ea⟩ := obind ea
  have k1 := (t2.keep (H' := H3) x3).view I3 l1
  have k2 := t3.view I3 l2
  split at ea <;> try cases ea
  split at ea
  · rename_i hd
    cases ea
    obtain ⟨p1, us, rfl, g1, b1⟩ := k1.lst I3.fh
    obtain ⟨p2, vs, rfl, g2, b2⟩ := k2.lst I3.fh
    obtain ⟨q1, q2⟩ := Bool.and_eq_true_iff.mp hd
    exact hR _ _ H3 Q ⟨p1, p2, us, vs, rfl, rfl, g1, g2, prs_dat I3.fh b1 b2 q1 q2⟩ fun H' x => h _ H' F3 ((x1.trans x2).trans x3) (I3.alloc x) rfl
  · cases ea
theorem de_eqI (hK : X.K = c.K) (ho : EqG X lv (DDat c q)) (hr : Room (lv + n + 1) X.A) (ha : DE X c W a ta fa) (hb : DE X c W b tb fb) (hm : behindInMarks .Eq b = false) :
    DE X c W (.Compare a [.Eq] [b] pos) (tOp (rEqG (DLs c q n)) ta tb) (fEqI q n false fa fb) := ⟨pe_cmpR (ops_eqI hK ho hr) ha.pe hb.pe hm, sn_eqI (fun _ _ _ _ h k => ⟨h, k⟩) ha.sn hb.sn⟩
theorem dt_eqI (hK : X.K = c.K) (ho : EqG X lv (DDat c q)) (hr : Room (lv + n + 1) X.A) (ha : DE X c W a ta fa) (hb : DE X c W b tb fb) (hm : behindInMarks .Eq b = false) :
    DT X c W (.Compare a [.Eq] [b] pos) (tTest (tOp (rEqG (DLs c q n)) ta tb)) (fB (fEqI q n false fa fb)) := ⟨pt_cmpR (ops_eqI hK ho hr) ha.pe hb.pe hm, sn_B (fun _ _ _ h => h) (sn_eqI (fun _ _ _ _ h k => ⟨h, k⟩) ha.sn hb.sn)⟩
theorem de_neI (hK : X.K = c.K) (ho : EqG X lv (DDat c q)) (hr : Room (lv + n + 1) X.A) (ha : DE X c W a ta fa) (hb : DE X c W b tb fb) (hm : behindInMarks .NotEq b = false) :
    DE X c W (.Compare a [.NotEq] [b] pos) (tOp (rNeG (DLs c q n)) ta tb) (fEqI q n true fa fb) := ⟨pe_cmpR (ops_neI hK ho hr) ha.pe hb.pe hm, sn_eqI (fun _ _ _ _ h k => ⟨h, k⟩) ha.sn hb.sn⟩
theorem dt_neI (hK : X.K = c.K) (ho : EqG X lv (DDat c q)) (hr : Room (lv + n + 1) X.A) (ha : DE X c W a ta fa) (hb : DE X c W b tb fb) (hm : behindInMarks .NotEq b = false) :
    DT X c W (.Compare a [.NotEq] [b] pos) (tTest (tOp (rNeG (DLs c q n)) ta tb)) (fB (fEqI q n true fa fb)) := ⟨pt_cmpR (ops_neI hK ho hr) ha.pe hb.pe hm, sn_B (fun _ _ _ h => h) (sn_eqI (fun _ _ _ _ h k => ⟨h, k⟩) ha.sn hb.sn)⟩
end
end DL

/-! DL, part ah: dicts. -/
namespace DL
open PySem PyProof.Rows L2 Evl
/-- the object of a dict of the kind t at p -/
def EntAt (c : Ct) (H : Hp) (t : Bool) (ks : List D) (ws vs : List V) (p : Addr) : Prop := (t = false ∧ ∃ kvs : List (Key × V), H p = some (.dK kvs) ∧ ks = kvs.map (fun x => keyD x.1) ∧ ws = kvs.map (fun x => kV x.1) ∧ vs = kvs.map (·.2)) ∨
  t = true ∧ ∃ xs : TEs, H p = some (tdO c.w p xs) ∧ nkOfL ks = some (xs.map (·.1)) ∧ ws = xs.map (fun x => V.ref x.2.1) ∧ vs = xs.map (·.2.2)
/-- an int or a text as a key -/
def atomK : D → Option Key
  | .int i => some (.inl i)
  | .str s => some (.inr s)
  | _ => none
/-- a tuple as a key -/
def tupK : D → Option NestedKey
  | .tup ds => (nkOf (.tup ds)).bind fun k => if k.depth ≤ 8 then some k else none
  | _ => none
/-- what the dict holds at the key k (none: k is no key of its kind) -/
def dLook (t : Bool) (ks ds : List D) (k : D) : Option (Option D) := if t then (tupK k).map fun q => ((ks.zip ds).find? fun e => decide (nkOf e.1 = some q)).map (·.2)
  else (atomK k).map fun q => ((ks.zip ds).find? fun e => decide (atomK e.1 = some q)).map (·.2)
section
variable {X : Cx} {c : Ct} {z : Zs} {W : WX} {F H : Hp} {σ : L2.St} {s : Shared} {pins : List (Addr × Obj)} {t : Bool} {ks ds : List D} {ws vs : List V} {p : Addr} {a b : Expr} {ta tb : TE} {fa fb : FE} {pos : Pos}
theorem View.dct {v : V} (x : Ex F H) (h : View c F H (.dct t ks ds) v) : ∃ p ws vs, v = .ref p ∧ EntAt c H t ks ws vs p ∧ RpL c F ks ws ∧ RpL c F ds vs := by
  rcases h with ⟨p, ws, vs, h1, h2, h3, h4⟩ | ⟨p, h1, _, ws, vs, h2, h3, h4⟩
  · refine ⟨p, ws, vs, h1, ?_, h3, h4⟩
    rcases h2 with ⟨g0, kvs, g1, g2⟩ | ⟨g0, xs, g1, g2⟩
    · exact .inl ⟨g0, kvs, x _ _ g1, g2⟩
    · exact .inr ⟨g0, xs, x _ _ g1, g2⟩
  · exact ⟨p, ws, vs, h1, h2, h3, h4⟩
/-! ### keys -/
mutual
theorem Rp.nk (I : Inv X pins σ H s) (hK : X.K = c.K) (x : Ex F H) : ∀ (d : D) (k : NestedKey) (v : V) (u : Value), nkOf d = some k → Rp c F d v → RelV v u → NestedIs s.heap k u
  | .non, _, _, _, h, r, q => by cases h; cases r; cases q; exact .none
  | .bl b, _, _, _, h, r, q => by cases h; cases r; cases q; exact .bool rfl
  | .int i, _, _, _, h, r, q => by cases h; cases r; obtain ⟨t, rfl⟩ := q; exact .int i t
  | .str i, _, _, _, h, r, q => by cases h; cases r; obtain ⟨t, rfl⟩ := q; exact .text i t
  | .tup ds, _, _, _, h, r, q => by
    obtain ⟨ks, h1, rfl⟩ := omap h
    obtain ⟨p, vs, rfl, h2, h3⟩ := r
    cases q
    obtain ⟨its, r, ⟨o, e1, e2, n, e3⟩, _⟩ := I.tuple (show SqT X.K H p vs from hK ▸ ex_t x h2)
    exact .tup e1 e2 e3 (by simpa using RpL.nk I hK x ds ks vs its h1 h3 r)
  | .lst _, _, _, _, h, _, _ => by cases h
  | .rol _, _, _, _, h, _, _ => by cases h
  | .ins _ _, _, _, _, h, _, _ => by cases h
  | .dct _ _ _, _, _, _, h, _, _ => by cases h
theorem RpL.nk (I : Inv X pins σ H s) (hK : X.K = c.K) (x : Ex F H) : ∀ (ds : List D) (ks : List NestedKey) (vs : List V) (us : List Value), nkOfL ds = some ks → RpL c F ds vs → Vals vs us → NestedAll s.heap ks us
  | [], _, _, _, h, r, q => by cases h; cases r; cases q; exact .nil
  | d :: ds, _, _, _, h, r, q => by
    obtain ⟨k, h1, h⟩ := obind h
    obtain ⟨ks, h2, rfl⟩ := omap h
    obtain ⟨v, vs, rfl, r1, r2⟩ := r
    cases q with
    | cons q1 q2 => exact .cons (Rp.nk I hK x d k v _ h1 r1 q1) (RpL.nk I hK x ds ks vs _ h2 r2 q2)
end
theorem atomK_keyD (k : Key) : atomK (keyD k) = some k := by cases k <;> rfl
theorem atomK_V {d : D} {k : Key} {v : V} (h : atomK d = some k) (r : Rp c F d v) : v = kV k := by
  cases d <;> try cases h
  · exact r
  · exact r
theorem tupK_of {d : D} {k : NestedKey} (h : tupK d = some k) : ∃ es, d = .tup es ∧ nkOf d = some k ∧ k.depth ≤ 8 := by
  cases d <;> try cases h
  obtain ⟨q, h1, h2⟩ := obind h
  split at h2
  · cases h2; exact ⟨_, rfl, h1, by assumption⟩
  · cases h2
/-- what a dict of ints and texts holds -/
theorem look_atom {k : Key} : ∀ {kvs : List (Key × V)} {ds : List D}, RpL c F ds (kvs.map (·.2)) →
    (((kvs.map fun x => keyD x.1).zip ds).find? (fun e => decide (atomK e.1 = some k)) = none → valV kvs k = none) ∧
    ∀ e, ((kvs.map fun x => keyD x.1).zip ds).find? (fun e => decide (atomK e.1 = some k)) = some e → ∃ v, valV kvs k = some v ∧ Rp c F e.2 v
  | [], _, _ => ⟨fun _ => rfl, fun e h => by simp at h⟩
  | p :: kvs, ds, h => by
    obtain ⟨d, ds, rfl, h1, h2⟩ : ∃ d es, ds = d :: es ∧ Rp c F d p.2 ∧ RpL c F es (kvs.map (·.2)) := by
      cases ds with
      | nil => cases h
      | cons d es => obtain ⟨v, r, e, g1, g2⟩ := h; cases e; exact ⟨d, es, rfl, g1, g2⟩
    obtain ⟨i1, i2⟩ := look_atom (k := k) h2
    rw [List.map_cons, List.zip_cons_cons, List.find?_cons]
    by_cases e : p.1 = k
    · subst e
      rw [show decide (atomK (keyD p.1, d).1 = some p.1) = true from decide_eq_true (atomK_keyD _)]
      exact ⟨fun q => (nomatch q), fun e q => by cases q; exact ⟨p.2, valV_pos rfl, h1⟩⟩
    · rw [show decide (atomK (keyD p.1, d).1 = some k) = false from decide_eq_false fun q => e (Option.some.inj ((atomK_keyD _).symm.trans q)), valV_neg e]
      exact ⟨i1, i2⟩
/-- .. whose keys are tuples -/
theorem look_tup {k : NestedKey} : ∀ {xs : TEs} {ys : List (NestedKey × Addr × Value)} {ks ds : List D}, nkOfL ks = some (xs.map (·.1)) → RpL c F ds (xs.map (·.2.2)) →
    Paired (fun (a : NestedKey × Addr × V) (b : NestedKey × Addr × Value) => a.1 = b.1 ∧ a.2.1 = b.2.1 ∧ RelV a.2.2 b.2.2) xs ys →
    ((ks.zip ds).find? (fun e => decide (nkOf e.1 = some k)) = none → atKey ys k = none) ∧
    ∀ e, (ks.zip ds).find? (fun e => decide (nkOf e.1 = some k)) = some e → ∃ p v, atKey ys k = some p ∧ Rp c F e.2 v ∧ RelV v p.2
  | [], _, ks, _, h, _, q => by
    cases q
    cases ks with
    | nil => exact ⟨fun _ => rfl, fun e h => by simp at h⟩
    | cons a l => obtain ⟨_, _, h⟩ := obind h; obtain ⟨_, _, h⟩ := omap h; cases h
  | x :: xs, _, ks, ds, h, g, q => by
    cases q with
    | @cons _ y _ ys q1 q2 =>
    cases ks with
    | nil => cases h
    | cons a l =>
      obtain ⟨k0, e1, h⟩ := obind h
      obtain ⟨r, e2, h⟩ := omap h
      cases h
      cases ds with
      | nil => cases g
      | cons d es =>
        obtain ⟨v, w, e, g1, g2⟩ := g
        cases e
        obtain ⟨i1, i2⟩ := look_tup (k := k) e2 g2 q2
        rw [List.zip_cons_cons, List.find?_cons]
        by_cases e : x.1 = k
        · subst e
          rw [show decide (nkOf (a, d).1 = some x.1) = true from decide_eq_true e1]
          refine ⟨fun q => (nomatch q), fun e q => ?_⟩
          cases q
          refine ⟨y.2, x.2.2, ?_, g1, q1.2.2⟩
          unfold atKey
          rw [List.find?_cons, show decide (y.1 = x.1) = true from decide_eq_true q1.1.symm]
          rfl
        · rw [show decide (nkOf (a, d).1 = some k) = false from decide_eq_false fun q => e (Option.some.inj (e1.symm.trans q))]
          have ey : atKey (y :: ys) k = atKey ys k := by
            unfold atKey
            rw [List.find?_cons, show decide (y.1 = k) = false from decide_eq_false fun q => e (q1.1.trans q)]
          rw [ey]
          exact ⟨i1, i2⟩
/-! ### d[k], k in d -/
/-- x is the dict, y the key -/
structure DRep (c : Ct) (F H : Hp) (t : Bool) (ks ds : List D) (kd : D) (x y : V) (p : Addr) (ws vs : List V) : Prop where
  ref : x = .ref p
  ent : EntAt c H t ks ws vs p
  keys : RpL c F ks ws
  vals : RpL c F ds vs
  key : Rp c F kd y
  ext : Ex F H
/-- a dict of tuples as the library has it -/
theorem ent_tup {xs : TEs} (I : Inv X pins σ H s) (hK : X.K = c.K) (hW : X.w = c.w) (x : Ex F H) (h : H p = some (tdO c.w p xs)) (hk : nkOfL ks = some (xs.map (·.1))) (r : RpL c F ks (xs.map fun x => V.ref x.2.1)) :
    ∃ ys : List (NestedKey × Addr × Value), Paired (fun (a : NestedKey × Addr × V) (b : NestedKey × Addr × Value) => a.1 = b.1 ∧ a.2.1 = b.2.1 ∧ RelV a.2.2 b.2.2) xs ys ∧ s.heap.DictOfH (nestedKind X.prog X.w) p ys ∧ xs.length ≤ sizeLine ∧ (p == sysModules) = false := by
  obtain ⟨⟨z1, z2, z3, ys, pr, o, es, ep, e1, e2, e3, e4, e5⟩, _, _⟩ := I.hok p _ h
  refine ⟨ys, pr, ⟨o, es, ep, e1, e2, e3, by rw [e4, ← hW]; rfl, ?_, e5⟩, z1, z2⟩
  have key : ∀ {xs : TEs} {ys : List (NestedKey × Addr × Value)} {ks : List D}, (∀ x ∈ xs, x.1.depth ≤ 8) → nkOfL ks = some (xs.map (·.1)) → RpL c F ks (xs.map fun x => V.ref x.2.1) →
      Paired (fun (a : NestedKey × Addr × V) (b : NestedKey × Addr × Value) => a.1 = b.1 ∧ a.2.1 = b.2.1 ∧ RelV a.2.2 b.2.2) xs ys → ∀ y ∈ ys, (nestedKind X.prog X.w).is s.heap y.1 y.2.1 := by
    intro xs ys ks z hk r pr
    induction pr generalizing ks with
    | nil => intro y hy; cases hy
    | @cons a b as bs q1 q2 ih =>
      cases ks with
      | nil => cases hk
      | cons d l =>
        obtain ⟨k0, g1, hk⟩ := obind hk
        obtain ⟨r0, g2, hk⟩ := omap hk
        cases hk
        obtain ⟨v, w, e, r1, r2⟩ := r
        cases e
        intro y hy
        rcases List.mem_cons.mp hy with e | hy
        · subst e
          exact ⟨by rw [← q1.1, ← q1.2.1]; exact Rp.nk I hK x d _ _ _ g1 r1 rfl, by rw [← q1.1]; exact z _ List.mem_cons_self⟩
        · exact ih (fun x hx => z x (List.mem_cons_of_mem _ hx)) g2 r2 y hy
  exact key z3 hk r pr
def rDGet (c : Ct) : R2 := fun x y H Q => ∃ F t ks ds kd d p ws vs, DRep c F H t ks ds kd x y p ws vs ∧ dLook t ks ds kd = some (some d) ∧ ∀ v, Rp c F d v → Q v H
def rDIn (c : Ct) (neg : Bool) : R2 := fun y x H Q => ∃ F t ks ds kd r p ws vs, DRep c F H t ks ds kd x y p ws vs ∧ dLook t ks ds kd = some r ∧ Q (.bl (r.isSome != neg)) H
theorem room8 {A : Around} (hu : A.units + 65 < cLine) : (nestedKind X.prog X.w).room A.in1 := by
  show A.in1.units + 8 < cLine
  have : A.in1.units = A.units + 1 := rfl
  omega
theorem omapL {α β : Type} {o : Option α} {f : α → β} {b : β} (h : o.map f = some b) : ∃ a, o = some a ∧ f a = b := omap h
theorem d_get {kd d : D} {x y : V} {v u : Value} {Q : VK} (hu : X.A.units + 65 < cLine) (hK : X.K = c.K) (hW : X.w = c.w) (I : Inv X pins σ H s) (rx : RelV x v) (ry : RelV y u) (R : DRep c F H t ks ds kd x y p ws vs) (l : dLook t ks ds kd = some (some d)) (q : ∀ v, Rp c F d v → Q v H) :
    s.TypeIs v "dict" ∧ wpAny (model X.prog X.w) X.A (getItem v u) (EP X pins σ Q) X.xe s := by
  obtain ⟨rfl, ent, hk, hv, hy, x⟩ := R
  cases rx
  unfold dLook at l
  rcases ent with ⟨rfl, kvs, e1, rfl, rfl, rfl⟩ | ⟨rfl, xs, e1, e2, rfl, rfl⟩
  · rw [if_neg (by decide)] at l
    obtain ⟨k, l1, l2⟩ := omapL l
    obtain ⟨e, l3, l4⟩ := omapL l2
    obtain ⟨w, g1, g2⟩ := (look_atom hv).2 e l3
    have G : DGet H p y (some w) := by rw [atomK_V l1 hy, ← g1]; exact .k e1
    refine ⟨dict_typeIs I G, d_getItem (by omega) I G ry fun w' s' I' rw' => ⟨w, H, I', rw', q w ?_⟩⟩
    rw [← l4]; exact g2
  · rw [if_pos rfl] at l
    obtain ⟨k, l1, l2⟩ := omapL l
    obtain ⟨e, l3, l4⟩ := omapL l2
    obtain ⟨es, rfl, n1, n2⟩ := tupK_of l1
    obtain ⟨ys, pr, dd, z1, z2⟩ := ent_tup I hK hW x e1 e2 hk
    obtain ⟨b, w, g1, g2, g3⟩ := (look_tup e2 hv pr).2 e l3
    obtain ⟨r, rs, rfl, _⟩ := id hy
    cases ry
    have kk := Rp.nk I hK x _ _ _ _ n1 hy (show RelV (.ref r) (.ref r) from rfl)
    refine ⟨let ⟨o, _, _, ho, h1, _⟩ := dd; ⟨o, ho, h1.1⟩, wpAny_getItem_heap (room8 hu) ⟨kk, n2⟩ dd g1 ⟨w, H, I.tok _, g3, q w ?_⟩⟩
    rw [← l4]; exact g2
theorem d_has {kd : D} {r : Option D} {x y : V} {v u : Value} {neg : Bool} {Q : VK} (hu : X.A.units + 65 < cLine) (hK : X.K = c.K) (hW : X.w = c.w) (I : Inv X pins σ H s) (rx : RelV x v) (ry : RelV y u) (R : DRep c F H t ks ds kd x y p ws vs) (l : dLook t ks ds kd = some r) (q : Q (.bl (r.isSome != neg)) H) :
    wpAny (model X.prog X.w) X.A (compareOp (if neg then .NotIn else .In) u v) (EP X pins σ Q) X.xe s := by
  obtain ⟨rfl, ent, hk, hv, hy, x⟩ := R
  cases rx
  unfold dLook at l
  rcases ent with ⟨rfl, kvs, e1, rfl, rfl, rfl⟩ | ⟨rfl, xs, e1, e2, rfl, rfl⟩
  · rw [if_neg (by decide)] at l
    obtain ⟨k, l1, l2⟩ := omapL l
    have hs : (valV kvs k).isSome = r.isSome := by
      cases hf : ((kvs.map fun x => keyD x.1).zip ds).find? (fun e => decide (atomK e.1 = some k)) with
      | none => rw [(look_atom hv).1 hf, ← l2, hf]; rfl
      | some e =>
        obtain ⟨w, g1, _⟩ := (look_atom hv).2 e hf
        rw [g1, ← l2, hf]; rfl
    have G : DGet H p y (valV kvs k) := by rw [atomK_V l1 hy]; exact .k e1
    cases neg with
    | false => exact d_in (by omega) I G ry fun s' I' => ⟨.bl r.isSome, H, I', by rw [hs]; rfl, by simpa using q⟩
    | true => exact d_notIn (by omega) I G ry fun s' I' => ⟨.bl (!r.isSome), H, I', by rw [hs]; rfl, by simpa using q⟩
  · rw [if_pos rfl] at l
    obtain ⟨k, l1, l2⟩ := omapL l
    obtain ⟨es, rfl, n1, n2⟩ := tupK_of l1
    obtain ⟨ys, pr, dd, z1, z2⟩ := ent_tup I hK hW x e1 e2 hk
    have hs : (atKey ys k).isSome = r.isSome := by
      cases hf : (ks.zip ds).find? (fun e => decide (nkOf e.1 = some k)) with
      | none => rw [(look_tup e2 hv pr).1 hf, ← l2, hf]; rfl
      | some e =>
        obtain ⟨b, w, g1, _⟩ := (look_tup e2 hv pr).2 e hf
        rw [g1, ← l2, hf]; rfl
    obtain ⟨a, rs, rfl, _⟩ := id hy
    cases ry
    have kk := Rp.nk I hK x _ _ _ _ n1 hy (show RelV (.ref a) (.ref a) from rfl)
    cases neg with
    | false => exact wpAny_in_heap (room8 hu) ⟨kk, n2⟩ z2 dd ⟨.bl r.isSome, H, I.tok _, by rw [hs]; rfl, by simpa using q⟩
    | true => exact wpAny_notIn_heap (room8 hu) ⟨kk, n2⟩ z2 dd ⟨.bl (!r.isSome), H, I.tok _, by rw [hs]; rfl, by simpa using q⟩
theorem op_inD (hu : X.A.units + 65 < cLine) (hK : X.K = c.K) (hW : X.w = c.w) : OpR X (compareOp .In) (rDIn c false) := fun pins s σ H x y v u Q I rx ry ⟨F, t, ks, ds, kd, r, p, ws, vs, R, l, q⟩ => d_has (neg := false) hu hK hW I ry rx R l q
theorem op_niD (hu : X.A.units + 65 < cLine) (hK : X.K = c.K) (hW : X.w = c.w) : OpR X (compareOp .NotIn) (rDIn c true) := fun pins s σ H x y v u Q I rx ry ⟨F, t, ks, ds, kd, r, p, ws, vs, R, l, q⟩ => d_has (neg := true) hu hK hW I ry rx R l q
def opDGet (a b : D) : Option RV := match a with
  | .dct t ks ds => (dLook t ks ds b).bind fun r => r.map .fl
  | _ => none
def opInD (a b : D) : Option RV := match b with
  | .dct t ks ds => (dLook t ks ds a).map fun r => .fl (.bl r.isSome)
  | _ => none
def opNiD (a b : D) : Option RV := match b with
  | .dct t ks ds => (dLook t ks ds a).map fun r => .fl (.bl (!r.isSome))
  | _ => none
/-- a key is shared -/
theorem look_sh {kd : D} {r : Option D} {v : V} (h : dLook t ks ds kd = some r) (y : View c F H kd v) : Rp c F kd v := by
  rcases y with y | ⟨q, _, y⟩
  · exact y
  · unfold dLook at h
    split at h
    · obtain ⟨k, l1, _⟩ := omapL h
      obtain ⟨es, rfl, _⟩ := tupK_of l1
      exact y.2.elim
    · obtain ⟨k, l1, _⟩ := omapL h
      cases kd <;> first | exact y.2.elim | cases l1
theorem ok_dget : R2Ok c (rDGet c) opDGet := by
  intro F H d1 d2 v1 v2 rv Q x k1 k2 l q
  cases d1 <;> try cases l
  obtain ⟨r, l1, l2⟩ := obind l
  obtain ⟨d, rfl, rfl⟩ := omapL l2
  obtain ⟨p, ws, vs, rfl, h1, h2, h3⟩ := k1.dct x
  exact ⟨F, _, _, _, _, d, p, ws, vs, ⟨rfl, h1, h2, h3, look_sh l1 k2, x⟩, l1, q⟩
theorem ok_inD : R2Ok c (rDIn c false) opInD := by
  intro F H d1 d2 v1 v2 rv Q x k1 k2 l q
  cases d2 <;> try cases l
  obtain ⟨r, l1, rfl⟩ := omapL l
  obtain ⟨p, ws, vs, rfl, h1, h2, h3⟩ := k2.dct x
  exact ⟨F, _, _, _, _, r, p, ws, vs, ⟨rfl, h1, h2, h3, look_sh l1 k1, x⟩, l1, by simpa using q _ rfl⟩
theorem ok_niD : R2Ok c (rDIn c true) opNiD := by
  intro F H d1 d2 v1 v2 rv Q x k1 k2 l q
  cases d2 <;> try cases l
  obtain ⟨r, l1, rfl⟩ := omapL l
  obtain ⟨p, ws, vs, rfl, h1, h2, h3⟩ := k2.dct x
  exact ⟨F, _, _, _, _, r, p, ws, vs, ⟨rfl, h1, h2, h3, look_sh l1 k1, x⟩, l1, by simpa using q _ rfl⟩
/-- d[k] -/
theorem de_dget (hu : X.A.units + 65 < cLine) (hK : X.K = c.K) (hW : X.w = c.w) (ha : DE X c W a ta fa) (hb : DE X c W b tb fb) (hs : NoSl b) : DE X c W (.Subscript a b pos) (tOp (rDGet c) ta tb) (fOp2 opDGet fa fb) :=
  ⟨⟨fun pins s σ H Q I h => subD_of PySem.F.slot_dict_getitem.lookup hs (thn (ha.pe.run pins s σ H _ I h) fun u s1 ⟨x, H1, I1, rx, q1⟩ => thn (hb.pe.run pins s1 σ H1 _ I1 q1) fun iv s2 ⟨y, H2, I2, ry, F, t, ks, ds, kd, d, p, ws, vs, R, l, q⟩ => d_get hu hK hW I2 rx ry R l q)⟩,
    sn_op2 ok_dget ha.sn hb.sn⟩
/-! ### {k: v, ..} -/
def unfl : List V → List (V × V)
  | x :: y :: r => (x, y) :: unfl r
  | _ => []
def chainT : List (TE × TE) → TA
  | [] => tNil
  | p :: r => tCons p.1 (tCons p.2 (chainT r))
theorem pairs_eq : ∀ (trs : List (TE × TE)) (σ : L2.St) (H : Hp) (R : List (V × V) → Hp → Prop), tPairs trs σ H R = chainT trs σ H fun vs H' => R (unfl vs) H'
  | [], _, _, _ => rfl
  | p :: r, σ, H, R => by
    show p.1 σ H (fun x H1 => p.2 σ H1 fun y H2 => tPairs r σ H2 fun ps H3 => R ((x, y) :: ps) H3) = p.1 σ H (fun x H1 => p.2 σ H1 fun y H2 => chainT r σ H2 fun vs H3 => R ((x, y) :: unfl vs) H3)
    simp only [pairs_eq r]
/-- the object that was put aside is another one now -/
theorem I2.unhideTo {e : DEnv} {o o' : HO} (I : I2 c (hideZ z p o) σ H F e) (h0 : z.H0 p = none) (hF : z.F0 p = none) : I2 c z σ (upd H p o') F e ∧ H p = some o ∧ F p = none ∧ ∀ i, ¬ RootAt σ e i p := by
  obtain ⟨J, hp, hF', nr⟩ := I.unhide h0 hF
  have off : ∀ {d : D} {q : Addr}, q ≠ p → Own c F H d q → Own c F (upd H p o') d q := fun ne w => w.mono (Ex.refl F) w.1 fun o h => by rw [upd_ne ne]; exact h
  refine ⟨⟨J.len, J.f0, fun a u h => ?_, fun a u h hb => ?_, fun i b h => ?_, J.dist, fun a h => ?_, J.nf, J.brv⟩, hp, hF', nr⟩
  · have ne : a ≠ p := fun q => by rw [q, hF'] at h; cases h
    rw [upd_ne ne]; exact J.fh a u h
  · have ne : a ≠ p := fun q => by rw [q, h0] at h; cases h
    rw [upd_ne ne]; exact J.keep a u h hb
  · obtain ⟨v, hv, r⟩ := J.slot i b h
    refine ⟨v, hv, ?_⟩
    cases b with
    | sh d => exact r
    | ow d =>
      obtain ⟨q, rfl, w', h1⟩ := r
      exact ⟨q, rfl, off (fun e => nr i ⟨_, h, rfl, e ▸ hv⟩) w', h1⟩
    | br d =>
      obtain ⟨q, rfl, w', hB⟩ := r
      exact ⟨q, rfl, off (fun e => nr i ⟨_, h, rfl, e ▸ hv⟩) w', hB⟩
    | ex x => exact r
  · by_cases q : a = p
    · subst q; exact ⟨o', upd_same⟩
    · obtain ⟨u, hu⟩ := J.bo a h; exact ⟨u, by rw [upd_ne q]; exact hu⟩
/-- the pairs of a display -/
def pairsA : List D → Option (List Key × List D)
  | [] => some ([], [])
  | k :: v :: r => (atomK k).bind fun q => (pairsA r).map fun u => (q :: u.1, v :: u.2)
  | _ => none
theorem pairsA_V : ∀ {ds : List D} {vs : List V} {ks : List Key} {es : List D}, RpL c F ds vs → pairsA ds = some (ks, es) → ∃ kvs : List (Key × V), unfl vs = kvs.map (fun x => (kV x.1, x.2)) ∧ kvs.map (·.1) = ks ∧ RpL c F es (kvs.map (·.2))
  | [], _, _, _, h, l => by cases h; cases l; exact ⟨[], rfl, rfl, rfl⟩
  | [_], _, _, _, _, l => by cases l
  | k :: v :: r, _, _, _, ⟨a, w, e1, r1, b, w', e2, r2, r3⟩, l => by
    subst e1; subst e2
    obtain ⟨q, l1, l⟩ := obind l
    obtain ⟨u, l2, l⟩ := omapL l
    obtain ⟨ks, es⟩ := u
    cases l
    obtain ⟨kvs, h1, h2, h3⟩ := pairsA_V r3 l2
    refine ⟨(q, b) :: kvs, ?_, by rw [List.map_cons, h2], ⟨b, _, rfl, r2, h3⟩⟩
    show (a, b) :: unfl w' = _
    rw [h1, List.map_cons, atomK_V l1 r1]
theorem merge_new : ∀ {kvs acc : List (Key × V)}, (acc.map (·.1) ++ kvs.map (·.1)).Nodup → mergeK acc kvs = acc ++ kvs
  | [], acc, _ => by rw [List.append_nil]; rfl
  | p :: r, acc, h => by
    have h1 : (acc.any fun kv => decide (kv.1 = p.1)) = false := by
      rw [List.any_eq_false]
      intro x hx
      rw [decide_eq_true_eq]
      intro e
      have := (List.nodup_append.mp h).2.2 x.1 (List.mem_map.mpr ⟨x, hx, rfl⟩) p.1 (by rw [List.map_cons]; exact List.mem_cons_self)
      exact this e
    show mergeK (putK acc p.1 p.2) r = _
    have e : putK acc p.1 p.2 = acc ++ [(p.1, p.2)] := by
      unfold putK
      rw [if_neg (by rw [h1]; decide)]
    rw [e, merge_new (by simpa using h), List.append_assoc]
    rfl
def fDisp (fr : FA) : FE := fun e => (fr e).bind fun r => Res.of ((escs r.1 r.2).bind fun q => (pairsA q.1).bind fun u => if decide u.1.Nodup && decide (u.1.length ≤ 15) then some (T.nw (.dct false (u.1.map keyD) u.2), q.2) else none)
theorem sn_disp {trs : List (TE × TE)} {fr : FA} (ha : SndA c W (chainT trs) fr) : SndE c W (tDisp trs) (fDisp fr) := fun z σ H F e Q I h => by
  intro p hp
  rw [pairs_eq]
  have hF : F p = none := by
    cases q : F p with
    | none => rfl
    | some u => have := I.fh _ _ q; rw [hp] at this; cases this
  have h0 := I.fresh0 hp
  have hF0 : z.F0 p = none := by
    cases q : z.F0 p with
    | none => rfl
    | some u => have := I.f0 _ _ q; rw [hF] at this; cases this
  have I1 := I.alloc (Ex.new (o := .dK []) hp)
  unfold fDisp at h
  rw [Wp.bind] at h
  refine ha (hideZ z p (.dK [])) σ _ F e _ (I1.hide upd_same hF fun i => I.noroot hp i) (h.mono (fun r _ h vs H1 F1 x1 K1 t1 => ?_) fun xv e' g cls dd H' F' x' K r => g cls dd H' F' x' (K.unhide h0 hF0).1 r)
  obtain ⟨o, ea, h⟩ := Wp.of h
  obtain ⟨⟨ds, e1⟩, l1, ea⟩ := obind ea
  obtain ⟨⟨ks, es⟩, l2, ea⟩ := obind ea
  split at ea
  · rename_i hk
    cases ea
    obtain ⟨hk1, hk2⟩ := Bool.and_eq_true_iff.mp hk
    obtain ⟨G, x2, J, rr⟩ := t1.escs K1 l1
    obtain ⟨kvs, g1, g2, g3⟩ := pairsA_V rr l2
    obtain ⟨J0, hp1, hG, nr⟩ := J.unhideTo (o' := .dK kvs) h0 hF0
    have em : mergeK [] kvs = kvs := merge_new (by simpa [g2] using of_decide_eq_true hk1)
    refine ⟨hp1, kvs, g1, by have := of_decide_eq_true hk2; rw [← g2, List.length_map] at this; exact this, ?_⟩
    rw [em]
    exact h _ _ G (x1.trans x2) J0 ⟨p, rfl, ⟨hG, kvs.map (fun x => kV x.1), kvs.map (·.2), .inl ⟨rfl, kvs, upd_same, by rw [← g2, List.map_map]; rfl, rfl, rfl⟩, by
      have : ∀ {ks : List Key}, RpL c G (ks.map keyD) (ks.map kV) := by
        intro ks
        induction ks with
        | nil => exact rfl
        | cons k r ih => exact ⟨kV k, _, rfl, by cases k <;> exact rfl, ih⟩
      have h2 := this (ks := ks)
      rw [← g2] at h2 ⊢
      rw [List.map_map, List.map_map] at h2
      rw [List.map_map]
      exact h2, g3⟩, h0, nr⟩
  · cases ea
theorem sn_consA {tr : TA} {fr : FA} (ha : SndE c W ta fa) (hr : SndA c W tr fr) : SndA c W (tCons ta tr) (fA1 fa fr) := fun z σ H F e Q I h => by
  unfold fA1 at h
  rw [Wp.bind] at h
  refine ha z σ H F e _ I (h.mono (fun r _ h v H1 F1 x1 I1 t1 => ?_) fun _ _ h => h)
  obtain ⟨F2, x2, I2, t2⟩ := t1.seal I1
  rw [Wp.bind] at h
  refine hr z σ H1 F2 _ _ I2 (h.mono (fun q _ h vs H3 F3 x3 I3 t3 => ?_) fun _ _ h => h.mono (x1.trans x2))
  exact h (v :: vs) H3 F3 ((x1.trans x2).trans x3) I3 ⟨v, vs, rfl, T.seal_seal _, t2.keep x3, t3⟩
structure DPs (X : Cx) (c : Ct) (W : WX) (pos : Pos) (keys : List (Option Expr)) (values : List Expr) (trs : List (TE × TE)) (fr : FA) : Prop where
  pps : PPs X pos keys values trs
  sn : SndA c W (chainT trs) fr
theorem dps_nil : DPs X c W pos [] [] [] fA0 := ⟨pps_nil, (da_nil (X := X)).sn⟩
theorem dps_cons {keys : List (Option Expr)} {values : List Expr} {trs : List (TE × TE)} {fr : FA} (hk : DE X c W a ta fa) (hv : DE X c W b tb fb) (r : DPs X c W pos keys values trs fr) : DPs X c W pos (some a :: keys) (b :: values) ((ta, tb) :: trs) (fA1 fa (fA1 fb fr)) :=
  ⟨pps_cons hk.pe hv.pe r.pps, sn_consA hk.sn (sn_consA hv.sn r.sn)⟩
theorem de_disp {keys : List (Option Expr)} {values : List Expr} {trs : List (TE × TE)} {fr : FA} (h : DPs X c W pos keys values trs fr) (h1 : keys.all (·.isSome) = true := by rfl) (h2 : keys.length = values.length := by rfl) (h3 : keys ≠ [] := by simp) (h4 : keys.length ≤ 15 := by decide) :
    DE X c W (.Dict keys values pos) (tDisp trs) (fDisp fr) := ⟨pe_disp h.pps h1 h2 h3 h4, sn_disp h.sn⟩
end
end DL

/-! DL, part ai: {} and d[k] = v. -/
namespace DL
open PySem PyProof.Rows L2 Evl
abbrev TPair (xs : TEs) (ys : List (NestedKey × Addr × Value)) : Prop := Paired (fun (a : NestedKey × Addr × V) (b : NestedKey × Addr × Value) => a.1 = b.1 ∧ a.2.1 = b.2.1 ∧ RelV a.2.2 b.2.2) xs ys
theorem td_ok {P : Program} {w : World} {H : Hp} {h : Heap} {p : Addr} {xs : TEs} {ys : List (NestedKey × Addr × Value)} {o : Obj} {es ep} (z : xs.length ≤ sizeLine) (hd : (p == sysModules) = false) (hdep : ∀ x ∈ xs, x.1.depth ≤ 8) (pr : TPair xs ys)
    (e1 : h.get? p = some o) (e2 : o.ExactDict) (e3 : o.data = .dict es ep) (e4 : es.toList = ys.map (fun x => (⟨x.1.hash w, .ref x.2.1, x.2.2⟩ : DictEntry))) (e5 : (ys.map (·.1)).Nodup) : ObjOk P w H h p (tdO w p xs) :=
  ⟨⟨z, hd, hdep, ys, pr, o, es, ep, e1, e2, e3, e4, e5⟩, ⟨o, e1⟩, fun h1 h2 ⟨a1, a2, a3, zs, a4, o', es', ep', g1, g2⟩ k => ⟨a1, a2, a3, zs, a4, o', es', ep', k _ g1, g2⟩⟩
def tDNewX (w : World) : TE := fun _ H Q => ∀ p, H p = none → Q (.ref p) (upd H p (tdO w p []))
/-- {} -/
def fD0 (t : Bool) : FE := fun e => .ok (.nw (.dct t [] []), e)
section
variable {X : Cx} {c : Ct} {z : Zs} {W : WX} {F H : Hp} {σ : L2.St} {s : Shared} {pins : List (Addr × Obj)} {t : Bool} {ks ds : List D} {ws vs : List V} {p : Addr} {a b : Expr} {ta tb : TE} {fa fb : FE} {pos : Pos} {e : DEnv}
theorem pe_dnewX : PE X (.Dict [] [] pos) (tDNewX X.w) := ⟨fun pins s σ H Q I h =>
  wpAny_Dict_empty ⟨.ref s.heap.objs.size, _, I.laid (a := s.heap.objs.size) (o := tdO X.w s.heap.objs.size []) (t' := s.toks) (fun _ _ q => Heap.get?_push_of_some _ q) (Nat.le_refl _)
    (td_ok (ys := []) (Nat.zero_le _) (beq_eq_false_iff_ne.mpr (Ne.symm (Nat.ne_of_lt I.big))) (fun x hx => by cases hx) .nil (Heap.get?_push_size _ rfl) ⟨rfl, rfl, rfl⟩ rfl rfl List.nodup_nil), rfl, h _ (I.hok.fresh (Nat.le_refl _))⟩⟩
theorem sn_d0K : SndE c W tDNewK (fD0 false) := fun z σ H F e Q I h p hp =>
  h _ _ F (Ex.refl F) (I.alloc (Ex.new (o := .dK []) hp)) ⟨p, rfl, ⟨fresh_back I.fh hp, [], [], .inl ⟨rfl, [], upd_same, rfl, rfl, rfl⟩, rfl, rfl⟩, I.fresh0 hp, fun i => I.noroot hp i⟩
theorem sn_d0X : SndE c W (tDNewX c.w) (fD0 true) := fun z σ H F e Q I h p hp =>
  h _ _ F (Ex.refl F) (I.alloc (Ex.new (o := tdO c.w p []) hp)) ⟨p, rfl, ⟨fresh_back I.fh hp, [], [], .inr ⟨rfl, [], upd_same, rfl, rfl, rfl⟩, rfl, rfl⟩, I.fresh0 hp, fun i => I.noroot hp i⟩
theorem de_d0K : DE X c W (.Dict [] [] pos) tDNewK (fD0 false) := ⟨pe_dnewK, sn_d0K⟩
theorem de_d0X (hW : X.w = c.w) : DE X c W (.Dict [] [] pos) (tDNewX c.w) (fD0 true) := ⟨hW ▸ pe_dnewX, sn_d0X⟩
/-! ### d[k] = v -/
def setAt (p : D → Bool) (d : D) : List D → List D → List D
  | k :: ks, x :: xs => (if p k then d else x) :: setAt p d ks xs
  | _, xs => xs
def dPutP (p : D → Bool) (ks ds : List D) (k d : D) : List D × List D := if ks.any p then (ks, setAt p d ks ds) else (ks ++ [k], ds ++ [d])
/-- the keys and values behind d[k] = v -/
def dPut (t : Bool) (ks ds : List D) (k d : D) : Option (List D × List D) := if t then (tupK k).bind fun q => if ks.length < lim then some (dPutP (fun x => decide (nkOf x = some q)) ks ds k d) else none
  else (atomK k).bind fun q => if ks.length < lim then some (dPutP (fun x => decide (atomK x = some q)) ks ds (keyD q) d) else none
theorem put_sh {d kd : D} {r : List D × List D} {v : V} (h : dPut t ks ds kd d = some r) (y : View c F H kd v) : Rp c F kd v := by
  rcases y with y | ⟨q, _, y⟩
  · exact y
  · unfold dPut at h
    split at h
    · obtain ⟨k, l1, _⟩ := obind h
      obtain ⟨es, rfl, _⟩ := tupK_of l1
      exact y.2.elim
    · obtain ⟨k, l1, _⟩ := obind h
      cases kd <;> first | exact y.2.elim | cases l1
theorem set_atom {k : Key} {d : D} {v : V} (r : Rp c F d v) : ∀ {kvs : List (Key × V)} {ds : List D}, RpL c F ds (kvs.map (·.2)) →
    RpL c F (setAt (fun x => decide (atomK x = some k)) d (kvs.map fun x => keyD x.1) ds) ((kvs.map fun kv => if kv.1 = k then (kv.1, v) else kv).map (·.2))
  | [], [], _ => rfl
  | [], _ :: _, h => by obtain ⟨_, _, h, _⟩ := h; cases h
  | x :: kvs, [], h => by cases h
  | x :: kvs, d0 :: ds, ⟨v0, l, e, h1, h2⟩ => by
    cases e
    have ih := set_atom (k := k) r (kvs := kvs) h2
    show RpL c F ((if decide (atomK (keyD x.1) = some k) = true then d else d0) :: _) _
    rw [List.map_cons, List.map_cons]
    refine ⟨_, _, rfl, ?_, ih⟩
    by_cases e : x.1 = k
    · rw [if_pos (decide_eq_true ((atomK_keyD _).trans (congrArg some e))), if_pos e]; exact r
    · rw [if_neg (by rw [decide_eq_true_eq, atomK_keyD]; exact fun z => e (Option.some.inj z)), if_neg e]; exact h1
theorem any_atom {k : Key} (kvs : List (Key × V)) : ((kvs.map fun x => keyD x.1).any fun x => decide (atomK x = some k)) = kvs.any fun kv => decide (kv.1 = k) := by
  rw [List.any_map]
  congr 1
  funext x
  show decide (atomK (keyD x.1) = some k) = _
  rw [atomK_keyD]
  simp
theorem put_atom {k : Key} {d : D} {v : V} {kvs : List (Key × V)} {ds : List D} (r : Rp c F d v) (h : RpL c F ds (kvs.map (·.2))) :
    (dPutP (fun x => decide (atomK x = some k)) (kvs.map fun x => keyD x.1) ds (keyD k) d).1 = (putK kvs k v).map (fun x => keyD x.1) ∧
    RpL c F (dPutP (fun x => decide (atomK x = some k)) (kvs.map fun x => keyD x.1) ds (keyD k) d).2 ((putK kvs k v).map (·.2)) := by
  unfold dPutP putK
  rw [any_atom]
  split
  · refine ⟨?_, set_atom r h⟩
    rw [List.map_map]
    apply List.map_congr_left
    intro x _
    show _ = keyD (if x.1 = k then (x.1, v) else x).1
    split <;> rfl
  · refine ⟨by rw [List.map_append]; rfl, ?_⟩
    rw [List.map_append]
    exact h.app (RpL.one r)
theorem keys_atom : ∀ {ks : List Key}, RpL c F (ks.map keyD) (ks.map kV)
  | [] => rfl
  | k :: r => ⟨kV k, _, rfl, by cases k <;> exact rfl, keys_atom⟩
def putT (xs : TEs) (k : NestedKey) (b : Addr) (v : V) : TEs := if (xs.any fun x => decide (x.1 = k)) then xs.map (fun x => if x.1 = k then (x.1, x.2.1, v) else x) else xs ++ [(k, b, v)]
theorem any_tup {k : NestedKey} : ∀ {xs : TEs} {ks : List D}, nkOfL ks = some (xs.map (·.1)) → (ks.any fun x => decide (nkOf x = some k)) = xs.any fun x => decide (x.1 = k)
  | [], [], _ => rfl
  | [], a :: l, h => by obtain ⟨_, _, h⟩ := obind h; obtain ⟨_, _, h⟩ := omap h; cases h
  | x :: xs, [], h => by cases h
  | x :: xs, a :: l, h => by
    obtain ⟨k0, e1, h⟩ := obind h
    obtain ⟨r, e2, h⟩ := omap h
    cases h
    rw [List.any_cons, List.any_cons, any_tup e2, e1]
    simp
theorem set_tup {k : NestedKey} {d : D} {v : V} (r : Rp c F d v) : ∀ {xs : TEs} {ks ds : List D}, nkOfL ks = some (xs.map (·.1)) → RpL c F ds (xs.map (·.2.2)) →
    RpL c F (setAt (fun x => decide (nkOf x = some k)) d ks ds) ((xs.map fun x => if x.1 = k then (x.1, x.2.1, v) else x).map (·.2.2))
  | [], [], [], _, _ => rfl
  | [], [], _ :: _, _, h => by obtain ⟨_, _, h, _⟩ := h; cases h
  | [], a :: l, _, h, _ => by obtain ⟨_, _, h⟩ := obind h; obtain ⟨_, _, h⟩ := omap h; cases h
  | x :: xs, [], _, h, _ => by cases h
  | x :: xs, a :: l, [], _, h => by cases h
  | x :: xs, a :: l, d0 :: ds, h, ⟨v0, w, e, h1, h2⟩ => by
    obtain ⟨k0, e1, h⟩ := obind h
    obtain ⟨q, e2, h⟩ := omap h
    cases h; cases e
    have ih := set_tup (k := k) r e2 h2
    show RpL c F ((if decide (nkOf a = some k) = true then d else d0) :: _) _
    rw [List.map_cons, List.map_cons]
    refine ⟨_, _, rfl, ?_, ih⟩
    by_cases e : x.1 = k
    · rw [if_pos (decide_eq_true (e1.trans (congrArg some e))), if_pos e]; exact r
    · rw [if_neg (by rw [decide_eq_true_eq, e1]; exact fun z => e (Option.some.inj z)), if_neg e]; exact h1
theorem put_keys {xs : TEs} {k : NestedKey} {b : Addr} {v : V} {d0 kd : D} {ks ds : List D} (hk : nkOf kd = some k) (h : nkOfL ks = some (xs.map (·.1))) :
    nkOfL (dPutP (fun x => decide (nkOf x = some k)) ks ds kd d0).1 = some ((putT xs k b v).map (·.1)) := by
  unfold dPutP putT
  rw [any_tup h]
  split
  · show nkOfL ks = _
    rw [h, List.map_map]
    congr 1
    apply List.map_congr_left
    intro x _
    show x.1 = (if x.1 = k then (x.1, x.2.1, v) else x).1
    split <;> rfl
  · show nkOfL (ks ++ [kd]) = _
    rw [List.map_append]
    have : ∀ {ks : List D} {l : List NestedKey}, nkOfL ks = some l → nkOfL (ks ++ [kd]) = some (l ++ [k]) := by
      intro ks
      induction ks with
      | nil => intro l h; cases h; show (nkOf kd).bind _ = _; rw [hk]; rfl
      | cons a ks ih =>
        intro l h
        obtain ⟨k0, e1, h⟩ := obind h
        obtain ⟨q, e2, h⟩ := omap h
        cases h
        show (nkOf a).bind (fun k => (nkOfL (ks ++ [kd])).map fun r => k :: r) = _
        rw [e1, ih e2]; rfl
    exact this h
theorem put_tup {xs : TEs} {k : NestedKey} {b : Addr} {v : V} {d kd : D} {ks ds : List D} (r : Rp c F d v) (h : nkOfL ks = some (xs.map (·.1))) (g : RpL c F ds (xs.map (·.2.2))) :
    RpL c F (dPutP (fun x => decide (nkOf x = some k)) ks ds kd d).2 ((putT xs k b v).map (·.2.2)) := by
  unfold dPutP putT
  rw [any_tup h]
  split
  · exact set_tup r h g
  · rw [List.map_append]; exact g.app (RpL.one r)
theorem put_addr {xs : TEs} {k : NestedKey} {b : Addr} {v : V} {d kd : D} {ks ds : List D} (hb : Rp c F kd (.ref b)) (h : nkOfL ks = some (xs.map (·.1))) (g : RpL c F ks (xs.map fun x => V.ref x.2.1)) :
    RpL c F (dPutP (fun x => decide (nkOf x = some k)) ks ds kd d).1 ((putT xs k b v).map fun x => V.ref x.2.1) := by
  unfold dPutP putT
  rw [any_tup h]
  split
  · have : (xs.map fun x => if x.1 = k then (x.1, x.2.1, v) else x).map (fun x => V.ref x.2.1) = xs.map fun x => V.ref x.2.1 := by
      rw [List.map_map]
      apply List.map_congr_left
      intro x _
      show V.ref (if x.1 = k then (x.1, x.2.1, v) else x).2.1 = _
      split <;> rfl
    rw [this]; exact g
  · rw [List.map_append]; exact g.app (RpL.one hb)
theorem any_pair {k : NestedKey} {xs : TEs} {ys : List (NestedKey × Addr × Value)} (pr : TPair xs ys) : (xs.any fun x => decide (x.1 = k)) = (atKey ys k).isSome := by
  induction pr with
  | nil => rfl
  | @cons x y xs ys q1 q2 ih =>
    unfold atKey
    rw [List.any_cons, List.find?_cons, q1.1]
    by_cases e : y.1 = k
    · rw [decide_eq_true e]; rfl
    · rw [decide_eq_false e, Bool.false_or]; exact ih
theorem pair_put {k : NestedKey} {b : Addr} {v : V} {u : Value} {xs : TEs} {ys : List (NestedKey × Addr × Value)} (pr : TPair xs ys) (rv : RelV v u) : TPair (putT xs k b v) (storedH ys k b u) := by
  unfold putT storedH
  rw [any_pair pr]
  split
  · rename_i hh
    clear hh
    induction pr with
    | nil => exact .nil
    | @cons x y xs ys q1 q2 ih =>
      refine .cons ?_ ih
      unfold putAt
      dsimp only
      by_cases e : y.1 = k
      · rw [if_pos (q1.1.trans e), if_pos e]; exact ⟨q1.1, q1.2.1, rv⟩
      · rw [if_neg (fun h => e (q1.1.symm.trans h)), if_neg e]; exact q1
  · exact pr.snoc ⟨rfl, rfl, rv⟩
theorem putT_len {k : NestedKey} {b : Addr} {v : V} (xs : TEs) : (putT xs k b v).length ≤ xs.length + 1 := by
  unfold putT
  split
  · rw [List.length_map]; omega
  · rw [List.length_append]; exact Nat.le_refl _
theorem putT_mem {k : NestedKey} {b : Addr} {v : V} {xs : TEs} (h : ∀ x ∈ xs, x.1.depth ≤ 8) (hk : k.depth ≤ 8) : ∀ x ∈ putT xs k b v, x.1.depth ≤ 8 := by
  unfold putT
  split
  · intro x hx
    obtain ⟨y, hy, rfl⟩ := List.mem_map.mp hx
    split <;> exact h y hy
  · intro x hx
    rcases List.mem_append.mp hx with hx | hx
    · exact h x hx
    · cases List.mem_singleton.mp hx; exact hk
theorem nkOfL_len : ∀ {ks : List D} {l : List NestedKey}, nkOfL ks = some l → ks.length = l.length
  | [], _, h => by cases h; rfl
  | a :: ks, _, h => by
    obtain ⟨k0, e1, h⟩ := obind h
    obtain ⟨q, e2, h⟩ := omap h
    cases h
    rw [List.length_cons, List.length_cons, nkOfL_len e2]
structure DPutR (c : Ct) (F H : Hp) (t : Bool) (ks ds : List D) (kd d : D) (x y v : V) (p : Addr) (ws vs : List V) : Prop where
  ref : x = .ref p
  ent : EntAt c H t ks ws vs p
  keys : RpL c F ks ws
  vals : RpL c F ds vs
  key : Rp c F kd y
  val : Rp c F d v
  ext : Ex F H
def rPutD (c : Ct) : TSet := fun o i v H Q => ∃ F t ks ds kd d p ws vs, DPutR c F H t ks ds kd d o i v p ws vs ∧ ∃ r, dPut t ks ds kd d = some r ∧ ∀ o' ws' vs', EntAt c (upd H p o') t r.1 ws' vs' p → RpL c F r.1 ws' → RpL c F r.2 vs' → Q (upd H p o')
theorem set_dct (hu : X.A.units + 65 < cLine) (hK : X.K = c.K) (hW : X.w = c.w) : PSet X (rPutD c) := by
  intro pins s σ H x y v ox iy u Q I rx ry rv h
  obtain ⟨F, t, ks, ds, kd, d, p, ws, vs, ⟨rfl, ent, hk, hv, hy, hd, x⟩, r, l, q⟩ := h
  cases rx
  unfold dPut at l
  rcases ent with ⟨rfl, kvs, e1, rfl, rfl, rfl⟩ | ⟨rfl, xs, e1, e2, rfl, rfl⟩
  · rw [if_neg (by decide)] at l
    obtain ⟨k, l1, l2⟩ := obind l
    split at l2
    · rename_i hl
      cases l2
      rw [List.length_map] at hl
      have ey := atomK_V l1 hy
      subst ey
      obtain ⟨g1, g2⟩ := put_atom (k := k) hd hv
      refine d_setItem (by omega) I (DPut.k (k := k) (v := v) e1 (Nat.lt_trans hl (by decide))) ry rv fun s' I' => ⟨_, I', q _ _ _ (.inl ⟨rfl, _, upd_same, g1, rfl, rfl⟩) ?_ g2⟩
      rw [g1]
      have h2 := keys_atom (c := c) (F := F) (ks := (putK kvs k v).map (·.1))
      rw [List.map_map, List.map_map] at h2
      exact h2
    · cases l2
  · rw [if_pos rfl] at l
    obtain ⟨k, l1, l2⟩ := obind l
    split at l2
    · rename_i hl
      cases l2
      obtain ⟨es, rfl, n1, n2⟩ := tupK_of l1
      obtain ⟨⟨z1, z2, z3, _⟩, _, _⟩ := I.hok p _ e1
      obtain ⟨ys, pr, dd, _, _⟩ := ent_tup I hK hW x e1 e2 hk
      obtain ⟨b, rs, rfl, _⟩ := id hy
      cases ry
      have kk := Rp.nk I hK x _ _ _ _ n1 hy (show RelV (.ref b) (.ref b) from rfl)
      have hz : ys.length ≤ sizeLine := by rw [← Paired.length pr]; exact z1
      have hlx : xs.length < lim := by rw [nkOfL_len e2, List.length_map] at hl; exact hl
      refine wpAny_setItem_heap (hsz := hz) (room8 hu) ⟨kk, n2⟩ dd fun h' dd' hs => ?_
      obtain ⟨qo, es', ep', hq, h2, h3, h4, _, h5⟩ := dd'
      refine ⟨_, I.write (x := p) (e := p) (by rw [e1]; exact True.intro) (.inl rfl) (fun b' q' hb z' => (hs.2 b' hb).trans z') ⟨qo, hq⟩
        (td_ok (xs := putT xs k b v) (Nat.le_trans (putT_len xs) (lim_ok hlx)) z2 (putT_mem z3 n2) (pair_put pr rv) hq h2 h3 (by rw [h4]; rfl) h5), ?_⟩
      rw [hW]
      refine q _ _ _ (.inr ⟨rfl, putT xs k b v, upd_same, put_keys (b := b) (v := v) n1 e2, rfl, rfl⟩) (put_addr hy e2 hk) (put_tup hd e2 hv)
    · cases l2
def rootDct (e : DEnv) (j : Nat) : Option (Bool × List D × List D) := match e[j]? with
  | some (some (.ow (.dct t ks ds))) => some (t, ks, ds)
  | some (some (.br (.dct t ks ds))) => some (t, ks, ds)
  | _ => none
def putDct (e : DEnv) (j : Nat) (t : Bool) (ks ds : List D) : DEnv := match e[j]? with
  | some (some b) => e.set j (some (b.re (.dct t ks ds)))
  | _ => e
theorem I2.rootDct {j : Nat} {u : Bool × List D × List D} (I : I2 c z σ H F e) (h : rootDct e j = some u) : ∃ p ws vs, σ[j]? = some (some (.ref p)) ∧ EntAt c H u.1 u.2.1 ws vs p ∧ RpL c F u.2.1 ws ∧ RpL c F u.2.2 vs ∧
    ∀ o' ks' ds' ws' vs', EntAt c (upd H p o') u.1 ks' ws' vs' p → RpL c F ks' ws' → RpL c F ds' vs' → I2 c z σ (upd H p o') F (putDct e j u.1 ks' ds') := by
  unfold DL.rootDct at h
  split at h <;> try cases h
  · rename_i t ks ds hb
    obtain ⟨v, hv, p, rfl, ⟨hF, ws, vs, h1, h2, h3⟩, _⟩ := I.slot j _ hb
    refine ⟨p, ws, vs, hv, h1, h2, h3, fun o' ks' ds' ws' vs' g r r2 => ?_⟩
    unfold putDct
    rw [hb]
    exact I.mut (d := .dct t ks' ds') hb rfl hv ⟨hF, ws', vs', g, r, r2⟩
  · rename_i t ks ds hb
    obtain ⟨v, hv, p, rfl, ⟨hF, ws, vs, h1, h2, h3⟩, _⟩ := I.slot j _ hb
    refine ⟨p, ws, vs, hv, h1, h2, h3, fun o' ks' ds' ws' vs' g r r2 => ?_⟩
    unfold putDct
    rw [hb]
    exact I.mut (d := .dct t ks' ds') hb rfl hv ⟨hF, ws', vs', g, r, r2⟩
/-- d[k] = v, d a name -/
def fSetD (j : Nat) (fi fv : FE) : FS := fun e => (fv e).bind fun r => (Res.of ((escape r.1 r.2).bind fun q => (rootDct q.2 j).map fun _ => q)).bind fun q => (fi q.2).bind fun s => Res.of ((lookT s.1 s.2).bind fun k => (rootDct s.2 j).bind fun u => (dPut u.1 u.2.1 u.2.2 k q.1).map fun w => .nx (putDct s.2 j u.1 w.1 w.2))
theorem sn_setD {j : Nat} {ti tv : TE} {fi fv : FE} (hi : SndE c W ti fi) (hv : SndE c W tv fv) : SndS c W (tAsg tv (gSub (tVar j) ti (rPutD c))) (fSetD j fi fv) := fun z σ H F e D I h => by
  unfold fSetD at h
  rw [Wp.bind] at h
  refine hv z σ H F e _ I (h.mono (fun r _ h v H1 F1 x1 I1 t1 => ?_) fun _ _ h => h σ)
  rw [Wp.bind] at h
  obtain ⟨⟨d, e1⟩, ea, h⟩ := Wp.of h
  obtain ⟨⟨d', e1'⟩, l1, ea⟩ := obind ea
  obtain ⟨ds0, l0, ea⟩ := omap ea
  cases ea
  obtain ⟨G, x2, J, rr⟩ := t1.escape I1 l1
  obtain ⟨p0, ws0, vs0, hv0, h0, _, _, _⟩ := J.rootDct l0
  refine ⟨_, hv0, ?_⟩
  rw [Wp.bind] at h
  refine hi z σ H1 G e1 _ J (h.mono (fun s _ h w H2 F2 x3 I2' t2 => ?_) fun _ _ h => (h.mono (x1.trans x2)) σ)
  obtain ⟨o, ea, h⟩ := Wp.of h
  obtain ⟨k, l2, ea⟩ := obind ea
  obtain ⟨⟨t, ks, ds⟩, l3, ea⟩ := obind ea
  obtain ⟨r', l4, rfl⟩ := omap ea
  obtain ⟨p, ws, vs, hv1, h1, r1, r2, kk⟩ := I2'.rootDct l3
  rw [hv0] at hv1; cases hv1
  have ew := put_sh l4 (t2.view I2' l2)
  refine ⟨F2, t, ks, ds, k, d, p0, ws, vs, ⟨rfl, h1, r1, r2, ew, rr.mono x3 d v, I2'.fh⟩, r', l4, fun o' ws' vs' g1 g2 g3 => ?_⟩
  exact h σ _ F2 ((x1.trans x2).trans x3) (kk _ _ _ _ _ g1 g2 g3)
theorem ds_setD {o i : Expr} {ti tv : TE} {fi fv : FE} {j : Nat} {tgp : Pos} (hu : X.A.units + 65 < cLine) (hK : X.K = c.K) (hW : X.w = c.w) (ho : PE X o (tVar j)) (hi : DE X c W i ti fi) (hv : DE X c W a tv fv)
    (ha : ∀ v, assign (.Subscript o i tgp) X.env v = (do
      let ov ← holding [v] (eval o X.env)
      let iv ← holding [v, ov] (eval i X.env)
      standAt tgp
      holding [v, ov, iv] (setItem ov iv v)
      release [v, ov, iv] []) := by intro _; rfl)
    (hs : swapsWithSole [.Subscript o i tgp] a pos.line X.env = pure false := by rfl) (hw : swappedStores [.Subscript o i tgp] a X.env = pure none := by rfl) (h1 : (assignEach [.Subscript o i tgp] X.env).map (·.2) = [assign (.Subscript o i tgp) X.env] := by rfl) :
    DS X c W (.Assign [.Subscript o i tgp] a pos) (tAsg tv (gSub (tVar j) ti (rPutD c))) (fSetD j fi fv) := ⟨ps_asg hv.pe (pg_sub ho hi.pe (set_dct hu hK hW) ha) hs hw h1, sn_setD hi.sn hv.sn⟩
end
end DL

/-! DL, part aj: calls with keywords; defaults. -/
namespace DL
open PySem PyProof.Rows L2 Evl
def selL {α : Type} (pm : List Nat) (l : List α) : List α := pm.filterMap fun i => l[i]?
theorem selL_cons {α : Type} (i : Nat) (pm : List Nat) (l : List α) : selL (i :: pm) l = (match l[i]? with | some x => x :: selL pm l | none => selL pm l) := by
  unfold selL; rw [List.filterMap_cons]; cases l[i]? <;> rfl
section
variable {c : Ct} {z : Zs} {σ : L2.St} {H F : Hp} {e : DEnv}
theorem TRs.app : ∀ {ts us : List T} {vs ws : List V}, TRs c z F H σ e ts vs → TRs c z F H σ e us ws → TRs c z F H σ e (ts ++ us) (vs ++ ws)
  | [], us, vs, ws, h, g => by have h' : vs = [] := h; subst h'; exact g
  | t :: ts, us, vs, ws, h, g => by
    obtain ⟨v, r, rfl, h1, h2, h3⟩ := h
    exact ⟨v, r ++ ws, rfl, h1, h2, TRs.app h3 g⟩
theorem TRs.at : ∀ {ts : List T} {vs : List V} {i : Nat} {t : T}, TRs c z F H σ e ts vs → ts[i]? = some t → ∃ v, vs[i]? = some v ∧ t.seal = t ∧ TR c z F H σ e t v
  | [], vs, i, t, h, g => by simp at g
  | t0 :: ts, vs, i, t, h, g => by
    obtain ⟨v, r, rfl, h2, h3, h4⟩ := h
    cases i with
    | zero => simp at g; subst g; exact ⟨v, rfl, h2, h3⟩
    | succ i =>
      obtain ⟨w, h5, h6⟩ := TRs.at (i := i) h4 (by simpa using g)
      exact ⟨w, by simpa using h5, h6⟩
theorem TRs.sel {ts : List T} {vs : List V} (h : TRs c z F H σ e ts vs) : ∀ pm : List Nat, TRs c z F H σ e (selL pm ts) (selL pm vs)
  | [] => rfl
  | i :: pm => by
    rw [selL_cons, selL_cons]
    cases ht : ts[i]? with
    | none =>
      have : vs[i]? = none := by
        rw [List.getElem?_eq_none_iff] at ht ⊢
        rw [← h.len]; exact ht
      rw [this]
      exact TRs.sel h pm
    | some t =>
      obtain ⟨v, h1, h2, h3⟩ := h.at ht
      rw [h1]
      exact ⟨v, _, rfl, h2, h3, TRs.sel h pm⟩
theorem vals_get {vs : List V} {us : List Value} (h : Vals vs us) (i : Nat) : (vs[i]? = none ∧ us[i]? = none) ∨ ∃ v u, vs[i]? = some v ∧ us[i]? = some u ∧ RelV v u := by
  induction h generalizing i with
  | nil => exact .inl ⟨rfl, rfl⟩
  | cons r _ ih =>
    cases i with
    | zero => exact .inr ⟨_, _, rfl, rfl, r⟩
    | succ i => simpa using ih i
theorem vals_sel {vs : List V} {us : List Value} (h : Vals vs us) : ∀ pm : List Nat, Vals (selL pm vs) (selL pm us)
  | [] => .nil
  | i :: pm => by
    rw [selL_cons, selL_cons]
    rcases vals_get h i with ⟨h1, h2⟩ | ⟨v, u, h1, h2, r⟩
    · rw [h1, h2]; exact vals_sel h pm
    · rw [h1, h2]; exact .cons r (vals_sel h pm)
end
/-- f(e, .., k = v, ..): the values are put in the parameters' order by pm; dds: the defaults -/
def fCallK (n m' : Nat) (pm : List Nat) (dds : List D) (m : Fn) (fa fk : FA) : FE := fun e => (fa e).bind fun r => (fk r.2).bind fun q => if r.1.length = n ∧ q.1.length = m' then (Res.of (escN [] (selL pm (r.1 ++ q.1 ++ dds.map .vl)) q.2)).bind fun q => callM [] m q.1 q.2 else .stuck
def tCallNS (n m : Nat) (sp : Sp) (gV : List V → List V → List V) (E : L2.St → XK) (t tk : TA) : TE := fun σ H Q => t σ H fun vs H1 => tk σ H1 fun zs H2 => vs.length = n ∧ zs.length = m ∧ sp (gV vs zs) H2 Q (E σ)
section
variable {X : Cx} {c : Ct} {W : WX} {k n np : Nat} {f : Addr} {fd : FuncData} {ps ks : List Str} {m : Fn} {x : Str} {p pos kpos : Pos} {a : Expr} {es : List Expr} {kws : List Keyword} {tr tkw : TA} {fr fk : FA} {dvs : List V} {dds : List D} {pm : List Nat} {g : List Value → List Value → List Value} {nm : Option Str} {ta : TE} {fa : FE}
structure DK (X : Cx) (c : Ct) (W : WX) (kws : List Keyword) (ta : TA) (f : FA) : Prop where
  pk : PK X kws ta
  sn : SndA c W ta f
theorem dk_nil : DK X c W [] tNil fA0 := ⟨pk_nil, (da_nil (X := X)).sn⟩
theorem dk_cons (ha : DE X c W a ta fa) (hr : DK X c W kws tr fr) : DK X c W (⟨nm, a, kpos⟩ :: kws) (tCons ta tr) (fA1 fa fr) := ⟨pk_cons ha.pe hr.pk, sn_consA ha.sn hr.sn⟩
theorem sn_callK {np : Nat} (hd : ∀ F, RpL c F dds dvs) (hl : ∀ vs zs : List V, vs.length = n → zs.length = ks.length → (selL pm (vs ++ zs ++ dvs)).length = np) (ha : SndA c W tr fr) (hk : SndA c W tkw fk) :
    SndE c W (tCallNS n ks.length (spD c np m) (fun vs zs => selL pm (vs ++ zs ++ dvs)) (WE W) tr tkw) (fCallK n ks.length pm dds m fr fk) := fun z σ H F e Q I h => by
  unfold fCallK at h
  rw [Wp.bind] at h
  refine ha z σ H F e _ I (h.mono (fun r hr h vs H1 F1 x1 I1 t1 => ?_) fun _ _ h => h)
  rw [Wp.bind] at h
  refine hk z σ H1 F1 _ _ I1 (h.mono (fun q hq h zs H2 F2 x2 I2 t2 => ?_) fun _ _ h => h.mono x1)
  split at h
  · rename_i hlen
    have l1 : vs.length = n := by rw [← t1.len]; exact hlen.1
    have l2 : zs.length = ks.length := by rw [← t2.len]; exact hlen.2
    refine ⟨l1, l2, ?_⟩
    rw [Wp.bind] at h
    obtain ⟨⟨ts, e2⟩, l, h⟩ := Wp.of h
    have td : TRs c z F2 H2 σ q.2 (dds.map .vl) dvs := by
      have := TRs.splice (c := c) (z := z) (F := F2) (H := H2) (σ := σ) (e := q.2) (ts := []) (ws := []) rfl (hd F2)
      simpa using this
    have t3 := (((t1.keep x2 (H' := H2) (e' := q.2)).app t2).app td).sel pm
    obtain ⟨G, x3, J, t4⟩ := t3.escN I2 l
    have := sp_call (dvs := []) (dds := []) (n := np) J t4 (by rw [List.append_nil]; exact hl vs zs l1 l2) rfl (h.mono (fun r _ h v H' F' x' I' t' => h v H' F' (((x1.trans x2).trans x3).trans x') I' t') fun _ _ h => h.mono ((x1.trans x2).trans x3))
    rw [List.append_nil] at this
    exact this
  · exact h.elim
theorem run_fnNS {pins : List (Addr × Obj)} {σ : L2.St} {H : Hp} {s : Shared} {Q : VK} {us ws : List Value} {vs zs : List V} {sp : Sp} {gV : List V → List V → List V} {E : XK} {CX : CXT} (F : FnOk X.prog X.w X.K X.mg X.base CX k f fd ps sp) (hr : Room k X.A) (hb : KBn X.K fd ps n ks g gV) (hx : PassesAt CX X σ E)
    (I : Inv X pins σ H s) (r : Vals vs us) (rz : Vals zs ws) (l1 : vs.length = n) (l2 : zs.length = ks.length) (h : sp (gV vs zs) H Q E) : wpAny (model X.prog X.w) X.A (call (.ref f) us (ks.zip ws)) (EP X pins σ Q) X.xe s := by
  have r2 := hb.rel r rz
  refine wpAny_call (codeAny_mono (F.run X.A X.stack s H ⟨us, ks.zip ws⟩ (g us ws) (gV vs zs) Q E hr I.env0 (hb.to s us ws I.kIn (r.length.symm.trans l1) (rz.length.symm.trans l2)) r2 h) fun r s' hq => ?_)
  cases r with
  | error e => exact hx pins H s e s' I hq
  | ok fl =>
    cases fl with
    | ret u => exact I.after hq
    | next => exact False.elim hq
    | brk => exact False.elim hq
    | cont => exact False.elim hq
theorem pe_callNS {sp : Sp} {gV : List V → List V → List V} {E : L2.St → XK} {CX : CXT} (F : FnOk X.prog X.w X.K X.mg X.base CX k f fd ps sp) (hr : Room k X.A) (hg : Gl X x) (hm : X.mg x = some (.ref f)) (hk : PySem.W.keepIn X.K (.ref f) = true) (hb : KBn X.K fd ps n ks g gV) (hx : ∀ σ, PassesAt CX X σ (E σ))
    (ha : PA X (a :: es) tr) (hkw : PK X kws tkw) (hall : (backToKw pos (keywordEach kws X.env)).all (·.1.isSome) = true := by rfl) (hks : (backToKw pos (keywordEach kws X.env)).filterMap (·.1) = ks := by rfl)
    (hdb : (x == ("__debug__" : Str)) = false := by decide) (he : starEach (a :: es) X.env = (false, eval a X.env) :: starEach es X.env := by rfl)
    (hpl : ((backTo pos (starEach (a :: es) X.env)).any (·.1) || (backToKw pos (keywordEach kws X.env)).any (·.1.isNone)) = false := by rfl) :
    PE X (.Call (.Name x p) (a :: es) kws pos) (tCallNS n ks.length sp gV E tr tkw) := by
  refine ⟨fun pins s σ H Q I h => ?_⟩
  refine wpAny_Call_Name_kw (ld_glob I hg hm ?_ hdb)
  refine PySem.W.callWith_KW (h₀ := X.base) I.ok.mod.kin hk hall (thn (ha.run pos pins s σ H _ I h) fun us s1 ⟨vs, H1, I1, r, q⟩ => ?_) hpl he
  refine thn (hkw.run pos pins s1 σ H1 _ I1 q) fun ws s2 ⟨zs, H2, I2, rz, l1, l2, q2⟩ => ⟨I2.kIn, ?_⟩
  rw [hks]
  exact run_fnNS F hr hb (hx σ) I2 r rz l1 l2 q2
theorem pe_callNS0 {sp : Sp} {gV : List V → List V → List V} {E : L2.St → XK} {CX : CXT} (F : FnOk X.prog X.w X.K X.mg X.base CX k f fd ps sp) (hr : Room k X.A) (hg : Gl X x) (hm : X.mg x = some (.ref f)) (hk : PySem.W.keepIn X.K (.ref f) = true) (hb : KBn X.K fd ps 0 ks g gV) (hx : ∀ σ, PassesAt CX X σ (E σ))
    (hkw : PK X kws tkw) (hall : (backToKw pos (keywordEach kws X.env)).all (·.1.isSome) = true := by rfl) (hks : (backToKw pos (keywordEach kws X.env)).filterMap (·.1) = ks := by rfl)
    (hdb : (x == ("__debug__" : Str)) = false := by decide)
    (hpl : ((backTo pos (starEach [] X.env)).any (·.1) || (backToKw pos (keywordEach kws X.env)).any (·.1.isNone)) = false := by rfl) :
    PE X (.Call (.Name x p) [] kws pos) (tCallNS 0 ks.length sp gV E tNil tkw) := by
  refine ⟨fun pins s σ H Q I h => ?_⟩
  refine wpAny_Call_Name_kw (ld_glob I hg hm ?_ hdb)
  refine PySem.W.callWith_KW0 (h₀ := X.base) I.ok.mod.kin hk hall (thn (hkw.run pos pins s σ H _ I h) fun ws s2 ⟨zs, H2, I2, rz, l1, l2, q2⟩ => ⟨I2.kIn, ?_⟩) hpl
  rw [hks]
  exact run_fnNS F hr hb (hx σ) I2 .nil rz l1 l2 q2
/-- f(a, .., k = v, ..) -/
theorem de_callK (tk : Takes X W) (F : FnOk X.prog X.w X.K X.mg X.base (CX X.prog X.w) k f fd ps (spD c np m)) (hr : Room k X.A) (hg : Gl X x) (hm : X.mg x = some (.ref f)) (hk : PySem.W.keepIn X.K (.ref f) = true) (hb : ∃ g, KBn X.K fd ps n ks g (fun vs zs => selL pm (vs ++ zs ++ dvs))) (hdd : ∀ F, RpL c F dds dvs)
    (hl : ∀ vs zs : List V, vs.length = n → zs.length = ks.length → (selL pm (vs ++ zs ++ dvs)).length = np) (ha : DA X c W (a :: es) tr fr) (hkw : DK X c W kws tkw fk) (hall : (backToKw pos (keywordEach kws X.env)).all (·.1.isSome) = true := by rfl) (hks : (backToKw pos (keywordEach kws X.env)).filterMap (·.1) = ks := by rfl)
    (hdb : (x == ("__debug__" : Str)) = false := by decide) (he : starEach (a :: es) X.env = (false, eval a X.env) :: starEach es X.env := by rfl)
    (hpl : ((backTo pos (starEach (a :: es) X.env)).any (·.1) || (backToKw pos (keywordEach kws X.env)).any (·.1.isNone)) = false := by rfl) :
    DE X c W (.Call (.Name x p) (a :: es) kws pos) (tCallNS n ks.length (spD c np m) (fun vs zs => selL pm (vs ++ zs ++ dvs)) (WE W) tr tkw) (fCallK n ks.length pm dds m fr fk) :=
  ⟨hb.elim fun _ hb => pe_callNS F hr hg hm hk hb (fun σ => passAt tk σ) ha.pa hkw.pk hall hks hdb he hpl, sn_callK hdd hl ha.sn hkw.sn⟩
theorem de_callK0 (tk : Takes X W) (F : FnOk X.prog X.w X.K X.mg X.base (CX X.prog X.w) k f fd ps (spD c np m)) (hr : Room k X.A) (hg : Gl X x) (hm : X.mg x = some (.ref f)) (hk : PySem.W.keepIn X.K (.ref f) = true) (hb : ∃ g, KBn X.K fd ps 0 ks g (fun vs zs => selL pm (vs ++ zs ++ dvs))) (hdd : ∀ F, RpL c F dds dvs)
    (hl : ∀ vs zs : List V, vs.length = 0 → zs.length = ks.length → (selL pm (vs ++ zs ++ dvs)).length = np) (hkw : DK X c W kws tkw fk) (hall : (backToKw pos (keywordEach kws X.env)).all (·.1.isSome) = true := by rfl) (hks : (backToKw pos (keywordEach kws X.env)).filterMap (·.1) = ks := by rfl)
    (hdb : (x == ("__debug__" : Str)) = false := by decide)
    (hpl : ((backTo pos (starEach [] X.env)).any (·.1) || (backToKw pos (keywordEach kws X.env)).any (·.1.isNone)) = false := by rfl) :
    DE X c W (.Call (.Name x p) [] kws pos) (tCallNS 0 ks.length (spD c np m) (fun vs zs => selL pm (vs ++ zs ++ dvs)) (WE W) tNil tkw) (fCallK 0 ks.length pm dds m fA0 fk) :=
  ⟨hb.elim fun _ hb => pe_callNS0 F hr hg hm hk hb (fun σ => passAt tk σ) hkw.pk hall hks hdb hpl, sn_callK hdd hl (da_nil (X := X)).sn hkw.sn⟩
end
/-- keywords of a def without defaults -/
theorem kbn_mk {K : PySem.W.Frag} {fd : FuncData} {ps ks : List Str} {n : Nat} {pm : List Nat} (h : ∀ us ws : List Value, us.length = n → ws.length = ks.length → bindArgs fd ⟨us, ks.zip ws⟩ = pure (ps.zip (selL pm (us ++ ws ++ [])))) :
    KBn K fd ps n ks (fun us ws => selL pm (us ++ ws ++ [])) (fun vs zs => selL pm (vs ++ zs ++ [])) :=
  ⟨fun s us ws _ h1 h2 => .of_eq (h us ws h1 h2), fun r1 r2 => vals_sel ((r1.append r2).append .nil) pm⟩
/-- .. of a def with defaults -/
theorem kbn_mkD {K : PySem.W.Frag} {fd : FuncData} {ps ks : List Str} {n : Nat} {pm : List Nat} {dvs : List V} {its : List Value} {T : Addr} {o : Obj} {j : Nat} (hT : K.lookup T = some o) (ho : o.data = .seq its.toArray j) (r : Vals dvs its)
    (h : ∀ us ws : List Value, us.length = n → ws.length = ks.length → ∃ kk, bindArgs fd ⟨us, ks.zip ws⟩ = seqItems? (.ref T) >>= kk ∧ kk (some its.toArray) = pure (ps.zip (selL pm (us ++ ws ++ its)))) :
    KBn K fd ps n ks (fun us ws => selL pm (us ++ ws ++ its)) (fun vs zs => selL pm (vs ++ zs ++ dvs)) :=
  ⟨fun s us ws X h1 h2 => by
    obtain ⟨kk, e1, e2⟩ := h us ws h1 h2
    refine BindsTo.of_looks fun M => ?_
    rw [e1]
    exact looks_items X hT ho (.of_pure e2), fun r1 r2 => vals_sel ((r1.append r2).append r) pm⟩
/-- positional arguments of a def with defaults: n are written, the defaults behind the first j fill up -/
theorem binds_mkD {K : PySem.W.Frag} {fd : FuncData} {ps : List Str} {n i : Nat} {its : List Value} {T : Addr} {o : Obj} {j : Nat} (hT : K.lookup T = some o) (ho : o.data = .seq its.toArray j) (hn : n + (its.drop i).length = ps.length)
    (h : ∀ us : List Value, us.length = n → ∃ kk, bindArgs fd ⟨us, []⟩ = seqItems? (.ref T) >>= kk ∧ kk (some its.toArray) = pure (ps.zip (us ++ its.drop i))) : Binds K fd ps (its.drop i) := fun s us X hl => by
  obtain ⟨kk, e1, e2⟩ := h us (by rw [List.length_append] at hl; omega)
  refine BindsTo.of_looks fun M => ?_
  rw [e1]
  exact looks_items X hT ho (.of_pure e2)
end DL

/-! DL, part ak: len(x), y in x of classes of one's own. -/
namespace DL
open PySem PyProof.Rows L2 Evl
section
variable {X : Cx} {c : Ct} {W : WX} {k n j : Nat} {f g C : Addr} {fd : FuncData} {ps : List Str} {m : Fn} {p pos apos : Pos} {a b o : Expr} {ta tb : TE} {fa fb : FE} {sp : Sp} {E : L2.St → XK} {CX : CXT}
/-! ### in -/
structure OwnIn (K : PySem.W.Frag) (C f : Addr) : Prop where
  s : PySem.W.findIn K (.ref C) "__contains__" = some (some (.ref f))
  fn : PySem.W.isFn K (.ref f) = true
def cmpIn (neg : Bool) : CmpOp := if neg then .NotIn else .In
def rOwnIn (C : Addr) (sp : Sp) (E : L2.St → XK) (neg : Bool) : L2.St → R2 := fun σ x y H2 Q => ∃ a dx fs, y = .ref a ∧ H2 a = some (.ins C dx fs) ∧ sp [y, x] H2 (fun v H3 => ∃ b, v = .bl b ∧ Q (.bl (b != neg)) H3) (E σ)
theorem ops_ownIn (neg : Bool) (w : OwnIn X.K C f) (F : FnOk X.prog X.w X.K X.mg X.base CX k f fd ps sp) (hr : Room k X.A) (hb : Binds X.K fd ps []) (hx : ∀ σ, PassesAt CX X σ (E σ)) : OpS X (compareOp (cmpIn neg)) (rOwnIn C sp E neg) := by
  intro pins s σ H x y v u Q I rx ry q
  obtain ⟨p, dx, fs, rfl, h1, hsp⟩ := q
  cases ry
  obtain ⟨_, od, J⟩ := Inv.inst I h1
  obtain ⟨m, hF⟩ := I.fr
  have cl := run_fnSD (us := [.ref p, v]) (vs := [.ref p, x]) F hr hb .nil (hx σ) I (.cons rfl (.cons rx .nil)) hsp
  cases neg with
  | false =>
    refine PySem.W.in_K hF I.ok.mod.kin J w.s w.fn (wpAny_mono cl (fun r s' hq => ?_) fun _ _ h => h)
    obtain ⟨v', H', I', rv, b, eb, q'⟩ := hq
    subst eb
    cases rv
    exact wpAny_truthy_bool ⟨.bl b, H', I', rfl, by simpa using q'⟩
  | true =>
    refine PySem.W.notIn_K hF I.ok.mod.kin J w.s w.fn (wpAny_mono cl (fun r s' hq => ?_) fun _ _ h => h)
    obtain ⟨v', H', I', rv, b, eb, q'⟩ := hq
    subst eb
    cases rv
    exact wpAny_truthy_bool ⟨.bl (!b), H', I', rfl, by simpa using q'⟩
def isAny (_ : D) : Bool := true
def fOwnIn (i : Nat) (neg : Bool) (m : Fn) (fa fb : FE) : FE := fun e => (fOwn2 isAny (isIns i) true m fa fb e).bind fun r => match r.1 with
  | .vl (.bl b) => .ok (.vl (.bl (b != neg)), r.2)
  | _ => .stuck
theorem sn_ownIn {i : Nat} {neg : Bool} (ha : SndE c W ta fa) (hb : SndE c W tb fb) : SndE c W (tOpS (rOwnIn (c.cl i) (spD c 2 m) (WE W) neg) ta tb) (fOwnIn i neg m fa fb) := fun z σ H F e Q I h => by
  unfold fOwnIn at h
  rw [Wp.bind] at h
  exact sn_own2 (R := fun σ x y H2 Q => ∃ a dx fs, y = .ref a ∧ H2 a = some (.ins (c.cl i) dx fs) ∧ spD c 2 m [y, x] H2 Q (WE W σ)) (fun σ x y H2 Q F d1 d2 e v1 v2 h1 h2 hs => by
    obtain ⟨ds, rfl⟩ := isIns_eq h2
    obtain ⟨p, dx, vs, rfl, g1, _⟩ := v2.ins e
    exact ⟨p, dx, _, rfl, g1, hs⟩) ha hb z σ H F e (fun v H3 => ∃ b, v = .bl b ∧ Q (.bl (b != neg)) H3) I (h.mono (fun r _ h v H' F' x' I' t' => by
      obtain ⟨t, e1⟩ := r
      dsimp only at h
      split at h
      · rename_i b q
        exact ⟨b, t', h _ H' F' x' I' rfl⟩
      · exact h.elim) fun _ _ h => h)
theorem de_ownIn {i : Nat} (neg : Bool) (tk : Takes X W) (hK : X.K = c.K) (w : OwnIn c.K (c.cl i) f) (F : FnOk X.prog X.w X.K X.mg X.base (L2.CX X.prog X.w) k f fd ps (spD c 2 m)) (hr : Room k X.A) (hb : Binds X.K fd ps []) (ha : DE X c W a ta fa) (hb' : DE X c W b tb fb) (hm : behindInMarks (cmpIn neg) b = false := by rfl) :
    DE X c W (.Compare a [cmpIn neg] [b] pos) (tOpS (rOwnIn (c.cl i) (spD c 2 m) (WE W) neg) ta tb) (fOwnIn i neg m fa fb) :=
  ⟨pe_cmpS (ops_ownIn neg (hK ▸ w) F hr hb fun σ => passAt tk σ) ha.pe hb'.pe hm, sn_ownIn ha.sn hb'.sn⟩
theorem dt_ownIn {i : Nat} (neg : Bool) (tk : Takes X W) (hK : X.K = c.K) (w : OwnIn c.K (c.cl i) f) (F : FnOk X.prog X.w X.K X.mg X.base (L2.CX X.prog X.w) k f fd ps (spD c 2 m)) (hr : Room k X.A) (hb : Binds X.K fd ps []) (ha : DE X c W a ta fa) (hb' : DE X c W b tb fb) (hm : behindInMarks (cmpIn neg) b = false := by rfl) :
    DT X c W (.Compare a [cmpIn neg] [b] pos) (tTest (tOpS (rOwnIn (c.cl i) (spD c 2 m) (WE W) neg) ta tb)) (fB (fOwnIn i neg m fa fb)) :=
  ⟨pt_cmpS (ops_ownIn neg (hK ▸ w) F hr hb fun σ => passAt tk σ) ha.pe hb'.pe hm, sn_B (fun _ _ _ h => h) (sn_ownIn ha.sn hb'.sn)⟩
/-! ### len -/
structure OwnLen (K : PySem.W.Frag) (C f : Addr) : Prop where
  s : PySem.W.findIn K (.ref C) "__len__" = some (some (.ref f))
  fn : PySem.W.isFn K (.ref f) = true
def rOwnLen (C : Addr) (sp : Sp) : List V → Hp → VK → Prop := fun xs H Q => ∃ a dx fs, xs = [.ref a] ∧ H a = some (.ins C dx fs) ∧ sp [.ref a] H (fun v H' => ∃ n : Int, v = .int n ∧ (0 ≤ n ∧ n < 2 ^ 63) ∧ Q (.int n) H') E0
theorem call_ownLen (w : OwnLen X.K C f) (F : FnOk X.prog X.w X.K X.mg X.base CX k f fd ps sp) (hr : Room (k + 1) X.A) (hb : Binds X.K fd ps []) (hx : Passes CX X.nox E0) : CallR X (.builtin "len") (rOwnLen C sp) := by
  intro pins s σ H xs us Q I r q
  obtain ⟨p, dx, fs, rfl, h1, hsp⟩ := q
  obtain rfl := Vals.ref1 r
  obtain ⟨_, od, J⟩ := Inv.inst I h1
  obtain ⟨m, hF⟩ := I.fr
  have hl := F.len _ _ _ _ hsp
  have r2 : Vals [V.ref p] [Value.ref p] := .cons rfl .nil
  refine PySem.W.len_K hF I.ok.mod.kin J w.s w.fn ?_
  refine wpAny_call (codeAny_mono (F.run X.A.in1 X.stack s H ⟨[.ref p], []⟩ [.ref p] [.ref p] _ E0 hr.in1 I.env0.in1 (by
    have := hb s [.ref p] I.kIn (by simpa using hl)
    simpa using this) r2 hsp) fun r s' hq => ?_)
  cases r with
  | error er => exact False.elim (hx pins σ H s er s' (I.wish _) hq)
  | ok fl =>
    cases fl with
    | ret u =>
      obtain ⟨v', H', I', rv, n, en, hn, q'⟩ := I.after hq
      subst en
      obtain ⟨t, rfl⟩ := rv
      exact ⟨hn, V.int n, H', I'.tok _, ⟨_, rfl⟩, q'⟩
    | next => exact False.elim hq
    | brk => exact False.elim hq
    | cont => exact False.elim hq
def fOwnLen (i : Nat) (m : Fn) (fo : FE) : FE := fun e => (fo e).bind fun r0 => match lookT r0.1.seal r0.2 with
  | some (.ins k' _) => if k' = i then (Res.of (escN [false] [r0.1.seal] r0.2)).bind fun q => (noExc (callM [] m q.1 q.2)).bind fun r => match r.1 with
    | .vl (.int n) => if 0 ≤ n ∧ n < 2 ^ 63 then .ok (.vl (.int n), r.2) else .stuck
    | _ => .stuck
    else .stuck
  | _ => .stuck
theorem sn_ownLen {i : Nat} (ho : SndE c W ta fa) : SndE c W (tCB (rOwnLen (c.cl i) (spD c 1 m)) (tCons ta tNil)) (fOwnLen i m fa) := fun z σ H F e Q I h => by
  unfold fOwnLen at h
  rw [Wp.bind] at h
  refine ho z σ H F e _ I (h.mono (fun r0 _ g v H1 F1 x1 I1 t1 => ?_) fun _ _ h => h)
  clear h
  obtain ⟨F2, x2, J, t2⟩ := t1.seal I1
  split at g
  · rename_i k' ds hl
    split at g
    · rename_i ek
      subst ek
      obtain ⟨p, dx, vs, rfl, h2, r2⟩ := (t2.view J hl).ins J.fh
      refine ⟨p, dx, _, rfl, h2, ?_⟩
      rw [Wp.bind] at g
      obtain ⟨⟨ts, e3⟩, l, h⟩ := Wp.of g
      have t4 : TRs c z F2 H1 σ r0.2 [r0.1.seal] [V.ref p] := ⟨_, _, rfl, T.seal_seal _, t2, rfl⟩
      obtain ⟨G, x4, K, t5⟩ := t4.escN J l
      rw [Wp.bind] at h
      have h' : Wp (callM [] m ts e3) (fun r => ∀ v H' F', Ex F F' → I2 c z σ H' F' r.2 → TR c z F' H' σ r.2 r.1 v → ∃ n : Int, v = .int n ∧ (0 ≤ n ∧ n < 2 ^ 63) ∧ Q (.int n) H') (fun _ _ => False) := by
        unfold noExc at h
        cases hq : callM [] m ts e3 with
        | stuck => rw [hq] at h; exact h
        | ok r =>
          rw [hq] at h
          intro v H' F' x' I' t'
          obtain ⟨t, e4⟩ := r
          replace h := (show Wp (match t with
            | .vl (.int n) => if 0 ≤ n ∧ n < 2 ^ 63 then Res.ok (T.vl (.int n), e4) else .stuck
            | _ => .stuck) _ _ from h)
          split at h
          · rename_i n
            split at h
            · rename_i hn
              exact ⟨n, t', hn, h _ H' F' x' I' rfl⟩
            · exact h.elim
          · exact h.elim
        | exc x e' => rw [hq] at h; exact h.elim
      have sc := sp_call (n := 1) (m := m) (dvs := []) (dds := []) (W := W0) (Q := fun v H' => ∃ n : Int, v = .int n ∧ (0 ≤ n ∧ n < 2 ^ 63) ∧ Q (.int n) H') K t5 rfl rfl (h'.mono (fun r _ h v H' F' x' I' t' => h v H' F' (((x1.trans x2).trans x4).trans x') I' t') fun _ _ h => h.elim)
      exact sc
    · exact g.elim
  · exact g.elim
theorem de_ownLen {i : Nat} (hK : X.K = c.K) (w : OwnLen c.K (c.cl i) f) (F : FnOk X.prog X.w X.K X.mg X.base (L2.CX X.prog X.w) k f fd ps (spD c 1 m)) (hr : Room (k + 1) X.A) (hb : Binds X.K fd ps []) (hg : Gl X "len") (hm : X.mg "len" = none) (ha : DE X c W a ta fa)
    (he : starEach [a] X.env = (false, eval a X.env) :: starEach [] X.env := by rfl) : DE X c W (.Call (.Name "len" p) [a] [] pos) (tCB (rOwnLen (c.cl i) (spD c 1 m)) (tCons ta tNil)) (fOwnLen i m fa) :=
  ⟨pe_callB (call_ownLen (hK ▸ w) F hr hb passL) hg hm (by decide +kernel) (pa_cons ha.pe pa_nil he) (by decide) (by decide) he rfl, sn_ownLen ha.sn⟩
end
end DL

/-! DL, part al: a for over a name's own list: the list is lent to the loop, and is the name's own again behind it. -/
namespace DL
open PySem PyProof.Rows L2 Evl
def lenZ1 (z : Zs) (j : Nat) (p : Addr) : Zs := { z with Bo := fun a => z.Bo a ∨ a = p, V0 := fun i => if i = j then .ref p else z.V0 i }
section
variable {c : Ct} {z : Zs} {W : WX} {F H : Hp} {σ : L2.St} {e : DEnv} {j : Nat} {p : Addr} {d : D}
theorem root_set {b b' : B} (hr : b.isRoot = b'.isRoot) (hb : e[j]? = some (some b)) : ∀ i q, RootAt σ (e.set j (some b')) i q ↔ RootAt σ e i q := fun i q => by
  have hl := get_lt hb
  constructor
  · rintro ⟨x, h1, h2, h3⟩
    rcases get_set h1 with ⟨rfl, k⟩ | ⟨_, k⟩
    · cases k; exact ⟨b, hb, hr.trans h2, h3⟩
    · exact ⟨x, k, h2, h3⟩
  · rintro ⟨x, h1, h2, h3⟩
    by_cases ej : i = j
    · subst ej
      rw [hb] at h1; cases h1
      exact ⟨b', get_setS hl, hr.symm.trans h2, h3⟩
    · exact ⟨x, by rw [List.getElem?_set_ne (fun h => ej h.symm)]; exact h1, h2, h3⟩
theorem I2.lendJ (I : I2 c z σ H F e) (hb : e[j]? = some (some (.ow d))) (hv : σ[j]? = some (some (.ref p))) : I2 c (lenZ1 z j p) σ H F (e.set j (some (.br d))) := by
  obtain ⟨v, hv', q, e1, own, h0⟩ := I.slot j _ hb
  subst e1
  rw [hv] at hv'; cases hv'
  have rt := root_set (σ := σ) (b := .ow d) (b' := .br d) rfl hb
  refine ⟨by rw [List.length_set]; exact I.len, I.f0, I.fh, fun q o h nb => I.keep q o h fun k => nb (.inl k), fun i b h => ?_, fun i k q h1 h2 => I.dist i k q ((rt i q).mp h1) ((rt k q).mp h2), fun q h => ?_, I.nf, fun i d' v h hv1 => ?_⟩
  · rcases get_set h with ⟨rfl, k⟩ | ⟨_, k⟩
    · cases k; exact ⟨_, hv, p, rfl, own, .inr rfl⟩
    · obtain ⟨v, hv1, r⟩ := I.slot i b k
      refine ⟨v, hv1, ?_⟩
      cases b with
      | sh d => exact r
      | ow d => exact r
      | br d => obtain ⟨q, e1, o, k1⟩ := r; exact ⟨q, e1, o, .inl k1⟩
      | ex x => exact r
  · rcases h with h | h
    · exact I.bo q h
    · subst h; exact own.at
  · rcases get_set h with ⟨rfl, k⟩ | ⟨ne, k⟩
    · rw [hv] at hv1; cases hv1
      show (if i = i then _ else _) = _
      rw [if_pos rfl]
    · show (if i = j then _ else _) = _
      rw [if_neg ne]
      exact I.brv i d' v k hv1
theorem I2.unlendJ (I : I2 c (lenZ1 z j p) σ H F e) (h0 : z.H0 p = none) (hb : e[j]? = some (some (.br d))) : I2 c z σ H F (e.set j (some (.ow d))) := by
  obtain ⟨v, hv, q, e1, own, _⟩ := I.slot j _ hb
  subst e1
  have ev := I.brv j d _ hb hv
  have eq : q = p := by
    have : (if j = j then V.ref p else z.V0 j) = .ref q := ev
    rw [if_pos rfl] at this; cases this; rfl
  subst eq
  have rt := root_set (σ := σ) (b := .br d) (b' := .ow d) rfl hb
  refine ⟨by rw [List.length_set]; exact I.len, I.f0, I.fh, fun a o h nb => I.keep a o h fun k => k.elim nb (fun ea => by rw [ea, h0] at h; cases h), fun i b h => ?_, fun i k q h1 h2 => I.dist i k q ((rt i q).mp h1) ((rt k q).mp h2), fun a h => I.bo a (.inl h), I.nf, fun i d' v h hv1 => ?_⟩
  · rcases get_set h with ⟨rfl, k⟩ | ⟨ne, k⟩
    · cases k; exact ⟨_, hv, q, rfl, own, h0⟩
    · obtain ⟨v, hv1, r⟩ := I.slot i b k
      refine ⟨v, hv1, ?_⟩
      cases b with
      | sh d => exact r
      | ow d => exact r
      | br d =>
        obtain ⟨a, e1, o, k1⟩ := r
        refine ⟨a, e1, o, k1.elim id fun ea => ?_⟩
        subst ea e1
        exact absurd (I.dist i j a ⟨_, k, rfl, hv1⟩ ⟨_, hb, rfl, hv⟩) ne
      | ex x => exact r
  · rcases get_set h with ⟨rfl, k⟩ | ⟨ne, k⟩
    · cases k
    · have := I.brv i d' v k hv1
      have : (if i = j then V.ref q else z.V0 i) = v := this
      rw [if_neg ne] at this
      exact this
def loopO (j : Nat) (wr : Nat → D → D) (fg : D → DEnv → Option DEnv) (fb : FS) : Nat → Nat → DEnv → Res Out
  | 0, _, _ => .stuck
  | n + 1, i, e => match e[j]? with
    | some (some (.br (.lst ds))) => match ds[i]? with
      | none => .ok (.nx e)
      | some d => (Res.of (fg (wr i d) e)).bind fun e1 => (fb e1).bind fun o => match o with
        | .nx e2 => loopO j wr fg fb n (i + 1) e2
        | .ct e2 => loopO j wr fg fb n (i + 1) e2
        | .bk e2 => .ok (.nx e2)
        | .rt t e2 => .ok (.rt t e2)
    | _ => .stuck
def unbr (j : Nat) (e : DEnv) : Option DEnv := match e[j]? with
  | some (some (.br d)) => some (e.set j (some (.ow d)))
  | _ => none
def unbrO (j : Nat) : Res Out → Res Out
  | .ok (.nx e) => (Res.of (unbr j e)).bind fun e => .ok (.nx e)
  | .ok (.rt t e) => (Res.of (unbr j e)).bind fun e => .ok (.rt t e)
  | .ok _ => .stuck
  | .exc x e => match unbr j e with
    | some e' => .exc x e'
    | none => .stuck
  | .stuck => .stuck
def fForO (j : Nat) (wr : Nat → D → D) (fall : FS) (fg : D → DEnv → Option DEnv) (fb : FS) : FS := fun e => match e[j]? with
  | some (some (.ow (.lst ds))) => unbrO j (loopO j wr fg fb (ds.length + 1) 0 (e.set j (some (.br (.lst ds)))))
  | some (some (.br (.lst ds))) => loopO j wr fg fb (ds.length + 1) 0 e
  | _ => fall e
theorem unbr_eq {e' : DEnv} (h : unbr j e = some e') : ∃ d, e[j]? = some (some (.br d)) ∧ e' = e.set j (some (.ow d)) := by
  unfold unbr at h
  split at h
  · cases h; exact ⟨_, by assumption, rfl⟩
  · cases h
/-- from the loop with the lent list to the loop that is asked for -/
theorem lend_back {r : Res Out} {D : Ends} (h0 : z.H0 p = none) (h : Wp (unbrO j r) (PoS c z F D) (XpS c z W F)) : Wp r (PoS c (lenZ1 z j p) F D) (XpS c (lenZ1 z j p) W F) := by
  cases r with
  | stuck => exact h
  | exc x e =>
    unfold unbrO at h
    dsimp only at h
    split at h
    · rename_i e' hu
      obtain ⟨d, hb, rfl⟩ := unbr_eq hu
      exact fun σ' cls dd H' F' x' I r => h σ' cls dd H' F' x' (I.unlendJ h0 hb) r
    · exact h.elim
  | ok o =>
    cases o with
    | nx e =>
      unfold unbrO at h
      dsimp only at h
      rw [Wp.bind] at h
      obtain ⟨e', hu, h⟩ := Wp.of h
      obtain ⟨d, hb, rfl⟩ := unbr_eq hu
      exact fun σ' H' F' x' I => h σ' H' F' x' (I.unlendJ h0 hb)
    | rt t e =>
      unfold unbrO at h
      dsimp only at h
      rw [Wp.bind] at h
      obtain ⟨e', hu, h⟩ := Wp.of h
      obtain ⟨d, hb, rfl⟩ := unbr_eq hu
      refine fun v σ' H' F' x' I ht => h v σ' H' F' x' (I.unlendJ h0 hb) ?_
      cases t with
      | sl i => exact ht
      | vl d => exact ht
      | nw d =>
        obtain ⟨q, e1, own, h1, h2⟩ := ht
        exact ⟨q, e1, own, h1, fun i hi => h2 i ((root_set (b := .br _) (b' := .ow _) rfl hb i q).mp hi)⟩
    | bk e => exact h.elim
    | ct e => exact h.elim
section
variable {J : It} {gg : TG} {fg : D → DEnv → Option DEnv} {ts : TS} {f : FS} {wr : Nat → D → D}
theorem sn_loopO (hV : z.V0 j = .ref p)
    (turn : ∀ (i : Nat) (σ' : L2.St) (H' F' : Hp) (e' : DEnv) (ds : List D) (vs : List V), I2 c z σ' H' F' e' → H' p = some (.lst vs) → RpL c F' ds vs →
      (∀ d, ds[i]? = some d → J.go i H' ∧ ∀ y H2, J.yld i H' y H2 → ∃ F2, Ex F' F2 ∧ I2 c z σ' H2 F2 e' ∧ Rp c F2 (wr i d) y) ∧ (ds[i]? = none → J.stop i H'))
    (hg : ∀ (z : Zs) σ H F e d v e' (Q : L2.St → Hp → Prop), I2 c z σ H F e → Rp c F d v → fg d e = some e' → (∀ σ', I2 c z σ' H F e' → Q σ' H) → gg v σ H Q) (hb : SndS c W ts f)
    {D : Ends} {n : Nat} (I : I2 c z σ H F e) (h : Wp (loopO j wr fg f n 0 e) (PoS c z F D) (XpS c z W F)) :
    ∃ Wi : Nat → Nat → L2.St → Hp → Prop, (∃ m, Wi 0 m σ H) ∧ ∀ i m σ H, Wi i m σ H →
      (J.stop i H ∧ D.nx σ H) ∨ (J.go i H ∧ ∃ N : L2.St → Hp → Prop, (∀ σ' H', N σ' H' → ∃ m', m' < m ∧ Wi (i + 1) m' σ' H') ∧ ∀ x H', J.yld i H x H' → gg x σ H' fun σ2 H2 => ts { D with nx := N, ct := N, bk := D.nx } σ2 H2) := by
  refine ⟨fun i m σ' H' => ∃ F' e', Ex F F' ∧ I2 c z σ' H' F' e' ∧ Wp (loopO j wr fg f m i e') (PoS c z F' D) (XpS c z W F'), ⟨n, F, e, Ex.refl F, I, h⟩, ?_⟩
  rintro i m σ' H' ⟨F', e', x', I', h'⟩
  cases m with
  | zero => exact h'.elim
  | succ m =>
    unfold loopO at h'
    split at h'
    · rename_i ds hbj
      obtain ⟨v, hv, q, e1, own, _⟩ := I'.slot j _ hbj
      subst e1
      have eq := (I'.brv j _ _ hbj hv).symm.trans hV
      cases eq
      obtain ⟨_, vs, hH, r⟩ := own
      obtain ⟨t1, t2⟩ := turn i σ' H' F' e' ds vs I' hH r
      split at h'
      · rename_i hd
        exact .inl ⟨t2 hd, h' σ' H' F' (Ex.refl F') I'⟩
      · rename_i d hd
        obtain ⟨go, yld⟩ := t1 d hd
        rw [Wp.bind] at h'
        obtain ⟨e2, l1, h'⟩ := Wp.of h'
        rw [Wp.bind] at h'
        refine .inr ⟨go, fun σ2 H2 => ∃ F2 e2, Ex F F2 ∧ I2 c z σ2 H2 F2 e2 ∧ Wp (loopO j wr fg f m (i + 1) e2) (PoS c z F2 D) (XpS c z W F2), fun σ2 H2 q => ⟨m, Nat.lt_succ_self _, q⟩, fun y H2 hy => ?_⟩
        obtain ⟨F2, x2, J2, r2⟩ := yld y H2 hy
        refine hg z σ' H2 F2 e' _ y e2 _ J2 r2 l1 fun σ3 J3 => ?_
        refine hb z σ3 H2 F2 e2 _ J3 (h'.mono (fun o _ h => ?_) fun _ _ h => h.mono x2)
        cases o with
        | nx e4 => exact fun σ4 H4 F4 x4 I4 => ⟨F4, e4, (x'.trans x2).trans x4, I4, h.mono (fun _ _ h => h.mono (x2.trans x4)) fun _ _ h => h.mono (x2.trans x4)⟩
        | ct e4 => exact fun σ4 H4 F4 x4 I4 => ⟨F4, e4, (x'.trans x2).trans x4, I4, h.mono (fun _ _ h => h.mono (x2.trans x4)) fun _ _ h => h.mono (x2.trans x4)⟩
        | bk e4 => exact fun σ4 H4 F4 x4 I4 => h σ4 H4 F4 (x2.trans x4) I4
        | rt t e4 => exact fun v σ4 H4 F4 x4 I4 t4 => h v σ4 H4 F4 (x2.trans x4) I4 t4
    · exact h'.elim
end
section
variable {X : Cx} {a tg : Expr} {gg : TG} {fg : D → DEnv → Option DEnv} {ts : TS} {f fall : FS} {sts : List Stmt} {pos : Pos}
theorem turn_list (i : Nat) (σ' : L2.St) (H' F' : Hp) (e' : DEnv) (ds : List D) (vs : List V) (I' : I2 c z σ' H' F' e') (hH : H' p = some (.lst vs)) (r : RpL c F' ds vs) :
    (∀ d, ds[i]? = some d → (Itl c.K p).go i H' ∧ ∀ y H2, (Itl c.K p).yld i H' y H2 → ∃ F2, Ex F' F2 ∧ I2 c z σ' H2 F2 e' ∧ Rp c F2 d y) ∧ (ds[i]? = none → (Itl c.K p).stop i H') := by
  refine ⟨fun d hd => ?_, fun hd => ⟨vs, sq_of hH, by rw [← r.len]; exact List.getElem?_eq_none_iff.mp hd⟩⟩
  obtain ⟨v, hv, rv⟩ := r.get hd
  refine ⟨⟨vs, v, sq_of hH, hv⟩, fun y H2 hy => ?_⟩
  obtain ⟨e1, hy⟩ := hy
  subst e1
  have e1 := hy vs (sq_of hH)
  rw [hv] at e1; cases e1
  exact ⟨F', Ex.refl F', I', rv⟩
theorem turn_enum (i : Nat) (σ' : L2.St) (H' F' : Hp) (e' : DEnv) (ds : List D) (vs : List V) (I' : I2 c z σ' H' F' e') (hH : H' p = some (.lst vs)) (r : RpL c F' ds vs) :
    (∀ d, ds[i]? = some d → (Ite c.K p).go i H' ∧ ∀ y H2, (Ite c.K p).yld i H' y H2 → ∃ F2, Ex F' F2 ∧ I2 c z σ' H2 F2 e' ∧ Rp c F2 (.tup [.int (i : Nat), d]) y) ∧ (ds[i]? = none → (Ite c.K p).stop i H') := by
  refine ⟨fun d hd => ?_, fun hd => ⟨vs, sq_of hH, by rw [← r.len]; exact List.getElem?_eq_none_iff.mp hd⟩⟩
  obtain ⟨v, hv, rv⟩ := r.get hd
  refine ⟨⟨vs, v, sq_of hH, hv⟩, fun y H2 ⟨T, v', e1, hT, e2, k1⟩ => ?_⟩
  subst e1 e2
  have e1 := k1 vs (sq_of hH)
  rw [hv] at e1; cases e1
  have xn := Ex.new (o := HO.tup [.int (i : Nat), v]) (fresh_back I'.fh hT)
  exact ⟨_, xn, I'.allocT hT, T, [.int (i : Nat), v], rfl, st_of upd_same, _, [v], rfl, rfl, v, [], rfl, rv.mono xn _ _, rfl⟩
theorem sn_forO {wi : TI} {wr : Nat → D → D} (K : Addr → It) (hw : ∀ (σ : L2.St) (H : Hp) (p : Addr) (vs : List V) (R : It → Hp → Prop), σ[j]? = some (some (.ref p)) → H p = some (.lst vs) → R (K p) H → wi σ H R)
    (turn : ∀ (z : Zs) (p : Addr) (i : Nat) (σ' : L2.St) (H' F' : Hp) (e' : DEnv) (ds : List D) (vs : List V), I2 c z σ' H' F' e' → H' p = some (.lst vs) → RpL c F' ds vs →
      (∀ d, ds[i]? = some d → (K p).go i H' ∧ ∀ y H2, (K p).yld i H' y H2 → ∃ F2, Ex F' F2 ∧ I2 c z σ' H2 F2 e' ∧ Rp c F2 (wr i d) y) ∧ (ds[i]? = none → (K p).stop i H'))
    (hf : SndS c W (tFor wi gg ts) fall) (hg : ∀ (z : Zs) σ H F e d v e' (Q : L2.St → Hp → Prop), I2 c z σ H F e → Rp c F d v → fg d e = some e' → (∀ σ', I2 c z σ' H F e' → Q σ' H) → gg v σ H Q) (hb : SndS c W ts f) :
    SndS c W (tFor wi gg ts) (fForO j wr fall fg f) := fun z σ H F e D I h => by
  unfold fForO at h
  split at h
  · rename_i ds hbj
    obtain ⟨v, hv, q, e1, own, h0⟩ := I.slot j _ hbj
    subst e1
    obtain ⟨_, vs, hH, r⟩ := id own
    exact hw σ H q vs _ hv hH (sn_loopO (z := lenZ1 z j q) (p := q) (show (if j = j then _ else _) = _ by rw [if_pos rfl]) (turn _ q) hg hb (I.lendJ hbj hv) (lend_back h0 h))
  · rename_i ds hbj
    obtain ⟨v, hv, q, e1, own, h0⟩ := I.slot j _ hbj
    subst e1
    obtain ⟨_, vs, hH, r⟩ := id own
    exact hw σ H q vs _ hv hH (sn_loopO (p := q) (I.brv j _ _ hbj hv) (turn _ q) hg hb I h)
  · exact hf z σ H F e D I h
/-- for x in xs, xs a name -/
theorem ds_forL (hp : PassesOwn (model X.prog X.w) X.A X.env X.xe) (hc : X.calm = true) (hK : X.K = c.K) (ha : DE X c W a (tVar j) (fVar j)) (hg : DG X c tg gg fg) (hb : DSs X c W sts ts f)
    (hs : ∀ x, foldedSetIterable a X.env x = pure x := by intro _; rfl) : DS X c W (.For tg a sts [] pos) (tFor (iList c.K (tVar j)) gg ts) (fForO j (fun _ d => d) (fFor (fiL (fVar j)) fg f) fg f) :=
  ⟨ps_for hp hc (hK ▸ pi_list ha.pe) hg.pg hb.ps hs, sn_forO (Itl c.K) (fun σ H p vs R h1 h2 h3 => ⟨.ref p, h1, p, rfl, ⟨vs, sq_of h2⟩, h3⟩) (fun z p i σ' H' F' e' ds vs I' hH r => turn_list i σ' H' F' e' ds vs I' hH r) (sn_for (sn_iL ha.sn) hg.sn hb.sn) hg.sn hb.sn⟩
/-- for i, x in enumerate(xs), xs a name -/
theorem ds_forE {elts : List Expr} {kk : Nat} {p tpos : Pos} (hp : PassesOwn (model X.prog X.w) X.A X.env X.xe) (hc : X.calm = true) (hK : X.K = c.K) (hgl : Gl X "enumerate") (hm : X.mg "enumerate" = none) (ha : DE X c W a (tVar j) (fVar j)) (hst : starEach [a] X.env = [(false, eval a X.env)]) (hg : DG X c (.Tuple elts kk tpos) gg fg) (hb : DSs X c W sts ts f)
    (hs : ∀ x, foldedSetIterable (.Call (.Name "enumerate" p) [a] [] pos) X.env x = pure x := by intro _; rfl) {pos2 : Pos} :
    DS X c W (.For (.Tuple elts kk tpos) (.Call (.Name "enumerate" p) [a] [] pos) sts [] pos2) (tFor (iEnum c.K (tCons (tVar j) tNil)) gg ts) (fForO j (fun i d => .tup [.int (i : Nat), d]) (fFor (fiE (fA1 (fVar j) fA0)) fg f) fg f) :=
  ⟨ps_for hp hc (hK ▸ pi_enum hgl hm (pa_cons ha.pe pa_nil hst) hst) hg.pg hb.ps hs, sn_forO (Ite c.K) (fun σ H p vs R h1 h2 h3 => ⟨.ref p, h1, p, vs, rfl, sq_of h2, h3⟩) (fun z p i σ' H' F' e' ds vs I' hH r => turn_enum i σ' H' F' e' ds vs I' hH r) (sn_for (sn_iE (sn_consA ha.sn (da_nil (X := X)).sn)) hg.sn hb.sn) hg.sn hb.sn⟩
end
end
end DL

/-! DL, part am: e.append(x) of a new list that no name holds. -/
namespace DL
open PySem PyProof.Rows L2 Evl
section
variable {X : Cx} {c : Ct} {z : Zs} {W : WX} {F H : Hp} {σ : L2.St} {a o : Expr} {ta to : TE} {fa fo : FE}
def fAppN (fo fa : FE) : FE := fun e => (fo e).bind fun q => match q.1 with
  | .nw (.lst ds) => if ds.length < lim then (fa q.2).bind fun r => (Res.of (escape r.1 r.2)).bind fun s => .ok (.vl .non, s.2) else .stuck
  | _ => .stuck
theorem sn_appN (ho : SndE c W to fo) (ha : SndE c W ta fa) : SndE c W (tBM c.K "list" rAppend to (tCons ta tNil)) (fAppN fo fa) := fun z σ H F e Q I h => by
  unfold fAppN at h
  rw [Wp.bind] at h
  refine ho z σ H F e _ I (h.mono (fun q _ h x H1 F1 x1 I1 t1 => ?_) fun _ _ h => h)
  obtain ⟨t, e1⟩ := q
  dsimp only at h t1 I1
  split at h
  · rename_i ds
    split at h
    · rename_i hl
      obtain ⟨p, rfl, ⟨hF, vs, hp, r⟩, h0, nr⟩ := t1
      have hF0 : z.F0 p = none := by
        cases q : z.F0 p with
        | none => rfl
        | some u => have := I1.f0 _ _ q; rw [hF] at this; cases this
      refine ⟨.inl ⟨rfl, _, sq_of hp⟩, ?_⟩
      rw [Wp.bind] at h
      refine ha (hideZ z p (.lst vs)) σ H1 F1 e1 _ (I1.hide hp hF nr) (h.mono (fun r' _ h v H2 F2 x2 K2 t2 => ?_) fun xv e' g cls dd H' F' x' K r => g cls dd H' F' (x1.trans x') (K.unhide h0 hF0).1 r)
      rw [Wp.bind] at h
      obtain ⟨⟨d, e3⟩, l, h⟩ := Wp.of h
      obtain ⟨G, x3, J, rr⟩ := t2.escape K2 l
      obtain ⟨J0, hp1, hG, nr'⟩ := J.unhideTo (o' := .lst (vs ++ [v])) h0 hF0
      refine ⟨p, vs, v, rfl, rfl, hp1, by rw [← r.len]; exact Nat.lt_trans hl (by decide), ?_⟩
      exact h _ _ G ((x1.trans x2).trans x3) J0 rfl
    · exact h.elim
  · exact h.elim
theorem de_appN {apos pos : Pos} (ho : DE X c W o to fo) (hK : X.K = c.K) (ha : DE X c W a ta fa)
    (hbase : attributeBase o "append" X.env (eval o X.env) = eval o X.env := by rfl)
    (hfew : ((backTo pos (starEach [a] X.env)).all (fun x => !x.1) && (backToKw pos (keywordEach [] X.env)).all (fun x => x.1.isSome)
      && decide (([a] : List Expr).length + ([] : List Keyword).length + (if ([] : List Keyword).isEmpty then 0 else 1) < 30)) = true := by rfl)
    (hline : (apos.endLine == pos.line) = true := by rfl) (hs : starEach [a] X.env = (false, eval a X.env) :: starEach [] X.env := by rfl) :
    DE X c W (.Call (.Attribute o "append" apos) [a] [] pos) (tBM c.K "list" rAppend to (tCons ta tNil)) (fAppN fo fa) :=
  ⟨hK ▸ pe_bm PySem.F.plainAttrs_list PySem.F.slot_list_append PySem.F.type_list_append mt_append ho.pe (pa_cons ha.pe pa_nil hs) hbase hfew hline hs, sn_appN ho.sn ha.sn⟩
/-! ### a, b, c = x, y, z -/
def fPar3 (i j l : Nat) (fr : FA) : FS := fun e => (fr e).bind fun r => Res.of ((escs r.1 r.2).bind fun q => match q.1 with
  | [d1, d2, d3] => if i < q.2.length ∧ j < q.2.length ∧ l < q.2.length then some (.nx (((q.2.set i (some (.sh d1))).set j (some (.sh d2))).set l (some (.sh d3)))) else none
  | _ => none)
theorem sn_par3 {i j l : Nat} {tr : TA} {fr : FA} (ha : SndA c W tr fr) : SndS c W (tPar3 i j l tr) (fPar3 i j l fr) := fun z σ H F e D I h => by
  unfold fPar3 at h
  rw [Wp.bind] at h
  refine ha z σ H F e _ I (h.mono (fun r _ h vs H1 F1 x1 I1 t1 => ?_) fun _ _ h => h σ)
  obtain ⟨o, ea, h⟩ := Wp.of h
  obtain ⟨⟨ds, e1⟩, l1, ea⟩ := obind ea
  obtain ⟨G, x2, J, rr⟩ := t1.escs I1 l1
  dsimp only at ea
  split at ea
  · rename_i d1 d2 d3
    split at ea
    · rename_i hl
      cases ea
      obtain ⟨v1, r1, rfl, q1, v2, r2, rfl, q2, v3, r3, rfl, q3, e3⟩ := rr
      cases e3
      have hi : i < σ.length := by rw [← J.len]; exact hl.1
      have hj : j < σ.length := by rw [← J.len]; exact hl.2.1
      have hk : l < σ.length := by rw [← J.len]; exact hl.2.2
      have K1 := J.store hi q1
      have K2 := K1.store (i := j) (by rw [List.length_set]; exact hj) q2
      have K3 := K2.store (i := l) (by rw [List.length_set, List.length_set]; exact hk) q3
      exact ⟨v1, v2, v3, rfl, h _ _ G (x1.trans x2) K3⟩
    · cases ea
  · cases ea
theorem ds_par3 {i j l : Nat} {x y zz : Str} {a b d : Expr} {tr : TA} {fr : FA} {px py pz pt pos : Pos} {kt k2 pt2} (hc : X.calm = true) (hN : X.N.Nodup) (hi : X.N[i]? = some x) (hj : X.N[j]? = some y) (hl : X.N[l]? = some zz) (hij : i ≠ j) (hil : i ≠ l) (hjl : j ≠ l)
    (hx : X.env.scope.names.lookup x = some .local) (hy : X.env.scope.names.lookup y = some .local) (hz : X.env.scope.names.lookup zz = some .local) (ha : DA X c W [a, b, d] tr fr)
    (hw : swappedStores [.Tuple [.Name x px, .Name y py, .Name zz pz] kt pt] (.Tuple [a, b, d] k2 pt2) X.env = pure (some [x, y, zz]))
    (hs : swapsWithSole [.Tuple [.Name x px, .Name y py, .Name zz pz] kt pt] (.Tuple [a, b, d] k2 pt2) pos.line X.env = pure false := by rfl) :
    DS X c W (.Assign [.Tuple [.Name x px, .Name y py, .Name zz pz] kt pt] (.Tuple [a, b, d] k2 pt2) pos) (tPar3 i j l tr) (fPar3 i j l fr) := ⟨ps_par3 hc hN hi hj hl hij hil hjl hx hy hz ha.pa hw hs, sn_par3 ha.sn⟩
end
end DL

/-! DL, part an: max, min, sorted of a list of integers. -/
namespace DL
open PySem L2 Evl
variable {X : Ctx} {c : Ct} {W : WX}
def maxI : List Int → Option Int
  | [] => none
  | n :: ns => match maxI ns with
    | none => some n
    | some m => some (if m ≤ n then n else m)
def minI : List Int → Option Int
  | [] => none
  | n :: ns => match minI ns with
    | none => some n
    | some m => some (if n ≤ m then n else m)
theorem maxI_none : ∀ {ns : List Int}, maxI ns = none → ns = []
  | [], _ => rfl
  | n :: ns, h => by unfold maxI at h; split at h <;> cases h
theorem minI_none : ∀ {ns : List Int}, minI ns = none → ns = []
  | [], _ => rfl
  | n :: ns, h => by unfold minI at h; split at h <;> cases h
theorem maxI_ok : ∀ {ns : List Int} {m : Int}, maxI ns = some m → m ∈ ns ∧ ∀ y ∈ ns, y ≤ m
  | [], _, h => by cases h
  | n :: ns, m, h => by
    unfold maxI at h
    split at h
    · rename_i hn
      cases h
      rw [maxI_none hn]
      exact ⟨List.mem_cons_self, fun y hy => by simp at hy; omega⟩
    · rename_i k hk
      obtain ⟨h1, h2⟩ := maxI_ok hk
      cases h
      split
      · exact ⟨List.mem_cons_self, fun y hy => (List.mem_cons.mp hy).elim (fun e => by omega) fun z => by have := h2 y z; omega⟩
      · exact ⟨List.mem_cons_of_mem _ h1, fun y hy => (List.mem_cons.mp hy).elim (fun e => by omega) (h2 y)⟩
theorem minI_ok : ∀ {ns : List Int} {m : Int}, minI ns = some m → m ∈ ns ∧ ∀ y ∈ ns, m ≤ y
  | [], _, h => by cases h
  | n :: ns, m, h => by
    unfold minI at h
    split at h
    · rename_i hn
      cases h
      rw [minI_none hn]
      exact ⟨List.mem_cons_self, fun y hy => by simp at hy; omega⟩
    · rename_i k hk
      obtain ⟨h1, h2⟩ := minI_ok hk
      cases h
      split
      · exact ⟨List.mem_cons_self, fun y hy => (List.mem_cons.mp hy).elim (fun e => by omega) fun z => by have := h2 y z; omega⟩
      · exact ⟨List.mem_cons_of_mem _ h1, fun y hy => (List.mem_cons.mp hy).elim (fun e => by omega) (h2 y)⟩
def opMax (ds : List D) : Option RV := match ds with
  | [.lst xs] => (intsOf xs).bind fun ns => (maxI ns).map fun m => .fl (.int m)
  | [.rol xs] => (intsOf xs).bind fun ns => (maxI ns).map fun m => .fl (.int m)
  | _ => none
def opMin (ds : List D) : Option RV := match ds with
  | [.lst xs] => (intsOf xs).bind fun ns => (minI ns).map fun m => .fl (.int m)
  | [.rol xs] => (intsOf xs).bind fun ns => (minI ns).map fun m => .fl (.int m)
  | _ => none
theorem ok_max : RlOk c (rMax c.K) opMax := by
  intro F H ds vs rv Q x k l q
  unfold opMax at l
  split at l <;> try cases l
  all_goals
    obtain ⟨ns, h1, l⟩ := (Option.bind_eq_some_iff.mp l)
    obtain ⟨m, h2, rfl⟩ := omap l
    have e := intsOf_map h1
    subst e
    obtain ⟨g1, g2⟩ := maxI_ok h2
    have g0 : 0 < ns.length := List.length_pos_of_mem g1
    have u : ∀ j, j ∈ ns → (∀ y, y ∈ ns → y ≤ j) → j = m := fun j a b => by have := b m g1; have := g2 j a; omega
    obtain ⟨v, rfl, y⟩ := k.one
    first
      | (obtain ⟨p, ws, rfl, h, r⟩ := y.lst x
         rw [r.ints] at h
         exact ⟨p, ns, rfl, sq_of h, g0, fun j a b => by rw [u j a b]; exact q _ rfl⟩)
      | (obtain ⟨p, ws, rfl, h, r⟩ := y.rol x
         rw [r.ints] at h
         exact ⟨p, ns, rfl, h, g0, fun j a b => by rw [u j a b]; exact q _ rfl⟩)
theorem ok_min : RlOk c (rMin c.K) opMin := by
  intro F H ds vs rv Q x k l q
  unfold opMin at l
  split at l <;> try cases l
  all_goals
    obtain ⟨ns, h1, l⟩ := (Option.bind_eq_some_iff.mp l)
    obtain ⟨m, h2, rfl⟩ := omap l
    have e := intsOf_map h1
    subst e
    obtain ⟨g1, g2⟩ := minI_ok h2
    have g0 : 0 < ns.length := List.length_pos_of_mem g1
    have u : ∀ j, j ∈ ns → (∀ y, y ∈ ns → j ≤ y) → j = m := fun j a b => by have := b m g1; have := g2 j a; omega
    obtain ⟨v, rfl, y⟩ := k.one
    first
      | (obtain ⟨p, ws, rfl, h, r⟩ := y.lst x
         rw [r.ints] at h
         exact ⟨p, ns, rfl, sq_of h, g0, fun j a b => by rw [u j a b]; exact q _ rfl⟩)
      | (obtain ⟨p, ws, rfl, h, r⟩ := y.rol x
         rw [r.ints] at h
         exact ⟨p, ns, rfl, h, g0, fun j a b => by rw [u j a b]; exact q _ rfl⟩)
/-! ### sorted -/
def insI (a : Int) : List Int → List Int
  | [] => [a]
  | b :: bs => if a ≤ b then a :: b :: bs else b :: insI a bs
def sortI : List Int → List Int
  | [] => []
  | a :: as => insI a (sortI as)
theorem insI_perm (a : Int) : ∀ bs : List Int, (insI a bs).Perm (a :: bs)
  | [] => .refl _
  | b :: bs => by
    unfold insI
    split
    · exact .refl _
    · exact ((insI_perm a bs).cons b).trans (.swap a b bs)
theorem insI_sorted (a : Int) : ∀ {bs : List Int}, bs.Pairwise (· ≤ ·) → (insI a bs).Pairwise (· ≤ ·)
  | [], _ => by simp [insI]
  | b :: bs, h => by
    unfold insI
    obtain ⟨h1, h2⟩ := List.pairwise_cons.mp h
    split
    · rename_i hab
      refine List.pairwise_cons.mpr ⟨fun y hy => ?_, h⟩
      rcases List.mem_cons.mp hy with rfl | hy
      · exact hab
      · have := h1 y hy; omega
    · rename_i hab
      refine List.pairwise_cons.mpr ⟨fun y hy => ?_, insI_sorted a h2⟩
      rcases List.mem_cons.mp ((insI_perm a bs).mem_iff.mp hy) with rfl | hy
      · omega
      · exact h1 y hy
theorem sortI_perm : ∀ as : List Int, (sortI as).Perm as
  | [] => .refl _
  | a :: as => (insI_perm a _).trans ((sortI_perm as).cons a)
theorem sortI_sorted : ∀ as : List Int, (sortI as).Pairwise (· ≤ ·)
  | [] => .nil
  | a :: as => insI_sorted a (sortI_sorted as)
theorem sorted_uniq : ∀ {as bs : List Int}, as.Perm bs → as.Pairwise (· ≤ ·) → bs.Pairwise (· ≤ ·) → as = bs
  | [], bs, p, _, _ => (List.nil_perm.mp p).symm
  | a :: as, [], p, _, _ => absurd p.length_eq (by simp)
  | a :: as, b :: bs, p, h, g => by
    obtain ⟨h1, h2⟩ := List.pairwise_cons.mp h
    obtain ⟨g1, g2⟩ := List.pairwise_cons.mp g
    have e : a = b := by
      have ha := List.mem_cons.mp (p.mem_iff.mp (List.mem_cons_self (a := a) (l := as)))
      have hb := List.mem_cons.mp (p.mem_iff.mpr (List.mem_cons_self (a := b) (l := bs)))
      rcases ha with rfl | ha
      · rfl
      · rcases hb with rfl | hb
        · rfl
        · have := g1 a ha; have := h1 b hb; omega
    subst e
    rw [sorted_uniq ((List.perm_cons a).mp p) h2 g2]
def opSorted (ds : List D) : Option RV := match ds with
  | [.lst xs] => (intsOf xs).map fun ns => .nl ((sortI ns).map .int)
  | [.rol xs] => (intsOf xs).map fun ns => .nl ((sortI ns).map .int)
  | _ => none
theorem ok_sorted : RlOk c (rSortedI c.K) opSorted := by
  intro F H ds vs rv Q x k l q
  unfold opSorted at l
  split at l <;> try cases l
  all_goals
    obtain ⟨ns, h1, rfl⟩ := omap l
    have e := intsOf_map h1
    subst e
    have u : ∀ ys : List Int, ys.Perm ns → ys.Pairwise (· ≤ ·) → ys = sortI ns := fun ys a b => sorted_uniq (a.trans (sortI_perm ns).symm) b (sortI_sorted ns)
    obtain ⟨v, rfl, y⟩ := k.one
    first
      | (obtain ⟨p, ws, rfl, h, r⟩ := y.lst x
         rw [r.ints] at h
         exact ⟨p, ns, rfl, sq_of h, fun ys l a b hl => by rw [u ys a b]; exact q l _ (RpL.of_ints _) hl⟩)
      | (obtain ⟨p, ws, rfl, h, r⟩ := y.rol x
         rw [r.ints] at h
         exact ⟨p, ns, rfl, h, fun ys l a b hl => by rw [u ys a b]; exact q l _ (RpL.of_ints _) hl⟩)
end DL

/-! DL, part va: an own exception class (its own __init__) called with keywords, at the model's level. -/
namespace PySem
namespace DLV
open Builtin Builtin.ObjectAttr PySem.HandSPX PySem.W PySem.Calls PyProof.Rows
section
variable {M : Model} {A : Around} {E : Value → Shared → Prop} {h : Heap} {g : Array GenState} {d : Drawn} {t : Nat} {os : OsState}
variable {nm q : Str} {C N : Addr} {bs bm bmB : List Value} {hdct : Bool} {sn : List Str} {sub : List Value} {ab : Bool} {col : Option Bool} {dd : Option Addr} {k0 k1 k2 k3 k5 : Option Value} {B newId initId : String} {kw : List (Str × Value)}
theorem chk_kw (F : ExcBaseFacts B newId initId bmB) (hT : ∀ X : String, bm.contains (.type X) = bmB.contains (.type X)) {us : List Value} {Q : Unit → Shared → Prop}
    (hC : h.get? C = some (excClassObj nm q C N bs bm hdct sn sub ab col dd k0 k1 k2 k3 k5 newId)) (hq : Q () ⟨h, g, d, t, os⟩) : wpAny M A (checkBuiltinCall newId ⟨.ref C :: us, kw⟩) Q E ⟨h, g, d, t, os⟩ := by
  have c1 : (Value.ref C :: bm).contains (.type B) = true := by rw [List.contains_cons, hT, F.hasB]; exact Bool.or_true _
  have c2 := F.noStar
  simp only [checkBuiltinCall, F.newKind, F.newSplit, F.newRow]; repeat (first | refine wpAny_loadPart_at hC ?_ | (refine wpAny_isSubtype_exc hC ?_; rw [c1]) | refine wpAny_staticBase_exc hC ?_ | refine wpAny_madeBy_exc hC ?_ | simp only [bne_self_eq_false, Bool.false_eq_true, if_false] | wp_step)
  exact hq
end
section
variable {prog : Program} {w : World} {A : Around} {E : Value → Shared → Prop} {R : Result → Shared → Prop} {h : Heap} {g : Array GenState} {d : Drawn} {t : Nat} {os : OsState}
variable {nm q : Str} {C N : Addr} {bs bm bmB : List Value} {hdct : Bool} {sn : List Str} {sub : List Value} {ab : Bool} {col : Option Bool} {dd : Option Addr} {k0 k1 k2 k3 k5 : Option Value} {B newId initId : String} {kw : List (Str × Value)}
theorem new_kw (F : ExcBaseFacts B newId initId bmB) (hT : ∀ X : String, bm.contains (.type X) = bmB.contains (.type X)) {us : List Value}
    (hC : h.get? C = some (excClassObj nm q C N bs bm hdct sn sub ab col dd k0 k1 k2 k3 k5 newId)) (hl : us.length ≤ sizeLine)
    (hq : R (.ok (.ret (.ref (h.objs.size + 1)))) ⟨(h.push (kdv_tup us)).push (excO C h.objs.size), g, d, t, os⟩) : codeAny (model prog w) A (.builtin newId ⟨.ref C :: us, kw⟩) R ⟨h, g, d, t, os⟩ := by
  have e0 := F.ends
  have c1 : (Value.ref C :: bm).contains (.type B) = true := by rw [List.contains_cons, hT, F.hasB]; exact Bool.or_true _
  have c2 : (Value.ref C :: bm).contains (.type "AttributeError") = false := by rw [List.contains_cons, hT]; exact F.noAttr
  have c3 : (Value.ref C :: bm).contains (.type "NameError") = false := by rw [List.contains_cons, hT]; exact F.noName
  refine codeAny_builtinAt F.entry ?_; unfold Builtin.«BaseException.__new__»
  refine wpAt_bind ?_; show wpAt _ _ _ (stack >>= _) _ _ _
  refine wpAt_bind (wpAt_stack fun p below => wpAt_of_wpAny ?_); wp_walk; refine wpAt_of_wpAny ?_; rw [F.owner]
  repeat (first | with_reducible refine wpAny_madeHere_exc F.canon hC ?_ | with_reducible refine wpAny_loadPart_at hC ?_ | (with_reducible refine wpAny_isSubtype_exc hC ?_; first | rw [c1] | rw [c2] | rw [c3]) | wp_step)
  show R _ _; rw [Heap.size_push]; exact hq
theorem type_kw (F : ExcBaseFacts B newId initId bmB) (hT : ∀ X : String, bm.contains (.type X) = bmB.contains (.type X)) {us : List Value} {fI : Addr} {Q : Fin → Shared → Prop}
    (hC : h.get? C = some (excClassObj nm q C N bs bm hdct sn sub ab col dd k0 k1 k2 k3 k5 newId)) (hi : W.Looks (model prog w) h (typeLookup (.ref C) "__init__") (some (.ref fI)))
    (hb : ∀ self, W.Looks (model prog w) h (bindSpecial (.ref fI) self) (.ref fI, [self])) (hl : us.length ≤ sizeLine)
    (hq : codeAny (model prog w) A (.call (.ref fI) ⟨.ref (h.objs.size + 1) :: us, kw⟩) (fun r s' => match r with | .ok (.ret v) => v = .none ∧ Q (.done (.ret (.ref (h.objs.size + 1)))) s' | .ok _ => False | .error e => E e s')
      ⟨(h.push (W.kdv_tup us)).push (excO C h.objs.size), g, d, t, os⟩) : wpAny (model prog w) A (Builtin.«type.__call__» ⟨.ref C :: us, kw⟩) Q E ⟨h, g, d, t, os⟩ := by
  repeat (first | with_reducible refine wpAny_loadPart_at hC ?_ | with_reducible refine wpAny_madeBy_exc hC ?_ | wp_step)
  refine codeAny_call_builtin_code (Code.quiet_builtin _ F.quiet) (chk_kw F hT hC (new_kw F hT hC hl ?_)); show wpAny _ _ _ _ _ _
  have k : ∀ b o, h.get? b = some o → ((h.push (W.kdv_tup us)).push (excO C h.objs.size)).get? b = some o := fun b o e => Heap.get?_push_of_some _ (Heap.get?_push_of_some _ e)
  have hget : ((h.push (W.kdv_tup us)).push (excO C h.objs.size)).get? (h.objs.size + 1) = some (excO C h.objs.size) := by heap_get
  have c0 : (Value.ref C :: bm).contains (.ref C) = true := by rw [List.contains_cons, beq_self_eq_true]; rfl
  have l1 := hi.keeps k; have l2 := (hb (.ref (h.objs.size + 1))).keeps k
  unfold isInstance; repeat (first | with_reducible refine wpAny_loadPart_at hget ?_ | (with_reducible refine wpAny_isSubtype_exc (k _ _ hC) ?_; rw [c0]) | wp_step)
  show wpAny _ _ (typeLookup (.ref C) _) _ _ _; refine l1.at ?_
  refine wpAny_holding (wpAny_bind (l2.at ?_)); refine wpAny_bind (wpAny_call (codeAny_mono hq fun r s' z => ?_))
  rcases r with e | (v | _ | _ | _) <;> first | exact z | exact z.elim | skip
  obtain ⟨rfl, z⟩ := z; first | exact wpAny_pure (wpAny_pure z) | (wp_walk; exact z)
theorem call_kw (F : ExcBaseFacts B newId initId bmB) (hT : ∀ X : String, bm.contains (.type X) = bmB.contains (.type X)) {us : List Value} {fI : Addr}
    (hC : h.get? C = some (excClassObj nm q C N bs bm hdct sn sub ab col dd k0 k1 k2 k3 k5 newId)) (hi : W.Looks (model prog w) h (typeLookup (.ref C) "__init__") (some (.ref fI)))
    (hb : ∀ self, W.Looks (model prog w) h (bindSpecial (.ref fI) self) (.ref fI, [self])) (hl : us.length ≤ sizeLine)
    (hq : codeAny (model prog w) (A.under (.builtin "type.__call__" ⟨.ref C :: us, kw⟩)) (.call (.ref fI) ⟨.ref (h.objs.size + 1) :: us, kw⟩) (W.InitBack (h.objs.size + 1) R) ⟨(h.push (W.kdv_tup us)).push (excO C h.objs.size), g, d, t, os⟩) :
    codeAny (model prog w) A (.call (.ref C) ⟨us, kw⟩) R ⟨h, g, d, t, os⟩ := by
  have f1 := tc_lookup; have f2 := tc_bind (.ref C)
  have hTy : (⟨h, g, d, t, os⟩ : Shared).TypeIs (.ref C) "type" := ⟨_, hC, rfl⟩
  refine codeAny_of_tree ?_; show wpAny _ _ (callAny (.ref C) _) _ _ _
  repeat (any_goals (first | assumption | with_reducible refine wpAny_loadPart_at hC ?_ | wp_step))
  refine ⟨rfl, ?_⟩; refine codeAny_call_builtin_at (Code.quiet_builtin _ (by decide +kernel)) entry_typeCall (wpAny_check_type_call_sub hC (type_kw F hT hC hi hb hl ?_))
  refine codeAny_mono hq fun r s' z => ?_; rcases r with e | (v | _ | _ | _) <;> exact z
end
end DLV
end PySem

/-! DL, part vb: errors as values: C(e, ..), C(k = v, ..), e.f, isinstance(e, C). -/
namespace DL
open PySem L2 Evl
section
variable {X : Cx} {c : Ct} {W : WX} {a o b : Expr} {es : List Expr} {te : TE} {tr : TA} {fr : FA} {fo : FE} {pos : Pos}
/-- an error that is made is a value -/
def tMkV (t : L2.St → Hp → XK → Prop) : TE := fun σ H Q => t σ H fun cls d H' => ∀ p, H' p = none → Q (.ref p) (upd H' p (exV cls d p))
theorem pe_mkV {e : Expr} {t : L2.St → Hp → XK → Prop} (h : PMk X e t) : PE X e (tMkV t) := by
  refine ⟨fun pins s σ H Q I hq => thn (h pins s σ H _ I hq) fun u s' hu => ?_⟩
  obtain ⟨p, oe, vs, sI, H', cls, d, rfl, J, k, hne, ha, hz, hd, h1, na, os, ag, r, q⟩ := hu
  have new : ObjOk X.prog X.w (upd H' p (exV cls d p)) s'.heap p (exV cls d p) := ⟨⟨oe, vs, ha, hz, hd⟩, ⟨oe, ha⟩, fun _ _ ⟨o, v, z, y⟩ kk => ⟨o, v, kk o z, y⟩⟩
  exact ⟨.ref p, _, J.call' (ch := []) os (Un.laidN k hne na) (J.hok.laidN k na new) ag (fun b z => absurd z (by simp)), rfl, q p na⟩
/-! ### making -/
def fMkV (k n : Nat) (fa : FA) : FE := fun e => match fa e with
  | .ok r => (Res.of (escs r.1 r.2)).bind fun q => if q.1.length = n then .ok (.vl (.exv k q.1), q.2) else .stuck
  | _ => .stuck
theorem sn_mkV {C : Addr} {k n : Nat} (hC : C = c.cl k) (hn : (c.fn k).length = n) (h9 : n ≤ 800) (h0 : 0 < n) (ha : SndA c W tr fr) : SndE c W (tMkV (tMkO C (spXi C (c.fn k)) [] tr)) (fMkV k n fr) := fun z σ H F e Q I h => by
  unfold fMkV at h
  cases hf : fr e with
  | stuck => rw [hf] at h; exact h.elim
  | exc x e' => rw [hf] at h; exact h.elim
  | ok r =>
  rw [hf] at h
  refine ha z σ H F e _ I (show Wp (fr e) _ _ from by
    rw [hf]
    show ∀ vs H1 F1, Ex F F1 → I2 c z σ H1 F1 r.2 → TRs c z F1 H1 σ r.2 r.1 vs → _
    intro vs H1 F1 x1 I1 t1
    change Wp ((Res.of (escs r.1 r.2)).bind _) _ _ at h
    rw [Wp.bind] at h
    obtain ⟨⟨ds, e1⟩, l1, h⟩ := Wp.of h
    obtain ⟨G, x2, J, rr⟩ := t1.escs I1 l1
    dsimp only at h
    split at h
    · rename_i hl
      have hlen : vs.length = n := by rw [← rr.len]; exact hl
      refine ⟨by omega, fun p hp => ⟨p, vs, by rw [List.append_nil], by rw [hlen, hn], upd_same, fun d fs H2 g1 g2 g3 g4 g5 => ?_⟩⟩
      have nda : d ≠ p := fun z => by rw [z, upd_same] at g1; cases g1
      have hd : H1 d = none := by rw [upd_ne nda] at g1; exact g1
      refine ⟨rfl, d, fs, g2, g3, hd, ?_⟩
      have e2 : upd (del H2 p) d (.xd fs) = upd H1 d (.xd fs) := by
        funext b
        by_cases hb : b = d
        · subst hb; rw [upd_same, upd_same]
        · rw [upd_ne hb, upd_ne hb]
          by_cases hba : b = p
          · subst hba; rw [del_same, hp]
          · rw [del_ne hba, g4 b hba hb, upd_ne hba]
      rw [e2]
      intro p2 hp2
      have xn := Ex.new (o := HO.xd fs) (fresh_back J.fh hd)
      have J1 := J.allocT (o := HO.xd fs) hd
      have xn2 := Ex.new (o := exV (.ref C) (some d) p2) (fresh_back J1.fh hp2)
      have ndp : d ≠ p2 := fun z => by rw [← z, upd_same] at hp2; cases hp2
      refine h (.ref p2) _ _ (((x1.trans x2).trans xn).trans xn2) (J1.allocT hp2) ?_
      refine ⟨p2, some d, rfl, by rw [← hC]; exact upd_same, .inr ⟨fun z => by rw [show ds = [] from z] at hl; simp at hl; omega, d, fs, vs, rfl, by rw [upd_ne ndp]; exact upd_same, (rr.mono xn _ _).mono xn2 _ _, g5⟩⟩
    · exact h.elim)
/-- C(), C without own __init__ -/
def fMkV0 (k : Nat) : FE := fun e => .ok (.vl (.exv k []), e)
theorem sn_mkV0 {k : Nat} : SndE c W (tMkV (fun _ H Q => Q (.ref (c.cl k)) none H)) (fMkV0 k) := fun z σ H F e Q I h => by
  intro p hp
  have xn := Ex.new (o := exV (.ref (c.cl k)) none p) (fresh_back I.fh hp)
  exact h (.ref p) _ _ xn (I.allocT hp) ⟨p, none, rfl, upd_same, .inl ⟨rfl, rfl⟩⟩
/-! ### keywords -/
def tSelA (m : Nat) (pm : List Nat) (t : TA) : TA := fun σ H Q => t σ H fun zs H1 => zs.length = m ∧ Q (selL pm zs) H1
def fSelA (m : Nat) (pm : List Nat) (f : FA) : FA := fun e => (f e).bind fun r => if r.1.length = m then .ok (selL pm r.1, r.2) else .stuck
theorem sn_selA {m : Nat} {pm : List Nat} (h : SndA c W tr fr) : SndA c W (tSelA m pm tr) (fSelA m pm fr) := fun z σ H F e Q I g => by
  unfold fSelA at g
  rw [Wp.bind] at g
  refine h z σ H F e _ I (g.mono (fun r _ g vs H1 F1 x1 I1 t1 => ?_) fun _ _ g => g)
  split at g
  · rename_i hl
    exact ⟨by rw [← t1.len]; exact hl, g _ H1 F1 x1 I1 (t1.sel pm)⟩
  · exact g.elim
theorem selL_self {α : Type} (a : α) (zs : List α) (pm : List Nat) : selL (0 :: pm.map (· + 1)) ([a] ++ zs ++ []) = a :: (selL pm zs ++ []) := by
  rw [selL_cons, List.append_nil, List.append_nil]
  show a :: selL (pm.map (· + 1)) (a :: zs) = a :: selL pm zs
  unfold selL
  rw [List.filterMap_map]
  rfl
theorem pmk_kw {CX : CXT} {x : Str} {C fI : Addr} {k : Nat} {fd : FuncData} {ps ks : List Str} {sp : Sp} {pm : List Nat} {g : List Value → List Value → List Value} {kws : List Keyword} {tkw : TA} {p : Pos} (T : OexC X.K C) (iC : PySem.W.findIn X.K (.ref C) "__init__" = some (some (.ref fI))) (tI : PySem.W.typeIn X.K (.ref fI) = some (.type "function"))
    (F1 : FnOk X.prog X.w X.K X.mg X.base CX k fI fd ps sp) (hr : Room (k + 1) X.A) (hb : KBn X.K fd ps 1 ks g (fun vs zs => selL (0 :: pm.map (· + 1)) (vs ++ zs ++ []))) (hx : Passes CX X (fun _ _ _ => False)) (hg : Gl X x) (hm : X.mg x = some (.ref C)) (hkw : PK X kws tkw)
    (hall : (backToKw pos (keywordEach kws X.env)).all (·.1.isSome) = true := by rfl) (hks : (backToKw pos (keywordEach kws X.env)).filterMap (·.1) = ks := by rfl) (hdb : (x == ("__debug__" : Str)) = false := by decide)
    (hpl : ((backTo pos (starEach [] X.env)).any (·.1) || (backToKw pos (keywordEach kws X.env)).any (·.1.isNone)) = false := by rfl) :
    PMk X (.Call (.Name x p) [] kws pos) (tMkO C sp [] (tSelA ks.length pm tkw)) := by
  intro pins s σ H Q I h
  obtain ⟨nm, q, N, bs, bm, sn, sub, ab, col, dd, k0, k1, k2, k3, k5, hC, hbm⟩ := T.cls
  refine wpAny_Call_Name_kw (ld_glob I hg hm ?_ hdb)
  refine PySem.W.callWith_KW0 (h₀ := X.base) I.ok.mod.kin T.kC hall (thn (hkw.run pos pins s σ H _ I h) fun ws s1 ⟨zs, H1, I1, rz, l2, hz, q1⟩ => ⟨I1.kIn, ?_⟩) hpl
  rw [hks]
  obtain ⟨hp, gg, dr, tk, os⟩ := s1
  generalize ha : hp.objs.size + 1 = A1 at *
  have hsz : hp.objs.size ≤ A1 := by omega
  have hn : H1 A1 = none := I1.hok.fresh hsz
  have hq := q1 A1 hn
  rw [← selL_self (V.ref A1) zs pm] at hq
  generalize hh : (hp.push (PySem.W.kdv_tup [])).push (PySem.HandSPX.excO C hp.objs.size) = h2 at *
  have kk : ∀ b o, hp.get? b = some o → h2.get? b = some o := fun b o e => by rw [← hh]; exact Heap.get?_push_of_some _ (Heap.get?_push_of_some _ e)
  have hget : h2.get? A1 = some (PySem.HandSPX.excO C hp.objs.size) := by rw [← hh, ← ha]; heap_get
  have I2 : Inv X pins σ (upd H1 A1 (exo A1 C none)) ⟨h2, gg, dr, tk, os⟩ := I1.laid (t' := tk) (a := A1) (o := exo A1 C none) (h' := h2) kk hsz (exo_ok hget)
  have r1 : Vals [V.ref A1] [Value.ref A1] := .cons rfl .nil
  have r2 := hb.rel r1 rz
  subst ha
  refine wpAny_call (PySem.DLV.call_kw F.excBase_ValueError (fun Y => PySem.HandSPX.refsVE_contains Y bm hbm) (I1.kIn _ _ hC) (PySem.W.looks_findIn I1.kIn iC) (fun self => PySem.W.bind_fn I1.kIn self tI) (Nat.zero_le _) ?_)
  rw [show ([] : List Value) ++ [] = [] from rfl, hh]
  refine codeAny_mono (F1.run _ X.stack _ _ ⟨[Value.ref (hp.objs.size + 1)], ks.zip ws⟩ (g [Value.ref (hp.objs.size + 1)] ws) _ _ (fun _ _ _ => False) (hr.make C [] (ks.zip ws)) (I2.env0.make C [] (ks.zip ws)) (hb.to _ [Value.ref (hp.objs.size + 1)] ws I2.kIn rfl (rz.length.symm.trans l2)) r2 hq) fun r s' hq' => ?_
  cases r with
  | error er => exact hx pins σ _ _ er s' I2 hq'
  | ok fl =>
    cases fl with
    | ret u =>
      obtain ⟨v, H2, os2, bare2, un2, hok2, rv, ev, d, fs, ea, ed, hd1, q2⟩ := hq'
      subst ev
      obtain ⟨h3, g2, d2, t2, os'⟩ := s'
      exact ⟨rv, mk_end (raises_own T.exC T.tyC) I1 hsz kk un2 hok2 os2 bare2 ea ed hd1 q2⟩
    | next => exact False.elim hq'
    | brk => exact False.elim hq'
    | cont => exact False.elim hq'
/-! ### e.f -/
def tXfV (K : PySem.W.Frag) (n : Str) (t : TE) : TE := fun σ H Q => t σ H fun x H1 => ∃ (p C d : Addr) (fs : List (Str × V)) (v : V), x = .ref p ∧ H1 p = some (exV (.ref C) (some d) p) ∧ H1 d = some (.xd fs) ∧ XfC K C ∧ PySem.W.findIn K (.ref C) n = some none ∧ fs.lookup n = some v ∧ Q v H1
theorem instV {pins : List (Addr × Obj)} {σ : L2.St} {H : Hp} {s : Shared} {p C d : Addr} {fs : List (Str × V)} (I : Inv X pins σ H s) (h1 : H p = some (exV (.ref C) (some d) p)) (h2 : H d = some (.xd fs)) :
    ∃ (oe od : Obj) (mA : Str → Option Value), PySem.W.InstAt s.heap p oe C (some od) ∧ (∀ n, PySem.W.lookIn n od = some (mA n)) ∧ ∀ f, RelO (fs.lookup f) (mA f) := by
  have x1 : ObjOk X.prog X.w H s.heap p (.ext fun h => ∃ (oe : Obj) (vs : Array Value), h.get? p = some oe ∧ Zc (.ref C) (some d) oe ∧ oe.data = .fields vs) := I.hok p _ h1
  obtain ⟨⟨oe, vs, ho, hz, hd⟩, _⟩ := x1
  have x2 : ObjOk X.prog X.w H s.heap d (.xd fs) := I.hok d _ h2
  obtain ⟨mA, hns, hr⟩ := x2
  obtain ⟨od, hod, hl⟩ := lookIn_ns hns
  exact ⟨oe, od, mA, ⟨ho, hz.1, by unfold PySem.W.notCls; rw [hd] <;> rfl, by rw [hz.2]; exact hod⟩, hl, hr⟩
theorem instV0 {pins : List (Addr × Obj)} {σ : L2.St} {H : Hp} {s : Shared} {p C : Addr} (I : Inv X pins σ H s) (h1 : H p = some (exV (.ref C) none p)) : ∃ oe, PySem.W.InstAt s.heap p oe C none := by
  have x1 : ObjOk X.prog X.w H s.heap p (.ext fun h => ∃ (oe : Obj) (vs : Array Value), h.get? p = some oe ∧ Zc (.ref C) none oe ∧ oe.data = .fields vs) := I.hok p _ h1
  obtain ⟨⟨oe, vs, ho, hz, hd⟩, _⟩ := x1
  exact ⟨oe, ho, hz.1, by unfold PySem.W.notCls; rw [hd] <;> rfl, by rw [hz.2]; trivial⟩
theorem pe_xfV {n : Str} (he : PE X o te) (hb : attributeBase o n X.env (eval o X.env) = eval o X.env := by rfl) : PE X (.Attribute o n pos) (tXfV X.K n te) := by
  refine ⟨fun pins s σ H Q I h => attr_of hb (thn (he.run pins s σ H _ I h) fun u s1 ⟨x, H1, I1, rx, p, C, d, fs, v, ex, h1, h2, T, hno, l, q⟩ => ?_)⟩
  subst ex
  obtain rfl : u = Value.ref p := rx
  obtain ⟨oe, od, mA, J, hl, hr⟩ := instV I1 h1 h2
  obtain ⟨u, hu, ru⟩ := RelO.some_of (v := v) (o := mA n) (by rw [← l]; exact hr n)
  exact HandSPX.exc_get I1.kIn J T.ga T.gg T.exC (PySem.W.findObj_own T.hdC hno rfl (by rw [hl, hu])) (handed_of ru) ⟨v, H1, I1.tok _, ru, q⟩
/-- the classes of errors that have the attribute -/
def AttOk (c : Ct) (n : Str) (tb : Nat → Bool) : Prop := ∀ k, tb k = true → XfC c.K (c.cl k) ∧ PySem.W.findIn c.K (.ref (c.cl k)) n = some none
def fXfV (ns : Nat → List Str) (tb : Nat → Bool) (n : Str) (f : FE) : FE := fun e => (f e).bind fun r => match lookT r.1 r.2 with
  | some (.exv k ds) => if tb k then (match ((ns k).zip ds).lookup n with
    | some d => .ok (.vl d, r.2)
    | none => .stuck) else .stuck
  | _ => .stuck
theorem View.exv {F H : Hp} {k : Nat} {ds : List D} {v : V} (h : View c F H (.exv k ds) v) : Rp c F (.exv k ds) v := h.elim id fun ⟨_, _, _, h⟩ => h.elim
theorem sn_xfV {n : Str} {tb : Nat → Bool} (ok : AttOk c n tb) (ha : SndE c W te fo) : SndE c W (tXfV c.K n te) (fXfV c.fn tb n fo) := fun z σ H F e Q I h => by
  unfold fXfV at h
  rw [Wp.bind] at h
  refine ha z σ H F e _ I (h.mono (fun r _ h v H1 F1 x1 I1 t1 => ?_) fun _ _ h => h)
  split at h
  · rename_i k ds hl
    split at h
    · rename_i hk
      split at h
      · rename_i d hd
        obtain ⟨p, dd, rfl, h1, h2⟩ := (t1.view I1 hl).exv
        obtain ⟨k1, k2⟩ := ok k hk
        obtain ⟨j, j1, j2⟩ := idx_look hd
        rcases h2 with ⟨h3, _⟩ | ⟨_, a, fs, vs, h4, h5, h6, h7⟩
        · rw [h3] at j2; simp at j2
        · subst h4
          obtain ⟨w, h8, h9⟩ := h6.get j2
          exact ⟨p, c.cl k, a, fs, w, rfl, I1.fh _ _ h1, I1.fh _ _ h5, k1, k2, h7 j n w j1 h8, h w H1 F1 x1 I1 h9⟩
      · exact h.elim
    · exact h.elim
  · exact h.elim
theorem de_xfV {n : Str} {tb : Nat → Bool} (hK : X.K = c.K) (ok : AttOk c n tb) (ha : DE X c W o te fo) (hb : attributeBase o n X.env (eval o X.env) = eval o X.env := by rfl) : DE X c W (.Attribute o n pos) (tXfV c.K n te) (fXfV c.fn tb n fo) := ⟨hK ▸ pe_xfV ha.pe hb, sn_xfV ok ha.sn⟩
/-! ### isinstance(e, C) -/
def rIsV (K : PySem.W.Frag) : List V → Hp → VK → Prop := fun xs H Q => ∃ (p C : Addr) (d : Option Addr) (cv : V) (u : Value) (b : Bool), xs = [.ref p, cv] ∧ H p = some (exV (.ref C) d p) ∧ (d = none ∨ ∃ dd fs, d = some dd ∧ H dd = some (.xd fs)) ∧ ExcC K C ∧ ClsV cv u ∧ PySem.W.kitOne K (.ref C) u = some b ∧ Q (.bl b) H
theorem call_isV : CallR X (.builtin "isinstance") (rIsV X.K) := by
  intro pins s σ H xs us Q I r h
  obtain ⟨p, C, d, cv, u, b, rfl, h1, h2, T, k, e, q⟩ := h
  cases r with
  | cons rx rr => cases rr with
    | cons rt rr =>
      cases rr
      cases rx
      have ec := k.eq rt
      subst ec
      have hcl : (PySem.W.clsIn X.K C).isSome = true := by
        obtain ⟨cd, hc, _⟩ := PySem.W.any_some T.hd
        rw [hc]; rfl
      rcases h2 with rfl | ⟨dd, fs, rfl, h3⟩
      · obtain ⟨oe, J⟩ := instV0 I h1
        exact PySem.W.kia_one (PySem.W.kitx_exc hcl T.hg T.hk T.hs T.ha T.hn T.ht T.hm) I.kIn J e (fun z => nomatch z) fun tk => ⟨.bl b, H, I.tok tk, rfl, q⟩
      · obtain ⟨oe, od, mA, J, _, _⟩ := instV I h1 h3
        exact PySem.W.kia_one (PySem.W.kitx_exc hcl T.hg T.hk T.hs T.ha T.hn T.ht T.hm) I.kIn J e (fun z => nomatch z) fun tk => ⟨.bl b, H, I.tok tk, rfl, q⟩
def fIsV (tbl : Nat → Option Bool) (f : FE) : FE := fun e => (f e).bind fun r => match lookT r.1 r.2 with
  | some (.exv k _) => (match tbl k with
    | some b => .ok (.vl (.bl b), r.2)
    | none => .stuck)
  | _ => .stuck
theorem sn_isV {cv : V} {u : Value} {tbl : Nat → Option Bool} (cu : ClsV cv u) (ok : IsXOk c u tbl) (ha : SndE c W te fo) : SndE c W (tCB (rIsV c.K) (tCons te (tCons (tC cv) tNil))) (fIsV tbl fo) := fun z σ H F e Q I h => by
  unfold fIsV at h
  rw [Wp.bind] at h
  refine ha z σ H F e _ I (h.mono (fun r _ h v H1 F1 x1 I1 t1 => ?_) fun _ _ h => h)
  split at h
  · rename_i k ds hl
    split at h
    · rename_i b hb
      obtain ⟨p, dd, rfl, h1, h2⟩ := (t1.view I1 hl).exv
      obtain ⟨k1, k2⟩ := ok k b hb
      refine ⟨p, c.cl k, dd, cv, u, b, rfl, I1.fh _ _ h1, ?_, k1, cu, k2, h _ H1 F1 x1 I1 rfl⟩
      rcases h2 with ⟨_, h3⟩ | ⟨_, a, fs, vs, h4, h5, _⟩
      · exact .inl h3
      · exact .inr ⟨a, fs, h4, I1.fh _ _ h5⟩
    · exact h.elim
  · exact h.elim
theorem de_isV {cv : V} {u : Value} {tbl : Nat → Option Bool} {p : Pos} (hK : X.K = c.K) (cu : ClsV cv u) (ok : IsXOk c u tbl) (hg : Gl X "isinstance") (hm : X.mg "isinstance" = none) (ha : DE X c W a te fo) (hb : PE X b (tC cv))
    (he : starEach [a, b] X.env = (false, eval a X.env) :: starEach [b] X.env := by rfl) (he2 : starEach [b] X.env = (false, eval b X.env) :: starEach [] X.env := by rfl) (hpl : (backTo pos (starEach [b] X.env)).any (·.1) = false := by rfl) :
    DE X c W (.Call (.Name "isinstance" p) [a, b] [] pos) (tCB (rIsV c.K) (tCons te (tCons (tC cv) tNil))) (fIsV tbl fo) :=
  ⟨pe_callB (hK ▸ call_isV) hg hm (by decide +kernel) (pa_cons ha.pe (pa_cons hb pa_nil he2) he) (by decide) (by decide) he hpl, sn_isV cu ok ha.sn⟩
/-! ### the rules of making -/
theorem de_mkV0 {bmB : List Value} {B newId initId : String} {k : Nat} {x : Str} {p : Pos} (hK : X.K = c.K) (F : ExcBaseFacts B newId initId bmB) (q : PySem.W.excIn c.K (c.cl k) bmB newId = true) (hm : X.mg x = some (.ref (c.cl k)))
    (kC : PySem.W.keepIn c.K (.ref (c.cl k)) = true) (r1 : PySem.W.subIn c.K (.ref (c.cl k)) (.type "BaseException") = some true) (r2 : PySem.W.typeIn c.K (.ref (c.cl k)) = some (.type "type")) (hg : Gl X x) (hdb : (x == ("__debug__" : Str)) = false := by decide) :
    DE X c W (.Call (.Name x p) [] [] pos) (tMkV (fun _ H Q => Q (.ref (c.cl k)) none H)) (fMkV0 k) :=
  ⟨pe_mkV (pmk_own0 F (hK ▸ q) hm (hK ▸ kC) (raises_own (hK ▸ r1) (hK ▸ r2)) hg hdb), sn_mkV0⟩
theorem de_mkV {k n j : Nat} {f : Addr} {fd : FuncData} {ps : List Str} {x : Str} {p : Pos} (hK : X.K = c.K) (T : OexC c.K (c.cl k)) (iC : PySem.W.findIn c.K (.ref (c.cl k)) "__init__" = some (some (.ref f))) (tI : PySem.W.typeIn c.K (.ref f) = some (.type "function"))
    (F : FnOk X.prog X.w X.K X.mg X.base CX0 j f fd ps (spXi (c.cl k) (c.fn k))) (hr : Room (j + 1) X.A) (hb : Binds X.K fd ps []) (hg : Gl X x) (hm : X.mg x = some (.ref (c.cl k))) (hn : (c.fn k).length = n) (h9 : n ≤ 800) (ha : DA X c W (a :: es) tr fr)
    (hdb : (x == ("__debug__" : Str)) = false := by decide) (he : starEach (a :: es) X.env = (false, eval a X.env) :: starEach es X.env := by rfl) (hpl : (backTo pos (starEach es X.env)).any (·.1) = false := by rfl) (h0 : 0 < n := by decide) :
    DE X c W (.Call (.Name x p) (a :: es) [] pos) (tMkV (tMkO (c.cl k) (spXi (c.cl k) (c.fn k)) [] tr)) (fMkV k n fr) :=
  ⟨pe_mkV (pmk_oex (hK ▸ T) (hK ▸ iC) (hK ▸ tI) F hr hb .nil pass0 hg hm ha.pa hdb he hpl), sn_mkV rfl hn h9 h0 ha.sn⟩
theorem de_mkVk {k n j m : Nat} {f : Addr} {fd : FuncData} {ps ks : List Str} {pm : List Nat} {kws : List Keyword} {tkw : TA} {fk : FA} {x : Str} {p : Pos} (hK : X.K = c.K) (T : OexC c.K (c.cl k)) (iC : PySem.W.findIn c.K (.ref (c.cl k)) "__init__" = some (some (.ref f))) (tI : PySem.W.typeIn c.K (.ref f) = some (.type "function"))
    (F : FnOk X.prog X.w X.K X.mg X.base CX0 j f fd ps (spXi (c.cl k) (c.fn k))) (hr : Room (j + 1) X.A) (hb : ∃ g, KBn X.K fd ps 1 ks g (fun vs zs => selL (0 :: pm.map (· + 1)) (vs ++ zs ++ []))) (hg : Gl X x) (hm : X.mg x = some (.ref (c.cl k))) (hn : (c.fn k).length = n) (h9 : n ≤ 800) (hkw : DK X c W kws tkw fk)
    (hall : (backToKw pos (keywordEach kws X.env)).all (·.1.isSome) = true := by rfl) (hks : (backToKw pos (keywordEach kws X.env)).filterMap (·.1) = ks := by rfl) (hdb : (x == ("__debug__" : Str)) = false := by decide)
    (hpl : ((backTo pos (starEach [] X.env)).any (·.1) || (backToKw pos (keywordEach kws X.env)).any (·.1.isNone)) = false := by rfl) (h0 : 0 < n := by decide) (hm2 : ks.length = m := by rfl) :
    DE X c W (.Call (.Name x p) [] kws pos) (tMkV (tMkO (c.cl k) (spXi (c.cl k) (c.fn k)) [] (tSelA m pm tkw))) (fMkV k n (fSelA m pm fk)) := by
  subst hm2
  exact
  ⟨hb.elim fun _ hb => pe_mkV (pmk_kw (hK ▸ T) (hK ▸ iC) (hK ▸ tI) F hr hb pass0 hg hm hkw.pk hall hks hdb hpl), sn_mkV rfl hn h9 h0 (sn_selA hkw.sn)⟩
end
def inB (l : List Nat) (k : Nat) : Bool := l.contains k
def AllAt (c : Ct) (n : Str) : List Nat → Prop
  | [] => True
  | q :: r => (XfC c.K (c.cl q) ∧ PySem.W.findIn c.K (.ref (c.cl q)) n = some none) ∧ AllAt c n r
theorem att_mk {c : Ct} {n : Str} : ∀ {l : List Nat}, AllAt c n l → AttOk c n (inB l)
  | [], _, k, h => by cases h
  | q :: r, h, k, e => by
    by_cases hk : k = q
    · rw [hk]; exact h.1
    · refine att_mk h.2 k ?_
      unfold inB at *
      rw [List.contains_cons] at e
      have : (k == q) = false := beq_eq_false_iff_ne.mpr hk
      rwa [this, Bool.false_or] at e
end DL

/-! The text by places, what each def does on data. Printed by emit.py. -/
namespace K13
open PySem L2 Evl DL
def top (i : Nat) : Stmt := PySem.Challenge.pw_boardbits_k13_errors.main.body.getD i (.Pass ⟨0, 0, 0, 0⟩)
abbrev s0 : Stmt := inClass (top 3) 0
abbrev N0 : List Str := ["self", "line"]
abbrev s1 : Stmt := inClass (top 4) 0
abbrev N1 : List Str := ["self", "line", "name"]
abbrev s2 : Stmt := inClass (top 5) 0
abbrev N2 : List Str := ["self", "name"]
abbrev s3 : Stmt := inClass (top 6) 0
abbrev N3 : List Str := ["self", "number"]
abbrev s4 : Stmt := inClass (top 7) 0
abbrev N4 : List Str := ["self", "length"]
abbrev s5 : Stmt := inClass (top 9) 0
abbrev N5 : List Str := ["self", "width", "height"]
abbrev s6 : Stmt := inClass (top 10) 0
abbrev N6 : List Str := ["self", "row", "column"]
abbrev s7 : Stmt := inClass (top 11) 0
abbrev N7 : List Str := ["self", "name"]
abbrev s8 : Stmt := inClass (top 12) 0
abbrev N8 : List Str := ["self", "index"]
abbrev s9 : Stmt := inClass (top 13) 0
abbrev N9 : List Str := ["self", "name"]
abbrev s10 : Stmt := inClass (top 14) 0
abbrev N10 : List Str := ["self", "step"]
abbrev s11 : Stmt := top 17
abbrev N11 : List Str := ["_law_script", "_law_k", "_law_cell"]
abbrev s12 : Stmt := top 18
abbrev N12 : List Str := ["_law_tape_here", "_law_many", "_law_mixed", "_law_digit"]
abbrev s13 : Stmt := top 19
abbrev N13 : List Str := ["_law_tape_here"]
abbrev s14 : Stmt := top 20
abbrev N14 : List Str := ["_law_a", "_law_errors", "_law_told"]
abbrev s15 : Stmt := top 21
abbrev N15 : List Str := ["_law_a", "_law_b", "_law_one", "_law_two", "_law_three"]
abbrev s16 : Stmt := top 22
abbrev N16 : List Str := ["_law_e", "_law_found"]
abbrev s17 : Stmt := top 23
abbrev N17 : List Str := ["_law_script", "_law_tape_here", "_law_a", "_law_b", "_law_errors", "_law_k", "_law_other"]
def fnT (k : Nat) : List Str := fieldsOf [[], [], ["line"], ["line", "name"], ["name"], ["number"], ["length"], [], ["width", "height"], ["row", "column"], ["name"], ["index"], ["name"], ["step"], [], ["members"], ["heights", "widths", "parts"], ["tree"], ["width", "height", "boards"], ["words", "position"], ["parts"], ["parts", "across", "down", "amounts", "known_tables"], ["parts", "views", "conditions", "aside", "along", "period", "strips"], ["width", "height", "boards", "history"], ["parts", "place", "known", "missing"], ["boards", "result"]] k
abbrev ct (w : World) (K : PySem.W.Frag) (cl : Nat → Addr) : Ct := ⟨K, cl, fnT, none, w⟩
/-! _law_tape -/
abbrev b_law_tape : FS := (fSeq (fSet 2 (fIf (fB (fOp2 opLt (fVar 1) (fCB opLen (fA1 (fVar 0) fA0)))) (fOp2 opIx (fVar 0) (fVar 1)) (fC (.int 0))))
  (fRet (fLst (fA1 (fCB opAbs (fA1 (fVar 2) fA0)) (fA1 (fOp2 opAdd (fOp2 opMul (fC (.int 7919)) (fVar 1)) (fC (.int 104729))) fA0)))))
def m_law_tape : Fn := fFn 3 b_law_tape
/-! _law_pick -/
abbrev q_law_pick_0 : FS := (fIfS (fB (fOp2 opGe (fOp2 opIx (fVar 0) (fC (.int 0))) (fOp2 opPow (fC (.int 10)) (fC (.int 18)))))
  (fSeq (fSet 3 (fOp2 opMod (fCB opInt (fA1 (fOp2 opIx (fVar 0) (fC (.int 0))) fA0)) (fVar 1)))
  (fSeq (fSetIx 0 (fC (.int 0)) (fOp2 opDiv (fOp2 opIx (fVar 0) (fC (.int 0))) (fVar 1)))
  (fRet (fVar 3)))) fNext)
abbrev q_law_pick_1 : FS := (fSetIx 0 (fC (.int 1)) (fOp2 opMod (fCB opInt (fA1 (fOp2 opAdd (fOp2 opAdd (fOp2 opMul (fOp2 opIx (fVar 0) (fC (.int 1))) (fC (.int 48271))) (fOp2 opMul (fOp2 opIx (fVar 0) (fC (.int 0))) (fC (.int 69621)))) (fC (.int 11))) fA0)) (fC (.int 2147483647))))
abbrev q_law_pick_2 : FS := (fSet 2 (fOp2 opMod (fCB opInt (fA1 (fOp2 opAdd (fOp2 opAdd (fOp2 opMul (fOp2 opIx (fVar 0) (fC (.int 1))) (fOp2 opIx (fVar 0) (fC (.int 1)))) (fOp2 opMul (fOp2 opIx (fVar 0) (fC (.int 1))) (fC (.int 40692)))) (fC (.int 7))) fA0)) (fC (.int 2147483399))))
abbrev q_law_pick_3 : FS := (fRet (fOp2 opMod (fCB opInt (fA1 (fOp2 opDiv (fVar 2) (fC (.int 64))) fA0)) (fVar 1)))
abbrev k_law_pick_3 : FS := q_law_pick_3
abbrev k_law_pick_2 : FS := fSeq q_law_pick_2 k_law_pick_3
abbrev k_law_pick_1 : FS := fSeq q_law_pick_1 k_law_pick_2
abbrev k_law_pick_0 : FS := fSeq q_law_pick_0 k_law_pick_1
abbrev b_law_pick : FS := k_law_pick_0
def m_law_pick : Fn := fFn 4 b_law_pick
/-! _law_thing -/
abbrev b_law_thing : FS := (fRet (fOp2 opIx (fLst (fA1 (fC (.int 0)) (fA1 (fOp1 opNeg (fC (.int 1))) (fA1 (fOp2 opPow (fC (.int 10)) (fC (.int 20))) (fA1 (fC (.str "")) (fA1 (fC (.str "x")) (fA1 (fC .non) (fA1 (fLst (fA1 (fC (.int 1)) (fA1 (fC (.int 2)) fA0))) (fA1 (fC (.bl true)) fA0))))))))) (fCall [true, false] [] m_law_pick (fA1 (fVar 0) (fA1 (fC (.int 8)) fA0)))))
def m_law_thing : Fn := fFn 1 b_law_thing
/-! _law_single -/
abbrev q_law_single_0 : FS := (fSet 1 (fLst (fA1 (fMkV 10 1 (fA1 (fVar 0) fA0)) (fA1 (fMkV 11 1 (fA1 (fVar 0) fA0)) (fA1 (fMkV 6 1 (fA1 (fVar 0) fA0)) (fA1 (fMkV 2 1 (fA1 (fVar 0) fA0)) (fA1 (fMkV 4 1 (fA1 (fVar 0) fA0)) (fA1 (fMkV 5 1 (fA1 (fVar 0) fA0)) (fA1 (fMkV 13 1 (fA1 (fVar 0) fA0)) fA0)))))))))
abbrev q_law_single_1 : FS := (fDrop (fApp 1 (fMkV 12 1 (fA1 (fVar 0) fA0))))
abbrev q_law_single_2 : FS := (fIfS (fB (fOp2 opNe (fLst (fA1 (fXfV fnT (inB [4, 10, 12]) "name" (fOp2 opIx (fVar 1) (fC (.int 0)))) (fA1 (fXfV fnT (inB [11]) "index" (fOp2 opIx (fVar 1) (fC (.int 1)))) (fA1 (fXfV fnT (inB [6]) "length" (fOp2 opIx (fVar 1) (fC (.int 2)))) (fA1 (fXfV fnT (inB [2]) "line" (fOp2 opIx (fVar 1) (fC (.int 3)))) fA0))))) (fLst (fA1 (fVar 0) (fA1 (fVar 0) (fA1 (fVar 0) (fA1 (fVar 0) fA0)))))))
  (fRet (fC (.bl false))) fNext)
abbrev q_law_single_3 : FS := (fIfS (fB (fOp2 opNe (fLst (fA1 (fXfV fnT (inB [4, 10, 12]) "name" (fOp2 opIx (fVar 1) (fC (.int 4)))) (fA1 (fXfV fnT (inB [5]) "number" (fOp2 opIx (fVar 1) (fC (.int 5)))) (fA1 (fXfV fnT (inB [13]) "step" (fOp2 opIx (fVar 1) (fC (.int 6)))) (fA1 (fXfV fnT (inB [4, 10, 12]) "name" (fOp2 opIx (fVar 1) (fC (.int 7)))) fA0))))) (fLst (fA1 (fVar 0) (fA1 (fVar 0) (fA1 (fVar 0) (fA1 (fVar 0) fA0)))))))
  (fRet (fC (.bl false))) fNext)
abbrev q_law_single_4 : FS := (fSet 2 (fLst (fA1 (fXfV fnT (inB [10]) "name" (fMkV 10 1 (fSelA 1 [0] (fA1 (fVar 0) fA0)))) (fA1 (fXfV fnT (inB [11]) "index" (fMkV 11 1 (fSelA 1 [0] (fA1 (fVar 0) fA0)))) (fA1 (fXfV fnT (inB [6]) "length" (fMkV 6 1 (fSelA 1 [0] (fA1 (fVar 0) fA0)))) (fA1 (fXfV fnT (inB [2]) "line" (fMkV 2 1 (fSelA 1 [0] (fA1 (fVar 0) fA0)))) fA0))))))
abbrev q_law_single_5 : FS := (fSet 2 (fOp2 opAdd (fVar 2) (fLst (fA1 (fXfV fnT (inB [4]) "name" (fMkV 4 1 (fSelA 1 [0] (fA1 (fVar 0) fA0)))) (fA1 (fXfV fnT (inB [5]) "number" (fMkV 5 1 (fSelA 1 [0] (fA1 (fVar 0) fA0)))) (fA1 (fXfV fnT (inB [13]) "step" (fMkV 13 1 (fSelA 1 [0] (fA1 (fVar 0) fA0)))) (fA1 (fXfV fnT (inB [12]) "name" (fMkV 12 1 (fSelA 1 [0] (fA1 (fVar 0) fA0)))) fA0)))))))
abbrev q_law_single_6 : FS := (fRet (fOp2 opEq (fVar 2) (fLst (fA1 (fVar 0) (fA1 (fVar 0) (fA1 (fVar 0) (fA1 (fVar 0) (fA1 (fVar 0) (fA1 (fVar 0) (fA1 (fVar 0) (fA1 (fVar 0) fA0)))))))))))
abbrev k_law_single_6 : FS := q_law_single_6
abbrev k_law_single_5 : FS := fSeq q_law_single_5 k_law_single_6
abbrev k_law_single_4 : FS := fSeq q_law_single_4 k_law_single_5
abbrev k_law_single_3 : FS := fSeq q_law_single_3 k_law_single_4
abbrev k_law_single_2 : FS := fSeq q_law_single_2 k_law_single_3
abbrev k_law_single_1 : FS := fSeq q_law_single_1 k_law_single_2
abbrev k_law_single_0 : FS := fSeq q_law_single_0 k_law_single_1
abbrev b_law_single : FS := k_law_single_0
def m_law_single : Fn := fFn 3 b_law_single
/-! _law_double -/
abbrev q_law_double_0 : FS := (fSet 2 (fMkV 8 2 (fA1 (fVar 0) (fA1 (fVar 1) fA0))))
abbrev q_law_double_1 : FS := (fSet 3 (fMkV 9 2 (fA1 (fVar 0) (fA1 (fVar 1) fA0))))
abbrev q_law_double_2 : FS := (fSet 4 (fMkV 3 2 (fA1 (fVar 0) (fA1 (fVar 1) fA0))))
abbrev q_law_double_3 : FS := (fIfS (fB (fOp2 opNe (fLst (fA1 (fXfV fnT (inB [8]) "width" (fVar 2)) (fA1 (fXfV fnT (inB [8]) "height" (fVar 2)) (fA1 (fXfV fnT (inB [9]) "row" (fVar 3)) (fA1 (fXfV fnT (inB [9]) "column" (fVar 3)) (fA1 (fXfV fnT (inB [3]) "line" (fVar 4)) (fA1 (fXfV fnT (inB [3]) "name" (fVar 4)) fA0))))))) (fLst (fA1 (fVar 0) (fA1 (fVar 1) (fA1 (fVar 0) (fA1 (fVar 1) (fA1 (fVar 0) (fA1 (fVar 1) fA0)))))))))
  (fRet (fC (.bl false))) fNext)
abbrev q_law_double_4 : FS := (fSet 2 (fMkV 8 2 (fSelA 2 [1, 0] (fA1 (fVar 1) (fA1 (fVar 0) fA0)))))
abbrev q_law_double_5 : FS := (fSet 3 (fMkV 9 2 (fSelA 2 [1, 0] (fA1 (fVar 1) (fA1 (fVar 0) fA0)))))
abbrev q_law_double_6 : FS := (fSet 4 (fMkV 3 2 (fSelA 2 [1, 0] (fA1 (fVar 1) (fA1 (fVar 0) fA0)))))
abbrev q_law_double_7 : FS := (fRet (fOp2 opEq (fLst (fA1 (fXfV fnT (inB [8]) "width" (fVar 2)) (fA1 (fXfV fnT (inB [8]) "height" (fVar 2)) (fA1 (fXfV fnT (inB [9]) "row" (fVar 3)) (fA1 (fXfV fnT (inB [9]) "column" (fVar 3)) (fA1 (fXfV fnT (inB [3]) "line" (fVar 4)) (fA1 (fXfV fnT (inB [3]) "name" (fVar 4)) fA0))))))) (fLst (fA1 (fVar 0) (fA1 (fVar 1) (fA1 (fVar 0) (fA1 (fVar 1) (fA1 (fVar 0) (fA1 (fVar 1) fA0)))))))))
abbrev k_law_double_7 : FS := q_law_double_7
abbrev k_law_double_6 : FS := fSeq q_law_double_6 k_law_double_7
abbrev k_law_double_5 : FS := fSeq q_law_double_5 k_law_double_6
abbrev k_law_double_4 : FS := fSeq q_law_double_4 k_law_double_5
abbrev k_law_double_3 : FS := fSeq q_law_double_3 k_law_double_4
abbrev k_law_double_2 : FS := fSeq q_law_double_2 k_law_double_3
abbrev k_law_double_1 : FS := fSeq q_law_double_1 k_law_double_2
abbrev k_law_double_0 : FS := fSeq q_law_double_0 k_law_double_1
abbrev b_law_double : FS := k_law_double_0
def m_law_double : Fn := fFn 5 b_law_double
/-! _law_kinds -/
abbrev q_law_kinds_0 : FS := (fSet 1 (fLst (fA1 (fIsV (lkI [(10, true), (11, false), (6, false), (2, false), (4, false), (5, false), (8, false), (9, false), (7, false), (1, false), (13, false), (14, false), (12, false), (3, false)]) (fVar 0)) (fA1 (fIsV (lkI [(10, false), (11, true), (6, false), (2, false), (4, false), (5, false), (8, false), (9, false), (7, false), (1, false), (13, false), (14, false), (12, false), (3, false)]) (fVar 0)) (fA1 (fIsV (lkI [(10, false), (11, false), (6, true), (2, false), (4, false), (5, false), (8, false), (9, false), (7, false), (1, false), (13, false), (14, false), (12, false), (3, false)]) (fVar 0)) (fA1 (fIsV (lkI [(10, false), (11, false), (6, false), (2, true), (4, false), (5, false), (8, false), (9, false), (7, false), (1, false), (13, false), (14, false), (12, false), (3, false)]) (fVar 0)) fA0))))))
abbrev q_law_kinds_1 : FS := (fSet 1 (fOp2 opAdd (fVar 1) (fLst (fA1 (fIsV (lkI [(10, false), (11, false), (6, false), (2, false), (4, true), (5, false), (8, false), (9, false), (7, false), (1, false), (13, false), (14, false), (12, false), (3, false)]) (fVar 0)) (fA1 (fIsV (lkI [(10, false), (11, false), (6, false), (2, false), (4, false), (5, true), (8, false), (9, false), (7, false), (1, false), (13, false), (14, false), (12, false), (3, false)]) (fVar 0)) (fA1 (fIsV (lkI [(10, false), (11, false), (6, false), (2, false), (4, false), (5, false), (8, true), (9, false), (7, false), (1, false), (13, false), (14, false), (12, false), (3, false)]) (fVar 0)) fA0))))))
abbrev q_law_kinds_2 : FS := (fSet 1 (fOp2 opAdd (fVar 1) (fLst (fA1 (fIsV (lkI [(10, false), (11, false), (6, false), (2, false), (4, false), (5, false), (8, false), (9, true), (7, false), (1, false), (13, false), (14, false), (12, false), (3, false)]) (fVar 0)) (fA1 (fIsV (lkI [(10, false), (11, false), (6, false), (2, false), (4, false), (5, false), (8, false), (9, false), (7, true), (1, false), (13, false), (14, false), (12, false), (3, false)]) (fVar 0)) (fA1 (fIsV (lkI [(10, false), (11, false), (6, false), (2, false), (4, false), (5, false), (8, false), (9, false), (7, false), (1, true), (13, false), (14, false), (12, false), (3, false)]) (fVar 0)) (fA1 (fIsV (lkI [(10, false), (11, false), (6, false), (2, false), (4, false), (5, false), (8, false), (9, false), (7, false), (1, false), (13, true), (14, false), (12, false), (3, false)]) (fVar 0)) fA0)))))))
abbrev q_law_kinds_3 : FS := (fDrop (fApp 1 (fIsV (lkI [(10, false), (11, false), (6, false), (2, false), (4, false), (5, false), (8, false), (9, false), (7, false), (1, false), (13, false), (14, true), (12, false), (3, false)]) (fVar 0))))
abbrev q_law_kinds_4 : FS := (fRet (fOp2 opAdd (fVar 1) (fLst (fA1 (fIsV (lkI [(10, false), (11, false), (6, false), (2, false), (4, false), (5, false), (8, false), (9, false), (7, false), (1, false), (13, false), (14, false), (12, true), (3, false)]) (fVar 0)) (fA1 (fIsV (lkI [(10, false), (11, false), (6, false), (2, false), (4, false), (5, false), (8, false), (9, false), (7, false), (1, false), (13, false), (14, false), (12, false), (3, true)]) (fVar 0)) fA0)))))
abbrev k_law_kinds_4 : FS := q_law_kinds_4
abbrev k_law_kinds_3 : FS := fSeq q_law_kinds_3 k_law_kinds_4
abbrev k_law_kinds_2 : FS := fSeq q_law_kinds_2 k_law_kinds_3
abbrev k_law_kinds_1 : FS := fSeq q_law_kinds_1 k_law_kinds_2
abbrev k_law_kinds_0 : FS := fSeq q_law_kinds_0 k_law_kinds_1
abbrev b_law_kinds : FS := k_law_kinds_0
def m_law_kinds : Fn := fFn 2 b_law_kinds
/-! law -/
def c_law_law_0 : FE := (fOp2 opEq (fVar 5) (fVar 6))
def b_law_law_1 : FS := (fSeq (fIfS (fOr (fNot (fB (fIsV (lkI [(10, true), (11, true), (6, true), (2, true), (4, true), (5, true), (8, true), (9, true), (7, true), (1, true), (13, true), (14, true), (12, true), (3, true)]) (fOp2 opIx (fVar 4) (fVar 5))))) (fNot (fB (fIsV (lkI [(10, true), (11, true), (6, true), (2, true), (4, true), (5, true), (8, true), (9, true), (7, true), (1, true), (13, true), (14, true), (12, true), (3, true)]) (fOp2 opIx (fVar 4) (fVar 5))))))
  (fRet (fC (.bl false))) fNext)
  (fIfS (fB (fOp2 opNe (fCall [false] [] m_law_kinds (fA1 (fOp2 opIx (fVar 4) (fVar 5)) fA0)) (fLc (fiR1 (fA1 (fCB opLen (fA1 (fVar 4) fA0)) fA0)) (fgName 6) fYes c_law_law_0 [6])))
  (fRet (fC (.bl false))) fNext))
abbrev q_law_law_0 : FS := (fSet 1 (fCall [false, false] [] m_law_tape (fA1 (fVar 0) (fA1 (fC (.int 0)) fA0))))
abbrev q_law_law_1 : FS := (fSet 2 (fCall [true] [] m_law_thing (fA1 (fVar 1) fA0)))
abbrev q_law_law_2 : FS := (fSet 3 (fCall [true] [] m_law_thing (fA1 (fVar 1) fA0)))
abbrev q_law_law_3 : FS := (fIfS (fOr (fNot (fB (fCall [false] [] m_law_single (fA1 (fVar 2) fA0)))) (fNot (fB (fCall [false, false] [] m_law_double (fA1 (fVar 2) (fA1 (fVar 3) fA0))))))
  (fRet (fC (.bl false))) fNext)
abbrev q_law_law_4 : FS := (fSet 4 (fLst (fA1 (fMkV 10 1 (fA1 (fVar 2) fA0)) (fA1 (fMkV 11 1 (fA1 (fVar 2) fA0)) (fA1 (fMkV 6 1 (fA1 (fVar 2) fA0)) (fA1 (fMkV 2 1 (fA1 (fVar 2) fA0)) (fA1 (fMkV 4 1 (fA1 (fVar 2) fA0)) (fA1 (fMkV 5 1 (fA1 (fVar 2) fA0)) (fA1 (fMkV 8 2 (fA1 (fVar 2) (fA1 (fVar 3) fA0))) fA0)))))))))
abbrev q_law_law_5 : FS := (fSet 4 (fOp2 opAdd (fVar 4) (fLst (fA1 (fMkV 9 2 (fA1 (fVar 2) (fA1 (fVar 3) fA0))) (fA1 (fMkV0 7) (fA1 (fMkV0 1) (fA1 (fMkV 13 1 (fA1 (fVar 2) fA0)) (fA1 (fMkV0 14) (fA1 (fMkV 12 1 (fA1 (fVar 2) fA0)) fA0)))))))))
abbrev q_law_law_6 : FS := (fDrop (fApp 4 (fMkV 3 2 (fA1 (fVar 2) (fA1 (fVar 3) fA0)))))
abbrev q_law_law_7 : FS := (fFor (fiR1 (fA1 (fCB opLen (fA1 (fVar 4) fA0)) fA0)) (fgName 5) b_law_law_1)
abbrev q_law_law_8 : FS := (fRet (fC (.bl true)))
abbrev k_law_law_8 : FS := q_law_law_8
abbrev k_law_law_7 : FS := fSeq q_law_law_7 k_law_law_8
abbrev k_law_law_6 : FS := fSeq q_law_law_6 k_law_law_7
abbrev k_law_law_5 : FS := fSeq q_law_law_5 k_law_law_6
abbrev k_law_law_4 : FS := fSeq q_law_law_4 k_law_law_5
abbrev k_law_law_3 : FS := fSeq q_law_law_3 k_law_law_4
abbrev k_law_law_2 : FS := fSeq q_law_law_2 k_law_law_3
abbrev k_law_law_1 : FS := fSeq q_law_law_1 k_law_law_2
abbrev k_law_law_0 : FS := fSeq q_law_law_0 k_law_law_1
abbrev b_law_law : FS := k_law_law_0
def m_law_law : Fn := fFn 7 b_law_law
end K13

/-! The facts, the defs by their promises. Printed by emit.py. -/
namespace K13
open PySem L2 Evl DL
theorem sc0 : FnScope N0 ["self", "line"] (defScope s0) := ⟨rfl, rfl, rfl, by decide +kernel, rfl, by decide +kernel, by decide +kernel⟩
theorem sc1 : FnScope N1 ["self", "line", "name"] (defScope s1) := ⟨rfl, rfl, rfl, by decide +kernel, rfl, by decide +kernel, by decide +kernel⟩
theorem sc2 : FnScope N2 ["self", "name"] (defScope s2) := ⟨rfl, rfl, rfl, by decide +kernel, rfl, by decide +kernel, by decide +kernel⟩
theorem sc3 : FnScope N3 ["self", "number"] (defScope s3) := ⟨rfl, rfl, rfl, by decide +kernel, rfl, by decide +kernel, by decide +kernel⟩
theorem sc4 : FnScope N4 ["self", "length"] (defScope s4) := ⟨rfl, rfl, rfl, by decide +kernel, rfl, by decide +kernel, by decide +kernel⟩
theorem sc5 : FnScope N5 ["self", "width", "height"] (defScope s5) := ⟨rfl, rfl, rfl, by decide +kernel, rfl, by decide +kernel, by decide +kernel⟩
theorem sc6 : FnScope N6 ["self", "row", "column"] (defScope s6) := ⟨rfl, rfl, rfl, by decide +kernel, rfl, by decide +kernel, by decide +kernel⟩
theorem sc7 : FnScope N7 ["self", "name"] (defScope s7) := ⟨rfl, rfl, rfl, by decide +kernel, rfl, by decide +kernel, by decide +kernel⟩
theorem sc8 : FnScope N8 ["self", "index"] (defScope s8) := ⟨rfl, rfl, rfl, by decide +kernel, rfl, by decide +kernel, by decide +kernel⟩
theorem sc9 : FnScope N9 ["self", "name"] (defScope s9) := ⟨rfl, rfl, rfl, by decide +kernel, rfl, by decide +kernel, by decide +kernel⟩
theorem sc10 : FnScope N10 ["self", "step"] (defScope s10) := ⟨rfl, rfl, rfl, by decide +kernel, rfl, by decide +kernel, by decide +kernel⟩
theorem sc11 : FnScope N11 ["_law_script", "_law_k"] (defScope s11) := ⟨rfl, rfl, rfl, by decide +kernel, rfl, by decide +kernel, by decide +kernel⟩
theorem sc12 : FnScope N12 ["_law_tape_here", "_law_many"] (defScope s12) := ⟨rfl, rfl, rfl, by decide +kernel, rfl, by decide +kernel, by decide +kernel⟩
theorem sc13 : FnScope N13 ["_law_tape_here"] (defScope s13) := ⟨rfl, rfl, rfl, by decide +kernel, rfl, by decide +kernel, by decide +kernel⟩
theorem sc14 : FnScope N14 ["_law_a"] (defScope s14) := ⟨rfl, rfl, rfl, by decide +kernel, rfl, by decide +kernel, by decide +kernel⟩
theorem sc15 : FnScope N15 ["_law_a", "_law_b"] (defScope s15) := ⟨rfl, rfl, rfl, by decide +kernel, rfl, by decide +kernel, by decide +kernel⟩
theorem sc16 : FnScope N16 ["_law_e"] (defScope s16) := ⟨rfl, rfl, rfl, by decide +kernel, rfl, by decide +kernel, by decide +kernel⟩
theorem sc17 : FnScope N17 ["_law_script"] (defScope s17) := ⟨rfl, rfl, rfl, by decide +kernel, rfl, by decide +kernel, by decide +kernel⟩
structure Tx (w : World) (K : PySem.W.Frag) (mg : Str → Option Value) (cl f pp : Nat → Addr) (fd : Nat → FuncData) : Prop where
  F0 : Fun K "__init__" "BadLine.__init__" s0 (f 0) (fd 0)
  B0 : Binds K (fd 0) ["self", "line"] []
  X2 : XiC K (cl 2) (f 0)
  na2_line : NoAttr K (cl 2) "line"
  F1 : Fun K "__init__" "UnknownName.__init__" s1 (f 1) (fd 1)
  B1 : Binds K (fd 1) ["self", "line", "name"] []
  X3 : XiC K (cl 3) (f 1)
  na3_line : NoAttr K (cl 3) "line"
  na3_name : NoAttr K (cl 3) "name"
  F2 : Fun K "__init__" "BadName.__init__" s2 (f 2) (fd 2)
  B2 : Binds K (fd 2) ["self", "name"] []
  X4 : XiC K (cl 4) (f 2)
  na4_name : NoAttr K (cl 4) "name"
  F3 : Fun K "__init__" "BadNumber.__init__" s3 (f 3) (fd 3)
  B3 : Binds K (fd 3) ["self", "number"] []
  X5 : XiC K (cl 5) (f 3)
  na5_number : NoAttr K (cl 5) "number"
  F4 : Fun K "__init__" "BadLength.__init__" s4 (f 4) (fd 4)
  B4 : Binds K (fd 4) ["self", "length"] []
  X6 : XiC K (cl 6) (f 4)
  na6_length : NoAttr K (cl 6) "length"
  F5 : Fun K "__init__" "BadSize.__init__" s5 (f 5) (fd 5)
  B5 : Binds K (fd 5) ["self", "width", "height"] []
  X8 : XiC K (cl 8) (f 5)
  na8_width : NoAttr K (cl 8) "width"
  na8_height : NoAttr K (cl 8) "height"
  F6 : Fun K "__init__" "BadSquare.__init__" s6 (f 6) (fd 6)
  B6 : Binds K (fd 6) ["self", "row", "column"] []
  X9 : XiC K (cl 9) (f 6)
  na9_row : NoAttr K (cl 9) "row"
  na9_column : NoAttr K (cl 9) "column"
  F7 : Fun K "__init__" "BadBoard.__init__" s7 (f 7) (fd 7)
  B7 : Binds K (fd 7) ["self", "name"] []
  X10 : XiC K (cl 10) (f 7)
  na10_name : NoAttr K (cl 10) "name"
  F8 : Fun K "__init__" "BadCondition.__init__" s8 (f 8) (fd 8)
  B8 : Binds K (fd 8) ["self", "index"] []
  X11 : XiC K (cl 11) (f 8)
  na11_index : NoAttr K (cl 11) "index"
  F9 : Fun K "__init__" "UnknownBoard.__init__" s9 (f 9) (fd 9)
  B9 : Binds K (fd 9) ["self", "name"] []
  X12 : XiC K (cl 12) (f 9)
  na12_name : NoAttr K (cl 12) "name"
  F10 : Fun K "__init__" "Fails.__init__" s10 (f 10) (fd 10)
  B10 : Binds K (fd 10) ["self", "step"] []
  X13 : XiC K (cl 13) (f 10)
  na13_step : NoAttr K (cl 13) "step"
  F11 : Fun K "_law_tape" "_law_tape" s11 (f 11) (fd 11)
  B11 : Binds K (fd 11) ["_law_script", "_law_k"] []
  z_len : mg "len" = none
  z_abs : mg "abs" = none
  F12 : Fun K "_law_pick" "_law_pick" s12 (f 12) (fd 12)
  B12 : Binds K (fd 12) ["_law_tape_here", "_law_many"] []
  z_int : mg "int" = none
  F13 : Fun K "_law_thing" "_law_thing" s13 (f 13) (fd 13)
  B13 : Binds K (fd 13) ["_law_tape_here"] []
  g12 : mg "_law_pick" = some (.ref (f 12))
  F14 : Fun K "_law_single" "_law_single" s14 (f 14) (fd 14)
  B14 : Binds K (fd 14) ["_law_a"] []
  gC10 : mg "BadBoard" = some (.ref (cl 10))
  gC11 : mg "BadCondition" = some (.ref (cl 11))
  gC6 : mg "BadLength" = some (.ref (cl 6))
  gC2 : mg "BadLine" = some (.ref (cl 2))
  gC4 : mg "BadName" = some (.ref (cl 4))
  gC5 : mg "BadNumber" = some (.ref (cl 5))
  gC13 : mg "Fails" = some (.ref (cl 13))
  gC12 : mg "UnknownBoard" = some (.ref (cl 12))
  AT_name_4_10_12 : AttOk (ct w K cl) "name" (inB [4, 10, 12])
  AT_index_11 : AttOk (ct w K cl) "index" (inB [11])
  AT_length_6 : AttOk (ct w K cl) "length" (inB [6])
  AT_line_2 : AttOk (ct w K cl) "line" (inB [2])
  AT_number_5 : AttOk (ct w K cl) "number" (inB [5])
  AT_step_13 : AttOk (ct w K cl) "step" (inB [13])
  AT_name_10 : AttOk (ct w K cl) "name" (inB [10])
  KB7_1_name : ∃ g, KBn K (fd 7) ["self", "name"] 1 ["name"] g (fun vs zs => selL [0, 1] (vs ++ zs ++ []))
  KB8_1_index : ∃ g, KBn K (fd 8) ["self", "index"] 1 ["index"] g (fun vs zs => selL [0, 1] (vs ++ zs ++ []))
  KB4_1_length : ∃ g, KBn K (fd 4) ["self", "length"] 1 ["length"] g (fun vs zs => selL [0, 1] (vs ++ zs ++ []))
  KB0_1_line : ∃ g, KBn K (fd 0) ["self", "line"] 1 ["line"] g (fun vs zs => selL [0, 1] (vs ++ zs ++ []))
  AT_name_4 : AttOk (ct w K cl) "name" (inB [4])
  KB2_1_name : ∃ g, KBn K (fd 2) ["self", "name"] 1 ["name"] g (fun vs zs => selL [0, 1] (vs ++ zs ++ []))
  KB3_1_number : ∃ g, KBn K (fd 3) ["self", "number"] 1 ["number"] g (fun vs zs => selL [0, 1] (vs ++ zs ++ []))
  KB10_1_step : ∃ g, KBn K (fd 10) ["self", "step"] 1 ["step"] g (fun vs zs => selL [0, 1] (vs ++ zs ++ []))
  AT_name_12 : AttOk (ct w K cl) "name" (inB [12])
  KB9_1_name : ∃ g, KBn K (fd 9) ["self", "name"] 1 ["name"] g (fun vs zs => selL [0, 1] (vs ++ zs ++ []))
  F15 : Fun K "_law_double" "_law_double" s15 (f 15) (fd 15)
  B15 : Binds K (fd 15) ["_law_a", "_law_b"] []
  gC8 : mg "BadSize" = some (.ref (cl 8))
  gC9 : mg "BadSquare" = some (.ref (cl 9))
  gC3 : mg "UnknownName" = some (.ref (cl 3))
  AT_width_8 : AttOk (ct w K cl) "width" (inB [8])
  AT_height_8 : AttOk (ct w K cl) "height" (inB [8])
  AT_row_9 : AttOk (ct w K cl) "row" (inB [9])
  AT_column_9 : AttOk (ct w K cl) "column" (inB [9])
  AT_line_3 : AttOk (ct w K cl) "line" (inB [3])
  AT_name_3 : AttOk (ct w K cl) "name" (inB [3])
  KB5_1_height_width : ∃ g, KBn K (fd 5) ["self", "width", "height"] 1 ["height", "width"] g (fun vs zs => selL [0, 2, 1] (vs ++ zs ++ []))
  KB6_1_column_row : ∃ g, KBn K (fd 6) ["self", "row", "column"] 1 ["column", "row"] g (fun vs zs => selL [0, 2, 1] (vs ++ zs ++ []))
  KB1_1_name_line : ∃ g, KBn K (fd 1) ["self", "line", "name"] 1 ["name", "line"] g (fun vs zs => selL [0, 2, 1] (vs ++ zs ++ []))
  F16 : Fun K "_law_kinds" "_law_kinds" s16 (f 16) (fd 16)
  B16 : Binds K (fd 16) ["_law_e"] []
  IX0 : IsXOk (ct w K cl) (.ref (cl 10)) (lkI [(10, true), (11, false), (6, false), (2, false), (4, false), (5, false), (8, false), (9, false), (7, false), (1, false), (13, false), (14, false), (12, false), (3, false)])
  z_isinstance : mg "isinstance" = none
  IX1 : IsXOk (ct w K cl) (.ref (cl 11)) (lkI [(10, false), (11, true), (6, false), (2, false), (4, false), (5, false), (8, false), (9, false), (7, false), (1, false), (13, false), (14, false), (12, false), (3, false)])
  IX2 : IsXOk (ct w K cl) (.ref (cl 6)) (lkI [(10, false), (11, false), (6, true), (2, false), (4, false), (5, false), (8, false), (9, false), (7, false), (1, false), (13, false), (14, false), (12, false), (3, false)])
  IX3 : IsXOk (ct w K cl) (.ref (cl 2)) (lkI [(10, false), (11, false), (6, false), (2, true), (4, false), (5, false), (8, false), (9, false), (7, false), (1, false), (13, false), (14, false), (12, false), (3, false)])
  IX4 : IsXOk (ct w K cl) (.ref (cl 4)) (lkI [(10, false), (11, false), (6, false), (2, false), (4, true), (5, false), (8, false), (9, false), (7, false), (1, false), (13, false), (14, false), (12, false), (3, false)])
  IX5 : IsXOk (ct w K cl) (.ref (cl 5)) (lkI [(10, false), (11, false), (6, false), (2, false), (4, false), (5, true), (8, false), (9, false), (7, false), (1, false), (13, false), (14, false), (12, false), (3, false)])
  IX6 : IsXOk (ct w K cl) (.ref (cl 8)) (lkI [(10, false), (11, false), (6, false), (2, false), (4, false), (5, false), (8, true), (9, false), (7, false), (1, false), (13, false), (14, false), (12, false), (3, false)])
  IX7 : IsXOk (ct w K cl) (.ref (cl 9)) (lkI [(10, false), (11, false), (6, false), (2, false), (4, false), (5, false), (8, false), (9, true), (7, false), (1, false), (13, false), (14, false), (12, false), (3, false)])
  gC7 : mg "BadTable" = some (.ref (cl 7))
  IX8 : IsXOk (ct w K cl) (.ref (cl 7)) (lkI [(10, false), (11, false), (6, false), (2, false), (4, false), (5, false), (8, false), (9, false), (7, true), (1, false), (13, false), (14, false), (12, false), (3, false)])
  gC1 : mg "BadText" = some (.ref (cl 1))
  IX9 : IsXOk (ct w K cl) (.ref (cl 1)) (lkI [(10, false), (11, false), (6, false), (2, false), (4, false), (5, false), (8, false), (9, false), (7, false), (1, true), (13, false), (14, false), (12, false), (3, false)])
  IX10 : IsXOk (ct w K cl) (.ref (cl 13)) (lkI [(10, false), (11, false), (6, false), (2, false), (4, false), (5, false), (8, false), (9, false), (7, false), (1, false), (13, true), (14, false), (12, false), (3, false)])
  gC14 : mg "NothingToUndo" = some (.ref (cl 14))
  IX11 : IsXOk (ct w K cl) (.ref (cl 14)) (lkI [(10, false), (11, false), (6, false), (2, false), (4, false), (5, false), (8, false), (9, false), (7, false), (1, false), (13, false), (14, true), (12, false), (3, false)])
  IX12 : IsXOk (ct w K cl) (.ref (cl 12)) (lkI [(10, false), (11, false), (6, false), (2, false), (4, false), (5, false), (8, false), (9, false), (7, false), (1, false), (13, false), (14, false), (12, true), (3, false)])
  IX13 : IsXOk (ct w K cl) (.ref (cl 3)) (lkI [(10, false), (11, false), (6, false), (2, false), (4, false), (5, false), (8, false), (9, false), (7, false), (1, false), (13, false), (14, false), (12, false), (3, true)])
  F17 : Fun K "law" "law" s17 (f 17) (fd 17)
  B17 : Binds K (fd 17) ["_law_script"] []
  g11 : mg "_law_tape" = some (.ref (f 11))
  g13 : mg "_law_thing" = some (.ref (f 13))
  g14 : mg "_law_single" = some (.ref (f 14))
  g15 : mg "_law_double" = some (.ref (f 15))
  X7 : XcC K (cl 7)
  X1 : XcC K (cl 1)
  X14 : XcC K (cl 14)
  z_range : mg "range" = none
  gC0 : mg "BoardError" = some (.ref (cl 0))
  IX14 : IsXOk (ct w K cl) (.ref (cl 0)) (lkI [(10, true), (11, true), (6, true), (2, true), (4, true), (5, true), (8, true), (9, true), (7, true), (1, true), (13, true), (14, true), (12, true), (3, true)])
  z_ValueError : mg "ValueError" = none
  IX15 : IsXOk (ct w K cl) (.type "ValueError") (lkI [(10, true), (11, true), (6, true), (2, true), (4, true), (5, true), (8, true), (9, true), (7, true), (1, true), (13, true), (14, true), (12, true), (3, true)])
  g16 : mg "_law_kinds" = some (.ref (f 16))
section
variable {P : Program} {w : World} {K : PySem.W.Frag} {mg : Str → Option Value} {base : Heap} {cl f pp : Nat → Addr} {fd : Nat → FuncData}
theorem ok0 (T : Tx w K mg cl f pp fd) : FnOk P w K mg base CX0 1 (f 0) (fd 0) ["self", "line"] (spXi (cl 2) (fnT 2)) :=
  fn_xinit (ps := N0) (ns := fnT 2) T.F0 sc0 T.X2.T rfl (by decide) (by decide) (by decide +kernel) (xnone ⟨T.na2_line, trivial⟩) (fun _ _ _ _ _ _ => (pss_one (ps_ost (pv 0) (pv 1) rfl)))
theorem ok1 (T : Tx w K mg cl f pp fd) : FnOk P w K mg base CX0 1 (f 1) (fd 1) ["self", "line", "name"] (spXi (cl 3) (fnT 3)) :=
  fn_xinit (ps := N1) (ns := fnT 3) T.F1 sc1 T.X3.T rfl (by decide) (by decide) (by decide +kernel) (xnone ⟨T.na3_line, T.na3_name, trivial⟩) (fun _ _ _ _ _ _ => (pss_cons (ps_ost (pv 0) (pv 1) rfl) (pss_one (ps_ost (pv 0) (pv 2) rfl))))
theorem ok2 (T : Tx w K mg cl f pp fd) : FnOk P w K mg base CX0 1 (f 2) (fd 2) ["self", "name"] (spXi (cl 4) (fnT 4)) :=
  fn_xinit (ps := N2) (ns := fnT 4) T.F2 sc2 T.X4.T rfl (by decide) (by decide) (by decide +kernel) (xnone ⟨T.na4_name, trivial⟩) (fun _ _ _ _ _ _ => (pss_one (ps_ost (pv 0) (pv 1) rfl)))
theorem ok3 (T : Tx w K mg cl f pp fd) : FnOk P w K mg base CX0 1 (f 3) (fd 3) ["self", "number"] (spXi (cl 5) (fnT 5)) :=
  fn_xinit (ps := N3) (ns := fnT 5) T.F3 sc3 T.X5.T rfl (by decide) (by decide) (by decide +kernel) (xnone ⟨T.na5_number, trivial⟩) (fun _ _ _ _ _ _ => (pss_one (ps_ost (pv 0) (pv 1) rfl)))
theorem ok4 (T : Tx w K mg cl f pp fd) : FnOk P w K mg base CX0 1 (f 4) (fd 4) ["self", "length"] (spXi (cl 6) (fnT 6)) :=
  fn_xinit (ps := N4) (ns := fnT 6) T.F4 sc4 T.X6.T rfl (by decide) (by decide) (by decide +kernel) (xnone ⟨T.na6_length, trivial⟩) (fun _ _ _ _ _ _ => (pss_one (ps_ost (pv 0) (pv 1) rfl)))
theorem ok5 (T : Tx w K mg cl f pp fd) : FnOk P w K mg base CX0 1 (f 5) (fd 5) ["self", "width", "height"] (spXi (cl 8) (fnT 8)) :=
  fn_xinit (ps := N5) (ns := fnT 8) T.F5 sc5 T.X8.T rfl (by decide) (by decide) (by decide +kernel) (xnone ⟨T.na8_width, T.na8_height, trivial⟩) (fun _ _ _ _ _ _ => (pss_cons (ps_ost (pv 0) (pv 1) rfl) (pss_one (ps_ost (pv 0) (pv 2) rfl))))
theorem ok6 (T : Tx w K mg cl f pp fd) : FnOk P w K mg base CX0 1 (f 6) (fd 6) ["self", "row", "column"] (spXi (cl 9) (fnT 9)) :=
  fn_xinit (ps := N6) (ns := fnT 9) T.F6 sc6 T.X9.T rfl (by decide) (by decide) (by decide +kernel) (xnone ⟨T.na9_row, T.na9_column, trivial⟩) (fun _ _ _ _ _ _ => (pss_cons (ps_ost (pv 0) (pv 1) rfl) (pss_one (ps_ost (pv 0) (pv 2) rfl))))
theorem ok7 (T : Tx w K mg cl f pp fd) : FnOk P w K mg base CX0 1 (f 7) (fd 7) ["self", "name"] (spXi (cl 10) (fnT 10)) :=
  fn_xinit (ps := N7) (ns := fnT 10) T.F7 sc7 T.X10.T rfl (by decide) (by decide) (by decide +kernel) (xnone ⟨T.na10_name, trivial⟩) (fun _ _ _ _ _ _ => (pss_one (ps_ost (pv 0) (pv 1) rfl)))
theorem ok8 (T : Tx w K mg cl f pp fd) : FnOk P w K mg base CX0 1 (f 8) (fd 8) ["self", "index"] (spXi (cl 11) (fnT 11)) :=
  fn_xinit (ps := N8) (ns := fnT 11) T.F8 sc8 T.X11.T rfl (by decide) (by decide) (by decide +kernel) (xnone ⟨T.na11_index, trivial⟩) (fun _ _ _ _ _ _ => (pss_one (ps_ost (pv 0) (pv 1) rfl)))
theorem ok9 (T : Tx w K mg cl f pp fd) : FnOk P w K mg base CX0 1 (f 9) (fd 9) ["self", "name"] (spXi (cl 12) (fnT 12)) :=
  fn_xinit (ps := N9) (ns := fnT 12) T.F9 sc9 T.X12.T rfl (by decide) (by decide) (by decide +kernel) (xnone ⟨T.na12_name, trivial⟩) (fun _ _ _ _ _ _ => (pss_one (ps_ost (pv 0) (pv 1) rfl)))
theorem ok10 (T : Tx w K mg cl f pp fd) : FnOk P w K mg base CX0 1 (f 10) (fd 10) ["self", "step"] (spXi (cl 13) (fnT 13)) :=
  fn_xinit (ps := N10) (ns := fnT 13) T.F10 sc10 T.X13.T rfl (by decide) (by decide) (by decide +kernel) (xnone ⟨T.na13_step, trivial⟩) (fun _ _ _ _ _ _ => (pss_one (ps_ost (pv 0) (pv 1) rfl)))
theorem ok11 (T : Tx w K mg cl f pp fd) : FnOk P w K mg base (CX P w) 1 (f 11) (fd 11) ["_law_script", "_law_k"] (spD (ct w K cl) 2 m_law_tape) := by
  refine fn_ok (body := b_law_tape) T.F11 sc11 (fun bs _ => rfl) (fun cdv A outer s H E hr => ?_)
  have nd := sc11.nd
  have tk : Takes (cxOf (CX P w) P w K mg base N11 "_law_tape" (defScope s11) (f 11) cdv A outer s H E) (fun cls d _ H => E cls d H) := takes_of rfl rfl rfl rfl
  have pa : PassesOwn (model P w) (cxOf (CX P w) P w K mg base N11 "_law_tape" (defScope s11) (f 11) cdv A outer s H E).A (cxOf (CX P w) P w K mg base N11 "_law_tape" (defScope s11) (f 11) cdv A outer s H E).env (cxOf (CX P w) P w K mg base N11 "_law_tape" (defScope s11) (f 11) cdv A outer s H E).xe := passes_of rfl
  exact ⟨_, (dss_cons (ds_set (i := 2) nd rfl (Or.inl rfl) (de_if (dt_cmp op_lt ok_lt (de_v 1) (de_callB call_lenA (ok_len (c := ct w K cl)) rfl T.z_len (by decide +kernel) (da_cons (de_v 0) da_nil)) (nomark _)) (de_ix ix_seq (ok_ix (c := ct w K cl)) (de_v 0) (de_v 1) (fun _ _ => rfl)) de_int))
  (dss_one (ds_ret (de_lst (da_cons (de_callB call_abs ok_abs rfl T.z_abs (by decide +kernel) (da_cons (de_v 2) da_nil)) (da_cons (de_op op_addA ok_add (de_op op_mulA ok_mul de_int (de_v 1)) de_int) da_nil))))))⟩
theorem ok12 (T : Tx w K mg cl f pp fd) : FnOk P w K mg base (CX P w) 1 (f 12) (fd 12) ["_law_tape_here", "_law_many"] (spD (ct w K cl) 2 m_law_pick) := by
  refine fn_ok (body := b_law_pick) T.F12 sc12 (fun bs _ => rfl) (fun cdv A outer s H E hr => ?_)
  have nd := sc12.nd
  have tk : Takes (cxOf (CX P w) P w K mg base N12 "_law_pick" (defScope s12) (f 12) cdv A outer s H E) (fun cls d _ H => E cls d H) := takes_of rfl rfl rfl rfl
  have pa : PassesOwn (model P w) (cxOf (CX P w) P w K mg base N12 "_law_pick" (defScope s12) (f 12) cdv A outer s H E).A (cxOf (CX P w) P w K mg base N12 "_law_pick" (defScope s12) (f 12) cdv A outer s H E).env (cxOf (CX P w) P w K mg base N12 "_law_pick" (defScope s12) (f 12) cdv A outer s H E).xe := passes_of rfl
  exact ⟨_, (dss_cons (ds_if (dt_cmp op_ge ok_ge (de_ix ix_seq (ok_ix (c := ct w K cl)) (de_v 0) de_int (fun _ _ => rfl)) (de_op op_pow ok_pow de_int de_int) (nomark _))
  (dss_cons (ds_set (i := 3) nd rfl (Or.inl rfl) (de_op op_modN ok_mod (de_callTy call_int1 ok_int rfl T.z_int (by decide +kernel) (da_cons (de_ix ix_seq (ok_ix (c := ct w K cl)) (de_v 0) de_int (fun _ _ => rfl)) da_nil)) (de_v 1)))
  (dss_cons (ds_setL (j := 0) (pv 0) de_int (de_op op_fdivD ok_div (de_ix ix_seq (ok_ix (c := ct w K cl)) (de_v 0) de_int (fun _ _ => rfl)) (de_v 1)))
  (dss_one (ds_ret (de_v 3))))) dss_nil)
  (dss_cons (ds_setL (j := 0) (pv 0) de_int (de_op op_modN ok_mod (de_callTy call_int1 ok_int rfl T.z_int (by decide +kernel) (da_cons (de_op op_addA ok_add (de_op op_addA ok_add (de_op op_mulA ok_mul (de_ix ix_seq (ok_ix (c := ct w K cl)) (de_v 0) de_int (fun _ _ => rfl)) de_int) (de_op op_mulA ok_mul (de_ix ix_seq (ok_ix (c := ct w K cl)) (de_v 0) de_int (fun _ _ => rfl)) de_int)) de_int) da_nil)) de_int))
  (dss_cons (ds_set (i := 2) nd rfl (Or.inl rfl) (de_op op_modN ok_mod (de_callTy call_int1 ok_int rfl T.z_int (by decide +kernel) (da_cons (de_op op_addA ok_add (de_op op_addA ok_add (de_op op_mulA ok_mul (de_ix ix_seq (ok_ix (c := ct w K cl)) (de_v 0) de_int (fun _ _ => rfl)) (de_ix ix_seq (ok_ix (c := ct w K cl)) (de_v 0) de_int (fun _ _ => rfl))) (de_op op_mulA ok_mul (de_ix ix_seq (ok_ix (c := ct w K cl)) (de_v 0) de_int (fun _ _ => rfl)) de_int)) de_int) da_nil)) de_int))
  (dss_one (ds_ret (de_op op_modN ok_mod (de_callTy call_int1 ok_int rfl T.z_int (by decide +kernel) (da_cons (de_op op_fdivD ok_div (de_v 2) de_int) da_nil)) (de_v 1)))))))⟩
theorem ok13 (T : Tx w K mg cl f pp fd) : FnOk P w K mg base (CX P w) 2 (f 13) (fd 13) ["_law_tape_here"] (spD (ct w K cl) 1 m_law_thing) := by
  have G12 := ok12 (P := P) (w := w) (base := base) T
  refine fn_ok (body := b_law_thing) T.F13 sc13 (fun bs _ => rfl) (fun cdv A outer s H E hr => ?_)
  have nd := sc13.nd
  have tk : Takes (cxOf (CX P w) P w K mg base N13 "_law_thing" (defScope s13) (f 13) cdv A outer s H E) (fun cls d _ H => E cls d H) := takes_of rfl rfl rfl rfl
  have pa : PassesOwn (model P w) (cxOf (CX P w) P w K mg base N13 "_law_thing" (defScope s13) (f 13) cdv A outer s H E).A (cxOf (CX P w) P w K mg base N13 "_law_thing" (defScope s13) (f 13) cdv A outer s H E).env (cxOf (CX P w) P w K mg base N13 "_law_thing" (defScope s13) (f 13) cdv A outer s H E).xe := passes_of rfl
  exact ⟨_, (dss_one (ds_ret (de_ix ix_seq (ok_ix (c := ct w K cl)) (de_lst (da_cons de_int (da_cons (de_un un_neg ok_neg de_int) (da_cons (de_op op_pow ok_pow de_int de_int) (da_cons de_str (da_cons de_str (da_cons de_non (da_cons (de_lst (da_cons de_int (da_cons de_int da_nil))) (da_cons de_bl da_nil))))))))) (de_call (ms := [true, false]) tk G12 (hr.mono (by decide)) rfl T.g12 T.F12.kp T.B12 .nil (fun _ => rfl) (lenA1 (lenA1 lenA0)) rfl (da_cons (de_v 0) (da_cons de_int da_nil))) (fun _ _ => rfl))))⟩
theorem ok14 (T : Tx w K mg cl f pp fd) : FnOk P w K mg base (CX P w) 3 (f 14) (fd 14) ["_law_a"] (spD (ct w K cl) 1 m_law_single) := by
  have G7 := ok7 (P := P) (w := w) (base := base) T
  have G8 := ok8 (P := P) (w := w) (base := base) T
  have G4 := ok4 (P := P) (w := w) (base := base) T
  have G0 := ok0 (P := P) (w := w) (base := base) T
  have G2 := ok2 (P := P) (w := w) (base := base) T
  have G3 := ok3 (P := P) (w := w) (base := base) T
  have G10 := ok10 (P := P) (w := w) (base := base) T
  have G9 := ok9 (P := P) (w := w) (base := base) T
  refine fn_ok (body := b_law_single) T.F14 sc14 (fun bs _ => rfl) (fun cdv A outer s H E hr => ?_)
  have nd := sc14.nd
  have tk : Takes (cxOf (CX P w) P w K mg base N14 "_law_single" (defScope s14) (f 14) cdv A outer s H E) (fun cls d _ H => E cls d H) := takes_of rfl rfl rfl rfl
  have pa : PassesOwn (model P w) (cxOf (CX P w) P w K mg base N14 "_law_single" (defScope s14) (f 14) cdv A outer s H E).A (cxOf (CX P w) P w K mg base N14 "_law_single" (defScope s14) (f 14) cdv A outer s H E).env (cxOf (CX P w) P w K mg base N14 "_law_single" (defScope s14) (f 14) cdv A outer s H E).xe := passes_of rfl
  exact ⟨_, (dss_cons (ds_set (i := 1) nd rfl (Or.inl rfl) (de_lst (da_cons (de_mkV (k := 10) (n := 1) rfl T.X10.T T.X10.iC T.X10.tI G7 (hr.mono (by decide)) T.B7 rfl T.gC10 rfl (by decide) (da_cons (de_v 0) da_nil)) (da_cons (de_mkV (k := 11) (n := 1) rfl T.X11.T T.X11.iC T.X11.tI G8 (hr.mono (by decide)) T.B8 rfl T.gC11 rfl (by decide) (da_cons (de_v 0) da_nil)) (da_cons (de_mkV (k := 6) (n := 1) rfl T.X6.T T.X6.iC T.X6.tI G4 (hr.mono (by decide)) T.B4 rfl T.gC6 rfl (by decide) (da_cons (de_v 0) da_nil)) (da_cons (de_mkV (k := 2) (n := 1) rfl T.X2.T T.X2.iC T.X2.tI G0 (hr.mono (by decide)) T.B0 rfl T.gC2 rfl (by decide) (da_cons (de_v 0) da_nil)) (da_cons (de_mkV (k := 4) (n := 1) rfl T.X4.T T.X4.iC T.X4.tI G2 (hr.mono (by decide)) T.B2 rfl T.gC4 rfl (by decide) (da_cons (de_v 0) da_nil)) (da_cons (de_mkV (k := 5) (n := 1) rfl T.X5.T T.X5.iC T.X5.tI G3 (hr.mono (by decide)) T.B3 rfl T.gC5 rfl (by decide) (da_cons (de_v 0) da_nil)) (da_cons (de_mkV (k := 13) (n := 1) rfl T.X13.T T.X13.iC T.X13.tI G10 (hr.mono (by decide)) T.B10 rfl T.gC13 rfl (by decide) (da_cons (de_v 0) da_nil)) da_nil)))))))))
  (dss_cons (ds_expr (de_app (j := 1) (pv 1) rfl (de_mkV (k := 12) (n := 1) rfl T.X12.T T.X12.iC T.X12.tI G9 (hr.mono (by decide)) T.B9 rfl T.gC12 rfl (by decide) (da_cons (de_v 0) da_nil))))
  (dss_cons (ds_if (dt_cmp (op_neD hr.units) (ok_ne (c := ct w K cl)) (de_lst (da_cons (de_xfV rfl T.AT_name_4_10_12 (de_ix ix_seq (ok_ix (c := ct w K cl)) (de_v 1) de_int (fun _ _ => rfl))) (da_cons (de_xfV rfl T.AT_index_11 (de_ix ix_seq (ok_ix (c := ct w K cl)) (de_v 1) de_int (fun _ _ => rfl))) (da_cons (de_xfV rfl T.AT_length_6 (de_ix ix_seq (ok_ix (c := ct w K cl)) (de_v 1) de_int (fun _ _ => rfl))) (da_cons (de_xfV rfl T.AT_line_2 (de_ix ix_seq (ok_ix (c := ct w K cl)) (de_v 1) de_int (fun _ _ => rfl))) da_nil))))) (de_lst (da_cons (de_v 0) (da_cons (de_v 0) (da_cons (de_v 0) (da_cons (de_v 0) da_nil))))) (nomark _))
  (dss_one (ds_ret de_bl)) dss_nil)
  (dss_cons (ds_if (dt_cmp (op_neD hr.units) (ok_ne (c := ct w K cl)) (de_lst (da_cons (de_xfV rfl T.AT_name_4_10_12 (de_ix ix_seq (ok_ix (c := ct w K cl)) (de_v 1) de_int (fun _ _ => rfl))) (da_cons (de_xfV rfl T.AT_number_5 (de_ix ix_seq (ok_ix (c := ct w K cl)) (de_v 1) de_int (fun _ _ => rfl))) (da_cons (de_xfV rfl T.AT_step_13 (de_ix ix_seq (ok_ix (c := ct w K cl)) (de_v 1) de_int (fun _ _ => rfl))) (da_cons (de_xfV rfl T.AT_name_4_10_12 (de_ix ix_seq (ok_ix (c := ct w K cl)) (de_v 1) de_int (fun _ _ => rfl))) da_nil))))) (de_lst (da_cons (de_v 0) (da_cons (de_v 0) (da_cons (de_v 0) (da_cons (de_v 0) da_nil))))) (nomark _))
  (dss_one (ds_ret de_bl)) dss_nil)
  (dss_cons (ds_set (i := 2) nd rfl (Or.inl rfl) (de_lst (da_cons (de_xfV rfl T.AT_name_10 (de_mkVk (x := "BadBoard") (k := 10) (n := 1) (pm := [0]) rfl T.X10.T T.X10.iC T.X10.tI G7 (hr.mono (by decide)) T.KB7_1_name (by rfl) T.gC10 (by rfl) (by decide) (dk_cons (de_v 0) dk_nil))) (da_cons (de_xfV rfl T.AT_index_11 (de_mkVk (x := "BadCondition") (k := 11) (n := 1) (pm := [0]) rfl T.X11.T T.X11.iC T.X11.tI G8 (hr.mono (by decide)) T.KB8_1_index (by rfl) T.gC11 (by rfl) (by decide) (dk_cons (de_v 0) dk_nil))) (da_cons (de_xfV rfl T.AT_length_6 (de_mkVk (x := "BadLength") (k := 6) (n := 1) (pm := [0]) rfl T.X6.T T.X6.iC T.X6.tI G4 (hr.mono (by decide)) T.KB4_1_length (by rfl) T.gC6 (by rfl) (by decide) (dk_cons (de_v 0) dk_nil))) (da_cons (de_xfV rfl T.AT_line_2 (de_mkVk (x := "BadLine") (k := 2) (n := 1) (pm := [0]) rfl T.X2.T T.X2.iC T.X2.tI G0 (hr.mono (by decide)) T.KB0_1_line (by rfl) T.gC2 (by rfl) (by decide) (dk_cons (de_v 0) dk_nil))) da_nil))))))
  (dss_cons (ds_set (i := 2) nd rfl (Or.inl rfl) (de_op op_addA ok_add (de_v 2) (de_lst (da_cons (de_xfV rfl T.AT_name_4 (de_mkVk (x := "BadName") (k := 4) (n := 1) (pm := [0]) rfl T.X4.T T.X4.iC T.X4.tI G2 (hr.mono (by decide)) T.KB2_1_name (by rfl) T.gC4 (by rfl) (by decide) (dk_cons (de_v 0) dk_nil))) (da_cons (de_xfV rfl T.AT_number_5 (de_mkVk (x := "BadNumber") (k := 5) (n := 1) (pm := [0]) rfl T.X5.T T.X5.iC T.X5.tI G3 (hr.mono (by decide)) T.KB3_1_number (by rfl) T.gC5 (by rfl) (by decide) (dk_cons (de_v 0) dk_nil))) (da_cons (de_xfV rfl T.AT_step_13 (de_mkVk (x := "Fails") (k := 13) (n := 1) (pm := [0]) rfl T.X13.T T.X13.iC T.X13.tI G10 (hr.mono (by decide)) T.KB10_1_step (by rfl) T.gC13 (by rfl) (by decide) (dk_cons (de_v 0) dk_nil))) (da_cons (de_xfV rfl T.AT_name_12 (de_mkVk (x := "UnknownBoard") (k := 12) (n := 1) (pm := [0]) rfl T.X12.T T.X12.iC T.X12.tI G9 (hr.mono (by decide)) T.KB9_1_name (by rfl) T.gC12 (by rfl) (by decide) (dk_cons (de_v 0) dk_nil))) da_nil)))))))
  (dss_one (ds_ret (de_cmp (op_eqD hr.units) (ok_eq (c := ct w K cl)) (de_v 2) (de_lst (da_cons (de_v 0) (da_cons (de_v 0) (da_cons (de_v 0) (da_cons (de_v 0) (da_cons (de_v 0) (da_cons (de_v 0) (da_cons (de_v 0) (da_cons (de_v 0) da_nil))))))))) (nomark _))))))))))⟩
theorem ok15 (T : Tx w K mg cl f pp fd) : FnOk P w K mg base (CX P w) 3 (f 15) (fd 15) ["_law_a", "_law_b"] (spD (ct w K cl) 2 m_law_double) := by
  have G5 := ok5 (P := P) (w := w) (base := base) T
  have G6 := ok6 (P := P) (w := w) (base := base) T
  have G1 := ok1 (P := P) (w := w) (base := base) T
  refine fn_ok (body := b_law_double) T.F15 sc15 (fun bs _ => rfl) (fun cdv A outer s H E hr => ?_)
  have nd := sc15.nd
  have tk : Takes (cxOf (CX P w) P w K mg base N15 "_law_double" (defScope s15) (f 15) cdv A outer s H E) (fun cls d _ H => E cls d H) := takes_of rfl rfl rfl rfl
  have pa : PassesOwn (model P w) (cxOf (CX P w) P w K mg base N15 "_law_double" (defScope s15) (f 15) cdv A outer s H E).A (cxOf (CX P w) P w K mg base N15 "_law_double" (defScope s15) (f 15) cdv A outer s H E).env (cxOf (CX P w) P w K mg base N15 "_law_double" (defScope s15) (f 15) cdv A outer s H E).xe := passes_of rfl
  exact ⟨_, (dss_cons (ds_set (i := 2) nd rfl (Or.inl rfl) (de_mkV (k := 8) (n := 2) rfl T.X8.T T.X8.iC T.X8.tI G5 (hr.mono (by decide)) T.B5 rfl T.gC8 rfl (by decide) (da_cons (de_v 0) (da_cons (de_v 1) da_nil))))
  (dss_cons (ds_set (i := 3) nd rfl (Or.inl rfl) (de_mkV (k := 9) (n := 2) rfl T.X9.T T.X9.iC T.X9.tI G6 (hr.mono (by decide)) T.B6 rfl T.gC9 rfl (by decide) (da_cons (de_v 0) (da_cons (de_v 1) da_nil))))
  (dss_cons (ds_set (i := 4) nd rfl (Or.inl rfl) (de_mkV (k := 3) (n := 2) rfl T.X3.T T.X3.iC T.X3.tI G1 (hr.mono (by decide)) T.B1 rfl T.gC3 rfl (by decide) (da_cons (de_v 0) (da_cons (de_v 1) da_nil))))
  (dss_cons (ds_if (dt_cmp (op_neD hr.units) (ok_ne (c := ct w K cl)) (de_lst (da_cons (de_xfV rfl T.AT_width_8 (de_v 2)) (da_cons (de_xfV rfl T.AT_height_8 (de_v 2)) (da_cons (de_xfV rfl T.AT_row_9 (de_v 3)) (da_cons (de_xfV rfl T.AT_column_9 (de_v 3)) (da_cons (de_xfV rfl T.AT_line_3 (de_v 4)) (da_cons (de_xfV rfl T.AT_name_3 (de_v 4)) da_nil))))))) (de_lst (da_cons (de_v 0) (da_cons (de_v 1) (da_cons (de_v 0) (da_cons (de_v 1) (da_cons (de_v 0) (da_cons (de_v 1) da_nil))))))) (nomark _))
  (dss_one (ds_ret de_bl)) dss_nil)
  (dss_cons (ds_set (i := 2) nd rfl (Or.inl rfl) (de_mkVk (x := "BadSize") (k := 8) (n := 2) (pm := [1, 0]) rfl T.X8.T T.X8.iC T.X8.tI G5 (hr.mono (by decide)) T.KB5_1_height_width (by rfl) T.gC8 (by rfl) (by decide) (dk_cons (de_v 1) (dk_cons (de_v 0) dk_nil))))
  (dss_cons (ds_set (i := 3) nd rfl (Or.inl rfl) (de_mkVk (x := "BadSquare") (k := 9) (n := 2) (pm := [1, 0]) rfl T.X9.T T.X9.iC T.X9.tI G6 (hr.mono (by decide)) T.KB6_1_column_row (by rfl) T.gC9 (by rfl) (by decide) (dk_cons (de_v 1) (dk_cons (de_v 0) dk_nil))))
  (dss_cons (ds_set (i := 4) nd rfl (Or.inl rfl) (de_mkVk (x := "UnknownName") (k := 3) (n := 2) (pm := [1, 0]) rfl T.X3.T T.X3.iC T.X3.tI G1 (hr.mono (by decide)) T.KB1_1_name_line (by rfl) T.gC3 (by rfl) (by decide) (dk_cons (de_v 1) (dk_cons (de_v 0) dk_nil))))
  (dss_one (ds_ret (de_cmp (op_eqD hr.units) (ok_eq (c := ct w K cl)) (de_lst (da_cons (de_xfV rfl T.AT_width_8 (de_v 2)) (da_cons (de_xfV rfl T.AT_height_8 (de_v 2)) (da_cons (de_xfV rfl T.AT_row_9 (de_v 3)) (da_cons (de_xfV rfl T.AT_column_9 (de_v 3)) (da_cons (de_xfV rfl T.AT_line_3 (de_v 4)) (da_cons (de_xfV rfl T.AT_name_3 (de_v 4)) da_nil))))))) (de_lst (da_cons (de_v 0) (da_cons (de_v 1) (da_cons (de_v 0) (da_cons (de_v 1) (da_cons (de_v 0) (da_cons (de_v 1) da_nil))))))) (nomark _)))))))))))⟩
theorem ok16 (T : Tx w K mg cl f pp fd) : FnOk P w K mg base (CX P w) 1 (f 16) (fd 16) ["_law_e"] (spD (ct w K cl) 1 m_law_kinds) := by
  refine fn_ok (body := b_law_kinds) T.F16 sc16 (fun bs _ => rfl) (fun cdv A outer s H E hr => ?_)
  have nd := sc16.nd
  have tk : Takes (cxOf (CX P w) P w K mg base N16 "_law_kinds" (defScope s16) (f 16) cdv A outer s H E) (fun cls d _ H => E cls d H) := takes_of rfl rfl rfl rfl
  have pa : PassesOwn (model P w) (cxOf (CX P w) P w K mg base N16 "_law_kinds" (defScope s16) (f 16) cdv A outer s H E).A (cxOf (CX P w) P w K mg base N16 "_law_kinds" (defScope s16) (f 16) cdv A outer s H E).env (cxOf (CX P w) P w K mg base N16 "_law_kinds" (defScope s16) (f 16) cdv A outer s H E).xe := passes_of rfl
  exact ⟨_, (dss_cons (ds_set (i := 1) nd rfl (Or.inl rfl) (de_lst (da_cons (de_isV rfl (.own _) T.IX0 rfl T.z_isinstance (de_v 0) (pe_glob rfl T.gC10 rfl)) (da_cons (de_isV rfl (.own _) T.IX1 rfl T.z_isinstance (de_v 0) (pe_glob rfl T.gC11 rfl)) (da_cons (de_isV rfl (.own _) T.IX2 rfl T.z_isinstance (de_v 0) (pe_glob rfl T.gC6 rfl)) (da_cons (de_isV rfl (.own _) T.IX3 rfl T.z_isinstance (de_v 0) (pe_glob rfl T.gC2 rfl)) da_nil))))))
  (dss_cons (ds_set (i := 1) nd rfl (Or.inl rfl) (de_op op_addA ok_add (de_v 1) (de_lst (da_cons (de_isV rfl (.own _) T.IX4 rfl T.z_isinstance (de_v 0) (pe_glob rfl T.gC4 rfl)) (da_cons (de_isV rfl (.own _) T.IX5 rfl T.z_isinstance (de_v 0) (pe_glob rfl T.gC5 rfl)) (da_cons (de_isV rfl (.own _) T.IX6 rfl T.z_isinstance (de_v 0) (pe_glob rfl T.gC8 rfl)) da_nil))))))
  (dss_cons (ds_set (i := 1) nd rfl (Or.inl rfl) (de_op op_addA ok_add (de_v 1) (de_lst (da_cons (de_isV rfl (.own _) T.IX7 rfl T.z_isinstance (de_v 0) (pe_glob rfl T.gC9 rfl)) (da_cons (de_isV rfl (.own _) T.IX8 rfl T.z_isinstance (de_v 0) (pe_glob rfl T.gC7 rfl)) (da_cons (de_isV rfl (.own _) T.IX9 rfl T.z_isinstance (de_v 0) (pe_glob rfl T.gC1 rfl)) (da_cons (de_isV rfl (.own _) T.IX10 rfl T.z_isinstance (de_v 0) (pe_glob rfl T.gC13 rfl)) da_nil)))))))
  (dss_cons (ds_expr (de_app (j := 1) (pv 1) rfl (de_isV rfl (.own _) T.IX11 rfl T.z_isinstance (de_v 0) (pe_glob rfl T.gC14 rfl))))
  (dss_one (ds_ret (de_op op_addA ok_add (de_v 1) (de_lst (da_cons (de_isV rfl (.own _) T.IX12 rfl T.z_isinstance (de_v 0) (pe_glob rfl T.gC12 rfl)) (da_cons (de_isV rfl (.own _) T.IX13 rfl T.z_isinstance (de_v 0) (pe_glob rfl T.gC3 rfl)) da_nil))))))))))⟩
theorem ok17 (T : Tx w K mg cl f pp fd) : FnOk P w K mg base (CX P w) 4 (f 17) (fd 17) ["_law_script"] (spD (ct w K cl) 1 m_law_law) := by
  have G11 := ok11 (P := P) (w := w) (base := base) T
  have G13 := ok13 (P := P) (w := w) (base := base) T
  have G14 := ok14 (P := P) (w := w) (base := base) T
  have G15 := ok15 (P := P) (w := w) (base := base) T
  have G7 := ok7 (P := P) (w := w) (base := base) T
  have G8 := ok8 (P := P) (w := w) (base := base) T
  have G4 := ok4 (P := P) (w := w) (base := base) T
  have G0 := ok0 (P := P) (w := w) (base := base) T
  have G2 := ok2 (P := P) (w := w) (base := base) T
  have G3 := ok3 (P := P) (w := w) (base := base) T
  have G5 := ok5 (P := P) (w := w) (base := base) T
  have G6 := ok6 (P := P) (w := w) (base := base) T
  have G10 := ok10 (P := P) (w := w) (base := base) T
  have G9 := ok9 (P := P) (w := w) (base := base) T
  have G1 := ok1 (P := P) (w := w) (base := base) T
  have G16 := ok16 (P := P) (w := w) (base := base) T
  refine fn_ok (body := b_law_law) T.F17 sc17 (fun bs _ => rfl) (fun cdv A outer s H E hr => ?_)
  have nd := sc17.nd
  have tk : Takes (cxOf (CX P w) P w K mg base N17 "law" (defScope s17) (f 17) cdv A outer s H E) (fun cls d _ H => E cls d H) := takes_of rfl rfl rfl rfl
  have pa : PassesOwn (model P w) (cxOf (CX P w) P w K mg base N17 "law" (defScope s17) (f 17) cdv A outer s H E).A (cxOf (CX P w) P w K mg base N17 "law" (defScope s17) (f 17) cdv A outer s H E).env (cxOf (CX P w) P w K mg base N17 "law" (defScope s17) (f 17) cdv A outer s H E).xe := passes_of rfl
  exact ⟨_, (dss_cons (ds_set (i := 1) nd rfl (by first | exact Or.inl rfl | exact Or.inr rfl) (de_call (ms := [false, false]) tk G11 (hr.mono (by decide)) rfl T.g11 T.F11.kp T.B11 .nil (fun _ => rfl) (lenA1 (lenA1 lenA0)) rfl (da_cons (de_v 0) (da_cons de_int da_nil))))
  (dss_cons (ds_set (i := 2) nd rfl (by first | exact Or.inl rfl | exact Or.inr rfl) (de_call (ms := [true]) tk G13 (hr.mono (by decide)) rfl T.g13 T.F13.kp T.B13 .nil (fun _ => rfl) (lenA1 lenA0) rfl (da_cons (de_v 1) da_nil)))
  (dss_cons (ds_set (i := 3) nd rfl (by first | exact Or.inl rfl | exact Or.inr rfl) (de_call (ms := [true]) tk G13 (hr.mono (by decide)) rfl T.g13 T.F13.kp T.B13 .nil (fun _ => rfl) (lenA1 lenA0) rfl (da_cons (de_v 1) da_nil)))
  (dss_cons (ds_if (DW.dt (dw_or (dt_not (dt_val (de_call (ms := [false]) tk G14 (hr.mono (by decide)) rfl T.g14 T.F14.kp T.B14 .nil (fun _ => rfl) (lenA1 lenA0) rfl (da_cons (de_v 2) da_nil)))) (dw_or1 (dt_not (dt_val (de_call (ms := [false, false]) tk G15 (hr.mono (by decide)) rfl T.g15 T.F15.kp T.B15 .nil (fun _ => rfl) (lenA1 (lenA1 lenA0)) rfl (da_cons (de_v 2) (da_cons (de_v 3) da_nil))))))))
  (dss_one (ds_ret de_bl)) dss_nil)
  (dss_cons (ds_set (i := 4) nd rfl (by first | exact Or.inl rfl | exact Or.inr rfl) (de_lst (da_cons (de_mkV (k := 10) (n := 1) rfl T.X10.T T.X10.iC T.X10.tI G7 (hr.mono (by decide)) T.B7 rfl T.gC10 rfl (by decide) (da_cons (de_v 2) da_nil)) (da_cons (de_mkV (k := 11) (n := 1) rfl T.X11.T T.X11.iC T.X11.tI G8 (hr.mono (by decide)) T.B8 rfl T.gC11 rfl (by decide) (da_cons (de_v 2) da_nil)) (da_cons (de_mkV (k := 6) (n := 1) rfl T.X6.T T.X6.iC T.X6.tI G4 (hr.mono (by decide)) T.B4 rfl T.gC6 rfl (by decide) (da_cons (de_v 2) da_nil)) (da_cons (de_mkV (k := 2) (n := 1) rfl T.X2.T T.X2.iC T.X2.tI G0 (hr.mono (by decide)) T.B0 rfl T.gC2 rfl (by decide) (da_cons (de_v 2) da_nil)) (da_cons (de_mkV (k := 4) (n := 1) rfl T.X4.T T.X4.iC T.X4.tI G2 (hr.mono (by decide)) T.B2 rfl T.gC4 rfl (by decide) (da_cons (de_v 2) da_nil)) (da_cons (de_mkV (k := 5) (n := 1) rfl T.X5.T T.X5.iC T.X5.tI G3 (hr.mono (by decide)) T.B3 rfl T.gC5 rfl (by decide) (da_cons (de_v 2) da_nil)) (da_cons (de_mkV (k := 8) (n := 2) rfl T.X8.T T.X8.iC T.X8.tI G5 (hr.mono (by decide)) T.B5 rfl T.gC8 rfl (by decide) (da_cons (de_v 2) (da_cons (de_v 3) da_nil))) da_nil)))))))))
  (dss_cons (ds_set (i := 4) nd rfl (by first | exact Or.inl rfl | exact Or.inr rfl) (de_op op_addA ok_add (de_v 4) (de_lst (da_cons (de_mkV (k := 9) (n := 2) rfl T.X9.T T.X9.iC T.X9.tI G6 (hr.mono (by decide)) T.B6 rfl T.gC9 rfl (by decide) (da_cons (de_v 2) (da_cons (de_v 3) da_nil))) (da_cons (de_mkV0 (k := 7) rfl PySem.F.excBase_ValueError T.X7.q T.gC7 T.X7.kC T.X7.r1 T.X7.r2 rfl) (da_cons (de_mkV0 (k := 1) rfl PySem.F.excBase_ValueError T.X1.q T.gC1 T.X1.kC T.X1.r1 T.X1.r2 rfl) (da_cons (de_mkV (k := 13) (n := 1) rfl T.X13.T T.X13.iC T.X13.tI G10 (hr.mono (by decide)) T.B10 rfl T.gC13 rfl (by decide) (da_cons (de_v 2) da_nil)) (da_cons (de_mkV0 (k := 14) rfl PySem.F.excBase_ValueError T.X14.q T.gC14 T.X14.kC T.X14.r1 T.X14.r2 rfl) (da_cons (de_mkV (k := 12) (n := 1) rfl T.X12.T T.X12.iC T.X12.tI G9 (hr.mono (by decide)) T.B9 rfl T.gC12 rfl (by decide) (da_cons (de_v 2) da_nil)) da_nil)))))))))
  (dss_cons (ds_expr (de_app (j := 4) (pv 4) rfl (de_mkV (k := 3) (n := 2) rfl T.X3.T T.X3.iC T.X3.tI G1 (hr.mono (by decide)) T.B1 rfl T.gC3 rfl (by decide) (da_cons (de_v 2) (da_cons (de_v 3) da_nil)))))
  (dss_cons (ds_for pa rfl (di_range1 rfl T.z_range (da_cons (de_callB call_lenA (ok_len (c := ct w K cl)) rfl T.z_len (by decide +kernel) (da_cons (de_v 4) da_nil)) da_nil)) (dg_name (i := 5) nd rfl (by first | exact Or.inl rfl | exact Or.inr rfl))
  (dss_cons (ds_if (DW.dt (dw_or (dt_not (dt_val (de_isV rfl (.own _) T.IX14 rfl T.z_isinstance (de_ix ix_seq (ok_ix (c := ct w K cl)) (de_v 4) (de_v 5) (fun _ _ => rfl)) (pe_glob rfl T.gC0 rfl)))) (dw_or1 (dt_not (dt_val (de_isV rfl (.ty _) T.IX15 rfl T.z_isinstance (de_ix ix_seq (ok_ix (c := ct w K cl)) (de_v 4) (de_v 5) (fun _ _ => rfl)) (pe_bltn rfl T.z_ValueError (by decide +kernel) rfl)))))))
  (dss_one (ds_ret de_bl)) dss_nil)
  (dss_one (ds_if (dt_cmp (op_neD hr.units) (ok_ne (c := ct w K cl)) (de_call (ms := [false]) tk G16 (hr.mono (by decide)) rfl T.g16 T.F16.kp T.B16 .nil (fun _ => rfl) (lenA1 lenA0) rfl (da_cons (de_ix ix_seq (ok_ix (c := ct w K cl)) (de_v 4) (de_v 5) (fun _ _ => rfl)) da_nil)) (de_lc (own := [("_law_other", 6)]) rfl nd (di_range1 rfl T.z_range (da_cons (de_callB call_lenA (ok_len (c := ct w K cl)) rfl T.z_len (by decide +kernel) (da_cons (de_v 4) da_nil)) da_nil)) (blkOk_by (own := [("_law_other", 6)]) (N := N17) (sc := defScope s17) (by decide +kernel)) (fun _ _ _ _ _ => (dgc_name (i := 6) nd rfl (by first | exact Or.inl rfl | exact Or.inr rfl) (by decide))) (fun _ _ _ _ _ => by exact dts_nil) (fun _ _ _ _ _ => by exact (de_cmp (op_eqD hr.units) (ok_eq (c := ct w K cl)) (de_v 5) (de_v 6) (nomark _)))) (nomark _))
  (dss_one (ds_ret de_bl)) dss_nil))))
  (dss_one (ds_ret de_bl))))))))))⟩
end
end K13

/-! DL, part s: how functions on data are run by simp. Its first rows are printed by evs.py. -/
namespace DL
open PySem L2 Evl
@[simp ↓] theorem ev_bind {α β : Type} (r : Res α) (f : α → Res β) : r.bind f = (match r with | .stuck => .stuck | .ok a => f a | .exc x e => .exc x e) := rfl
@[simp ↓] theorem ev_obind {α β : Type} (r : Option α) (f : α → Option β) : r.bind f = (match r with | none => none | some a => f a) := by cases r <;> rfl
@[simp ↓] theorem ev_omap {α β : Type} (r : Option α) (f : α → β) : r.map f = (match r with | none => none | some a => some (f a)) := by cases r <;> rfl
@[simp] theorem Res.of_some {α : Type} {a : α} : Res.of (some a) = .ok a := rfl
@[simp] theorem Res.of_none {α : Type} : Res.of (none : Option α) = .stuck := rfl
@[simp ↓] theorem ev_fVar (i : Nat) (e : DEnv) : fVar i e = (match e[i]? with
  | some (some _) => .ok (.sl i, e)
  | _ => .stuck) := rfl
@[simp ↓] theorem ev_fC (d : D) (e : DEnv) : fC d e = (.ok (.vl d, e)) := rfl
@[simp ↓] theorem ev_fA0 (e : DEnv) : fA0 e = (.ok ([], e)) := rfl
@[simp ↓] theorem ev_fA1 (fa : FE) (fr : FA) (e : DEnv) : fA1 fa fr e = ((fa e).bind fun r => (fr r.2).bind fun q => .ok (r.1.seal :: q.1, q.2)) := rfl
@[simp ↓] theorem ev_fOp2 (op : D → D → Option RV) (fa fb : FE) (e : DEnv) : fOp2 op fa fb e = ((fa e).bind fun r => (fb r.2).bind fun q => Res.of ((lookT r.1.seal q.2).bind fun d1 => (lookT q.1 q.2).bind fun d2 => (op d1 d2).bind fun rv => some (rv.tok, q.2))) := rfl
@[simp ↓] theorem ev_fOp1 (op : D → Option RV) (fa : FE) (e : DEnv) : fOp1 op fa e = ((fa e).bind fun r => Res.of ((lookT r.1 r.2).bind fun d1 => (op d1).bind fun rv => some (rv.tok, r.2))) := rfl
@[simp ↓] theorem ev_fCB (op : List D → Option RV) (fr : FA) (e : DEnv) : fCB op fr e = ((fr e).bind fun r => Res.of ((lookTs r.1 r.2).bind fun ds => (op ds).bind fun rv => some (rv.tok, r.2))) := rfl
@[simp ↓] theorem ev_fB (f : FE) (e : DEnv) : fB f e = ((f e).bind fun r => match lookT r.1 r.2 with
  | some (.bl b) => .ok (b, r.2)
  | _ => .stuck) := rfl
@[simp ↓] theorem ev_fNot (f : FT) (e : DEnv) : fNot f e = ((f e).bind fun r => .ok (!r.1, r.2)) := rfl
@[simp ↓] theorem ev_fAnd (f g : FT) (e : DEnv) : fAnd f g e = ((f e).bind fun r => if r.1 = true then g r.2 else .ok (false, r.2)) := rfl
@[simp ↓] theorem ev_fOr (f g : FT) (e : DEnv) : fOr f g e = ((f e).bind fun r => if r.1 = true then .ok (true, r.2) else g r.2) := rfl
@[simp ↓] theorem ev_fNotV (f : FE) (e : DEnv) : fNotV f e = ((fB f e).bind fun r => .ok (.vl (.bl (!r.1)), r.2)) := rfl
@[simp ↓] theorem ev_fAndV (f g : FE) (e : DEnv) : fAndV f g e = ((fB f e).bind fun r => if r.1 = true then g r.2 else .ok (.vl (.bl false), r.2)) := rfl
@[simp ↓] theorem ev_fOrV (f g : FE) (e : DEnv) : fOrV f g e = ((fB f e).bind fun r => if r.1 = true then .ok (.vl (.bl true), r.2) else g r.2) := rfl
@[simp ↓] theorem ev_fIf (t : FT) (f g : FE) (e : DEnv) : fIf t f g e = ((t e).bind fun r => if r.1 = true then f r.2 else g r.2) := rfl
@[simp ↓] theorem ev_fLst (fa : FA) (e : DEnv) : fLst fa e = ((fa e).bind fun r => Res.of ((escs r.1 r.2).bind fun q => if q.1.length ≤ lim then some (.nw (.lst q.1), q.2) else none)) := rfl
@[simp ↓] theorem ev_fTup (fa : FA) (e : DEnv) : fTup fa e = ((fa e).bind fun r => Res.of ((escs r.1 r.2).bind fun q => if q.1.length ≤ lim then some (.vl (.tup q.1), q.2) else none)) := rfl
@[simp ↓] theorem ev_fSet (i : Nat) (f : FE) (e : DEnv) : fSet i f e = ((f e).bind fun r => Res.of ((storeT i r.1 r.2).map .nx)) := rfl
@[simp ↓] theorem ev_fNext (e : DEnv) : fNext e = (.ok (.nx e)) := rfl
@[simp ↓] theorem ev_fSeq (f g : FS) (e : DEnv) : fSeq f g e = ((f e).bind fun o => match o with
  | .nx e1 => g e1
  | .rt t e1 => .ok (.rt t e1)
  | .bk e1 => .ok (.bk e1)
  | .ct e1 => .ok (.ct e1)) := rfl
@[simp ↓] theorem ev_fBreak (e : DEnv) : fBreak e = (.ok (.bk e)) := rfl
@[simp ↓] theorem ev_fCont (e : DEnv) : fCont e = (.ok (.ct e)) := rfl
@[simp ↓] theorem ev_fDrop (f : FE) (e : DEnv) : fDrop f e = ((f e).bind fun r => .ok (.nx r.2)) := rfl
@[simp ↓] theorem ev_fRet (f : FE) (e : DEnv) : fRet f e = ((f e).bind fun r => .ok (.rt r.1 r.2)) := rfl
@[simp ↓] theorem ev_fRetN (e : DEnv) : fRetN e = (.ok (.rt (.vl .non) e)) := rfl
@[simp ↓] theorem ev_fIfS (t : FT) (f g : FS) (e : DEnv) : fIfS t f g e = ((t e).bind fun r => if r.1 = true then f r.2 else g r.2) := rfl
@[simp ↓] theorem ev_fAsg (fg : D → DEnv → Option DEnv) (f : FE) (e : DEnv) : fAsg fg f e = ((f e).bind fun r => Res.of ((escape r.1 r.2).bind fun q => (fg q.1 q.2).map .nx)) := rfl
@[simp ↓] theorem ev_fPar (i j : Nat) (fr : FA) (e : DEnv) : fPar i j fr e = ((fr e).bind fun r => Res.of (match r.1 with
  | [t, u] => (escape t r.2).bind fun q => (escape u q.2).bind fun q2 => if i < q2.2.length ∧ j < q2.2.length then some (.nx ((q2.2.set i (some (.sh q.1))).set j (some (.sh q2.1)))) else none
  | _ => none)) := rfl
@[simp ↓] theorem ev_fAug (i : Nat) (op : D → D → Option RV) (f : FE) (e : DEnv) : fAug i op f e = (match e[i]? with
  | some (some (.sh d1)) => (f e).bind fun r => Res.of ((lookT r.1 r.2).bind fun d2 => (op d1 d2).bind fun rv => (storeT i rv.tok r.2).map .nx)
  | _ => .stuck) := rfl
@[simp ↓] theorem ev_fApp (j : Nat) (f : FE) (e : DEnv) : fApp j f e = ((Res.of (rootLst e j)).bind fun _ => (f e).bind fun r => Res.of ((escape r.1 r.2).bind fun q => (rootLst q.2 j).bind fun ds => if ds.length < lim then some (.vl .non, putLst q.2 j (ds ++ [q.1])) else none)) := rfl
@[simp ↓] theorem ev_fPop (j : Nat) (e : DEnv) : fPop j e = (Res.of ((rootLst e j).bind fun ds => (ds[ds.length - 1]?).bind fun d => some (.vl d, putLst e j ds.dropLast))) := rfl
@[simp ↓] theorem ev_fExt (j : Nat) (f : FE) (e : DEnv) : fExt j f e = ((Res.of (rootLst e j)).bind fun _ => (f e).bind fun r => Res.of ((escape r.1 r.2).bind fun q => match q.1 with
  | .lst es => (rootLst q.2 j).bind fun ds => if ds.length + es.length ≤ lim then some (.vl .non, putLst q.2 j (ds ++ es)) else none
  | _ => none)) := rfl
@[simp ↓] theorem ev_fSetIx (j : Nat) (fi fv : FE) (e : DEnv) : fSetIx j fi fv e = ((fv e).bind fun r => (Res.of ((escape r.1 r.2).bind fun q => (rootLst q.2 j).map fun _ => q)).bind fun q => (fi q.2).bind fun s => Res.of ((lookT s.1 s.2).bind fun k => match k with
  | .int k => (rootLst s.2 j).bind fun ds => (ixN ds.length k).map fun n => .nx (putLst s.2 j (ds.set n q.1))
  | _ => none)) := rfl
@[simp ↓] theorem ev_fiL (f : FE) (e : DEnv) : fiL f e = ((f e).bind fun r => Res.of ((escape r.1 r.2).bind fun q => match q.1 with
  | .lst ds => some (ds, q.2)
  | .rol ds => some (ds, q.2)
  | _ => none)) := rfl
@[simp ↓] theorem ev_fiT (f : FE) (e : DEnv) : fiT f e = ((f e).bind fun r => Res.of ((escape r.1 r.2).bind fun q => match q.1 with
  | .tup ds => some (ds, q.2)
  | _ => none)) := rfl
@[simp ↓] theorem ev_fiR1 (fr : FA) (e : DEnv) : fiR1 fr e = ((fr e).bind fun r => Res.of ((lookTs r.1 r.2).bind fun ds => match ds with
  | [.int n] => if ok62 n then some (irange 0 n.toNat, r.2) else none
  | _ => none)) := rfl
@[simp ↓] theorem ev_fiR2 (fr : FA) (e : DEnv) : fiR2 fr e = ((fr e).bind fun r => Res.of ((lookTs r.1 r.2).bind fun ds => match ds with
  | [.int i, .int j] => if ok62 i && ok62 j then some (irange i (j - i).toNat, r.2) else none
  | _ => none)) := rfl
@[simp ↓] theorem ev_fFor (fi : FI) (fg : D → DEnv → Option DEnv) (fb : FS) (e : DEnv) : fFor fi fg fb e = ((fi e).bind fun r => loopF fg fb r.1 r.2) := rfl
@[simp ↓] theorem ev_fLc (fi : FI) (fg : D → DEnv → Option DEnv) (ft : FT) (fe : FE) (vs : List Nat) (e : DEnv) : fLc fi fg ft fe vs e = ((fi e).bind fun r => Res.of (if clearAt r.2 vs then (loopC fg ft fe vs r.1 [] (wipeE (lendE r.2) vs)).map fun q => (.nw (.lst q.1), backE r.2 q.2) else none)) := rfl
@[simp ↓] theorem ev_fYes (e : DEnv) : fYes e = (.ok (true, e)) := rfl
@[simp ↓] theorem ev_fFn (N : Nat) (body : FS) (bs : List B) : fFn N body bs = ((body (env0 N bs)).bind fun o => Res.of (match o with
  | .nx e => fnRet bs (.vl .non) e
  | .rt t e => fnRet bs t e
  | _ => none)) := rfl
@[simp ↓] theorem ev_fCall (ms : List Bool) (dds : List D) (m : Fn) (fa : FA) (e : DEnv) : fCall ms dds m fa e = ((fa e).bind fun r => (Res.of (escN ms r.1 r.2)).bind fun q => callM dds m q.1 q.2) := rfl
@[simp ↓] theorem ev_fFld (ns : List Str) (k : Nat) (f : Str) (fo : FE) (e : DEnv) : fFld ns k f fo e = ((fo e).bind fun r => Res.of ((lookT r.1 r.2).bind fun d => match d with
  | .ins k' ds => if k' = k then (fldOf ns f ds).map fun d => (.vl d, r.2) else none
  | _ => none)) := rfl
@[simp ↓] theorem ev_fPutF (ns : List Str) (k j : Nat) (f : Str) (fv : FE) (e : DEnv) : fPutF ns k j f fv e = ((fv e).bind fun r => Res.of ((escape r.1 r.2).bind fun q => (rootIns k q.2 j).bind fun ds => (putD ns f q.1 ds).bind fun ds' => if ds.length < 900 then some (.nx (putIns k q.2 j ds')) else none)) := rfl
@[simp ↓] theorem ev_fMeth (k : Nat) (ms : List Bool) (dds : List D) (m : Fn) (fo : FE) (fa : FA) (e : DEnv) : fMeth k ms dds m fo fa e = ((fo e).bind fun r0 => match lookT r0.1.seal r0.2 with
  | some (.ins k' _) => if k' = k then (fa r0.2).bind fun r => (Res.of (escN ms (r0.1.seal :: r.1) r.2)).bind fun q => callM dds m q.1 q.2 else .stuck
  | _ => .stuck) := rfl
@[simp ↓] theorem ev_fProp (k : Nat) (m : Fn) (fo : FE) (e : DEnv) : fProp k m fo e = ((fo e).bind fun r0 => match lookT r0.1.seal r0.2 with
  | some (.ins k' _) => if k' = k then (Res.of (escN [false] [r0.1.seal] r0.2)).bind fun q => noExc (callM [] m q.1 q.2) else .stuck
  | _ => .stuck) := rfl
@[simp ↓] theorem ev_fMake (k : Nat) (ms : List Bool) (dds : List D) (m : Fn) (fa : FA) (e : DEnv) : fMake k ms dds m fa e = ((fa e).bind fun r => (Res.of (escN ms r.1 r.2)).bind fun q => match callM dds m (.sl q.2.length :: q.1) (q.2 ++ [some (.ow (.ins k []))]) with
  | .stuck => .stuck
  | .exc x e' => .exc x e'.dropLast
  | .ok (.vl .non, e') => match e'.getLast? with
    | some (some (.ow (.ins k' ds))) => .ok (.nw (.ins k' ds), e'.dropLast)
    | _ => .stuck
  | .ok _ => .stuck) := rfl
@[simp ↓] theorem ev_fIsi (P : D → Option Bool) (fa : FE) (e : DEnv) : fIsi P fa e = ((fa e).bind fun r => Res.of ((lookT r.1 r.2).bind fun d => (P d).map fun b => (.vl (.bl b), r.2))) := rfl
@[simp ↓] theorem ev_fiZip (fr : FA) (e : DEnv) : fiZip fr e = ((fr e).bind fun r => Res.of ((escs r.1 r.2).bind fun q => match q.1 with
  | [.lst xs, .lst ys] => some (izip xs ys, q.2)
  | [.tup xs, .tup ys] => some (izip xs ys, q.2)
  | _ => none)) := rfl
@[simp ↓] theorem ev_fOwn2 (p1 p2 : D → Bool) (sw : Bool) (m : Fn) (fa fb : FE) (e : DEnv) : fOwn2 p1 p2 sw m fa fb e = ((fa e).bind fun r => (fb r.2).bind fun q => match lookT r.1.seal q.2, lookT q.1.seal q.2 with
  | some d1, some d2 => if p1 d1 && p2 d2 then (Res.of (escN [] (if sw then [q.1.seal, r.1.seal] else [r.1.seal, q.1.seal]) q.2)).bind fun q => callM [] m q.1 q.2 else .stuck
  | _, _ => .stuck) := rfl
@[simp ↓] theorem ev_fOwn1 (i : Nat) (m : Fn) (fa : FE) (e : DEnv) : fOwn1 i m fa e = ((fa e).bind fun r => match lookT r.1.seal r.2 with
  | some d => if isIns i d then (Res.of (escN [] [r.1.seal] r.2)).bind fun q => callM [] m q.1 q.2 else .stuck
  | _ => .stuck) := rfl
@[simp ↓] theorem ev_fOwnN (i : Nat) (P : D → Bool) (m : Fn) (fa fb : FE) (e : DEnv) : fOwnN i P m fa fb e = ((fOwn2 (isIns i) P false m fa fb e).bind fun r => match r.1 with
  | .vl (.bl b) => .ok (.vl (.bl (!b)), r.2)
  | _ => .stuck) := rfl
@[simp ↓] theorem ev_fCallF (ms : List Bool) (dds : List D) (m : Fn) (f1 : FE) (fr : FA) (e : DEnv) : fCallF ms dds m f1 fr e = ((f1 e).bind fun r1 => match r1.1 with
  | .nw d => (fr r1.2).bind fun r => (Res.of (escN ms r.1 r.2)).bind fun q => dropG (callM dds m (.sl q.2.length :: q.1) (q.2 ++ [some (.ow d)]))
  | _ => .stuck) := rfl
@[simp ↓] theorem ev_fNoP (e : DEnv) : fNoP e = (.ok (none, e)) := rfl
@[simp ↓] theorem ev_fPo (f : FE) (e : DEnv) : fPo f e = ((f e).bind fun r => match lookT r.1 r.2 with
  | some (.int i) => .ok (some i, r.2)
  | _ => .stuck) := rfl
@[simp ↓] theorem ev_fSl (fa : FE) (fl fh : FO) (e : DEnv) : fSl fa fl fh e = ((fa e).bind fun r => (fl r.2).bind fun l => (fh l.2).bind fun h => Res.of ((lookT r.1.seal h.2).bind fun d => (opSl d l.1 h.1).map fun rv => (rv.tok, h.2))) := rfl
@[simp ↓] theorem ev_fTry (tbl : Nat → Option Bool) (i : Nat) (f : FS) (g : FS) (e : DEnv) : fTry tbl i f g e = (match f e with
  | .exc x e' => (match tbl x.k with
    | some true => if noX e' && decide (i < e'.length) then (match g (e'.set i (some (.ex x))) with
        | .ok out => goneO i out
        | _ => .stuck) else .stuck
    | some false => .exc x e'
    | none => .stuck)
  | r => r) := rfl
@[simp ↓] theorem ev_fTryO (tbl : Nat → Option Bool) (f : FS) (g : FS) (e : DEnv) : fTryO tbl f g e = (match f e with
  | .exc x e' => (match tbl x.k with
    | some true => (match g e' with
        | .ok out => .ok out
        | _ => .stuck)
    | some false => .exc x e'
    | none => .stuck)
  | r => r) := rfl
@[simp ↓] theorem ev_fXf (ns : List Str) (k i : Nat) (f : Str) (e : DEnv) : fXf ns k i f e = (match e[i]? with
  | some (some (.ex x)) => if x.k = k then (match (ns.zip x.ds).lookup f with
    | some d => .ok (.vl d, e)
    | none => .stuck) else .stuck
  | _ => .stuck) := rfl
@[simp ↓] theorem ev_fRaise (k n : Nat) (fa : FA) (e : DEnv) : fRaise k n fa e = ((fa e).bind fun r => (Res.of (escs r.1 r.2)).bind fun q => if q.1.length = n then .exc ⟨k, q.1⟩ q.2 else .stuck) := rfl
@[simp ↓] theorem ev_fRaise0 (k : Nat) (e : DEnv) : fRaise0 k e = (.exc ⟨k, []⟩ e) := rfl
@[simp ↓] theorem ev_fiR3 (fr : FA) (e : DEnv) : fiR3 fr e = ((fr e).bind fun r => Res.of ((lookTs r.1 r.2).bind fun ds => match ds with
  | [.int i, .int j, .int st] => if rg3ok i j st then some (irange3 i st (rg3n i j st), r.2) else none
  | _ => none)) := rfl
@[simp ↓] theorem ev_fLR1 (fa : FE) (e : DEnv) : fLR1 fa e = ((fa e).bind fun r => Res.of ((lookT r.1 r.2).bind fun d => match d with
  | .int n => if ok24 0 n then some (.nw (.lst (irange 0 (n - 0).toNat)), r.2) else none
  | _ => none)) := rfl
@[simp ↓] theorem ev_fLR2 (fa fb : FE) (e : DEnv) : fLR2 fa fb e = ((fa e).bind fun r => (fb r.2).bind fun q => Res.of ((lookT r.1.seal q.2).bind fun d1 => (lookT q.1 q.2).bind fun d2 => match d1, d2 with
  | .int i, .int j => if ok24 i j then some (.nw (.lst (irange i (j - i).toNat)), q.2) else none
  | _, _ => none)) := rfl
@[simp ↓] theorem ev_fLR3 (fr : FA) (e : DEnv) : fLR3 fr e = ((fr e).bind fun r => Res.of ((lookTs r.1 r.2).bind fun ds => match ds with
  | [.int i, .int j, .int st] => if rg3ok i j st && decide (rg3n i j st ≤ 1000000) then some (.nw (.lst (irange3 i st (rg3n i j st))), r.2) else none
  | _ => none)) := rfl
@[simp ↓] theorem ev_fStar (n i : Nat) (fs : List D → DEnv → Option DEnv) (f : FE) (e : DEnv) : fStar n i fs f e = ((f e).bind fun r => Res.of ((escape r.1 r.2).bind fun q => match q.1 with
  | .tup ds => if decide (n ≤ ds.length + 1) && decide (ds.length ≤ 16384) then (fs (ds.take i ++ [.lst ((ds.drop i).take (ds.length + 1 - n))] ++ (ds.drop i).drop (ds.length + 1 - n)) q.2).map .nx else none
  | _ => none)) := rfl
@[simp] theorem ev_lookup {α β : Type} [BEq α] (a k : α) (b : β) (es : List (α × β)) : List.lookup a ((k, b) :: es) = (match a == k with | true => some b | false => List.lookup a es) := rfl
@[simp] theorem ev_lim : lim = 1000000 := rfl
@[simp] theorem ev_absI (i : Int) : opAbs [.int i] = some (.fl (.int (if i < 0 then -i else i))) := rfl
@[simp] theorem ev_intI (i : Int) : opInt [.int i] = some (.fl (.int i)) := rfl
@[simp] theorem ev_addI (i j : Int) : opAdd (.int i) (.int j) = some (.fl (.int (i + j))) := rfl
@[simp] theorem ev_addS (i j : Str) : opAdd (.str i) (.str j) = if i.length + j.length ≤ lim then some (.fl (.str (i ++ j))) else none := rfl
@[simp] theorem ev_addL (i j : List D) : opAdd (.lst i) (.lst j) = if i.length + j.length ≤ lim then some (.nl (i ++ j)) else none := rfl
@[simp] theorem ev_subI (i j : Int) : opSub (.int i) (.int j) = some (.fl (.int (i - j))) := rfl
@[simp] theorem ev_mulI (i j : Int) : opMul (.int i) (.int j) = if mulOk i j then some (.fl (.int (i * j))) else none := rfl
@[simp] theorem ev_divI (i j : Int) : opDiv (.int i) (.int j) = if divOk i j then some (.fl (.int (i.fdiv j))) else none := rfl
@[simp] theorem ev_modI (i j : Int) : opMod (.int i) (.int j) = if modOk i j then some (.fl (.int (i.fmod j))) else none := rfl
@[simp] theorem ev_powI (i j : Int) : opPow (.int i) (.int j) = if powOk i j then some (.fl (.int (i ^ j.toNat))) else none := rfl
@[simp] theorem ev_shlI (i j : Int) : opShl (.int i) (.int j) = if shlOk i j then some (.fl (.int (i * 2 ^ j.toNat))) else none := rfl
@[simp] theorem ev_shrI (i j : Int) : opShr (.int i) (.int j) = if shrOk i j then some (.fl (.int (i / 2 ^ j.toNat))) else none := rfl
@[simp] theorem ev_andI (i j : Int) : opAnd (.int i) (.int j) = some (.fl (.int (Builtin.bitAnd i j))) := rfl
@[simp] theorem ev_orI (i j : Int) : opOr (.int i) (.int j) = some (.fl (.int (Builtin.bitOr i j))) := rfl
@[simp] theorem ev_xorI (i j : Int) : opXor (.int i) (.int j) = some (.fl (.int (Builtin.bitXor i j))) := rfl
@[simp] theorem ev_ltI (i j : Int) : opLt (.int i) (.int j) = some (.fl (.bl (decide (i < j)))) := rfl
@[simp] theorem ev_leI (i j : Int) : opLe (.int i) (.int j) = some (.fl (.bl (decide (i ≤ j)))) := rfl
@[simp] theorem ev_gtI (i j : Int) : opGt (.int i) (.int j) = some (.fl (.bl (decide (j < i)))) := rfl
@[simp] theorem ev_geI (i j : Int) : opGe (.int i) (.int j) = some (.fl (.bl (decide (j ≤ i)))) := rfl
@[simp] theorem ev_negI (i : Int) : opNeg (.int i) = some (.fl (.int (-i))) := rfl
@[simp] theorem ev_invI (i : Int) : opInv (.int i) = some (.fl (.int (Builtin.bitNot i))) := rfl
@[simp] theorem ev_ixL (ds : List D) (i : Int) : opIx (.lst ds) (.int i) = (atI ds i).map .fl := rfl
@[simp] theorem ev_ixR (ds : List D) (i : Int) : opIx (.rol ds) (.int i) = (atI ds i).map .fl := rfl
@[simp] theorem ev_ixT (ds : List D) (i : Int) : opIx (.tup ds) (.int i) = (atI ds i).map .fl := rfl
@[simp] theorem ev_atI {α : Type} (xs : List α) (i : Int) : atI xs i = (ixN xs.length i).bind fun j => xs[j]? := rfl
@[simp] theorem ev_ixN (n : Nat) (i : Int) : ixN n i = if 0 ≤ i then (if i < n then some i.toNat else none) else if -(n : Int) ≤ i then some (i + n).toNat else none := rfl
@[simp] theorem ev_lenL (xs : List D) : opLen [.lst xs] = some (.fl (.int xs.length)) := rfl
@[simp] theorem ev_lenR (xs : List D) : opLen [.rol xs] = some (.fl (.int xs.length)) := rfl
@[simp] theorem ev_lenT (xs : List D) : opLen [.tup xs] = some (.fl (.int xs.length)) := rfl
@[simp] theorem ev_powOk (i j : Int) : powOk i j = (decide (0 ≤ j) && decide (j ≤ 1000000) && decide (i.natAbs < 2 ^ 64)) := rfl
@[simp] theorem ev_rootL1 (e : DEnv) (j : Nat) : rootLst e j = (match e[j]? with
  | some (some (.ow (.lst ds))) => some ds
  | some (some (.br (.lst ds))) => some ds
  | _ => none) := rfl
@[simp] theorem ev_putL (e : DEnv) (j : Nat) (ds : List D) : putLst e j ds = (match e[j]? with
  | some (some b) => e.set j (some (b.re (.lst ds)))
  | _ => e) := rfl
@[simp] theorem ev_rootI (k : Nat) (e : DEnv) (j : Nat) : rootIns k e j = (match e[j]? with
  | some (some (.ow (.ins k' ds))) => if k' = k then some ds else none
  | some (some (.br (.ins k' ds))) => if k' = k then some ds else none
  | _ => none) := rfl
@[simp] theorem ev_putI (k : Nat) (e : DEnv) (j : Nat) (ds : List D) : putIns k e j ds = (match e[j]? with
  | some (some b) => e.set j (some (b.re (.ins k ds)))
  | _ => e) := rfl
@[simp] theorem ev_fOwnE (i : Nat) (P : D → Bool) (m : Fn) (fa fb : FE) (e : DEnv) : fOwnE i P m fa fb e = fOwn2 (isIns i) P false m fa fb e := rfl
@[simp] theorem ev_seal1 (i : Nat) : T.seal (.sl i) = .sl i := rfl
@[simp] theorem ev_seal2 (d : D) : T.seal (.vl d) = .vl d := rfl
@[simp] theorem ev_seal3 (d : D) : T.seal (.nw d) = .vl d := rfl
@[simp] theorem ev_look1 (i : Nat) (e : DEnv) : lookT (.sl i) e = (match e[i]? with | some (some (.ex _)) => none | some (some b) => some b.d | _ => none) := rfl
@[simp] theorem ev_look2 (d : D) (e : DEnv) : lookT (.vl d) e = some d := rfl
@[simp] theorem ev_look3 (d : D) (e : DEnv) : lookT (.nw d) e = some d := rfl
@[simp] theorem ev_bd1 (d : D) : B.d (.sh d) = d := rfl
@[simp] theorem ev_bd2 (d : D) : B.d (.ow d) = d := rfl
@[simp] theorem ev_bd3 (d : D) : B.d (.br d) = d := rfl
@[simp] theorem ev_re1 (d x : D) : B.re (.sh d) x = .sh x := rfl
@[simp] theorem ev_re2 (d x : D) : B.re (.ow d) x = .ow x := rfl
@[simp] theorem ev_re3 (d x : D) : B.re (.br d) x = .br x := rfl
@[simp] theorem ev_esc1 (i : Nat) (e : DEnv) : escape (.sl i) e = (match e[i]? with | some (some (.sh d)) => some (d, e) | some (some (.ow d)) => some (d, e.set i (some (.sh d))) | _ => none) := rfl
@[simp] theorem ev_esc2 (d : D) (e : DEnv) : escape (.vl d) e = some (d, e) := rfl
@[simp] theorem ev_esc3 (d : D) (e : DEnv) : escape (.nw d) e = some (d, e) := rfl
@[simp] theorem ev_escs0 (e : DEnv) : escs [] e = some ([], e) := rfl
@[simp] theorem ev_escs1 (t : T) (ts : List T) (e : DEnv) : escs (t :: ts) e = (escape t e).bind fun r => (escs ts r.2).bind fun q => some (r.1 :: q.1, q.2) := rfl
@[simp] theorem ev_lookTs0 (e : DEnv) : lookTs [] e = some [] := rfl
@[simp] theorem ev_lookTs1 (t : T) (ts : List T) (e : DEnv) : lookTs (t :: ts) e = (lookT t e).bind fun d => (lookTs ts e).bind fun ds => some (d :: ds) := rfl
@[simp] theorem ev_tok1 (d : D) : RV.tok (.fl d) = .vl d := rfl
@[simp] theorem ev_tok2 (d : List D) : RV.tok (.nl d) = .nw (.lst d) := rfl
@[simp] theorem ev_tok3 (d : List D) : RV.tok (.nt d) = .vl (.tup d) := rfl
@[simp] theorem ev_store (i : Nat) (t : T) (e : DEnv) : storeT i t e = (if i < e.length then (match t with
  | .vl d => some (e.set i (some (.sh d)))
  | .nw d => some (e.set i (some (.ow d)))
  | .sl j => match e[j]? with
    | some (some (.sh d)) => some (e.set i (some (.sh d)))
    | some (some (.ow d)) => some ((e.set j (some (.sh d))).set i (some (.sh d)))
    | _ => none) else none) := rfl
theorem ev_rangeN (n : Nat) : irange 0 n = (List.range n).map fun (i : Nat) => D.int (i : Int) := by unfold irange; simp
@[simp] theorem ev_loopF0 (fg : D → DEnv → Option DEnv) (fb : FS) (e : DEnv) : loopF fg fb [] e = .ok (.nx e) := rfl
theorem ev_loopF1 (fg : D → DEnv → Option DEnv) (fb : FS) (d : D) (ds : List D) (e : DEnv) : loopF fg fb (d :: ds) e = (Res.of (fg d e)).bind fun e1 => (fb e1).bind fun o => match o with
    | .nx e2 => loopF fg fb ds e2
    | .ct e2 => loopF fg fb ds e2
    | .bk e2 => .ok (.nx e2)
    | .rt t e2 => .ok (.rt t e2) := rfl
@[simp] theorem ev_fgName (i : Nat) (d : D) (e : DEnv) : fgName i d e = if i < e.length then some (e.set i (some (.sh d))) else none := rfl
@[simp] theorem ev_fgNil (e : DEnv) : fgNil [] e = some e := rfl
@[simp] theorem ev_fgTup (n : Nat) (fg : List D → DEnv → Option DEnv) (ds : List D) (e : DEnv) : fgTup n fg (.tup ds) e = if ds.length = n then fg ds e else none := rfl
@[simp] theorem ev_lend0 : lendE [] = [] := rfl
@[simp] theorem ev_lend1 (b : Option B) (e : DEnv) : lendE (b :: e) = lendB b :: lendE e := rfl
@[simp] theorem ev_lendB1 (d : D) : lendB (some (.ow d)) = some (.br d) := rfl
@[simp] theorem ev_lendB2 (d : D) : lendB (some (.sh d)) = some (.sh d) := rfl
@[simp] theorem ev_lendB3 (d : D) : lendB (some (.br d)) = some (.br d) := rfl
@[simp] theorem ev_lendB4 : lendB none = none := rfl
@[simp] theorem ev_back0 (e : DEnv) : backE [] e = [] := rfl
@[simp] theorem ev_back1 (b x : Option B) (e e2 : DEnv) : backE (b :: e) (x :: e2) = backB b x :: backE e e2 := rfl
@[simp] theorem ev_backB1 (d : D) (x : Option B) : backB (some (.sh d)) x = some (.sh d) := rfl
@[simp] theorem ev_backB2 (d d' : D) : backB (some (.ow d)) (some (.br d')) = some (.ow d') := rfl
@[simp] theorem ev_backB3 (d d' : D) : backB (some (.br d)) (some (.br d')) = some (.br d') := rfl
@[simp] theorem ev_backB4 (x : Option B) : backB none x = none := rfl
@[simp] theorem ev_wipe0 (e : DEnv) : wipeE e [] = e := rfl
@[simp] theorem ev_wipe1 (e : DEnv) (v : Nat) (vs : List Nat) : wipeE e (v :: vs) = (wipeE e vs).set v none := rfl
@[simp] theorem ev_loopC0 (fg : D → DEnv → Option DEnv) (ft : FT) (fe : FE) (vs : List Nat) (acc : List D) (e : DEnv) : loopC fg ft fe vs [] acc e = some (acc, e) := rfl
theorem ev_loopC1 (fg : D → DEnv → Option DEnv) (ft : FT) (fe : FE) (vs : List Nat) (d : D) (ds acc : List D) (e : DEnv) : loopC fg ft fe vs (d :: ds) acc e = (if noOw e then (fg d e).bind fun e1 => match ft e1 with
    | .ok (true, e2) => match fe e2 with
      | .ok (t, e3) => (escape t e3).bind fun q => if noOw q.2 && decide (acc.length < lim) then loopC fg ft fe vs ds (acc ++ [q.1]) (wipeE q.2 vs) else none
      | _ => none
    | .ok (false, e2) => if noOw e2 then loopC fg ft fe vs ds acc (wipeE e2 vs) else none
    | _ => none
    else none) := rfl
@[simp] theorem ev_env0 (N : Nat) (bs : List B) : env0 N bs = bs.map some ++ List.replicate (N - bs.length) none := rfl
@[simp] theorem ev_outB0 (e : DEnv) : outB [] e = some [] := rfl
@[simp] theorem ev_outB1 (d : D) (bs : List B) (x : Option B) (e : DEnv) : outB (.sh d :: bs) (x :: e) = (outB bs e).map fun q => .sh d :: q := rfl
@[simp] theorem ev_outB2 (d d' : D) (bs : List B) (e : DEnv) : outB (.br d :: bs) (some (.br d') :: e) = (outB bs e).map fun q => .br d' :: q := rfl
@[simp] theorem ev_fnRet1 (bs : List B) (d : D) (e : DEnv) : fnRet bs (.vl d) e = (outB bs e).bind fun q => some (d, false, q) := rfl
@[simp] theorem ev_fnRet2 (bs : List B) (d : D) (e : DEnv) : fnRet bs (.nw d) e = (outB bs e).bind fun q => some (d, true, q) := rfl
@[simp] theorem ev_fnRet3 (bs : List B) (i : Nat) (e : DEnv) : fnRet bs (.sl i) e = (outB bs e).bind fun q => match e[i]? with
    | some (some (.sh d)) => some (d, false, q)
    | some (some (.ow d)) => some (d, true, q)
    | _ => none := rfl
@[simp] theorem ev_escN0 (ms : List Bool) (e : DEnv) : escN ms [] e = some ([], e) := by cases ms <;> rfl
@[simp] theorem ev_escNf (ms : List Bool) (t : T) (ts : List T) (e : DEnv) : escN (false :: ms) (t :: ts) e = (escape t e).bind fun r => (escN ms ts r.2).map fun q => (.vl r.1 :: q.1, q.2) := rfl
@[simp] theorem ev_escNt (ms : List Bool) (t : T) (ts : List T) (e : DEnv) : escN (true :: ms) (t :: ts) e = (escN ms ts e).map fun q => (t :: q.1, q.2) := rfl
@[simp] theorem ev_escNn (t : T) (ts : List T) (e : DEnv) : escN [] (t :: ts) e = (escape t e).bind fun r => (escN [] ts r.2).map fun q => (.vl r.1 :: q.1, q.2) := rfl
@[simp] theorem ev_argBs0 (e : DEnv) : argBs [] e = some [] := rfl
@[simp] theorem ev_argBs1 (t : T) (ts : List T) (e : DEnv) : argBs (t :: ts) e = (argB t e).bind fun b => (argBs ts e).map fun bs => b :: bs := rfl
@[simp] theorem ev_argB1 (d : D) (e : DEnv) : argB (.vl d) e = some (.sh d) := rfl
@[simp] theorem ev_argB2 (i : Nat) (e : DEnv) : argB (.sl i) e = (match e[i]? with
    | some (some (.sh d)) => some (.sh d)
    | some (some (.ow d)) => some (.br d)
    | some (some (.br d)) => some (.br d)
    | _ => none) := rfl
@[simp] theorem ev_nodup0 : nodupT [] = true := rfl
@[simp] theorem ev_nodup1 (d : D) (ts : List T) : nodupT (.vl d :: ts) = nodupT ts := by show (true && nodupT ts) = nodupT ts; simp
@[simp] theorem ev_nodup2 (i : Nat) (ts : List T) : nodupT (.sl i :: ts) = (!ts.any (isSl i) && nodupT ts) := rfl
@[simp] theorem ev_isSl1 (i j : Nat) : isSl i (.sl j) = (i == j) := rfl
@[simp] theorem ev_isSl2 (i : Nat) (d : D) : isSl i (.vl d) = false := rfl
@[simp] theorem ev_upds0 (bs : List B) : upds [] bs = [] := by cases bs <;> rfl
@[simp] theorem ev_upds1 (j : Nat) (d : D) (ts : List T) (bs : List B) : upds (.sl j :: ts) (.br d :: bs) = (j, d) :: upds ts bs := rfl
@[simp] theorem ev_upds2 (d : D) (b : B) (ts : List T) (bs : List B) : upds (.vl d :: ts) (b :: bs) = upds ts bs := rfl
@[simp] theorem ev_upds3 (j : Nat) (d : D) (ts : List T) (bs : List B) : upds (.sl j :: ts) (.sh d :: bs) = upds ts bs := rfl
@[simp] theorem ev_isBr1 (d : D) : isBr (.br d) = true := rfl
@[simp] theorem ev_isBr2 (d : D) : isBr (.sh d) = false := rfl
@[simp] theorem ev_isBr3 (d : D) : isBr (.ow d) = false := rfl
@[simp] theorem ev_sameB (bs qs : List B) : sameB bs qs = (bs.map isBr == qs.map isBr) := rfl
@[simp] theorem ev_putAll0 (l : List (Nat × D)) (k : Nat) : putAll l k [] = [] := rfl
@[simp] theorem ev_putAll1 (l : List (Nat × D)) (k : Nat) (x : Option B) (r : DEnv) : putAll l k (x :: r) = (match l.lookup k with
    | some d => x.map fun b => b.re d
    | none => x) :: putAll l (k + 1) r := rfl
@[simp ↓] theorem ev_callM (dds : List D) (m : Fn) (ts : List T) (e : DEnv) : callM dds m ts e = ((Res.of (argBs ts e)).bind fun bs => if nodupT ts then (match m (bs ++ dds.map .sh) with
    | .stuck => .stuck
    | .ok r => if sameB (bs ++ dds.map .sh) r.2.2 then .ok (if r.2.1 then .nw r.1 else .vl r.1, putAll (upds ts r.2.2) 0 e) else .stuck
    | .exc x _ => .exc x (dropAll (upds ts bs) 0 e)) else .stuck) := by unfold callM; rfl
@[simp] theorem ev_dropG1 (d : D) (e : DEnv) : dropG (.ok (.vl d, e)) = .ok (.vl d, e.dropLast) := rfl
@[simp] theorem ev_dropG2 (d : D) (e : DEnv) : dropG (.ok (.nw d, e)) = .ok (.nw d, e.dropLast) := rfl
@[simp] theorem ev_noExc (r : T × DEnv) : noExc (.ok r) = .ok r := rfl
@[simp] theorem ev_isIns (k k' : Nat) (ds : List D) : isIns k (.ins k' ds) = (k' == k) := rfl
@[simp] theorem ev_isInt (i : Int) : isInt (.int i) = true := rfl

/-! equality of data -/
mutual
def dGo : Nat → D → Bool
  | _, .non => true
  | _, .bl _ => true
  | _, .int _ => true
  | _, .str s => (PyData.str s).canLay0
  | 0, _ => false
  | n + 1, .lst ds => dGoL n ds
  | n + 1, .rol ds => dGoL n ds
  | n + 1, .tup ds => dGoL n ds
  | _, .ins _ _ => false
  | _, .dct _ _ _ => false
  | _, .exv _ _ => false
def dGoL : Nat → List D → Bool
  | _, [] => true
  | n, d :: ds => dGo n d && dGoL n ds
end
mutual
theorem dGo_ok : ∀ (n : Nat) (d : D), dGo n d = true → (toPy d).canLay0 = true ∧ (toPy d).depth ≤ n
  | _, .non, _ => ⟨rfl, Nat.zero_le _⟩
  | _, .bl _, _ => ⟨rfl, Nat.zero_le _⟩
  | _, .int _, _ => ⟨rfl, Nat.zero_le _⟩
  | n, .str s, h => by cases n <;> exact ⟨h, Nat.zero_le _⟩
  | 0, .lst ds, h => by cases h
  | 0, .rol ds, h => by cases h
  | 0, .tup ds, h => by cases h
  | n + 1, .lst ds, h => by obtain ⟨a, b⟩ := dGoL_ok n ds h; exact ⟨a, Nat.succ_le_succ b⟩
  | n + 1, .rol ds, h => by obtain ⟨a, b⟩ := dGoL_ok n ds h; exact ⟨a, Nat.succ_le_succ b⟩
  | n + 1, .tup ds, h => by obtain ⟨a, b⟩ := dGoL_ok n ds h; exact ⟨a, Nat.succ_le_succ b⟩
  | 0, .ins _ _, h => by cases h
  | n + 1, .ins _ _, h => by cases h
  | 0, .dct _ _ _, h => by cases h
  | n + 1, .dct _ _ _, h => by cases h
  | 0, .exv _ _, h => by cases h
  | n + 1, .exv _ _, h => by cases h
theorem dGoL_ok : ∀ (n : Nat) (ds : List D), dGoL n ds = true → PyData.canLayAll0 (toPyL ds) = true ∧ PyData.depthAll (toPyL ds) ≤ n
  | _, [], _ => ⟨rfl, Nat.zero_le _⟩
  | n, d :: ds, h => by
    have h' : (dGo n d && dGoL n ds) = true := by cases n <;> exact h
    obtain ⟨h1, h2⟩ := Bool.and_eq_true_iff.mp h'
    obtain ⟨a, b⟩ := dGo_ok n d h1
    obtain ⟨a', b'⟩ := dGoL_ok n ds h2
    exact ⟨Bool.and_eq_true_iff.mpr ⟨a, a'⟩, Nat.max_le.mpr ⟨b, b'⟩⟩
end
theorem dOk_go {d : D} (h : dGo 64 d = true) : dOk d = true := by
  obtain ⟨a, b⟩ := dGo_ok 64 d h
  exact Bool.and_eq_true_iff.mpr ⟨a, decide_eq_true b⟩
@[simp] theorem ok_non : dOk .non = true := rfl
@[simp] theorem ok_bl (b : Bool) : dOk (.bl b) = true := rfl
@[simp] theorem ok_i (i : Int) : dOk (.int i) = true := rfl
theorem dGo_ints : ∀ (n : Nat) (ns : List Int), dGoL n (ns.map .int) = true
  | n, [] => by cases n <;> rfl
  | n, i :: ns => by
    show (dGo n (.int i) && dGoL n (ns.map .int)) = true
    rw [dGo_ints n ns]
    cases n <;> rfl
@[simp] theorem ok_ints (ns : List Int) : dOk (.lst (ns.map .int)) = true := dOk_go (dGo_ints 63 ns)
@[simp] theorem ok_intsR (ns : List Int) : dOk (.rol (ns.map .int)) = true := dOk_go (dGo_ints 63 ns)
@[simp] theorem ok_intsT (ns : List Int) : dOk (.tup (ns.map .int)) = true := dOk_go (dGo_ints 63 ns)
def deqL : List D → List D → Bool
  | [], [] => true
  | x :: xs, y :: ys => deq x y && deqL xs ys
  | _, _ => false
theorem deqL_eq : ∀ xs ys : List D, PyData.eqvAll (toPyL xs) (toPyL ys) = deqL xs ys
  | [], [] => by simp [toPyL, PyData.eqvAll, deqL]
  | [], _ :: _ => by simp [toPyL, PyData.eqvAll, deqL]
  | _ :: _, [] => by simp [toPyL, PyData.eqvAll, deqL]
  | x :: xs, y :: ys => by simp [toPyL, PyData.eqvAll, deqL, deqL_eq xs ys, deq]
@[simp] theorem deq_II (i j : Int) : deq (.int i) (.int j) = decide (i = j) := by simp [deq, toPy, PyData.eqv, BEq.beq]
@[simp] theorem deq_BB (i j : Bool) : deq (.bl i) (.bl j) = (i == j) := by simp [deq, toPy, PyData.eqv]
@[simp] theorem deq_SS (i j : Str) : deq (.str i) (.str j) = (i == j) := by simp [deq, toPy, PyData.eqv]
@[simp] theorem deq_NN : deq .non .non = true := by simp [deq, toPy, PyData.eqv]
@[simp] theorem deq_LL (i j : List D) : deq (.lst i) (.lst j) = deqL i j := by simp [deq, toPy, PyData.eqv, deqL_eq]
@[simp] theorem deq_LR (i j : List D) : deq (.lst i) (.rol j) = deqL i j := by simp [deq, toPy, PyData.eqv, deqL_eq]
@[simp] theorem deq_RL (i j : List D) : deq (.rol i) (.lst j) = deqL i j := by simp [deq, toPy, PyData.eqv, deqL_eq]
@[simp] theorem deq_TT (i j : List D) : deq (.tup i) (.tup j) = deqL i j := by simp [deq, toPy, PyData.eqv, deqL_eq]
@[simp] theorem deqL_nil : deqL [] [] = true := rfl
@[simp] theorem deqL_cons (x y : D) (xs ys : List D) : deqL (x :: xs) (y :: ys) = (deq x y && deqL xs ys) := rfl
@[simp] theorem deqL_nc (y : D) (ys : List D) : deqL [] (y :: ys) = false := rfl
@[simp] theorem deqL_cn (y : D) (ys : List D) : deqL (y :: ys) [] = false := rfl
@[simp] theorem ev_opEq (a b : D) : opEq a b = if dOk a && dOk b then some (.fl (.bl (deq a b))) else none := rfl
@[simp] theorem ev_opNe (a b : D) : opNe a b = if dOk a && dOk b then some (.fl (.bl (!deq a b))) else none := rfl
/-! kinds -/
@[simp] theorem ev_isi1 (tbl : Nat → Option Bool) (bt : String → Option Bool) (i : Int) : isiP tbl bt (.int i) = bt "int" := rfl
@[simp] theorem ev_isi2 (tbl : Nat → Option Bool) (bt : String → Option Bool) (i : Str) : isiP tbl bt (.str i) = bt "str" := rfl
@[simp] theorem ev_isi3 (tbl : Nat → Option Bool) (bt : String → Option Bool) (i : Bool) : isiP tbl bt (.bl i) = bt "bool" := rfl
@[simp] theorem ev_isi4 (tbl : Nat → Option Bool) (bt : String → Option Bool) : isiP tbl bt .non = bt "NoneType" := rfl
@[simp] theorem ev_isi5 (tbl : Nat → Option Bool) (bt : String → Option Bool) (i : List D) : isiP tbl bt (.lst i) = bt "list" := rfl
@[simp] theorem ev_isi6 (tbl : Nat → Option Bool) (bt : String → Option Bool) (i : List D) : isiP tbl bt (.tup i) = bt "tuple" := rfl
@[simp] theorem ev_isi7 (tbl : Nat → Option Bool) (bt : String → Option Bool) (k : Nat) (i : List D) : isiP tbl bt (.ins k i) = tbl k := rfl
@[simp] theorem ev_eqr1 (tbl : Nat → Bool) (bt : String → Bool) (i : Int) : eqR tbl bt (.int i) = bt "int" := rfl
@[simp] theorem ev_eqr2 (tbl : Nat → Bool) (bt : String → Bool) (i : Str) : eqR tbl bt (.str i) = bt "str" := rfl
@[simp] theorem ev_eqr4 (tbl : Nat → Bool) (bt : String → Bool) : eqR tbl bt .non = bt "NoneType" := rfl
@[simp] theorem ev_eqr5 (tbl : Nat → Bool) (bt : String → Bool) (i : List D) : eqR tbl bt (.lst i) = bt "list" := rfl
@[simp] theorem ev_eqr6 (tbl : Nat → Bool) (bt : String → Bool) (i : List D) : eqR tbl bt (.tup i) = bt "tuple" := rfl
@[simp] theorem ev_eqr7 (tbl : Nat → Bool) (bt : String → Bool) (k : Nat) (i : List D) : eqR tbl bt (.ins k i) = tbl k := rfl
@[simp] theorem ev_lkT (l : List (String × Bool)) (T : String) : lkT l T = l.lookup T := rfl
@[simp] theorem ev_lkI (l : List (Nat × Bool)) (k : Nat) : lkI l k = l.lookup k := rfl
@[simp] theorem ev_inT (l : List String) (T : String) : inT l T = l.contains T := rfl
@[simp] theorem ev_inI (l : List Nat) (k : Nat) : inI l k = l.contains k := rfl
@[simp] theorem ev_fldOf (ns : List Str) (f : Str) (ds : List D) : fldOf ns f ds = (ns.zip ds).lookup f := rfl
@[simp] theorem ev_izip (xs ys : List D) : izip xs ys = (xs.zip ys).map fun p => .tup [p.1, p.2] := rfl
@[simp] theorem ev_irange0 (lo : Int) : irange lo 0 = [] := rfl
@[simp] theorem ev_ok62 (i : Int) : ok62 i = (decide (-(2 ^ 62) ≤ i) && decide (i < 2 ^ 62)) := rfl
@[simp] theorem ev_noOw (e : DEnv) : noOw e = e.all fun b => match b with
  | some (.ow _) => false
  | _ => true := rfl
@[simp] theorem ev_clearAt (e : DEnv) (vs : List Nat) : clearAt e vs = vs.all fun i => match e[i]? with
  | some (some (.ow _)) => false
  | some (some (.br _)) => false
  | _ => true := rfl
@[simp] theorem ev_fgCons (f : D → DEnv → Option DEnv) (g : List D → DEnv → Option DEnv) (d : D) (ds : List D) (e : DEnv) : fgCons f g (d :: ds) e = (f d e).bind fun e1 => g ds e1 := rfl
@[simp] theorem ev_cutD (xs : List D) (lo hi : Option Int) : cutD xs lo hi = (xs.drop (HT.sIx xs.length 0 lo)).take (HT.sIx xs.length xs.length hi - HT.sIx xs.length 0 lo) := rfl
@[simp] theorem ev_opSlL (ds : List D) (lo hi : Option Int) : opSl (.lst ds) lo hi = some (.nl (cutD ds lo hi)) := rfl
@[simp] theorem ev_opSlR (ds : List D) (lo hi : Option Int) : opSl (.rol ds) lo hi = some (.nl (cutD ds lo hi)) := rfl
@[simp] theorem ev_opSlT (ds : List D) (lo hi : Option Int) : opSl (.tup ds) lo hi = if HT.sIx ds.length 0 lo = 0 ∧ HT.sIx ds.length ds.length hi = ds.length then some (.fl (.tup ds)) else some (.nt (cutD ds lo hi)) := rfl
@[simp] theorem ev_sIx0 (n d : Nat) : HT.sIx n d none = d := rfl
@[simp] theorem ev_sIx1 (n d : Nat) (v : Int) : HT.sIx n d (some v) = if v < 0 then (v + (n : Int)).toNat else min v.toNat n := rfl
end DL

/-! DL, part t: bounds of products; the tape that all laws draw from. -/
namespace DL
open PySem L2 Evl
theorem log2_of_lt {n k : Nat} (h : n < 2 ^ k) (hk : 0 < k) : n.log2 < k := by
  by_cases h0 : n = 0
  · subst h0; simpa using hk
  · exact (Nat.log2_lt h0).mpr h
theorem mulOk_of {i j : Int} (h1 : -(10 ^ 200) ≤ i ∧ i ≤ 10 ^ 200) (h2 : -(10 ^ 200) ≤ j ∧ j ≤ 10 ^ 200) : mulOk i j = true := by
  have a : i.natAbs < 2 ^ 665 := by
    have : (2 : Nat) ^ 665 > 10 ^ 200 := by decide +kernel
    omega
  have b : j.natAbs < 2 ^ 665 := by
    have : (2 : Nat) ^ 665 > 10 ^ 200 := by decide +kernel
    omega
  have a' := log2_of_lt a (by decide)
  have b' := log2_of_lt b (by decide)
  unfold mulOk
  exact decide_eq_true (by omega)
theorem divOk_of {i j : Int} (h : 0 < j) (h2 : j ≤ 10 ^ 200) : divOk i j = true := by
  have b : j.natAbs < 2 ^ 665 := by
    have : (2 : Nat) ^ 665 > 10 ^ 200 := by decide +kernel
    omega
  have b' := log2_of_lt b (by decide)
  unfold divOk
  rw [decide_eq_true (show j ≠ 0 by omega), decide_eq_true (show j.natAbs.log2 < 9000 by omega)]
  rfl
theorem modOk_of {i j : Int} (h : 0 < j) : modOk i j = true := decide_eq_true (show j ≠ 0 by omega)
theorem mul_bound {a b A B : Int} (h1 : -A ≤ a ∧ a ≤ A) (h2 : -B ≤ b ∧ b ≤ B) : -(A * B) ≤ a * b ∧ a * b ≤ A * B := by
  have hA : 0 ≤ A := by omega
  have hB : 0 ≤ B := by omega
  have k1 : (a * b).natAbs ≤ (A * B).natAbs := by
    rw [Int.natAbs_mul, Int.natAbs_mul]
    exact Nat.mul_le_mul (by omega) (by omega)
  have k2 : 0 ≤ A * B := Int.mul_nonneg hA hB
  omega
theorem fn_rt {N : Nat} {body : FS} {bs : List B} {t : T} {e : DEnv} {r : FnR} (h : body (env0 N bs) = .ok (.rt t e)) (k : fnRet bs t e = some r) : fFn N body bs = .ok r := by
  unfold fFn
  rw [h]
  exact congrArg Res.of k
theorem fn_nx {N : Nat} {body : FS} {bs : List B} {e : DEnv} {r : FnR} (h : body (env0 N bs) = .ok (.nx e)) (k : fnRet bs (.vl .non) e = some r) : fFn N body bs = .ok r := by
  unfold fFn
  rw [h]
  exact congrArg Res.of k
theorem seq_nx {f g : FS} {e e' : DEnv} {r : Res Out} (h : f e = .ok (.nx e')) (k : g e' = r) : fSeq f g e = r := by
  unfold fSeq
  rw [h]
  exact k
/-- a comprehension of one item each -/
theorem loopC_map {fg : D → DEnv → Option DEnv} {fe : FE} {vs : List Nat} {e : DEnv} (f : D → D) (no : noOw e = true) : ∀ (ds acc : List D),
    (∀ d ∈ ds, ∃ e1 t e3 e4, fg d e = some e1 ∧ fe e1 = .ok (t, e3) ∧ escape t e3 = some (f d, e4) ∧ noOw e4 = true ∧ wipeE e4 vs = e) → acc.length + ds.length ≤ lim → loopC fg fYes fe vs ds acc e = some (acc ++ ds.map f, e)
  | [], acc, _, _ => by simp
  | d :: ds, acc, h, hl => by
    obtain ⟨e1, t, e3, e4, h1, h2, h3, h4, h5⟩ := h d List.mem_cons_self
    have hl' : acc.length < lim := by simp at hl ⊢; omega
    have ih := loopC_map (fg := fg) (fe := fe) (vs := vs) f no ds (acc ++ [f d]) (fun d hd => h d (List.mem_cons_of_mem _ hd)) (by simp at hl ⊢; omega)
    rw [ev_loopC1, if_pos no, h1]
    show (match fYes e1 with
      | .ok (true, e2) => match fe e2 with
        | .ok (t, e3) => (escape t e3).bind fun q => if noOw q.2 && decide (acc.length < lim) then loopC fg fYes fe vs ds (acc ++ [q.1]) (wipeE q.2 vs) else none
        | _ => none
      | .ok (false, e2) => if noOw e2 then loopC fg fYes fe vs ds acc (wipeE e2 vs) else none
      | _ => none) = _
    unfold fYes
    dsimp only
    rw [h2]
    dsimp only
    rw [h3]
    show (if noOw e4 && decide (acc.length < lim) then loopC fg fYes fe vs ds (acc ++ [f d]) (wipeE e4 vs) else none) = _
    rw [h4, decide_eq_true hl', h5, Bool.and_self, if_pos rfl, ih, List.map_cons, List.append_assoc, List.singleton_append]
/-- a for loop by an invariant over its items -/
theorem loopF_inv {fg : D → DEnv → Option DEnv} {fb : FS} (P : Nat → DEnv → Prop) : ∀ (ds : List D) (k : Nat) (e : DEnv), P k e →
    (∀ (i : Nat) (d : D) (e : DEnv), ds[i]? = some d → P (k + i) e → ∃ e1 e2, fg d e = some e1 ∧ (fb e1 = .ok (.nx e2) ∨ fb e1 = .ok (.ct e2)) ∧ P (k + i + 1) e2) → ∃ e', loopF fg fb ds e = .ok (.nx e') ∧ P (k + ds.length) e'
  | [], k, e, h, _ => ⟨e, rfl, h⟩
  | d :: ds, k, e, h, st => by
    obtain ⟨e1, e2, h1, h2, h3⟩ := st 0 d e rfl h
    obtain ⟨e', h4, h5⟩ := loopF_inv P ds (k + 1) e2 h3 fun i d' e hd hp => by
      have := st (i + 1) d' e (by simpa using hd) (by rw [show k + (i + 1) = k + 1 + i by omega]; exact hp)
      rw [show k + (i + 1) + 1 = k + 1 + i + 1 by omega] at this
      exact this
    refine ⟨e', ?_, by rw [List.length_cons, show k + (ds.length + 1) = k + 1 + ds.length by omega]; exact h5⟩
    rw [ev_loopF1, h1]
    show ((fb e1).bind fun o => match o with
      | .nx e2 => loopF fg fb ds e2
      | .ct e2 => loopF fg fb ds e2
      | .bk e2 => .ok (.nx e2)
      | .rt t e2 => .ok (.rt t e2)) = _
    rcases h2 with h2 | h2 <;> (rw [h2]; exact h4)
/-! ### texts -/
theorem toNat_inj {a b : Char} (h : a.toNat = b.toNat) : a = b := by
  apply Char.ext
  exact UInt32.toNat_inj.mp h
theorem ofS_inj {a b : String} (h : Str.ofString a = Str.ofString b) : a = b := by
  rw [Str.ofString_eq_toList, Str.ofString_eq_toList] at h
  have h1 := congrArg Str.cps h
  have h2 : a.toList.map Char.toNat = b.toList.map Char.toNat := by simpa using h1
  have h3 : a.toList = b.toList := List.map_inj_right (fun x y e => toNat_inj e) |>.mp h2
  exact String.toList_inj.mp h3
@[simp] theorem str_beq (a b : String) : (Str.ofString a == Str.ofString b) = (a == b) := by
  by_cases h : a = b
  · subst h; simp
  · have : Str.ofString a ≠ Str.ofString b := fun z => h (ofS_inj z)
    rw [beq_eq_false_iff_ne.mpr h, beq_eq_false_iff_ne.mpr this]
@[simp] theorem ok_strL (a : String) : dOk (.str (Str.ofString a)) = true := by
  refine dOk_go ?_
  show (PyData.str (Str.ofString a)).canLay0 = true
  rw [Str.ofString_eq_toList]
  simp only [PyData.canLay0]
  unfold PyData.strOk
  simp
  intro c _
  have := c.valid
  unfold UInt32.isValidChar Nat.isValidChar at this
  show c.val.toNat < 1114112
  omega
/-! ### the tape -/
/-- a tape: the cell's rest, the seed -/
abbrev TP (c s : Int) : D := .lst [.int c, .int s]
structure TpOk (c s : Int) : Prop where
  c0 : 0 ≤ c
  s0 : 0 ≤ s
  s1 : s < 10 ^ 12
/-- what _law_pick hands back, and the tape behind it -/
structure PickR (n r c' s' : Int) : Prop where
  lo : 0 ≤ r
  hi : r < n
  tp : TpOk c' s'
/-- a def that picks from a tape -/
def Picks (m : Fn) : Prop := ∀ c s n : Int, TpOk c s → 0 < n → n ≤ 10 ^ 100 → ∃ r c' s', m [.br (TP c s), .sh (.int n)] = .ok (.int r, false, [.br (TP c' s'), .sh (.int n)]) ∧ PickR n r c' s'
end DL

/-! DL, part sb: further rows that run functions on data; printed by evs2.py. -/
namespace DL
open PySem L2 Evl
@[simp ↓] theorem ev_fChain (op op' : D → D → Option RV) (fa fb fc : FE) (e : DEnv) : fChain op op' fa fb fc e = ((fa e).bind fun r => (fb r.2).bind fun q => match (lookT r.1.seal q.2).bind fun d1 => (lookT q.1.seal q.2).bind fun d2 => op d1 d2 with
  | some (.fl (.bl true)) => (fc q.2).bind fun u => Res.of ((lookT q.1.seal u.2).bind fun d2 => (lookT u.1 u.2).bind fun d3 => (op' d2 d3).bind fun rv => some (rv.tok, u.2))
  | some (.fl (.bl false)) => .ok (.vl (.bl false), q.2)
  | _ => .stuck) := rfl
@[simp ↓] theorem ev_fTru (f : FE) (e : DEnv) : fTru f e = ((f e).bind fun r => match (lookT r.1 r.2).bind truD with
  | some b => .ok (b, r.2)
  | none => .stuck) := rfl
@[simp ↓] theorem ev_fM1 (op : Str → D → Option RV) (fo fe : FE) (e : DEnv) : fM1 op fo fe e = ((fo e).bind fun r => match lookT r.1.seal r.2 with
  | some (.str a) => (fe r.2).bind fun q => Res.of ((lookT q.1 q.2).bind fun d => (op a d).bind fun rv => some (rv.tok, q.2))
  | _ => .stuck) := rfl
@[simp ↓] theorem ev_fiS (f : FE) (e : DEnv) : fiS f e = ((f e).bind fun r => Res.of ((lookT r.1 r.2).bind fun d => match d with
  | .str s => some (signs s, r.2)
  | _ => none)) := rfl
@[simp ↓] theorem ev_fiE (fr : FA) (e : DEnv) : fiE fr e = ((fr e).bind fun r => Res.of ((escs r.1 r.2).bind fun q => match q.1 with
  | [.lst xs] => some (ienum xs, q.2)
  | [.rol xs] => some (ienum xs, q.2)
  | _ => none)) := rfl
@[simp ↓] theorem ev_fiV (fr : FA) (e : DEnv) : fiV fr e = ((fr e).bind fun r => Res.of ((escs r.1 r.2).bind fun q => match q.1 with
  | [.lst xs] => some (xs.reverse, q.2)
  | [.rol xs] => some (xs.reverse, q.2)
  | _ => none)) := rfl
@[simp ↓] theorem ev_fiA (f : FE) (e : DEnv) : fiA f e = ((f e).bind fun r => Res.of ((escape r.1 r.2).bind fun q => (itemsD q.1).map fun ds => (ds, q.2))) := rfl
@[simp ↓] theorem ev_fAS (fa : FE) (fr : FA) (e : DEnv) : fAS fa fr e = ((fa e).bind fun r => match lookT r.1 r.2 with
  | some (.lst ds) => (fr r.2).bind fun q => .ok (ds.map .vl ++ q.1, q.2)
  | some (.rol ds) => (fr r.2).bind fun q => .ok (ds.map .vl ++ q.1, q.2)
  | some (.tup ds) => (fr r.2).bind fun q => .ok (ds.map .vl ++ q.1, q.2)
  | _ => .stuck) := rfl
@[simp ↓] theorem ev_fFmt (f : FE) (e : DEnv) : fFmt f e = ((f e).bind fun r => Res.of ((lookT r.1 r.2).bind fun d => (fmtD d).map fun s => (.vl (.str s), r.2))) := rfl
@[simp ↓] theorem ev_fJoin (g : Str → DEnv → Res (Str × DEnv)) (e : DEnv) : fJoin g e = ((g Str.empty e).bind fun r => .ok (.vl (.str r.1), r.2)) := rfl
@[simp ↓] theorem ev_fNotT (f : FE) (e : DEnv) : fNotT f e = ((fTru f e).bind fun r => .ok (.vl (.bl (!r.1)), r.2)) := rfl
@[simp ↓] theorem ev_fAugF (ns : List Str) (k j : Nat) (f : Str) (op : D → D → Option RV) (fv : FE) (e : DEnv) : fAugF ns k j f op fv e = (match (rootIns k e j).bind (fldOf ns f) with
  | some d1 => (fv e).bind fun r => Res.of ((lookT r.1 r.2).bind fun d2 => (op d1 d2).bind fun rv => match rv with
    | .fl d => (rootIns k r.2 j).bind fun ds => (putD ns f d ds).bind fun ds' => if ds.length < 900 then some (.nx (putIns k r.2 j ds')) else none
    | _ => none)
  | none => .stuck) := rfl
@[simp ↓] theorem ev_fTryM (l : List Cf) (f : FS) (e : DEnv) : fTryM l f e = (match f e with
  | .exc x e' => fCls l x e'
  | r => r) := rfl
@[simp ↓] theorem ev_fEqI (q : D → D → Bool) (n : Nat) (neg : Bool) (fa fb : FE) (e : DEnv) : fEqI q n neg fa fb e = ((fa e).bind fun r => (fb r.2).bind fun s => Res.of ((lookT r.1.seal s.2).bind fun d1 => (lookT s.1 s.2).bind fun d2 => match d1, d2 with
  | .lst xs, .lst ys => if deqI q (n + 1) (.lst xs) (.lst ys) then some (T.vl (.bl (!neg)), s.2) else none
  | _, _ => none)) := rfl
@[simp ↓] theorem ev_fDisp (fr : FA) (e : DEnv) : fDisp fr e = ((fr e).bind fun r => Res.of ((escs r.1 r.2).bind fun q => (pairsA q.1).bind fun u => if decide u.1.Nodup && decide (u.1.length ≤ 15) then some (T.nw (.dct false (u.1.map keyD) u.2), q.2) else none)) := rfl
@[simp ↓] theorem ev_fD0 (t : Bool) (e : DEnv) : fD0 t e = (.ok (.nw (.dct t [] []), e)) := rfl
@[simp ↓] theorem ev_fSetD (j : Nat) (fi fv : FE) (e : DEnv) : fSetD j fi fv e = ((fv e).bind fun r => (Res.of ((escape r.1 r.2).bind fun q => (rootDct q.2 j).map fun _ => q)).bind fun q => (fi q.2).bind fun s => Res.of ((lookT s.1 s.2).bind fun k => (rootDct s.2 j).bind fun u => (dPut u.1 u.2.1 u.2.2 k q.1).map fun w => .nx (putDct s.2 j u.1 w.1 w.2))) := rfl
@[simp ↓] theorem ev_fCallK (n m' : Nat) (pm : List Nat) (dds : List D) (m : Fn) (fa fk : FA) (e : DEnv) : fCallK n m' pm dds m fa fk e = ((fa e).bind fun r => (fk r.2).bind fun q => if r.1.length = n ∧ q.1.length = m' then (Res.of (escN [] (selL pm (r.1 ++ q.1 ++ dds.map .vl)) q.2)).bind fun q => callM [] m q.1 q.2 else .stuck) := rfl
@[simp ↓] theorem ev_fOwnIn (i : Nat) (neg : Bool) (m : Fn) (fa fb : FE) (e : DEnv) : fOwnIn i neg m fa fb e = ((fOwn2 isAny (isIns i) true m fa fb e).bind fun r => match r.1 with
  | .vl (.bl b) => .ok (.vl (.bl (b != neg)), r.2)
  | _ => .stuck) := rfl
@[simp ↓] theorem ev_fOwnLen (i : Nat) (m : Fn) (fo : FE) (e : DEnv) : fOwnLen i m fo e = ((fo e).bind fun r0 => match lookT r0.1.seal r0.2 with
  | some (.ins k' _) => if k' = i then (Res.of (escN [false] [r0.1.seal] r0.2)).bind fun q => (noExc (callM [] m q.1 q.2)).bind fun r => match r.1 with
    | .vl (.int n) => if 0 ≤ n ∧ n < 2 ^ 63 then .ok (.vl (.int n), r.2) else .stuck
    | _ => .stuck
    else .stuck
  | _ => .stuck) := rfl
@[simp ↓] theorem ev_fForO (j : Nat) (wr : Nat → D → D) (fall : FS) (fg : D → DEnv → Option DEnv) (fb : FS) (e : DEnv) : fForO j wr fall fg fb e = (match e[j]? with
  | some (some (.ow (.lst ds))) => unbrO j (loopO j wr fg fb (ds.length + 1) 0 (e.set j (some (.br (.lst ds)))))
  | some (some (.br (.lst ds))) => loopO j wr fg fb (ds.length + 1) 0 e
  | _ => fall e) := rfl
@[simp ↓] theorem ev_fAppN (fo fa : FE) (e : DEnv) : fAppN fo fa e = ((fo e).bind fun q => match q.1 with
  | .nw (.lst ds) => if ds.length < lim then (fa q.2).bind fun r => (Res.of (escape r.1 r.2)).bind fun s => .ok (.vl .non, s.2) else .stuck
  | _ => .stuck) := rfl
@[simp ↓] theorem ev_fPar3 (i j l : Nat) (fr : FA) (e : DEnv) : fPar3 i j l fr e = ((fr e).bind fun r => Res.of ((escs r.1 r.2).bind fun q => match q.1 with
  | [d1, d2, d3] => if i < q.2.length ∧ j < q.2.length ∧ l < q.2.length then some (.nx (((q.2.set i (some (.sh d1))).set j (some (.sh d2))).set l (some (.sh d3)))) else none
  | _ => none)) := rfl
@[simp] theorem opInA_tup (a : D) (ds : List D) : opInA a (.tup ds) = if dOk a && dOk (.tup ds) then some (.fl (.bl (ds.any fun y => deq y a))) else none := by cases a <;> rfl
@[simp] theorem opInA_lst (a : D) (ds : List D) : opInA a (.lst ds) = if dOk a && dOk (.lst ds) then some (.fl (.bl (ds.any fun y => deq y a))) else none := by cases a <;> rfl
@[simp] theorem ev_inSS (a b : Str) : opInA (.str a) (.str b) = some (.fl (.bl (strIn a b))) := rfl
@[simp] theorem ev_niA (a b : D) : opNiA a b = (match opInA a b with
  | some (.fl (.bl k)) => some (.fl (.bl (!k)))
  | _ => none) := rfl
@[simp] theorem ev_putD1 (f : Str) (d : D) : putD [f] f d [] = some [d] := by simp [putD]
@[simp] theorem ev_tupL (xs : List D) : opTuple [.lst xs] = some (.nt xs) := rfl
@[simp] theorem ev_tupT (xs : List D) : opTuple [.tup xs] = some (.fl (.tup xs)) := rfl
@[simp] theorem ev_listL (xs : List D) : opList [.lst xs] = some (.nl xs) := rfl
@[simp] theorem ev_listT (xs : List D) : opList [.tup xs] = some (.nl xs) := rfl
@[simp] theorem ev_rootDct (e : DEnv) (j : Nat) : rootDct e j = (match e[j]? with
  | some (some (.ow (.dct t ks ds))) => some (t, ks, ds)
  | some (some (.br (.dct t ks ds))) => some (t, ks, ds)
  | _ => none) := rfl
@[simp] theorem ev_putDct (e : DEnv) (j : Nat) (t : Bool) (ks ds : List D) : putDct e j t ks ds = (match e[j]? with
  | some (some b) => e.set j (some (b.re (.dct t ks ds)))
  | _ => e) := rfl
@[simp] theorem ev_opDGet (t : Bool) (ks ds : List D) (b : D) : opDGet (.dct t ks ds) b = (dLook t ks ds b).bind fun r => r.map .fl := rfl
@[simp] theorem ev_opInD (t : Bool) (ks ds : List D) (a : D) : opInD a (.dct t ks ds) = (dLook t ks ds a).map fun r => .fl (.bl r.isSome) := rfl
@[simp] theorem ev_opNiD (t : Bool) (ks ds : List D) (a : D) : opNiD a (.dct t ks ds) = (dLook t ks ds a).map fun r => .fl (.bl (!r.isSome)) := rfl
@[simp] theorem ev_selL0 {α : Type} (l : List α) : selL [] l = [] := rfl
@[simp] theorem ev_selL1 {α : Type} (i : Nat) (pm : List Nat) (l : List α) : selL (i :: pm) l = (match l[i]? with | some x => x :: selL pm l | none => selL pm l) := selL_cons i pm l
@[simp] theorem ev_isR1 (j : Nat) (i : Int) : isR j (.int i) = true := rfl
@[simp] theorem ev_isR2 (j k : Nat) (ds : List D) : isR j (.ins k ds) = (k == j) := rfl
@[simp] theorem ev_isAny (d : D) : isAny d = true := rfl
@[simp] theorem ev_items1 (xs : List D) : itemsD (.lst xs) = some xs := rfl
@[simp] theorem ev_items2 (xs : List D) : itemsD (.tup xs) = some xs := rfl
@[simp] theorem ev_truL (xs : List D) : truD (.lst xs) = some (!xs.isEmpty) := rfl
@[simp] theorem ev_isN1 : opIsN .non .non = some (.fl (.bl true)) := rfl
end DL

/-! DL, part w: bits of natural numbers. -/
namespace DL
/-- a number by its bits, the lowest first -/
def bsum : List Bool → Nat
  | [] => 0
  | b :: l => 2 * bsum l + (if b then 1 else 0)
theorem bsum_bit : ∀ (l : List Bool) (i : Nat), (bsum l).testBit i = l.getD i false
  | [], i => by simp [bsum]
  | b :: l, 0 => by
    cases b <;> simp [bsum, Nat.testBit_zero] <;> omega
  | b :: l, i + 1 => by
    have e : bsum (b :: l) / 2 = bsum l := by
      show (2 * bsum l + (if b then 1 else 0)) / 2 = bsum l
      split <;> omega
    rw [Nat.testBit_succ, e, bsum_bit l i]
    simp
theorem bsum_lt : ∀ l : List Bool, bsum l < 2 ^ l.length
  | [] => by simp [bsum]
  | b :: l => by
    have := bsum_lt l
    rw [List.length_cons, Nat.pow_succ]
    show 2 * bsum l + (if b then 1 else 0) < _
    split <;> omega
/-- a pattern, many times -/
def rep (p w : Nat) : Nat → Nat
  | 0 => 0
  | m + 1 => 2 ^ (w * m) * p + rep p w m
theorem rep_lt {p w : Nat} (hp : p < 2 ^ w) : ∀ m, rep p w m < 2 ^ (w * m)
  | 0 => by simp [rep]
  | m + 1 => by
    have ih := rep_lt hp m
    unfold rep
    rw [Nat.mul_add, Nat.mul_one, Nat.pow_add]
    have h1 : 2 ^ (w * m) * (p + 1) ≤ 2 ^ (w * m) * 2 ^ w := Nat.mul_le_mul_left _ hp
    rw [Nat.mul_add, Nat.mul_one] at h1
    omega
theorem rep_bit {p w : Nat} (hw : 0 < w) (hp : p < 2 ^ w) : ∀ (m i : Nat), (rep p w m).testBit i = (decide (i < w * m) && p.testBit (i % w))
  | 0, i => by simp [rep]
  | m + 1, i => by
    unfold rep
    rw [Nat.testBit_two_pow_mul_add _ (rep_lt hp m)]
    have e : w * (m + 1) = w * m + w := by rw [Nat.mul_add, Nat.mul_one]
    by_cases h : i < w * m
    · rw [if_pos h, rep_bit hw hp m i]
      simp [h, e]
      intro _
      omega
    · rw [if_neg h]
      by_cases h2 : i < w * (m + 1)
      · have e2 : i % w = i - w * m := by
          have e3 : i = (i - w * m) + w * m := by omega
          rw [e3, Nat.add_mul_mod_self_left, Nat.mod_eq_of_lt (by omega)]
          omega
        simp [h2, e2]
      · simp only [h2, decide_false, Bool.false_and]
        exact Nat.testBit_lt_two_pow (Nat.lt_of_lt_of_le hp (Nat.pow_le_pow_right (by decide) (by omega)))
theorem rep_mul (p w : Nat) : ∀ m, rep p w m = p * rep 1 w m
  | 0 => by simp [rep]
  | m + 1 => by
    unfold rep
    rw [rep_mul p w m, Nat.mul_add, Nat.mul_one, Nat.mul_comm]
theorem rep_one {w : Nat} : ∀ m, rep 1 w m * (2 ^ w - 1) + 1 = 2 ^ (w * m)
  | 0 => by simp [rep]
  | m + 1 => by
    have ih := rep_one (w := w) m
    have hp : 1 ≤ 2 ^ w := Nat.one_le_two_pow
    unfold rep
    rw [Nat.mul_one, Nat.add_mul, Nat.mul_add w m 1, Nat.mul_one, Nat.pow_add, Nat.add_assoc, ih, Nat.mul_sub, Nat.mul_one]
    have : 2 ^ (w * m) * 1 ≤ 2 ^ (w * m) * 2 ^ w := Nat.mul_le_mul_left _ hp
    omega
/-- pattern * ((2^(w m) - 1) / (2^w - 1)) -/
theorem rep_div {w m : Nat} (hw : 0 < w) : (2 ^ (w * m) - 1) / (2 ^ w - 1) = rep 1 w m := by
  have h := rep_one (w := w) m
  have h2 : 2 ≤ 2 ^ w := by
    calc 2 = 2 ^ 1 := rfl
      _ ≤ 2 ^ w := Nat.pow_le_pow_right (by decide) hw
  rw [← h, Nat.add_sub_cancel]
  exact Nat.mul_div_cancel _ (by omega)
end DL

/-! DL, part x: rows with hypotheses (no `if` on a number that is not known: such a check would count in unary). -/
namespace DL
open PySem L2 Evl
theorem fiR1_ok {fr : FA} {e e' : DEnv} {ts : List T} {n : Int} (h : fr e = .ok (ts, e')) (l : lookTs ts e' = some [.int n]) (o : ok62 n = true) : fiR1 fr e = .ok (irange 0 n.toNat, e') := by
  unfold fiR1
  rw [h]
  show Res.of ((lookTs ts e').bind _) = _
  rw [l]
  show Res.of (if ok62 n = true then _ else _) = _
  rw [if_pos o]
  rfl
theorem fOp2_ok {op : D → D → Option RV} {fa fb : FE} {e e1 e2 : DEnv} {t u : T} {a b : D} {rv : RV} (h : fa e = .ok (t, e1)) (h2 : fb e1 = .ok (u, e2)) (l : lookT t.seal e2 = some a) (l2 : lookT u e2 = some b) (o : op a b = some rv) : fOp2 op fa fb e = .ok (rv.tok, e2) := by
  unfold fOp2
  rw [h]
  show ((fb e1).bind _) = _
  rw [h2]
  show Res.of ((lookT t.seal e2).bind _) = _
  rw [l]
  show Res.of ((lookT u e2).bind _) = _
  rw [l2]
  show Res.of ((op a b).bind _) = _
  rw [o]
  rfl
theorem fSet_ok {i : Nat} {f : FE} {e e1 e2 : DEnv} {t : T} (h : f e = .ok (t, e1)) (s : storeT i t e1 = some e2) : fSet i f e = .ok (.nx e2) := by
  unfold fSet
  rw [h]
  show Res.of ((storeT i t e1).map Out.nx) = _
  rw [s]
  rfl
theorem ok62_n {w : Nat} (h : w ≤ 1000000) : ok62 (w : Int) = true := by
  unfold ok62
  rw [decide_eq_true (by omega), decide_eq_true (by omega)]
  rfl
theorem fFor_ok {fi : FI} {fg : D → DEnv → Option DEnv} {fb : FS} {e e1 : DEnv} {ds : List D} {r : Res Out} (h : fi e = .ok (ds, e1)) (l : loopF fg fb ds e1 = r) : fFor fi fg fb e = r := by
  unfold fFor
  rw [h]
  exact l
end DL

/-! DL, part xa: comprehensions with a test, ifs, while loops, stores: rows for hand-written meanings. -/
namespace DL
open PySem L2 Evl
theorem loopC_flt {fg : D → DEnv → Option DEnv} {ft : FT} {fe : FE} {vs : List Nat} {e : DEnv} (p : D → Bool) (f : D → D) (no : noOw e = true) : ∀ (ds acc : List D),
    (∀ d ∈ ds, ∃ e1, fg d e = some e1 ∧ (p d = true → ∃ e2 t e3 e4, ft e1 = .ok (true, e2) ∧ fe e2 = .ok (t, e3) ∧ escape t e3 = some (f d, e4) ∧ noOw e4 = true ∧ wipeE e4 vs = e) ∧ (p d = false → ∃ e2, ft e1 = .ok (false, e2) ∧ noOw e2 = true ∧ wipeE e2 vs = e)) →
    acc.length + ds.length ≤ lim → loopC fg ft fe vs ds acc e = some (acc ++ (ds.filter p).map f, e)
  | [], acc, _, _ => by simp
  | d :: ds, acc, h, hl => by
    obtain ⟨e1, h1, ht, hf⟩ := h d List.mem_cons_self
    have hl' : acc.length < lim := by rw [List.length_cons] at hl; omega
    rw [ev_loopC1, if_pos no, h1]
    cases hp : p d with
    | true =>
      obtain ⟨e2, t, e3, e4, h2, h3, h4, h5, h6⟩ := ht hp
      have ih := loopC_flt (fg := fg) (ft := ft) (fe := fe) (vs := vs) p f no ds (acc ++ [f d]) (fun d hd => h d (List.mem_cons_of_mem _ hd)) (by rw [List.length_append, List.length_singleton]; rw [List.length_cons] at hl; omega)
      rw [Option.bind_some, h2]
      dsimp only
      rw [h3]
      dsimp only
      rw [h4, Option.bind_some]
      dsimp only
      rw [h5, decide_eq_true hl', h6, Bool.and_self, if_pos rfl, ih, List.filter_cons, hp]
      simp
    | false =>
      obtain ⟨e2, h2, h5, h6⟩ := hf hp
      have ih := loopC_flt (fg := fg) (ft := ft) (fe := fe) (vs := vs) p f no ds acc (fun d hd => h d (List.mem_cons_of_mem _ hd)) (by rw [List.length_cons] at hl; omega)
      rw [Option.bind_some, h2]
      dsimp only
      rw [h5, if_pos rfl, h6, ih, List.filter_cons, hp]
      simp
theorem back_lend : ∀ e : DEnv, backE e (lendE e) = e
  | [] => rfl
  | none :: e => by
    show backB none none :: backE e (lendE e) = _
    rw [back_lend e]; rfl
  | some b :: e => by cases b <;> exact congrArg (_ :: ·) (back_lend e)
theorem noOw_lend (e : DEnv) : noOw (lendE e) = true := by
  unfold noOw lendE
  rw [List.all_map, List.all_eq_true]
  intro x _
  cases x with
  | none => rfl
  | some b => cases b <;> rfl
theorem flc {fi : FI} {ft : FT} {fe : FE} {v : Nat} {e e' : DEnv} {items : List D} (p : D → Bool) (f : D → D) (hfi : fi e = .ok (items, e')) (hv : e'[v]? = some none)
    (h : ∀ d ∈ items, (p d = true → ∃ e2 t e3 e4, ft ((lendE e').set v (some (.sh d))) = .ok (true, e2) ∧ fe e2 = .ok (t, e3) ∧ escape t e3 = some (f d, e4) ∧ noOw e4 = true ∧ e4.set v none = lendE e') ∧
      (p d = false → ∃ e2, ft ((lendE e').set v (some (.sh d))) = .ok (false, e2) ∧ noOw e2 = true ∧ e2.set v none = lendE e'))
    (hl : items.length ≤ lim) : fLc fi (fgName v) ft fe [v] e = .ok (.nw (.lst ((items.filter p).map f)), e') := by
  have hlt : v < e'.length := (List.getElem?_eq_some_iff.mp hv).1
  have hlt2 : v < (lendE e').length := by unfold lendE; rw [List.length_map]; exact hlt
  have hn : (lendE e')[v]? = some none := by
    unfold lendE
    rw [List.getElem?_map, hv]; rfl
  have hw : wipeE (lendE e') [v] = lendE e' := by
    show (lendE e').set v none = lendE e'
    apply List.ext_getElem?
    intro i
    by_cases hi : v = i
    · subst hi; rw [List.getElem?_set_self hlt2, hn]
    · rw [List.getElem?_set_ne hi]
  have hc : clearAt e' [v] = true := by
    rw [ev_clearAt]
    simp [hv]
  have hloop := loopC_flt (fg := fgName v) (ft := ft) (fe := fe) (vs := [v]) (e := lendE e') p f (noOw_lend e') items [] (fun d hd => by
    obtain ⟨h1, h2⟩ := h d hd
    refine ⟨(lendE e').set v (some (.sh d)), ?_, h1, h2⟩
    unfold fgName
    rw [if_pos hlt2]) (by simpa using hl)
  rw [List.nil_append] at hloop
  unfold fLc
  rw [hfi]
  show Res.of (if clearAt e' [v] = true then (loopC _ ft fe [v] items [] (wipeE (lendE e') [v])).map _ else none) = _
  rw [if_pos hc, hw, hloop]
  show Res.of (some (T.nw _, backE e' (lendE e'))) = _
  rw [back_lend]
  rfl
theorem set_back {e : DEnv} {v : Nat} {x : Option B} (hv : e[v]? = some none) : ((lendE e).set v x).set v none = lendE e := by
  have hlt2 : v < (lendE e).length := by unfold lendE; rw [List.length_map]; exact (List.getElem?_eq_some_iff.mp hv).1
  have hn : (lendE e)[v]? = some none := by
    unfold lendE
    rw [List.getElem?_map, hv]; rfl
  rw [List.set_set]
  apply List.ext_getElem?
  intro i
  by_cases hi : v = i
  · subst hi; rw [List.getElem?_set_self hlt2, hn]
  · rw [List.getElem?_set_ne hi]
theorem noOw_set {e : DEnv} {v : Nat} {d : D} : noOw ((lendE e).set v (some (.sh d))) = true := by
  unfold noOw
  rw [List.all_eq_true]
  intro x hx
  rcases List.mem_or_eq_of_mem_set hx with hx | hx
  · have := noOw_lend e
    unfold noOw at this
    exact List.all_eq_true.mp this x hx
  · subst hx; rfl
/-- a comprehension of one name whose test and item change nothing -/
theorem flc2 {fi : FI} {ft : FT} {fe : FE} {v : Nat} {e e' : DEnv} {items : List D} (p : D → Bool) (f : D → D) (hfi : fi e = .ok (items, e')) (hv : e'[v]? = some none)
    (h : ∀ d ∈ items, ft ((lendE e').set v (some (.sh d))) = .ok (p d, (lendE e').set v (some (.sh d))) ∧ (p d = true → ∃ t, fe ((lendE e').set v (some (.sh d))) = .ok (t, (lendE e').set v (some (.sh d))) ∧ escape t ((lendE e').set v (some (.sh d))) = some (f d, (lendE e').set v (some (.sh d)))))
    (hl : items.length ≤ lim) : fLc fi (fgName v) ft fe [v] e = .ok (.nw (.lst ((items.filter p).map f)), e') :=
  flc p f hfi hv (fun d hd => by
    obtain ⟨h1, h2⟩ := h d hd
    refine ⟨fun hp => ?_, fun hp => ⟨_, by rw [h1, hp], noOw_set, set_back hv⟩⟩
    obtain ⟨t, h3, h4⟩ := h2 hp
    exact ⟨_, t, _, _, by rw [h1, hp], h3, h4, noOw_set, set_back hv⟩) hl
theorem ifS_t {f : FT} {a b : FS} {e e1 : DEnv} (h : f e = .ok (true, e1)) : fIfS f a b e = a e1 := by unfold fIfS; rw [h]; rfl
theorem ifS_f {f : FT} {a b : FS} {e e1 : DEnv} (h : f e = .ok (false, e1)) : fIfS f a b e = b e1 := by unfold fIfS; rw [h]; rfl
theorem fOr_f {f g : FT} {e e1 : DEnv} {r : Res (Bool × DEnv)} (h : f e = .ok (false, e1)) (k : g e1 = r) : fOr f g e = r := by
  unfold fOr
  rw [h]
  exact k
theorem fB_ok {f : FE} {e e1 : DEnv} {t : T} {b : Bool} (h : f e = .ok (t, e1)) (l : lookT t e1 = some (.bl b)) : fB f e = .ok (b, e1) := by
  unfold fB
  rw [h]
  show (match lookT t e1 with | some (.bl b) => _ | _ => _) = _
  rw [l]
theorem ixN_nat {n k : Nat} (h : k < n) : L2.ixN n (k : Int) = some k := by
  rw [ev_ixN, if_pos (by omega), if_pos (by omega), Int.toNat_natCast]
theorem fSetIx_ok {j : Nat} {fi fv : FE} {e e1 e2 e3 : DEnv} {t u : T} {d : D} {ds0 ds : List D} {k : Int} {n : Nat} (hv : fv e = .ok (t, e1)) (he : escape t e1 = some (d, e2)) (hr : rootLst e2 j = some ds0) (hi : fi e2 = .ok (u, e3)) (hk : lookT u e3 = some (.int k)) (hr3 : rootLst e3 j = some ds) (hn : L2.ixN ds.length k = some n) :
    fSetIx j fi fv e = .ok (.nx (putLst e3 j (ds.set n d))) := by
  unfold fSetIx
  rw [hv]
  show ((Res.of ((escape t e1).bind fun q => (rootLst q.2 j).map fun _ => q)).bind _) = _
  rw [he]
  show ((Res.of ((rootLst e2 j).map fun _ => (d, e2))).bind _) = _
  rw [hr]
  show ((fi e2).bind _) = _
  rw [hi]
  show Res.of ((lookT u e3).bind _) = _
  rw [hk]
  show Res.of ((rootLst e3 j).bind _) = _
  rw [hr3]
  show Res.of ((L2.ixN ds.length k).map _) = _
  rw [hn]
  rfl
theorem loopW_stop {fc : FT} {fb : FS} {n : Nat} {e e1 : DEnv} (h : fc e = .ok (false, e1)) : loopW fc fb (n + 1) e = .ok (.nx e1) := by
  unfold loopW
  rw [h]
  rfl
theorem loopW_nx {fc : FT} {fb : FS} {n : Nat} {e e1 e2 : DEnv} {r : Res Out} (h : fc e = .ok (true, e1)) (h2 : fb e1 = .ok (.nx e2)) (h3 : loopW fc fb n e2 = r) : loopW fc fb (n + 1) e = r := by
  unfold loopW
  rw [h]
  show (fb e1).bind _ = r
  rw [h2]
  exact h3
theorem loopW_rt {fc : FT} {fb : FS} {n : Nat} {e e1 e2 : DEnv} {t : T} (h : fc e = .ok (true, e1)) (h2 : fb e1 = .ok (.rt t e2)) : loopW fc fb (n + 1) e = .ok (.rt t e2) := by
  unfold loopW
  rw [h]
  show (fb e1).bind _ = _
  rw [h2]
  rfl
@[simp] theorem ev_fgLst (n : Nat) (fg : List D → DEnv → Option DEnv) (ds : List D) (e : DEnv) : fgLst n fg (.lst ds) e = if ds.length = n then fg ds e else none := rfl
@[simp ↓] theorem ev_fIsX (tbl : Nat → Option Bool) (i : Nat) (e : DEnv) : fIsX tbl i e = (match e[i]? with
  | some (some (.ex x)) => if x.ds.isEmpty then (match tbl x.k with
    | some b => .ok (.vl (.bl b), e)
    | none => .stuck) else .stuck
  | _ => .stuck) := rfl
end DL

/-! What the defs do, in plain terms: the rest behind the picks is run at each pair of the 8 values. -/
namespace K13
open PySem DL
def okT : Res Out → Bool
  | .ok (.rt (.vl (.bl true)) _) => true
  | _ => false
theorem okT_ex {r : Res Out} (h : okT r = true) : ∃ e, r = .ok (.rt (.vl (.bl true)) e) := by
  unfold okT at h
  split at h
  · exact ⟨_, rfl⟩
  · cases h
/-- the values -/
def thg (n : Nat) : D := if n = 0 then .int 0 else if n = 1 then .int (-1) else if n = 2 then .int (10 ^ 20) else if n = 3 then .str "" else if n = 4 then .str "x" else if n = 5 then .non else if n = 6 then .lst [.int 1, .int 2] else .bl true
def en (S T : D) (a b : Nat) : DEnv := [some (.sh S), some (.ow T), some (.sh (thg a)), some (.sh (thg b)), none, none, none]
theorem pick_hi {c s n : Int} (hn : 0 < n) (hn2 : n ≤ 10 ^ 100) (hc : 1000000000000000000 ≤ c) : m_law_pick [.br (TP c s), .sh (.int n)] = .ok (.int (c.fmod n), false, [.br (TP (c.fdiv n) s), .sh (.int n)]) := by
  have h1 := modOk_of (i := c) hn
  have h2 := divOk_of (i := c) hn (by omega)
  simp [m_law_pick, b_law_pick, k_law_pick_0, k_law_pick_1, k_law_pick_2, k_law_pick_3, q_law_pick_0, q_law_pick_1, q_law_pick_2, q_law_pick_3, opInt, h1, h2, hc]
theorem pick_lo {c s n : Int} (h : TpOk c s) (hn : 0 < n) (hc : c < 1000000000000000000) : ∃ r s' : Int, m_law_pick [.br (TP c s), .sh (.int n)] = .ok (.int (r.fmod n), false, [.br (TP c s'), .sh (.int n)]) ∧ 0 ≤ s' ∧ s' < 10 ^ 12 := by
  obtain ⟨c0, s0, s1⟩ := h
  have hc' : ¬ (1000000000000000000 ≤ c) := by omega
  have e1 := mulOk_of (i := s) (j := 48271) (by omega) (by omega)
  have e2 := mulOk_of (i := c) (j := 69621) (by omega) (by omega)
  have e3 := fun i => modOk_of (i := i) (j := 2147483647) (by omega)
  have e4 := fun i => modOk_of (i := i) (j := 2147483399) (by omega)
  have e5 := fun i => modOk_of (i := i) hn
  have e6 := fun i => divOk_of (i := i) (j := 64) (by omega) (by omega)
  have b0 : 0 ≤ (s * 48271 + c * 69621 + 11).fmod 2147483647 := Int.fmod_nonneg_of_pos _ (by omega)
  have b1 : (s * 48271 + c * 69621 + 11).fmod 2147483647 < 2147483647 := Int.fmod_lt_of_pos _ (by omega)
  generalize hx : (s * 48271 + c * 69621 + 11).fmod 2147483647 = x at b0 b1
  have e7 := mulOk_of (i := x) (j := x) (by omega) (by omega)
  have e8 := mulOk_of (i := x) (j := 40692) (by omega) (by omega)
  refine ⟨((x * x + x * 40692 + 7).fmod 2147483399).fdiv 64, x, ?_, b0, by omega⟩
  simp [m_law_pick, b_law_pick, k_law_pick_0, k_law_pick_1, k_law_pick_2, k_law_pick_3, q_law_pick_0, q_law_pick_1, q_law_pick_2, q_law_pick_3, opInt, hc', e1, e2, e3, e4, e5, e6, e7, e8, hx]
theorem picks : Picks m_law_pick := fun c s n h hn hn2 => by
  by_cases hc : 1000000000000000000 ≤ c
  · refine ⟨_, _, _, pick_hi hn hn2 hc, Int.fmod_nonneg_of_pos _ hn, Int.fmod_lt_of_pos _ hn, Int.fdiv_nonneg h.c0 (by omega), h.s0, h.s1⟩
  · obtain ⟨r, s', e, h1, h2⟩ := pick_lo h hn (by omega)
    exact ⟨_, _, _, e, Int.fmod_nonneg_of_pos _ hn, Int.fmod_lt_of_pos _ hn, h.c0, h1, h2⟩
/-- a cell's tape -/
theorem tape_ok (ns : List Int) (k : Int) (hk : 0 ≤ k) (hk2 : k ≤ 10 ^ 6) : ∃ c s, m_law_tape [.sh (.rol (ns.map .int)), .sh (.int k)] = .ok (TP c s, true, [.sh (.rol (ns.map .int)), .sh (.int k)]) ∧ TpOk c s := by
  have e1 := mulOk_of (i := 7919) (j := k) (by omega) (by omega)
  by_cases h : k < (ns.length : Int)
  · have hn : k.toNat < ns.length := by omega
    refine ⟨if ns[k.toNat] < 0 then -ns[k.toNat] else ns[k.toNat], 7919 * k + 104729, ?_, ?_, by omega, by omega⟩
    · simp [m_law_tape, b_law_tape, h, hk, e1, List.getElem?_eq_getElem hn]
    · split <;> omega
  · refine ⟨0, 7919 * k + 104729, ?_, by omega, by omega, by omega⟩
    simp [m_law_tape, b_law_tape, h, hk, e1]
theorem c_0 (S T : D) : ((List.range 8).all fun b => okT (k_law_law_3 (en S T 0 b))) = true := by kernel_rfl
theorem c_1 (S T : D) : ((List.range 8).all fun b => okT (k_law_law_3 (en S T 1 b))) = true := by kernel_rfl
theorem c_2 (S T : D) : ((List.range 8).all fun b => okT (k_law_law_3 (en S T 2 b))) = true := by kernel_rfl
theorem c_3 (S T : D) : ((List.range 8).all fun b => okT (k_law_law_3 (en S T 3 b))) = true := by kernel_rfl
theorem c_4 (S T : D) : ((List.range 8).all fun b => okT (k_law_law_3 (en S T 4 b))) = true := by kernel_rfl
theorem c_5 (S T : D) : ((List.range 8).all fun b => okT (k_law_law_3 (en S T 5 b))) = true := by kernel_rfl
theorem c_6 (S T : D) : ((List.range 8).all fun b => okT (k_law_law_3 (en S T 6 b))) = true := by kernel_rfl
theorem c_7 (S T : D) : ((List.range 8).all fun b => okT (k_law_law_3 (en S T 7 b))) = true := by kernel_rfl
theorem rest (S T : D) {a b : Nat} (ha : a < 8) (hb : b < 8) : ∃ e, k_law_law_3 (en S T a b) = .ok (.rt (.vl (.bl true)) e) := by
  have key : ∀ {a1 : Nat}, ((List.range 8).all fun b => okT (k_law_law_3 (en S T a1 b))) = true → ∃ e, k_law_law_3 (en S T a1 b) = .ok (.rt (.vl (.bl true)) e) := fun h => okT_ex (List.all_eq_true.mp h b (List.mem_range.mpr hb))
  rcases (by omega : a = 0 ∨ a = 1 ∨ a = 2 ∨ a = 3 ∨ a = 4 ∨ a = 5 ∨ a = 6 ∨ a = 7) with rfl | rfl | rfl | rfl | rfl | rfl | rfl | rfl
  · exact key (c_0 S T)
  · exact key (c_1 S T)
  · exact key (c_2 S T)
  · exact key (c_3 S T)
  · exact key (c_4 S T)
  · exact key (c_5 S T)
  · exact key (c_6 S T)
  · exact key (c_7 S T)
theorem thing_ok {c s : Int} (tp : TpOk c s) : ∃ (r : Nat) (c' s' : Int), m_law_thing [.br (TP c s)] = .ok (thg r, false, [.br (TP c' s')]) ∧ r < 8 ∧ TpOk c' s' := by
  obtain ⟨r, c1, s1, e1, p1⟩ := picks c s 8 tp (by omega) (by omega)
  have l1 := p1.lo; have h1 := p1.hi
  obtain ⟨k, rfl⟩ : ∃ k : Nat, r = (k : Int) := ⟨r.toNat, by omega⟩
  refine ⟨k, c1, s1, ?_, by omega, p1.tp⟩
  rcases (by omega : k = 0 ∨ k = 1 ∨ k = 2 ∨ k = 3 ∨ k = 4 ∨ k = 5 ∨ k = 6 ∨ k = 7) with rfl | rfl | rfl | rfl | rfl | rfl | rfl | rfl <;> simp [m_law_thing, e1, thg]
theorem law_sem (ns : List Int) (hn : ns.length ≤ 63) : ∃ q, m_law_law [.sh (.rol (ns.map .int))] = .ok (.bl true, false, q) := by
  obtain ⟨c0, s0, e0, t0⟩ := tape_ok ns 0 (by omega) (by omega)
  obtain ⟨a, c1, s1, e1, l1, t1⟩ := thing_ok t0
  obtain ⟨b, c2, s2, e2, l2, t2⟩ := thing_ok t1
  generalize (D.rol (ns.map .int)) = S at *
  obtain ⟨e, h⟩ := rest S (TP c2 s2) l1 l2
  have g0 : q_law_law_0 (env0 7 [.sh S]) = .ok (.nx [some (.sh S), some (.ow (TP c0 s0)), none, none, none, none, none]) := by simp [e0]
  have g1 : q_law_law_1 [some (.sh S), some (.ow (TP c0 s0)), none, none, none, none, none] = .ok (.nx [some (.sh S), some (.ow (TP c1 s1)), some (.sh (thg a)), none, none, none, none]) := by
    generalize thg a = A at *
    simp [e1]
  have g2 : q_law_law_2 [some (.sh S), some (.ow (TP c1 s1)), some (.sh (thg a)), none, none, none, none] = .ok (.nx (en S (TP c2 s2) a b)) := by
    unfold en
    generalize thg b = B at *
    generalize thg a = A at *
    simp [e2]
  have g : b_law_law (env0 7 [.sh S]) = .ok (.rt (.vl (.bl true)) e) := seq_nx g0 (seq_nx g1 (seq_nx g2 h))
  exact ⟨_, fn_rt g rfl⟩
end K13

/-! What the top has written; the end. Printed by emit.py. -/
namespace K13
open PySem L2 Evl DL
theorem all_mk {l : PySem.W.OpenLaw} {w : World} {K : PySem.W.Frag} {h : Heap} {mg : Str → Option Value} {fa : Addr} (X : K.In h) (G : h.Ns mainGlobals mg) (hfa : mg "law" = some (.ref fa))
    {f0 f1 f2 f3 f4 f5 f6 f7 f8 f9 f10 f11 f12 f13 f14 f15 f16 f17 C0 C1 C2 C3 C4 C5 C6 C7 C8 C9 C10 C11 C12 C13 C14 : Addr}
    {od0 an0 od1 an1 od2 an2 od3 an3 od4 an4 od5 an5 od6 an6 od7 an7 od8 an8 od9 an9 od10 an10 od11 an11 od12 an12 od13 an13 od14 an14 od15 an15 od16 an16 od17 an17 : Option Addr} {sl0 sl1 sl2 sl3 sl4 sl5 sl6 sl7 sl8 sl9 sl10 sl11 sl12 sl13 sl14 sl15 sl16 sl17 : Array (Option Value)} {oc0 kV0 dc0 pm0 cd0 ct0 oc1 kV1 dc1 pm1 cd1 ct1 oc2 kV2 dc2 pm2 cd2 ct2 oc3 kV3 dc3 pm3 cd3 ct3 oc4 kV4 dc4 pm4 cd4 ct4 oc5 kV5 dc5 pm5 cd5 ct5 oc6 kV6 dc6 pm6 cd6 ct6 oc7 kV7 dc7 pm7 cd7 ct7 oc8 kV8 dc8 pm8 cd8 ct8 oc9 kV9 dc9 pm9 cd9 ct9 oc10 kV10 dc10 pm10 cd10 ct10 oc11 kV11 dc11 pm11 cd11 ct11 oc12 kV12 dc12 pm12 cd12 ct12 oc13 kV13 dc13 pm13 cd13 ct13 oc14 kV14 dc14 pm14 cd14 ct14 oc15 kV15 dc15 pm15 cd15 ct15 oc16 kV16 dc16 pm16 cd16 ct16 oc17 kV17 dc17 pm17 cd17 ct17 : Value}
    {xnm2 xqn2 : Str} {xN2 : Addr} {xbs2 xbm2 xsu2 : List Value} {xsn2 : List Str} {xab2 : Bool} {xco2 : Option Bool} {xdd2 : Option Addr} {xka2 xkb2 xkc2 xkd2 xke2 : Option Value}
    {xnm3 xqn3 : Str} {xN3 : Addr} {xbs3 xbm3 xsu3 : List Value} {xsn3 : List Str} {xab3 : Bool} {xco3 : Option Bool} {xdd3 : Option Addr} {xka3 xkb3 xkc3 xkd3 xke3 : Option Value}
    {xnm4 xqn4 : Str} {xN4 : Addr} {xbs4 xbm4 xsu4 : List Value} {xsn4 : List Str} {xab4 : Bool} {xco4 : Option Bool} {xdd4 : Option Addr} {xka4 xkb4 xkc4 xkd4 xke4 : Option Value}
    {xnm5 xqn5 : Str} {xN5 : Addr} {xbs5 xbm5 xsu5 : List Value} {xsn5 : List Str} {xab5 : Bool} {xco5 : Option Bool} {xdd5 : Option Addr} {xka5 xkb5 xkc5 xkd5 xke5 : Option Value}
    {xnm6 xqn6 : Str} {xN6 : Addr} {xbs6 xbm6 xsu6 : List Value} {xsn6 : List Str} {xab6 : Bool} {xco6 : Option Bool} {xdd6 : Option Addr} {xka6 xkb6 xkc6 xkd6 xke6 : Option Value}
    {xnm8 xqn8 : Str} {xN8 : Addr} {xbs8 xbm8 xsu8 : List Value} {xsn8 : List Str} {xab8 : Bool} {xco8 : Option Bool} {xdd8 : Option Addr} {xka8 xkb8 xkc8 xkd8 xke8 : Option Value}
    {xnm9 xqn9 : Str} {xN9 : Addr} {xbs9 xbm9 xsu9 : List Value} {xsn9 : List Str} {xab9 : Bool} {xco9 : Option Bool} {xdd9 : Option Addr} {xka9 xkb9 xkc9 xkd9 xke9 : Option Value}
    {xnm10 xqn10 : Str} {xN10 : Addr} {xbs10 xbm10 xsu10 : List Value} {xsn10 : List Str} {xab10 : Bool} {xco10 : Option Bool} {xdd10 : Option Addr} {xka10 xkb10 xkc10 xkd10 xke10 : Option Value}
    {xnm11 xqn11 : Str} {xN11 : Addr} {xbs11 xbm11 xsu11 : List Value} {xsn11 : List Str} {xab11 : Bool} {xco11 : Option Bool} {xdd11 : Option Addr} {xka11 xkb11 xkc11 xkd11 xke11 : Option Value}
    {xnm12 xqn12 : Str} {xN12 : Addr} {xbs12 xbm12 xsu12 : List Value} {xsn12 : List Str} {xab12 : Bool} {xco12 : Option Bool} {xdd12 : Option Addr} {xka12 xkb12 xkc12 xkd12 xke12 : Option Value}
    {xnm13 xqn13 : Str} {xN13 : Addr} {xbs13 xbm13 xsu13 : List Value} {xsn13 : List Str} {xab13 : Bool} {xco13 : Option Bool} {xdd13 : Option Addr} {xka13 xkb13 xkc13 xkd13 xke13 : Option Value}
    (aC0 : PySem.W.nsIn K mainGlobals "BoardError" = some (some (.ref C0)))
    (aC1 : PySem.W.nsIn K mainGlobals "BadText" = some (some (.ref C1)))
    (aC2 : PySem.W.nsIn K mainGlobals "BadLine" = some (some (.ref C2)))
    (aC3 : PySem.W.nsIn K mainGlobals "UnknownName" = some (some (.ref C3)))
    (aC4 : PySem.W.nsIn K mainGlobals "BadName" = some (some (.ref C4)))
    (aC5 : PySem.W.nsIn K mainGlobals "BadNumber" = some (some (.ref C5)))
    (aC6 : PySem.W.nsIn K mainGlobals "BadLength" = some (some (.ref C6)))
    (aC7 : PySem.W.nsIn K mainGlobals "BadTable" = some (some (.ref C7)))
    (aC8 : PySem.W.nsIn K mainGlobals "BadSize" = some (some (.ref C8)))
    (aC9 : PySem.W.nsIn K mainGlobals "BadSquare" = some (some (.ref C9)))
    (aC10 : PySem.W.nsIn K mainGlobals "BadBoard" = some (some (.ref C10)))
    (aC11 : PySem.W.nsIn K mainGlobals "BadCondition" = some (some (.ref C11)))
    (aC12 : PySem.W.nsIn K mainGlobals "UnknownBoard" = some (some (.ref C12)))
    (aC13 : PySem.W.nsIn K mainGlobals "Fails" = some (some (.ref C13)))
    (aC14 : PySem.W.nsIn K mainGlobals "NothingToUndo" = some (some (.ref C14)))
    (a0 : PySem.W.findIn K (.ref C2) "__init__" = some (some (.ref f0)))
    (l0 : K.lookup f0 = some ⟨oc0, od0, .func (PySem.W.fnOf "__init__" "BadLine.__init__" (defArgs s0) (defBody s0) (defScope s0) .none kV0 dc0 pm0 an0 cd0 ct0), sl0⟩)
    (c0 : PySem.W.codeIn K cd0 "BadLine.__init__" = true)
    (k0 : PySem.W.keepIn K (.ref f0) = true)
    (a1 : PySem.W.findIn K (.ref C3) "__init__" = some (some (.ref f1)))
    (l1 : K.lookup f1 = some ⟨oc1, od1, .func (PySem.W.fnOf "__init__" "UnknownName.__init__" (defArgs s1) (defBody s1) (defScope s1) .none kV1 dc1 pm1 an1 cd1 ct1), sl1⟩)
    (c1 : PySem.W.codeIn K cd1 "UnknownName.__init__" = true)
    (k1 : PySem.W.keepIn K (.ref f1) = true)
    (a2 : PySem.W.findIn K (.ref C4) "__init__" = some (some (.ref f2)))
    (l2 : K.lookup f2 = some ⟨oc2, od2, .func (PySem.W.fnOf "__init__" "BadName.__init__" (defArgs s2) (defBody s2) (defScope s2) .none kV2 dc2 pm2 an2 cd2 ct2), sl2⟩)
    (c2 : PySem.W.codeIn K cd2 "BadName.__init__" = true)
    (k2 : PySem.W.keepIn K (.ref f2) = true)
    (a3 : PySem.W.findIn K (.ref C5) "__init__" = some (some (.ref f3)))
    (l3 : K.lookup f3 = some ⟨oc3, od3, .func (PySem.W.fnOf "__init__" "BadNumber.__init__" (defArgs s3) (defBody s3) (defScope s3) .none kV3 dc3 pm3 an3 cd3 ct3), sl3⟩)
    (c3 : PySem.W.codeIn K cd3 "BadNumber.__init__" = true)
    (k3 : PySem.W.keepIn K (.ref f3) = true)
    (a4 : PySem.W.findIn K (.ref C6) "__init__" = some (some (.ref f4)))
    (l4 : K.lookup f4 = some ⟨oc4, od4, .func (PySem.W.fnOf "__init__" "BadLength.__init__" (defArgs s4) (defBody s4) (defScope s4) .none kV4 dc4 pm4 an4 cd4 ct4), sl4⟩)
    (c4 : PySem.W.codeIn K cd4 "BadLength.__init__" = true)
    (k4 : PySem.W.keepIn K (.ref f4) = true)
    (a5 : PySem.W.findIn K (.ref C8) "__init__" = some (some (.ref f5)))
    (l5 : K.lookup f5 = some ⟨oc5, od5, .func (PySem.W.fnOf "__init__" "BadSize.__init__" (defArgs s5) (defBody s5) (defScope s5) .none kV5 dc5 pm5 an5 cd5 ct5), sl5⟩)
    (c5 : PySem.W.codeIn K cd5 "BadSize.__init__" = true)
    (k5 : PySem.W.keepIn K (.ref f5) = true)
    (a6 : PySem.W.findIn K (.ref C9) "__init__" = some (some (.ref f6)))
    (l6 : K.lookup f6 = some ⟨oc6, od6, .func (PySem.W.fnOf "__init__" "BadSquare.__init__" (defArgs s6) (defBody s6) (defScope s6) .none kV6 dc6 pm6 an6 cd6 ct6), sl6⟩)
    (c6 : PySem.W.codeIn K cd6 "BadSquare.__init__" = true)
    (k6 : PySem.W.keepIn K (.ref f6) = true)
    (a7 : PySem.W.findIn K (.ref C10) "__init__" = some (some (.ref f7)))
    (l7 : K.lookup f7 = some ⟨oc7, od7, .func (PySem.W.fnOf "__init__" "BadBoard.__init__" (defArgs s7) (defBody s7) (defScope s7) .none kV7 dc7 pm7 an7 cd7 ct7), sl7⟩)
    (c7 : PySem.W.codeIn K cd7 "BadBoard.__init__" = true)
    (k7 : PySem.W.keepIn K (.ref f7) = true)
    (a8 : PySem.W.findIn K (.ref C11) "__init__" = some (some (.ref f8)))
    (l8 : K.lookup f8 = some ⟨oc8, od8, .func (PySem.W.fnOf "__init__" "BadCondition.__init__" (defArgs s8) (defBody s8) (defScope s8) .none kV8 dc8 pm8 an8 cd8 ct8), sl8⟩)
    (c8 : PySem.W.codeIn K cd8 "BadCondition.__init__" = true)
    (k8 : PySem.W.keepIn K (.ref f8) = true)
    (a9 : PySem.W.findIn K (.ref C12) "__init__" = some (some (.ref f9)))
    (l9 : K.lookup f9 = some ⟨oc9, od9, .func (PySem.W.fnOf "__init__" "UnknownBoard.__init__" (defArgs s9) (defBody s9) (defScope s9) .none kV9 dc9 pm9 an9 cd9 ct9), sl9⟩)
    (c9 : PySem.W.codeIn K cd9 "UnknownBoard.__init__" = true)
    (k9 : PySem.W.keepIn K (.ref f9) = true)
    (a10 : PySem.W.findIn K (.ref C13) "__init__" = some (some (.ref f10)))
    (l10 : K.lookup f10 = some ⟨oc10, od10, .func (PySem.W.fnOf "__init__" "Fails.__init__" (defArgs s10) (defBody s10) (defScope s10) .none kV10 dc10 pm10 an10 cd10 ct10), sl10⟩)
    (c10 : PySem.W.codeIn K cd10 "Fails.__init__" = true)
    (k10 : PySem.W.keepIn K (.ref f10) = true)
    (a11 : PySem.W.nsIn K mainGlobals "_law_tape" = some (some (.ref f11)))
    (l11 : K.lookup f11 = some ⟨oc11, od11, .func (PySem.W.fnOf "_law_tape" "_law_tape" (defArgs s11) (defBody s11) (defScope s11) .none kV11 dc11 pm11 an11 cd11 ct11), sl11⟩)
    (c11 : PySem.W.codeIn K cd11 "_law_tape" = true)
    (k11 : PySem.W.keepIn K (.ref f11) = true)
    (a12 : PySem.W.nsIn K mainGlobals "_law_pick" = some (some (.ref f12)))
    (l12 : K.lookup f12 = some ⟨oc12, od12, .func (PySem.W.fnOf "_law_pick" "_law_pick" (defArgs s12) (defBody s12) (defScope s12) .none kV12 dc12 pm12 an12 cd12 ct12), sl12⟩)
    (c12 : PySem.W.codeIn K cd12 "_law_pick" = true)
    (k12 : PySem.W.keepIn K (.ref f12) = true)
    (a13 : PySem.W.nsIn K mainGlobals "_law_thing" = some (some (.ref f13)))
    (l13 : K.lookup f13 = some ⟨oc13, od13, .func (PySem.W.fnOf "_law_thing" "_law_thing" (defArgs s13) (defBody s13) (defScope s13) .none kV13 dc13 pm13 an13 cd13 ct13), sl13⟩)
    (c13 : PySem.W.codeIn K cd13 "_law_thing" = true)
    (k13 : PySem.W.keepIn K (.ref f13) = true)
    (a14 : PySem.W.nsIn K mainGlobals "_law_single" = some (some (.ref f14)))
    (l14 : K.lookup f14 = some ⟨oc14, od14, .func (PySem.W.fnOf "_law_single" "_law_single" (defArgs s14) (defBody s14) (defScope s14) .none kV14 dc14 pm14 an14 cd14 ct14), sl14⟩)
    (c14 : PySem.W.codeIn K cd14 "_law_single" = true)
    (k14 : PySem.W.keepIn K (.ref f14) = true)
    (a15 : PySem.W.nsIn K mainGlobals "_law_double" = some (some (.ref f15)))
    (l15 : K.lookup f15 = some ⟨oc15, od15, .func (PySem.W.fnOf "_law_double" "_law_double" (defArgs s15) (defBody s15) (defScope s15) .none kV15 dc15 pm15 an15 cd15 ct15), sl15⟩)
    (c15 : PySem.W.codeIn K cd15 "_law_double" = true)
    (k15 : PySem.W.keepIn K (.ref f15) = true)
    (a16 : PySem.W.nsIn K mainGlobals "_law_kinds" = some (some (.ref f16)))
    (l16 : K.lookup f16 = some ⟨oc16, od16, .func (PySem.W.fnOf "_law_kinds" "_law_kinds" (defArgs s16) (defBody s16) (defScope s16) .none kV16 dc16 pm16 an16 cd16 ct16), sl16⟩)
    (c16 : PySem.W.codeIn K cd16 "_law_kinds" = true)
    (k16 : PySem.W.keepIn K (.ref f16) = true)
    (a17 : PySem.W.nsIn K mainGlobals "law" = some (some (.ref f17)))
    (l17 : K.lookup f17 = some ⟨oc17, od17, .func (PySem.W.fnOf "law" "law" (defArgs s17) (defBody s17) (defScope s17) .none kV17 dc17 pm17 an17 cd17 ct17), sl17⟩)
    (c17 : PySem.W.codeIn K cd17 "law" = true)
    (k17 : PySem.W.keepIn K (.ref f17) = true)
    (xl2 : K.lookup C2 = some (excClassObj xnm2 xqn2 C2 xN2 xbs2 xbm2 true xsn2 xsu2 xab2 xco2 xdd2 xka2 xkb2 xkc2 xkd2 xke2 "ValueError.__new__"))
    (xr2 : PySem.HandSPX.refsVE xbm2 = true)
    (sa2 : PySem.W.findIn K (.ref C2) "__setattr__" = some (some (.builtin "object.__setattr__")))
    (xb2 : PySem.W.subIn K (.ref C2) (.type "BaseException") = some true)
    (xt2 : PySem.W.typeIn K (.ref C2) = some (.type "type"))
    (kc2 : PySem.W.keepIn K (.ref C2) = true)
    (xi0 : PySem.W.typeIn K (.ref f0) = some (.type "function"))
    (na2_line : PySem.W.findIn K (.ref C2) "line" = some none)
    (xl3 : K.lookup C3 = some (excClassObj xnm3 xqn3 C3 xN3 xbs3 xbm3 true xsn3 xsu3 xab3 xco3 xdd3 xka3 xkb3 xkc3 xkd3 xke3 "ValueError.__new__"))
    (xr3 : PySem.HandSPX.refsVE xbm3 = true)
    (sa3 : PySem.W.findIn K (.ref C3) "__setattr__" = some (some (.builtin "object.__setattr__")))
    (xb3 : PySem.W.subIn K (.ref C3) (.type "BaseException") = some true)
    (xt3 : PySem.W.typeIn K (.ref C3) = some (.type "type"))
    (kc3 : PySem.W.keepIn K (.ref C3) = true)
    (xi1 : PySem.W.typeIn K (.ref f1) = some (.type "function"))
    (na3_line : PySem.W.findIn K (.ref C3) "line" = some none)
    (na3_name : PySem.W.findIn K (.ref C3) "name" = some none)
    (xl4 : K.lookup C4 = some (excClassObj xnm4 xqn4 C4 xN4 xbs4 xbm4 true xsn4 xsu4 xab4 xco4 xdd4 xka4 xkb4 xkc4 xkd4 xke4 "ValueError.__new__"))
    (xr4 : PySem.HandSPX.refsVE xbm4 = true)
    (sa4 : PySem.W.findIn K (.ref C4) "__setattr__" = some (some (.builtin "object.__setattr__")))
    (xb4 : PySem.W.subIn K (.ref C4) (.type "BaseException") = some true)
    (xt4 : PySem.W.typeIn K (.ref C4) = some (.type "type"))
    (kc4 : PySem.W.keepIn K (.ref C4) = true)
    (xi2 : PySem.W.typeIn K (.ref f2) = some (.type "function"))
    (na4_name : PySem.W.findIn K (.ref C4) "name" = some none)
    (xl5 : K.lookup C5 = some (excClassObj xnm5 xqn5 C5 xN5 xbs5 xbm5 true xsn5 xsu5 xab5 xco5 xdd5 xka5 xkb5 xkc5 xkd5 xke5 "ValueError.__new__"))
    (xr5 : PySem.HandSPX.refsVE xbm5 = true)
    (sa5 : PySem.W.findIn K (.ref C5) "__setattr__" = some (some (.builtin "object.__setattr__")))
    (xb5 : PySem.W.subIn K (.ref C5) (.type "BaseException") = some true)
    (xt5 : PySem.W.typeIn K (.ref C5) = some (.type "type"))
    (kc5 : PySem.W.keepIn K (.ref C5) = true)
    (xi3 : PySem.W.typeIn K (.ref f3) = some (.type "function"))
    (na5_number : PySem.W.findIn K (.ref C5) "number" = some none)
    (xl6 : K.lookup C6 = some (excClassObj xnm6 xqn6 C6 xN6 xbs6 xbm6 true xsn6 xsu6 xab6 xco6 xdd6 xka6 xkb6 xkc6 xkd6 xke6 "ValueError.__new__"))
    (xr6 : PySem.HandSPX.refsVE xbm6 = true)
    (sa6 : PySem.W.findIn K (.ref C6) "__setattr__" = some (some (.builtin "object.__setattr__")))
    (xb6 : PySem.W.subIn K (.ref C6) (.type "BaseException") = some true)
    (xt6 : PySem.W.typeIn K (.ref C6) = some (.type "type"))
    (kc6 : PySem.W.keepIn K (.ref C6) = true)
    (xi4 : PySem.W.typeIn K (.ref f4) = some (.type "function"))
    (na6_length : PySem.W.findIn K (.ref C6) "length" = some none)
    (xl8 : K.lookup C8 = some (excClassObj xnm8 xqn8 C8 xN8 xbs8 xbm8 true xsn8 xsu8 xab8 xco8 xdd8 xka8 xkb8 xkc8 xkd8 xke8 "ValueError.__new__"))
    (xr8 : PySem.HandSPX.refsVE xbm8 = true)
    (sa8 : PySem.W.findIn K (.ref C8) "__setattr__" = some (some (.builtin "object.__setattr__")))
    (xb8 : PySem.W.subIn K (.ref C8) (.type "BaseException") = some true)
    (xt8 : PySem.W.typeIn K (.ref C8) = some (.type "type"))
    (kc8 : PySem.W.keepIn K (.ref C8) = true)
    (xi5 : PySem.W.typeIn K (.ref f5) = some (.type "function"))
    (na8_width : PySem.W.findIn K (.ref C8) "width" = some none)
    (na8_height : PySem.W.findIn K (.ref C8) "height" = some none)
    (xl9 : K.lookup C9 = some (excClassObj xnm9 xqn9 C9 xN9 xbs9 xbm9 true xsn9 xsu9 xab9 xco9 xdd9 xka9 xkb9 xkc9 xkd9 xke9 "ValueError.__new__"))
    (xr9 : PySem.HandSPX.refsVE xbm9 = true)
    (sa9 : PySem.W.findIn K (.ref C9) "__setattr__" = some (some (.builtin "object.__setattr__")))
    (xb9 : PySem.W.subIn K (.ref C9) (.type "BaseException") = some true)
    (xt9 : PySem.W.typeIn K (.ref C9) = some (.type "type"))
    (kc9 : PySem.W.keepIn K (.ref C9) = true)
    (xi6 : PySem.W.typeIn K (.ref f6) = some (.type "function"))
    (na9_row : PySem.W.findIn K (.ref C9) "row" = some none)
    (na9_column : PySem.W.findIn K (.ref C9) "column" = some none)
    (xl10 : K.lookup C10 = some (excClassObj xnm10 xqn10 C10 xN10 xbs10 xbm10 true xsn10 xsu10 xab10 xco10 xdd10 xka10 xkb10 xkc10 xkd10 xke10 "ValueError.__new__"))
    (xr10 : PySem.HandSPX.refsVE xbm10 = true)
    (sa10 : PySem.W.findIn K (.ref C10) "__setattr__" = some (some (.builtin "object.__setattr__")))
    (xb10 : PySem.W.subIn K (.ref C10) (.type "BaseException") = some true)
    (xt10 : PySem.W.typeIn K (.ref C10) = some (.type "type"))
    (kc10 : PySem.W.keepIn K (.ref C10) = true)
    (xi7 : PySem.W.typeIn K (.ref f7) = some (.type "function"))
    (na10_name : PySem.W.findIn K (.ref C10) "name" = some none)
    (xl11 : K.lookup C11 = some (excClassObj xnm11 xqn11 C11 xN11 xbs11 xbm11 true xsn11 xsu11 xab11 xco11 xdd11 xka11 xkb11 xkc11 xkd11 xke11 "ValueError.__new__"))
    (xr11 : PySem.HandSPX.refsVE xbm11 = true)
    (sa11 : PySem.W.findIn K (.ref C11) "__setattr__" = some (some (.builtin "object.__setattr__")))
    (xb11 : PySem.W.subIn K (.ref C11) (.type "BaseException") = some true)
    (xt11 : PySem.W.typeIn K (.ref C11) = some (.type "type"))
    (kc11 : PySem.W.keepIn K (.ref C11) = true)
    (xi8 : PySem.W.typeIn K (.ref f8) = some (.type "function"))
    (na11_index : PySem.W.findIn K (.ref C11) "index" = some none)
    (xl12 : K.lookup C12 = some (excClassObj xnm12 xqn12 C12 xN12 xbs12 xbm12 true xsn12 xsu12 xab12 xco12 xdd12 xka12 xkb12 xkc12 xkd12 xke12 "ValueError.__new__"))
    (xr12 : PySem.HandSPX.refsVE xbm12 = true)
    (sa12 : PySem.W.findIn K (.ref C12) "__setattr__" = some (some (.builtin "object.__setattr__")))
    (xb12 : PySem.W.subIn K (.ref C12) (.type "BaseException") = some true)
    (xt12 : PySem.W.typeIn K (.ref C12) = some (.type "type"))
    (kc12 : PySem.W.keepIn K (.ref C12) = true)
    (xi9 : PySem.W.typeIn K (.ref f9) = some (.type "function"))
    (na12_name : PySem.W.findIn K (.ref C12) "name" = some none)
    (xl13 : K.lookup C13 = some (excClassObj xnm13 xqn13 C13 xN13 xbs13 xbm13 true xsn13 xsu13 xab13 xco13 xdd13 xka13 xkb13 xkc13 xkd13 xke13 "ValueError.__new__"))
    (xr13 : PySem.HandSPX.refsVE xbm13 = true)
    (sa13 : PySem.W.findIn K (.ref C13) "__setattr__" = some (some (.builtin "object.__setattr__")))
    (xb13 : PySem.W.subIn K (.ref C13) (.type "BaseException") = some true)
    (xt13 : PySem.W.typeIn K (.ref C13) = some (.type "type"))
    (kc13 : PySem.W.keepIn K (.ref C13) = true)
    (xi10 : PySem.W.typeIn K (.ref f10) = some (.type "function"))
    (na13_step : PySem.W.findIn K (.ref C13) "step" = some none)
    (z_len : PySem.W.nsIn K mainGlobals "len" = some none)
    (z_abs : PySem.W.nsIn K mainGlobals "abs" = some none)
    (z_int : PySem.W.nsIn K mainGlobals "int" = some none)
    (xg4 : PySem.W.findIn K (.ref C4) "__getattribute__" = some (some (.builtin "BaseException.__getattribute__")))
    (xh4 : PySem.W.findIn K (.ref C4) "__getattr__" = some none)
    (hd4 : PySem.W.hasDictIn K C4 = true)
    (xg10 : PySem.W.findIn K (.ref C10) "__getattribute__" = some (some (.builtin "BaseException.__getattribute__")))
    (xh10 : PySem.W.findIn K (.ref C10) "__getattr__" = some none)
    (hd10 : PySem.W.hasDictIn K C10 = true)
    (xg12 : PySem.W.findIn K (.ref C12) "__getattribute__" = some (some (.builtin "BaseException.__getattribute__")))
    (xh12 : PySem.W.findIn K (.ref C12) "__getattr__" = some none)
    (hd12 : PySem.W.hasDictIn K C12 = true)
    (xg11 : PySem.W.findIn K (.ref C11) "__getattribute__" = some (some (.builtin "BaseException.__getattribute__")))
    (xh11 : PySem.W.findIn K (.ref C11) "__getattr__" = some none)
    (hd11 : PySem.W.hasDictIn K C11 = true)
    (xg6 : PySem.W.findIn K (.ref C6) "__getattribute__" = some (some (.builtin "BaseException.__getattribute__")))
    (xh6 : PySem.W.findIn K (.ref C6) "__getattr__" = some none)
    (hd6 : PySem.W.hasDictIn K C6 = true)
    (xg2 : PySem.W.findIn K (.ref C2) "__getattribute__" = some (some (.builtin "BaseException.__getattribute__")))
    (xh2 : PySem.W.findIn K (.ref C2) "__getattr__" = some none)
    (hd2 : PySem.W.hasDictIn K C2 = true)
    (xg5 : PySem.W.findIn K (.ref C5) "__getattribute__" = some (some (.builtin "BaseException.__getattribute__")))
    (xh5 : PySem.W.findIn K (.ref C5) "__getattr__" = some none)
    (hd5 : PySem.W.hasDictIn K C5 = true)
    (xg13 : PySem.W.findIn K (.ref C13) "__getattribute__" = some (some (.builtin "BaseException.__getattribute__")))
    (xh13 : PySem.W.findIn K (.ref C13) "__getattr__" = some none)
    (hd13 : PySem.W.hasDictIn K C13 = true)
    (xg8 : PySem.W.findIn K (.ref C8) "__getattribute__" = some (some (.builtin "BaseException.__getattribute__")))
    (xh8 : PySem.W.findIn K (.ref C8) "__getattr__" = some none)
    (hd8 : PySem.W.hasDictIn K C8 = true)
    (xg9 : PySem.W.findIn K (.ref C9) "__getattribute__" = some (some (.builtin "BaseException.__getattribute__")))
    (xh9 : PySem.W.findIn K (.ref C9) "__getattr__" = some none)
    (hd9 : PySem.W.hasDictIn K C9 = true)
    (xg3 : PySem.W.findIn K (.ref C3) "__getattribute__" = some (some (.builtin "BaseException.__getattribute__")))
    (xh3 : PySem.W.findIn K (.ref C3) "__getattr__" = some none)
    (hd3 : PySem.W.hasDictIn K C3 = true)
    (ia10 : PySem.W.findIn K (.ref C10) "__class__" = some (some (.builtin "object.__class__")))
    (ib_ : PySem.W.specialIn K (.builtin "object.__class__") "__get__" = some (some (.builtin "getset_descriptor.__get__")))
    (ic_ : PySem.W.takesIn K (.builtin "object.__class__") = some true)
    (id10 : PySem.W.mroIn K C10 (.type "object") = some true)
    (ki_10_C10 : PySem.W.kitOne K (.ref C10) (.ref C10) = some true)
    (ia11 : PySem.W.findIn K (.ref C11) "__class__" = some (some (.builtin "object.__class__")))
    (id11 : PySem.W.mroIn K C11 (.type "object") = some true)
    (ki_11_C10 : PySem.W.kitOne K (.ref C11) (.ref C10) = some false)
    (ia6 : PySem.W.findIn K (.ref C6) "__class__" = some (some (.builtin "object.__class__")))
    (id6 : PySem.W.mroIn K C6 (.type "object") = some true)
    (ki_6_C10 : PySem.W.kitOne K (.ref C6) (.ref C10) = some false)
    (ia2 : PySem.W.findIn K (.ref C2) "__class__" = some (some (.builtin "object.__class__")))
    (id2 : PySem.W.mroIn K C2 (.type "object") = some true)
    (ki_2_C10 : PySem.W.kitOne K (.ref C2) (.ref C10) = some false)
    (ia4 : PySem.W.findIn K (.ref C4) "__class__" = some (some (.builtin "object.__class__")))
    (id4 : PySem.W.mroIn K C4 (.type "object") = some true)
    (ki_4_C10 : PySem.W.kitOne K (.ref C4) (.ref C10) = some false)
    (ia5 : PySem.W.findIn K (.ref C5) "__class__" = some (some (.builtin "object.__class__")))
    (id5 : PySem.W.mroIn K C5 (.type "object") = some true)
    (ki_5_C10 : PySem.W.kitOne K (.ref C5) (.ref C10) = some false)
    (ia8 : PySem.W.findIn K (.ref C8) "__class__" = some (some (.builtin "object.__class__")))
    (id8 : PySem.W.mroIn K C8 (.type "object") = some true)
    (ki_8_C10 : PySem.W.kitOne K (.ref C8) (.ref C10) = some false)
    (ia9 : PySem.W.findIn K (.ref C9) "__class__" = some (some (.builtin "object.__class__")))
    (id9 : PySem.W.mroIn K C9 (.type "object") = some true)
    (ki_9_C10 : PySem.W.kitOne K (.ref C9) (.ref C10) = some false)
    (xg7 : PySem.W.findIn K (.ref C7) "__getattribute__" = some (some (.builtin "BaseException.__getattribute__")))
    (xh7 : PySem.W.findIn K (.ref C7) "__getattr__" = some none)
    (xb7 : PySem.W.subIn K (.ref C7) (.type "BaseException") = some true)
    (hd7 : PySem.W.hasDictIn K C7 = true)
    (ia7 : PySem.W.findIn K (.ref C7) "__class__" = some (some (.builtin "object.__class__")))
    (id7 : PySem.W.mroIn K C7 (.type "object") = some true)
    (ki_7_C10 : PySem.W.kitOne K (.ref C7) (.ref C10) = some false)
    (xg1 : PySem.W.findIn K (.ref C1) "__getattribute__" = some (some (.builtin "BaseException.__getattribute__")))
    (xh1 : PySem.W.findIn K (.ref C1) "__getattr__" = some none)
    (xb1 : PySem.W.subIn K (.ref C1) (.type "BaseException") = some true)
    (hd1 : PySem.W.hasDictIn K C1 = true)
    (ia1 : PySem.W.findIn K (.ref C1) "__class__" = some (some (.builtin "object.__class__")))
    (id1 : PySem.W.mroIn K C1 (.type "object") = some true)
    (ki_1_C10 : PySem.W.kitOne K (.ref C1) (.ref C10) = some false)
    (ia13 : PySem.W.findIn K (.ref C13) "__class__" = some (some (.builtin "object.__class__")))
    (id13 : PySem.W.mroIn K C13 (.type "object") = some true)
    (ki_13_C10 : PySem.W.kitOne K (.ref C13) (.ref C10) = some false)
    (xg14 : PySem.W.findIn K (.ref C14) "__getattribute__" = some (some (.builtin "BaseException.__getattribute__")))
    (xh14 : PySem.W.findIn K (.ref C14) "__getattr__" = some none)
    (xb14 : PySem.W.subIn K (.ref C14) (.type "BaseException") = some true)
    (hd14 : PySem.W.hasDictIn K C14 = true)
    (ia14 : PySem.W.findIn K (.ref C14) "__class__" = some (some (.builtin "object.__class__")))
    (id14 : PySem.W.mroIn K C14 (.type "object") = some true)
    (ki_14_C10 : PySem.W.kitOne K (.ref C14) (.ref C10) = some false)
    (ia12 : PySem.W.findIn K (.ref C12) "__class__" = some (some (.builtin "object.__class__")))
    (id12 : PySem.W.mroIn K C12 (.type "object") = some true)
    (ki_12_C10 : PySem.W.kitOne K (.ref C12) (.ref C10) = some false)
    (ia3 : PySem.W.findIn K (.ref C3) "__class__" = some (some (.builtin "object.__class__")))
    (id3 : PySem.W.mroIn K C3 (.type "object") = some true)
    (ki_3_C10 : PySem.W.kitOne K (.ref C3) (.ref C10) = some false)
    (z_isinstance : PySem.W.nsIn K mainGlobals "isinstance" = some none)
    (ki_10_C11 : PySem.W.kitOne K (.ref C10) (.ref C11) = some false)
    (ki_11_C11 : PySem.W.kitOne K (.ref C11) (.ref C11) = some true)
    (ki_6_C11 : PySem.W.kitOne K (.ref C6) (.ref C11) = some false)
    (ki_2_C11 : PySem.W.kitOne K (.ref C2) (.ref C11) = some false)
    (ki_4_C11 : PySem.W.kitOne K (.ref C4) (.ref C11) = some false)
    (ki_5_C11 : PySem.W.kitOne K (.ref C5) (.ref C11) = some false)
    (ki_8_C11 : PySem.W.kitOne K (.ref C8) (.ref C11) = some false)
    (ki_9_C11 : PySem.W.kitOne K (.ref C9) (.ref C11) = some false)
    (ki_7_C11 : PySem.W.kitOne K (.ref C7) (.ref C11) = some false)
    (ki_1_C11 : PySem.W.kitOne K (.ref C1) (.ref C11) = some false)
    (ki_13_C11 : PySem.W.kitOne K (.ref C13) (.ref C11) = some false)
    (ki_14_C11 : PySem.W.kitOne K (.ref C14) (.ref C11) = some false)
    (ki_12_C11 : PySem.W.kitOne K (.ref C12) (.ref C11) = some false)
    (ki_3_C11 : PySem.W.kitOne K (.ref C3) (.ref C11) = some false)
    (ki_10_C6 : PySem.W.kitOne K (.ref C10) (.ref C6) = some false)
    (ki_11_C6 : PySem.W.kitOne K (.ref C11) (.ref C6) = some false)
    (ki_6_C6 : PySem.W.kitOne K (.ref C6) (.ref C6) = some true)
    (ki_2_C6 : PySem.W.kitOne K (.ref C2) (.ref C6) = some false)
    (ki_4_C6 : PySem.W.kitOne K (.ref C4) (.ref C6) = some false)
    (ki_5_C6 : PySem.W.kitOne K (.ref C5) (.ref C6) = some false)
    (ki_8_C6 : PySem.W.kitOne K (.ref C8) (.ref C6) = some false)
    (ki_9_C6 : PySem.W.kitOne K (.ref C9) (.ref C6) = some false)
    (ki_7_C6 : PySem.W.kitOne K (.ref C7) (.ref C6) = some false)
    (ki_1_C6 : PySem.W.kitOne K (.ref C1) (.ref C6) = some false)
    (ki_13_C6 : PySem.W.kitOne K (.ref C13) (.ref C6) = some false)
    (ki_14_C6 : PySem.W.kitOne K (.ref C14) (.ref C6) = some false)
    (ki_12_C6 : PySem.W.kitOne K (.ref C12) (.ref C6) = some false)
    (ki_3_C6 : PySem.W.kitOne K (.ref C3) (.ref C6) = some false)
    (ki_10_C2 : PySem.W.kitOne K (.ref C10) (.ref C2) = some false)
    (ki_11_C2 : PySem.W.kitOne K (.ref C11) (.ref C2) = some false)
    (ki_6_C2 : PySem.W.kitOne K (.ref C6) (.ref C2) = some false)
    (ki_2_C2 : PySem.W.kitOne K (.ref C2) (.ref C2) = some true)
    (ki_4_C2 : PySem.W.kitOne K (.ref C4) (.ref C2) = some false)
    (ki_5_C2 : PySem.W.kitOne K (.ref C5) (.ref C2) = some false)
    (ki_8_C2 : PySem.W.kitOne K (.ref C8) (.ref C2) = some false)
    (ki_9_C2 : PySem.W.kitOne K (.ref C9) (.ref C2) = some false)
    (ki_7_C2 : PySem.W.kitOne K (.ref C7) (.ref C2) = some false)
    (ki_1_C2 : PySem.W.kitOne K (.ref C1) (.ref C2) = some false)
    (ki_13_C2 : PySem.W.kitOne K (.ref C13) (.ref C2) = some false)
    (ki_14_C2 : PySem.W.kitOne K (.ref C14) (.ref C2) = some false)
    (ki_12_C2 : PySem.W.kitOne K (.ref C12) (.ref C2) = some false)
    (ki_3_C2 : PySem.W.kitOne K (.ref C3) (.ref C2) = some false)
    (ki_10_C4 : PySem.W.kitOne K (.ref C10) (.ref C4) = some false)
    (ki_11_C4 : PySem.W.kitOne K (.ref C11) (.ref C4) = some false)
    (ki_6_C4 : PySem.W.kitOne K (.ref C6) (.ref C4) = some false)
    (ki_2_C4 : PySem.W.kitOne K (.ref C2) (.ref C4) = some false)
    (ki_4_C4 : PySem.W.kitOne K (.ref C4) (.ref C4) = some true)
    (ki_5_C4 : PySem.W.kitOne K (.ref C5) (.ref C4) = some false)
    (ki_8_C4 : PySem.W.kitOne K (.ref C8) (.ref C4) = some false)
    (ki_9_C4 : PySem.W.kitOne K (.ref C9) (.ref C4) = some false)
    (ki_7_C4 : PySem.W.kitOne K (.ref C7) (.ref C4) = some false)
    (ki_1_C4 : PySem.W.kitOne K (.ref C1) (.ref C4) = some false)
    (ki_13_C4 : PySem.W.kitOne K (.ref C13) (.ref C4) = some false)
    (ki_14_C4 : PySem.W.kitOne K (.ref C14) (.ref C4) = some false)
    (ki_12_C4 : PySem.W.kitOne K (.ref C12) (.ref C4) = some false)
    (ki_3_C4 : PySem.W.kitOne K (.ref C3) (.ref C4) = some false)
    (ki_10_C5 : PySem.W.kitOne K (.ref C10) (.ref C5) = some false)
    (ki_11_C5 : PySem.W.kitOne K (.ref C11) (.ref C5) = some false)
    (ki_6_C5 : PySem.W.kitOne K (.ref C6) (.ref C5) = some false)
    (ki_2_C5 : PySem.W.kitOne K (.ref C2) (.ref C5) = some false)
    (ki_4_C5 : PySem.W.kitOne K (.ref C4) (.ref C5) = some false)
    (ki_5_C5 : PySem.W.kitOne K (.ref C5) (.ref C5) = some true)
    (ki_8_C5 : PySem.W.kitOne K (.ref C8) (.ref C5) = some false)
    (ki_9_C5 : PySem.W.kitOne K (.ref C9) (.ref C5) = some false)
    (ki_7_C5 : PySem.W.kitOne K (.ref C7) (.ref C5) = some false)
    (ki_1_C5 : PySem.W.kitOne K (.ref C1) (.ref C5) = some false)
    (ki_13_C5 : PySem.W.kitOne K (.ref C13) (.ref C5) = some false)
    (ki_14_C5 : PySem.W.kitOne K (.ref C14) (.ref C5) = some false)
    (ki_12_C5 : PySem.W.kitOne K (.ref C12) (.ref C5) = some false)
    (ki_3_C5 : PySem.W.kitOne K (.ref C3) (.ref C5) = some false)
    (ki_10_C8 : PySem.W.kitOne K (.ref C10) (.ref C8) = some false)
    (ki_11_C8 : PySem.W.kitOne K (.ref C11) (.ref C8) = some false)
    (ki_6_C8 : PySem.W.kitOne K (.ref C6) (.ref C8) = some false)
    (ki_2_C8 : PySem.W.kitOne K (.ref C2) (.ref C8) = some false)
    (ki_4_C8 : PySem.W.kitOne K (.ref C4) (.ref C8) = some false)
    (ki_5_C8 : PySem.W.kitOne K (.ref C5) (.ref C8) = some false)
    (ki_8_C8 : PySem.W.kitOne K (.ref C8) (.ref C8) = some true)
    (ki_9_C8 : PySem.W.kitOne K (.ref C9) (.ref C8) = some false)
    (ki_7_C8 : PySem.W.kitOne K (.ref C7) (.ref C8) = some false)
    (ki_1_C8 : PySem.W.kitOne K (.ref C1) (.ref C8) = some false)
    (ki_13_C8 : PySem.W.kitOne K (.ref C13) (.ref C8) = some false)
    (ki_14_C8 : PySem.W.kitOne K (.ref C14) (.ref C8) = some false)
    (ki_12_C8 : PySem.W.kitOne K (.ref C12) (.ref C8) = some false)
    (ki_3_C8 : PySem.W.kitOne K (.ref C3) (.ref C8) = some false)
    (ki_10_C9 : PySem.W.kitOne K (.ref C10) (.ref C9) = some false)
    (ki_11_C9 : PySem.W.kitOne K (.ref C11) (.ref C9) = some false)
    (ki_6_C9 : PySem.W.kitOne K (.ref C6) (.ref C9) = some false)
    (ki_2_C9 : PySem.W.kitOne K (.ref C2) (.ref C9) = some false)
    (ki_4_C9 : PySem.W.kitOne K (.ref C4) (.ref C9) = some false)
    (ki_5_C9 : PySem.W.kitOne K (.ref C5) (.ref C9) = some false)
    (ki_8_C9 : PySem.W.kitOne K (.ref C8) (.ref C9) = some false)
    (ki_9_C9 : PySem.W.kitOne K (.ref C9) (.ref C9) = some true)
    (ki_7_C9 : PySem.W.kitOne K (.ref C7) (.ref C9) = some false)
    (ki_1_C9 : PySem.W.kitOne K (.ref C1) (.ref C9) = some false)
    (ki_13_C9 : PySem.W.kitOne K (.ref C13) (.ref C9) = some false)
    (ki_14_C9 : PySem.W.kitOne K (.ref C14) (.ref C9) = some false)
    (ki_12_C9 : PySem.W.kitOne K (.ref C12) (.ref C9) = some false)
    (ki_3_C9 : PySem.W.kitOne K (.ref C3) (.ref C9) = some false)
    (ki_10_C7 : PySem.W.kitOne K (.ref C10) (.ref C7) = some false)
    (ki_11_C7 : PySem.W.kitOne K (.ref C11) (.ref C7) = some false)
    (ki_6_C7 : PySem.W.kitOne K (.ref C6) (.ref C7) = some false)
    (ki_2_C7 : PySem.W.kitOne K (.ref C2) (.ref C7) = some false)
    (ki_4_C7 : PySem.W.kitOne K (.ref C4) (.ref C7) = some false)
    (ki_5_C7 : PySem.W.kitOne K (.ref C5) (.ref C7) = some false)
    (ki_8_C7 : PySem.W.kitOne K (.ref C8) (.ref C7) = some false)
    (ki_9_C7 : PySem.W.kitOne K (.ref C9) (.ref C7) = some false)
    (ki_7_C7 : PySem.W.kitOne K (.ref C7) (.ref C7) = some true)
    (ki_1_C7 : PySem.W.kitOne K (.ref C1) (.ref C7) = some false)
    (ki_13_C7 : PySem.W.kitOne K (.ref C13) (.ref C7) = some false)
    (ki_14_C7 : PySem.W.kitOne K (.ref C14) (.ref C7) = some false)
    (ki_12_C7 : PySem.W.kitOne K (.ref C12) (.ref C7) = some false)
    (ki_3_C7 : PySem.W.kitOne K (.ref C3) (.ref C7) = some false)
    (ki_10_C1 : PySem.W.kitOne K (.ref C10) (.ref C1) = some false)
    (ki_11_C1 : PySem.W.kitOne K (.ref C11) (.ref C1) = some false)
    (ki_6_C1 : PySem.W.kitOne K (.ref C6) (.ref C1) = some false)
    (ki_2_C1 : PySem.W.kitOne K (.ref C2) (.ref C1) = some false)
    (ki_4_C1 : PySem.W.kitOne K (.ref C4) (.ref C1) = some false)
    (ki_5_C1 : PySem.W.kitOne K (.ref C5) (.ref C1) = some false)
    (ki_8_C1 : PySem.W.kitOne K (.ref C8) (.ref C1) = some false)
    (ki_9_C1 : PySem.W.kitOne K (.ref C9) (.ref C1) = some false)
    (ki_7_C1 : PySem.W.kitOne K (.ref C7) (.ref C1) = some false)
    (ki_1_C1 : PySem.W.kitOne K (.ref C1) (.ref C1) = some true)
    (ki_13_C1 : PySem.W.kitOne K (.ref C13) (.ref C1) = some false)
    (ki_14_C1 : PySem.W.kitOne K (.ref C14) (.ref C1) = some false)
    (ki_12_C1 : PySem.W.kitOne K (.ref C12) (.ref C1) = some false)
    (ki_3_C1 : PySem.W.kitOne K (.ref C3) (.ref C1) = some false)
    (ki_10_C13 : PySem.W.kitOne K (.ref C10) (.ref C13) = some false)
    (ki_11_C13 : PySem.W.kitOne K (.ref C11) (.ref C13) = some false)
    (ki_6_C13 : PySem.W.kitOne K (.ref C6) (.ref C13) = some false)
    (ki_2_C13 : PySem.W.kitOne K (.ref C2) (.ref C13) = some false)
    (ki_4_C13 : PySem.W.kitOne K (.ref C4) (.ref C13) = some false)
    (ki_5_C13 : PySem.W.kitOne K (.ref C5) (.ref C13) = some false)
    (ki_8_C13 : PySem.W.kitOne K (.ref C8) (.ref C13) = some false)
    (ki_9_C13 : PySem.W.kitOne K (.ref C9) (.ref C13) = some false)
    (ki_7_C13 : PySem.W.kitOne K (.ref C7) (.ref C13) = some false)
    (ki_1_C13 : PySem.W.kitOne K (.ref C1) (.ref C13) = some false)
    (ki_13_C13 : PySem.W.kitOne K (.ref C13) (.ref C13) = some true)
    (ki_14_C13 : PySem.W.kitOne K (.ref C14) (.ref C13) = some false)
    (ki_12_C13 : PySem.W.kitOne K (.ref C12) (.ref C13) = some false)
    (ki_3_C13 : PySem.W.kitOne K (.ref C3) (.ref C13) = some false)
    (ki_10_C14 : PySem.W.kitOne K (.ref C10) (.ref C14) = some false)
    (ki_11_C14 : PySem.W.kitOne K (.ref C11) (.ref C14) = some false)
    (ki_6_C14 : PySem.W.kitOne K (.ref C6) (.ref C14) = some false)
    (ki_2_C14 : PySem.W.kitOne K (.ref C2) (.ref C14) = some false)
    (ki_4_C14 : PySem.W.kitOne K (.ref C4) (.ref C14) = some false)
    (ki_5_C14 : PySem.W.kitOne K (.ref C5) (.ref C14) = some false)
    (ki_8_C14 : PySem.W.kitOne K (.ref C8) (.ref C14) = some false)
    (ki_9_C14 : PySem.W.kitOne K (.ref C9) (.ref C14) = some false)
    (ki_7_C14 : PySem.W.kitOne K (.ref C7) (.ref C14) = some false)
    (ki_1_C14 : PySem.W.kitOne K (.ref C1) (.ref C14) = some false)
    (ki_13_C14 : PySem.W.kitOne K (.ref C13) (.ref C14) = some false)
    (ki_14_C14 : PySem.W.kitOne K (.ref C14) (.ref C14) = some true)
    (ki_12_C14 : PySem.W.kitOne K (.ref C12) (.ref C14) = some false)
    (ki_3_C14 : PySem.W.kitOne K (.ref C3) (.ref C14) = some false)
    (ki_10_C12 : PySem.W.kitOne K (.ref C10) (.ref C12) = some false)
    (ki_11_C12 : PySem.W.kitOne K (.ref C11) (.ref C12) = some false)
    (ki_6_C12 : PySem.W.kitOne K (.ref C6) (.ref C12) = some false)
    (ki_2_C12 : PySem.W.kitOne K (.ref C2) (.ref C12) = some false)
    (ki_4_C12 : PySem.W.kitOne K (.ref C4) (.ref C12) = some false)
    (ki_5_C12 : PySem.W.kitOne K (.ref C5) (.ref C12) = some false)
    (ki_8_C12 : PySem.W.kitOne K (.ref C8) (.ref C12) = some false)
    (ki_9_C12 : PySem.W.kitOne K (.ref C9) (.ref C12) = some false)
    (ki_7_C12 : PySem.W.kitOne K (.ref C7) (.ref C12) = some false)
    (ki_1_C12 : PySem.W.kitOne K (.ref C1) (.ref C12) = some false)
    (ki_13_C12 : PySem.W.kitOne K (.ref C13) (.ref C12) = some false)
    (ki_14_C12 : PySem.W.kitOne K (.ref C14) (.ref C12) = some false)
    (ki_12_C12 : PySem.W.kitOne K (.ref C12) (.ref C12) = some true)
    (ki_3_C12 : PySem.W.kitOne K (.ref C3) (.ref C12) = some false)
    (ki_10_C3 : PySem.W.kitOne K (.ref C10) (.ref C3) = some false)
    (ki_11_C3 : PySem.W.kitOne K (.ref C11) (.ref C3) = some false)
    (ki_6_C3 : PySem.W.kitOne K (.ref C6) (.ref C3) = some false)
    (ki_2_C3 : PySem.W.kitOne K (.ref C2) (.ref C3) = some false)
    (ki_4_C3 : PySem.W.kitOne K (.ref C4) (.ref C3) = some false)
    (ki_5_C3 : PySem.W.kitOne K (.ref C5) (.ref C3) = some false)
    (ki_8_C3 : PySem.W.kitOne K (.ref C8) (.ref C3) = some false)
    (ki_9_C3 : PySem.W.kitOne K (.ref C9) (.ref C3) = some false)
    (ki_7_C3 : PySem.W.kitOne K (.ref C7) (.ref C3) = some false)
    (ki_1_C3 : PySem.W.kitOne K (.ref C1) (.ref C3) = some false)
    (ki_13_C3 : PySem.W.kitOne K (.ref C13) (.ref C3) = some false)
    (ki_14_C3 : PySem.W.kitOne K (.ref C14) (.ref C3) = some false)
    (ki_12_C3 : PySem.W.kitOne K (.ref C12) (.ref C3) = some false)
    (ki_3_C3 : PySem.W.kitOne K (.ref C3) (.ref C3) = some true)
    (xq7 : PySem.W.excIn K C7 [.type "ValueError", .type "Exception", .type "BaseException", .type "object"] "ValueError.__new__" = true)
    (kc7 : PySem.W.keepIn K (.ref C7) = true)
    (xt7 : PySem.W.typeIn K (.ref C7) = some (.type "type"))
    (xq1 : PySem.W.excIn K C1 [.type "ValueError", .type "Exception", .type "BaseException", .type "object"] "ValueError.__new__" = true)
    (kc1 : PySem.W.keepIn K (.ref C1) = true)
    (xt1 : PySem.W.typeIn K (.ref C1) = some (.type "type"))
    (xq14 : PySem.W.excIn K C14 [.type "ValueError", .type "Exception", .type "BaseException", .type "object"] "ValueError.__new__" = true)
    (kc14 : PySem.W.keepIn K (.ref C14) = true)
    (xt14 : PySem.W.typeIn K (.ref C14) = some (.type "type"))
    (z_range : PySem.W.nsIn K mainGlobals "range" = some none)
    (ki_10_C0 : PySem.W.kitOne K (.ref C10) (.ref C0) = some true)
    (ki_11_C0 : PySem.W.kitOne K (.ref C11) (.ref C0) = some true)
    (ki_6_C0 : PySem.W.kitOne K (.ref C6) (.ref C0) = some true)
    (ki_2_C0 : PySem.W.kitOne K (.ref C2) (.ref C0) = some true)
    (ki_4_C0 : PySem.W.kitOne K (.ref C4) (.ref C0) = some true)
    (ki_5_C0 : PySem.W.kitOne K (.ref C5) (.ref C0) = some true)
    (ki_8_C0 : PySem.W.kitOne K (.ref C8) (.ref C0) = some true)
    (ki_9_C0 : PySem.W.kitOne K (.ref C9) (.ref C0) = some true)
    (ki_7_C0 : PySem.W.kitOne K (.ref C7) (.ref C0) = some true)
    (ki_1_C0 : PySem.W.kitOne K (.ref C1) (.ref C0) = some true)
    (ki_13_C0 : PySem.W.kitOne K (.ref C13) (.ref C0) = some true)
    (ki_14_C0 : PySem.W.kitOne K (.ref C14) (.ref C0) = some true)
    (ki_12_C0 : PySem.W.kitOne K (.ref C12) (.ref C0) = some true)
    (ki_3_C0 : PySem.W.kitOne K (.ref C3) (.ref C0) = some true)
    (z_ValueError : PySem.W.nsIn K mainGlobals "ValueError" = some none)
    (ki_10_ValueError : PySem.W.kitOne K (.ref C10) (.type "ValueError") = some true)
    (ki_11_ValueError : PySem.W.kitOne K (.ref C11) (.type "ValueError") = some true)
    (ki_6_ValueError : PySem.W.kitOne K (.ref C6) (.type "ValueError") = some true)
    (ki_2_ValueError : PySem.W.kitOne K (.ref C2) (.type "ValueError") = some true)
    (ki_4_ValueError : PySem.W.kitOne K (.ref C4) (.type "ValueError") = some true)
    (ki_5_ValueError : PySem.W.kitOne K (.ref C5) (.type "ValueError") = some true)
    (ki_8_ValueError : PySem.W.kitOne K (.ref C8) (.type "ValueError") = some true)
    (ki_9_ValueError : PySem.W.kitOne K (.ref C9) (.type "ValueError") = some true)
    (ki_7_ValueError : PySem.W.kitOne K (.ref C7) (.type "ValueError") = some true)
    (ki_1_ValueError : PySem.W.kitOne K (.ref C1) (.type "ValueError") = some true)
    (ki_13_ValueError : PySem.W.kitOne K (.ref C13) (.type "ValueError") = some true)
    (ki_14_ValueError : PySem.W.kitOne K (.ref C14) (.type "ValueError") = some true)
    (ki_12_ValueError : PySem.W.kitOne K (.ref C12) (.type "ValueError") = some true)
    (ki_3_ValueError : PySem.W.kitOne K (.ref C3) (.type "ValueError") = some true)
    : ∃ fd : FuncData, (∀ (s : Shared) (v : Value), BindsTo s fd ⟨[v], []⟩ [("_law_script", v)]) ∧ ∀ base : Heap, K.In base → base.Ns mainGlobals mg → FnOk l.prog w K mg base (CX l.prog w) 4 fa fd ["_law_script"] (spLawD K) := by
  have e := hfa.symm.trans (PySem.W.mg_of X G a17)
  cases e
  have T : Tx w K mg (nthA [C0, C1, C2, C3, C4, C5, C6, C7, C8, C9, C10, C11, C12, C13, C14]) (nthA [f0, f1, f2, f3, f4, f5, f6, f7, f8, f9, f10, f11, f12, f13, f14, f15, f16, fa]) (nthA [0, 0, 0, 0, 0, 0, 0, 0, 0, 0, 0, 0, 0, 0, 0, 0, 0, 0]) (fun i => List.getD [(PySem.W.fnOf "__init__" "BadLine.__init__" (defArgs s0) (defBody s0) (defScope s0) .none kV0 dc0 pm0 an0 cd0 ct0), (PySem.W.fnOf "__init__" "UnknownName.__init__" (defArgs s1) (defBody s1) (defScope s1) .none kV1 dc1 pm1 an1 cd1 ct1), (PySem.W.fnOf "__init__" "BadName.__init__" (defArgs s2) (defBody s2) (defScope s2) .none kV2 dc2 pm2 an2 cd2 ct2), (PySem.W.fnOf "__init__" "BadNumber.__init__" (defArgs s3) (defBody s3) (defScope s3) .none kV3 dc3 pm3 an3 cd3 ct3), (PySem.W.fnOf "__init__" "BadLength.__init__" (defArgs s4) (defBody s4) (defScope s4) .none kV4 dc4 pm4 an4 cd4 ct4), (PySem.W.fnOf "__init__" "BadSize.__init__" (defArgs s5) (defBody s5) (defScope s5) .none kV5 dc5 pm5 an5 cd5 ct5), (PySem.W.fnOf "__init__" "BadSquare.__init__" (defArgs s6) (defBody s6) (defScope s6) .none kV6 dc6 pm6 an6 cd6 ct6), (PySem.W.fnOf "__init__" "BadBoard.__init__" (defArgs s7) (defBody s7) (defScope s7) .none kV7 dc7 pm7 an7 cd7 ct7), (PySem.W.fnOf "__init__" "BadCondition.__init__" (defArgs s8) (defBody s8) (defScope s8) .none kV8 dc8 pm8 an8 cd8 ct8), (PySem.W.fnOf "__init__" "UnknownBoard.__init__" (defArgs s9) (defBody s9) (defScope s9) .none kV9 dc9 pm9 an9 cd9 ct9), (PySem.W.fnOf "__init__" "Fails.__init__" (defArgs s10) (defBody s10) (defScope s10) .none kV10 dc10 pm10 an10 cd10 ct10), (PySem.W.fnOf "_law_tape" "_law_tape" (defArgs s11) (defBody s11) (defScope s11) .none kV11 dc11 pm11 an11 cd11 ct11), (PySem.W.fnOf "_law_pick" "_law_pick" (defArgs s12) (defBody s12) (defScope s12) .none kV12 dc12 pm12 an12 cd12 ct12), (PySem.W.fnOf "_law_thing" "_law_thing" (defArgs s13) (defBody s13) (defScope s13) .none kV13 dc13 pm13 an13 cd13 ct13), (PySem.W.fnOf "_law_single" "_law_single" (defArgs s14) (defBody s14) (defScope s14) .none kV14 dc14 pm14 an14 cd14 ct14), (PySem.W.fnOf "_law_double" "_law_double" (defArgs s15) (defBody s15) (defScope s15) .none kV15 dc15 pm15 an15 cd15 ct15), (PySem.W.fnOf "_law_kinds" "_law_kinds" (defArgs s16) (defBody s16) (defScope s16) .none kV16 dc16 pm16 an16 cd16 ct16), (PySem.W.fnOf "law" "law" (defArgs s17) (defBody s17) (defScope s17) .none kV17 dc17 pm17 an17 cd17 ct17)] i (PySem.W.fnOf "law" "law" (defArgs s17) (defBody s17) (defScope s17) .none kV17 dc17 pm17 an17 cd17 ct17)) := {
    F0 := fun_mk (st := s0) l0 c0 k0
    B0 := (fun_mk (st := s0) l0 c0 k0).binds (ps := ["self", "line"]) (fun _ _ _ _ _ _ us hl => match us, hl with | [_, _], _ => rfl)
    X2 := ⟨⟨⟨_, _, _, _, _, _, _, _, _, _, _, _, _, _, _, xl2, xr2⟩, sa2, xb2, xt2, kc2⟩, a0, xi0⟩
    na2_line := na2_line
    F1 := fun_mk (st := s1) l1 c1 k1
    B1 := (fun_mk (st := s1) l1 c1 k1).binds (ps := ["self", "line", "name"]) (fun _ _ _ _ _ _ us hl => match us, hl with | [_, _, _], _ => rfl)
    X3 := ⟨⟨⟨_, _, _, _, _, _, _, _, _, _, _, _, _, _, _, xl3, xr3⟩, sa3, xb3, xt3, kc3⟩, a1, xi1⟩
    na3_line := na3_line
    na3_name := na3_name
    F2 := fun_mk (st := s2) l2 c2 k2
    B2 := (fun_mk (st := s2) l2 c2 k2).binds (ps := ["self", "name"]) (fun _ _ _ _ _ _ us hl => match us, hl with | [_, _], _ => rfl)
    X4 := ⟨⟨⟨_, _, _, _, _, _, _, _, _, _, _, _, _, _, _, xl4, xr4⟩, sa4, xb4, xt4, kc4⟩, a2, xi2⟩
    na4_name := na4_name
    F3 := fun_mk (st := s3) l3 c3 k3
    B3 := (fun_mk (st := s3) l3 c3 k3).binds (ps := ["self", "number"]) (fun _ _ _ _ _ _ us hl => match us, hl with | [_, _], _ => rfl)
    X5 := ⟨⟨⟨_, _, _, _, _, _, _, _, _, _, _, _, _, _, _, xl5, xr5⟩, sa5, xb5, xt5, kc5⟩, a3, xi3⟩
    na5_number := na5_number
    F4 := fun_mk (st := s4) l4 c4 k4
    B4 := (fun_mk (st := s4) l4 c4 k4).binds (ps := ["self", "length"]) (fun _ _ _ _ _ _ us hl => match us, hl with | [_, _], _ => rfl)
    X6 := ⟨⟨⟨_, _, _, _, _, _, _, _, _, _, _, _, _, _, _, xl6, xr6⟩, sa6, xb6, xt6, kc6⟩, a4, xi4⟩
    na6_length := na6_length
    F5 := fun_mk (st := s5) l5 c5 k5
    B5 := (fun_mk (st := s5) l5 c5 k5).binds (ps := ["self", "width", "height"]) (fun _ _ _ _ _ _ us hl => match us, hl with | [_, _, _], _ => rfl)
    X8 := ⟨⟨⟨_, _, _, _, _, _, _, _, _, _, _, _, _, _, _, xl8, xr8⟩, sa8, xb8, xt8, kc8⟩, a5, xi5⟩
    na8_width := na8_width
    na8_height := na8_height
    F6 := fun_mk (st := s6) l6 c6 k6
    B6 := (fun_mk (st := s6) l6 c6 k6).binds (ps := ["self", "row", "column"]) (fun _ _ _ _ _ _ us hl => match us, hl with | [_, _, _], _ => rfl)
    X9 := ⟨⟨⟨_, _, _, _, _, _, _, _, _, _, _, _, _, _, _, xl9, xr9⟩, sa9, xb9, xt9, kc9⟩, a6, xi6⟩
    na9_row := na9_row
    na9_column := na9_column
    F7 := fun_mk (st := s7) l7 c7 k7
    B7 := (fun_mk (st := s7) l7 c7 k7).binds (ps := ["self", "name"]) (fun _ _ _ _ _ _ us hl => match us, hl with | [_, _], _ => rfl)
    X10 := ⟨⟨⟨_, _, _, _, _, _, _, _, _, _, _, _, _, _, _, xl10, xr10⟩, sa10, xb10, xt10, kc10⟩, a7, xi7⟩
    na10_name := na10_name
    F8 := fun_mk (st := s8) l8 c8 k8
    B8 := (fun_mk (st := s8) l8 c8 k8).binds (ps := ["self", "index"]) (fun _ _ _ _ _ _ us hl => match us, hl with | [_, _], _ => rfl)
    X11 := ⟨⟨⟨_, _, _, _, _, _, _, _, _, _, _, _, _, _, _, xl11, xr11⟩, sa11, xb11, xt11, kc11⟩, a8, xi8⟩
    na11_index := na11_index
    F9 := fun_mk (st := s9) l9 c9 k9
    B9 := (fun_mk (st := s9) l9 c9 k9).binds (ps := ["self", "name"]) (fun _ _ _ _ _ _ us hl => match us, hl with | [_, _], _ => rfl)
    X12 := ⟨⟨⟨_, _, _, _, _, _, _, _, _, _, _, _, _, _, _, xl12, xr12⟩, sa12, xb12, xt12, kc12⟩, a9, xi9⟩
    na12_name := na12_name
    F10 := fun_mk (st := s10) l10 c10 k10
    B10 := (fun_mk (st := s10) l10 c10 k10).binds (ps := ["self", "step"]) (fun _ _ _ _ _ _ us hl => match us, hl with | [_, _], _ => rfl)
    X13 := ⟨⟨⟨_, _, _, _, _, _, _, _, _, _, _, _, _, _, _, xl13, xr13⟩, sa13, xb13, xt13, kc13⟩, a10, xi10⟩
    na13_step := na13_step
    F11 := fun_mk (st := s11) l11 c11 k11
    B11 := (fun_mk (st := s11) l11 c11 k11).binds (ps := ["_law_script", "_law_k"]) (fun _ _ _ _ _ _ us hl => match us, hl with | [_, _], _ => rfl)
    z_len := PySem.W.mg_none_of X G z_len
    z_abs := PySem.W.mg_none_of X G z_abs
    F12 := fun_mk (st := s12) l12 c12 k12
    B12 := (fun_mk (st := s12) l12 c12 k12).binds (ps := ["_law_tape_here", "_law_many"]) (fun _ _ _ _ _ _ us hl => match us, hl with | [_, _], _ => rfl)
    z_int := PySem.W.mg_none_of X G z_int
    F13 := fun_mk (st := s13) l13 c13 k13
    B13 := (fun_mk (st := s13) l13 c13 k13).binds (ps := ["_law_tape_here"]) (fun _ _ _ _ _ _ us hl => match us, hl with | [_], _ => rfl)
    g12 := PySem.W.mg_of X G a12
    F14 := fun_mk (st := s14) l14 c14 k14
    B14 := (fun_mk (st := s14) l14 c14 k14).binds (ps := ["_law_a"]) (fun _ _ _ _ _ _ us hl => match us, hl with | [_], _ => rfl)
    gC10 := PySem.W.mg_of X G aC10
    gC11 := PySem.W.mg_of X G aC11
    gC6 := PySem.W.mg_of X G aC6
    gC2 := PySem.W.mg_of X G aC2
    gC4 := PySem.W.mg_of X G aC4
    gC5 := PySem.W.mg_of X G aC5
    gC13 := PySem.W.mg_of X G aC13
    gC12 := PySem.W.mg_of X G aC12
    AT_name_4_10_12 := att_mk ⟨⟨⟨xg4, xh4, xb4, hd4⟩, na4_name⟩, ⟨⟨xg10, xh10, xb10, hd10⟩, na10_name⟩, ⟨⟨xg12, xh12, xb12, hd12⟩, na12_name⟩, trivial⟩
    AT_index_11 := att_mk ⟨⟨⟨xg11, xh11, xb11, hd11⟩, na11_index⟩, trivial⟩
    AT_length_6 := att_mk ⟨⟨⟨xg6, xh6, xb6, hd6⟩, na6_length⟩, trivial⟩
    AT_line_2 := att_mk ⟨⟨⟨xg2, xh2, xb2, hd2⟩, na2_line⟩, trivial⟩
    AT_number_5 := att_mk ⟨⟨⟨xg5, xh5, xb5, hd5⟩, na5_number⟩, trivial⟩
    AT_step_13 := att_mk ⟨⟨⟨xg13, xh13, xb13, hd13⟩, na13_step⟩, trivial⟩
    AT_name_10 := att_mk ⟨⟨⟨xg10, xh10, xb10, hd10⟩, na10_name⟩, trivial⟩
    KB7_1_name := ⟨_, kbn_mk (pm := [0, 1]) (fun us ws h1 h2 => match us, ws, h1, h2 with | [_], [_], _, _ => rfl)⟩
    KB8_1_index := ⟨_, kbn_mk (pm := [0, 1]) (fun us ws h1 h2 => match us, ws, h1, h2 with | [_], [_], _, _ => rfl)⟩
    KB4_1_length := ⟨_, kbn_mk (pm := [0, 1]) (fun us ws h1 h2 => match us, ws, h1, h2 with | [_], [_], _, _ => rfl)⟩
    KB0_1_line := ⟨_, kbn_mk (pm := [0, 1]) (fun us ws h1 h2 => match us, ws, h1, h2 with | [_], [_], _, _ => rfl)⟩
    AT_name_4 := att_mk ⟨⟨⟨xg4, xh4, xb4, hd4⟩, na4_name⟩, trivial⟩
    KB2_1_name := ⟨_, kbn_mk (pm := [0, 1]) (fun us ws h1 h2 => match us, ws, h1, h2 with | [_], [_], _, _ => rfl)⟩
    KB3_1_number := ⟨_, kbn_mk (pm := [0, 1]) (fun us ws h1 h2 => match us, ws, h1, h2 with | [_], [_], _, _ => rfl)⟩
    KB10_1_step := ⟨_, kbn_mk (pm := [0, 1]) (fun us ws h1 h2 => match us, ws, h1, h2 with | [_], [_], _, _ => rfl)⟩
    AT_name_12 := att_mk ⟨⟨⟨xg12, xh12, xb12, hd12⟩, na12_name⟩, trivial⟩
    KB9_1_name := ⟨_, kbn_mk (pm := [0, 1]) (fun us ws h1 h2 => match us, ws, h1, h2 with | [_], [_], _, _ => rfl)⟩
    F15 := fun_mk (st := s15) l15 c15 k15
    B15 := (fun_mk (st := s15) l15 c15 k15).binds (ps := ["_law_a", "_law_b"]) (fun _ _ _ _ _ _ us hl => match us, hl with | [_, _], _ => rfl)
    gC8 := PySem.W.mg_of X G aC8
    gC9 := PySem.W.mg_of X G aC9
    gC3 := PySem.W.mg_of X G aC3
    AT_width_8 := att_mk ⟨⟨⟨xg8, xh8, xb8, hd8⟩, na8_width⟩, trivial⟩
    AT_height_8 := att_mk ⟨⟨⟨xg8, xh8, xb8, hd8⟩, na8_height⟩, trivial⟩
    AT_row_9 := att_mk ⟨⟨⟨xg9, xh9, xb9, hd9⟩, na9_row⟩, trivial⟩
    AT_column_9 := att_mk ⟨⟨⟨xg9, xh9, xb9, hd9⟩, na9_column⟩, trivial⟩
    AT_line_3 := att_mk ⟨⟨⟨xg3, xh3, xb3, hd3⟩, na3_line⟩, trivial⟩
    AT_name_3 := att_mk ⟨⟨⟨xg3, xh3, xb3, hd3⟩, na3_name⟩, trivial⟩
    KB5_1_height_width := ⟨_, kbn_mk (pm := [0, 2, 1]) (fun us ws h1 h2 => match us, ws, h1, h2 with | [_], [_, _], _, _ => rfl)⟩
    KB6_1_column_row := ⟨_, kbn_mk (pm := [0, 2, 1]) (fun us ws h1 h2 => match us, ws, h1, h2 with | [_], [_, _], _, _ => rfl)⟩
    KB1_1_name_line := ⟨_, kbn_mk (pm := [0, 2, 1]) (fun us ws h1 h2 => match us, ws, h1, h2 with | [_], [_, _], _, _ => rfl)⟩
    F16 := fun_mk (st := s16) l16 c16 k16
    B16 := (fun_mk (st := s16) l16 c16 k16).binds (ps := ["_law_e"]) (fun _ _ _ _ _ _ us hl => match us, hl with | [_], _ => rfl)
    IX0 := isx_mk ⟨⟨⟨xg10, xh10, xb10, hd10, ia10, ib_, ic_, id10⟩, ki_10_C10⟩, ⟨⟨xg11, xh11, xb11, hd11, ia11, ib_, ic_, id11⟩, ki_11_C10⟩, ⟨⟨xg6, xh6, xb6, hd6, ia6, ib_, ic_, id6⟩, ki_6_C10⟩, ⟨⟨xg2, xh2, xb2, hd2, ia2, ib_, ic_, id2⟩, ki_2_C10⟩, ⟨⟨xg4, xh4, xb4, hd4, ia4, ib_, ic_, id4⟩, ki_4_C10⟩, ⟨⟨xg5, xh5, xb5, hd5, ia5, ib_, ic_, id5⟩, ki_5_C10⟩, ⟨⟨xg8, xh8, xb8, hd8, ia8, ib_, ic_, id8⟩, ki_8_C10⟩, ⟨⟨xg9, xh9, xb9, hd9, ia9, ib_, ic_, id9⟩, ki_9_C10⟩, ⟨⟨xg7, xh7, xb7, hd7, ia7, ib_, ic_, id7⟩, ki_7_C10⟩, ⟨⟨xg1, xh1, xb1, hd1, ia1, ib_, ic_, id1⟩, ki_1_C10⟩, ⟨⟨xg13, xh13, xb13, hd13, ia13, ib_, ic_, id13⟩, ki_13_C10⟩, ⟨⟨xg14, xh14, xb14, hd14, ia14, ib_, ic_, id14⟩, ki_14_C10⟩, ⟨⟨xg12, xh12, xb12, hd12, ia12, ib_, ic_, id12⟩, ki_12_C10⟩, ⟨⟨xg3, xh3, xb3, hd3, ia3, ib_, ic_, id3⟩, ki_3_C10⟩, trivial⟩
    z_isinstance := PySem.W.mg_none_of X G z_isinstance
    IX1 := isx_mk ⟨⟨⟨xg10, xh10, xb10, hd10, ia10, ib_, ic_, id10⟩, ki_10_C11⟩, ⟨⟨xg11, xh11, xb11, hd11, ia11, ib_, ic_, id11⟩, ki_11_C11⟩, ⟨⟨xg6, xh6, xb6, hd6, ia6, ib_, ic_, id6⟩, ki_6_C11⟩, ⟨⟨xg2, xh2, xb2, hd2, ia2, ib_, ic_, id2⟩, ki_2_C11⟩, ⟨⟨xg4, xh4, xb4, hd4, ia4, ib_, ic_, id4⟩, ki_4_C11⟩, ⟨⟨xg5, xh5, xb5, hd5, ia5, ib_, ic_, id5⟩, ki_5_C11⟩, ⟨⟨xg8, xh8, xb8, hd8, ia8, ib_, ic_, id8⟩, ki_8_C11⟩, ⟨⟨xg9, xh9, xb9, hd9, ia9, ib_, ic_, id9⟩, ki_9_C11⟩, ⟨⟨xg7, xh7, xb7, hd7, ia7, ib_, ic_, id7⟩, ki_7_C11⟩, ⟨⟨xg1, xh1, xb1, hd1, ia1, ib_, ic_, id1⟩, ki_1_C11⟩, ⟨⟨xg13, xh13, xb13, hd13, ia13, ib_, ic_, id13⟩, ki_13_C11⟩, ⟨⟨xg14, xh14, xb14, hd14, ia14, ib_, ic_, id14⟩, ki_14_C11⟩, ⟨⟨xg12, xh12, xb12, hd12, ia12, ib_, ic_, id12⟩, ki_12_C11⟩, ⟨⟨xg3, xh3, xb3, hd3, ia3, ib_, ic_, id3⟩, ki_3_C11⟩, trivial⟩
    IX2 := isx_mk ⟨⟨⟨xg10, xh10, xb10, hd10, ia10, ib_, ic_, id10⟩, ki_10_C6⟩, ⟨⟨xg11, xh11, xb11, hd11, ia11, ib_, ic_, id11⟩, ki_11_C6⟩, ⟨⟨xg6, xh6, xb6, hd6, ia6, ib_, ic_, id6⟩, ki_6_C6⟩, ⟨⟨xg2, xh2, xb2, hd2, ia2, ib_, ic_, id2⟩, ki_2_C6⟩, ⟨⟨xg4, xh4, xb4, hd4, ia4, ib_, ic_, id4⟩, ki_4_C6⟩, ⟨⟨xg5, xh5, xb5, hd5, ia5, ib_, ic_, id5⟩, ki_5_C6⟩, ⟨⟨xg8, xh8, xb8, hd8, ia8, ib_, ic_, id8⟩, ki_8_C6⟩, ⟨⟨xg9, xh9, xb9, hd9, ia9, ib_, ic_, id9⟩, ki_9_C6⟩, ⟨⟨xg7, xh7, xb7, hd7, ia7, ib_, ic_, id7⟩, ki_7_C6⟩, ⟨⟨xg1, xh1, xb1, hd1, ia1, ib_, ic_, id1⟩, ki_1_C6⟩, ⟨⟨xg13, xh13, xb13, hd13, ia13, ib_, ic_, id13⟩, ki_13_C6⟩, ⟨⟨xg14, xh14, xb14, hd14, ia14, ib_, ic_, id14⟩, ki_14_C6⟩, ⟨⟨xg12, xh12, xb12, hd12, ia12, ib_, ic_, id12⟩, ki_12_C6⟩, ⟨⟨xg3, xh3, xb3, hd3, ia3, ib_, ic_, id3⟩, ki_3_C6⟩, trivial⟩
    IX3 := isx_mk ⟨⟨⟨xg10, xh10, xb10, hd10, ia10, ib_, ic_, id10⟩, ki_10_C2⟩, ⟨⟨xg11, xh11, xb11, hd11, ia11, ib_, ic_, id11⟩, ki_11_C2⟩, ⟨⟨xg6, xh6, xb6, hd6, ia6, ib_, ic_, id6⟩, ki_6_C2⟩, ⟨⟨xg2, xh2, xb2, hd2, ia2, ib_, ic_, id2⟩, ki_2_C2⟩, ⟨⟨xg4, xh4, xb4, hd4, ia4, ib_, ic_, id4⟩, ki_4_C2⟩, ⟨⟨xg5, xh5, xb5, hd5, ia5, ib_, ic_, id5⟩, ki_5_C2⟩, ⟨⟨xg8, xh8, xb8, hd8, ia8, ib_, ic_, id8⟩, ki_8_C2⟩, ⟨⟨xg9, xh9, xb9, hd9, ia9, ib_, ic_, id9⟩, ki_9_C2⟩, ⟨⟨xg7, xh7, xb7, hd7, ia7, ib_, ic_, id7⟩, ki_7_C2⟩, ⟨⟨xg1, xh1, xb1, hd1, ia1, ib_, ic_, id1⟩, ki_1_C2⟩, ⟨⟨xg13, xh13, xb13, hd13, ia13, ib_, ic_, id13⟩, ki_13_C2⟩, ⟨⟨xg14, xh14, xb14, hd14, ia14, ib_, ic_, id14⟩, ki_14_C2⟩, ⟨⟨xg12, xh12, xb12, hd12, ia12, ib_, ic_, id12⟩, ki_12_C2⟩, ⟨⟨xg3, xh3, xb3, hd3, ia3, ib_, ic_, id3⟩, ki_3_C2⟩, trivial⟩
    IX4 := isx_mk ⟨⟨⟨xg10, xh10, xb10, hd10, ia10, ib_, ic_, id10⟩, ki_10_C4⟩, ⟨⟨xg11, xh11, xb11, hd11, ia11, ib_, ic_, id11⟩, ki_11_C4⟩, ⟨⟨xg6, xh6, xb6, hd6, ia6, ib_, ic_, id6⟩, ki_6_C4⟩, ⟨⟨xg2, xh2, xb2, hd2, ia2, ib_, ic_, id2⟩, ki_2_C4⟩, ⟨⟨xg4, xh4, xb4, hd4, ia4, ib_, ic_, id4⟩, ki_4_C4⟩, ⟨⟨xg5, xh5, xb5, hd5, ia5, ib_, ic_, id5⟩, ki_5_C4⟩, ⟨⟨xg8, xh8, xb8, hd8, ia8, ib_, ic_, id8⟩, ki_8_C4⟩, ⟨⟨xg9, xh9, xb9, hd9, ia9, ib_, ic_, id9⟩, ki_9_C4⟩, ⟨⟨xg7, xh7, xb7, hd7, ia7, ib_, ic_, id7⟩, ki_7_C4⟩, ⟨⟨xg1, xh1, xb1, hd1, ia1, ib_, ic_, id1⟩, ki_1_C4⟩, ⟨⟨xg13, xh13, xb13, hd13, ia13, ib_, ic_, id13⟩, ki_13_C4⟩, ⟨⟨xg14, xh14, xb14, hd14, ia14, ib_, ic_, id14⟩, ki_14_C4⟩, ⟨⟨xg12, xh12, xb12, hd12, ia12, ib_, ic_, id12⟩, ki_12_C4⟩, ⟨⟨xg3, xh3, xb3, hd3, ia3, ib_, ic_, id3⟩, ki_3_C4⟩, trivial⟩
    IX5 := isx_mk ⟨⟨⟨xg10, xh10, xb10, hd10, ia10, ib_, ic_, id10⟩, ki_10_C5⟩, ⟨⟨xg11, xh11, xb11, hd11, ia11, ib_, ic_, id11⟩, ki_11_C5⟩, ⟨⟨xg6, xh6, xb6, hd6, ia6, ib_, ic_, id6⟩, ki_6_C5⟩, ⟨⟨xg2, xh2, xb2, hd2, ia2, ib_, ic_, id2⟩, ki_2_C5⟩, ⟨⟨xg4, xh4, xb4, hd4, ia4, ib_, ic_, id4⟩, ki_4_C5⟩, ⟨⟨xg5, xh5, xb5, hd5, ia5, ib_, ic_, id5⟩, ki_5_C5⟩, ⟨⟨xg8, xh8, xb8, hd8, ia8, ib_, ic_, id8⟩, ki_8_C5⟩, ⟨⟨xg9, xh9, xb9, hd9, ia9, ib_, ic_, id9⟩, ki_9_C5⟩, ⟨⟨xg7, xh7, xb7, hd7, ia7, ib_, ic_, id7⟩, ki_7_C5⟩, ⟨⟨xg1, xh1, xb1, hd1, ia1, ib_, ic_, id1⟩, ki_1_C5⟩, ⟨⟨xg13, xh13, xb13, hd13, ia13, ib_, ic_, id13⟩, ki_13_C5⟩, ⟨⟨xg14, xh14, xb14, hd14, ia14, ib_, ic_, id14⟩, ki_14_C5⟩, ⟨⟨xg12, xh12, xb12, hd12, ia12, ib_, ic_, id12⟩, ki_12_C5⟩, ⟨⟨xg3, xh3, xb3, hd3, ia3, ib_, ic_, id3⟩, ki_3_C5⟩, trivial⟩
    IX6 := isx_mk ⟨⟨⟨xg10, xh10, xb10, hd10, ia10, ib_, ic_, id10⟩, ki_10_C8⟩, ⟨⟨xg11, xh11, xb11, hd11, ia11, ib_, ic_, id11⟩, ki_11_C8⟩, ⟨⟨xg6, xh6, xb6, hd6, ia6, ib_, ic_, id6⟩, ki_6_C8⟩, ⟨⟨xg2, xh2, xb2, hd2, ia2, ib_, ic_, id2⟩, ki_2_C8⟩, ⟨⟨xg4, xh4, xb4, hd4, ia4, ib_, ic_, id4⟩, ki_4_C8⟩, ⟨⟨xg5, xh5, xb5, hd5, ia5, ib_, ic_, id5⟩, ki_5_C8⟩, ⟨⟨xg8, xh8, xb8, hd8, ia8, ib_, ic_, id8⟩, ki_8_C8⟩, ⟨⟨xg9, xh9, xb9, hd9, ia9, ib_, ic_, id9⟩, ki_9_C8⟩, ⟨⟨xg7, xh7, xb7, hd7, ia7, ib_, ic_, id7⟩, ki_7_C8⟩, ⟨⟨xg1, xh1, xb1, hd1, ia1, ib_, ic_, id1⟩, ki_1_C8⟩, ⟨⟨xg13, xh13, xb13, hd13, ia13, ib_, ic_, id13⟩, ki_13_C8⟩, ⟨⟨xg14, xh14, xb14, hd14, ia14, ib_, ic_, id14⟩, ki_14_C8⟩, ⟨⟨xg12, xh12, xb12, hd12, ia12, ib_, ic_, id12⟩, ki_12_C8⟩, ⟨⟨xg3, xh3, xb3, hd3, ia3, ib_, ic_, id3⟩, ki_3_C8⟩, trivial⟩
    IX7 := isx_mk ⟨⟨⟨xg10, xh10, xb10, hd10, ia10, ib_, ic_, id10⟩, ki_10_C9⟩, ⟨⟨xg11, xh11, xb11, hd11, ia11, ib_, ic_, id11⟩, ki_11_C9⟩, ⟨⟨xg6, xh6, xb6, hd6, ia6, ib_, ic_, id6⟩, ki_6_C9⟩, ⟨⟨xg2, xh2, xb2, hd2, ia2, ib_, ic_, id2⟩, ki_2_C9⟩, ⟨⟨xg4, xh4, xb4, hd4, ia4, ib_, ic_, id4⟩, ki_4_C9⟩, ⟨⟨xg5, xh5, xb5, hd5, ia5, ib_, ic_, id5⟩, ki_5_C9⟩, ⟨⟨xg8, xh8, xb8, hd8, ia8, ib_, ic_, id8⟩, ki_8_C9⟩, ⟨⟨xg9, xh9, xb9, hd9, ia9, ib_, ic_, id9⟩, ki_9_C9⟩, ⟨⟨xg7, xh7, xb7, hd7, ia7, ib_, ic_, id7⟩, ki_7_C9⟩, ⟨⟨xg1, xh1, xb1, hd1, ia1, ib_, ic_, id1⟩, ki_1_C9⟩, ⟨⟨xg13, xh13, xb13, hd13, ia13, ib_, ic_, id13⟩, ki_13_C9⟩, ⟨⟨xg14, xh14, xb14, hd14, ia14, ib_, ic_, id14⟩, ki_14_C9⟩, ⟨⟨xg12, xh12, xb12, hd12, ia12, ib_, ic_, id12⟩, ki_12_C9⟩, ⟨⟨xg3, xh3, xb3, hd3, ia3, ib_, ic_, id3⟩, ki_3_C9⟩, trivial⟩
    gC7 := PySem.W.mg_of X G aC7
    IX8 := isx_mk ⟨⟨⟨xg10, xh10, xb10, hd10, ia10, ib_, ic_, id10⟩, ki_10_C7⟩, ⟨⟨xg11, xh11, xb11, hd11, ia11, ib_, ic_, id11⟩, ki_11_C7⟩, ⟨⟨xg6, xh6, xb6, hd6, ia6, ib_, ic_, id6⟩, ki_6_C7⟩, ⟨⟨xg2, xh2, xb2, hd2, ia2, ib_, ic_, id2⟩, ki_2_C7⟩, ⟨⟨xg4, xh4, xb4, hd4, ia4, ib_, ic_, id4⟩, ki_4_C7⟩, ⟨⟨xg5, xh5, xb5, hd5, ia5, ib_, ic_, id5⟩, ki_5_C7⟩, ⟨⟨xg8, xh8, xb8, hd8, ia8, ib_, ic_, id8⟩, ki_8_C7⟩, ⟨⟨xg9, xh9, xb9, hd9, ia9, ib_, ic_, id9⟩, ki_9_C7⟩, ⟨⟨xg7, xh7, xb7, hd7, ia7, ib_, ic_, id7⟩, ki_7_C7⟩, ⟨⟨xg1, xh1, xb1, hd1, ia1, ib_, ic_, id1⟩, ki_1_C7⟩, ⟨⟨xg13, xh13, xb13, hd13, ia13, ib_, ic_, id13⟩, ki_13_C7⟩, ⟨⟨xg14, xh14, xb14, hd14, ia14, ib_, ic_, id14⟩, ki_14_C7⟩, ⟨⟨xg12, xh12, xb12, hd12, ia12, ib_, ic_, id12⟩, ki_12_C7⟩, ⟨⟨xg3, xh3, xb3, hd3, ia3, ib_, ic_, id3⟩, ki_3_C7⟩, trivial⟩
    gC1 := PySem.W.mg_of X G aC1
    IX9 := isx_mk ⟨⟨⟨xg10, xh10, xb10, hd10, ia10, ib_, ic_, id10⟩, ki_10_C1⟩, ⟨⟨xg11, xh11, xb11, hd11, ia11, ib_, ic_, id11⟩, ki_11_C1⟩, ⟨⟨xg6, xh6, xb6, hd6, ia6, ib_, ic_, id6⟩, ki_6_C1⟩, ⟨⟨xg2, xh2, xb2, hd2, ia2, ib_, ic_, id2⟩, ki_2_C1⟩, ⟨⟨xg4, xh4, xb4, hd4, ia4, ib_, ic_, id4⟩, ki_4_C1⟩, ⟨⟨xg5, xh5, xb5, hd5, ia5, ib_, ic_, id5⟩, ki_5_C1⟩, ⟨⟨xg8, xh8, xb8, hd8, ia8, ib_, ic_, id8⟩, ki_8_C1⟩, ⟨⟨xg9, xh9, xb9, hd9, ia9, ib_, ic_, id9⟩, ki_9_C1⟩, ⟨⟨xg7, xh7, xb7, hd7, ia7, ib_, ic_, id7⟩, ki_7_C1⟩, ⟨⟨xg1, xh1, xb1, hd1, ia1, ib_, ic_, id1⟩, ki_1_C1⟩, ⟨⟨xg13, xh13, xb13, hd13, ia13, ib_, ic_, id13⟩, ki_13_C1⟩, ⟨⟨xg14, xh14, xb14, hd14, ia14, ib_, ic_, id14⟩, ki_14_C1⟩, ⟨⟨xg12, xh12, xb12, hd12, ia12, ib_, ic_, id12⟩, ki_12_C1⟩, ⟨⟨xg3, xh3, xb3, hd3, ia3, ib_, ic_, id3⟩, ki_3_C1⟩, trivial⟩
    IX10 := isx_mk ⟨⟨⟨xg10, xh10, xb10, hd10, ia10, ib_, ic_, id10⟩, ki_10_C13⟩, ⟨⟨xg11, xh11, xb11, hd11, ia11, ib_, ic_, id11⟩, ki_11_C13⟩, ⟨⟨xg6, xh6, xb6, hd6, ia6, ib_, ic_, id6⟩, ki_6_C13⟩, ⟨⟨xg2, xh2, xb2, hd2, ia2, ib_, ic_, id2⟩, ki_2_C13⟩, ⟨⟨xg4, xh4, xb4, hd4, ia4, ib_, ic_, id4⟩, ki_4_C13⟩, ⟨⟨xg5, xh5, xb5, hd5, ia5, ib_, ic_, id5⟩, ki_5_C13⟩, ⟨⟨xg8, xh8, xb8, hd8, ia8, ib_, ic_, id8⟩, ki_8_C13⟩, ⟨⟨xg9, xh9, xb9, hd9, ia9, ib_, ic_, id9⟩, ki_9_C13⟩, ⟨⟨xg7, xh7, xb7, hd7, ia7, ib_, ic_, id7⟩, ki_7_C13⟩, ⟨⟨xg1, xh1, xb1, hd1, ia1, ib_, ic_, id1⟩, ki_1_C13⟩, ⟨⟨xg13, xh13, xb13, hd13, ia13, ib_, ic_, id13⟩, ki_13_C13⟩, ⟨⟨xg14, xh14, xb14, hd14, ia14, ib_, ic_, id14⟩, ki_14_C13⟩, ⟨⟨xg12, xh12, xb12, hd12, ia12, ib_, ic_, id12⟩, ki_12_C13⟩, ⟨⟨xg3, xh3, xb3, hd3, ia3, ib_, ic_, id3⟩, ki_3_C13⟩, trivial⟩
    gC14 := PySem.W.mg_of X G aC14
    IX11 := isx_mk ⟨⟨⟨xg10, xh10, xb10, hd10, ia10, ib_, ic_, id10⟩, ki_10_C14⟩, ⟨⟨xg11, xh11, xb11, hd11, ia11, ib_, ic_, id11⟩, ki_11_C14⟩, ⟨⟨xg6, xh6, xb6, hd6, ia6, ib_, ic_, id6⟩, ki_6_C14⟩, ⟨⟨xg2, xh2, xb2, hd2, ia2, ib_, ic_, id2⟩, ki_2_C14⟩, ⟨⟨xg4, xh4, xb4, hd4, ia4, ib_, ic_, id4⟩, ki_4_C14⟩, ⟨⟨xg5, xh5, xb5, hd5, ia5, ib_, ic_, id5⟩, ki_5_C14⟩, ⟨⟨xg8, xh8, xb8, hd8, ia8, ib_, ic_, id8⟩, ki_8_C14⟩, ⟨⟨xg9, xh9, xb9, hd9, ia9, ib_, ic_, id9⟩, ki_9_C14⟩, ⟨⟨xg7, xh7, xb7, hd7, ia7, ib_, ic_, id7⟩, ki_7_C14⟩, ⟨⟨xg1, xh1, xb1, hd1, ia1, ib_, ic_, id1⟩, ki_1_C14⟩, ⟨⟨xg13, xh13, xb13, hd13, ia13, ib_, ic_, id13⟩, ki_13_C14⟩, ⟨⟨xg14, xh14, xb14, hd14, ia14, ib_, ic_, id14⟩, ki_14_C14⟩, ⟨⟨xg12, xh12, xb12, hd12, ia12, ib_, ic_, id12⟩, ki_12_C14⟩, ⟨⟨xg3, xh3, xb3, hd3, ia3, ib_, ic_, id3⟩, ki_3_C14⟩, trivial⟩
    IX12 := isx_mk ⟨⟨⟨xg10, xh10, xb10, hd10, ia10, ib_, ic_, id10⟩, ki_10_C12⟩, ⟨⟨xg11, xh11, xb11, hd11, ia11, ib_, ic_, id11⟩, ki_11_C12⟩, ⟨⟨xg6, xh6, xb6, hd6, ia6, ib_, ic_, id6⟩, ki_6_C12⟩, ⟨⟨xg2, xh2, xb2, hd2, ia2, ib_, ic_, id2⟩, ki_2_C12⟩, ⟨⟨xg4, xh4, xb4, hd4, ia4, ib_, ic_, id4⟩, ki_4_C12⟩, ⟨⟨xg5, xh5, xb5, hd5, ia5, ib_, ic_, id5⟩, ki_5_C12⟩, ⟨⟨xg8, xh8, xb8, hd8, ia8, ib_, ic_, id8⟩, ki_8_C12⟩, ⟨⟨xg9, xh9, xb9, hd9, ia9, ib_, ic_, id9⟩, ki_9_C12⟩, ⟨⟨xg7, xh7, xb7, hd7, ia7, ib_, ic_, id7⟩, ki_7_C12⟩, ⟨⟨xg1, xh1, xb1, hd1, ia1, ib_, ic_, id1⟩, ki_1_C12⟩, ⟨⟨xg13, xh13, xb13, hd13, ia13, ib_, ic_, id13⟩, ki_13_C12⟩, ⟨⟨xg14, xh14, xb14, hd14, ia14, ib_, ic_, id14⟩, ki_14_C12⟩, ⟨⟨xg12, xh12, xb12, hd12, ia12, ib_, ic_, id12⟩, ki_12_C12⟩, ⟨⟨xg3, xh3, xb3, hd3, ia3, ib_, ic_, id3⟩, ki_3_C12⟩, trivial⟩
    IX13 := isx_mk ⟨⟨⟨xg10, xh10, xb10, hd10, ia10, ib_, ic_, id10⟩, ki_10_C3⟩, ⟨⟨xg11, xh11, xb11, hd11, ia11, ib_, ic_, id11⟩, ki_11_C3⟩, ⟨⟨xg6, xh6, xb6, hd6, ia6, ib_, ic_, id6⟩, ki_6_C3⟩, ⟨⟨xg2, xh2, xb2, hd2, ia2, ib_, ic_, id2⟩, ki_2_C3⟩, ⟨⟨xg4, xh4, xb4, hd4, ia4, ib_, ic_, id4⟩, ki_4_C3⟩, ⟨⟨xg5, xh5, xb5, hd5, ia5, ib_, ic_, id5⟩, ki_5_C3⟩, ⟨⟨xg8, xh8, xb8, hd8, ia8, ib_, ic_, id8⟩, ki_8_C3⟩, ⟨⟨xg9, xh9, xb9, hd9, ia9, ib_, ic_, id9⟩, ki_9_C3⟩, ⟨⟨xg7, xh7, xb7, hd7, ia7, ib_, ic_, id7⟩, ki_7_C3⟩, ⟨⟨xg1, xh1, xb1, hd1, ia1, ib_, ic_, id1⟩, ki_1_C3⟩, ⟨⟨xg13, xh13, xb13, hd13, ia13, ib_, ic_, id13⟩, ki_13_C3⟩, ⟨⟨xg14, xh14, xb14, hd14, ia14, ib_, ic_, id14⟩, ki_14_C3⟩, ⟨⟨xg12, xh12, xb12, hd12, ia12, ib_, ic_, id12⟩, ki_12_C3⟩, ⟨⟨xg3, xh3, xb3, hd3, ia3, ib_, ic_, id3⟩, ki_3_C3⟩, trivial⟩
    F17 := fun_mk (st := s17) l17 c17 k17
    B17 := (fun_mk (st := s17) l17 c17 k17).binds (ps := ["_law_script"]) (fun _ _ _ _ _ _ us hl => match us, hl with | [_], _ => rfl)
    g11 := PySem.W.mg_of X G a11
    g13 := PySem.W.mg_of X G a13
    g14 := PySem.W.mg_of X G a14
    g15 := PySem.W.mg_of X G a15
    X7 := ⟨xq7, kc7, xb7, xt7⟩
    X1 := ⟨xq1, kc1, xb1, xt1⟩
    X14 := ⟨xq14, kc14, xb14, xt14⟩
    z_range := PySem.W.mg_none_of X G z_range
    gC0 := PySem.W.mg_of X G aC0
    IX14 := isx_mk ⟨⟨⟨xg10, xh10, xb10, hd10, ia10, ib_, ic_, id10⟩, ki_10_C0⟩, ⟨⟨xg11, xh11, xb11, hd11, ia11, ib_, ic_, id11⟩, ki_11_C0⟩, ⟨⟨xg6, xh6, xb6, hd6, ia6, ib_, ic_, id6⟩, ki_6_C0⟩, ⟨⟨xg2, xh2, xb2, hd2, ia2, ib_, ic_, id2⟩, ki_2_C0⟩, ⟨⟨xg4, xh4, xb4, hd4, ia4, ib_, ic_, id4⟩, ki_4_C0⟩, ⟨⟨xg5, xh5, xb5, hd5, ia5, ib_, ic_, id5⟩, ki_5_C0⟩, ⟨⟨xg8, xh8, xb8, hd8, ia8, ib_, ic_, id8⟩, ki_8_C0⟩, ⟨⟨xg9, xh9, xb9, hd9, ia9, ib_, ic_, id9⟩, ki_9_C0⟩, ⟨⟨xg7, xh7, xb7, hd7, ia7, ib_, ic_, id7⟩, ki_7_C0⟩, ⟨⟨xg1, xh1, xb1, hd1, ia1, ib_, ic_, id1⟩, ki_1_C0⟩, ⟨⟨xg13, xh13, xb13, hd13, ia13, ib_, ic_, id13⟩, ki_13_C0⟩, ⟨⟨xg14, xh14, xb14, hd14, ia14, ib_, ic_, id14⟩, ki_14_C0⟩, ⟨⟨xg12, xh12, xb12, hd12, ia12, ib_, ic_, id12⟩, ki_12_C0⟩, ⟨⟨xg3, xh3, xb3, hd3, ia3, ib_, ic_, id3⟩, ki_3_C0⟩, trivial⟩
    z_ValueError := PySem.W.mg_none_of X G z_ValueError
    IX15 := isx_mk ⟨⟨⟨xg10, xh10, xb10, hd10, ia10, ib_, ic_, id10⟩, ki_10_ValueError⟩, ⟨⟨xg11, xh11, xb11, hd11, ia11, ib_, ic_, id11⟩, ki_11_ValueError⟩, ⟨⟨xg6, xh6, xb6, hd6, ia6, ib_, ic_, id6⟩, ki_6_ValueError⟩, ⟨⟨xg2, xh2, xb2, hd2, ia2, ib_, ic_, id2⟩, ki_2_ValueError⟩, ⟨⟨xg4, xh4, xb4, hd4, ia4, ib_, ic_, id4⟩, ki_4_ValueError⟩, ⟨⟨xg5, xh5, xb5, hd5, ia5, ib_, ic_, id5⟩, ki_5_ValueError⟩, ⟨⟨xg8, xh8, xb8, hd8, ia8, ib_, ic_, id8⟩, ki_8_ValueError⟩, ⟨⟨xg9, xh9, xb9, hd9, ia9, ib_, ic_, id9⟩, ki_9_ValueError⟩, ⟨⟨xg7, xh7, xb7, hd7, ia7, ib_, ic_, id7⟩, ki_7_ValueError⟩, ⟨⟨xg1, xh1, xb1, hd1, ia1, ib_, ic_, id1⟩, ki_1_ValueError⟩, ⟨⟨xg13, xh13, xb13, hd13, ia13, ib_, ic_, id13⟩, ki_13_ValueError⟩, ⟨⟨xg14, xh14, xb14, hd14, ia14, ib_, ic_, id14⟩, ki_14_ValueError⟩, ⟨⟨xg12, xh12, xb12, hd12, ia12, ib_, ic_, id12⟩, ki_12_ValueError⟩, ⟨⟨xg3, xh3, xb3, hd3, ia3, ib_, ic_, id3⟩, ki_3_ValueError⟩, trivial⟩
    g16 := PySem.W.mg_of X G a16
  }
  exact ⟨_, fun s v => .of_eq rfl, fun base _ _ => law_fn rfl (ok17 T) law_sem⟩
theorem walk {l : PySem.W.OpenLaw} {q : Program} {loose : List Str} {XP : (Str → Option Value) → Heap → Prop} {YP : World → Heap → Prop} {d : DefRec} {K : Params → PySem.W.Frag} (hn : l.most = some 63) (hdf : d.params.defaults = [])
    (hY : ∀ (w : World) (h : Heap), YP w h → (K w.params).In h)
    (F : ∀ (w : World) (mg : Str → Option Value) (fa : Addr) (h : Heap), (K w.params).In h → h.Ns mainGlobals mg → mg d.name = some (.ref fa) →
      ∃ fd : FuncData, (∀ (s : Shared) (u : Value), BindsTo s fd ⟨[u], []⟩ [("_law_script", u)]) ∧ ∀ base : Heap, (K w.params).In base → base.Ns mainGlobals mg → FnOk l.prog w (K w.params) mg base (CX l.prog w) 4 fa fd ["_law_script"] (spLawD (K w.params))) :
    PySem.W.WalkO q loose XP YP l.row.toRowW d [] (fun f vs => PySem.call f vs) :=
  L2.walk_of (n := 63) (k := 4) (x := "_law_script") (CX := fun w => CX l.prog w) (sp := fun w => spLawD (K w.params)) hn (by decide) hdf ⟨rfl, by decide, by decide⟩ hY F (fun _ _ a ns hl _ hS => ⟨a, ns, rfl, hS, hl, fun _ => rfl⟩) fun _ _ _ _ _ z => by
    obtain ⟨_, _, _, _, _, _, _, _, _, _, _, _, z⟩ := z
    exact z
end K13
open PySem PySem.W PyProof.Rows
set_option maxRecDepth 100000 in
set_option maxHeartbeats 0 in
theorem PySem.Challenge.cw_boardbits_k13_errors_holds : PySem.Challenge.rw_boardbits_k13_errors.Holds := by
  w_on; o_law; k_head; (case hw => w_witness2)
  k_fill
  refine K13.walk (l := PySem.Challenge.rw_boardbits_k13_errors) rfl rfl (fun w h Y => PySem.W.kIn_of Y) ?F
  case F =>
    intro w mg fa h KX G hmg
    refine' K13.all_mk KX G hmg ?aC0 ?aC1 ?aC2 ?aC3 ?aC4 ?aC5 ?aC6 ?aC7 ?aC8 ?aC9 ?aC10 ?aC11 ?aC12 ?aC13 ?aC14 ?a0 ?l0 ?c0 ?k0 ?a1 ?l1 ?c1 ?k1 ?a2 ?l2 ?c2 ?k2 ?a3 ?l3 ?c3 ?k3 ?a4 ?l4 ?c4 ?k4 ?a5 ?l5 ?c5 ?k5 ?a6 ?l6 ?c6 ?k6 ?a7 ?l7 ?c7 ?k7 ?a8 ?l8 ?c8 ?k8 ?a9 ?l9 ?c9 ?k9 ?a10 ?l10 ?c10 ?k10 ?a11 ?l11 ?c11 ?k11 ?a12 ?l12 ?c12 ?k12 ?a13 ?l13 ?c13 ?k13 ?a14 ?l14 ?c14 ?k14 ?a15 ?l15 ?c15 ?k15 ?a16 ?l16 ?c16 ?k16 ?a17 ?l17 ?c17 ?k17 ?xl2 ?xr2 ?sa2 ?xb2 ?xt2 ?kc2 ?xi0 ?na2_line ?xl3 ?xr3 ?sa3 ?xb3 ?xt3 ?kc3 ?xi1 ?na3_line ?na3_name ?xl4 ?xr4 ?sa4 ?xb4 ?xt4 ?kc4 ?xi2 ?na4_name ?xl5 ?xr5 ?sa5 ?xb5 ?xt5 ?kc5 ?xi3 ?na5_number ?xl6 ?xr6 ?sa6 ?xb6 ?xt6 ?kc6 ?xi4 ?na6_length ?xl8 ?xr8 ?sa8 ?xb8 ?xt8 ?kc8 ?xi5 ?na8_width ?na8_height ?xl9 ?xr9 ?sa9 ?xb9 ?xt9 ?kc9 ?xi6 ?na9_row ?na9_column ?xl10 ?xr10 ?sa10 ?xb10 ?xt10 ?kc10 ?xi7 ?na10_name ?xl11 ?xr11 ?sa11 ?xb11 ?xt11 ?kc11 ?xi8 ?na11_index ?xl12 ?xr12 ?sa12 ?xb12 ?xt12 ?kc12 ?xi9 ?na12_name ?xl13 ?xr13 ?sa13 ?xb13 ?xt13 ?kc13 ?xi10 ?na13_step ?z_len ?z_abs ?z_int ?xg4 ?xh4 ?hd4 ?xg10 ?xh10 ?hd10 ?xg12 ?xh12 ?hd12 ?xg11 ?xh11 ?hd11 ?xg6 ?xh6 ?hd6 ?xg2 ?xh2 ?hd2 ?xg5 ?xh5 ?hd5 ?xg13 ?xh13 ?hd13 ?xg8 ?xh8 ?hd8 ?xg9 ?xh9 ?hd9 ?xg3 ?xh3 ?hd3 ?ia10 ?ib_ ?ic_ ?id10 ?ki_10_C10 ?ia11 ?id11 ?ki_11_C10 ?ia6 ?id6 ?ki_6_C10 ?ia2 ?id2 ?ki_2_C10 ?ia4 ?id4 ?ki_4_C10 ?ia5 ?id5 ?ki_5_C10 ?ia8 ?id8 ?ki_8_C10 ?ia9 ?id9 ?ki_9_C10 ?xg7 ?xh7 ?xb7 ?hd7 ?ia7 ?id7 ?ki_7_C10 ?xg1 ?xh1 ?xb1 ?hd1 ?ia1 ?id1 ?ki_1_C10 ?ia13 ?id13 ?ki_13_C10 ?xg14 ?xh14 ?xb14 ?hd14 ?ia14 ?id14 ?ki_14_C10 ?ia12 ?id12 ?ki_12_C10 ?ia3 ?id3 ?ki_3_C10 ?z_isinstance ?ki_10_C11 ?ki_11_C11 ?ki_6_C11 ?ki_2_C11 ?ki_4_C11 ?ki_5_C11 ?ki_8_C11 ?ki_9_C11 ?ki_7_C11 ?ki_1_C11 ?ki_13_C11 ?ki_14_C11 ?ki_12_C11 ?ki_3_C11 ?ki_10_C6 ?ki_11_C6 ?ki_6_C6 ?ki_2_C6 ?ki_4_C6 ?ki_5_C6 ?ki_8_C6 ?ki_9_C6 ?ki_7_C6 ?ki_1_C6 ?ki_13_C6 ?ki_14_C6 ?ki_12_C6 ?ki_3_C6 ?ki_10_C2 ?ki_11_C2 ?ki_6_C2 ?ki_2_C2 ?ki_4_C2 ?ki_5_C2 ?ki_8_C2 ?ki_9_C2 ?ki_7_C2 ?ki_1_C2 ?ki_13_C2 ?ki_14_C2 ?ki_12_C2 ?ki_3_C2 ?ki_10_C4 ?ki_11_C4 ?ki_6_C4 ?ki_2_C4 ?ki_4_C4 ?ki_5_C4 ?ki_8_C4 ?ki_9_C4 ?ki_7_C4 ?ki_1_C4 ?ki_13_C4 ?ki_14_C4 ?ki_12_C4 ?ki_3_C4 ?ki_10_C5 ?ki_11_C5 ?ki_6_C5 ?ki_2_C5 ?ki_4_C5 ?ki_5_C5 ?ki_8_C5 ?ki_9_C5 ?ki_7_C5 ?ki_1_C5 ?ki_13_C5 ?ki_14_C5 ?ki_12_C5 ?ki_3_C5 ?ki_10_C8 ?ki_11_C8 ?ki_6_C8 ?ki_2_C8 ?ki_4_C8 ?ki_5_C8 ?ki_8_C8 ?ki_9_C8 ?ki_7_C8 ?ki_1_C8 ?ki_13_C8 ?ki_14_C8 ?ki_12_C8 ?ki_3_C8 ?ki_10_C9 ?ki_11_C9 ?ki_6_C9 ?ki_2_C9 ?ki_4_C9 ?ki_5_C9 ?ki_8_C9 ?ki_9_C9 ?ki_7_C9 ?ki_1_C9 ?ki_13_C9 ?ki_14_C9 ?ki_12_C9 ?ki_3_C9 ?ki_10_C7 ?ki_11_C7 ?ki_6_C7 ?ki_2_C7 ?ki_4_C7 ?ki_5_C7 ?ki_8_C7 ?ki_9_C7 ?ki_7_C7 ?ki_1_C7 ?ki_13_C7 ?ki_14_C7 ?ki_12_C7 ?ki_3_C7 ?ki_10_C1 ?ki_11_C1 ?ki_6_C1 ?ki_2_C1 ?ki_4_C1 ?ki_5_C1 ?ki_8_C1 ?ki_9_C1 ?ki_7_C1 ?ki_1_C1 ?ki_13_C1 ?ki_14_C1 ?ki_12_C1 ?ki_3_C1 ?ki_10_C13 ?ki_11_C13 ?ki_6_C13 ?ki_2_C13 ?ki_4_C13 ?ki_5_C13 ?ki_8_C13 ?ki_9_C13 ?ki_7_C13 ?ki_1_C13 ?ki_13_C13 ?ki_14_C13 ?ki_12_C13 ?ki_3_C13 ?ki_10_C14 ?ki_11_C14 ?ki_6_C14 ?ki_2_C14 ?ki_4_C14 ?ki_5_C14 ?ki_8_C14 ?ki_9_C14 ?ki_7_C14 ?ki_1_C14 ?ki_13_C14 ?ki_14_C14 ?ki_12_C14 ?ki_3_C14 ?ki_10_C12 ?ki_11_C12 ?ki_6_C12 ?ki_2_C12 ?ki_4_C12 ?ki_5_C12 ?ki_8_C12 ?ki_9_C12 ?ki_7_C12 ?ki_1_C12 ?ki_13_C12 ?ki_14_C12 ?ki_12_C12 ?ki_3_C12 ?ki_10_C3 ?ki_11_C3 ?ki_6_C3 ?ki_2_C3 ?ki_4_C3 ?ki_5_C3 ?ki_8_C3 ?ki_9_C3 ?ki_7_C3 ?ki_1_C3 ?ki_13_C3 ?ki_14_C3 ?ki_12_C3 ?ki_3_C3 ?xq7 ?kc7 ?xt7 ?xq1 ?kc1 ?xt1 ?xq14 ?kc14 ?xt14 ?z_range ?ki_10_C0 ?ki_11_C0 ?ki_6_C0 ?ki_2_C0 ?ki_4_C0 ?ki_5_C0 ?ki_8_C0 ?ki_9_C0 ?ki_7_C0 ?ki_1_C0 ?ki_13_C0 ?ki_14_C0 ?ki_12_C0 ?ki_3_C0 ?z_ValueError ?ki_10_ValueError ?ki_11_ValueError ?ki_6_ValueError ?ki_2_ValueError ?ki_4_ValueError ?ki_5_ValueError ?ki_8_ValueError ?ki_9_ValueError ?ki_7_ValueError ?ki_1_ValueError ?ki_13_ValueError ?ki_14_ValueError ?ki_12_ValueError ?ki_3_ValueError
    (case aC0 => k_is)
    (case aC1 => k_is)
    (case aC2 => k_is)
    (case aC3 => k_is)
    (case aC4 => k_is)
    (case aC5 => k_is)
    (case aC6 => k_is)
    (case aC7 => k_is)
    (case aC8 => k_is)
    (case aC9 => k_is)
    (case aC10 => k_is)
    (case aC11 => k_is)
    (case aC12 => k_is)
    (case aC13 => k_is)
    (case aC14 => k_is)
    (case a0 => k_is)
    (case l0 => k_is)
    (case c0 => k_is)
    (case k0 => k_is)
    (case a1 => k_is)
    (case l1 => k_is)
    (case c1 => k_is)
    (case k1 => k_is)
    (case a2 => k_is)
    (case l2 => k_is)
    (case c2 => k_is)
    (case k2 => k_is)
    (case a3 => k_is)
    (case l3 => k_is)
    (case c3 => k_is)
    (case k3 => k_is)
    (case a4 => k_is)
    (case l4 => k_is)
    (case c4 => k_is)
    (case k4 => k_is)
    (case a5 => k_is)
    (case l5 => k_is)
    (case c5 => k_is)
    (case k5 => k_is)
    (case a6 => k_is)
    (case l6 => k_is)
    (case c6 => k_is)
    (case k6 => k_is)
    (case a7 => k_is)
    (case l7 => k_is)
    (case c7 => k_is)
    (case k7 => k_is)
    (case a8 => k_is)
    (case l8 => k_is)
    (case c8 => k_is)
    (case k8 => k_is)
    (case a9 => k_is)
    (case l9 => k_is)
    (case c9 => k_is)
    (case k9 => k_is)
    (case a10 => k_is)
    (case l10 => k_is)
    (case c10 => k_is)
    (case k10 => k_is)
    (case a11 => k_is)
    (case l11 => k_is)
    (case c11 => k_is)
    (case k11 => k_is)
    (case a12 => k_is)
    (case l12 => k_is)
    (case c12 => k_is)
    (case k12 => k_is)
    (case a13 => k_is)
    (case l13 => k_is)
    (case c13 => k_is)
    (case k13 => k_is)
    (case a14 => k_is)
    (case l14 => k_is)
    (case c14 => k_is)
    (case k14 => k_is)
    (case a15 => k_is)
    (case l15 => k_is)
    (case c15 => k_is)
    (case k15 => k_is)
    (case a16 => k_is)
    (case l16 => k_is)
    (case c16 => k_is)
    (case k16 => k_is)
    (case a17 => k_is)
    (case l17 => k_is)
    (case c17 => k_is)
    (case k17 => k_is)
    (case xl2 => k_is)
    (case xr2 => kernel_rfl)
    (case sa2 => k_is)
    (case xb2 => k_is)
    (case xt2 => k_is)
    (case kc2 => k_is)
    (case xi0 => k_is)
    (case na2_line => k_is)
    (case xl3 => k_is)
    (case xr3 => kernel_rfl)
    (case sa3 => k_is)
    (case xb3 => k_is)
    (case xt3 => k_is)
    (case kc3 => k_is)
    (case xi1 => k_is)
    (case na3_line => k_is)
    (case na3_name => k_is)
    (case xl4 => k_is)
    (case xr4 => kernel_rfl)
    (case sa4 => k_is)
    (case xb4 => k_is)
    (case xt4 => k_is)
    (case kc4 => k_is)
    (case xi2 => k_is)
    (case na4_name => k_is)
    (case xl5 => k_is)
    (case xr5 => kernel_rfl)
    (case sa5 => k_is)
    (case xb5 => k_is)
    (case xt5 => k_is)
    (case kc5 => k_is)
    (case xi3 => k_is)
    (case na5_number => k_is)
    (case xl6 => k_is)
    (case xr6 => kernel_rfl)
    (case sa6 => k_is)
    (case xb6 => k_is)
    (case xt6 => k_is)
    (case kc6 => k_is)
    (case xi4 => k_is)
    (case na6_length => k_is)
    (case xl8 => k_is)
    (case xr8 => kernel_rfl)
    (case sa8 => k_is)
    (case xb8 => k_is)
    (case xt8 => k_is)
    (case kc8 => k_is)
    (case xi5 => k_is)
    (case na8_width => k_is)
    (case na8_height => k_is)
    (case xl9 => k_is)
    (case xr9 => kernel_rfl)
    (case sa9 => k_is)
    (case xb9 => k_is)
    (case xt9 => k_is)
    (case kc9 => k_is)
    (case xi6 => k_is)
    (case na9_row => k_is)
    (case na9_column => k_is)
    (case xl10 => k_is)
    (case xr10 => kernel_rfl)
    (case sa10 => k_is)
    (case xb10 => k_is)
    (case xt10 => k_is)
    (case kc10 => k_is)
    (case xi7 => k_is)
    (case na10_name => k_is)
    (case xl11 => k_is)
    (case xr11 => kernel_rfl)
    (case sa11 => k_is)
    (case xb11 => k_is)
    (case xt11 => k_is)
    (case kc11 => k_is)
    (case xi8 => k_is)
    (case na11_index => k_is)
    (case xl12 => k_is)
    (case xr12 => kernel_rfl)
    (case sa12 => k_is)
    (case xb12 => k_is)
    (case xt12 => k_is)
    (case kc12 => k_is)
    (case xi9 => k_is)
    (case na12_name => k_is)
    (case xl13 => k_is)
    (case xr13 => kernel_rfl)
    (case sa13 => k_is)
    (case xb13 => k_is)
    (case xt13 => k_is)
    (case kc13 => k_is)
    (case xi10 => k_is)
    (case na13_step => k_is)
    (case z_len => k_is)
    (case z_abs => k_is)
    (case z_int => k_is)
    (case xg4 => k_is)
    (case xh4 => k_is)
    (case hd4 => k_is)
    (case xg10 => k_is)
    (case xh10 => k_is)
    (case hd10 => k_is)
    (case xg12 => k_is)
    (case xh12 => k_is)
    (case hd12 => k_is)
    (case xg11 => k_is)
    (case xh11 => k_is)
    (case hd11 => k_is)
    (case xg6 => k_is)
    (case xh6 => k_is)
    (case hd6 => k_is)
    (case xg2 => k_is)
    (case xh2 => k_is)
    (case hd2 => k_is)
    (case xg5 => k_is)
    (case xh5 => k_is)
    (case hd5 => k_is)
    (case xg13 => k_is)
    (case xh13 => k_is)
    (case hd13 => k_is)
    (case xg8 => k_is)
    (case xh8 => k_is)
    (case hd8 => k_is)
    (case xg9 => k_is)
    (case xh9 => k_is)
    (case hd9 => k_is)
    (case xg3 => k_is)
    (case xh3 => k_is)
    (case hd3 => k_is)
    (case ia10 => k_is)
    (case ib_ => k_is)
    (case ic_ => k_is)
    (case id10 => k_is)
    (case ki_10_C10 => kernel_rfl)
    (case ia11 => k_is)
    (case id11 => k_is)
    (case ki_11_C10 => kernel_rfl)
    (case ia6 => k_is)
    (case id6 => k_is)
    (case ki_6_C10 => kernel_rfl)
    (case ia2 => k_is)
    (case id2 => k_is)
    (case ki_2_C10 => kernel_rfl)
    (case ia4 => k_is)
    (case id4 => k_is)
    (case ki_4_C10 => kernel_rfl)
    (case ia5 => k_is)
    (case id5 => k_is)
    (case ki_5_C10 => kernel_rfl)
    (case ia8 => k_is)
    (case id8 => k_is)
    (case ki_8_C10 => kernel_rfl)
    (case ia9 => k_is)
    (case id9 => k_is)
    (case ki_9_C10 => kernel_rfl)
    (case xg7 => k_is)
    (case xh7 => k_is)
    (case xb7 => k_is)
    (case hd7 => k_is)
    (case ia7 => k_is)
    (case id7 => k_is)
    (case ki_7_C10 => kernel_rfl)
    (case xg1 => k_is)
    (case xh1 => k_is)
    (case xb1 => k_is)
    (case hd1 => k_is)
    (case ia1 => k_is)
    (case id1 => k_is)
    (case ki_1_C10 => kernel_rfl)
    (case ia13 => k_is)
    (case id13 => k_is)
    (case ki_13_C10 => kernel_rfl)
    (case xg14 => k_is)
    (case xh14 => k_is)
    (case xb14 => k_is)
    (case hd14 => k_is)
    (case ia14 => k_is)
    (case id14 => k_is)
    (case ki_14_C10 => kernel_rfl)
    (case ia12 => k_is)
    (case id12 => k_is)
    (case ki_12_C10 => kernel_rfl)
    (case ia3 => k_is)
    (case id3 => k_is)
    (case ki_3_C10 => kernel_rfl)
    (case z_isinstance => k_is)
    (case ki_10_C11 => kernel_rfl)
    (case ki_11_C11 => kernel_rfl)
    (case ki_6_C11 => kernel_rfl)
    (case ki_2_C11 => kernel_rfl)
    (case ki_4_C11 => kernel_rfl)
    (case ki_5_C11 => kernel_rfl)
    (case ki_8_C11 => kernel_rfl)
    (case ki_9_C11 => kernel_rfl)
    (case ki_7_C11 => kernel_rfl)
    (case ki_1_C11 => kernel_rfl)
    (case ki_13_C11 => kernel_rfl)
    (case ki_14_C11 => kernel_rfl)
    (case ki_12_C11 => kernel_rfl)
    (case ki_3_C11 => kernel_rfl)
    (case ki_10_C6 => kernel_rfl)
    (case ki_11_C6 => kernel_rfl)
    (case ki_6_C6 => kernel_rfl)
    (case ki_2_C6 => kernel_rfl)
    (case ki_4_C6 => kernel_rfl)
    (case ki_5_C6 => kernel_rfl)
    (case ki_8_C6 => kernel_rfl)
    (case ki_9_C6 => kernel_rfl)
    (case ki_7_C6 => kernel_rfl)
    (case ki_1_C6 => kernel_rfl)
    (case ki_13_C6 => kernel_rfl)
    (case ki_14_C6 => kernel_rfl)
    (case ki_12_C6 => kernel_rfl)
    (case ki_3_C6 => kernel_rfl)
    (case ki_10_C2 => kernel_rfl)
    (case ki_11_C2 => kernel_rfl)
    (case ki_6_C2 => kernel_rfl)
    (case ki_2_C2 => kernel_rfl)
    (case ki_4_C2 => kernel_rfl)
    (case ki_5_C2 => kernel_rfl)
    (case ki_8_C2 => kernel_rfl)
    (case ki_9_C2 => kernel_rfl)
    (case ki_7_C2 => kernel_rfl)
    (case ki_1_C2 => kernel_rfl)
    (case ki_13_C2 => kernel_rfl)
    (case ki_14_C2 => kernel_rfl)
    (case ki_12_C2 => kernel_rfl)
    (case ki_3_C2 => kernel_rfl)
    (case ki_10_C4 => kernel_rfl)
    (case ki_11_C4 => kernel_rfl)
    (case ki_6_C4 => kernel_rfl)
    (case ki_2_C4 => kernel_rfl)
    (case ki_4_C4 => kernel_rfl)
    (case ki_5_C4 => kernel_rfl)
    (case ki_8_C4 => kernel_rfl)
    (case ki_9_C4 => kernel_rfl)
    (case ki_7_C4 => kernel_rfl)
    (case ki_1_C4 => kernel_rfl)
    (case ki_13_C4 => kernel_rfl)
    (case ki_14_C4 => kernel_rfl)
    (case ki_12_C4 => kernel_rfl)
    (case ki_3_C4 => kernel_rfl)
    (case ki_10_C5 => kernel_rfl)
    (case ki_11_C5 => kernel_rfl)
    (case ki_6_C5 => kernel_rfl)
    (case ki_2_C5 => kernel_rfl)
    (case ki_4_C5 => kernel_rfl)
    (case ki_5_C5 => kernel_rfl)
    (case ki_8_C5 => kernel_rfl)
    (case ki_9_C5 => kernel_rfl)
    (case ki_7_C5 => kernel_rfl)
    (case ki_1_C5 => kernel_rfl)
    (case ki_13_C5 => kernel_rfl)
    (case ki_14_C5 => kernel_rfl)
    (case ki_12_C5 => kernel_rfl)
    (case ki_3_C5 => kernel_rfl)
    (case ki_10_C8 => kernel_rfl)
    (case ki_11_C8 => kernel_rfl)
    (case ki_6_C8 => kernel_rfl)
    (case ki_2_C8 => kernel_rfl)
    (case ki_4_C8 => kernel_rfl)
    (case ki_5_C8 => kernel_rfl)
    (case ki_8_C8 => kernel_rfl)
    (case ki_9_C8 => kernel_rfl)
    (case ki_7_C8 => kernel_rfl)
    (case ki_1_C8 => kernel_rfl)
    (case ki_13_C8 => kernel_rfl)
    (case ki_14_C8 => kernel_rfl)
    (case ki_12_C8 => kernel_rfl)
    (case ki_3_C8 => kernel_rfl)
    (case ki_10_C9 => kernel_rfl)
    (case ki_11_C9 => kernel_rfl)
    (case ki_6_C9 => kernel_rfl)
    (case ki_2_C9 => kernel_rfl)
    (case ki_4_C9 => kernel_rfl)
    (case ki_5_C9 => kernel_rfl)
    (case ki_8_C9 => kernel_rfl)
    (case ki_9_C9 => kernel_rfl)
    (case ki_7_C9 => kernel_rfl)
    (case ki_1_C9 => kernel_rfl)
    (case ki_13_C9 => kernel_rfl)
    (case ki_14_C9 => kernel_rfl)
    (case ki_12_C9 => kernel_rfl)
    (case ki_3_C9 => kernel_rfl)
    (case ki_10_C7 => kernel_rfl)
    (case ki_11_C7 => kernel_rfl)
    (case ki_6_C7 => kernel_rfl)
    (case ki_2_C7 => kernel_rfl)
    (case ki_4_C7 => kernel_rfl)
    (case ki_5_C7 => kernel_rfl)
    (case ki_8_C7 => kernel_rfl)
    (case ki_9_C7 => kernel_rfl)
    (case ki_7_C7 => kernel_rfl)
    (case ki_1_C7 => kernel_rfl)
    (case ki_13_C7 => kernel_rfl)
    (case ki_14_C7 => kernel_rfl)
    (case ki_12_C7 => kernel_rfl)
    (case ki_3_C7 => kernel_rfl)
    (case ki_10_C1 => kernel_rfl)
    (case ki_11_C1 => kernel_rfl)
    (case ki_6_C1 => kernel_rfl)
    (case ki_2_C1 => kernel_rfl)
    (case ki_4_C1 => kernel_rfl)
    (case ki_5_C1 => kernel_rfl)
    (case ki_8_C1 => kernel_rfl)
    (case ki_9_C1 => kernel_rfl)
    (case ki_7_C1 => kernel_rfl)
    (case ki_1_C1 => kernel_rfl)
    (case ki_13_C1 => kernel_rfl)
    (case ki_14_C1 => kernel_rfl)
    (case ki_12_C1 => kernel_rfl)
    (case ki_3_C1 => kernel_rfl)
    (case ki_10_C13 => kernel_rfl)
    (case ki_11_C13 => kernel_rfl)
    (case ki_6_C13 => kernel_rfl)
    (case ki_2_C13 => kernel_rfl)
    (case ki_4_C13 => kernel_rfl)
    (case ki_5_C13 => kernel_rfl)
    (case ki_8_C13 => kernel_rfl)
    (case ki_9_C13 => kernel_rfl)
    (case ki_7_C13 => kernel_rfl)
    (case ki_1_C13 => kernel_rfl)
    (case ki_13_C13 => kernel_rfl)
    (case ki_14_C13 => kernel_rfl)
    (case ki_12_C13 => kernel_rfl)
    (case ki_3_C13 => kernel_rfl)
    (case ki_10_C14 => kernel_rfl)
    (case ki_11_C14 => kernel_rfl)
    (case ki_6_C14 => kernel_rfl)
    (case ki_2_C14 => kernel_rfl)
    (case ki_4_C14 => kernel_rfl)
    (case ki_5_C14 => kernel_rfl)
    (case ki_8_C14 => kernel_rfl)
    (case ki_9_C14 => kernel_rfl)
    (case ki_7_C14 => kernel_rfl)
    (case ki_1_C14 => kernel_rfl)
    (case ki_13_C14 => kernel_rfl)
    (case ki_14_C14 => kernel_rfl)
    (case ki_12_C14 => kernel_rfl)
    (case ki_3_C14 => kernel_rfl)
    (case ki_10_C12 => kernel_rfl)
    (case ki_11_C12 => kernel_rfl)
    (case ki_6_C12 => kernel_rfl)
    (case ki_2_C12 => kernel_rfl)
    (case ki_4_C12 => kernel_rfl)
    (case ki_5_C12 => kernel_rfl)
    (case ki_8_C12 => kernel_rfl)
    (case ki_9_C12 => kernel_rfl)
    (case ki_7_C12 => kernel_rfl)
    (case ki_1_C12 => kernel_rfl)
    (case ki_13_C12 => kernel_rfl)
    (case ki_14_C12 => kernel_rfl)
    (case ki_12_C12 => kernel_rfl)
    (case ki_3_C12 => kernel_rfl)
    (case ki_10_C3 => kernel_rfl)
    (case ki_11_C3 => kernel_rfl)
    (case ki_6_C3 => kernel_rfl)
    (case ki_2_C3 => kernel_rfl)
    (case ki_4_C3 => kernel_rfl)
    (case ki_5_C3 => kernel_rfl)
    (case ki_8_C3 => kernel_rfl)
    (case ki_9_C3 => kernel_rfl)
    (case ki_7_C3 => kernel_rfl)
    (case ki_1_C3 => kernel_rfl)
    (case ki_13_C3 => kernel_rfl)
    (case ki_14_C3 => kernel_rfl)
    (case ki_12_C3 => kernel_rfl)
    (case ki_3_C3 => kernel_rfl)
    (case xq7 => kernel_rfl)
    (case kc7 => k_is)
    (case xt7 => k_is)
    (case xq1 => kernel_rfl)
    (case kc1 => k_is)
    (case xt1 => k_is)
    (case xq14 => kernel_rfl)
    (case kc14 => k_is)
    (case xt14 => k_is)
    (case z_range => k_is)
    (case ki_10_C0 => kernel_rfl)
    (case ki_11_C0 => kernel_rfl)
    (case ki_6_C0 => kernel_rfl)
    (case ki_2_C0 => kernel_rfl)
    (case ki_4_C0 => kernel_rfl)
    (case ki_5_C0 => kernel_rfl)
    (case ki_8_C0 => kernel_rfl)
    (case ki_9_C0 => kernel_rfl)
    (case ki_7_C0 => kernel_rfl)
    (case ki_1_C0 => kernel_rfl)
    (case ki_13_C0 => kernel_rfl)
    (case ki_14_C0 => kernel_rfl)
    (case ki_12_C0 => kernel_rfl)
    (case ki_3_C0 => kernel_rfl)
    (case z_ValueError => k_is)
    (case ki_10_ValueError => kernel_rfl)
    (case ki_11_ValueError => kernel_rfl)
    (case ki_6_ValueError => kernel_rfl)
    (case ki_2_ValueError => kernel_rfl)
    (case ki_4_ValueError => kernel_rfl)
    (case ki_5_ValueError => kernel_rfl)
    (case ki_8_ValueError => kernel_rfl)
    (case ki_9_ValueError => kernel_rfl)
    (case ki_7_ValueError => kernel_rfl)
    (case ki_1_ValueError => kernel_rfl)
    (case ki_13_ValueError => kernel_rfl)
    (case ki_14_ValueError => kernel_rfl)
    (case ki_12_ValueError => kernel_rfl)
    (case ki_3_ValueError => kernel_rfl)
#print axioms PySem.Challenge.cw_boardbits_k13_errors_holds

