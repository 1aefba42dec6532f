import PyProof.Rows.All
import Wide.All
import OpenK.AllK
import Wide.FinOn
import HandS.ForMost
import HandS.ForExc
import HandS.CallSlots
import HandS.Lambda
import HandS.TupAny
import HandS.Deep
import HandS.Star
import HandS.Style
import HandS.Defaults
import HandS.IsInst
import HandS.Zip
import KE.GoesMore
import HandS.TupLe
import HandS.Head0
import HandS.Head1
import HandS.Head2
import HandS.HeadEnd
import HandS.HeadHook1
import HandS.HeadHook2
import HandS.TupMul
import HandS.Conv
import KE.SortData
import HandS.SortRule
import HandS.NoneIn
import PyProof.ReprRoads
import PyProof.CallFns
import PyProof.Rows.FactsT3
import KE.DataMinMax
import HandS.SortKw
import HandS.HeadHook3
import HandS.Nested
import HandS.ExcInit
import HandS.ExcField
import HandS.TryMany
import KE.KExcSuper
import KE.DataMinKey
import HandS.FltList
import HandS.Flow
import HandS.ExcIs
import KE.KExcIs
import KE.KTryMore
import HandS.HeadHook4
import HandS.NestedK
import PySem.Challenge.RW_asklast_k31_claims_refused
import PyProof.ReprLen
import PyProof.Rows.ReprOcc
set_option Elab.async false
set_option linter.all false
set_option maxRecDepth 100000
set_option maxHeartbeats 4000000
/-! D1: plain values W, the memory of what may change, results; how they stand in the layer's heap. -/
namespace Dn
open PySem PySem.Spec PyProof.Rows L2

/-- a value as plain data: tuples and settled lists by their items; what may change by its number in the memory -/
inductive W where
  | non | bl (b : Bool) | int (i : Int) | str (x : Str)
  | tup (xs : List W) | lst (xs : List W) | old (xs : List W) | ref (n : Nat) | raw (v : V)

/-- an object of the memory: a list that may change, one that is settled, a dict, an instance of the class c -/
inductive Cell where
  | lst (xs : List W) | fz (xs : List W) | dct (kvs : List (Key × W)) | ins (c : Nat) (fs : List (Str × W))
  /-- a caught exception of the class c; a dict whose keys are tuples -/
  | exn (c : Nat) (fs : List (Str × W)) | dtt (kvs : List (List Key × W))

abbrev Mem := List Cell
structure Exn where
  cls : Nat
  fs : List (Str × W)

/-- how a run ends: a value, an error, or nothing is told -/
inductive R (α : Type) where
  | ok (a : α) (m : Mem) | exc (x : Exn) (m : Mem) | bad

def R.bind {α β : Type} (r : R α) (k : α → Mem → R β) : R β :=
  match r with
  | .ok a m => k a m
  | .exc x m => .exc x m
  | .bad => .bad
abbrev Rho := List (Option W)
abbrev DE := Rho → Mem → R W
abbrev DT := Rho → Mem → R Bool
abbrev DA := Rho → Mem → R (List W)
/-- how a statement ends -/
inductive RS where
  | next (r : Rho) (m : Mem) | brk (r : Rho) (m : Mem) | cont (r : Rho) (m : Mem) | ret (w : W) (m : Mem) | exc (x : Exn) (r : Rho) (m : Mem) | bad
abbrev DS := Rho → Mem → RS

/-! ### how plain values stand in the heap -/
/-- Z: lists that are settled; hold: what a loop of ours holds as it is; phi: where the memory's objects stand -/
structure Zn where
  Z : Addr → Prop
  hold : Addr → Prop
  phi : List Addr

def KList (K : PySem.W.Frag) (a : Addr) (xs : List V) : Prop :=
  ∃ (o : Obj) (its : Array Value) (n : Nat), K.lookup a = some o ∧ o.cls = .type "list" ∧ o.dict = none ∧ o.data = .seq its n ∧ its.size ≤ sizeLine ∧ Vals xs its.toList
/-- a list of the outside: the script, a module's own -/
def OldL (K : PySem.W.Frag) (H : Hp) (a : Addr) (xs : List V) : Prop := (∃ o, H a = some (.frz o (.lst xs))) ∨ KList K a xs
theorem OldL.sq {K : PySem.W.Frag} {H : Hp} {a : Addr} {xs : List V} (h : OldL K H a xs) : SqL K H a xs := by
  rcases h with h | h
  · exact .inl (.inr h)
  · exact .inr h

mutual
def RW (K : PySem.W.Frag) (z : Zn) (H : Hp) : W → V → Prop
  | .non, v => v = .non
  | .bl b, v => v = .bl b
  | .int i, v => v = .int i
  | .str x, v => v = .str x
  | .tup ws, v => ∃ a vs, v = .ref a ∧ SqT K H a vs ∧ RWs K z H ws vs
  | .lst ws, v => ∃ a vs, v = .ref a ∧ (z.Z a ∧ H a = some (.lst vs)) ∧ RWs K z H ws vs
  | .old ws, v => ∃ a vs, v = .ref a ∧ OldL K H a vs ∧ RWs K z H ws vs
  | .ref n, v => ∃ a, z.phi[n]? = some a ∧ v = .ref a
  | .raw u, v => v = u
def RWs (K : PySem.W.Frag) (z : Zn) (H : Hp) : List W → List V → Prop
  | [], vs => vs = []
  | w :: ws, vs => ∃ v r, vs = v :: r ∧ RW K z H w v ∧ RWs K z H ws r
end

/-- the heap goes on: tuples and settled lists stay, places stay -/
structure Ext0 (z : Zn) (H : Hp) (z' : Zn) (H' : Hp) : Prop where
  tups : ∀ a xs, H a = some (.tup xs) → H' a = some (.tup xs)
  frzs : ∀ a o u, H a = some (.frz o u) → H' a = some (.frz o u)
  zs : ∀ a, z.Z a → z'.Z a ∧ H' a = H a
  ph : ∀ (n : Nat) a, z.phi[n]? = some a → z'.phi[n]? = some a
  xts : ∀ a p, H a = some (.ext p) → H' a = some (.ext p)
/-- .. and what is held stays -/
structure Ext (z : Zn) (H : Hp) (z' : Zn) (H' : Hp) : Prop where
  e0 : Ext0 z H z' H'
  hs : ∀ a, z.hold a → z'.hold a ∧ H' a = H a
theorem Ext0.refl (z : Zn) (H : Hp) : Ext0 z H z H := ⟨fun _ _ h => h, fun _ _ _ h => h, fun _ h => ⟨h, rfl⟩, fun _ _ h => h, fun _ _ h => h⟩
theorem Ext0.trans {z z1 z2 : Zn} {H H1 H2 : Hp} (a : Ext0 z H z1 H1) (b : Ext0 z1 H1 z2 H2) : Ext0 z H z2 H2 :=
  ⟨fun c xs h => b.tups c xs (a.tups c xs h), fun c o u h => b.frzs c o u (a.frzs c o u h),
   fun c h => ⟨(b.zs c (a.zs c h).1).1, (b.zs c (a.zs c h).1).2.trans (a.zs c h).2⟩,
   fun n c h => b.ph n c (a.ph n c h), fun c p h => b.xts c p (a.xts c p h)⟩
theorem Ext.refl (z : Zn) (H : Hp) : Ext z H z H := ⟨Ext0.refl z H, fun _ h => ⟨h, rfl⟩⟩
theorem Ext.trans {z z1 z2 : Zn} {H H1 H2 : Hp} (a : Ext z H z1 H1) (b : Ext z1 H1 z2 H2) : Ext z H z2 H2 :=
  ⟨a.e0.trans b.e0, fun c h => ⟨(b.hs c (a.hs c h).1).1, (b.hs c (a.hs c h).1).2.trans (a.hs c h).2⟩⟩

section
variable {K : PySem.W.Frag} {z z' : Zn} {H H' : Hp}
theorem Ext0.sqT (e : Ext0 z H z' H') {a : Addr} {xs : List V} (h : SqT K H a xs) : SqT K H' a xs := by
  rcases h with (h | ⟨o, h⟩) | h
  · exact .inl (.inl (e.tups _ _ h))
  · exact .inl (.inr ⟨o, e.frzs _ _ _ h⟩)
  · exact .inr h
theorem Ext0.oldL (e : Ext0 z H z' H') {a : Addr} {xs : List V} (h : OldL K H a xs) : OldL K H' a xs := by
  rcases h with ⟨o, h⟩ | h
  · exact .inl ⟨o, e.frzs _ _ _ h⟩
  · exact .inr h
mutual
theorem RW.ext0 (e : Ext0 z H z' H') : ∀ {w : W} {v : V}, RW K z H w v → RW K z' H' w v
  | .non, _, h => h
  | .bl _, _, h => h
  | .int _, _, h => h
  | .str _, _, h => h
  | .tup ws, _, ⟨a, vs, h1, h2, h3⟩ => ⟨a, vs, h1, e.sqT h2, RWs.ext0 e h3⟩
  | .lst ws, _, ⟨a, vs, h1, h2, h3⟩ => ⟨a, vs, h1, ⟨(e.zs a h2.1).1, (e.zs a h2.1).2.trans h2.2⟩, RWs.ext0 e h3⟩
  | .old ws, _, ⟨a, vs, h1, h2, h3⟩ => ⟨a, vs, h1, e.oldL h2, RWs.ext0 e h3⟩
  | .ref n, _, ⟨a, h1, h2⟩ => ⟨a, e.ph n a h1, h2⟩
  | .raw _, _, h => h
theorem RWs.ext0 (e : Ext0 z H z' H') : ∀ {ws : List W} {vs : List V}, RWs K z H ws vs → RWs K z' H' ws vs
  | [], _, h => h
  | _ :: _, _, ⟨v, r, h1, h2, h3⟩ => ⟨v, r, h1, RW.ext0 e h2, RWs.ext0 e h3⟩
end
theorem RW.ext (e : Ext z H z' H') {w : W} {v : V} (h : RW K z H w v) : RW K z' H' w v := h.ext0 e.e0
theorem RWs.ext (e : Ext z H z' H') {ws : List W} {vs : List V} (h : RWs K z H ws vs) : RWs K z' H' ws vs := h.ext0 e.e0
theorem RWs.length : ∀ {ws : List W} {vs : List V}, RWs K z H ws vs → vs.length = ws.length
  | [], _, h => by cases h; rfl
  | _ :: _, _, ⟨v, r, h1, h2, h3⟩ => by subst h1; simp [RWs.length h3]
theorem RWs.cons {w : W} {v : V} {ws : List W} {vs : List V} (h : RW K z H w v) (t : RWs K z H ws vs) : RWs K z H (w :: ws) (v :: vs) := ⟨v, vs, rfl, h, t⟩
theorem RWs.nil : RWs K z H [] [] := rfl
theorem RWs.append : ∀ {ws us : List W} {vs xs : List V}, RWs K z H ws vs → RWs K z H us xs → RWs K z H (ws ++ us) (vs ++ xs)
  | [], _, _, _, h, t => by cases h; exact t
  | _ :: _, _, _, _, ⟨v, r, h1, h2, h3⟩, t => by subst h1; exact ⟨v, _, rfl, h2, RWs.append h3 t⟩
theorem RWs.get : ∀ {ws : List W} {vs : List V} {i : Nat} {w : W}, RWs K z H ws vs → ws[i]? = some w → ∃ v, vs[i]? = some v ∧ RW K z H w v
  | [], _, _, _, _, e => by simp at e
  | _ :: _, _, 0, _, ⟨v, r, h1, h2, _⟩, e => by subst h1; simp at e; subst e; exact ⟨v, rfl, h2⟩
  | _ :: ws, _, i + 1, _, ⟨v, r, h1, _, h3⟩, e => by
    subst h1
    obtain ⟨u, q1, q2⟩ := RWs.get (i := i) h3 (by simpa using e)
    exact ⟨u, by simpa using q1, q2⟩
theorem RWs.get' : ∀ {ws : List W} {vs : List V} {i : Nat} {v : V}, RWs K z H ws vs → vs[i]? = some v → ∃ w, ws[i]? = some w ∧ RW K z H w v
  | [], _, _, _, h, e => by cases h; simp at e
  | w :: _, _, 0, _, ⟨v, r, h1, h2, _⟩, e => by subst h1; simp at e; subst e; exact ⟨w, rfl, h2⟩
  | _ :: ws, _, i + 1, _, ⟨v, r, h1, _, h3⟩, e => by
    subst h1
    obtain ⟨u, q1, q2⟩ := RWs.get' (i := i) h3 (by simpa using e)
    exact ⟨u, by simpa using q1, q2⟩
theorem RWs.take : ∀ {ws : List W} {vs : List V} (n : Nat), RWs K z H ws vs → RWs K z H (ws.take n) (vs.take n)
  | [], _, n, h => by cases h; simp [RWs]
  | _ :: _, _, 0, _ => by simp [RWs]
  | _ :: _, _, n + 1, ⟨v, r, h1, h2, h3⟩ => by subst h1; exact ⟨v, _, rfl, h2, RWs.take n h3⟩
theorem RWs.drop : ∀ {ws : List W} {vs : List V} (n : Nat), RWs K z H ws vs → RWs K z H (ws.drop n) (vs.drop n)
  | [], _, n, h => by cases h; simp [RWs]
  | _ :: _, _, 0, h => h
  | _ :: _, _, n + 1, ⟨v, r, h1, h2, h3⟩ => by subst h1; exact RWs.drop n h3
theorem RWs.reverse : ∀ {ws : List W} {vs : List V}, RWs K z H ws vs → RWs K z H ws.reverse vs.reverse
  | [], _, h => by cases h; simp [RWs]
  | _ :: _, _, ⟨v, r, h1, h2, h3⟩ => by
    subst h1
    rw [List.reverse_cons, List.reverse_cons]
    exact (RWs.reverse h3).append (.cons h2 .nil)
theorem RWs.set {w : W} {v : V} (hw : RW K z H w v) : ∀ {ws : List W} {vs : List V} (n : Nat), RWs K z H ws vs → RWs K z H (ws.set n w) (vs.set n v)
  | [], _, n, h => by cases h; simp [RWs]
  | _ :: _, _, 0, ⟨u, r, h1, h2, h3⟩ => by subst h1; exact ⟨v, _, rfl, hw, h3⟩
  | _ :: _, _, n + 1, ⟨u, r, h1, h2, h3⟩ => by subst h1; exact ⟨u, _, rfl, h2, RWs.set hw n h3⟩
end

/-- fields, dicts: the same names, the values related -/
def RFs (K : PySem.W.Frag) (z : Zn) (H : Hp) {α : Type} : List (α × W) → List (α × V) → Prop
  | [], vs => vs = []
  | (k, w) :: ws, vs => ∃ v r, vs = (k, v) :: r ∧ RW K z H w v ∧ RFs K z H ws r
section
variable {K : PySem.W.Frag} {z z' : Zn} {H H' : Hp} {α : Type}
theorem RFs.ext0 (e : Ext0 z H z' H') : ∀ {ws : List (α × W)} {vs : List (α × V)}, RFs K z H ws vs → RFs K z' H' ws vs
  | [], _, h => h
  | (k, w) :: _, _, ⟨v, r, h1, h2, h3⟩ => ⟨v, r, h1, h2.ext0 e, RFs.ext0 e h3⟩
theorem RFs.ext (e : Ext z H z' H') {ws : List (α × W)} {vs : List (α × V)} (h : RFs K z H ws vs) : RFs K z' H' ws vs := h.ext0 e.e0
theorem RFs.length : ∀ {ws : List (α × W)} {vs : List (α × V)}, RFs K z H ws vs → vs.length = ws.length
  | [], _, h => by cases h; rfl
  | (k, w) :: _, _, ⟨v, r, h1, h2, h3⟩ => by subst h1; simp [RFs.length h3]
theorem RFs.lookup [BEq α] {k : α} : ∀ {ws : List (α × W)} {vs : List (α × V)} {w : W}, RFs K z H ws vs → ws.lookup k = some w → ∃ v, vs.lookup k = some v ∧ RW K z H w v
  | [], _, _, _, e => by simp at e
  | (j, w) :: _, _, w', ⟨v, r, h1, h2, h3⟩, e => by
    subst h1
    rw [List.lookup_cons] at e ⊢
    cases q : k == j with
    | true => rw [q] at e; simp at e; subst e; exact ⟨v, rfl, h2⟩
    | false => rw [q] at e; exact RFs.lookup h3 (by simpa using e)
theorem RFs.lookup_none [BEq α] {k : α} : ∀ {ws : List (α × W)} {vs : List (α × V)}, RFs K z H ws vs → ws.lookup k = none → vs.lookup k = none
  | [], _, h, _ => by cases h; rfl
  | (j, w) :: _, _, ⟨v, r, h1, h2, h3⟩, e => by
    subst h1
    rw [List.lookup_cons] at e ⊢
    cases q : k == j with
    | true => rw [q] at e; simp at e
    | false => rw [q] at e; exact RFs.lookup_none h3 (by simpa using e)
end

/-- the classes by number, the tables of code objects and the names in them, what else is known as the heap goes on -/
structure Clz where
  at_ : Nat → Addr
  T : List (Addr × Str)
  G : Zn → Hp → Prop
  gx : ∀ {z : Zn} {H : Hp} {z' : Zn} {H' : Hp}, Ext0 z H z' H' → G z H → G z' H'
instance : CoeFun Clz (fun _ => Nat → Addr) := ⟨Clz.at_⟩
instance : Coe Clz (Nat → Addr) := ⟨Clz.at_⟩
abbrev Clz.of (f : Nat → Addr) : Clz := ⟨f, [], fun _ _ => True, fun _ h => h⟩
abbrev Clz.tab (f : Nat → Addr) (T : List (Addr × Str)) : Clz := ⟨f, T, fun _ _ => True, fun _ h => h⟩
/-- with more that is known -/
abbrev Clz.and (cl : Clz) (G : Zn → Hp → Prop) (gx : ∀ {z : Zn} {H : Hp} {z' : Zn} {H' : Hp}, Ext0 z H z' H' → G z H → G z' H') : Clz := ⟨cl.at_, cl.T, fun z H => cl.G z H ∧ G z H, fun e h => ⟨cl.gx e h.1, gx e h.2⟩⟩
def NX (o : HO) : Prop := (∀ fs, o ≠ .xd fs) ∧ ∀ ps, o ≠ .tbl ps
theorem tabs_keep {T : List (Addr × Str)} {H H' : Hp} (h : LamX.Tabs T H) (k : ∀ b ps, H b = some (.tbl ps) → H' b = some (.tbl ps)) (kx : ∀ b p, H b = some (.ext p) → H' b = some (.ext p)) : LamX.Tabs T H' := fun p hp => by
  obtain ⟨ps, h1, h2, h3⟩ := h p hp
  refine ⟨ps, k _ _ h1, h2, fun pos cv hc => ?_⟩
  obtain ⟨c, e1, e2⟩ := h3 pos cv hc
  exact ⟨c, e1, kx _ _ e2⟩
/-- a thing that is there -/
def hereO (a : Addr) : HO := .ext fun h => ∃ o, h.get? a = some o
def CellOk (K : PySem.W.Frag) (cl : Clz) (z : Zn) (H : Hp) (a : Addr) : Cell → Prop
  | .lst ws => ¬ z.Z a ∧ ¬ z.hold a ∧ ∃ vs, H a = some (.lst vs) ∧ RWs K z H ws vs
  | .fz ws => z.Z a ∧ ∃ vs, H a = some (.lst vs) ∧ RWs K z H ws vs
  | .dct kvs => ¬ z.hold a ∧ ∃ vs, H a = some (.dK vs) ∧ RFs K z H kvs vs
  | .ins c fs => ¬ z.hold a ∧ ∃ dx vs, H a = some (.ins (cl c) dx vs) ∧ RFs K z H fs vs
  | .exn c fs => ¬ z.hold a ∧ ∃ (oe od : Obj) (d : Addr) (us : Array Value) (vs : List (Str × V)), H a = some (.frz oe (hereO a)) ∧ (oe.cls = .ref (cl c) ∧ oe.dict = some d ∧ oe.data = .fields us) ∧ H d = some (.frz od (.xd vs)) ∧ RFs K z H fs vs
  | .dtt kvs => ¬ z.hold a ∧ ∃ vs, H a = some (.dT vs) ∧ RFs K z H kvs vs
theorem CellOk.thereX {K : PySem.W.Frag} {cl : Clz} {z : Zn} {H : Hp} {a : Addr} {c : Cell} (h : CellOk K cl z H a c) : ∃ o, H a = some o ∧ NX o := by
  cases c with
  | lst ws => obtain ⟨_, _, vs, e, _⟩ := h; exact ⟨_, e, ⟨fun _ q => (by cases q), fun _ q => (by cases q)⟩⟩
  | fz ws => obtain ⟨_, vs, e, _⟩ := h; exact ⟨_, e, ⟨fun _ q => (by cases q), fun _ q => (by cases q)⟩⟩
  | dct kvs => obtain ⟨_, vs, e, _⟩ := h; exact ⟨_, e, ⟨fun _ q => (by cases q), fun _ q => (by cases q)⟩⟩
  | ins c fs => obtain ⟨_, dx, vs, e, _⟩ := h; exact ⟨_, e, ⟨fun _ q => (by cases q), fun _ q => (by cases q)⟩⟩
  | exn c fs => obtain ⟨_, oe, od, d, us, vs, e, _⟩ := h; exact ⟨_, e, ⟨fun _ q => (by cases q), fun _ q => (by cases q)⟩⟩
  | dtt kvs => obtain ⟨_, vs, e, _⟩ := h; exact ⟨_, e, ⟨fun _ q => (by cases q), fun _ q => (by cases q)⟩⟩
theorem CellOk.there {K : PySem.W.Frag} {cl : Clz} {z : Zn} {H : Hp} {a : Addr} {c : Cell} (h : CellOk K cl z H a c) : ∃ o, H a = some o := by
  cases c with
  | lst ws => obtain ⟨_, _, vs, e, _⟩ := h; exact ⟨_, e⟩
  | fz ws => obtain ⟨_, vs, e, _⟩ := h; exact ⟨_, e⟩
  | dct kvs => obtain ⟨_, vs, e, _⟩ := h; exact ⟨_, e⟩
  | ins c fs => obtain ⟨_, dx, vs, e, _⟩ := h; exact ⟨_, e⟩
  | exn c fs => obtain ⟨_, oe, od, d, us, vs, e, _⟩ := h; exact ⟨_, e⟩
  | dtt kvs => obtain ⟨_, vs, e, _⟩ := h; exact ⟨_, e⟩

structure MemOk (K : PySem.W.Frag) (cl : Clz) (z : Zn) (m : Mem) (H : Hp) : Prop where
  len : z.phi.length = m.length
  nd : z.phi.Nodup
  sep : ∀ a, z.Z a → ¬ z.hold a
  lz : ∀ a, z.Z a → ∃ xs, H a = some (.lst xs)
  lh : ∀ a, z.hold a → ∃ o, H a = some o ∧ NX o
  cells : ∀ (n : Nat) a c, z.phi[n]? = some a → m[n]? = some c → CellOk K cl z H a c
  tb : LamX.Tabs cl.T H
  gh : cl.G z H

def SlotsOk (K : PySem.W.Frag) (z : Zn) (H : Hp) (r : Rho) (s : L2.St) : Prop :=
  r.length = s.length ∧ ∀ (i : Nat) w, r[i]? = some (some w) → ∃ v, s[i]? = some (some v) ∧ RW K z H w v
structure Rel (K : PySem.W.Frag) (cl : Clz) (z : Zn) (r : Rho) (m : Mem) (s : L2.St) (H : Hp) : Prop where
  slots : SlotsOk K z H r s
  mem : MemOk K cl z m H

section
variable {K : PySem.W.Frag} {cl : Clz} {z z' : Zn} {H H' : Hp} {m : Mem} {r : Rho} {s : L2.St} {p : Addr} {o : HO}
theorem SlotsOk.ext0 (e : Ext0 z H z' H') (h : SlotsOk K z H r s) : SlotsOk K z' H' r s :=
  ⟨h.1, fun i w q => let ⟨v, q1, q2⟩ := h.2 i w q; ⟨v, q1, q2.ext0 e⟩⟩
theorem SlotsOk.ext (e : Ext z H z' H') (h : SlotsOk K z H r s) : SlotsOk K z' H' r s := h.ext0 e.e0
theorem SlotsOk.set {i : Nat} {w : W} {v : V} (h : SlotsOk K z H r s) (q : RW K z H w v) : SlotsOk K z H (r.set i (some w)) (s.set i (some v)) := by
  refine ⟨by simp [h.1], fun j u e => ?_⟩
  by_cases hj : i = j
  · subst hj
    rw [List.getElem?_set] at e ⊢
    rw [if_pos rfl] at e ⊢
    split at e
    · rename_i hl
      rw [if_pos (by rw [← h.1]; exact hl)]
      cases e
      exact ⟨v, rfl, q⟩
    · cases e
  · rw [List.getElem?_set_ne hj] at e ⊢
    exact h.2 j u e
theorem MemOk.z_ne (M : MemOk K cl z m H) (hp : H p = none) : ¬ z.Z p := fun q => by obtain ⟨xs, e⟩ := M.lz p q; rw [hp] at e; cases e
theorem MemOk.h_ne (M : MemOk K cl z m H) (hp : H p = none) : ¬ z.hold p := fun q => by obtain ⟨xs, e, _⟩ := M.lh p q; rw [hp] at e; cases e
theorem MemOk.p_ne (M : MemOk K cl z m H) (hp : H p = none) : p ∉ z.phi := fun q => by
  obtain ⟨n, hn, e⟩ := List.getElem_of_mem q
  have hm : n < m.length := by rw [← M.len]; exact hn
  obtain ⟨u, e2⟩ := (M.cells n p m[n] (by rw [List.getElem?_eq_getElem hn, e]) (List.getElem?_eq_getElem hm)).there
  rw [hp] at e2; cases e2
theorem upd_same_of (hp : H p = none) : Same H (upd H p o) := fun b u e => by rw [upd_ne (ne_of_none e hp)]; exact e
/-- all that is tracked stays -/
theorem MemOk.extS (M : MemOk K cl z m H) (hs : Same H H') : Ext z H z H' :=
  ⟨⟨fun a xs e => hs _ _ e, fun a ob u e => hs _ _ e, fun a q => ⟨q, by obtain ⟨xs, e⟩ := M.lz a q; rw [e]; exact hs _ _ e⟩, fun _ _ q => q, fun a p e => hs _ _ e⟩, fun a q => ⟨q, by obtain ⟨xs, e, _⟩ := M.lh a q; rw [e]; exact hs _ _ e⟩⟩
theorem CellOk.same {a : Addr} {c : Cell} (e : Ext z H z H') (hs : Same H H') (h : CellOk K cl z H a c) : CellOk K cl z H' a c := by
  cases c with
  | lst ws => obtain ⟨n1, n2, vs, q, r⟩ := h; exact ⟨n1, n2, vs, hs _ _ q, r.ext e⟩
  | fz ws => obtain ⟨n1, vs, q, r⟩ := h; exact ⟨n1, vs, hs _ _ q, r.ext e⟩
  | dct kvs => obtain ⟨n, vs, q, r⟩ := h; exact ⟨n, vs, hs _ _ q, r.ext e⟩
  | ins c fs => obtain ⟨n, dx, vs, q, r⟩ := h; exact ⟨n, dx, vs, hs _ _ q, r.ext e⟩
  | exn c fs => obtain ⟨n, oe, od, d, us, vs, q, q2, q3, r⟩ := h; exact ⟨n, oe, od, d, us, vs, hs _ _ q, q2, hs _ _ q3, r.ext e⟩
  | dtt kvs => obtain ⟨n, vs, q, r⟩ := h; exact ⟨n, vs, hs _ _ q, r.ext e⟩
theorem MemOk.same (M : MemOk K cl z m H) (hs : Same H H') : MemOk K cl z m H' :=
  ⟨M.len, M.nd, M.sep, fun a q => let ⟨xs, e⟩ := M.lz a q; ⟨xs, hs _ _ e⟩, fun a q => let ⟨xs, e, n⟩ := M.lh a q; ⟨xs, hs _ _ e, n⟩,
   fun n a c h1 h2 => (M.cells n a c h1 h2).same (M.extS hs) hs, M.tb.ext hs, cl.gx (M.extS hs).e0 M.gh⟩
theorem Rel.same (h : Rel K cl z r m s H) (hs : Same H H') : Rel K cl z r m s H' := ⟨h.slots.ext (h.mem.extS hs), h.mem.same hs⟩
theorem Rel.after (h : Rel K cl z r m s H) {m' : Mem} (e : Ext z H z' H') (M : MemOk K cl z' m' H') : Rel K cl z' r m' s H' := ⟨h.slots.ext e, M⟩

/-- a new list is settled -/
abbrev Zn.fz (z : Zn) (p : Addr) : Zn := { z with Z := fun a => a = p ∨ z.Z a }
/-- a new object is laid into the memory -/
abbrev Zn.lay (z : Zn) (p : Addr) : Zn := { z with phi := z.phi ++ [p] }
/-- .. is held, no longer held -/
abbrev Zn.hd (z : Zn) (p : Addr) : Zn := { z with hold := fun a => a = p ∨ z.hold a }
theorem CellOk.ext2 {a : Addr} {c : Cell} (e : Ext0 z H z' H') (hz : z'.Z a ↔ z.Z a) (hh : z'.hold a → z.hold a) (hs : H' a = H a) (h : CellOk K cl z H a c) : CellOk K cl z' H' a c := by
  cases c with
  | lst ws => obtain ⟨n1, n2, vs, q, r⟩ := h; exact ⟨fun x => n1 (hz.mp x), fun x => n2 (hh x), vs, hs.trans q, r.ext0 e⟩
  | fz ws => obtain ⟨n1, vs, q, r⟩ := h; exact ⟨hz.mpr n1, vs, hs.trans q, r.ext0 e⟩
  | dct kvs => obtain ⟨n, vs, q, r⟩ := h; exact ⟨fun x => n (hh x), vs, hs.trans q, r.ext0 e⟩
  | ins c fs => obtain ⟨n, dx, vs, q, r⟩ := h; exact ⟨fun x => n (hh x), dx, vs, hs.trans q, r.ext0 e⟩
  | exn c fs => obtain ⟨n, oe, od, d, us, vs, q, q2, q3, r⟩ := h; exact ⟨fun x => n (hh x), oe, od, d, us, vs, hs.trans q, q2, e.frzs _ _ _ q3, r.ext0 e⟩
  | dtt kvs => obtain ⟨n, vs, q, r⟩ := h; exact ⟨fun x => n (hh x), vs, hs.trans q, r.ext0 e⟩
/-- settle a list that is no one's -/
theorem MemOk.settle {xs : List V} (M : MemOk K cl z m H) (hp : H p = some (.lst xs)) (n1 : ¬ z.hold p) (n2 : p ∉ z.phi) : Ext z H (z.fz p) H ∧ MemOk K cl (z.fz p) m H := by
  have e : Ext z H (z.fz p) H := ⟨⟨fun _ _ h => h, fun _ _ _ h => h, fun _ h => ⟨.inr h, rfl⟩, fun _ _ h => h, fun _ _ h => h⟩, fun _ h => ⟨h, rfl⟩⟩
  refine ⟨e, M.len, M.nd, ?_, ?_, M.lh, fun n a c h1 h2 => ?_, M.tb, cl.gx e.e0 M.gh⟩
  · rintro a (rfl | q)
    · exact n1
    · exact M.sep a q
  · rintro a (rfl | q)
    · exact ⟨_, hp⟩
    · exact M.lz a q
  · have hne : a ≠ p := fun q => n2 (q ▸ List.mem_of_getElem? h1)
    refine (M.cells n a c h1 h2).ext2 e.e0 ⟨?_, .inr⟩ (fun x => x) rfl
    rintro (q | q)
    · exact absurd q hne
    · exact q
/-- lay an object that is no one's into the memory -/
theorem MemOk.lay {c : Cell} (M : MemOk K cl z m H) (n1 : ¬ z.Z p) (n2 : p ∉ z.phi) (hc : CellOk K cl (z.lay p) H p c) : Ext z H (z.lay p) H ∧ MemOk K cl (z.lay p) (m ++ [c]) H := by
  have e : Ext z H (z.lay p) H := ⟨⟨fun _ _ h => h, fun _ _ _ h => h, fun _ h => ⟨h, rfl⟩, fun n a h => by
    have hl := (List.getElem?_eq_some_iff.mp h).1
    show (z.phi ++ [p])[n]? = some a
    rw [List.getElem?_append_left hl]
    exact h, fun _ _ h => h⟩, fun _ h => ⟨h, rfl⟩⟩
  refine ⟨e, by simp [M.len], ?_, M.sep, M.lz, M.lh, fun n a c' h1 h2 => ?_, M.tb, cl.gx e.e0 M.gh⟩
  · show (z.phi ++ [p]).Nodup
    rw [List.nodup_append]
    refine ⟨M.nd, by simp, fun a ha b hb => ?_⟩
    simp at hb
    subst hb
    exact fun q => n2 (q ▸ ha)
  · have h1 : (z.phi ++ [p])[n]? = some a := h1
    by_cases hn : n < z.phi.length
    · rw [List.getElem?_append_left hn] at h1
      rw [List.getElem?_append_left (by rw [← M.len]; exact hn)] at h2
      exact (M.cells n a c' h1 h2).ext2 e.e0 Iff.rfl (fun x => x) rfl
    · have hn' : z.phi.length ≤ n := Nat.le_of_not_lt hn
      rw [List.getElem?_append_right hn'] at h1
      rw [List.getElem?_append_right (by rw [← M.len]; exact hn')] at h2
      have hk : n - z.phi.length = 0 := by
        have := (List.getElem?_eq_some_iff.mp h1).1
        simp at this
        omega
      rw [hk] at h1
      rw [← M.len, hk] at h2
      simp at h1 h2
      subst h1 h2
      exact hc
end
end Dn

/-! D2: what is left behind an expression, a test, an argument list, a statement; the first rules. -/
namespace Dn
open PySem PySem.Spec PyProof.Rows L2

/-- an error in the air -/
def XnOk (K : PySem.W.Frag) (cl : Clz) (z : Zn) (H : Hp) (x : Exn) (c : Value) (d : Option Addr) : Prop :=
  c = .ref (cl x.cls) ∧ ∃ dd fs, d = some dd ∧ H dd = some (.xd fs) ∧ RFs K z H x.fs fs
/-- what is the same for all parts of a body: the written part, the classes by number, the wish about errors -/
structure Gx where
  K : PySem.W.Frag
  cl : Clz
  Wx : WX

def Post {α β : Type} (g : Gx) (rel : Zn → Hp → α → β → Prop) (z : Zn) (H : Hp) (r : Rho) (s : L2.St) (q : R α) (Q : β → Hp → Prop) : Prop :=
  match q with
  | .ok a m => ∀ z' b H', Ext z H z' H' → Rel g.K g.cl z' r m s H' → rel z' H' a b → Q b H'
  | .exc x m => ∀ z' H' c d, Ext z H z' H' → Rel g.K g.cl z' r m s H' → XnOk g.K g.cl z' H' x c d → g.Wx c d s H'
  | .bad => False
def tG {α β : Type} (g : Gx) (rel : Zn → Hp → α → β → Prop) (f : Rho → Mem → R α) : L2.St → Hp → (β → Hp → Prop) → Prop :=
  fun s H Q => ∃ r m z, Rel g.K g.cl z r m s H ∧ Post g rel z H r s (f r m) Q
abbrev relB : Zn → Hp → Bool → Bool → Prop := fun _ _ a b => a = b
def tE (g : Gx) (f : DE) : TE := tG g (RW g.K) f
def tT (g : Gx) (f : DT) : TT := tG g relB f
def tA (g : Gx) (f : DA) : TA := tG g (RWs g.K) f

section
variable {α β γ δ : Type} {g : Gx} {rel : Zn → Hp → α → β → Prop} {rel2 : Zn → Hp → γ → δ → Prop} {z z1 : Zn} {H H1 : Hp} {r : Rho} {s : L2.St} {Q : δ → Hp → Prop} {Q1 : β → Hp → Prop}
theorem Post.mono {q : R γ} (e : Ext z H z1 H1) (h : Post g rel2 z H r s q Q) : Post g rel2 z1 H1 r s q Q := by
  cases q with
  | ok a m => exact fun z' b H' e' => h z' b H' (e.trans e')
  | exc x m => exact fun z' H' c d e' => h z' H' c d (e.trans e')
  | bad => exact h
theorem Post.bind {q : R α} {k : α → Mem → R γ} (h : Post g rel2 z H r s (q.bind k) Q)
    (hk : ∀ z1 a m1 b H1, Ext z H z1 H1 → Rel g.K g.cl z1 r m1 s H1 → rel z1 H1 a b → Post g rel2 z1 H1 r s (k a m1) Q → Q1 b H1) : Post g rel z H r s q Q1 := by
  cases q with
  | ok a m => exact fun z' b H' e R q => hk z' a m b H' e R q (Post.mono e h)
  | exc x m => exact h
  | bad => exact h
/-- the value is told: nothing happens -/
theorem Post.ret {a : γ} {b : δ} {m : Mem} (h : Post g rel2 z H r s (.ok a m) Q) (R : Rel g.K g.cl z r m s H) (q : rel2 z H a b) : Q b H := h z b H (Ext.refl _ _) R q
end

section
variable {X : Cx} {cl : Clz} {Wx : WX} {e a b : Expr} {pos : Pos}
abbrev gx (X : Cx) (cl : Clz) (Wx : WX) : Gx := ⟨X.K, cl, Wx⟩
theorem _root_.L2.PE.imp {t t' : TE} (h : PE X e t) (hi : ∀ s H Q, t' s H Q → t s H Q) : PE X e t' := ⟨fun pins sh s H Q I q => h.run pins sh s H Q I (hi _ _ _ q)⟩
theorem _root_.L2.PT.imp {t t' : TT} (h : PT X e t) (hi : ∀ s H Q, t' s H Q → t s H Q) : PT X e t' := ⟨fun pins sh s H Q I q => h.run pins sh s H Q I (hi _ _ _ q)⟩
theorem _root_.L2.PA.imp {es : List Expr} {t t' : TA} (h : PA X es t) (hi : ∀ s H Q, t' s H Q → t s H Q) : PA X es t' := ⟨fun po pins sh s H Q I q => h.run po pins sh s H Q I (hi _ _ _ q)⟩

/-! ### names, constants -/
def eVar (i : Nat) : DE := fun r m => match r[i]? with
  | some (some w) => .ok w m
  | _ => .bad
def eC (w : W) : DE := fun _ m => .ok w m
theorem se_v (i : Nat) {x : Str} (h : PE X (.Name x pos) (tVar i)) : PE X (.Name x pos) (tE (gx X cl Wx) (eVar i)) := by
  refine h.imp fun s H Q ⟨r, m, z, R, P⟩ => ?_
  unfold eVar at P
  split at P
  · rename_i w e
    obtain ⟨v, e1, q⟩ := R.slots.2 i w e
    exact ⟨v, e1, P.ret R q⟩
  · exact P.elim
theorem se_c {v : V} {w : W} (h : PE X e (tC v)) (hw : ∀ z H, RW X.K z H w v) : PE X e (tE (gx X cl Wx) (eC w)) :=
  h.imp fun s H Q ⟨r, m, z, R, P⟩ => P.ret R (hw z H)
theorem sv (i : Nat) {x : Str} (hN : X.N[i]? = some x := by rfl) (hv : Vis X.env.scope x := by first | exact Or.inl rfl | exact Or.inr (Or.inl rfl) | exact Or.inr (Or.inr rfl)) (hd : (x == ("__debug__" : Str)) = false := by decide)
    (hcd : (x == ("__classdict__" : Str)) = false := by decide) : PE X (.Name x pos) (tE (gx X cl Wx) (eVar i)) := se_v i (pe_var hN hv hd hcd)
theorem se_int {i : Int} {j : Nat} : PE X (.Constant (.int i) j pos) (tE (gx X cl Wx) (eC (.int i))) := se_c pe_int fun _ _ => rfl
theorem se_bl {i : Bool} {j : Nat} : PE X (.Constant (.bool i) j pos) (tE (gx X cl Wx) (eC (.bl i))) := se_c pe_bl fun _ _ => rfl
theorem se_str {i : Str} {j : Nat} : PE X (.Constant (.str i) j pos) (tE (gx X cl Wx) (eC (.str i))) := se_c pe_str fun _ _ => rfl
theorem se_non {j : Nat} : PE X (.Constant .none j pos) (tE (gx X cl Wx) (eC .non)) := se_c pe_non fun _ _ => rfl
/-- a module's constant: u its value, w as plain data -/
theorem se_glob {x : Str} {w : W} {v : V} {u : Value} (hm : X.mg x = some u) (r : RelV v u) (hw : ∀ z H, RW X.K z H w v) (hg : Gl X x := by rfl) (hd : (x == ("__debug__" : Str)) = false := by decide) : PE X (.Name x pos) (tE (gx X cl Wx) (eC w)) :=
  se_c (pe_glob hg hm r hd) hw

/-! ### operators -/
def eBin (o : Mem → W → W → Option W) (fa fb : DE) : DE := fun r m => (fa r m).bind fun a m1 => (fb r m1).bind fun b m2 => match o m2 a b with
  | some w => .ok w m2
  | none => .bad
def OpW (K : PySem.W.Frag) (cl : Clz) (o : Mem → W → W → Option W) (r : R2) : Prop := ∀ (z : Zn) (m : Mem) (H : Hp) (a b : W) (x y : V) (w : W) (Q : VK), MemOk K cl z m H → RW K z H a x → RW K z H b y → o m a b = some w →
  (∀ z' v H', Ext z H z' H' → MemOk K cl z' m H' → RW K z' H' w v → Q v H') → r x y H Q
theorem tE_bin {o : Mem → W → W → Option W} {rr : R2} {fa fb : DE} {s : L2.St} {H : Hp} {Q : VK} {g : Gx} (hw : OpW g.K g.cl o rr) (h : tE g (eBin o fa fb) s H Q) : tOp rr (tE g fa) (tE g fb) s H Q := by
  obtain ⟨r, m, z, R, P⟩ := h
  refine ⟨r, m, z, R, P.bind fun z1 a m1 x H1 E1 R1 r1 P1 => ?_⟩
  refine ⟨r, m1, z1, R1, P1.bind fun z2 b m2 y H2 E2 R2 r2 P2 => ?_⟩
  cases q : o m2 a b with
  | none => rw [q] at P2; exact P2.elim
  | some w =>
    rw [q] at P2
    exact hw z2 m2 H2 a b x y w Q R2.mem (RW.ext E2 r1) r2 q fun z' v H' e M rw' => P2 z' v H' e (R2.after e M) rw'
theorem se_op {op : Operator} {o : Mem → W → W → Option W} {rr : R2} {fa fb : DE} (ho : OpR X (binaryOp op) rr) (hw : OpW X.K cl o rr) (ha : PE X a (tE (gx X cl Wx) fa)) (hb : PE X b (tE (gx X cl Wx) fb)) :
    PE X (.BinOp a op b pos) (tE (gx X cl Wx) (eBin o fa fb)) := (pe_op ho ha hb).imp fun s H Q h => tE_bin (g := gx X cl Wx) hw h
theorem se_cmp {op : CmpOp} {o : Mem → W → W → Option W} {rr : R2} {fa fb : DE} (ho : OpR X (compareOp op) rr) (hw : OpW X.K cl o rr) (ha : PE X a (tE (gx X cl Wx) fa)) (hb : PE X b (tE (gx X cl Wx) fb)) (hm : behindInMarks op b = false) :
    PE X (.Compare a [op] [b] pos) (tE (gx X cl Wx) (eBin o fa fb)) := (pe_cmpR ho ha hb hm).imp fun s H Q h => tE_bin (g := gx X cl Wx) hw h
theorem se_ix {o : Mem → W → W → Option W} {rr : R2} {fa fb : DE} (ho : IxR X rr) (hw : OpW X.K cl o rr) (ha : PE X a (tE (gx X cl Wx) fa)) (hb : PE X b (tE (gx X cl Wx) fb)) (hs : PlainIx b := by exact fun _ _ => rfl) :
    PE X (.Subscript a b pos) (tE (gx X cl Wx) (eBin o fa fb)) := (pe_ix ho ha hb hs).imp fun s H Q h => tE_bin (g := gx X cl Wx) hw h
theorem OpW.or {K : PySem.W.Frag} {o : Mem → W → W → Option W} {o1 o2 : Mem → W → W → Option W} {r1 r2 : R2} (h1 : OpW K cl o1 r1) (h2 : OpW K cl o2 r2) (h : ∀ m a b w, o m a b = some w → o1 m a b = some w ∨ o2 m a b = some w) :
    OpW K cl o (fun x y H Q => r1 x y H Q ∨ r2 x y H Q) := fun z m H a b x y w Q M ra rb e k => (h m a b w e).elim (fun e => .inl (h1 z m H a b x y w Q M ra rb e k)) fun e => .inr (h2 z m H a b x y w Q M ra rb e k)
/-- a value as a test: a bool -/
def dTest (f : DE) : DT := fun r m => (f r m).bind fun w m1 => match w with
  | .bl b => .ok b m1
  | _ => .bad
theorem tT_test {f : DE} {s : L2.St} {H : Hp} {Q : Bool → Hp → Prop} {g : Gx} (h : tT g (dTest f) s H Q) : tTest (tE g f) s H Q := by
  obtain ⟨r, m, z, R, P⟩ := h
  refine ⟨r, m, z, R, P.bind fun z1 a m1 x H1 E1 R1 r1 P1 => ?_⟩
  cases a with
  | bl k =>
    have r1 : x = .bl k := r1
    exact ⟨k, r1, Post.ret (b := k) P1 R1 rfl⟩
  | _ => exact P1.elim
theorem st_cmp {op : CmpOp} {o : Mem → W → W → Option W} {rr : R2} {fa fb : DE} (ho : OpR X (compareOp op) rr) (hw : OpW X.K cl o rr) (ha : PE X a (tE (gx X cl Wx) fa)) (hb : PE X b (tE (gx X cl Wx) fb)) (hm : behindInMarks op b = false) :
    PT X (.Compare a [op] [b] pos) (tT (gx X cl Wx) (dTest (eBin o fa fb))) := (pt_cmpR ho ha hb hm).imp fun s H Q h => by
  have h' := tT_test h
  unfold tTest at h' ⊢
  exact tE_bin (g := gx X cl Wx) hw h'
/-- an expression whose value is a bool, as a test -/
theorem st_val {f : DE} (h : PE X e (tE (gx X cl Wx) f)) (he : ∀ whole, isTrue e X.env whole = (do let v ← whole; standAt e.pos; holding [v] (truthy v)) := by intro _; rfl) : PT X e (tT (gx X cl Wx) (dTest f)) :=
  (pt_val h he).imp fun s H Q h => tT_test h

/-! ### and, or, not, a if t else b -/
def dAnd (f h : DT) : DT := fun r m => (f r m).bind fun c m1 => if c = true then h r m1 else .ok false m1
def dOr (f h : DT) : DT := fun r m => (f r m).bind fun c m1 => if c = true then .ok true m1 else h r m1
def dNot (f : DT) : DT := fun r m => (f r m).bind fun c m1 => .ok (!c) m1
theorem sw_and1 {f : DT} (h : PT X a (tT (gx X cl Wx) f)) : PW X (.BoolOp .And [a] pos) (tT (gx X cl Wx) f) := pw_and1 h
theorem sw_or1 {f : DT} (h : PT X a (tT (gx X cl Wx) f)) : PW X (.BoolOp .Or [a] pos) (tT (gx X cl Wx) f) := pw_or1 h
theorem _root_.L2.PW.imp {t t' : TT} (h : PW X e t) (hi : ∀ s H Q, t' s H Q → t s H Q) : PW X e t' := ⟨fun wh pins sh s H Q I q => h.run wh pins sh s H Q I (hi _ _ _ q)⟩
theorem sw_and {f h : DT} {rest : List Expr} (ha : PT X a (tT (gx X cl Wx) f)) (hb : PW X (.BoolOp .And (b :: rest) pos) (tT (gx X cl Wx) h)) : PW X (.BoolOp .And (a :: b :: rest) pos) (tT (gx X cl Wx) (dAnd f h)) :=
  (pw_and ha hb).imp fun s H Q ⟨r, m, z, R, P⟩ => by
    refine ⟨r, m, z, R, P.bind fun z1 c m1 d H1 E1 R1 r1 P1 => ?_⟩
    have r1 : c = d := r1
    subst r1
    cases c with
    | true => exact ⟨r, m1, z1, R1, P1⟩
    | false => exact Post.ret (b := false) P1 R1 rfl
theorem sw_or {f h : DT} {rest : List Expr} (ha : PT X a (tT (gx X cl Wx) f)) (hb : PW X (.BoolOp .Or (b :: rest) pos) (tT (gx X cl Wx) h)) : PW X (.BoolOp .Or (a :: b :: rest) pos) (tT (gx X cl Wx) (dOr f h)) :=
  (pw_or ha hb).imp fun s H Q ⟨r, m, z, R, P⟩ => by
    refine ⟨r, m, z, R, P.bind fun z1 c m1 d H1 E1 R1 r1 P1 => ?_⟩
    have r1 : c = d := r1
    subst r1
    cases c with
    | false => exact ⟨r, m1, z1, R1, P1⟩
    | true => exact Post.ret (b := true) P1 R1 rfl
theorem st_not {f : DT} (ha : PT X a (tT (gx X cl Wx) f)) : PT X (.UnaryOp .Not a pos) (tT (gx X cl Wx) (dNot f)) :=
  (pt_not ha).imp fun s H Q ⟨r, m, z, R, P⟩ => by
    refine ⟨r, m, z, R, P.bind fun z1 c m1 d H1 E1 R1 r1 P1 => ?_⟩
    have r1 : c = d := r1
    subst r1
    exact Post.ret (b := !c) P1 R1 rfl
/-- as values -/
def eAnd (f h : DE) : DE := fun r m => (f r m).bind fun w m1 => match w with
  | .bl true => h r m1
  | .bl false => .ok (.bl false) m1
  | _ => .bad
def eOr (f h : DE) : DE := fun r m => (f r m).bind fun w m1 => match w with
  | .bl false => h r m1
  | .bl true => .ok (.bl true) m1
  | _ => .bad
def eNot (f : DE) : DE := fun r m => (f r m).bind fun w m1 => match w with
  | .bl b => .ok (.bl (!b)) m1
  | _ => .bad
theorem se_and {f h : DE} {rest : List Expr} (ha : PE X a (tE (gx X cl Wx) f)) (hb : PE X (.BoolOp .And (b :: rest) pos) (tE (gx X cl Wx) h)) : PE X (.BoolOp .And (a :: b :: rest) pos) (tE (gx X cl Wx) (eAnd f h)) :=
  (pe_and ha hb).imp fun s H Q ⟨r, m, z, R, P⟩ => by
    refine ⟨r, m, z, R, P.bind fun z1 c m1 d H1 E1 R1 r1 P1 => ?_⟩
    cases c with
    | bl k =>
      have r1 : d = .bl k := r1
      refine ⟨k, r1, ?_⟩
      cases k with
      | true => exact ⟨r, m1, z1, R1, P1⟩
      | false => exact Post.ret (b := V.bl false) P1 R1 rfl
    | _ => exact P1.elim
theorem se_or {f h : DE} {rest : List Expr} (ha : PE X a (tE (gx X cl Wx) f)) (hb : PE X (.BoolOp .Or (b :: rest) pos) (tE (gx X cl Wx) h)) : PE X (.BoolOp .Or (a :: b :: rest) pos) (tE (gx X cl Wx) (eOr f h)) :=
  (pe_or ha hb).imp fun s H Q ⟨r, m, z, R, P⟩ => by
    refine ⟨r, m, z, R, P.bind fun z1 c m1 d H1 E1 R1 r1 P1 => ?_⟩
    cases c with
    | bl k =>
      have r1 : d = .bl k := r1
      refine ⟨k, r1, ?_⟩
      cases k with
      | false => exact ⟨r, m1, z1, R1, P1⟩
      | true => exact Post.ret (b := V.bl true) P1 R1 rfl
    | _ => exact P1.elim
theorem se_one {op : BoolOp} {f : DE} (h : PE X a (tE (gx X cl Wx) f)) : PE X (.BoolOp op [a] pos) (tE (gx X cl Wx) f) := pe_one h
theorem se_not {f : DE} (ha : PE X a (tE (gx X cl Wx) f)) : PE X (.UnaryOp .Not a pos) (tE (gx X cl Wx) (eNot f)) :=
  (pe_not ha).imp fun s H Q ⟨r, m, z, R, P⟩ => by
    refine ⟨r, m, z, R, P.bind fun z1 c m1 d H1 E1 R1 r1 P1 => ?_⟩
    cases c with
    | bl k =>
      have r1 : d = .bl k := r1
      exact ⟨k, r1, Post.ret (b := V.bl (!k)) P1 R1 rfl⟩
    | _ => exact P1.elim
def eIf (c : DT) (f h : DE) : DE := fun r m => (c r m).bind fun k m1 => if k = true then f r m1 else h r m1
theorem se_if {c : Expr} {fc : DT} {f h : DE} (hc : PT X c (tT (gx X cl Wx) fc)) (ha : PE X a (tE (gx X cl Wx) f)) (hb : PE X b (tE (gx X cl Wx) h)) : PE X (.IfExp c a b pos) (tE (gx X cl Wx) (eIf fc f h)) :=
  (pe_ifExp hc ha hb).imp fun s H Q ⟨r, m, z, R, P⟩ => by
    refine ⟨r, m, z, R, P.bind fun z1 c m1 d H1 E1 R1 r1 P1 => ?_⟩
    have r1 : c = d := r1
    subst r1
    cases c with
    | true => exact ⟨r, m1, z1, R1, P1⟩
    | false => exact ⟨r, m1, z1, R1, P1⟩

/-! ### argument lists, tuples, lists -/
def aNil : DA := fun _ m => .ok [] m
def aCons (f : DE) (t : DA) : DA := fun r m => (f r m).bind fun w m1 => (t r m1).bind fun ws m2 => .ok (w :: ws) m2
theorem sa_nil : PA X [] (tA (gx X cl Wx) aNil) := pa_nil.imp fun s H Q ⟨r, m, z, R, P⟩ => Post.ret (b := ([] : List V)) P R rfl
theorem sa_cons {es : List Expr} {f : DE} {t : DA} (h : PE X e (tE (gx X cl Wx) f)) (ht : PA X es (tA (gx X cl Wx) t)) (hs : starEach (e :: es) X.env = (false, eval e X.env) :: starEach es X.env := by rfl) : PA X (e :: es) (tA (gx X cl Wx) (aCons f t)) :=
  (pa_cons h ht hs).imp fun s H Q ⟨r, m, z, R, P⟩ => by
    refine ⟨r, m, z, R, P.bind fun z1 w m1 x H1 E1 R1 r1 P1 => ?_⟩
    refine ⟨r, m1, z1, R1, P1.bind fun z2 ws m2 xs H2 E2 R2 r2 P2 => ?_⟩
    exact Post.ret (b := x :: xs) P2 R2 (RWs.cons (RW.ext E2 r1) r2)
/-- the items of a list or a tuple -/
def seqOf (m : Mem) : W → Option (List W)
  | .tup xs => some xs
  | .lst xs => some xs
  | .old xs => some xs
  | .ref n => match m[n]? with
    | some (.lst xs) => some xs
    | some (.fz xs) => some xs
    | _ => none
  | _ => none
/-- .. of a list -/
def lstOf (m : Mem) : W → Option (List W)
  | .lst xs => some xs
  | .old xs => some xs
  | .ref n => match m[n]? with
    | some (.lst xs) => some xs
    | some (.fz xs) => some xs
    | _ => none
  | _ => none
theorem MemOk.at {K : PySem.W.Frag} {z : Zn} {m : Mem} {H : Hp} {n : Nat} {a : Addr} (M : MemOk K cl z m H) (h : z.phi[n]? = some a) : ∃ c, m[n]? = some c ∧ CellOk K cl z H a c := by
  have hn : n < m.length := by rw [← M.len]; exact (List.getElem?_eq_some_iff.mp h).1
  exact ⟨m[n], List.getElem?_eq_getElem hn, M.cells n a _ h (List.getElem?_eq_getElem hn)⟩
theorem lst_at {K : PySem.W.Frag} {z : Zn} {m : Mem} {H : Hp} {w : W} {v : V} {xs : List W} (M : MemOk K cl z m H) (h : RW K z H w v) (e : lstOf m w = some xs) : ∃ a vs, v = .ref a ∧ SqL K H a vs ∧ RWs K z H xs vs := by
  cases w with
  | lst ys =>
    obtain ⟨a, vs, h1, h2, h3⟩ := h
    have e : ys = xs := by simpa [lstOf] using e
    subst e
    exact ⟨a, vs, h1, SqL.of h2.2, h3⟩
  | old ys =>
    obtain ⟨a, vs, h1, h2, h3⟩ := h
    have e : ys = xs := by simpa [lstOf] using e
    subst e
    exact ⟨a, vs, h1, h2.sq, h3⟩
  | ref n =>
    obtain ⟨a, h1, h2⟩ := h
    obtain ⟨c, e1, hc⟩ := M.at h1
    simp only [lstOf, e1] at e
    cases c with
    | lst ys =>
      obtain ⟨_, _, vs, q, rr⟩ := hc
      have e : ys = xs := by simpa using e
      subst e
      exact ⟨a, vs, h2, SqL.of q, rr⟩
    | fz ys =>
      obtain ⟨_, vs, q, rr⟩ := hc
      have e : ys = xs := by simpa using e
      subst e
      exact ⟨a, vs, h2, SqL.of q, rr⟩
    | _ => simp at e
  | _ => simp [lstOf] at e
theorem seq_at {K : PySem.W.Frag} {z : Zn} {m : Mem} {H : Hp} {w : W} {v : V} {xs : List W} (M : MemOk K cl z m H) (h : RW K z H w v) (e : seqOf m w = some xs) : ∃ a vs, v = .ref a ∧ (SqL K H a vs ∨ SqT K H a vs) ∧ RWs K z H xs vs := by
  cases w with
  | tup ys =>
    obtain ⟨a, vs, h1, h2, h3⟩ := h
    have e : ys = xs := by simpa [seqOf] using e
    subst e
    exact ⟨a, vs, h1, .inr h2, h3⟩
  | lst ys =>
    obtain ⟨a, vs, h1, h2, h3⟩ := lst_at M h (xs := xs) (by simpa [seqOf, lstOf] using e)
    exact ⟨a, vs, h1, .inl h2, h3⟩
  | old ys =>
    obtain ⟨a, vs, h1, h2, h3⟩ := lst_at M h (xs := xs) (by simpa [seqOf, lstOf] using e)
    exact ⟨a, vs, h1, .inl h2, h3⟩
  | ref n =>
    obtain ⟨a, vs, h1, h2, h3⟩ := lst_at M h (xs := xs) (by unfold lstOf; unfold seqOf at e; exact e)
    exact ⟨a, vs, h1, .inl h2, h3⟩
  | _ => simp [seqOf] at e
/-- .. of a list that is tracked: no module's, not the script -/
def trkOf (m : Mem) : W → Option (List W)
  | .lst xs => some xs
  | .ref n => match m[n]? with
    | some (.lst xs) => some xs
    | some (.fz xs) => some xs
    | _ => none
  | _ => none
theorem trk_at {K : PySem.W.Frag} {z : Zn} {m : Mem} {H : Hp} {w : W} {v : V} {xs : List W} (M : MemOk K cl z m H) (h : RW K z H w v) (e : trkOf m w = some xs) : ∃ a vs, v = .ref a ∧ H a = some (.lst vs) ∧ RWs K z H xs vs := by
  cases w with
  | lst ys =>
    obtain ⟨a, vs, h1, h2, h3⟩ := h
    have e : ys = xs := by simpa [trkOf] using e
    subst e
    exact ⟨a, vs, h1, h2.2, h3⟩
  | ref n =>
    obtain ⟨a, h1, h2⟩ := h
    obtain ⟨c, e1, hc⟩ := M.at h1
    simp only [trkOf, e1] at e
    cases c with
    | lst ys =>
      obtain ⟨_, _, vs, q, rr⟩ := hc
      have e : ys = xs := by simpa using e
      subst e
      exact ⟨a, vs, h2, q, rr⟩
    | fz ys =>
      obtain ⟨_, vs, q, rr⟩ := hc
      have e : ys = xs := by simpa using e
      subst e
      exact ⟨a, vs, h2, q, rr⟩
    | _ => simp at e
  | _ => simp [trkOf] at e
/-- *e, .. -/
def aStar (f : DE) (t : DA) : DA := fun r m => (f r m).bind fun w m1 => match seqOf m1 w with
  | some xs => (t r m1).bind fun ws m2 => .ok (xs ++ ws) m2
  | none => .bad
theorem sa_star {es : List Expr} {f : DE} {t : DA} {p : Pos} (h : PE X e (tE (gx X cl Wx) f)) (ht : PA X es (tA (gx X cl Wx) t)) (hs : starEach (.Starred e p :: es) X.env = (true, eval e X.env) :: starEach es X.env := by rfl) : PA X (.Starred e p :: es) (tA (gx X cl Wx) (aStar f t)) :=
  (StX.pa_star h ht hs).imp fun s H Q ⟨r, m, z, R, P⟩ => by
    refine ⟨r, m, z, R, P.bind fun z1 w m1 x H1 E1 R1 r1 P1 => ?_⟩
    cases q : seqOf m1 w with
    | none => rw [q] at P1; exact P1.elim
    | some ys =>
      rw [q] at P1
      obtain ⟨a, vs, e1, e2, e3⟩ := seq_at R1.mem r1 q
      refine ⟨a, vs, e1, e2.symm, r, m1, z1, R1, P1.bind fun z2 ws m2 xs H2 E2 R2 r2 P2 => ?_⟩
      exact Post.ret (b := vs ++ xs) P2 R2 ((RWs.ext E2 e3).append r2)
/-- a new tuple -/
theorem new_tup {K : PySem.W.Frag} {z : Zn} {m : Mem} {H : Hp} {p : Addr} {ws : List W} {vs : List V} (M : MemOk K cl z m H) (hp : H p = none) (h : RWs K z H ws vs) : Ext z H z (upd H p (.tup vs)) ∧ MemOk K cl z m (upd H p (.tup vs)) ∧ RW K z (upd H p (.tup vs)) (.tup ws) (.ref p) := by
  have hs := upd_same_of (o := .tup vs) hp
  exact ⟨M.extS hs, M.same hs, p, vs, rfl, SqT.of upd_same, RWs.ext (M.extS hs) h⟩
/-- a new list that is settled at once -/
theorem new_lst {K : PySem.W.Frag} {z : Zn} {m : Mem} {H : Hp} {p : Addr} {ws : List W} {vs : List V} (M : MemOk K cl z m H) (hp : H p = none) (h : RWs K z H ws vs) : Ext z H (z.fz p) (upd H p (.lst vs)) ∧ MemOk K cl (z.fz p) m (upd H p (.lst vs)) ∧ RW K (z.fz p) (upd H p (.lst vs)) (.lst ws) (.ref p) := by
  have hs := upd_same_of (o := .lst vs) hp
  have e := M.extS hs
  obtain ⟨e2, M2⟩ := (M.same hs).settle (p := p) upd_same (M.h_ne hp) (M.p_ne hp)
  exact ⟨e.trans e2, M2, p, vs, rfl, ⟨.inl rfl, upd_same⟩, RWs.ext (e.trans e2) h⟩
def eTup (t : DA) : DE := fun r m => (t r m).bind fun ws m1 => if ws.length ≤ 16777216 then .ok (.tup ws) m1 else .bad
def eLst (t : DA) : DE := fun r m => (t r m).bind fun ws m1 => if ws.length ≤ 16777216 then .ok (.lst ws) m1 else .bad
theorem sl_le {n : Nat} (h : n ≤ 16777216) : n ≤ sizeLine := by rw [sizeLine_eq]; exact h
theorem se_tup {es : List Expr} {x1} {t : DA} (h : PA X es (tA (gx X cl Wx) t)) : PE X (.Tuple es x1 pos) (tE (gx X cl Wx) (eTup t)) :=
  (pe_tup h).imp fun s H Q ⟨r, m, z, R, P⟩ => by
    refine ⟨r, m, z, R, P.bind fun z1 ws m1 vs H1 E1 R1 r1 P1 => ?_⟩
    split at P1
    · rename_i hl
      refine ⟨by rw [RWs.length r1]; exact sl_le hl, fun p hp => ?_⟩
      obtain ⟨e, M, q⟩ := new_tup (cl := cl) R1.mem hp r1
      exact P1 _ _ _ e (R1.after e M) q
    · exact P1.elim
theorem se_lst {es : List Expr} {t : DA} (h : PA X es (tA (gx X cl Wx) t)) : PE X (.List es pos) (tE (gx X cl Wx) (eLst t)) :=
  (pe_lst h).imp fun s H Q ⟨r, m, z, R, P⟩ => by
    refine ⟨r, m, z, R, P.bind fun z1 ws m1 vs H1 E1 R1 r1 P1 => ?_⟩
    split at P1
    · rename_i hl
      refine ⟨by rw [RWs.length r1]; exact sl_le hl, fun p hp => ?_⟩
      obtain ⟨e, M, q⟩ := new_lst (cl := cl) R1.mem hp r1
      exact P1 _ _ _ e (R1.after e M) q
    · exact P1.elim
/-- a new list that may change -/
theorem new_ref {K : PySem.W.Frag} {z : Zn} {m : Mem} {H : Hp} {p : Addr} {ws : List W} {vs : List V} (M : MemOk K cl z m H) (hp : H p = none) (h : RWs K z H ws vs) : Ext z H (z.lay p) (upd H p (.lst vs)) ∧ MemOk K cl (z.lay p) (m ++ [.lst ws]) (upd H p (.lst vs)) ∧ RW K (z.lay p) (upd H p (.lst vs)) (.ref m.length) (.ref p) := by
  have hs := upd_same_of (o := .lst vs) hp
  have e := M.extS hs
  have e2 : Ext z (upd H p (.lst vs)) (z.lay p) (upd H p (.lst vs)) := ⟨⟨fun _ _ h => h, fun _ _ _ h => h, fun _ h => ⟨h, rfl⟩, fun n a h => by
    have hl := (List.getElem?_eq_some_iff.mp h).1
    show (z.phi ++ [p])[n]? = some a
    rw [List.getElem?_append_left hl]
    exact h, fun _ _ h => h⟩, fun _ h => ⟨h, rfl⟩⟩
  obtain ⟨e3, M2⟩ := (M.same hs).lay (p := p) (c := .lst ws) (M.z_ne hp) (M.p_ne hp) ⟨M.z_ne hp, M.h_ne hp, vs, upd_same, RWs.ext (e.trans e2) h⟩
  refine ⟨e.trans e2, M2, p, ?_, rfl⟩
  show (z.phi ++ [p])[m.length]? = some p
  rw [← M.len]
  simp
def eLstM (t : DA) : DE := fun r m => (t r m).bind fun ws m1 => if ws.length ≤ 16777216 then .ok (.ref m1.length) (m1 ++ [.lst ws]) else .bad
theorem se_lstM {es : List Expr} {t : DA} (h : PA X es (tA (gx X cl Wx) t)) : PE X (.List es pos) (tE (gx X cl Wx) (eLstM t)) :=
  (pe_lst h).imp fun s H Q ⟨r, m, z, R, P⟩ => by
    refine ⟨r, m, z, R, P.bind fun z1 ws m1 vs H1 E1 R1 r1 P1 => ?_⟩
    split at P1
    · rename_i hl
      refine ⟨by rw [RWs.length r1]; exact sl_le hl, fun p hp => ?_⟩
      obtain ⟨e, M, q⟩ := new_ref (cl := cl) R1.mem hp r1
      exact P1 _ _ _ e (R1.after e M) q
    · exact P1.elim
end
end Dn

/-! D3: operators on plain values. -/
namespace Dn
open PySem PySem.Spec PyProof.Rows L2

section
variable {K : PySem.W.Frag} {cl : Clz} {X : Cx}
/-! ### ints -/
def iOp (f : Int → Int → Option W) : Mem → W → W → Option W
  | _, .int i, .int j => f i j
  | _, _, _ => none
theorem opw_int {f : Int → Int → Option W} {C : Int → Int → Prop} {h : Int → Int → V} (hf : ∀ i j w, f i j = some w → C i j ∧ ∀ z H, RW K z H w (h i j)) : OpW K cl (iOp f) (rI C h) := by
  intro z m H a b x y w Q M ra rb e k
  cases a with
  | int i =>
    cases b with
    | int j =>
      obtain ⟨c, q⟩ := hf i j w e
      exact ⟨i, j, ra, rb, c, k z _ H (Ext.refl _ _) M (q z H)⟩
    | _ => simp [iOp] at e
  | _ => simp [iOp] at e
theorem opw_int0 {f : Int → Int → Option W} {h : Int → Int → V} (hf : ∀ i j w, f i j = some w → ∀ z H, RW K z H w (h i j)) : OpW K cl (iOp f) (rI0 h) := by
  intro z m H a b x y w Q M ra rb e k
  cases a with
  | int i =>
    cases b with
    | int j => exact ⟨i, j, ra, rb, k z _ H (Ext.refl _ _) M (hf i j w e z H)⟩
    | _ => simp [iOp] at e
  | _ => simp [iOp] at e
def subW : Mem → W → W → Option W := iOp fun i j => some (.int (i - j))
def fdivW : Mem → W → W → Option W := iOp fun i j => if 0 < j ∧ j < 1073741824 then some (.int (i / j)) else none
def modW : Mem → W → W → Option W := iOp fun i j => if 0 < j then some (.int (i % j)) else none
def powW : Mem → W → W → Option W := iOp fun i j => if 0 ≤ j ∧ j ≤ 1000000 ∧ i.natAbs < 2 ^ 64 then some (.int (i ^ j.toNat)) else none
def ltW : Mem → W → W → Option W := iOp fun i j => some (.bl (decide (i < j)))
def leW : Mem → W → W → Option W := iOp fun i j => some (.bl (decide (i ≤ j)))
def gtW : Mem → W → W → Option W := iOp fun i j => some (.bl (decide (j < i)))
def geW : Mem → W → W → Option W := iOp fun i j => some (.bl (decide (j ≤ i)))
theorem w_sub : OpW K cl subW (rI0 fun i j => .int (i - j)) := opw_int0 fun i j w e z H => by cases e; rfl
theorem w_fdiv : OpW K cl fdivW (rI CDiv fun i j => .int (i / j)) := opw_int fun i j w e => by
  split at e
  · rename_i c; cases e; exact ⟨c, fun _ _ => rfl⟩
  · cases e
theorem w_mod : OpW K cl modW (rI (fun _ j => 0 < j) fun i j => .int (i % j)) := opw_int fun i j w e => by
  split at e
  · rename_i c; cases e; exact ⟨c, fun _ _ => rfl⟩
  · cases e
theorem w_pow : OpW K cl powW (rI CPow fun i j => .int (i ^ j.toNat)) := opw_int fun i j w e => by
  split at e
  · rename_i c; cases e; exact ⟨c, fun _ _ => rfl⟩
  · cases e
theorem w_lt : OpW K cl ltW (rI0 fun i j => .bl (decide (i < j))) := opw_int0 fun i j w e z H => by cases e; rfl
theorem w_le : OpW K cl leW (rI0 fun i j => .bl (decide (i ≤ j))) := opw_int0 fun i j w e z H => by cases e; rfl
theorem w_gt : OpW K cl gtW (rI0 fun i j => .bl (decide (j < i))) := opw_int0 fun i j w e z H => by cases e; rfl
theorem w_ge : OpW K cl geW (rI0 fun i j => .bl (decide (j ≤ i))) := opw_int0 fun i j w e z H => by cases e; rfl

/-! ### + and * -/
def addS : Mem → W → W → Option W
  | _, .str x, .str y => if x.length + y.length ≤ 16777216 then some (.str (x ++ y)) else none
  | _, _, _ => none
def addT : Mem → W → W → Option W
  | _, .tup xs, .tup ys => if xs.length + ys.length ≤ 16777216 then some (.tup (xs ++ ys)) else none
  | _, _, _ => none
def addL : Mem → W → W → Option W := fun m a b => match trkOf m a, trkOf m b with
  | some xs, some ys => if xs.length + ys.length ≤ 16777216 then some (.lst (xs ++ ys)) else none
  | _, _ => none
theorem w_addS : OpW K cl addS (fun x y H Q => ∃ i j, x = .str i ∧ y = .str j ∧ i.length + j.length ≤ sizeLine ∧ Q (.str (i ++ j)) H) := by
  intro z m H a b x y w Q M ra rb e k
  cases a with
  | str i =>
    cases b with
    | str j =>
      simp only [addS] at e
      split at e
      · rename_i c; cases e; exact ⟨i, j, ra, rb, sl_le c, k z _ H (Ext.refl _ _) M rfl⟩
      · cases e
    | _ => simp [addS] at e
  | _ => simp [addS] at e
theorem RWs.nil_iff {z : Zn} {H : Hp} {ws : List W} {vs : List V} (h : RWs K z H ws vs) : vs = [] ↔ ws = [] := by
  have := h.length
  constructor
  · intro q; subst q; exact List.length_eq_zero_iff.mp this.symm
  · intro q; subst q; exact List.length_eq_zero_iff.mp this
theorem w_addT : OpW K cl addT (rCatA K) := by
  intro z m H a b x y w Q M ra rb e k
  cases a with
  | tup xs =>
    cases b with
    | tup ys =>
      simp only [addT] at e
      split at e
      · rename_i c
        cases e
        obtain ⟨p, vs, e1, e2, e3⟩ := ra
        obtain ⟨q, us, f1, f2, f3⟩ := rb
        refine ⟨p, q, vs, us, e1, f1, e2, f2, ?_, fun hn => ?_, fun _ hn => ?_, fun _ _ l hl => ?_⟩
        · rw [e3.length, f3.length]; exact sl_le c
        · have hx : xs = [] := e3.nil_iff.mp hn
          subst hx
          exact k z _ H (Ext.refl _ _) M ⟨q, us, rfl, f2, f3⟩
        · have hx : ys = [] := f3.nil_iff.mp hn
          subst hx
          rw [List.append_nil] at k
          exact k z _ H (Ext.refl _ _) M ⟨p, vs, rfl, e2, e3⟩
        · obtain ⟨t1, t2, t3⟩ := new_tup (cl := cl) M hl (e3.append f3)
          exact k _ _ _ t1 t2 t3
      · cases e
    | _ => simp [addT] at e
  | _ => simp [addT] at e
theorem w_addL : OpW K cl addL rCat := by
  intro z m H a b x y w Q M ra rb e k
  unfold addL at e
  split at e
  · rename_i xs ys e1 e2
    split at e
    · rename_i c
      cases e
      obtain ⟨p, vs, a1, a2, a3⟩ := trk_at M ra e1
      obtain ⟨q, us, b1, b2, b3⟩ := trk_at M rb e2
      refine ⟨p, q, vs, us, a1, b1, a2, b2, by rw [a3.length, b3.length]; exact sl_le c, fun l hl => ?_⟩
      obtain ⟨t1, t2, t3⟩ := new_lst (cl := cl) M hl (a3.append b3)
      exact k _ _ _ t1 t2 t3
    · cases e
  · cases e
def addI : Mem → W → W → Option W := iOp fun i j => some (.int (i + j))
theorem w_addI : OpW K cl addI (rI0 fun i j => .int (i + j)) := opw_int0 fun i j w e z H => by cases e; rfl
def addW (m : Mem) (a b : W) : Option W := match a, b with
  | .int i, .int j => some (.int (i + j))
  | .str x, .str y => addS m (.str x) (.str y)
  | .tup x, .tup y => addT m (.tup x) (.tup y)
  | a, b => addL m a b
abbrev rAddW (K : PySem.W.Frag) : R2 := fun x y H Q => (rI0 fun i j => .int (i + j)) x y H Q ∨ (fun x y H Q => (fun x y H Q => ∃ i j, x = V.str i ∧ y = V.str j ∧ i.length + j.length ≤ sizeLine ∧ Q (V.str (i ++ j)) H) x y H Q ∨ (fun x y H Q => rCatA K x y H Q ∨ rCat x y H Q) x y H Q) x y H Q
theorem o_add : OpR X (binaryOp .Add) (rAddW X.K) := op_add.or (op_add_str.or (op_catA.or op_cat))
theorem w_add : OpW K cl addW (rAddW K) := by
  refine OpW.or (o1 := addI) (o2 := fun m a b => match a, b with
    | .str x, .str y => addS m (.str x) (.str y)
    | .tup x, .tup y => addT m (.tup x) (.tup y)
    | a, b => addL m a b) w_addI (OpW.or (o1 := addS) (o2 := fun m a b => match a, b with
    | .tup x, .tup y => addT m (.tup x) (.tup y)
    | a, b => addL m a b) w_addS (OpW.or (o1 := addT) (o2 := addL) w_addT w_addL ?_) ?_) ?_
  · intro m a b w e
    split at e
    · exact .inl e
    · exact .inr e
  · intro m a b w e
    split at e
    · exact .inl e
    · exact .inr e
    · exact .inr (by rename_i h1 h2; split <;> first | exact e | (rename_i h; exact absurd rfl (h2 _ _ rfl)))
  · intro m a b w e
    unfold addW at e
    split at e
    · exact .inl e
    · exact .inr e
    · exact .inr e
    · refine .inr ?_
      rename_i h1 h2 h3
      split
      · exact absurd rfl (h2 _ _ rfl)
      · exact absurd rfl (h3 _ _ rfl)
      · exact e
def mulI : Mem → W → W → Option W := iOp fun i j => if (-(2 ^ 64) < i ∧ i < 2 ^ 64) ∨ (-(2 ^ 64) < j ∧ j < 2 ^ 64) then some (.int (i * j)) else none
theorem w_mulI : OpW K cl mulI (rI CMul fun i j => .int (i * j)) := opw_int fun i j w e => by
  split at e
  · rename_i c; cases e; exact ⟨c, fun _ _ => rfl⟩
  · cases e
def mulL : Mem → W → W → Option W := fun m a b => match trkOf m a, b with
  | some xs, .int k => if -(2 ^ 63) ≤ k ∧ k < 2 ^ 63 ∧ xs.length * k.toNat ≤ 16777216 then some (.lst (List.replicate k.toNat xs).flatten) else none
  | _, _ => none
theorem RWs.rep {z : Zn} {H : Hp} {ws : List W} {vs : List V} (h : RWs K z H ws vs) : ∀ k : Nat, RWs K z H (List.replicate k ws).flatten (List.replicate k vs).flatten
  | 0 => rfl
  | k + 1 => by
    rw [List.replicate_succ, List.replicate_succ, List.flatten_cons, List.flatten_cons]
    exact h.append (RWs.rep h k)
theorem w_mulL : OpW K cl mulL rRep := by
  intro z m H a b x y w Q M ra rb e k
  unfold mulL at e
  split at e
  · rename_i xs j e1
    split at e
    · rename_i c
      cases e
      obtain ⟨p, vs, a1, a2, a3⟩ := trk_at M ra e1
      refine ⟨p, j, vs, a1, rb, a2, c.1, c.2.1, by rw [a3.length]; exact sl_le c.2.2, fun l hl => ?_⟩
      obtain ⟨t1, t2, t3⟩ := new_lst (cl := cl) M hl (a3.rep j.toNat)
      exact k _ _ _ t1 t2 t3
    · cases e
  · cases e
def mulW (m : Mem) (a b : W) : Option W := match a, b with
  | .int i, .int j => mulI m (.int i) (.int j)
  | a, b => mulL m a b
theorem o_mul : OpR X (binaryOp .Mult) (fun x y H Q => (rI CMul fun i j => .int (i * j)) x y H Q ∨ rRep x y H Q) := op_mul.or op_rep
theorem w_mul : OpW K cl mulW (fun x y H Q => (rI CMul fun i j => .int (i * j)) x y H Q ∨ rRep x y H Q) := by
  refine OpW.or (o1 := mulI) (o2 := mulL) w_mulI w_mulL ?_
  intro m a b w e
  unfold mulW at e
  split at e
  · exact .inl e
  · exact .inr e

/-! ### == and in, over data -/
mutual
def okW (n : Nat) : W → Bool
  | .non => true
  | .bl _ => true
  | .int _ => true
  | .str x => PyData.strOk x
  | .tup xs => match n with
    | 0 => false
    | k + 1 => okWs k xs
  | .lst xs => match n with
    | 0 => false
    | k + 1 => okWs k xs
  | .old xs => match n with
    | 0 => false
    | k + 1 => okWs k xs
  | .ref _ => false
  | .raw _ => false
def okWs (n : Nat) : List W → Bool
  | [] => true
  | w :: ws => okW n w && okWs n ws
end
mutual
def toD : W → PyData
  | .non => .none
  | .bl b => .bool b
  | .int i => .int i
  | .str x => .str x
  | .tup xs => .tuple (toDs xs)
  | .lst xs => .list (toDs xs)
  | .old xs => .list (toDs xs)
  | .ref _ => .none
  | .raw _ => .none
def toDs : List W → List PyData
  | [] => []
  | w :: ws => toD w :: toDs ws
end
mutual
def eqW : W → W → Bool
  | .non, .non => true
  | .bl a, .bl b => a == b
  | .bl a, .int j => (if a then 1 else 0) == j
  | .int i, .bl b => i == (if b then 1 else 0)
  | .int i, .int j => i == j
  | .str x, .str y => x == y
  | .tup xs, .tup ys => eqWs xs ys
  | .lst xs, .lst ys => eqWs xs ys
  | .lst xs, .old ys => eqWs xs ys
  | .old xs, .lst ys => eqWs xs ys
  | .old xs, .old ys => eqWs xs ys
  | _, _ => false
def eqWs : List W → List W → Bool
  | [], [] => true
  | x :: xs, y :: ys => eqW x y && eqWs xs ys
  | _, _ => false
end
mutual
theorem okW_lay : ∀ (n : Nat) (w : W), okW n w = true → (toD w).canLay0 = true ∧ (toD w).depth ≤ n
  | n, .non, _ => ⟨rfl, Nat.zero_le _⟩
  | n, .bl _, _ => ⟨rfl, Nat.zero_le _⟩
  | n, .int _, _ => ⟨rfl, Nat.zero_le _⟩
  | n, .str x, h => ⟨by simpa [toD, PyData.canLay0, okW] using h, by simp [toD, PyData.depth]⟩
  | 0, .tup xs, h => by simp [okW] at h
  | n + 1, .tup xs, h => by
    obtain ⟨h1, h2⟩ := okWs_lay n xs (by simpa [okW] using h)
    exact ⟨by simpa [toD, PyData.canLay0] using h1, by simpa [toD, PyData.depth] using h2⟩
  | 0, .lst xs, h => by simp [okW] at h
  | n + 1, .lst xs, h => by
    obtain ⟨h1, h2⟩ := okWs_lay n xs (by simpa [okW] using h)
    exact ⟨by simpa [toD, PyData.canLay0] using h1, by simpa [toD, PyData.depth] using h2⟩
  | 0, .old xs, h => by simp [okW] at h
  | n + 1, .old xs, h => by
    obtain ⟨h1, h2⟩ := okWs_lay n xs (by simpa [okW] using h)
    exact ⟨by simpa [toD, PyData.canLay0] using h1, by simpa [toD, PyData.depth] using h2⟩
  | n, .ref _, h => by simp [okW] at h
  | n, .raw _, h => by simp [okW] at h
theorem okWs_lay : ∀ (n : Nat) (ws : List W), okWs n ws = true → PyData.canLayAll0 (toDs ws) = true ∧ PyData.depthAll (toDs ws) ≤ n
  | n, [], _ => ⟨rfl, Nat.zero_le _⟩
  | n, w :: ws, h => by
    rw [okWs, Bool.and_eq_true_iff] at h
    obtain ⟨h1, h2⟩ := okW_lay n w h.1
    obtain ⟨h3, h4⟩ := okWs_lay n ws h.2
    exact ⟨by simp [toDs, PyData.canLayAll0, h1, h3], by simp only [toDs, PyData.depthAll]; omega⟩
end
theorem okW_shaped {n : Nat} {w : W} (h : okW n w = true) (hn : n ≤ 64) : SeqAt.shaped (toD w) = true := by
  obtain ⟨h1, h2⟩ := okW_lay n w h
  unfold SeqAt.shaped
  rw [h1, Bool.true_and]
  exact decide_eq_true (Nat.le_trans h2 hn)
mutual
theorem eqv_toD : ∀ (n k : Nat) (a b : W), okW n a = true → okW k b = true → PyData.eqv (toD a) (toD b) = eqW a b
  | n, k, .non, b, ha, hb => by cases b <;> first | rfl | simp [okW] at hb
  | n, k, .bl x, b, ha, hb => by cases b <;> first | rfl | simp [okW] at hb
  | n, k, .int x, b, ha, hb => by cases b <;> first | rfl | simp [okW] at hb
  | n, k, .str x, b, ha, hb => by cases b <;> first | rfl | simp [okW] at hb
  | 0, k, .tup xs, b, ha, hb => by simp [okW] at ha
  | n + 1, k, .tup xs, b, ha, hb => by
    cases b with
    | tup ys =>
      cases k with
      | zero => simp [okW] at hb
      | succ k =>
        simp only [toD, PyData.eqv, eqW]
        exact eqv_toDs n k xs ys (by simpa [okW] using ha) (by simpa [okW] using hb)
    | ref _ => simp [okW] at hb
    | raw _ => simp [okW] at hb
    | _ => rfl
  | 0, k, .lst xs, b, ha, hb => by simp [okW] at ha
  | n + 1, k, .lst xs, b, ha, hb => by
    cases b with
    | lst ys =>
      cases k with
      | zero => simp [okW] at hb
      | succ k =>
        simp only [toD, PyData.eqv, eqW]
        exact eqv_toDs n k xs ys (by simpa [okW] using ha) (by simpa [okW] using hb)
    | old ys =>
      cases k with
      | zero => simp [okW] at hb
      | succ k =>
        simp only [toD, PyData.eqv, eqW]
        exact eqv_toDs n k xs ys (by simpa [okW] using ha) (by simpa [okW] using hb)
    | ref _ => simp [okW] at hb
    | raw _ => simp [okW] at hb
    | _ => rfl
  | 0, k, .old xs, b, ha, hb => by simp [okW] at ha
  | n + 1, k, .old xs, b, ha, hb => by
    cases b with
    | lst ys =>
      cases k with
      | zero => simp [okW] at hb
      | succ k =>
        simp only [toD, PyData.eqv, eqW]
        exact eqv_toDs n k xs ys (by simpa [okW] using ha) (by simpa [okW] using hb)
    | old ys =>
      cases k with
      | zero => simp [okW] at hb
      | succ k =>
        simp only [toD, PyData.eqv, eqW]
        exact eqv_toDs n k xs ys (by simpa [okW] using ha) (by simpa [okW] using hb)
    | ref _ => simp [okW] at hb
    | raw _ => simp [okW] at hb
    | _ => rfl
  | n, k, .ref _, b, ha, hb => by simp [okW] at ha
  | n, k, .raw _, b, ha, hb => by simp [okW] at ha
theorem eqv_toDs : ∀ (n k : Nat) (as bs : List W), okWs n as = true → okWs k bs = true → PyData.eqvAll (toDs as) (toDs bs) = eqWs as bs
  | n, k, [], [], _, _ => rfl
  | n, k, [], _ :: _, _, _ => rfl
  | n, k, _ :: _, [], _, _ => rfl
  | n, k, a :: as, b :: bs, ha, hb => by
    rw [okWs, Bool.and_eq_true_iff] at ha hb
    simp only [toDs, PyData.eqvAll, eqWs]
    rw [eqv_toD n k a b ha.1 hb.1, eqv_toDs n k as bs ha.2 hb.2]
end
mutual
theorem dp_of {z : Zn} {H : Hp} : ∀ {n : Nat} {w : W} {v : V}, okW n w = true → RW K z H w v → Dp K H v (toD w)
  | _, .non, _, _, h => by cases h; exact .non
  | _, .bl _, _, _, h => by cases h; exact .bl _
  | _, .int _, _, _, h => by cases h; exact .int _
  | _, .str _, _, _, h => by cases h; exact .str _
  | 0, .tup ws, _, ho, _ => by simp [okW] at ho
  | n + 1, .tup ws, _, ho, ⟨a, vs, h1, h2, h3⟩ => by subst h1; exact .tup h2 (dps_of (n := n) (by simpa [okW] using ho) h3)
  | 0, .lst ws, _, ho, _ => by simp [okW] at ho
  | n + 1, .lst ws, _, ho, ⟨a, vs, h1, h2, h3⟩ => by subst h1; exact .lst (SqL.of h2.2) (dps_of (n := n) (by simpa [okW] using ho) h3)
  | 0, .old ws, _, ho, _ => by simp [okW] at ho
  | n + 1, .old ws, _, ho, ⟨a, vs, h1, h2, h3⟩ => by subst h1; exact .lst h2.sq (dps_of (n := n) (by simpa [okW] using ho) h3)
  | _, .ref _, _, ho, _ => by simp [okW] at ho
  | _, .raw _, _, ho, _ => by simp [okW] at ho
theorem dps_of {z : Zn} {H : Hp} : ∀ {n : Nat} {ws : List W} {vs : List V}, okWs n ws = true → RWs K z H ws vs → DpAll K H vs (toDs ws)
  | _, [], _, _, h => by cases h; exact .nil
  | _, _ :: _, _, ho, ⟨v, r, h1, h2, h3⟩ => by
    subst h1
    rw [okWs, Bool.and_eq_true_iff] at ho
    exact .cons (dp_of ho.1 h2) (dps_of ho.2 h3)
end
/-- a list that may change, as it is now -/
def rsv (m : Mem) : W → W
  | .ref n => match m[n]? with
    | some (.lst xs) => .lst xs
    | some (.fz xs) => .lst xs
    | _ => .ref n
  | w => w
theorem dp_rsv {z : Zn} {m : Mem} {H : Hp} {n : Nat} {w : W} {v : V} (M : MemOk K cl z m H) (ho : okW n (rsv m w) = true) (h : RW K z H w v) : Dp K H v (toD (rsv m w)) := by
  cases w with
  | ref i =>
    obtain ⟨a, h1, h2⟩ := h
    obtain ⟨c, e1, hc⟩ := M.at h1
    subst h2
    simp only [rsv, e1] at ho ⊢
    cases c with
    | lst ys =>
      obtain ⟨_, _, vs, q, rr⟩ := hc
      cases n with
      | zero => simp [okW] at ho
      | succ n => exact .lst (SqL.of q) (dps_of (n := n) (by simpa [okW] using ho) rr)
    | fz ys =>
      obtain ⟨_, vs, q, rr⟩ := hc
      cases n with
      | zero => simp [okW] at ho
      | succ n => exact .lst (SqL.of q) (dps_of (n := n) (by simpa [okW] using ho) rr)
    | _ => simp [okW] at ho
  | _ => exact dp_of ho h
def eqM (m : Mem) (a b : W) : Option W := if okW 60 (rsv m a) && okW 60 (rsv m b) then some (.bl (eqW (rsv m a) (rsv m b))) else none
def neM (m : Mem) (a b : W) : Option W := if okW 60 (rsv m a) && okW 60 (rsv m b) then some (.bl (!eqW (rsv m a) (rsv m b))) else none
theorem w_eq : OpW K cl eqM (rEqD K) := by
  intro z m H a b x y w Q M ra rb e k
  unfold eqM at e
  split at e
  · rename_i c
    rw [Bool.and_eq_true_iff] at c
    cases e
    refine ⟨_, _, dp_rsv M c.1 ra, dp_rsv M c.2 rb, okW_shaped c.1 (by decide), okW_shaped c.2 (by decide), ?_⟩
    rw [eqv_toD _ _ _ _ c.1 c.2]
    exact k z _ H (Ext.refl _ _) M rfl
  · cases e
theorem w_ne : OpW K cl neM (rNeD K) := by
  intro z m H a b x y w Q M ra rb e k
  unfold neM at e
  split at e
  · rename_i c
    rw [Bool.and_eq_true_iff] at c
    cases e
    refine ⟨_, _, dp_rsv M c.1 ra, dp_rsv M c.2 rb, okW_shaped c.1 (by decide), okW_shaped c.2 (by decide), ?_⟩
    rw [eqv_toD _ _ _ _ c.1 c.2]
    exact k z _ H (Ext.refl _ _) M rfl
  · cases e
/-! in, not in: of data, in lists and tuples -/
def rInA (K : PySem.W.Frag) (neg : Bool) : R2 := fun x y H Q => ∃ d ds, Dp K H x d ∧ (Dp K H y (.list ds) ∨ Dp K H y (.tuple ds)) ∧ SeqAt.shaped d = true ∧ SeqAt.shaped (.list ds) = true ∧ Q (.bl (if neg then !(ds.any fun z => PyData.eqv z d) else ds.any fun z => PyData.eqv z d)) H
theorem shaped_tl {ds : List PyData} (h : SeqAt.shaped (.list ds) = true) : SeqAt.shaped (.tuple ds) = true := h
theorem op_inA (hu : X.A.units + 65 < cLine) : OpR X (compareOp .In) (rInA X.K false) := by
  intro pins s σ H x y v u Q I rx ry h
  obtain ⟨d, ds, hd, he, sd, se, q⟩ := h
  obtain ⟨as, r1⟩ := Dp.reads I d x v hd rx
  rcases he with he | he
  · obtain ⟨bs, r2⟩ := Dp.reads I (.list ds) y u he ry
    exact SeqAt.in_list_reads r2 r1 (SeqAt.canLay_of_shaped se) (SeqAt.canLay_of_shaped sd) (room_in_shaped sd hu) ⟨.bl _, H, I, rfl, q⟩
  · obtain ⟨bs, r2⟩ := Dp.reads I (.tuple ds) y u he ry
    exact SeqAt.in_tuple_reads r2 r1 (SeqAt.canLay_of_shaped (shaped_tl se)) (SeqAt.canLay_of_shaped sd) (room_in_shaped sd hu) ⟨.bl _, H, I, rfl, q⟩
theorem op_notInA (hu : X.A.units + 65 < cLine) : OpR X (compareOp .NotIn) (rInA X.K true) := by
  intro pins s σ H x y v u Q I rx ry h
  obtain ⟨d, ds, hd, he, sd, se, q⟩ := h
  obtain ⟨as, r1⟩ := Dp.reads I d x v hd rx
  rcases he with he | he
  · obtain ⟨bs, r2⟩ := Dp.reads I (.list ds) y u he ry
    exact SeqAt.notIn_list_reads r2 r1 (SeqAt.canLay_of_shaped se) (SeqAt.canLay_of_shaped sd) (room_in_shaped sd hu) ⟨.bl _, H, I, rfl, q⟩
  · obtain ⟨bs, r2⟩ := Dp.reads I (.tuple ds) y u he ry
    exact SeqAt.notIn_tuple_reads r2 r1 (SeqAt.canLay_of_shaped (shaped_tl se)) (SeqAt.canLay_of_shaped sd) (room_in_shaped sd hu) ⟨.bl _, H, I, rfl, q⟩
def anyEq (a : W) : List W → Bool
  | [] => false
  | y :: ys => eqW y a || anyEq a ys
def inM (neg : Bool) (m : Mem) (a b : W) : Option W := match seqOf m b with
  | some ys => if okW 60 (rsv m a) && okWs 60 ys then some (.bl (if neg then !anyEq (rsv m a) ys else anyEq (rsv m a) ys)) else none
  | none => none
theorem any_toDs {n k : Nat} {a : W} (ha : okW n a = true) : ∀ {ys : List W}, okWs k ys = true → ((toDs ys).any fun z => PyData.eqv z (toD a)) = anyEq a ys
  | [], _ => rfl
  | y :: ys, h => by
    rw [okWs, Bool.and_eq_true_iff] at h
    simp only [toDs, List.any_cons, anyEq]
    rw [eqv_toD k n y a h.1 ha, any_toDs ha h.2]
theorem w_in {neg : Bool} : OpW K cl (inM neg) (rInA K neg) := by
  intro z m H a b x y w Q M ra rb e k
  unfold inM at e
  split at e
  · rename_i ys q
    split at e
    · rename_i c
      rw [Bool.and_eq_true_iff] at c
      cases e
      obtain ⟨p, vs, e1, e2, e3⟩ := seq_at M rb q
      subst e1
      refine ⟨toD (rsv m a), toDs ys, dp_rsv M c.1 ra, ?_, okW_shaped c.1 (by decide), okW_shaped (n := 61) (w := .lst ys) (by simpa [okW] using c.2) (by decide), ?_⟩
      · rcases e2 with e2 | e2
        · exact .inl (.lst e2 (dps_of c.2 e3))
        · exact .inr (.tup e2 (dps_of c.2 e3))
      · rw [any_toDs c.1 c.2]
        exact k z _ H (Ext.refl _ _) M rfl
    · cases e
  · cases e

/-! ### items -/
def ixM (m : Mem) (a b : W) : Option W := match seqOf m a, b with
  | some xs, .int i => atI xs i
  | _, _ => none
theorem atI_rel {z : Zn} {H : Hp} {ws : List W} {vs : List V} {i : Int} {w : W} (h : RWs K z H ws vs) (e : atI ws i = some w) : ∃ v, atI vs i = some v ∧ RW K z H w v := by
  unfold atI at e ⊢
  rw [h.length]
  cases q : ixN ws.length i with
  | none => rw [q] at e; cases e
  | some j =>
    rw [q] at e
    obtain ⟨v, e1, e2⟩ := h.get (i := j) (w := w) (by simpa using e)
    exact ⟨v, by simpa using e1, e2⟩
theorem w_ix : OpW K cl ixM (rIx K) := by
  intro z m H a b x y w Q M ra rb e k
  unfold ixM at e
  split at e
  · rename_i xs i q
    obtain ⟨p, vs, e1, e2, e3⟩ := seq_at M ra q
    obtain ⟨v, f1, f2⟩ := atI_rel e3 e
    rcases e2 with e2 | e2
    · exact .inl ⟨p, vs, i, v, e1, rb, e2, f1, k z _ H (Ext.refl _ _) M f2⟩
    · exact .inr (.inl ⟨p, vs, i, v, e1, rb, e2, f1, k z _ H (Ext.refl _ _) M f2⟩)
  · cases e
end
end Dn

/-! D4: statements, targets, loops. -/
namespace Dn
open PySem PySem.Spec PyProof.Rows L2

def PostS (g : Gx) (z : Zn) (H : Hp) (q : RS) (D : Ends) : Prop :=
  match q with
  | .next r m => ∀ z' s' H', Ext z H z' H' → Rel g.K g.cl z' r m s' H' → D.nx s' H'
  | .brk r m => ∀ z' s' H', Ext z H z' H' → Rel g.K g.cl z' r m s' H' → D.bk s' H'
  | .cont r m => ∀ z' s' H', Ext z H z' H' → Rel g.K g.cl z' r m s' H' → D.ct s' H'
  | .ret w m => ∀ z' v H', Ext z H z' H' → MemOk g.K g.cl z' m H' → RW g.K z' H' w v → D.rt v H'
  | .exc x r m => ∀ z' s' H' c d, Ext z H z' H' → Rel g.K g.cl z' r m s' H' → XnOk g.K g.cl z' H' x c d → g.Wx c d s' H'
  | .bad => False
def tS (g : Gx) (f : DS) : TS := fun D s H => ∃ r m z, Rel g.K g.cl z r m s H ∧ PostS g z H (f r m) D
def R.thenS {α : Type} (q : R α) (r : Rho) (k : α → Mem → RS) : RS :=
  match q with
  | .ok a m => k a m
  | .exc x m => .exc x r m
  | .bad => .bad

section
variable {α β : Type} {g : Gx} {rel : Zn → Hp → α → β → Prop} {z z1 : Zn} {H H1 : Hp} {r : Rho} {s : L2.St} {D : Ends} {Q1 : β → Hp → Prop}
theorem PostS.mono {q : RS} (e : Ext z H z1 H1) (h : PostS g z H q D) : PostS g z1 H1 q D := by
  cases q with
  | next r m => exact fun z' s' H' e' => h z' s' H' (e.trans e')
  | brk r m => exact fun z' s' H' e' => h z' s' H' (e.trans e')
  | cont r m => exact fun z' s' H' e' => h z' s' H' (e.trans e')
  | ret w m => exact fun z' v H' e' => h z' v H' (e.trans e')
  | exc x r m => exact fun z' s' H' c d e' => h z' s' H' c d (e.trans e')
  | bad => exact h
theorem PostS.bind {q : R α} {k : α → Mem → RS} (h : PostS g z H (q.thenS r k) D)
    (hk : ∀ z1 a m1 b H1, Ext z H z1 H1 → Rel g.K g.cl z1 r m1 s H1 → rel z1 H1 a b → PostS g z1 H1 (k a m1) D → Q1 b H1) : Post g rel z H r s q Q1 := by
  cases q with
  | ok a m => exact fun z' b H' e R q => hk z' a m b H' e R q (PostS.mono e h)
  | exc x m => exact fun z' H' c d e R q => h z' s H' c d e R q
  | bad => exact h
theorem PostS.next {m : Mem} (h : PostS g z H (.next r m) D) (R : Rel g.K g.cl z r m s H) : D.nx s H := h z s H (Ext.refl _ _) R
end

section
variable {X : Cx} {cl : Clz} {Wx : WX} {e a b : Expr} {pos : Pos} {st : Stmt}
theorem _root_.L2.PS.imp {t t' : TS} (h : PS X st t) (hi : ∀ D s H, t' D s H → t D s H) : PS X st t' := ⟨fun pins sh s H D I q => h.run pins sh s H D I (hi _ _ _ q)⟩
theorem _root_.L2.PSs.imp {sts : List Stmt} {t t' : TS} (h : PSs X sts t) (hi : ∀ D s H, t' D s H → t D s H) : PSs X sts t' := ⟨fun pins sh s H D I q => h.run pins sh s H D I (hi _ _ _ q)⟩
def sNil : DS := fun r m => .next r m
def sSeq (f h : DS) : DS := fun r m => match f r m with
  | .next r1 m1 => h r1 m1
  | q => q
theorem ss_nil : PSs X [] (tS (gx X cl Wx) sNil) := pss_nil.imp fun D s H ⟨r, m, z, R, P⟩ => P.next R
theorem ss_cons {rest : List Stmt} {f h : DS} (h1 : PS X st (tS (gx X cl Wx) f)) (h2 : PSs X rest (tS (gx X cl Wx) h)) : PSs X (st :: rest) (tS (gx X cl Wx) (sSeq f h)) :=
  (pss_cons h1 h2).imp fun D s H ⟨r, m, z, R, P⟩ => by
    refine ⟨r, m, z, R, ?_⟩
    unfold sSeq at P
    cases q : f r m with
    | next r1 m1 =>
      rw [q] at P
      exact fun z' s' H' e R' => ⟨r1, m1, z', R', PostS.mono e P⟩
    | brk r1 m1 => rw [q] at P; exact P
    | cont r1 m1 => rw [q] at P; exact P
    | ret w m1 => rw [q] at P; exact P
    | exc x r1 m1 => rw [q] at P; exact P
    | bad => rw [q] at P; exact P
theorem ss_one {f : DS} (h1 : PS X st (tS (gx X cl Wx) f)) : PSs X [st] (tS (gx X cl Wx) f) := pss_one h1
def sPass : DS := fun r m => .next r m
def sBrk : DS := fun r m => .brk r m
def sCont : DS := fun r m => .cont r m
theorem ss_pass : PS X (.Pass pos) (tS (gx X cl Wx) sPass) := ps_pass.imp fun D s H ⟨r, m, z, R, P⟩ => P.next R
theorem ss_break : PS X (.Break pos) (tS (gx X cl Wx) sBrk) := ps_break.imp fun D s H ⟨r, m, z, R, P⟩ => P z s H (Ext.refl _ _) R
theorem ss_continue : PS X (.Continue pos) (tS (gx X cl Wx) sCont) := ps_continue.imp fun D s H ⟨r, m, z, R, P⟩ => P z s H (Ext.refl _ _) R
def sExpr (f : DE) : DS := fun r m => (f r m).thenS r fun _ m1 => .next r m1
theorem ss_expr {f : DE} (he : PE X e (tE (gx X cl Wx) f)) (hs : swapsWith e none pos.line X.env = pure false := by rfl) : PS X (.Expr e pos) (tS (gx X cl Wx) (sExpr f)) :=
  (ps_expr he hs).imp fun D s H ⟨r, m, z, R, P⟩ => ⟨r, m, z, R, P.bind fun z1 w m1 v H1 E1 R1 r1 P1 => P1.next R1⟩
def sRet (f : DE) : DS := fun r m => (f r m).thenS r fun w m1 => .ret w m1
theorem ss_ret {f : DE} (he : PE X e (tE (gx X cl Wx) f)) : PS X (.Return (some e) pos) (tS (gx X cl Wx) (sRet f)) :=
  (ps_ret he).imp fun D s H ⟨r, m, z, R, P⟩ => ⟨r, m, z, R, P.bind fun z1 w m1 v H1 E1 R1 r1 P1 => P1 z1 v H1 (Ext.refl _ _) R1.mem r1⟩
def sRetN : DS := fun _ m => .ret .non m
theorem ss_retN : PS X (.Return none pos) (tS (gx X cl Wx) sRetN) := ps_retN.imp fun D s H ⟨r, m, z, R, P⟩ => P z _ H (Ext.refl _ _) R.mem rfl
def sIf (c : DT) (f h : DS) : DS := fun r m => (c r m).thenS r fun k m1 => if k = true then f r m1 else h r m1
theorem ss_if {c : Expr} {xs ys : List Stmt} {fc : DT} {f h : DS} (hc : PT X c (tT (gx X cl Wx) fc)) (ha : PSs X xs (tS (gx X cl Wx) f)) (hb : PSs X ys (tS (gx X cl Wx) h)) : PS X (.If c xs ys pos) (tS (gx X cl Wx) (sIf fc f h)) :=
  (ps_if hc ha hb).imp fun D s H ⟨r, m, z, R, P⟩ => by
    refine ⟨r, m, z, R, P.bind (rel := relB) fun z1 k m1 d H1 E1 R1 r1 P1 => ?_⟩
    have r1 : k = d := r1
    subst r1
    cases k with
    | true => exact ⟨r, m1, z1, R1, P1⟩
    | false => exact ⟨r, m1, z1, R1, P1⟩

/-! ### targets -/
abbrev DG := W → Rho → Option Rho
/-- the slots but those in js are as they were -/
def Agree (js : List Nat) (s s' : L2.St) : Prop := s'.length = s.length ∧ ∀ i : Nat, i ∉ js → s'[i]? = s[i]?
theorem Agree.refl (js : List Nat) (s : L2.St) : Agree js s s := ⟨rfl, fun _ _ => rfl⟩
theorem Agree.trans {js ks : List Nat} {s s1 s2 : L2.St} (a : Agree js s s1) (b : Agree ks s1 s2) : Agree (js ++ ks) s s2 :=
  ⟨b.1.trans a.1, fun i h => (b.2 i fun q => h (List.mem_append_right _ q)).trans (a.2 i fun q => h (List.mem_append_left _ q))⟩
theorem Agree.set (i : Nat) (s : L2.St) (v : Option V) : Agree [i] s (s.set i v) := ⟨by simp, fun j h => List.getElem?_set_ne (by intro q; exact h (by simp [q]))⟩
def tGt (K : PySem.W.Frag) (cl : Clz) (js : List Nat) (f : DG) : TG := fun v s H Q => ∃ w r m z, Rel K cl z r m s H ∧ RW K z H w v ∧ match f w r with
  | some r' => ∀ s', Rel K cl z r' m s' H → Agree js s s' → Q s' H
  | none => False
def tGts (K : PySem.W.Frag) (cl : Clz) (js : List Nat) (f : List W → Rho → Option Rho) : TGs := fun vs s H Q => ∃ ws r m z, Rel K cl z r m s H ∧ RWs K z H ws vs ∧ match f ws r with
  | some r' => ∀ s', Rel K cl z r' m s' H → Agree js s s' → Q s' H
  | none => False
def gN (i : Nat) : DG := fun w r => some (r.set i (some w))
def gsNil : List W → Rho → Option Rho := fun ws r => match ws with
  | [] => some r
  | _ => none
def gsCons (f : DG) (t : List W → Rho → Option Rho) : List W → Rho → Option Rho := fun ws r => match ws with
  | w :: ws => (f w r).bind fun r1 => t ws r1
  | [] => none
def gT (t : List W → Rho → Option Rho) : DG := fun w r => match w with
  | .tup ws => t ws r
  | _ => none
theorem _root_.L2.PG.imp {tg : Expr} {t t' : TG} (h : PG X tg t) (hi : ∀ v s H Q, t' v s H Q → t v s H Q) : PG X tg t' := ⟨fun pins sh s H v u Q I rv q => h.run pins sh s H v u Q I rv (hi _ _ _ _ q)⟩
theorem _root_.L2.PGs.imp {tg : List Expr} {t t' : TGs} (h : PGs X tg t) (hi : ∀ v s H Q, t' v s H Q → t v s H Q) : PGs X tg t' := ⟨fun pins sh s H v u Q I rv q => h.run pins sh s H v u Q I rv (hi _ _ _ _ q)⟩
theorem sg_name {i : Nat} {x : Str} (h : PG X (.Name x pos) (gName i)) : PG X (.Name x pos) (tGt X.K cl [i] (gN i)) :=
  h.imp fun v s H Q ⟨w, r, m, z, R, q, k⟩ => k _ ⟨R.slots.set q, R.mem⟩ (Agree.set i s _)
theorem sgs_nil : PGs X [] (tGts X.K cl [] gsNil) := pgs_nil.imp fun vs s H Q ⟨ws, r, m, z, R, q, k⟩ => by
  cases ws with
  | nil => exact ⟨q, k s R (Agree.refl _ _)⟩
  | cons w ws => exact k.elim
theorem sgs_cons {es : List Expr} {js ks : List Nat} {f : DG} {t : List W → Rho → Option Rho} (h1 : PG X e (tGt X.K cl js f)) (h2 : PGs X es (tGts X.K cl ks t))
    (hs : (assignEach (e :: es) X.env).map (·.2) = assign e X.env :: (assignEach es X.env).map (·.2) := by rfl) : PGs X (e :: es) (tGts X.K cl (js ++ ks) (gsCons f t)) :=
  (pgs_cons h1 h2 hs).imp fun vs s H Q ⟨ws, r, m, z, R, q, k⟩ => by
    cases ws with
    | nil => exact k.elim
    | cons w ws =>
      obtain ⟨v, vr, e1, q1, q2⟩ := q
      refine ⟨v, vr, e1, w, r, m, z, R, q1, ?_⟩
      simp only [gsCons] at k
      cases e2 : f w r with
      | none => rw [e2] at k; exact k.elim
      | some r1 =>
        rw [e2] at k
        refine fun s' R' a1 => ⟨ws, r1, m, z, R', q2, ?_⟩
        simp only [Option.bind] at k
        cases e3 : t ws r1 with
        | none => rw [e3] at k; exact k
        | some r2 => rw [e3] at k; exact fun s2 R2 a2 => k s2 R2 (a1.trans a2)
theorem sg_tup {es : List Expr} {x1 : Nat} {js : List Nat} {t : List W → Rho → Option Rho} {n : Nat} (hc : X.calm = true) (h : PGs X es (tGts X.K cl js t)) (ht : ∀ ws r r', t ws r = some r' → ws.length = n)
    (hn : (assignEach es X.env).length = n := by rfl) (hst : (assignEach es X.env).findIdx? (·.1) = none := by rfl) : PG X (.Tuple es x1 pos) (tGt X.K cl js (gT t)) :=
  (pg_tup hc h hn hst).imp fun v s H Q ⟨w, r, m, z, R, q, k⟩ => by
    cases w with
    | tup ws =>
      obtain ⟨p, vs, e1, e2, e3⟩ := q
      refine ⟨p, vs, e1, e2, ?_, ws, r, m, z, R, e3, k⟩
      simp only [gT] at k
      cases e4 : t ws r with
      | none => rw [e4] at k; exact k.elim
      | some r' => rw [e3.length]; exact ht ws r r' e4
    | _ => exact k.elim
theorem gsNil_len : ∀ ws r r', gsNil ws r = some r' → ws.length = 0 := fun ws r r' h => by
  cases ws with
  | nil => rfl
  | cons w ws => cases h
theorem gsCons_len {f : DG} {t : List W → Rho → Option Rho} {n : Nat} (ht : ∀ ws r r', t ws r = some r' → ws.length = n) : ∀ ws r r', gsCons f t ws r = some r' → ws.length = n + 1 := fun ws r r' h => by
  cases ws with
  | nil => cases h
  | cons w ws =>
    simp only [gsCons] at h
    cases e : f w r with
    | none => rw [e] at h; cases h
    | some r1 => rw [e] at h; rw [List.length_cons, ht ws r1 r' h]
/-- x = e; a, b, .. = e -/
def sAsg (f : DE) (t : DG) : DS := fun r m => (f r m).thenS r fun w m1 => match t w r with
  | some r' => .next r' m1
  | none => .bad
theorem ss_asg {tg : Expr} {js : List Nat} {f : DE} {t : DG} (he : PE X e (tE (gx X cl Wx) f)) (hg : PG X tg (tGt X.K cl js t)) (hs : swapsWithSole [tg] e pos.line X.env = pure false := by rfl) (hw : swappedStores [tg] e X.env = pure none := by rfl)
    (h1 : (assignEach [tg] X.env).map (·.2) = [assign tg X.env] := by rfl) : PS X (.Assign [tg] e pos) (tS (gx X cl Wx) (sAsg f t)) :=
  (ps_asg he hg hs hw h1).imp fun D s H ⟨r, m, z, R, P⟩ => ⟨r, m, z, R, P.bind fun z1 w m1 v H1 E1 R1 r1 P1 => by
    refine ⟨w, r, m1, z1, R1, r1, ?_⟩
    cases e2 : t w r with
    | none => rw [e2] at P1; exact P1
    | some r' => rw [e2] at P1; exact fun s' R' _ => P1 z1 s' H1 (Ext.refl _ _) R'⟩
def sSet (i : Nat) (f : DE) : DS := fun r m => (f r m).thenS r fun w m1 => .next (r.set i (some w)) m1
theorem ss_set {i : Nat} {x : Str} {f : DE} {pos' : Pos} (hN : X.N.Nodup) (hi : X.N[i]? = some x) (hx : Loc X.env.scope x) (he : PE X e (tE (gx X cl Wx) f)) (hs : swapsWith e (some (.Name x pos')) pos.line X.env = pure false := by rfl) (hf : X.fn x = true ∨ X.env.scope.names.lookup x = some .local := by first | exact .inl rfl | exact .inr rfl | assumption) :
    PS X (.Assign [.Name x pos'] e pos) (tS (gx X cl Wx) (sSet i f)) :=
  (ps_set hN hi hx he hs hf).imp fun D s H ⟨r, m, z, R, P⟩ => ⟨r, m, z, R, P.bind fun z1 w m1 v H1 E1 R1 r1 P1 => P1 z1 _ H1 (Ext.refl _ _) ⟨R1.slots.set r1, R1.mem⟩⟩
/-- a, b = x, y by names -/
def sPar (i j : Nat) (t : DA) : DS := fun r m => (t r m).thenS r fun ws m1 => match ws with
  | [u, w] => .next ((r.set i (some u)).set j (some w)) m1
  | _ => .bad
theorem ss_par {i j : Nat} {x y : Str} {t : DA} {px py pt : Pos} {kt k2 pt2} (hc : X.calm = true) (hN : X.N.Nodup) (hi : X.N[i]? = some x) (hj : X.N[j]? = some y) (hij : i ≠ j)
    (hx : X.env.scope.names.lookup x = some .local) (hy : X.env.scope.names.lookup y = some .local) (ha : PA X [a, b] (tA (gx X cl Wx) t))
    (hw : swappedStores [.Tuple [.Name x px, .Name y py] kt pt] (.Tuple [a, b] k2 pt2) X.env = pure (some [x, y]))
    (hs : swapsWithSole [.Tuple [.Name x px, .Name y py] kt pt] (.Tuple [a, b] k2 pt2) pos.line X.env = pure false := by rfl) :
    PS X (.Assign [.Tuple [.Name x px, .Name y py] kt pt] (.Tuple [a, b] k2 pt2) pos) (tS (gx X cl Wx) (sPar i j t)) :=
  (ps_par hc hN hi hj hij hx hy ha hw hs).imp fun D s H ⟨r, m, z, R, P⟩ => ⟨r, m, z, R, P.bind (rel := RWs X.K) fun z1 ws m1 vs H1 E1 R1 r1 P1 => by
    split at P1
    · rename_i u w
      obtain ⟨v, vr, e1, q1, v2, vr2, e2, q2, e3⟩ := r1
      subst e1 e2 e3
      exact ⟨v, v2, rfl, P1 z1 _ H1 (Ext.refl _ _) ⟨(R1.slots.set q1).set q2, R1.mem⟩⟩
    · exact P1.elim⟩
/-- x op= e -/
def sAug (i : Nat) (o : Mem → W → W → Option W) (f : DE) : DS := fun r m => match r[i]? with
  | some (some a) => (f r m).thenS r fun b m1 => match o m1 a b with
    | some w => .next (r.set i (some w)) m1
    | none => .bad
  | _ => .bad
theorem ss_aug {i : Nat} {x : Str} {f : DE} {op : Operator} {o : Mem → W → W → Option W} {rr : R2} {pos' : Pos} (hN : X.N.Nodup) (hi : X.N[i]? = some x) (hx : Loc X.env.scope x) (he : PE X e (tE (gx X cl Wx) f)) (ho : OpR X (inplaceOp op) rr) (hw : OpW X.K cl o rr) (hf : X.fn x = true ∨ X.env.scope.names.lookup x = some .local := by first | exact .inl rfl | exact .inr rfl | assumption) :
    PS X (.AugAssign (.Name x pos') op e pos) (tS (gx X cl Wx) (sAug i o f)) :=
  (ps_aug hN hi hx he (ti := rr) (fun pins sh s H x y v u Q I rx ry h => ho pins sh s H x y v u Q I rx ry h) hf).imp fun D s H ⟨r, m, z, R, P⟩ => by
    unfold sAug at P
    split at P
    · rename_i a e1
      obtain ⟨v, q1, q2⟩ := R.slots.2 i a e1
      refine ⟨v, q1, r, m, z, R, P.bind fun z1 b m1 y H1 E1 R1 r1 P1 => ?_⟩
      cases e3 : o m1 a b with
      | none => rw [e3] at P1; exact P1.elim
      | some w =>
        rw [e3] at P1
        exact hw z1 m1 H1 a b v y w _ R1.mem (q2.ext E1) r1 e3 fun z' u H' e M rw' => P1 z' _ H' e ⟨(R1.slots.ext e).set rw', M⟩
    · exact P.elim

/-! ### what is walked -/
/-- J tells ws, item by item, as long as the heap goes on -/
def Walks (K : PySem.W.Frag) (z : Zn) (H : Hp) (ws : List W) (J : It) : Prop := ws.length ≤ sizeLine ∧ ∀ z2 H2, Ext0 z H z2 H2 → ∀ i : Nat, (i = ws.length → J.stop i H2) ∧
  ∀ w, ws[i]? = some w → J.go i H2 ∧ ∀ x H3, J.yld i H2 x H3 → Same H2 H3 ∧ ∀ z3, Ext0 z2 H2 z3 H3 → RW K z3 H3 w x
def tI (g : Gx) (f : DA) : TI := fun s H Rr => tG g (Walks g.K) f s H Rr
theorem _root_.L2.PI.imp {tg : Expr} {t t' : TI} (h : PI X tg e t) (hi : ∀ s H Rr, t' s H Rr → t s H Rr) : PI X tg e t' := ⟨fun pins sh s H Rr I q => h.run pins sh s H Rr I (hi _ _ _ q)⟩
theorem _root_.L2.PI.or {tg : Expr} {t t' : TI} (h : PI X tg e t) (h' : PI X tg e t') : PI X tg e (fun s H Rr => t s H Rr ∨ t' s H Rr) := ⟨fun pins sh s H Rr I q => q.elim (fun q => h.run pins sh s H Rr I q) fun q => h'.run pins sh s H Rr I q⟩
/-- the items of a tuple or a settled list -/
def iSeq (f : DE) : DA := fun r m => (f r m).bind fun w m1 => match w with
  | .tup xs => .ok xs m1
  | .lst xs => .ok xs m1
  | .old xs => .ok xs m1
  | _ => .bad
theorem walks_t {K : PySem.W.Frag} {z : Zn} {H : Hp} {ws : List W} {vs : List V} {p : Addr} (hl : vs.length ≤ sizeLine) (h : SqT K H p vs) (q : RWs K z H ws vs) : Walks K z H ws (Itt K p) := ⟨by rw [← q.length]; exact hl, fun z2 H2 e i => by
  have h2 := e.sqT h
  have q2 := RWs.ext0 e q
  refine ⟨fun hi => ⟨vs, h2, by rw [q.length]; exact Nat.le_of_eq hi.symm⟩, fun w hw => ?_⟩
  obtain ⟨v, e1, e2⟩ := q2.get hw
  refine ⟨⟨vs, v, h2, e1⟩, fun x H3 y => ?_⟩
  obtain ⟨y1, y2⟩ := y
  subst y1
  refine ⟨Same.refl _, fun z3 e3 => ?_⟩
  have := y2 vs h2
  rw [e1] at this
  cases this
  exact e2.ext0 e3⟩
theorem walks_l {K : PySem.W.Frag} {z : Zn} {H : Hp} {ws : List W} {vs : List V} {p : Addr} (hl : vs.length ≤ sizeLine) (h : ∀ z2 H2, Ext0 z H z2 H2 → SqL K H2 p vs) (q : RWs K z H ws vs) : Walks K z H ws (Itl K p) := ⟨by rw [← q.length]; exact hl, fun z2 H2 e i => by
  have h2 := h z2 H2 e
  have q2 := RWs.ext0 e q
  refine ⟨fun hi => ⟨vs, h2, by rw [q.length]; exact Nat.le_of_eq hi.symm⟩, fun w hw => ?_⟩
  obtain ⟨v, e1, e2⟩ := q2.get hw
  refine ⟨⟨vs, v, h2, e1⟩, fun x H3 y => ?_⟩
  obtain ⟨y1, y2⟩ := y
  subst y1
  refine ⟨Same.refl _, fun z3 e3 => ?_⟩
  have := y2 vs h2
  rw [e1] at this
  cases this
  exact e2.ext0 e3⟩
theorem pi_inv {tg : Expr} {t : TI} (h : PI X tg e t) : PI X tg e (fun s H Rr => t s H fun J H' => (∃ pins s2, Inv X pins s H' s2) → Rr J H') := ⟨fun pins sh s H Rr I q =>
  thn (h.run pins sh s H _ I q) fun v s1 h1 => thn h1 fun itv s2 ⟨it, fp, tn, J, H', e, I2, T, st, f2, k⟩ => ⟨it, fp, tn, J, H', e, I2, T, st, f2, k ⟨_, _, I2⟩⟩⟩
theorem pe_inv {t : TE} (h : PE X e t) : PE X e (fun s H Q => t s H fun v H' => (∃ pins s2, Inv X pins s H' s2) → Q v H') := ⟨fun pins sh s H Q I q =>
  thn (h.run pins sh s H _ I q) fun v s1 ⟨x, H', I1, r1, k⟩ => ⟨x, H', I1, r1, k ⟨_, _, I1⟩⟩⟩
theorem si_seq {tg : Expr} {f : DE} (h : PE X e (tE (gx X cl Wx) f)) : PI X tg e (tI (gx X cl Wx) (iSeq f)) := by
  refine ⟨fun pins sh s H Rr I h0 => ?_⟩
  obtain ⟨r, m, z, R, P⟩ := h0
  cases q : f r m with
  | ok w m1 =>
    unfold iSeq at P
    rw [q] at P
    cases w with
    | tup ws =>
      refine (pi_inv (pi_tup (tg := tg) h)).run pins sh s H Rr I ⟨r, m, z, R, ?_⟩
      rw [q]
      intro z' b H' e1 R1 ⟨p, vs, a1, a2, a3⟩
      exact ⟨p, a1, ⟨vs, a2⟩, fun ⟨_, _, I1⟩ => P z' _ H' e1 R1 (walks_t (let ⟨_, _, _, hz⟩ := I1.tuple a2; hz) a2 a3)⟩
    | lst ws =>
      refine (pi_inv (pi_list (tg := tg) h)).run pins sh s H Rr I ⟨r, m, z, R, ?_⟩
      rw [q]
      intro z' b H' e1 R1 ⟨p, vs, a1, a2, a3⟩
      exact ⟨p, a1, ⟨vs, SqL.of a2.2⟩, fun ⟨_, _, I1⟩ => P z' _ H' e1 R1 (walks_l (let ⟨_, _, _, hz⟩ := I1.list (SqL.of a2.2); hz) (fun z2 H2 e2 => SqL.of ((e2.zs p a2.1).2.trans a2.2)) a3)⟩
    | old ws =>
      refine (pi_inv (pi_list (tg := tg) h)).run pins sh s H Rr I ⟨r, m, z, R, ?_⟩
      rw [q]
      intro z' b H' e1 R1 ⟨p, vs, a1, a2, a3⟩
      exact ⟨p, a1, ⟨vs, a2.sq⟩, fun ⟨_, _, I1⟩ => P z' _ H' e1 R1 (walks_l (let ⟨_, _, _, hz⟩ := I1.list a2.sq; hz) (fun z2 H2 e2 => (e2.oldL a2).sq) a3)⟩
    | _ => exact P.elim
  | exc x m1 =>
    unfold iSeq at P
    rw [q] at P
    refine (pi_tup (tg := tg) h).run pins sh s H Rr I ⟨r, m, z, R, ?_⟩
    rw [q]
    exact P
  | bad =>
    unfold iSeq at P
    rw [q] at P
    exact P.elim
/-- lo, lo + 1, .. -/
def upFrom (lo : Int) : Nat → List W
  | 0 => []
  | n + 1 => .int lo :: upFrom (lo + 1) n
theorem upFrom_len : ∀ (lo : Int) (n : Nat), (upFrom lo n).length = n
  | _, 0 => rfl
  | lo, n + 1 => by rw [upFrom, List.length_cons, upFrom_len]
theorem upFrom_get : ∀ (lo : Int) (n i : Nat), i < n → (upFrom lo n)[i]? = some (.int (lo + i))
  | _, 0, _, h => absurd h (Nat.not_lt_zero _)
  | lo, n + 1, 0, _ => by simp [upFrom]
  | lo, n + 1, i + 1, h => by
    rw [upFrom, List.getElem?_cons_succ, upFrom_get (lo + 1) n i (Nat.lt_of_succ_lt_succ h)]
    congr 2
    omega
theorem walks_r {K : PySem.W.Frag} {z : Zn} {H : Hp} {lo : Int} {n : Nat} (hn : n ≤ 16777216) : Walks K z H (upFrom lo n) (Itr lo n) := ⟨by rw [upFrom_len]; exact sl_le hn, fun z2 H2 e i => by
  refine ⟨fun hi => by rw [upFrom_len] at hi; exact Nat.le_of_eq hi.symm, fun w hw => ?_⟩
  have hi : i < n := by
    have := (List.getElem?_eq_some_iff.mp hw).1
    rw [upFrom_len] at this
    exact this
  rw [upFrom_get lo n i hi] at hw
  cases hw
  refine ⟨hi, fun x H3 y => ?_⟩
  obtain ⟨y1, y2⟩ := y
  subst y1 y2
  exact ⟨Same.refl _, fun z3 e3 => rfl⟩⟩
def iRng (t : DA) : DA := fun r m => (t r m).bind fun ws m1 => match ws with
  | [.int j] => if -(2 ^ 62) ≤ j ∧ j ≤ 16777216 then .ok (upFrom 0 j.toNat) m1 else .bad
  | [.int i, .int j] => if (-(2 ^ 62) ≤ i ∧ i < 2 ^ 62) ∧ -(2 ^ 62) ≤ j ∧ j < 2 ^ 62 ∧ j - i ≤ 16777216 then .ok (upFrom i (j - i).toNat) m1 else .bad
  | _ => .bad
theorem si_rng1 {tg : Expr} {t : DA} {p : Pos} (hm : X.mg "range" = none) (ha : PA X [a] (tA (gx X cl Wx) t)) (hl : ∀ r m ws m1, t r m = .ok ws m1 → ws.length = 1) (hg : Gl X "range" := by rfl) (hs : starEach [a] X.env = [(false, eval a X.env)] := by rfl) : PI X tg (.Call (.Name "range" p) [a] [] pos) (tI (gx X cl Wx) (iRng t)) :=
  (pi_range1 hg hm ha hs).imp fun s H Rr ⟨r, m, z, R, P⟩ => ⟨r, m, z, R, by
    unfold iRng at P
    cases q : t r m with
    | ok ws m1 =>
      rw [q] at P
      intro z' vs H' e1 R1 r1
      have P := Post.mono (g := gx X cl Wx) e1 P
      have hl1 := hl r m ws m1 q
      cases ws with
      | nil => cases hl1
      | cons w ws =>
        cases ws with
        | cons _ _ => cases hl1
        | nil =>
          obtain ⟨v, vr, f1, f2, f3⟩ := r1
          subst f1 f3
          cases w with
          | int j =>
            simp only [Dn.R.bind] at P
            split at P
            · rename_i c
              exact ⟨j, by rw [show v = .int j from f2], c.1, by omega, P z' _ H' (Ext.refl _ _) R1 (walks_r (by omega))⟩
            · exact P.elim
          | _ => exact P.elim
    | exc x m1 => rw [q] at P; exact P
    | bad => rw [q] at P; exact P⟩
theorem si_rng2 {tg : Expr} {t : DA} {p : Pos} (hm : X.mg "range" = none) (ha : PA X [a, b] (tA (gx X cl Wx) t)) (hl : ∀ r m ws m1, t r m = .ok ws m1 → ws.length = 2) (hg : Gl X "range" := by rfl) (hs : starEach [a, b] X.env = [(false, eval a X.env), (false, eval b X.env)] := by rfl) (hs2 : starEach [b] X.env = [(false, eval b X.env)] := by rfl) :
    PI X tg (.Call (.Name "range" p) [a, b] [] pos) (tI (gx X cl Wx) (iRng t)) :=
  (pi_range2 hg hm ha hs hs2).imp fun s H Rr ⟨r, m, z, R, P⟩ => ⟨r, m, z, R, by
    unfold iRng at P
    cases q : t r m with
    | ok ws m1 =>
      rw [q] at P
      intro z' vs H' e1 R1 r1
      have P := Post.mono (g := gx X cl Wx) e1 P
      have hl1 := hl r m ws m1 q
      match ws, hl1, r1, P with
      | [w, w2], _, r1, P =>
        obtain ⟨v, vr, f1, f2, v2, vr2, g1, g2, g3⟩ := r1
        subst f1 g1 g3
        simp only [Dn.R.bind] at P
        split at P
        · rename_i h; cases h
        · rename_i i j h
          cases h
          split at P
          · rename_i c
            exact ⟨i, j, by rw [show v = .int i from f2, show v2 = .int j from g2], ⟨c.1.1, c.1.2, c.2.1, c.2.2.1⟩, P z' _ H' (Ext.refl _ _) R1 (walks_r (by omega))⟩
          · exact P.elim
        · exact P.elim
    | exc x m1 => rw [q] at P; exact P
    | bad => rw [q] at P; exact P⟩
theorem a1_len {f : DE} : ∀ r m ws m1, aCons f aNil r m = .ok ws m1 → ws.length = 1 := fun r m ws m1 h => by
  unfold aCons aNil at h
  cases q : f r m with
  | ok w m2 => rw [q] at h; simp only [Dn.R.bind] at h; cases h; rfl
  | exc x m2 => rw [q] at h; cases h
  | bad => rw [q] at h; cases h
theorem a2_len {f h : DE} : ∀ r m ws m1, aCons f (aCons h aNil) r m = .ok ws m1 → ws.length = 2 := fun r m ws m1 h0 => by
  unfold aCons aNil at h0
  cases q : f r m with
  | ok w m2 =>
    rw [q] at h0
    simp only [Dn.R.bind] at h0
    cases q2 : h r m2 with
    | ok w2 m3 => rw [q2] at h0; simp only [Dn.R.bind] at h0; cases h0; rfl
    | exc x m3 => rw [q2] at h0; cases h0
    | bad => rw [q2] at h0; cases h0
  | exc x m2 => rw [q] at h0; cases h0
  | bad => rw [q] at h0; cases h0

/-! ### for -/
def loop (t : DG) (body : DS) : List W → Rho → Mem → RS
  | [], r, m => .next r m
  | w :: ws, r, m => match t w r with
    | none => .bad
    | some r1 => match body r1 m with
      | .next r2 m2 => loop t body ws r2 m2
      | .cont r2 m2 => loop t body ws r2 m2
      | .brk r2 m2 => .next r2 m2
      | .ret u m2 => .ret u m2
      | .exc x r2 m2 => .exc x r2 m2
      | .bad => .bad
def sFor (src : DA) (t : DG) (body : DS) : DS := fun r m => (src r m).thenS r fun ws m1 => loop t body ws r m1
theorem ss_for {tg iter : Expr} {js : List Nat} {body : List Stmt} {src : DA} {t : DG} {fb : DS} (hp : PassesOwn (model X.prog X.w) X.A X.env X.xe) (hc : X.calm = true) (hi : PI X tg iter (tI (gx X cl Wx) src)) (hg : PG X tg (tGt X.K cl js t)) (hb : PSs X body (tS (gx X cl Wx) fb))
    (hs : ∀ x, foldedSetIterable iter X.env x = pure x := by intro _; rfl) : PS X (.For tg iter body [] pos) (tS (gx X cl Wx) (sFor src t fb)) :=
  (ps_for hp hc hi hg hb hs).imp fun D s H ⟨r, m, z, R, P⟩ => ⟨r, m, z, R, P.bind (rel := Walks X.K) fun z1 ws m1 J H1 E1 R1 r1 P1 => by
    refine ⟨fun i k s' H' => ∃ r' m' z', k = ws.length - i ∧ i ≤ ws.length ∧ Rel X.K cl z' r' m' s' H' ∧ Ext z1 H1 z' H' ∧ PostS (gx X cl Wx) z' H' (loop t fb (ws.drop i) r' m') D, ⟨ws.length, r, m1, z1, by simp, Nat.zero_le _, R1, Ext.refl _ _, by simpa using P1⟩, ?_⟩
    rintro i k s2 H2 ⟨r2, m2, z2, rfl, hi2, R2, E2, P2⟩
    obtain ⟨hstop, hgo⟩ := r1.2 z2 H2 E2.e0 i
    by_cases hlt : i < ws.length
    · obtain ⟨g1, g2⟩ := hgo ws[i] (List.getElem?_eq_getElem hlt)
      rw [List.drop_eq_getElem_cons hlt] at P2
      simp only [loop] at P2
      refine .inr ⟨g1, fun s' H' => ∃ r' m' z', Rel X.K cl z' r' m' s' H' ∧ Ext z1 H1 z' H' ∧ PostS (gx X cl Wx) z' H' (loop t fb (ws.drop (i + 1)) r' m') D, fun s' H' ⟨r', m', z', a1, a2, a3⟩ => ⟨ws.length - (i + 1), by omega, r', m', z', rfl, hlt, a1, a2, a3⟩, fun x H3 y => ?_⟩
      obtain ⟨sm, q3⟩ := g2 x H3 y
      have E3 := R2.mem.extS sm
      have R3 := R2.same sm
      have P3 := PostS.mono E3 P2
      refine ⟨ws[i], r2, m2, z2, R3, q3 z2 E3.e0, ?_⟩
      cases q4 : t ws[i] r2 with
      | none => rw [q4] at P3; exact P3
      | some r4 =>
        rw [q4] at P3
        refine fun s4 R4 _ => ⟨r4, m2, z2, R4, ?_⟩
        simp only at P3
        cases q5 : fb r4 m2 with
        | next r5 m5 =>
          rw [q5] at P3
          exact fun z' s' H' e5 R5 => ⟨r5, m5, z', R5, (E2.trans E3).trans e5, PostS.mono e5 P3⟩
        | cont r5 m5 =>
          rw [q5] at P3
          exact fun z' s' H' e5 R5 => ⟨r5, m5, z', R5, (E2.trans E3).trans e5, PostS.mono e5 P3⟩
        | brk r5 m5 => rw [q5] at P3; exact P3
        | ret u m5 => rw [q5] at P3; exact P3
        | exc x r5 m5 => rw [q5] at P3; exact P3
        | bad => rw [q5] at P3; exact P3
    · have hi3 : ws.length ≤ i := Nat.le_of_not_lt hlt
      refine .inl ⟨hstop (Nat.le_antisymm hi2 hi3), ?_⟩
      rw [List.drop_eq_nil_of_le hi3] at P2
      exact P2.next R2⟩
end
end Dn

/-! D5: defs and their calls; list comprehensions. -/
namespace Dn
open PySem PySem.Spec PyProof.Rows L2

/-! ### a def -/
abbrev Fw := List W → Mem → R W
def PostF (K : PySem.W.Frag) (cl : Clz) (z : Zn) (H : Hp) (q : R W) (Q : VK) (E : XK) : Prop :=
  match q with
  | .ok w m => ∀ z' v H', Ext z H z' H' → MemOk K cl z' m H' → RW K z' H' w v → Q v H'
  | .exc x m => ∀ z' H' c d, Ext z H z' H' → MemOk K cl z' m H' → XnOk K cl z' H' x c d → E c d H'
  | .bad => False
/-- a def's promise: of n arguments it does what g tells -/
def spOf (K : PySem.W.Frag) (cl : Clz) (n : Nat) (g : Fw) : Sp := fun vs H Q E => ∃ ws m z, ws.length = n ∧ MemOk K cl z m H ∧ RWs K z H ws vs ∧ PostF K cl z H (g ws m) Q E
def startW (n : Nat) (ws : List W) : Rho := ws.map some ++ List.replicate (n - ws.length) none
/-- a body run from its arguments; n slots in all -/
def runD (n : Nat) (d : DS) : Fw := fun ws m => match d (startW n ws) m with
  | .ret w m1 => .ok w m1
  | .next _ m1 => .ok .non m1
  | .exc x _ m1 => .exc x m1
  | _ => .bad
theorem start_ok {K : PySem.W.Frag} {z : Zn} {H : Hp} {N : List Str} {ws : List W} {vs : List V} (h : RWs K z H ws vs) : SlotsOk K z H (startW N.length ws) (L2.start N vs) := by
  refine ⟨by unfold startW L2.start; simp [h.length], fun i w e => ?_⟩
  unfold startW at e
  unfold L2.start
  by_cases hi : i < ws.length
  · rw [List.getElem?_append_left (by simpa using hi)] at e
    rw [List.getElem?_append_left (by rw [List.length_map, h.length]; exact hi)]
    rw [List.getElem?_map] at e ⊢
    cases q : ws[i]? with
    | none => rw [q] at e; cases e
    | some u =>
      rw [q] at e
      simp at e
      subst e
      obtain ⟨v, q1, q2⟩ := h.get q
      exact ⟨v, by rw [q1]; rfl, q2⟩
  · rw [List.getElem?_append_right (by simpa using Nat.le_of_not_lt hi)] at e
    rw [List.getElem?_replicate] at e
    split at e <;> cases e

/-! ### a def's promise where nothing is being shown -/
structure RoomG (k : Nat) (A : Around) : Prop extends Room k A where
  g : A.guards = some []
theorem RoomG.mono {j k : Nat} {A : Around} (r : RoomG k A) (h : j ≤ k) : RoomG j A := ⟨r.toRoom.mono h, r.g⟩
theorem RoomG.deeper {k : Nat} {A : Around} (r : RoomG (k + 1) A) (env : Env) : RoomG k (A.deeper env) := ⟨r.toRoom.deeper env, r.g⟩
theorem RoomG.make {k : Nat} {A : Around} (r : RoomG (k + 1) A) (C : Addr) (us : List Value) (kw : List (Str × Value)) : RoomG k (A.under (.builtin "type.__call__" ⟨.ref C :: us, kw⟩)) := by
  refine ⟨r.toRoom.make C us kw, ?_⟩
  have e : (Code.builtin "type.__call__" ⟨Value.ref C :: us, kw⟩).guards = [] := by first | rfl | simp [Code.guards, Code.isGuard, guardIds]
  show pushGuards (Code.builtin "type.__call__" ⟨Value.ref C :: us, kw⟩).guards A.guards = some []
  rw [e]
  exact r.g
structure FnG (P : Program) (w : World) (K : PySem.W.Frag) (mg : Str → Option Value) (base : Heap) (k : Nat) (f : Addr) (fd : FuncData) (ps : List Str) (sp : Sp) : Prop where
  len : ∀ vs H Q E, sp vs H Q E → vs.length = ps.length
  run : ∀ (A : Around) (outer : List Env) (s : Shared) (H : Hp) (args : Args) (us : List Value) (vs : List V) (Q : VK) (E : XK), RoomG k A → Env0 P w K mg base A outer s H → BindsTo s fd args (ps.zip us) → Vals vs us → sp vs H Q E →
    codeAny (model P w) A (.call (.ref f) args) (CR (L2.CX P w) outer P w H s Q E) s
/-- the callee runs -/
theorem run_fnG {X : Cx} {k : Nat} {f : Addr} {fd : FuncData} {ps : List Str} {sp : Sp} {E : XK} {pins : List (Addr × Obj)} {σ : L2.St} {H : Hp} {s : Shared} {Q : VK} {us : List Value} {vs : List V} (F : FnG X.prog X.w X.K X.mg X.base k f fd ps sp) (hr : RoomG k X.A) (hb : Binds X.K fd ps [])
    (hx : PassesAt (L2.CX X.prog X.w) X σ E) (I : Inv X pins σ H s) (r : Vals vs us) (h : sp vs H Q E) : wpAny (model X.prog X.w) X.A (call (.ref f) us) (EP X pins σ Q) X.xe s := by
  have hl : us.length = ps.length := r.length.symm.trans (F.len vs H Q E h)
  have b := hb s us I.kIn (by simpa using hl)
  rw [List.append_nil] at b
  refine wpAny_call (codeAny_mono (F.run _ _ _ _ _ _ _ _ _ hr I.env0 b r h) fun rr s' hq => ?_)
  match rr, hq with
  | .error e, hq => exact hx pins H s e s' I hq
  | .ok (.ret u), hq => exact I.after hq
  | .ok .next, hq => exact hq.elim
  | .ok .brk, hq => exact hq.elim
  | .ok .cont, hq => exact hq.elim

section
variable {P : Program} {w : World} {K : PySem.W.Frag} {mg : Str → Option Value} {base : Heap} {cl : Clz} {x qual : Str} {params : Arguments} {body : List Stmt} {scope : Scope} {kws : List (Str × V)} {f : Addr} {fd : FuncData}
theorem fn_ok {N ps : List Str} {k n : Nat} {d : DS} (F : FunD K x qual params body scope [] kws f fd) (S : FnScope N ps scope) (hn : ps.length = n)
    (hb : ∀ (cdv : Value) (A : Around) (outer : List Env) (s : Shared) (H : Hp) (E : XK), RoomG k (A.deeper (envOfC qual scope s.heap.objs.size f cdv)) →
      PSs (cxOf (L2.CX P w) P w K mg base N qual scope f cdv A outer s H E) body (tS (gx (cxOf (L2.CX P w) P w K mg base N qual scope f cdv A outer s H E) cl (fun c d _ H => E c d H)) d)) :
    FnG P w K mg base (k + 1) f fd ps (spOf K cl n (runD N.length d)) := by
  have len : ∀ vs H Q E, spOf K cl n (runD N.length d) vs H Q E → vs.length = ps.length := fun vs H Q E ⟨ws, m, z, hl, M, rw', p⟩ => by rw [rw'.length, hl, hn]
  obtain ⟨oc, od, dV, kV, doc, pm, an, cdv, ct, osl, rfl, lk, hcd, _, _⟩ := F.ex
  refine ⟨len, fun A outer s H args us vs Q E hr e0 hbi rv hsp => ?_⟩
  have KX : K.In s.heap := e0.mod.kin.keeps fun b o e => (e0.bs b o e).1
  have hlim : s.heap.NoLimit := e0.mod.nolimit.keeps fun b o e => (e0.bs b o e).1
  refine codeAny_call_function hr.depth (KX _ _ lk) rfl S.co S.gen rfl (PySem.W.codeRec_of KX hcd) (hbi _ _ _ _ ?_)
  refine wpAny_newFunctionEnv_cells S.kind (fun y hy => (S.par y.1 (List.of_mem_zip hy).1).imp id fun q => ⟨q, PySem.W.cellsFrom_some _ _ _ (.inl q)⟩) fun env he s1 x => ?_
  subst he
  refine ⟨hlim.keeps x.toInCall.keep, codeAny_func ?_⟩
  have I := inv_start (E := E) (CX := L2.CX P w) S hr.hd e0 (len vs H Q E hsp) rv x
  obtain ⟨ws, m, z, hl, M, rw', p⟩ := hsp
  have hq : tS ⟨K, cl, fun c d _ H => E c d H⟩ d { nx := fun _ H' => Q .non H', rt := Q } (L2.start N vs) H := by
    refine ⟨startW N.length ws, m, z, ⟨start_ok rw', M⟩, ?_⟩
    show PostS ⟨K, cl, fun c d _ H => E c d H⟩ z H (d (startW N.length ws) m) _
    unfold runD at p
    cases q : d (startW N.length ws) m with
    | next r m1 => rw [q] at p; exact fun z' s' H' e R' => p z' .non H' e R'.mem rfl
    | ret u m1 => rw [q] at p; exact p
    | exc x r m1 => rw [q] at p; exact fun z' s' H' c d e R' => p z' H' c d e R'.mem
    | brk r m1 => rw [q] at p; exact p.elim
    | cont r m1 => rw [q] at p; exact p.elim
    | bad => rw [q] at p; exact p.elim
  refine wpAny_mono ((hb cdv A outer s H E (hr.deeper _)).run [] s1 (L2.start N vs) H _ I hq) (fun fl s' hs => ?_) fun e s' hs => hs
  match fl, hs with
  | .ret u, ⟨v, σ', H', J, rv', q⟩ => exact ⟨v, H', J.os, J.bare, J.base, J.hok, rv', q⟩
  | .next, ⟨σ', H', J, q⟩ => exact ⟨.non, H', J.os, J.bare, J.base, J.hok, rfl, q⟩
  | .brk, ⟨_, _, _, q⟩ => exact q.elim
  | .cont, ⟨_, _, _, q⟩ => exact q.elim
end

section
variable {X : Cx} {cl : Clz} {Wx : WX} {e a b : Expr} {pos : Pos}
/-- f(e, ..) -/
def eCall (n : Nat) (g : Fw) (t : DA) : DE := fun r m => (t r m).bind fun ws m1 => if ws.length = n then g ws m1 else .bad
theorem PostF.of {K : PySem.W.Frag} {z : Zn} {H : Hp} {r : Rho} {s : L2.St} {q : R W} {Q : VK} {m : Mem} (R : Rel K cl z r m s H) (h : Post ⟨K, cl, Wx⟩ (RW K) z H r s q Q) : PostF K cl z H q Q (WE Wx s) := by
  cases q with
  | ok w m1 => exact fun z' v H' e M rw' => h z' v H' e (R.after e M) rw'
  | exc x m1 => exact fun z' H' c d e M xn => h z' H' c d e (R.after e M) xn
  | bad => exact h
theorem se_call {k n : Nat} {f : Addr} {fd : FuncData} {ps : List Str} {g : Fw} {x : Str} {p : Pos} {es : List Expr} {t : DA} (F : FnG X.prog X.w X.K X.mg X.base k f fd ps (spOf X.K cl n g)) (hr : RoomG k X.A) (hm : X.mg x = some (.ref f)) (hk : PySem.W.keepIn X.K (.ref f) = true) (hb : Binds X.K fd ps []) (tk : Takes X Wx)
    (ha : PA X (e :: es) (tA (gx X cl Wx) t)) (hg : Gl X x := by rfl) (hdb : (x == ("__debug__" : Str)) = false := by decide) (he : starEach (e :: es) X.env = (false, eval e X.env) :: starEach es X.env := by rfl) (hpl : (backTo pos (starEach es X.env)).any (·.1) = false := by rfl) :
    PE X (.Call (.Name x p) (e :: es) [] pos) (tE (gx X cl Wx) (eCall n g t)) := by
  refine ⟨fun pins sh s H Q I ⟨r, m, z, R, P⟩ => wpAny_Call_Name_kw (ld_glob I hg hm ?_ hdb)⟩
  have hq : tA (gx X cl Wx) t s H fun vs H1 => spOf X.K cl n g vs H1 Q (WE Wx s) := by
    refine ⟨r, m, z, R, P.bind fun z1 ws m1 vs H1 E1 R1 r1 P1 => ?_⟩
    split at P1
    · rename_i hl
      exact ⟨ws, m1, z1, hl, R1.mem, r1, PostF.of R1 P1⟩
    · exact P1.elim
  exact PySem.W.callWith_K (h₀ := X.base) I.ok.mod.kin hk (thn (ha.run pos pins sh s H _ I hq) fun us s1 ⟨vs, H1, I1, rv, q⟩ => ⟨I1.kIn, run_fnG F hr hb (passAt tk s) I1 rv q⟩) he hpl
theorem se_call0 {k : Nat} {f : Addr} {fd : FuncData} {ps : List Str} {g : Fw} {x : Str} {p : Pos} (F : FnG X.prog X.w X.K X.mg X.base k f fd ps (spOf X.K cl 0 g)) (hr : RoomG k X.A) (hm : X.mg x = some (.ref f)) (hk : PySem.W.keepIn X.K (.ref f) = true) (hb : Binds X.K fd ps []) (tk : Takes X Wx)
    (hg : Gl X x := by rfl) (hdb : (x == ("__debug__" : Str)) = false := by decide) : PE X (.Call (.Name x p) [] [] pos) (tE (gx X cl Wx) (eCall 0 g aNil)) := by
  refine ⟨fun pins sh s H Q I ⟨r, m, z, R, P⟩ => wpAny_Call_Name_kw (ld_glob I hg hm ?_ hdb)⟩
  exact PySem.W.callWith_K0 I.kIn hk (run_fnG (us := []) F hr hb (passAt tk s) I .nil ⟨[], m, z, rfl, R.mem, rfl, PostF.of R P⟩)

/-! ### new lists -/
def relNew (K : PySem.W.Frag) (z : Zn) (H : Hp) (ws : List W) (v : V) : Prop := ∃ p vs, v = .ref p ∧ H p = some (.lst vs) ∧ RWs K z H ws vs ∧ ¬ z.Z p ∧ ¬ z.hold p ∧ p ∉ z.phi
def tN (g : Gx) (f : DA) : TE := tG g (relNew g.K) f
/-- settled at once -/
def eFz (f : DA) : DE := fun r m => (f r m).bind fun ws m1 => .ok (.lst ws) m1
theorem se_fz {f : DA} (h : PE X e (tN (gx X cl Wx) f)) : PE X e (tE (gx X cl Wx) (eFz f)) := h.imp fun s H Q ⟨r, m, z, R, P⟩ => by
  refine ⟨r, m, z, R, P.bind fun z1 ws m1 v H1 E1 R1 r1 P1 => ?_⟩
  obtain ⟨p, vs, e1, e2, e3, n1, n2, n3⟩ := r1
  subst e1
  obtain ⟨e4, M⟩ := R1.mem.settle e2 n2 n3
  exact P1 _ _ _ e4 (R1.after e4 M) ⟨p, vs, rfl, ⟨.inl rfl, e2⟩, RWs.ext e4 e3⟩
/-- one that may change -/
def eNw (f : DA) : DE := fun r m => (f r m).bind fun ws m1 => .ok (.ref m1.length) (m1 ++ [.lst ws])
theorem lay_lst {K : PySem.W.Frag} {z : Zn} {m : Mem} {H : Hp} {p : Addr} {ws : List W} {vs : List V} (M : MemOk K cl z m H) (e2 : H p = some (.lst vs)) (e3 : RWs K z H ws vs) (n1 : ¬ z.Z p) (n2 : ¬ z.hold p) (n3 : p ∉ z.phi) :
    Ext z H (z.lay p) H ∧ MemOk K cl (z.lay p) (m ++ [.lst ws]) H ∧ RW K (z.lay p) H (.ref m.length) (.ref p) := by
  have e4 : Ext z H (z.lay p) H := ⟨⟨fun _ _ h => h, fun _ _ _ h => h, fun _ h => ⟨h, rfl⟩, fun n a h => by
    have hl := (List.getElem?_eq_some_iff.mp h).1
    show (z.phi ++ [p])[n]? = some a
    rw [List.getElem?_append_left hl]
    exact h, fun _ _ h => h⟩, fun _ h => ⟨h, rfl⟩⟩
  obtain ⟨e5, M2⟩ := M.lay (p := p) (c := .lst ws) n1 n3 ⟨n1, n2, vs, e2, RWs.ext e4 e3⟩
  refine ⟨e4, M2, p, ?_, rfl⟩
  show (z.phi ++ [p])[m.length]? = some p
  rw [← M.len]
  simp
theorem se_nw {f : DA} (h : PE X e (tN (gx X cl Wx) f)) : PE X e (tE (gx X cl Wx) (eNw f)) := h.imp fun s H Q ⟨r, m, z, R, P⟩ => by
  refine ⟨r, m, z, R, P.bind fun z1 ws m1 v H1 E1 R1 r1 P1 => ?_⟩
  obtain ⟨p, vs, e1, e2, e3, n1, n2, n3⟩ := r1
  subst e1
  obtain ⟨e4, M, q⟩ := lay_lst (cl := cl) R1.mem e2 e3 n1 n2 n3
  exact P1 _ _ _ e4 (R1.after e4 M) q
/-- what is new in the heap -/
theorem new_rel {K : PySem.W.Frag} {z : Zn} {m : Mem} {H : Hp} {p : Addr} {ws : List W} {vs : List V} (M : MemOk K cl z m H) (hp : H p = none) (h : RWs K z H ws vs) : Ext z H z (upd H p (.lst vs)) ∧ MemOk K cl z m (upd H p (.lst vs)) ∧ relNew K z (upd H p (.lst vs)) ws (.ref p) := by
  have hs := upd_same_of (o := .lst vs) hp
  exact ⟨M.extS hs, M.same hs, p, vs, rfl, upd_same, RWs.ext (M.extS hs) h, M.z_ne hp, M.h_ne hp, M.p_ne hp⟩

/-! ### comprehensions -/
def wipeR (r : Rho) : List Nat → Rho
  | [] => r
  | v :: vs => (wipeR r vs).set v none
theorem set_none {K : PySem.W.Frag} {z : Zn} {H : Hp} {r : Rho} {s : L2.St} (h : SlotsOk K z H r s) (i : Nat) : SlotsOk K z H (r.set i none) (s.set i none) := by
  refine ⟨by simp [h.1], fun j u e => ?_⟩
  by_cases hj : i = j
  · subst hj
    rw [List.getElem?_set, if_pos rfl] at e
    split at e <;> cases e
  · rw [List.getElem?_set_ne hj] at e ⊢
    exact h.2 j u e
theorem wipe_ok {K : PySem.W.Frag} {z : Zn} {H : Hp} {r : Rho} {s : L2.St} (h : SlotsOk K z H r s) : ∀ vs : List Nat, SlotsOk K z H (wipeR r vs) (wipe s vs)
  | [] => h
  | v :: vs => by unfold wipeR wipe; exact set_none (wipe_ok h vs) v
theorem wipe_get (s : L2.St) (i : Nat) : ∀ vs : List Nat, (wipe s vs)[i]? = if i ∈ vs ∧ i < s.length then some none else s[i]?
  | [] => by simp [wipe]
  | v :: vs => by
    unfold wipe
    rw [List.getElem?_set, wipe_length, wipe_get s i vs]
    by_cases h : v = i
    · subst h
      by_cases hl : v < s.length
      · simp [hl]
      · simp [hl]
    · have h' : i ≠ v := fun q => h q.symm
      simp [h, h']
theorem wipe_agree {js vs : List Nat} {s s2 : L2.St} (h : Agree js (wipe s vs) s2) (hj : ∀ i ∈ js, i ∈ vs) : wipe s2 vs = wipe s vs := by
  have hl : s2.length = s.length := by rw [h.1, wipe_length]
  refine List.ext_getElem? fun i => ?_
  rw [wipe_get, wipe_get, hl]
  by_cases hi : i ∈ vs ∧ i < s.length
  · rw [if_pos hi, if_pos hi]
  · rw [if_neg hi, if_neg hi]
    by_cases hv : i ∈ vs
    · have hge : s.length ≤ i := Nat.le_of_not_lt fun q => hi ⟨hv, q⟩
      rw [List.getElem?_eq_none hge, List.getElem?_eq_none (by rw [hl]; exact hge)]
    · rw [h.2 i fun q => hv (hj i q), wipe_get, if_neg fun q => hv q.1]
def dYes : DT := fun _ m => .ok true m
def compL (t : DG) (c : DT) (f : DE) (vs : List Nat) : List W → Rho → Mem → R (List W)
  | [], _, m => .ok [] m
  | w :: ws, r, m => match t w (wipeR r vs) with
    | none => .bad
    | some r1 => match c r1 m with
      | .ok true m1 => match f r1 m1 with
        | .ok y m2 => (compL t c f vs ws r m2).bind fun ys m3 => .ok (y :: ys) m3
        | _ => .bad
      | .ok false m1 => compL t c f vs ws r m1
      | _ => .bad
def aComp (src : DA) (t : DG) (c : DT) (f : DE) (vs : List Nat) : DA := fun r m => (src r m).bind fun ws m1 => compL t c f vs ws r m1
abbrev noW : WX := fun _ _ _ _ => False
theorem stc_nil : PTs X [] (tT (gx X cl noW) dYes) := ⟨fun pins sh s H Q I ⟨r, m, z, R, P⟩ => pts_nil.run pins sh s H Q I (Post.ret (b := true) P R rfl)⟩
theorem stc_one {c : Expr} {fc : DT} (h : PT X c (tT (gx X cl noW) fc)) : PTs X [c] (tT (gx X cl noW) fc) := pts_one h
/-- hold what is no one's -/
theorem MemOk.hold {K : PySem.W.Frag} {z : Zn} {m : Mem} {H : Hp} {p : Addr} {o : HO} (M : MemOk K cl z m H) (e : H p = some o) (n1 : ¬ z.Z p) (n3 : p ∉ z.phi) (nx : NX o := by exact ⟨fun _ q => (by cases q), fun _ q => (by cases q)⟩) : MemOk K cl (z.hd p) m H ∧ Ext z H (z.hd p) H := by
  have e0 : Ext z H (z.hd p) H := ⟨⟨fun _ _ h => h, fun _ _ _ h => h, fun _ h => ⟨h, rfl⟩, fun _ _ h => h, fun _ _ h => h⟩, fun _ h => ⟨.inr h, rfl⟩⟩
  refine ⟨⟨M.len, M.nd, ?_, M.lz, ?_, fun n a c h1 h2 => ?_, M.tb, cl.gx e0.e0 M.gh⟩, e0⟩
  · rintro a hz (q | q)
    · subst q; exact n1 hz
    · exact M.sep a hz q
  · rintro a (q | q)
    · subst q; exact ⟨_, e, nx⟩
    · exact M.lh a q
  · refine (M.cells n a c h1 h2).ext2 e0.e0 Iff.rfl ?_ rfl
    rintro (q | q)
    · exact absurd (q ▸ List.mem_of_getElem? h1) n3
    · exact q
/-- .. is held no longer, and has grown -/
abbrev Zn.un (z : Zn) (p : Addr) : Zn := { z with hold := fun a => a ≠ p ∧ z.hold a }
theorem MemOk.unhold {K : PySem.W.Frag} {z : Zn} {m : Mem} {H : Hp} {p : Addr} {o o' : HO} (M : MemOk K cl z m H) (hh : z.hold p) (e : H p = some o) (t1 : ∀ us, o ≠ .tup us := by intro _ h; cases h) (t2 : ∀ ob u, o ≠ .frz ob u := by intro _ _ h; cases h) (t3 : ∀ f, o ≠ .ext f := by intro _ h; cases h) :
    MemOk K cl (z.un p) m (upd H p o') ∧ Ext0 z H (z.un p) (upd H p o') ∧ ¬ z.Z p ∧ p ∉ z.phi := by
  have nz : ¬ z.Z p := fun q => M.sep p q hh
  have ne : ∀ {a : Addr}, z.Z a → a ≠ p := fun q z' => nz (z' ▸ q)
  have e0 : Ext0 z H (z.un p) (upd H p o') := ⟨fun a us q => by rw [upd_ne (ne_of q e fun z' => t1 us z'.symm)]; exact q, fun a ob u q => by rw [upd_ne (ne_of q e fun z' => t2 ob u z'.symm)]; exact q, fun a q => ⟨q, upd_ne (ne q)⟩, fun _ _ q => q, fun a f q => by rw [upd_ne (ne_of q e fun z' => t3 f z'.symm)]; exact q⟩
  have cne : ∀ (n : Nat) a c, z.phi[n]? = some a → m[n]? = some c → a ≠ p := fun n a c h1 h2 q => by
    subst q
    have hc := M.cells n a c h1 h2
    cases c with
    | lst ws => exact hc.2.1 hh
    | fz ws => exact nz hc.1
    | dct kvs => exact hc.1 hh
    | ins c fs => exact hc.1 hh
    | exn c fs => exact hc.1 hh
    | dtt kvs => exact hc.1 hh
  have t4 : ∀ ps, o ≠ .tbl ps := by
    obtain ⟨o2, q1, q2⟩ := M.lh p hh
    rw [e] at q1
    cases q1
    exact q2.2
  refine ⟨⟨M.len, M.nd, fun a q h => M.sep a q h.2, fun a q => ?_, fun a q => ?_, fun n a c h1 h2 => ?_, tabs_keep M.tb (fun b ps q => by rw [upd_ne (ne_of q e fun z' => t4 ps z'.symm)]; exact q) e0.xts, cl.gx e0 M.gh⟩, e0, nz, fun q => ?_⟩
  · rw [upd_ne (ne q)]; exact M.lz a q
  · rw [upd_ne q.1]; exact M.lh a q.2
  · exact (M.cells n a c h1 h2).ext2 e0 Iff.rfl (fun q => q.2) (upd_ne (cne n a c h1 h2))
  · obtain ⟨n, hn, e1⟩ := List.getElem_of_mem q
    have hm : n < m.length := by rw [← M.len]; exact hn
    exact cne n p m[n] (by rw [List.getElem?_eq_getElem hn, e1]) (List.getElem?_eq_getElem hm) rfl
theorem tLc_of {g : Gx} {src : DA} {t : DG} {js vs : List Nat} {c : DT} {f : DE} {s : L2.St} {H : Hp} {Q : VK} (hj : ∀ i ∈ js, i ∈ vs) (h : tN g (aComp src t c f vs) s H Q) :
    tLc (tI g src) (tGt g.K g.cl js t) (tT ⟨g.K, g.cl, noW⟩ c) (tE ⟨g.K, g.cl, noW⟩ f) vs s H Q := by
  obtain ⟨r, m, z, R, P⟩ := h
  refine ⟨r, m, z, R, P.bind (rel := Walks g.K) fun z1 ws m1 J H1 E1 R1 r1 P1 D hD => ?_⟩
  have nz := R1.mem.z_ne hD
  have nh := R1.mem.h_ne hD
  have np := R1.mem.p_ne hD
  have hs1 := upd_same_of (o := .lst []) hD
  refine ⟨fun i k H' => ∃ m' z' as acc, k = ws.length - i ∧ i ≤ ws.length ∧ as.length ≤ i ∧ Rel g.K g.cl z' r m' s H' ∧ Ext z1 H1 z' H' ∧ (¬ z'.Z D ∧ ¬ z'.hold D ∧ D ∉ z'.phi) ∧ H' D = some (.lst acc) ∧ RWs g.K z' H' as acc ∧
    Post g (relNew g.K) z' H' r s ((compL t c f vs (ws.drop i) r m').bind fun ys m3 => .ok (as ++ ys) m3) Q, ⟨ws.length, m1, z1, [], [], by simp, Nat.zero_le _, Nat.zero_le _, R1.same hs1, R1.mem.extS hs1, ⟨nz, nh, np⟩, upd_same, rfl, ?_⟩, ?_⟩
  · refine Post.mono (R1.mem.extS hs1) ?_
    have e : ((compL t c f vs (ws.drop 0) r m1).bind fun ys m3 => .ok ([] ++ ys) m3) = compL t c f vs ws r m1 := by
      rw [List.drop_zero]
      cases compL t c f vs ws r m1 <;> rfl
    rw [e]
    exact P1
  · rintro i k H2 ⟨m2, z2, as, acc, rfl, hi2, hla, R2, E2, ⟨y1, y2, y3⟩, hD2, ra, P2⟩
    obtain ⟨hstop, hgo⟩ := r1.2 z2 H2 E2.e0 i
    by_cases hlt : i < ws.length
    · obtain ⟨g1, g2⟩ := hgo ws[i] (List.getElem?_eq_getElem hlt)
      rw [List.drop_eq_getElem_cons hlt] at P2
      refine .inr ⟨g1, fun H' => ∃ m' z' as acc, as.length ≤ i + 1 ∧ Rel g.K g.cl z' r m' s H' ∧ Ext z1 H1 z' H' ∧ (¬ z'.Z D ∧ ¬ z'.hold D ∧ D ∉ z'.phi) ∧ H' D = some (.lst acc) ∧ RWs g.K z' H' as acc ∧
        Post g (relNew g.K) z' H' r s ((compL t c f vs (ws.drop (i + 1)) r m').bind fun ys m3 => .ok (as ++ ys) m3) Q, fun H' ⟨m', z', as', acc', a0, a1, a2, a3, a4, a5, a6⟩ => ⟨ws.length - (i + 1), by omega, m', z', as', acc', rfl, hlt, a0, a1, a2, a3, a4, a5, a6⟩, fun x H3 y => ?_⟩
      obtain ⟨sm, q3⟩ := g2 x H3 y
      have E3 := R2.mem.extS sm
      have R3 := R2.same sm
      have hD3 : H3 D = some (.lst acc) := sm _ _ hD2
      obtain ⟨M4, E4⟩ := R3.mem.hold hD3 y1 y3
      have R4 : Rel g.K g.cl (z2.hd D) (wipeR r vs) m2 (wipe s vs) H3 := ⟨wipe_ok (R3.slots.ext E4) vs, M4⟩
      refine ⟨ws[i], wipeR r vs, m2, z2.hd D, R4, (q3 z2 E3.e0).ext E4, ?_⟩
      simp only [compL] at P2
      cases q4 : t ws[i] (wipeR r vs) with
      | none => rw [q4] at P2; exact P2.elim
      | some r4 =>
        rw [q4] at P2
        simp only at P2
        refine fun s4 R4' ag => ⟨wipe_agree ag hj, r4, m2, z2.hd D, R4', ?_⟩
        -- what is known behind the turn
        have back : ∀ {z5 : Zn} {H5 : Hp} {m5 : Mem} {r5 : Rho} {s5 : L2.St}, Ext (z2.hd D) H3 z5 H5 → Rel g.K g.cl z5 r5 m5 s5 H5 → ∀ (acc' : List V) (as' : List W), as'.length ≤ i + 1 → RWs g.K z5 H5 as' acc' →
            Post g (relNew g.K) z2 H2 r s ((compL t c f vs (ws.drop (i + 1)) r m5).bind fun ys m3 => .ok (as' ++ ys) m3) Q →
            ∃ m' z' as acc, as.length ≤ i + 1 ∧ Rel g.K g.cl z' r m' s (upd H5 D (.lst acc')) ∧ Ext z1 H1 z' (upd H5 D (.lst acc')) ∧ (¬ z'.Z D ∧ ¬ z'.hold D ∧ D ∉ z'.phi) ∧ upd H5 D (.lst acc') D = some (.lst acc) ∧ RWs g.K z' (upd H5 D (.lst acc')) as acc ∧
              Post g (relNew g.K) z' (upd H5 D (.lst acc')) r s ((compL t c f vs (ws.drop (i + 1)) r m').bind fun ys m3 => .ok (as ++ ys) m3) Q := by
          intro z5 H5 m5 r5 s5 e5 R5 acc' as' hla' ra' P5
          have hh5 : z5.hold D := (e5.hs D (.inl rfl)).1
          have hx5 : H5 D = some (.lst acc) := (e5.hs D (.inl rfl)).2.trans hD3
          obtain ⟨M6, e6, n6, p6⟩ := R5.mem.unhold (o' := .lst acc') hh5 hx5
          have e25 : Ext z2 H2 z5 H5 := (E3.trans E4).trans e5
          have hne : ∀ a, z2.hold a → a ≠ D := fun a ha q => by rw [q] at ha; exact y2 ha
          have e26 : Ext z2 H2 (z5.un D) (upd H5 D (.lst acc')) := ⟨e25.e0.trans e6, fun a ha => ⟨⟨hne a ha, (e25.hs a ha).1⟩, by rw [upd_ne (hne a ha)]; exact (e25.hs a ha).2⟩⟩
          exact ⟨m5, z5.un D, as', acc', hla', ⟨R2.slots.ext e26, M6⟩, E2.trans e26, ⟨n6, fun q => q.1 rfl, p6⟩, upd_same, RWs.ext0 e6 ra', Post.mono e26 P5⟩
        cases q5 : c r4 m2 with
        | ok b m5 =>
          rw [q5] at P2
          intro z5 b' H5 e5 R5 rb
          have rb : b = b' := rb
          subst rb
          have hx5 : H5 D = some (.lst acc) := (e5.hs D (.inl rfl)).2.trans hD3
          have ra5 : RWs g.K z5 H5 as acc := RWs.ext ((E3.trans E4).trans e5) ra
          cases b with
          | true =>
            simp only at P2
            rw [if_pos rfl]
            refine ⟨r4, m5, z5, R5, ?_⟩
            cases q6 : f r4 m5 with
            | ok yv m6 =>
              rw [q6] at P2
              intro z6 v H6 e6 R6 rv
              refine ⟨acc, (e6.hs D (e5.hs D (.inl rfl)).1).2.trans hx5, ?_, ?_⟩
              · have := ra.length
                have h2 := r1.1
                omega
              · refine back (e5.trans e6) R6 (acc ++ [v]) (as ++ [yv]) (by simp; omega) ((RWs.ext e6 ra5).append (.cons rv .nil)) ?_
                have e7 : ((compL t c f vs (ws.drop (i + 1)) r m6).bind fun ys m3 => .ok (as ++ [yv] ++ ys) m3) = (((compL t c f vs (ws.drop (i + 1)) r m6).bind fun ys m3 => .ok (yv :: ys) m3).bind fun ys m3 => .ok (as ++ ys) m3) := by
                  cases compL t c f vs (ws.drop (i + 1)) r m6 <;> simp [Dn.R.bind]
                rw [e7]
                exact P2
            | exc x m6 => rw [q6] at P2; exact P2.elim
            | bad => rw [q6] at P2; exact P2.elim
          | false =>
            simp only at P2
            rw [if_neg Bool.false_ne_true]
            have hb := back e5 R5 acc as (by omega) ra5 P2
            have hid : upd H5 D (.lst acc) = H5 := by
              funext a
              by_cases ha : a = D
              · rw [ha, upd_same, hx5]
              · exact upd_ne ha
            rw [hid] at hb
            exact hb
        | exc x m5 => rw [q5] at P2; exact P2.elim
        | bad => rw [q5] at P2; exact P2.elim
    · have hi3 : ws.length ≤ i := Nat.le_of_not_lt hlt
      refine .inl ⟨hstop (Nat.le_antisymm hi2 hi3), ?_⟩
      rw [List.drop_eq_nil_of_le hi3] at P2
      have P2 : Post g (relNew g.K) z2 H2 r s (.ok (as ++ []) m2) Q := P2
      rw [List.append_nil] at P2
      exact Post.ret P2 R2 ⟨D, acc, rfl, hD2, ra, y1, y2, y3⟩
end
end Dn

/-! D6: comprehensions as rules; built-ins; slices; methods of lists. -/
namespace Dn
open PySem PySem.Spec PyProof.Rows L2
section
variable {X : Cx} {cl : Clz} {Wx : WX} {e a b : Expr} {pos : Pos}
theorem se_lc {elt tg iter : Expr} {ifs : List Expr} {scope : Scope} {own : List (Str × Nat)} {js : List Nat} {src : DA} {t : DG} {c : DT} {f : DE} (hc : X.calm = true) (hN : X.N.Nodup) (hi : PI X tg iter (tI (gx X cl Wx) src)) (ok : BlkOk X.N X.env.scope scope own) (hj : ∀ i ∈ js, i ∈ own.map (·.2))
    (hg : ∀ (s : Shared) (H : Hp) (C : Addr) (cs : List (Str × Addr)) (fp : List Addr), PG (X.blk s H scope (compEnvC scope cs C X.env) fp) tg (tGt X.K cl js t))
    (ht : ∀ (s : Shared) (H : Hp) (C : Addr) (cs : List (Str × Addr)) (fp : List Addr), PTs (X.blk s H scope (compEnvC scope cs C X.env) fp) ifs (tT (gx (X.blk s H scope (compEnvC scope cs C X.env) fp) cl noW) c))
    (he : ∀ (s : Shared) (H : Hp) (C : Addr) (cs : List (Str × Addr)) (fp : List Addr), PE (X.blk s H scope (compEnvC scope cs C X.env) fp) elt (tE (gx (X.blk s H scope (compEnvC scope cs C X.env) fp) cl noW) f)) (hs : ∀ x, foldedSetIterable iter X.env x = pure x := by intro _; rfl) :
    PE X (.ListComp elt [⟨tg, iter, ifs, 0⟩] scope pos) (tN (gx X cl Wx) (aComp src t c f (own.map (·.2)))) :=
  (pe_lc (own := own) hc hN hi ok hg ht he hs).imp fun s H Q h => tLc_of (g := gx X cl Wx) hj h
theorem ss_setLc {i : Nat} {y : Str} {py spos : Pos} {elt tg iter : Expr} {ifs : List Expr} {scope : Scope} {own : List (Str × Nat)} {js : List Nat} {src : DA} {t : DG} {c : DT} {f : DE} (hc : X.calm = true) (hN : X.N.Nodup) (hy : X.N[i]? = some y) (hyl : X.env.scope.names.lookup y = some .local)
    (hsw : swapsWith (.ListComp elt [⟨tg, iter, ifs, 0⟩] scope pos) (some (.Name y py)) spos.line X.env = pure true) (hi : PI X tg iter (tI (gx X cl Wx) src)) (ok : BlkOk X.N X.env.scope scope own) (hj : ∀ i ∈ js, i ∈ own.map (·.2))
    (hg : ∀ (s : Shared) (H : Hp) (C : Addr) (cs : List (Str × Addr)) (fp : List Addr), PG (X.blk s H scope (compEnvC scope cs C X.env) fp) tg (tGt X.K cl js t))
    (ht : ∀ (s : Shared) (H : Hp) (C : Addr) (cs : List (Str × Addr)) (fp : List Addr), PTs (X.blk s H scope (compEnvC scope cs C X.env) fp) ifs (tT (gx (X.blk s H scope (compEnvC scope cs C X.env) fp) cl noW) c))
    (he : ∀ (s : Shared) (H : Hp) (C : Addr) (cs : List (Str × Addr)) (fp : List Addr), PE (X.blk s H scope (compEnvC scope cs C X.env) fp) elt (tE (gx (X.blk s H scope (compEnvC scope cs C X.env) fp) cl noW) f)) (hs : ∀ x, foldedSetIterable iter X.env x = pure x := by intro _; rfl) :
    PS X (.Assign [.Name y py] (.ListComp elt [⟨tg, iter, ifs, 0⟩] scope pos) spos) (tS (gx X cl Wx) (sSet i (eFz (aComp src t c f (own.map (·.2)))))) :=
  (L2.ps_setLc (own := own) hc hN hy hyl hsw hi ok hg ht he hs).imp fun D s H ⟨r, m, z, R, P⟩ => by
    refine tLc_of (g := gx X cl Wx) (c := c) (f := f) hj ⟨r, m, z, R, ?_⟩
    unfold sSet eFz at P
    cases q : aComp src t c f (own.map (·.2)) r m with
    | ok ws m1 =>
      rw [q] at P
      intro z1 v H1 E1 R1 ⟨p, vs, e1, e2, e3, n1, n2, n3⟩
      subst e1
      obtain ⟨e4, M⟩ := R1.mem.settle e2 n2 n3
      have R2 := R1.after e4 M
      exact P _ _ _ (E1.trans e4) ⟨R2.slots.set (w := .lst ws) ⟨p, vs, rfl, ⟨.inl rfl, e2⟩, RWs.ext e4 e3⟩, R2.mem⟩
    | exc x m1 => rw [q] at P; exact fun z' H' c d e R q => P z' s H' c d e R q
    | bad => rw [q] at P; exact P
theorem ss_setLcM {i : Nat} {y : Str} {py spos : Pos} {elt tg iter : Expr} {ifs : List Expr} {scope : Scope} {own : List (Str × Nat)} {js : List Nat} {src : DA} {t : DG} {c : DT} {f : DE} (hc : X.calm = true) (hN : X.N.Nodup) (hy : X.N[i]? = some y) (hyl : X.env.scope.names.lookup y = some .local)
    (hsw : swapsWith (.ListComp elt [⟨tg, iter, ifs, 0⟩] scope pos) (some (.Name y py)) spos.line X.env = pure true) (hi : PI X tg iter (tI (gx X cl Wx) src)) (ok : BlkOk X.N X.env.scope scope own) (hj : ∀ i ∈ js, i ∈ own.map (·.2))
    (hg : ∀ (s : Shared) (H : Hp) (C : Addr) (cs : List (Str × Addr)) (fp : List Addr), PG (X.blk s H scope (compEnvC scope cs C X.env) fp) tg (tGt X.K cl js t))
    (ht : ∀ (s : Shared) (H : Hp) (C : Addr) (cs : List (Str × Addr)) (fp : List Addr), PTs (X.blk s H scope (compEnvC scope cs C X.env) fp) ifs (tT (gx (X.blk s H scope (compEnvC scope cs C X.env) fp) cl noW) c))
    (he : ∀ (s : Shared) (H : Hp) (C : Addr) (cs : List (Str × Addr)) (fp : List Addr), PE (X.blk s H scope (compEnvC scope cs C X.env) fp) elt (tE (gx (X.blk s H scope (compEnvC scope cs C X.env) fp) cl noW) f)) (hs : ∀ x, foldedSetIterable iter X.env x = pure x := by intro _; rfl) :
    PS X (.Assign [.Name y py] (.ListComp elt [⟨tg, iter, ifs, 0⟩] scope pos) spos) (tS (gx X cl Wx) (sSet i (eNw (aComp src t c f (own.map (·.2)))))) :=
  (L2.ps_setLc (own := own) hc hN hy hyl hsw hi ok hg ht he hs).imp fun D s H ⟨r, m, z, R, P⟩ => by
    refine tLc_of (g := gx X cl Wx) (c := c) (f := f) hj ⟨r, m, z, R, ?_⟩
    unfold sSet eNw at P
    cases q : aComp src t c f (own.map (·.2)) r m with
    | ok ws m1 =>
      rw [q] at P
      intro z1 v H1 E1 R1 ⟨p, vs, e1, e2, e3, n1, n2, n3⟩
      subst e1
      obtain ⟨e4, M, q4⟩ := lay_lst (cl := cl) R1.mem e2 e3 n1 n2 n3
      have R2 := R1.after e4 M
      exact P _ _ _ (E1.trans e4) ⟨R2.slots.set q4, R2.mem⟩
    | exc x m1 => rw [q] at P; exact fun z' H' c d e R q => P z' s H' c d e R q
    | bad => rw [q] at P; exact P

/-! ### built-ins, by what they make of plain values -/
def ClW (K : PySem.W.Frag) (cl : Clz) (o : Mem → List W → Option W) (r : List V → Hp → VK → Prop) : Prop := ∀ (z : Zn) (m : Mem) (H : Hp) (ws : List W) (vs : List V) (w : W) (Q : VK), MemOk K cl z m H → RWs K z H ws vs → o m ws = some w →
  (∀ z' v H', Ext z H z' H' → MemOk K cl z' m H' → RW K z' H' w v → Q v H') → r vs H Q
def ClN (K : PySem.W.Frag) (cl : Clz) (o : Mem → List W → Option (List W)) (r : List V → Hp → VK → Prop) : Prop := ∀ (z : Zn) (m : Mem) (H : Hp) (ws : List W) (vs : List V) (us : List W) (Q : VK), MemOk K cl z m H → RWs K z H ws vs → o m ws = some us →
  (∀ z' v H', Ext z H z' H' → MemOk K cl z' m H' → relNew K z' H' us v → Q v H') → r vs H Q
def eFn (o : Mem → List W → Option W) (t : DA) : DE := fun r m => (t r m).bind fun ws m1 => match o m1 ws with
  | some w => .ok w m1
  | none => .bad
def aFn (o : Mem → List W → Option (List W)) (t : DA) : DA := fun r m => (t r m).bind fun ws m1 => match o m1 ws with
  | some us => .ok us m1
  | none => .bad
theorem tE_fn {g : Gx} {o : Mem → List W → Option W} {rr : List V → Hp → VK → Prop} {t : DA} {s : L2.St} {H : Hp} {Q : VK} (hw : ClW g.K g.cl o rr) (h : tE g (eFn o t) s H Q) : tA g t s H fun vs H1 => rr vs H1 Q := by
  obtain ⟨r, m, z, R, P⟩ := h
  refine ⟨r, m, z, R, P.bind fun z1 ws m1 vs H1 E1 R1 r1 P1 => ?_⟩
  cases q : o m1 ws with
  | none => rw [q] at P1; exact P1.elim
  | some w => rw [q] at P1; exact hw z1 m1 H1 ws vs w Q R1.mem r1 q fun z' v H' e M rw' => P1 z' v H' e (R1.after e M) rw'
theorem tN_fn {g : Gx} {o : Mem → List W → Option (List W)} {rr : List V → Hp → VK → Prop} {t : DA} {s : L2.St} {H : Hp} {Q : VK} (hw : ClN g.K g.cl o rr) (h : tN g (aFn o t) s H Q) : tA g t s H fun vs H1 => rr vs H1 Q := by
  obtain ⟨r, m, z, R, P⟩ := h
  refine ⟨r, m, z, R, P.bind fun z1 ws m1 vs H1 E1 R1 r1 P1 => ?_⟩
  cases q : o m1 ws with
  | none => rw [q] at P1; exact P1.elim
  | some us => rw [q] at P1; exact hw z1 m1 H1 ws vs us Q R1.mem r1 q fun z' v H' e M rw' => P1 z' v H' e (R1.after e M) rw'
section
variable {o : Mem → List W → Option W} {oN : Mem → List W → Option (List W)} {rr : List V → Hp → VK → Prop} {id T : String} {x : Str} {p : Pos} {es : List Expr} {t : DA}
theorem se_cb (hc : CallR X (.builtin id) rr) (hw : ClW X.K cl o rr) (hm : X.mg x = none) (hv : bootBuiltins x = some (.builtin id)) (ha : PA X (e :: es) (tA (gx X cl Wx) t)) (hg : Gl X x := by rfl) (hn : x ≠ "__name__" := by decide) (hdb : (x == ("__debug__" : Str)) = false := by decide)
    (he : starEach (e :: es) X.env = (false, eval e X.env) :: starEach es X.env := by rfl) (hpl : (backTo pos (starEach es X.env)).any (·.1) = false := by rfl) : PE X (.Call (.Name x p) (e :: es) [] pos) (tE (gx X cl Wx) (eFn o t)) :=
  (pe_callB hc hg hm hv ha hn hdb he hpl).imp fun s H Q h => tE_fn (g := gx X cl Wx) hw h
theorem se_ct (hc : CallR X (.type T) rr) (hw : ClW X.K cl o rr) (hm : X.mg x = none) (hv : bootBuiltins x = some (.type T)) (ha : PA X (e :: es) (tA (gx X cl Wx) t)) (hg : Gl X x := by rfl) (hn : x ≠ "__name__" := by decide) (hdb : (x == ("__debug__" : Str)) = false := by decide)
    (he : starEach (e :: es) X.env = (false, eval e X.env) :: starEach es X.env := by rfl) (hpl : (backTo pos (starEach es X.env)).any (·.1) = false := by rfl) : PE X (.Call (.Name x p) (e :: es) [] pos) (tE (gx X cl Wx) (eFn o t)) :=
  (pe_callTy hc hg hm hv ha hn hdb he hpl).imp fun s H Q h => tE_fn (g := gx X cl Wx) hw h
theorem sn_ct (hc : CallR X (.type T) rr) (hw : ClN X.K cl oN rr) (hm : X.mg x = none) (hv : bootBuiltins x = some (.type T)) (ha : PA X (e :: es) (tA (gx X cl Wx) t)) (hg : Gl X x := by rfl) (hn : x ≠ "__name__" := by decide) (hdb : (x == ("__debug__" : Str)) = false := by decide)
    (he : starEach (e :: es) X.env = (false, eval e X.env) :: starEach es X.env := by rfl) (hpl : (backTo pos (starEach es X.env)).any (·.1) = false := by rfl) : PE X (.Call (.Name x p) (e :: es) [] pos) (tN (gx X cl Wx) (aFn oN t)) :=
  (pe_callTy hc hg hm hv ha hn hdb he hpl).imp fun s H Q h => tN_fn (g := gx X cl Wx) hw h
theorem sn_cb (hc : CallR X (.builtin id) rr) (hw : ClN X.K cl oN rr) (hm : X.mg x = none) (hv : bootBuiltins x = some (.builtin id)) (ha : PA X (e :: es) (tA (gx X cl Wx) t)) (hg : Gl X x := by rfl) (hn : x ≠ "__name__" := by decide) (hdb : (x == ("__debug__" : Str)) = false := by decide)
    (he : starEach (e :: es) X.env = (false, eval e X.env) :: starEach es X.env := by rfl) (hpl : (backTo pos (starEach es X.env)).any (·.1) = false := by rfl) : PE X (.Call (.Name x p) (e :: es) [] pos) (tN (gx X cl Wx) (aFn oN t)) :=
  (pe_callB hc hg hm hv ha hn hdb he hpl).imp fun s H Q h => tN_fn (g := gx X cl Wx) hw h
end
section
variable {K : PySem.W.Frag}
theorem RWs.one {z : Zn} {H : Hp} {w : W} {vs : List V} (h : RWs K z H [w] vs) : ∃ v, vs = [v] ∧ RW K z H w v := by
  obtain ⟨v, r, e1, e2, e3⟩ := h
  cases e3
  exact ⟨v, e1, e2⟩
theorem RWs.two {z : Zn} {H : Hp} {w u : W} {vs : List V} (h : RWs K z H [w, u] vs) : ∃ v x, vs = [v, x] ∧ RW K z H w v ∧ RW K z H u x := by
  obtain ⟨v, r, e1, e2, h2⟩ := h
  obtain ⟨x, f1, f2⟩ := h2.one
  subst f1
  exact ⟨v, x, e1, e2, f2⟩
def lenW (m : Mem) : List W → Option W
  | [.str x] => if x.length ≤ 16777216 then some (.int x.length) else none
  | [.ref n] => match m[n]? with
    | some (.lst xs) => some (.int xs.length)
    | some (.fz xs) => some (.int xs.length)
    | _ => none
  | [w] => (seqOf m w).map fun xs => .int xs.length
  | _ => none
abbrev rLenW (K : PySem.W.Frag) : List V → Hp → VK → Prop := fun xs H Q => (∃ p ys, xs = [V.ref p] ∧ (SqL K H p ys ∨ SqT K H p ys) ∧ Q (.int ys.length) H) ∨ (∃ z, xs = [V.str z] ∧ z.length ≤ sizeLine ∧ Q (.int z.length) H)
theorem c_len : CallR X (.builtin "len") (rLenW X.K) := call_len_seq.or call_len_str
theorem w_len : ClW K cl lenW (rLenW K) := by
  intro z m H ws vs w Q M rws e k
  match ws, e, rws with
  | [u], e, rws =>
    obtain ⟨v, e1, e2⟩ := rws.one
    subst e1
    have seqs : ∀ {xs : List W}, seqOf m u = some xs → w = .int xs.length → rLenW K [v] H Q := fun {xs} q ew => by
      obtain ⟨p, us, f1, f2, f3⟩ := seq_at M e2 q
      subst f1
      refine .inl ⟨p, us, rfl, f2, ?_⟩
      rw [f3.length]
      exact k z _ H (Ext.refl _ _) M (by rw [ew]; rfl)
    cases u with
    | str x =>
      simp only [lenW] at e
      split at e
      · rename_i c
        cases e
        have e2 : v = .str x := e2
        subst e2
        exact .inr ⟨x, rfl, sl_le c, k z _ H (Ext.refl _ _) M rfl⟩
      · cases e
    | ref n =>
      simp only [lenW] at e
      cases q : m[n]? with
      | none => rw [q] at e; cases e
      | some c =>
        rw [q] at e
        cases c with
        | lst xs => exact seqs (xs := xs) (by simp [seqOf, q]) (by simpa using e.symm)
        | fz xs => exact seqs (xs := xs) (by simp [seqOf, q]) (by simpa using e.symm)
        | _ => cases e
    | tup xs => exact seqs (xs := xs) rfl (by simpa [lenW, seqOf] using e.symm)
    | lst xs => exact seqs (xs := xs) rfl (by simpa [lenW, seqOf] using e.symm)
    | old xs => exact seqs (xs := xs) rfl (by simpa [lenW, seqOf] using e.symm)
    | non => simp [lenW, seqOf] at e
    | bl _ => simp [lenW, seqOf] at e
    | int _ => simp [lenW, seqOf] at e
    | raw _ => simp [lenW, seqOf] at e
  | [], e, _ => cases e
  | _ :: _ :: _, e, _ => simp [lenW] at e
def tupleW (m : Mem) : List W → Option W
  | [w] => (seqOf m w).map .tup
  | _ => none
theorem w_tuple : ClW K cl tupleW (fun xs H Q => ∃ p ys, xs = [V.ref p] ∧ ((SqL K H p ys ∧ ∀ l, H l = none → Q (.ref l) (upd H l (.tup ys))) ∨ (SqT K H p ys ∧ Q (.ref p) H))) := by
  intro z m H ws vs w Q M rws e k
  match ws, e, rws with
  | [u], e, rws =>
    obtain ⟨v, e1, e2⟩ := rws.one
    subst e1
    simp only [tupleW] at e
    cases q : seqOf m u with
    | none => rw [q] at e; cases e
    | some xs =>
      rw [q] at e
      have e : w = .tup xs := by simpa using e.symm
      subst e
      obtain ⟨p, us, f1, f2, f3⟩ := seq_at M e2 q
      subst f1
      refine ⟨p, us, rfl, ?_⟩
      rcases f2 with f2 | f2
      · refine .inl ⟨f2, fun l hl => ?_⟩
        obtain ⟨t1, t2, t3⟩ := new_tup (cl := cl) M hl f3
        exact k _ _ _ t1 t2 t3
      · exact .inr ⟨f2, k z _ H (Ext.refl _ _) M ⟨p, us, rfl, f2, f3⟩⟩
  | [], e, _ => cases e
  | _ :: _ :: _, e, _ => simp [tupleW] at e
def listW (m : Mem) : List W → Option (List W)
  | [w] => seqOf m w
  | _ => none
theorem w_list : ClN K cl listW (fun xs H Q => ∃ p ys, xs = [V.ref p] ∧ (SqL K H p ys ∨ SqT K H p ys) ∧ ∀ l, H l = none → Q (.ref l) (upd H l (.lst ys))) := by
  intro z m H ws vs us Q M rws e k
  match ws, e, rws with
  | [u], e, rws =>
    obtain ⟨v, e1, e2⟩ := rws.one
    subst e1
    obtain ⟨p, us, f1, f2, f3⟩ := seq_at M e2 e
    subst f1
    refine ⟨p, us, rfl, f2, fun l hl => ?_⟩
    obtain ⟨t1, t2, t3⟩ := new_rel (cl := cl) M hl f3
    exact k _ _ _ t1 t2 t3
  | [], e, _ => cases e
  | _ :: _ :: _, e, _ => simp [listW] at e
def intW (_ : Mem) : List W → Option W
  | [.int i] => some (.int i)
  | [.bl b] => some (.int (if b then 1 else 0))
  | _ => none
theorem w_int : ClW K cl intW (fun xs H Q => (∃ i, xs = [V.int i] ∧ Q (.int i) H) ∨ ∃ k, xs = [V.bl k] ∧ Q (.int (if k then 1 else 0)) H) := by
  intro z m H ws vs w Q M rws e k
  match ws, e, rws with
  | [.int i], e, rws =>
    obtain ⟨v, e1, e2⟩ := rws.one
    have e2 : v = .int i := e2
    subst e1 e2
    cases e
    exact .inl ⟨i, rfl, k z _ H (Ext.refl _ _) M rfl⟩
  | [.bl b], e, rws =>
    obtain ⟨v, e1, e2⟩ := rws.one
    have e2 : v = .bl b := e2
    subst e1 e2
    cases e
    exact .inr ⟨b, rfl, k z _ H (Ext.refl _ _) M rfl⟩
end

/-! ### isinstance with a built-in class -/
inductive Ty where
  | non | bl | int | str | tup | lst | dct
def Ty.name : Ty → String
  | .non => "NoneType"
  | .bl => "bool"
  | .int => "int"
  | .str => "str"
  | .tup => "tuple"
  | .lst => "list"
  | .dct => "dict"
def Ty.sub : Ty → Ty → Bool
  | .non, .non => true
  | .bl, .bl => true
  | .bl, .int => true
  | .int, .int => true
  | .str, .str => true
  | .tup, .tup => true
  | .lst, .lst => true
  | .dct, .dct => true
  | _, _ => false
theorem Ty.kit (a b : Ty) (hb : b ≠ .non) : kitB a.name b.name = some (a.sub b) := by
  cases a <;> cases b <;> first | exact absurd rfl hb | decide +kernel
def tyW (m : Mem) : W → Option Ty
  | .non => some .non
  | .bl _ => some .bl
  | .int _ => some .int
  | .str _ => some .str
  | .tup _ => some .tup
  | .lst _ => some .lst
  | .old _ => some .lst
  | .ref n => match m[n]? with
    | some (.lst _) => some .lst
    | some (.fz _) => some .lst
    | some (.dct _) => some .dct
    | _ => none
  | .raw _ => none
theorem ty_of {K : PySem.W.Frag} {z : Zn} {m : Mem} {H : Hp} {w : W} {v : V} {t : Ty} (M : MemOk K cl z m H) (h : RW K z H w v) (e : tyW m w = some t) : TyX K H v (.type t.name) := by
  cases w with
  | non => cases e; cases h; exact .base .non
  | bl b => cases e; cases h; exact .base (.bl b)
  | int i => cases e; cases h; exact .base (.int i)
  | str x => cases e; cases h; exact .base (.str x)
  | tup xs =>
    cases e
    obtain ⟨p, vs, h1, h2, _⟩ := h
    subst h1
    rcases h2 with (h2 | ⟨o, h2⟩) | ⟨o, its, n, h2, h3, _⟩
    · exact .base (.tup h2)
    · exact .fTuple h2
    · exact .kTuple h2 h3
  | lst xs =>
    cases e
    obtain ⟨p, vs, h1, h2, _⟩ := h
    subst h1
    exact .base (.lst h2.2)
  | old xs =>
    cases e
    obtain ⟨p, vs, h1, h2, _⟩ := h
    subst h1
    rcases h2 with ⟨o, h2⟩ | ⟨o, its, n, h2, h3, _⟩
    · exact .base (.frz h2)
    · exact .kList h2 h3
  | ref n =>
    obtain ⟨p, h1, h2⟩ := h
    subst h2
    obtain ⟨c, e1, hc⟩ := M.at h1
    simp only [tyW, e1] at e
    cases c with
    | lst ys => cases e; obtain ⟨_, _, vs, q, _⟩ := hc; exact .base (.lst q)
    | fz ys => cases e; obtain ⟨_, vs, q, _⟩ := hc; exact .base (.lst q)
    | dct kvs => cases e; obtain ⟨_, vs, q, _⟩ := hc; exact .base (.dK q)
    | ins c fs => cases e
    | exn c fs => cases e
    | dtt _ => cases e
  | raw u => cases e
def eIsi (T : Ty) (f : DE) : DE := fun r m => (f r m).bind fun w m1 => match tyW m1 w with
  | some t => .ok (.bl (t.sub T)) m1
  | none => .bad
theorem se_isi (T : Ty) {f : DE} {tn : Str} {p p2 : Pos} (hm : X.mg "isinstance" = none) (hm2 : X.mg tn = none) (hv : bootBuiltins tn = some (.type T.name)) (h : PE X e (tE (gx X cl Wx) f)) (hT : T ≠ .non := by intro h; cases h) (hg : Gl X "isinstance" := by rfl) (hg2 : Gl X tn := by rfl)
    (hn2 : tn ≠ "__name__" := by decide) (hdb2 : (tn == ("__debug__" : Str)) = false := by decide)
    (he1 : starEach [e, .Name tn p2] X.env = (false, eval e X.env) :: starEach [.Name tn p2] X.env := by rfl) (he2 : starEach [.Name tn p2] X.env = (false, eval (.Name tn p2) X.env) :: starEach [] X.env := by rfl) (hpl : (backTo pos (starEach [.Name tn p2] X.env)).any (·.1) = false := by rfl) :
    PE X (.Call (.Name "isinstance" p) [e, .Name tn p2] [] pos) (tE (gx X cl Wx) (eIsi T f)) :=
  (pe_callB call_isi hg hm (by decide +kernel) (pa_cons h (pa_cons (pe_bltn (v := .ty T.name) hg2 hm2 hv rfl hn2 hdb2) pa_nil he2) he1) (by decide) (by decide) he1 hpl).imp fun s H Q ⟨r, m, z, R, P⟩ => by
    refine ⟨r, m, z, R, P.bind fun z1 w m1 v H1 E1 R1 r1 P1 => ?_⟩
    cases q : tyW m1 w with
    | none => rw [q] at P1; exact P1.elim
    | some t =>
      rw [q] at P1
      exact ⟨v, .ty T.name, .type t.name, .type T.name, t.sub T, rfl, .ty _, ty_of R1.mem r1 q, kit_ty (Ty.kit t T hT), Post.ret (b := V.bl (t.sub T)) P1 R1 rfl⟩

/-! ### slices -/
def cutW (xs : List W) (lo hi : Option Int) : List W := (xs.drop (HT.sIx xs.length 0 lo)).take (HT.sIx xs.length xs.length hi - HT.sIx xs.length 0 lo)
theorem cut_rel {K : PySem.W.Frag} {z : Zn} {H : Hp} {ws : List W} {vs : List V} (h : RWs K z H ws vs) (lo hi : Option Int) : RWs K z H (cutW ws lo hi) (cutV vs lo hi) := by
  unfold cutW cutV
  rw [h.length]
  exact (h.drop _).take _
abbrev DO := Rho → Mem → R (Option Int)
abbrev relO : Zn → Hp → Option Int → Option Int → Prop := fun _ _ a b => a = b
def tO (g : Gx) (f : DO) : L2.St → Hp → (Option Int → Hp → Prop) → Prop := tG g relO f
def oNone : DO := fun _ m => .ok none m
def oSome (f : DE) : DO := fun r m => (f r m).bind fun w m1 => match w with
  | .int i => .ok (some i) m1
  | _ => .bad
theorem _root_.L2.PO.imp {oe : Option Expr} {t t' : TO} (h : PO X oe t) (hi : ∀ s H Q, t' s H Q → t s H Q) : PO X oe t' := ⟨fun pins sh s H Q I q => h.run pins sh s H Q I (hi _ _ _ q)⟩
theorem so_none : PO X none (tO (gx X cl Wx) oNone) := po_none.imp fun s H Q ⟨r, m, z, R, P⟩ => Post.ret (b := (none : Option Int)) P R rfl
theorem so_some {f : DE} (h : PE X e (tE (gx X cl Wx) f)) : PO X (some e) (tO (gx X cl Wx) (oSome f)) := (po_some h).imp fun s H Q ⟨r, m, z, R, P⟩ => by
  refine ⟨r, m, z, R, P.bind fun z1 w m1 v H1 E1 R1 r1 P1 => ?_⟩
  cases w with
  | int i => exact ⟨i, r1, Post.ret (b := some i) P1 R1 rfl⟩
  | _ => exact P1.elim
def eSl (f : DE) (lo hi : DO) : DE := fun r m => (f r m).bind fun w m1 => (lo r m1).bind fun l m2 => (hi r m2).bind fun u m3 => match w with
  | .tup xs => .ok (.tup (cutW xs l u)) m3
  | .str x => if x.length ≤ 16777216 then .ok (.str (cutS x l u)) m3 else .bad
  | w => match lstOf m3 w with
    | some xs => .ok (.lst (cutW xs l u)) m3
    | none => .bad
abbrev rSlW (K : PySem.W.Frag) : V → Option Int → Option Int → Hp → VK → Prop := fun x lo hi H Q => rSlL K x lo hi H Q ∨ (fun x lo hi H Q => rSlA K x lo hi H Q ∨ rSlS x lo hi H Q) x lo hi H Q
theorem sl_W : SlR X (rSlW X.K) := sl_list.or (sl_tupA.or sl_str)
theorem se_sl {f : DE} {lo hi : Option Expr} {fl fh : DO} {p2 : Pos} (h : PE X e (tE (gx X cl Wx) f)) (hl : PO X lo (tO (gx X cl Wx) fl)) (hh : PO X hi (tO (gx X cl Wx) fh)) : PE X (.Subscript e (.Slice lo hi none p2) pos) (tE (gx X cl Wx) (eSl f fl fh)) :=
  (pe_slice sl_W h hl hh).imp fun s H Q ⟨r, m, z, R, P⟩ => by
    refine ⟨r, m, z, R, P.bind fun z1 w m1 v H1 E1 R1 r1 P1 => ?_⟩
    refine ⟨r, m1, z1, R1, P1.bind (rel := relO) fun z2 l m2 l' H2 E2 R2 r2 P2 => ?_⟩
    have r2 : l = l' := r2
    subst r2
    refine ⟨r, m2, z2, R2, P2.bind (rel := relO) fun z3 u m3 u' H3 E3 R3 r3 P3 => ?_⟩
    have r3 : u = u' := r3
    subst r3
    have rw3 : RW X.K z3 H3 w v := (RW.ext E2 r1).ext E3
    have lsts : ∀ {xs : List W}, lstOf m3 w = some xs → Post (gx X cl Wx) (RW X.K) z3 H3 r s (.ok (.lst (cutW xs l u)) m3) Q → rSlW X.K v l u H3 Q := fun {xs} q P => by
      obtain ⟨p, vs, f1, f2, f3⟩ := lst_at R3.mem rw3 q
      refine .inl ⟨p, vs, f1, f2, fun l' hl' => ?_⟩
      obtain ⟨t1, t2, t3⟩ := new_lst (cl := cl) R3.mem hl' (cut_rel f3 l u)
      exact P _ _ _ t1 (R3.after t1 t2) t3
    cases w with
    | tup xs =>
      obtain ⟨p, vs, f1, f2, f3⟩ := rw3
      refine .inr (.inl ⟨p, vs, f1, f2, fun hw => ?_, fun _ l' hl' => ?_⟩)
      · refine P3 z3 _ H3 (Ext.refl _ _) R3 ⟨p, vs, rfl, f2, ?_⟩
        have e1 : cutW xs l u = xs := by
          unfold cutW
          rw [← f3.length, hw.1, hw.2]
          simp [f3.length]
        rw [e1]
        exact f3
      · obtain ⟨t1, t2, t3⟩ := new_tup (cl := cl) R3.mem hl' (cut_rel f3 l u)
        exact P3 _ _ _ t1 (R3.after t1 t2) t3
    | str x =>
      simp only at P3
      split at P3
      · rename_i c
        have rw3 : v = .str x := rw3
        subst rw3
        exact .inr (.inr ⟨x, rfl, sl_le c, P3 z3 _ H3 (Ext.refl _ _) R3 rfl⟩)
      · exact P3.elim
    | lst xs => exact lsts (xs := xs) rfl P3
    | old xs => exact lsts (xs := xs) rfl P3
    | ref n =>
      cases q : lstOf m3 (.ref n) with
      | none => simp only [q] at P3; exact P3.elim
      | some xs => simp only [q] at P3; exact lsts q P3
    | non => exact P3.elim
    | bl _ => exact P3.elim
    | int _ => exact P3.elim
    | raw _ => exact P3.elim
/-- xs[::-1] of a list -/
def eRev (f : DE) : DE := fun r m => (f r m).bind fun w m1 => match lstOf m1 w with
  | some xs => .ok (.lst xs.reverse) m1
  | none => .bad
theorem se_rev {f : DE} {k : Nat} {p1 p2 p3 : Pos} (h : PE X e (tE (gx X cl Wx) f)) : PE X (.Subscript e (.Slice none none (some (.UnaryOp .USub (.Constant (.int 1) k p1) p2)) p3) pos) (tE (gx X cl Wx) (eRev f)) :=
  (pe_revL h).imp fun s H Q ⟨r, m, z, R, P⟩ => by
    refine ⟨r, m, z, R, P.bind fun z1 w m1 v H1 E1 R1 r1 P1 => ?_⟩
    cases q : lstOf m1 w with
    | none => rw [q] at P1; exact P1.elim
    | some xs =>
      rw [q] at P1
      obtain ⟨p, vs, f1, f2, f3⟩ := lst_at R1.mem r1 q
      refine ⟨p, vs, f1, f2, fun l hl => ?_⟩
      obtain ⟨t1, t2, t3⟩ := new_lst (cl := cl) R1.mem hl f3.reverse
      exact P1 _ _ _ t1 (R1.after t1 t2) t3
/-- - e -/
def eNeg (f : DE) : DE := fun r m => (f r m).bind fun w m1 => match w with
  | .int i => .ok (.int (-i)) m1
  | _ => .bad
theorem se_neg {f : DE} (h : PE X e (tE (gx X cl Wx) f)) : PE X (.UnaryOp .USub e pos) (tE (gx X cl Wx) (eNeg f)) :=
  (pe_un un_neg h).imp fun s H Q ⟨r, m, z, R, P⟩ => by
    refine ⟨r, m, z, R, P.bind fun z1 w m1 v H1 E1 R1 r1 P1 => ?_⟩
    cases w with
    | int i => exact ⟨i, r1, Post.ret (b := V.int (-i)) P1 R1 rfl⟩
    | _ => exact P1.elim
end
end Dn

/-! D7: what changes: lists, dicts; chains; while. -/
namespace Dn
open PySem PySem.Spec PyProof.Rows L2
def Cell.mut : Cell → Bool
  | .fz _ => false
  | .exn _ _ => false
  | _ => true
section
variable {K : PySem.W.Frag} {cl : Clz} {z : Zn} {m : Mem} {H : Hp}
theorem nodup_ixA {l : List Addr} {i j : Nat} {x : Addr} (hN : l.Nodup) (a : l[i]? = some x) (b : l[j]? = some x) : i = j := by
  obtain ⟨h1, e1⟩ := List.getElem?_eq_some_iff.mp a
  obtain ⟨h2, e2⟩ := List.getElem?_eq_some_iff.mp b
  exact (List.getElem_inj hN).mp (e1.trans e2.symm)
/-- an object of the memory is written -/
theorem MemOk.write {n : Nat} {a : Addr} {c c' : Cell} {o' : HO} (M : MemOk K cl z m H) (hp : z.phi[n]? = some a) (hc : m[n]? = some c) (hm : c.mut = true) (new : Ext z H z (upd H a o') → CellOk K cl z (upd H a o') a c') :
    Ext z H z (upd H a o') ∧ MemOk K cl z (m.set n c') (upd H a o') := by
  have hcell := M.cells n a c hp hc
  have nz : ¬ z.Z a := fun q => by
    cases c with
    | lst ws => exact hcell.1 q
    | fz ws => cases hm
    | dct kvs => obtain ⟨_, vs, e, _⟩ := hcell; obtain ⟨xs, e2⟩ := M.lz a q; rw [e] at e2; cases e2
    | ins c fs => obtain ⟨_, dx, vs, e, _⟩ := hcell; obtain ⟨xs, e2⟩ := M.lz a q; rw [e] at e2; cases e2
    | exn c fs => cases hm
    | dtt _ => obtain ⟨_, vs, e, _⟩ := hcell; obtain ⟨xs, e2⟩ := M.lz a q; rw [e] at e2; cases e2
  have nh : ¬ z.hold a := fun q => by
    cases c with
    | lst ws => exact hcell.2.1 q
    | fz ws => cases hm
    | dct kvs => exact hcell.1 q
    | ins c fs => exact hcell.1 q
    | exn c fs => cases hm
    | dtt _ => exact hcell.1 q
  have nt : ∀ b us, H b = some (.tup us) → b ≠ a := fun b us e q => by
    subst q
    cases c with
    | lst ws => obtain ⟨_, _, vs, e2, _⟩ := hcell; rw [e] at e2; cases e2
    | fz ws => cases hm
    | dct kvs => obtain ⟨_, vs, e2, _⟩ := hcell; rw [e] at e2; cases e2
    | ins c fs => obtain ⟨_, dx, vs, e2, _⟩ := hcell; rw [e] at e2; cases e2
    | exn c fs => cases hm
    | dtt _ => obtain ⟨_, vs, e2, _⟩ := hcell; rw [e] at e2; cases e2
  have nf : ∀ b ob u, H b = some (.frz ob u) → b ≠ a := fun b ob u e q => by
    subst q
    cases c with
    | lst ws => obtain ⟨_, _, vs, e2, _⟩ := hcell; rw [e] at e2; cases e2
    | fz ws => cases hm
    | dct kvs => obtain ⟨_, vs, e2, _⟩ := hcell; rw [e] at e2; cases e2
    | ins c fs => obtain ⟨_, dx, vs, e2, _⟩ := hcell; rw [e] at e2; cases e2
    | exn c fs => cases hm
    | dtt _ => obtain ⟨_, vs, e2, _⟩ := hcell; rw [e] at e2; cases e2
  have no : ∀ o, H a = some o → (∀ f, o ≠ .ext f) ∧ ∀ ps, o ≠ .tbl ps := fun o e => by
    cases c with
    | lst ws => obtain ⟨_, _, vs, e2, _⟩ := hcell; rw [e] at e2; cases e2; exact ⟨fun _ q => (by cases q), fun _ q => (by cases q)⟩
    | fz ws => cases hm
    | dct kvs => obtain ⟨_, vs, e2, _⟩ := hcell; rw [e] at e2; cases e2; exact ⟨fun _ q => (by cases q), fun _ q => (by cases q)⟩
    | ins c fs => obtain ⟨_, dx, vs, e2, _⟩ := hcell; rw [e] at e2; cases e2; exact ⟨fun _ q => (by cases q), fun _ q => (by cases q)⟩
    | exn c fs => cases hm
    | dtt _ => obtain ⟨_, vs, e2, _⟩ := hcell; rw [e] at e2; cases e2; exact ⟨fun _ q => (by cases q), fun _ q => (by cases q)⟩
  have nx : ∀ b f, H b = some (.ext f) → b ≠ a := fun b f e q => by subst q; exact (no _ e).1 f rfl
  have nb : ∀ b ps, H b = some (.tbl ps) → b ≠ a := fun b ps e q => by subst q; exact (no _ e).2 ps rfl
  have ez : ∀ b, z.Z b → b ≠ a := fun b q e => nz (e ▸ q)
  have eh : ∀ b, z.hold b → b ≠ a := fun b q e => nh (e ▸ q)
  have ex : Ext z H z (upd H a o') := ⟨⟨fun b us e => by rw [upd_ne (nt b us e)]; exact e, fun b ob u e => by rw [upd_ne (nf b ob u e)]; exact e, fun b q => ⟨q, upd_ne (ez b q)⟩, fun _ _ q => q, fun b f e => by rw [upd_ne (nx b f e)]; exact e⟩, fun b q => ⟨q, upd_ne (eh b q)⟩⟩
  refine ⟨ex, by simp [M.len], M.nd, M.sep, fun b q => by rw [upd_ne (ez b q)]; exact M.lz b q, fun b q => by rw [upd_ne (eh b q)]; exact M.lh b q, fun k b d h1 h2 => ?_, tabs_keep M.tb (fun b ps q => by rw [upd_ne (nb b ps q)]; exact q) ex.e0.xts, cl.gx ex.e0 M.gh⟩
  by_cases hk : n = k
  · subst hk
    rw [hp] at h1
    cases h1
    rw [List.getElem?_set_self (List.getElem?_eq_some_iff.mp hc).1] at h2
    cases h2
    exact new ex
  · rw [List.getElem?_set_ne hk] at h2
    have hne : b ≠ a := fun q => by
      subst q
      exact hk (nodup_ixA M.nd hp h1)
    exact (M.cells k b d h1 h2).ext2 ex.e0 Iff.rfl (fun x => x) (upd_ne hne)
/-- a list of the memory is settled -/
theorem MemOk.freeze {n : Nat} {a : Addr} {ws : List W} (M : MemOk K cl z m H) (hp : z.phi[n]? = some a) (hc : m[n]? = some (.lst ws)) :
    Ext z H (z.fz a) H ∧ MemOk K cl (z.fz a) (m.set n (.fz ws)) H ∧ RW K (z.fz a) H (.lst ws) (.ref a) := by
  obtain ⟨n1, n2, vs, e, rr⟩ := M.cells n a _ hp hc
  have ex : Ext z H (z.fz a) H := ⟨⟨fun _ _ h => h, fun _ _ _ h => h, fun _ h => ⟨.inr h, rfl⟩, fun _ _ h => h, fun _ _ h => h⟩, fun _ h => ⟨h, rfl⟩⟩
  refine ⟨ex, ⟨by simp [M.len], M.nd, ?_, ?_, M.lh, fun k b d h1 h2 => ?_, M.tb, cl.gx ex.e0 M.gh⟩, a, vs, rfl, ⟨.inl rfl, e⟩, RWs.ext ex rr⟩
  · rintro b (q | q)
    · subst q; exact n2
    · exact M.sep b q
  · rintro b (q | q)
    · subst q; exact ⟨_, e⟩
    · exact M.lz b q
  · by_cases hk : n = k
    · subst hk
      have h1 : z.phi[n]? = some b := h1
      rw [hp] at h1
      cases h1
      rw [List.getElem?_set_self (List.getElem?_eq_some_iff.mp hc).1] at h2
      cases h2
      exact ⟨.inl rfl, vs, e, RWs.ext ex rr⟩
    · rw [List.getElem?_set_ne hk] at h2
      have h1 : z.phi[k]? = some b := h1
      have hne : b ≠ a := fun q => by
        subst q
        exact hk (nodup_ixA M.nd hp h1)
      refine (M.cells k b d h1 h2).ext2 ex.e0 ⟨?_, .inr⟩ (fun x => x) rfl
      rintro (q | q)
      · exact absurd q hne
      · exact q
end

section
variable {X : Cx} {cl : Clz} {Wx : WX} {e a b o : Expr} {pos : Pos}
/-- a name whose list is settled from here on -/
def eFrz (i : Nat) : DE := fun r m => match r[i]? with
  | some (some (.ref n)) => match m[n]? with
    | some (.lst ws) => .ok (.lst ws) (m.set n (.fz ws))
    | some (.fz ws) => .ok (.lst ws) m
    | _ => .bad
  | some (some (.lst ws)) => .ok (.lst ws) m
  | _ => .bad
theorem se_frz (i : Nat) {x : Str} (hN : X.N[i]? = some x := by rfl) (hv : Vis X.env.scope x := by first | exact Or.inl rfl | exact Or.inr (Or.inl rfl) | exact Or.inr (Or.inr rfl)) (hd : (x == ("__debug__" : Str)) = false := by decide)
    (hcd : (x == ("__classdict__" : Str)) = false := by decide) : PE X (.Name x pos) (tE (gx X cl Wx) (eFrz i)) := (pe_var hN hv hd hcd).imp fun s H Q ⟨r, m, z, R, P⟩ => by
  unfold eFrz at P
  split at P
  · rename_i n e1
    obtain ⟨v, q1, p, q2, q3⟩ := R.slots.2 i _ e1
    subst q3
    refine ⟨_, q1, ?_⟩
    split at P
    · rename_i ws e2
      obtain ⟨ex, M, rw'⟩ := R.mem.freeze q2 e2
      exact P _ _ _ ex (R.after ex M) rw'
    · rename_i ws e2
      obtain ⟨h1, vs, h2, h3⟩ := R.mem.cells n p _ q2 e2
      exact P z _ H (Ext.refl _ _) R ⟨p, vs, rfl, ⟨h1, h2⟩, h3⟩
    · exact P.elim
  · rename_i ws e1
    obtain ⟨v, q1, q2⟩ := R.slots.2 i _ e1
    exact ⟨v, q1, P.ret R q2⟩
  · exact P.elim
/-- xs.append(e) -/
def eApp (fo fe : DE) : DE := fun r m => (fo r m).bind fun w m1 => match w with
  | .ref n => match m1[n]? with
    | some (.lst _) => (fe r m1).bind fun y m2 => match m2[n]? with
      | some (.lst xs) => if xs.length < 16777216 then .ok .non (m2.set n (.lst (xs ++ [y]))) else .bad
      | _ => .bad
    | _ => .bad
  | _ => .bad
theorem sl_lt {n : Nat} (h : n < 16777216) : n < sizeLine := by rw [sizeLine_eq]; exact h
theorem se_app {fo fe : DE} {apos : Pos} (ho : PE X o (tE (gx X cl Wx) fo)) (he : PE X e (tE (gx X cl Wx) fe))
    (hbase : attributeBase o "append" X.env (eval o X.env) = eval o X.env := by rfl)
    (hfew : ((backTo pos (starEach [e] X.env)).all (fun x => !x.1) && (backToKw pos (keywordEach [] X.env)).all (fun x => x.1.isSome)
      && decide ([e].length + ([] : List Keyword).length + (if ([] : List Keyword).isEmpty then 0 else 1) < 30)) = true := by rfl)
    (hline : (apos.endLine == pos.line) = true := by rfl) (hs : starEach [e] X.env = (false, eval e X.env) :: starEach [] X.env := by rfl) (hplain : (backTo pos (starEach [] X.env)).any (·.1) = false := by rfl) :
    PE X (.Call (.Attribute o "append" apos) [e] [] pos) (tE (gx X cl Wx) (eApp fo fe)) :=
  (pe_bm PySem.F.plainAttrs_list PySem.F.slot_list_append PySem.F.type_list_append mt_append ho (pa_cons he pa_nil hs) hbase hfew hline hs hplain).imp fun s H Q ⟨r, m, z, R, P⟩ => by
    refine ⟨r, m, z, R, P.bind fun z1 w m1 v H1 E1 R1 r1 P1 => ?_⟩
    cases w with
    | ref n =>
      obtain ⟨p, q1, q2⟩ := r1
      subst q2
      simp only at P1
      split at P1
      · rename_i ys e1
        obtain ⟨_, _, vs, h1, _⟩ := R1.mem.cells n p _ q1 e1
        refine ⟨.inl ⟨rfl, vs, SqL.of h1⟩, r, m1, z1, R1, P1.bind fun z2 y m2 v2 H2 E2 R2 r2 P2 => ?_⟩
        have q3 := E2.e0.ph n p q1
        split at P2
        · rename_i xs e2
          split at P2
          · rename_i hl
            obtain ⟨n1, n2, us, h2, h3⟩ := R2.mem.cells n p _ q3 e2
            refine ⟨p, us, v2, rfl, rfl, h2, by rw [h3.length]; exact sl_lt hl, ?_⟩
            obtain ⟨ex, M⟩ := R2.mem.write (c' := .lst (xs ++ [y])) (o' := .lst (us ++ [v2])) q3 e2 rfl fun ex => ⟨n1, n2, _, upd_same, (RWs.ext ex h3).append (.cons (r2.ext ex) .nil)⟩
            exact P2 _ _ _ ex (R2.after ex M) rfl
          · exact P2.elim
        · exact P2.elim
      · exact P1.elim
    | _ => exact P1.elim
/-- xs.extend(ys), ys a list -/
def eExt (fo fe : DE) : DE := fun r m => (fo r m).bind fun w m1 => match w with
  | .ref n => match m1[n]? with
    | some (.lst _) => (fe r m1).bind fun y m2 => match m2[n]?, trkOf m2 y with
      | some (.lst xs), some ys => if xs.length + ys.length ≤ 16777216 then .ok .non (m2.set n (.lst (xs ++ ys))) else .bad
      | _, _ => .bad
    | _ => .bad
  | _ => .bad
theorem se_ext {fo fe : DE} {apos : Pos} (ho : PE X o (tE (gx X cl Wx) fo)) (he : PE X e (tE (gx X cl Wx) fe))
    (hbase : attributeBase o "extend" X.env (eval o X.env) = eval o X.env := by rfl)
    (hfew : ((backTo pos (starEach [e] X.env)).all (fun x => !x.1) && (backToKw pos (keywordEach [] X.env)).all (fun x => x.1.isSome)
      && decide ([e].length + ([] : List Keyword).length + (if ([] : List Keyword).isEmpty then 0 else 1) < 30)) = true := by rfl)
    (hline : (apos.endLine == pos.line) = true := by rfl) (hs : starEach [e] X.env = (false, eval e X.env) :: starEach [] X.env := by rfl) (hplain : (backTo pos (starEach [] X.env)).any (·.1) = false := by rfl) :
    PE X (.Call (.Attribute o "extend" apos) [e] [] pos) (tE (gx X cl Wx) (eExt fo fe)) :=
  (pe_bm PySem.F.plainAttrs_list PySem.F.slot_list_extend PySem.F.type_list_extend mt_extend ho (pa_cons he pa_nil hs) hbase hfew hline hs hplain).imp fun s H Q ⟨r, m, z, R, P⟩ => by
    refine ⟨r, m, z, R, P.bind fun z1 w m1 v H1 E1 R1 r1 P1 => ?_⟩
    cases w with
    | ref n =>
      obtain ⟨p, q1, q2⟩ := r1
      subst q2
      simp only at P1
      split at P1
      · rename_i ys e1
        obtain ⟨_, _, vs, h1, _⟩ := R1.mem.cells n p _ q1 e1
        refine ⟨.inl ⟨rfl, vs, SqL.of h1⟩, r, m1, z1, R1, P1.bind fun z2 y m2 v2 H2 E2 R2 r2 P2 => ?_⟩
        have q3 := E2.e0.ph n p q1
        split at P2
        · rename_i xs ys e2 e3
          split at P2
          · rename_i hl
            obtain ⟨n1, n2, us, h2, h3⟩ := R2.mem.cells n p _ q3 e2
            obtain ⟨p2, us2, g1, g2, g3⟩ := trk_at R2.mem r2 e3
            subst g1
            refine ⟨p, p2, us, us2, rfl, rfl, h2, g2, by rw [h3.length, g3.length]; exact sl_le hl, ?_⟩
            obtain ⟨ex, M⟩ := R2.mem.write (c' := .lst (xs ++ ys)) (o' := .lst (us ++ us2)) q3 e2 rfl fun ex => ⟨n1, n2, _, upd_same, (RWs.ext ex h3).append (RWs.ext ex g3)⟩
            exact P2 _ _ _ ex (R2.after ex M) rfl
          · exact P2.elim
        · exact P2.elim
      · exact P1.elim
    | _ => exact P1.elim

/-! ### dicts by texts and ints -/
def keyW : W → Option Key
  | .int i => some (.inl i)
  | .str x => some (.inr x)
  | _ => none
theorem key_rel {K : PySem.W.Frag} {z : Zn} {H : Hp} {w : W} {v : V} {k : Key} (h : RW K z H w v) (e : keyW w = some k) : v = kV k := by
  cases w with
  | int i => cases e; exact h
  | str x => cases e; exact h
  | _ => cases e
def valW (kvs : List (Key × W)) (k : Key) : Option W := match kvs with
  | [] => none
  | (j, w) :: r => if j = k then some w else valW r k
def hasW (kvs : List (Key × W)) (k : Key) : Bool := match kvs with
  | [] => false
  | (j, _) :: r => decide (j = k) || hasW r k
def setW (kvs : List (Key × W)) (k : Key) (w : W) : List (Key × W) := match kvs with
  | [] => []
  | (j, u) :: r => (if j = k then (j, w) else (j, u)) :: setW r k w
def putW (kvs : List (Key × W)) (k : Key) (w : W) : List (Key × W) := if hasW kvs k = true then setW kvs k w else kvs ++ [(k, w)]
section
variable {K : PySem.W.Frag} {z : Zn} {H : Hp}
theorem valW_some {k : Key} : ∀ {kvs : List (Key × W)} {vs : List (Key × V)} {w : W}, RFs K z H kvs vs → valW kvs k = some w → ∃ v, valV vs k = some v ∧ RW K z H w v
  | [], _, _, _, e => by cases e
  | (j, u) :: r, _, w, ⟨v, vr, h1, h2, h3⟩, e => by
    subst h1
    simp only [valW] at e
    by_cases hj : j = k
    · rw [if_pos hj] at e; cases e; exact ⟨v, valV_pos hj, h2⟩
    · rw [if_neg hj] at e
      obtain ⟨v', a1, a2⟩ := valW_some h3 e
      exact ⟨v', by rw [valV_neg hj]; exact a1, a2⟩
theorem valW_none {k : Key} : ∀ {kvs : List (Key × W)} {vs : List (Key × V)}, RFs K z H kvs vs → valW kvs k = none → valV vs k = none
  | [], _, h, _ => by cases h; rfl
  | (j, u) :: r, _, ⟨v, vr, h1, h2, h3⟩, e => by
    subst h1
    simp only [valW] at e
    by_cases hj : j = k
    · rw [if_pos hj] at e; cases e
    · rw [if_neg hj] at e
      rw [valV_neg hj]
      exact valW_none h3 e
theorem RFs.append {α : Type} : ∀ {as bs : List (α × W)} {us vs : List (α × V)}, RFs K z H as us → RFs K z H bs vs → RFs K z H (as ++ bs) (us ++ vs)
  | [], _, _, _, h, t => by cases h; exact t
  | (k, w) :: _, _, _, _, ⟨v, r, h1, h2, h3⟩, t => by subst h1; exact ⟨v, _, rfl, h2, RFs.append h3 t⟩
theorem hasW_any {k : Key} : ∀ {kvs : List (Key × W)} {vs : List (Key × V)}, RFs K z H kvs vs → (vs.any fun kv => decide (kv.1 = k)) = hasW kvs k
  | [], _, h => by cases h; rfl
  | (j, w) :: _, _, ⟨v, r, h1, h2, h3⟩ => by
    subst h1
    simp only [List.any_cons, hasW]
    rw [hasW_any h3]
theorem setW_rel {k : Key} {w : W} {v : V} (hw : RW K z H w v) : ∀ {kvs : List (Key × W)} {vs : List (Key × V)}, RFs K z H kvs vs → RFs K z H (setW kvs k w) (vs.map fun kv => if kv.1 = k then (kv.1, v) else kv)
  | [], _, h => by cases h; rfl
  | (j, u) :: _, _, ⟨x, r, h1, h2, h3⟩ => by
    subst h1
    simp only [setW, List.map_cons]
    by_cases hj : j = k
    · rw [if_pos hj, if_pos hj]; exact ⟨v, _, rfl, hw, setW_rel hw h3⟩
    · rw [if_neg hj, if_neg hj]; exact ⟨x, _, rfl, h2, setW_rel hw h3⟩
theorem putW_rel {k : Key} {w : W} {v : V} {kvs : List (Key × W)} {vs : List (Key × V)} (hw : RW K z H w v) (h : RFs K z H kvs vs) : RFs K z H (putW kvs k w) (putK vs k v) := by
  unfold putW putK
  rw [hasW_any h]
  split
  · exact setW_rel hw h
  · exact h.append ⟨v, [], rfl, hw, rfl⟩
end
def eDget (fo fi : DE) : DE := fun r m => (fo r m).bind fun w m1 => (fi r m1).bind fun k m2 => match w with
  | .ref n => match m2[n]?, keyW k with
    | some (.dct kvs), some key => match valW kvs key with
      | some u => .ok u m2
      | none => .bad
    | _, _ => .bad
  | _ => .bad
theorem se_dget {fo fi : DE} {i : Expr} (hu : X.A.units + 1 < cLine) (ho : PE X o (tE (gx X cl Wx) fo)) (hi : PE X i (tE (gx X cl Wx) fi)) (hs : NoSl i := by exact fun _ _ => rfl) : PE X (.Subscript o i pos) (tE (gx X cl Wx) (eDget fo fi)) :=
  (pe_dget hu ho hi hs).imp fun s H Q ⟨r, m, z, R, P⟩ => by
    refine ⟨r, m, z, R, P.bind fun z1 w m1 v H1 E1 R1 r1 P1 => ?_⟩
    refine ⟨r, m1, z1, R1, P1.bind fun z2 k m2 y H2 E2 R2 r2 P2 => ?_⟩
    cases w with
    | ref n =>
      obtain ⟨p, q1, q2⟩ := RW.ext E2 r1
      subst q2
      simp only at P2
      split at P2
      · rename_i kvs key e1 e2
        split at P2
        · rename_i u e3
          obtain ⟨_, vs, h1, h2⟩ := R2.mem.cells n p _ q1 e1
          obtain ⟨x, g1, g2⟩ := valW_some h2 e3
          have hy := key_rel r2 e2
          subst hy
          exact ⟨p, x, rfl, by rw [← g1]; exact DGet.k h1, P2 z2 x H2 (Ext.refl _ _) R2 g2⟩
        · exact P2.elim
      · exact P2.elim
    | _ => exact P2.elim
/-- o[i] = e, of a list or a dict -/
def setM (m : Mem) (o i v : W) : Option Mem := match o with
  | .ref n => match m[n]? with
    | some (.lst xs) => match i with
      | .int k => (ixN xs.length k).map fun j => m.set n (.lst (xs.set j v))
      | _ => none
    | some (.dct kvs) => match keyW i with
      | some key => if kvs.length < 16777216 then some (m.set n (.dct (putW kvs key v))) else none
      | none => none
    | _ => none
  | _ => none
def rSetD : V → V → V → Hp → (Hp → Prop) → Prop := fun o i v H Q => ∃ a H', o = .ref a ∧ DPut H a i v H' ∧ Q H'
theorem set_dict (hu : X.A.units + 1 < cLine) : PSet X rSetD := by
  intro pins s σ H o i v ov iv u Q I ro ri rv h
  obtain ⟨a, H', ex, g, q⟩ := h
  subst ex
  obtain rfl : ov = Value.ref a := ro
  exact d_setItem hu I g ri rv fun s4 I4 => ⟨H', I4, q⟩
theorem PSet.or {t t' : TSet} (h : PSet X t) (h' : PSet X t') : PSet X (fun o i v H Q => t o i v H Q ∨ t' o i v H Q) := fun pins s σ H o i v ov iv u Q I ro ri rv q => q.elim (fun q => h pins s σ H o i v ov iv u Q I ro ri rv q) fun q => h' pins s σ H o i v ov iv u Q I ro ri rv q
def sSub (fo fi fv : DE) : DS := fun r m => (fv r m).thenS r fun v m1 => (fo r m1).thenS r fun w m2 => (fi r m2).thenS r fun i m3 => match setM m3 w i v with
  | some m4 => .next r m4
  | none => .bad
theorem ss_sub {fo fi fv : DE} {i : Expr} {p2 : Pos} (hu : X.A.units + 1 < cLine) (hv : PE X e (tE (gx X cl Wx) fv)) (ho : PE X o (tE (gx X cl Wx) fo)) (hi : PE X i (tE (gx X cl Wx) fi))
    (ha : ∀ v, assign (.Subscript o i p2) X.env v = (do
      let ov ← holding [v] (eval o X.env)
      let iv ← holding [v, ov] (eval i X.env)
      standAt p2
      holding [v, ov, iv] (setItem ov iv v)
      release [v, ov, iv] []) := by intro _; rfl)
    (hs : swapsWithSole [.Subscript o i p2] e pos.line X.env = pure false := by rfl) (hw : swappedStores [.Subscript o i p2] e X.env = pure none := by rfl)
    (h1 : (assignEach [.Subscript o i p2] X.env).map (·.2) = [assign (.Subscript o i p2) X.env] := by rfl) : PS X (.Assign [.Subscript o i p2] e pos) (tS (gx X cl Wx) (sSub fo fi fv)) :=
  (ps_asg hv (pg_sub ho hi (PSet.or set_list (set_dict hu)) ha) hs hw h1).imp fun D s H ⟨r, m, z, R, P⟩ => ⟨r, m, z, R, P.bind fun z1 v m1 x H1 E1 R1 r1 P1 => by
    refine ⟨r, m1, z1, R1, P1.bind fun z2 w m2 y H2 E2 R2 r2 P2 => ?_⟩
    refine ⟨r, m2, z2, R2, P2.bind fun z3 k m3 u H3 E3 R3 r3 P3 => ?_⟩
    have r1 : RW X.K z3 H3 v x := (RW.ext E2 r1).ext E3
    cases w with
    | ref n =>
      obtain ⟨p, q1, q2⟩ := RW.ext E3 r2
      subst q2
      simp only [setM] at P3
      cases q : m3[n]? with
      | none => rw [q] at P3; exact P3.elim
      | some c =>
        rw [q] at P3
        cases c with
        | lst xs =>
          cases k with
          | int j =>
            have r3 : u = .int j := r3
            subst r3
            simp only at P3
            cases q4 : ixN xs.length j with
            | none => rw [q4] at P3; exact P3.elim
            | some l =>
              rw [q4] at P3
              obtain ⟨n1, n2, us, h2, h3⟩ := R3.mem.cells n p _ q1 q
              refine .inl ⟨p, us, j, l, rfl, rfl, h2, by rw [h3.length]; exact q4, ?_⟩
              obtain ⟨ex, M⟩ := R3.mem.write (c' := .lst (xs.set l v)) (o' := .lst (us.set l x)) q1 q rfl fun ex => ⟨n1, n2, _, upd_same, RWs.set (r1.ext ex) l (RWs.ext ex h3)⟩
              exact P3 _ _ _ ex (R3.after ex M)
          | _ => exact P3.elim
        | dct kvs =>
          simp only at P3
          cases q4 : keyW k with
          | none => rw [q4] at P3; exact P3.elim
          | some key =>
            rw [q4] at P3
            simp only at P3
            by_cases hl : kvs.length < 16777216
            · rw [if_pos hl] at P3
              obtain ⟨n2, us, h2, h3⟩ := R3.mem.cells n p _ q1 q
              have hy := key_rel r3 q4
              subst hy
              refine .inr ⟨p, _, rfl, DPut.k h2 (by rw [h3.length]; exact sl_lt hl), ?_⟩
              obtain ⟨ex, M⟩ := R3.mem.write (c' := .dct (putW kvs key v)) (o' := .dK (putK us key x)) q1 q rfl fun ex => ⟨n2, _, upd_same, putW_rel (r1.ext ex) (RFs.ext ex h3)⟩
              exact P3 _ _ _ ex (R3.after ex M)
            · rw [if_neg hl] at P3; exact P3.elim
        | fz xs => exact P3.elim
        | _ => exact P3.elim
    | _ => exact P3.elim⟩
/-- {"k": e, ..} -/
def pairsD : List (Str × DE) → Rho → Mem → R (List (Key × W))
  | [], _, m => .ok [] m
  | (k, f) :: t, r, m => (f r m).bind fun w m1 => (pairsD t r m1).bind fun ws m2 => .ok ((.inr k, w) :: ws) m2
def relP (K : PySem.W.Frag) (z : Zn) (H : Hp) (kws : List (Key × W)) (ps : List (V × V)) : Prop := ∃ vs : List (Key × V), RFs K z H kws vs ∧ ps = vs.map fun kv => (kV kv.1, kv.2)
theorem pairs_of {g : Gx} {s : L2.St} {r : Rho} : ∀ {fs : List (Str × DE)} {m : Mem} {z : Zn} {H : Hp} {Q : List (V × V) → Hp → Prop}, Rel g.K g.cl z r m s H → Post g (relP g.K) z H r s (pairsD fs r m) Q → tPairs (fs.map fun kf => (tC (.str kf.1), tE g kf.2)) s H Q
  | [], m, z, H, Q, R, P => Post.ret (b := ([] : List (V × V))) P R ⟨[], rfl, rfl⟩
  | (k, f) :: t, m, z, H, Q, R, P => by
    refine ⟨r, m, z, R, P.bind fun z1 w m1 v H1 E1 R1 r1 P1 => ?_⟩
    refine pairs_of (fs := t) R1 (P1.bind fun z2 ws m2 ps H2 E2 R2 r2 P2 => ?_)
    obtain ⟨vs, a1, a2⟩ := r2
    exact Post.ret (b := (V.str k, v) :: ps) P2 R2 ⟨(.inr k, v) :: vs, ⟨v, vs, rfl, RW.ext E2 r1, a1⟩, by rw [a2]; rfl⟩
def mergeW (kvs more : List (Key × W)) : List (Key × W) := match more with
  | [] => kvs
  | (k, w) :: r => mergeW (putW kvs k w) r
theorem mergeW_rel {K : PySem.W.Frag} {z : Zn} {H : Hp} : ∀ {more kvs : List (Key × W)} {mv vs : List (Key × V)}, RFs K z H more mv → RFs K z H kvs vs → RFs K z H (mergeW kvs more) (mergeK vs mv)
  | [], _, _, _, h, t => by cases h; exact t
  | (k, w) :: _, _, _, _, ⟨v, r, h1, h2, h3⟩, t => by
    subst h1
    show RFs K z H (mergeW (putW _ k w) _) (mergeK (putK _ k v) r)
    exact mergeW_rel h3 (putW_rel h2 t)
def eDict (fs : List (Str × DE)) : DE := fun r m => (pairsD fs r m).bind fun kws m1 => if kws.length ≤ 15 then .ok (.ref m1.length) (m1 ++ [.dct (mergeW [] kws)]) else .bad
theorem se_dict {keys : List (Option Expr)} {values : List Expr} {fs : List (Str × DE)} (h : PPs X pos keys values (fs.map fun kf => (tC (.str kf.1), tE (gx X cl Wx) kf.2))) (hall : keys.all (·.isSome) = true := by rfl) (hl : keys.length = values.length := by rfl) (h0 : keys ≠ [] := by intro h; cases h)
    (h15 : keys.length ≤ 15 := by decide) : PE X (.Dict keys values pos) (tE (gx X cl Wx) (eDict fs)) :=
  (pe_disp h hall hl h0 h15).imp fun s H Q ⟨r, m, z, R, P⟩ p hp => by
    have hs := upd_same_of (o := .dK []) hp
    have R1 := R.same hs
    have E1 := R.mem.extS hs
    have nz := R.mem.z_ne hp
    have nh := R.mem.h_ne hp
    have np := R.mem.p_ne hp
    obtain ⟨M2, E2⟩ := R1.mem.hold (p := p) upd_same nz np
    have R2 := R1.after E2 M2
    unfold eDict at P
    refine pairs_of (g := gx X cl Wx) R2 ?_
    cases q : pairsD fs r m with
    | ok kws m1 =>
      rw [q] at P
      intro z3 ps H3 E3 R3 ⟨vs, a1, a2⟩
      have hh : z3.hold p := (E3.hs p (.inl rfl)).1
      have hp3 : H3 p = some (.dK []) := (E3.hs p (.inl rfl)).2.trans upd_same
      simp only [Dn.R.bind] at P
      split at P
      · rename_i c
        refine ⟨hp3, vs, a2, by rw [a1.length]; exact c, ?_⟩
        obtain ⟨M4, e4, n4, p4⟩ := R3.mem.unhold (o' := .dK (mergeK [] vs)) hh hp3
        have e14 : Ext z H (z3.un p) (upd H3 p (.dK (mergeK [] vs))) := by
          have e3 : Ext z H z3 H3 := (E1.trans E2).trans E3
          refine ⟨e3.e0.trans e4, fun b hb => ?_⟩
          have hne : b ≠ p := fun q => nh (q ▸ hb)
          exact ⟨⟨hne, (e3.hs b hb).1⟩, by rw [upd_ne hne]; exact (e3.hs b hb).2⟩
        have e5 : Ext (z3.un p) (upd H3 p (.dK (mergeK [] vs))) ((z3.un p).lay p) (upd H3 p (.dK (mergeK [] vs))) := ⟨⟨fun _ _ h => h, fun _ _ _ h => h, fun _ h => ⟨h, rfl⟩, fun n a h => by
          have hl := (List.getElem?_eq_some_iff.mp h).1
          show (z3.phi ++ [p])[n]? = some a
          rw [List.getElem?_append_left hl]
          exact h, fun _ _ h => h⟩, fun _ h => ⟨h, rfl⟩⟩
        obtain ⟨e6, M6⟩ := M4.lay (p := p) (c := .dct (mergeW [] kws)) n4 p4 ⟨fun q => q.1 rfl, _, upd_same, (mergeW_rel (kvs := []) (vs := []) (a1.ext0 e4) rfl).ext e5⟩
        refine P _ _ _ (e14.trans e5) ((R.after e14 M4).after e5 M6) ⟨p, ?_, rfl⟩
        show (z3.phi ++ [p])[m1.length]? = some p
        have hlen : z3.phi.length = m1.length := R3.mem.len
        rw [← hlen]
        simp
      · exact P.elim
    | exc x m1 => rw [q] at P; exact fun z' H' c d e R q => P z' H' c d ((E1.trans E2).trans e) R q
    | bad => rw [q] at P; exact P

/-! ### chains, is None -/
def eChain (o1 o2 : Mem → W → W → Option W) (fa fb fc : DE) : DE := fun r m => (fa r m).bind fun a m1 => (fb r m1).bind fun b m2 => match o1 m2 a b with
  | some (.bl true) => (fc r m2).bind fun c m3 => match o2 m3 b c with
    | some w => .ok w m3
    | none => .bad
  | some (.bl false) => .ok (.bl false) m2
  | _ => .bad
/-- an operator that changes nothing and tells a bool -/
def OpB (K : PySem.W.Frag) (cl : Clz) (o : Mem → W → W → Option W) (r : R2) : Prop := ∀ (z : Zn) (m : Mem) (H : Hp) (a b : W) (x y : V) (k : Bool) (Q : VK), MemOk K cl z m H → RW K z H a x → RW K z H b y → o m a b = some (.bl k) → Q (.bl k) H → r x y H Q
theorem tE_chain {g : Gx} {o1 o2 : Mem → W → W → Option W} {r1 r2 : R2} {fa fb fc : DE} {s : L2.St} {H : Hp} {Q : VK} (h1 : OpB g.K g.cl o1 r1) (h2 : OpW g.K g.cl o2 r2) (h : tE g (eChain o1 o2 fa fb fc) s H Q) : tChain r1 r2 (tE g fa) (tE g fb) (tE g fc) s H Q := by
  obtain ⟨r, m, z, R, P⟩ := h
  refine ⟨r, m, z, R, P.bind fun z1 a m1 x H1 E1 R1 ra P1 => ?_⟩
  refine ⟨r, m1, z1, R1, P1.bind fun z2 b m2 y H2 E2 R2 rb P2 => ?_⟩
  split at P2
  · rename_i q
    refine h1 z2 m2 H2 a b x y true _ R2.mem (RW.ext E2 ra) rb q ⟨true, rfl, ?_⟩
    rw [if_pos rfl]
    refine ⟨r, m2, z2, R2, P2.bind fun z3 c m3 u H3 E3 R3 rc P3 => ?_⟩
    cases q3 : o2 m3 b c with
    | none => rw [q3] at P3; exact P3.elim
    | some w => rw [q3] at P3; exact h2 z3 m3 H3 b c y u w Q R3.mem (RW.ext E3 rb) rc q3 fun z' v H' e M rw' => P3 z' v H' e (R3.after e M) rw'
  · rename_i q
    refine h1 z2 m2 H2 a b x y false _ R2.mem (RW.ext E2 ra) rb q ⟨false, rfl, ?_⟩
    rw [if_neg Bool.false_ne_true]
    exact Post.ret (b := V.bl false) P2 R2 rfl
  · exact P2.elim
theorem se_chain {op op' : CmpOp} {o1 o2 : Mem → W → W → Option W} {r1 r2 : R2} {c : Expr} {fa fb fc : DE} (ho : OpR X (compareOp op) r1) (hw : OpB X.K cl o1 r1) (ho' : OpR X (compareOp op') r2) (hw' : OpW X.K cl o2 r2) (ha : PE X a (tE (gx X cl Wx) fa)) (hb : PE X b (tE (gx X cl Wx) fb)) (hc : PE X c (tE (gx X cl Wx) fc))
    (hm : lastMarks [op, op'] [b, c] = false := by with_unfolding_all rfl) : PE X (.Compare a [op, op'] [b, c] pos) (tE (gx X cl Wx) (eChain o1 o2 fa fb fc)) :=
  (pe_chain ho ho' ha hb hc hm).imp fun s H Q h => tE_chain (g := gx X cl Wx) hw hw' h
theorem st_chain {op op' : CmpOp} {o1 o2 : Mem → W → W → Option W} {r1 r2 : R2} {c : Expr} {fa fb fc : DE} (ho : OpR X (compareOp op) r1) (hw : OpB X.K cl o1 r1) (ho' : OpR X (compareOp op') r2) (hw' : OpW X.K cl o2 r2) (ha : PE X a (tE (gx X cl Wx) fa)) (hb : PE X b (tE (gx X cl Wx) fb)) (hc : PE X c (tE (gx X cl Wx) fc))
    (hm : lastMarks [op, op'] [b, c] = false := by with_unfolding_all rfl) : PT X (.Compare a [op, op'] [b, c] pos) (tT (gx X cl Wx) (dTest (eChain o1 o2 fa fb fc))) :=
  (pt_chain ho ho' ha hb hc hm).imp fun s H Q h => by
    have h' := tT_test h
    unfold tTest at h' ⊢
    exact tE_chain (g := gx X cl Wx) hw hw' h'
theorem opb_int {K : PySem.W.Frag} {f : Int → Int → Bool} {h : Int → Int → Bool} (hf : ∀ i j, f i j = h i j) : OpB K cl (iOp fun i j => some (.bl (f i j))) (rI0 fun i j => .bl (h i j)) := by
  intro z m H a b x y k Q M ra rb e q
  cases a with
  | int i =>
    cases b with
    | int j =>
      simp only [iOp] at e
      cases e
      exact ⟨i, j, ra, rb, by rw [hf] at q; exact q⟩
    | _ => simp [iOp] at e
  | _ => simp [iOp] at e
theorem b_lt {K : PySem.W.Frag} : OpB K cl ltW (rI0 fun i j => .bl (decide (i < j))) := opb_int fun _ _ => rfl
theorem b_le {K : PySem.W.Frag} : OpB K cl leW (rI0 fun i j => .bl (decide (i ≤ j))) := opb_int fun _ _ => rfl
def isNonW (_ : Mem) (a b : W) : Option W := match b with
  | .non => match a with
    | .non => some (.bl true)
    | .raw _ => none
    | _ => some (.bl false)
  | _ => none
def notNonW (_ : Mem) (a b : W) : Option W := match b with
  | .non => match a with
    | .non => some (.bl false)
    | .raw _ => none
    | _ => some (.bl true)
  | _ => none
theorem non_dec {K : PySem.W.Frag} {z : Zn} {H : Hp} {a : W} {x : V} (h : RW K z H a x) (hr : ∀ u, a ≠ .raw u) : decide (x = .non) = (match a with | .non => true | _ => false) := by
  cases a with
  | non => cases h; rfl
  | bl _ => cases h; rfl
  | int _ => cases h; rfl
  | str _ => cases h; rfl
  | tup _ => obtain ⟨_, _, e, _⟩ := h; subst e; rfl
  | lst _ => obtain ⟨_, _, e, _⟩ := h; subst e; rfl
  | old _ => obtain ⟨_, _, e, _⟩ := h; subst e; rfl
  | ref _ => obtain ⟨_, _, e⟩ := h; subst e; rfl
  | raw u => exact absurd rfl (hr u)
theorem w_isNon {K : PySem.W.Frag} : OpW K cl isNonW (fun x y H Q => y = .non ∧ Q (.bl (decide (x = .non))) H) := by
  intro z m H a b x y w Q M ra rb e k
  cases b with
  | non =>
    refine ⟨rb, ?_⟩
    have hr : ∀ u, a ≠ .raw u := fun u q => by subst q; simp [isNonW] at e
    rw [non_dec ra hr]
    cases a <;> first | (simp only [isNonW] at e; cases e; exact k z _ H (Ext.refl _ _) M rfl) | simp [isNonW] at e
  | _ => simp [isNonW] at e
theorem w_notNon {K : PySem.W.Frag} : OpW K cl notNonW (fun x y H Q => y = .non ∧ Q (.bl (!decide (x = .non))) H) := by
  intro z m H a b x y w Q M ra rb e k
  cases b with
  | non =>
    refine ⟨rb, ?_⟩
    have hr : ∀ u, a ≠ .raw u := fun u q => by subst q; simp [notNonW] at e
    rw [non_dec ra hr]
    cases a <;> first | (simp only [notNonW] at e; cases e; exact k z _ H (Ext.refl _ _) M rfl) | simp [notNonW] at e
  | _ => simp [notNonW] at e

/-! ### while, by fuel -/
def whileL (c : DT) (body : DS) : Nat → Rho → Mem → RS
  | 0, _, _ => .bad
  | n + 1, r, m => (c r m).thenS r fun k m1 => if k = true then match body r m1 with
      | .next r2 m2 => whileL c body n r2 m2
      | .cont r2 m2 => whileL c body n r2 m2
      | .brk r2 m2 => .next r2 m2
      | q => q
    else .next r m1
def sWhile (n : Nat) (c : DT) (body : DS) : DS := fun r m => whileL c body n r m
theorem ss_while {c : Expr} {body : List Stmt} {fc : DT} {fb : DS} (n : Nat) (hp : PassesOwn (model X.prog X.w) X.A X.env X.xe) (hc : PT X c (tT (gx X cl Wx) fc)) (hb : PSs X body (tS (gx X cl Wx) fb)) : PS X (.While c body [] pos) (tS (gx X cl Wx) (sWhile n fc fb)) :=
  (ps_while hp hc hb).imp fun D s H ⟨r, m, z, R, P⟩ => by
    refine ⟨fun k s' H' => ∃ r' m' z', Rel X.K cl z' r' m' s' H' ∧ PostS (gx X cl Wx) z' H' (whileL fc fb k r' m') D, ⟨n, r, m, z, R, P⟩, ?_⟩
    rintro k s2 H2 ⟨r2, m2, z2, R2, P2⟩
    cases k with
    | zero => exact P2.elim
    | succ k =>
      refine ⟨r2, m2, z2, R2, P2.bind (rel := relB) fun z3 b m3 b' H3 E3 R3 rb P3 => ?_⟩
      have rb : b = b' := rb
      subst rb
      cases b with
      | false => rw [if_neg Bool.false_ne_true] at P3 ⊢; exact P3.next R3
      | true =>
        rw [if_pos rfl] at P3 ⊢
        refine ⟨fun s' H' => ∃ r' m' z', Rel X.K cl z' r' m' s' H' ∧ PostS (gx X cl Wx) z' H' (whileL fc fb k r' m') D, fun s' H' h => ⟨k, Nat.lt_succ_self k, h⟩, r2, m3, z3, R3, ?_⟩
        cases q5 : fb r2 m3 with
        | next r5 m5 => rw [q5] at P3; exact fun z' s' H' e5 R5 => ⟨r5, m5, z', R5, PostS.mono e5 P3⟩
        | cont r5 m5 => rw [q5] at P3; exact fun z' s' H' e5 R5 => ⟨r5, m5, z', R5, PostS.mono e5 P3⟩
        | brk r5 m5 => rw [q5] at P3; exact P3
        | ret u m5 => rw [q5] at P3; exact P3
        | exc x r5 m5 => rw [q5] at P3; exact P3
        | bad => rw [q5] at P3; exact P3
end
end Dn

/-! D8: enumerate of tuples and lists, zip, comprehensions with two clauses. -/
namespace Dn
open PySem PySem.Spec PyProof.Rows L2
open PySem.Sem (wp)
open PySem.AutoSeq1 (wpAny_loadPart')
/-! ### enumerate(a tuple) -/
theorem meets_enumerate_newT (l : Addr) (items : Array Value) (n : Nat) (dct : Option Addr) (sl : Array (Option Value)) :
    Meets (Builtin.«enumerate.__new__» ⟨[.type "enumerate", .ref l], []⟩) (fun _ R s => s.heap.get? l = some { cls := .type "tuple", dict := dct, data := .seq items n, slots := sl } ∧
      R (.ok (.ret (.ref (s.heap.push { cls := .type "tuple_iterator", data := .fields #[.ref l, .int 0 0] }).objs.size)))
        { s with heap := (s.heap.push { cls := .type "tuple_iterator", data := .fields #[.ref l, .int 0 0] }).push { cls := .type "enumerate", data := .fields #[.none, .bool false, .ref s.heap.objs.size, rawInt 0, .none, .none] } }) :=
  .of_wp fun prog w A R s h => by
    obtain ⟨hp, g, d, tk, os⟩ := s; obtain ⟨hl, h⟩ := h
    have hsub := sub_enumerate
    have hL : Heap.IsTuple (Shared.heap ⟨hp, g, d, tk, os⟩) l items := ⟨_, hl, rfl, n, rfl⟩
    wp_walk using wpAny_loadPart' hl
    refine wpAny_stack_any fun st => wpAny_pure ?_
    split
    · rename_i c _ _ _ _ _
      cases (c == Value.type "enumerate")
      · wp_walk using wpAny_loadPart' hl, wpAny_pyIter_tuple hL
        exact ⟨_, rfl, h⟩
      · wp_walk using wpAny_loadPart' hl, wpAny_pyIter_tuple hL
        exact ⟨_, rfl, h⟩
    · wp_walk using wpAny_loadPart' hl, wpAny_pyIter_tuple hL
      exact ⟨_, rfl, h⟩
section
variable {prog : Program} {w : World} {A : Around} {E : Value → Shared → Prop} {s : Shared}
theorem call_enumerate_tuple {l : Addr} {items : Array Value} {Q : Value → Shared → Prop} (hL : s.heap.IsTuple l items)
    (h : ∀ h', IsEnum h' (s.heap.objs.size + 1) s.heap.objs.size 0 .none → h'.IsTupleIter s.heap.objs.size l 0 → h'.objs.size = s.heap.objs.size + 2 →
      (∀ b o, s.heap.get? b = some o → h'.get? b = some o) → Q (.ref (s.heap.objs.size + 1)) { s with heap := h' }) :
    wpAny (model prog w) A (call (.type "enumerate") [.ref l]) Q E s := by
  obtain ⟨⟨c, dct, dt, sl⟩, hl, hc, n, hd⟩ := hL
  replace hc : c = .type "tuple" := hc
  replace hd : dt = .seq items n := hd
  subst hc hd
  refine callType_new F.called_enumerate (by decide) (F.typeCall_enumerate_1 _) (F.newCall_enumerate_1 _) (fun obj => F.args_object_init_2 obj _) F.entry_enumerate_new
    (meets_enumerate_newT l items n dct sl) ⟨hl, ?_⟩
  have hz : (s.heap.push { cls := .type "tuple_iterator", data := .fields #[.ref l, .int 0 0] }).objs.size = s.heap.objs.size + 1 := Heap.size_push ..
  show _ ∧ _
  rw [hz]
  have he : IsEnum ((s.heap.push { cls := .type "tuple_iterator", data := .fields #[.ref l, .int 0 0] }).push
      { cls := .type "enumerate", data := .fields #[.none, .bool false, .ref s.heap.objs.size, rawInt 0, .none, .none] }) (s.heap.objs.size + 1) s.heap.objs.size 0 .none := by
    have := Heap.get?_push_size (s.heap.push { cls := .type "tuple_iterator", data := .fields #[.ref l, .int 0 0] })
      (o := { cls := .type "enumerate", data := .fields #[.none, .bool false, .ref s.heap.objs.size, rawInt 0, .none, .none] }) rfl
    rw [hz] at this; exact this
  refine ⟨⟨_, he, rfl⟩, h _ he ⟨_, Heap.get?_push_of_some _ (Heap.get?_push_size _ rfl), rfl, rfl⟩ (by rw [Heap.size_push, hz]) fun b o x => Heap.get?_push_of_some _ (Heap.get?_push_of_some _ x)⟩
end
/-- the tuple at a, each item in a new pair -/
def IteT (K : PySem.W.Frag) (a : Addr) : It :=
  ⟨fun i H => ∃ (xs : List V) (x : V), SqT K H a xs ∧ xs[i]? = some x, fun i H v H' => ∃ T x, v = .ref T ∧ H T = none ∧ H' = upd H T (.tup [.int (i : Nat), x]) ∧ ∀ xs, SqT K H a xs → xs[i]? = some x, fun i H => ∃ xs : List V, SqT K H a xs ∧ xs.length = i⟩
theorem turn_enumT {P : Program} {w : World} {K : PySem.W.Frag} {elts : List Expr} {kk : Nat} {tpos : Pos} (a e it : Addr) (hai : a ≠ it) (hae : a ≠ e) :
    Turn P w K (.Tuple elts kk tpos) (IteT K a) [e, it] e (fun i h => (∃ old, IsEnum h e it ((i : Nat) : Int) old) ∧ h.IsTupleIter it a i ∧ e ≠ it) where
  mem := by simp
  obj := fun i h st b hb => by
    obtain ⟨⟨old, he⟩, ⟨o, ho, hc, hd⟩, _⟩ := st
    have e' : b = e ∨ b = it := by simpa using hb
    rcases e' with z | z
    · rw [z]; exact ⟨_, he, fun v q => nomatch q⟩
    · rw [z]; exact ⟨o, ho, fun v q => by rw [hd] at q; cases q⟩
  keep := fun i h h' st k => let ⟨⟨old, he⟩, hi, hne⟩ := st; ⟨⟨old, k e (by simp) _ he⟩, hi.at fun o q => k it (by simp) o q, hne⟩
  item := by
    intro X hP hw hK hc i pins s σ H E I hf st hg
    subst hP hw hK
    obtain ⟨⟨old, he⟩, hit, hne⟩ := st
    obtain ⟨xs, x, hq, hx⟩ := hg
    obtain ⟨its, rv, p, hz⟩ := I.tuple hq
    obtain ⟨u, hu, ru⟩ := rv.get hx
    have hel : e < s.heap.objs.size := Heap.lt_size he
    have hil : it < s.heap.objs.size := by obtain ⟨_, q, _⟩ := hit; exact Heap.lt_size q
    have hlt : i < its.toArray.size := by
      rw [List.size_toArray]
      exact (List.getElem?_eq_some_iff.mp hu).1
    refine wpAny_pyNext_enum_itemD (Draws.tuple (A := X.A.in1) (I.ok.hd hc) it a hai its.toArray) he ⟨hit, p⟩ hlt hne (by simp; exact ⟨hne, fun q => hae q.symm⟩) fun y h' tk hy ho hit' hT hsz hk => ?_
    have hy : y = u := by
      have h1 : its.toArray[i]? = some y := hy
      have h2 : its.toArray[i]? = some u := by simpa using hu
      rw [h2] at h1
      exact (Option.some.inj h1).symm
    subst hy
    refine ⟨_, rfl, wpAny_letOwnedTupleGo_enum (s := { s with heap := h', toks := tk + 1 }) ho fun h'' he' sb => ?_⟩
    have hT2 : h''.get? s.heap.objs.size = some { cls := .type "tuple", data := .seq #[.int i tk, y] } := (sb.2 _ (Nat.ne_of_gt hel)).trans hT
    have new : ObjOk X.prog X.w (upd H s.heap.objs.size (.tup [.int (i : Nat), x])) h'' s.heap.objs.size (.tup [.int (i : Nat), x]) :=
      ⟨by show 2 ≤ sizeLine; decide, [.int i tk, y], .cons ⟨_, rfl⟩ (.cons ru .nil), ⟨_, hT2, rfl, _, rfl⟩⟩
    have I1 : Inv X pins σ (upd H s.heap.objs.size (.tup [.int (i : Nat), x])) { s with heap := h'', toks := tk + 1 } :=
      I.turnedNew (ch := [e, it]) (fun b ob hb q => (sb.2 b (fun z => hb (by simp [z]))).trans (hk b ob (fun z => hb (by simp [z])) (fun z => hb (by simp [z])) q)) hf (Nat.le_refl _) new
    refine ⟨.ref s.heap.objs.size, _, I1, rfl, ⟨_, x, rfl, I.hok.fresh (Nat.le_refl _), rfl, fun ys hy => by rw [I.tuple_inj hy hq]; exact hx⟩, ⟨⟨y, ?_⟩, hit'.1.at fun o q => (sb.2 it (Ne.symm hne)).trans q, hne⟩, fun b hb => ?_⟩
    · have e1 : ((i + 1 : Nat) : Int) = (i : Int) + 1 := by omega
      rw [e1]; exact he'
    · have hb' : b < s.heap.objs.size := by
        have e' : b = e ∨ b = it := by simpa using hb
        rcases e' with z | z
        · rw [z]; exact hel
        · rw [z]; exact hil
      rw [upd_ne (Nat.ne_of_lt hb')]
      exact (hf b hb).1
  done := by
    intro X hP hw hK hc i pins s σ H E I hf st hg
    subst hP hw hK
    obtain ⟨⟨old, he⟩, hit, hne⟩ := st
    obtain ⟨xs, hq, hx⟩ := hg
    obtain ⟨its, rv, p, hz⟩ := I.tuple hq
    obtain ⟨f0, f1, f2, f3, f4, f5⟩ := hf it (by simp)
    have hl := rv.length
    have hs : its.toArray.size = i := by rw [List.size_toArray]; omega
    exact wpAny_pyNext_enum_endD (Draws.tuple (A := X.A.in1) (I.ok.hd hc) it a hai its.toArray) he (by rw [hs]; exact ⟨hit, p⟩) fun h' eb => ⟨rfl, I.turned (t' := s.toks) (fun b o hb q => eb b o hb q) f0 f1 f3 f4 f5⟩
  self := fun A i s Q E st h => let ⟨⟨_, he⟩, _⟩ := st; wpAny_pyIter_enum he h
def iEnumT (K : PySem.W.Frag) (ta : TA) : TI := fun σ H R => ta σ H fun vs H1 => ∃ a xs, vs = [.ref a] ∧ SqT K H1 a xs ∧ R (IteT K a) H1
theorem pi_enumT {X : Cx} {e : Expr} {ta : TA} {p pos tpos : Pos} {elts : List Expr} {kk : Nat} (hg : Gl X "enumerate") (hm : X.mg "enumerate" = none) (ha : PA X [e] ta) (hs : starEach [e] X.env = [(false, eval e X.env)] := by rfl) :
    PI X (.Tuple elts kk tpos) (.Call (.Name "enumerate" p) [e] [] pos) (iEnumT X.K ta) := by
  refine ⟨fun pins s σ H R I h => ?_⟩
  refine Call_ (ld_blt I hg hm boot_enumerate (PyProof.Rows.callWith_type1 (thn (ha.run pos pins s σ H _ I h) fun us s1 ⟨vs, H1, I1, r1, q1⟩ => ?_) hs rfl))
  obtain ⟨a, xs, ex, hq, q⟩ := q1
  subst ex
  cases r1 with
  | cons r rr =>
    cases rr
    cases r
    obtain ⟨its, rv, p', hz⟩ := I1.tuple hq
    have hlt : a < s1.heap.objs.size := p'.lt
    refine call_enumerate_tuple p' fun h' he hit hsz hk => wpAny_pyIter_enum he ?_
    have I2 : Inv X pins σ H1 { s1 with heap := h' } := I1.kept (t' := s1.toks) hk
    refine ⟨s1.heap.objs.size + 1, [s1.heap.objs.size + 1, s1.heap.objs.size], _, _, H1, rfl, I2, turn_enumT a (s1.heap.objs.size + 1) s1.heap.objs.size (Nat.ne_of_lt hlt) (Nat.ne_of_lt (Nat.lt_succ_of_lt hlt)), ⟨⟨.none, he⟩, hit, Nat.succ_ne_self _⟩, fun b hb => ?_, q⟩
    have e' : b = s1.heap.objs.size + 1 ∨ b = s1.heap.objs.size := by simpa using hb
    have hle : s1.heap.objs.size ≤ b := by
      rcases e' with z | z
      · rw [z]; exact Nat.le_add_right _ _
      · rw [z]; exact Nat.le_refl _
    exact I1.fpOk hle (I1.hok.fresh hle)

section
variable {X : Cx} {cl : Clz} {Wx : WX} {e a b : Expr} {pos : Pos}
/-- enumerate(e) -/
def numbered (i : Nat) : List W → List W
  | [] => []
  | w :: ws => .tup [.int (i : Nat), w] :: numbered (i + 1) ws
theorem numbered_len : ∀ (i : Nat) (ws : List W), (numbered i ws).length = ws.length
  | _, [] => rfl
  | i, _ :: ws => by rw [numbered, List.length_cons, List.length_cons, numbered_len]
theorem numbered_get : ∀ (j i : Nat) (ws : List W) (w : W), (numbered j ws)[i]? = some w → ∃ u, ws[i]? = some u ∧ w = .tup [.int ((j + i : Nat) : Int), u]
  | _, _, [], _, h => by simp [numbered] at h
  | j, 0, u :: ws, w, h => by simp [numbered] at h; exact ⟨u, rfl, by simpa using h.symm⟩
  | j, i + 1, u :: ws, w, h => by
    rw [numbered, List.getElem?_cons_succ] at h
    obtain ⟨v, h1, h2⟩ := numbered_get (j + 1) i ws w h
    exact ⟨v, by simpa using h1, by rw [h2]; congr 3; omega⟩
def iEnumW (f : DE) : DA := fun r m => (f r m).bind fun w m1 => match w with
  | .tup xs => .ok (numbered 0 xs) m1
  | .lst xs => .ok (numbered 0 xs) m1
  | .old xs => .ok (numbered 0 xs) m1
  | _ => .bad
theorem walks_eT {K : PySem.W.Frag} {z : Zn} {H : Hp} {ws : List W} {vs : List V} {p : Addr} (hl : vs.length ≤ sizeLine) (h : SqT K H p vs) (q : RWs K z H ws vs) : Walks K z H (numbered 0 ws) (IteT K p) := ⟨by rw [numbered_len, ← q.length]; exact hl, fun z2 H2 e i => by
  have h2 := e.sqT h
  have q2 := RWs.ext0 e q
  rw [numbered_len]
  refine ⟨fun hi => ⟨vs, h2, by rw [q.length]; exact hi.symm⟩, fun w hw => ?_⟩
  obtain ⟨u, e1, e2⟩ := numbered_get 0 i ws w hw
  obtain ⟨v, e3, e4⟩ := q2.get e1
  refine ⟨⟨vs, v, h2, e3⟩, fun x H3 y => ?_⟩
  obtain ⟨T, x', y1, y2, y3, y4⟩ := y
  subst y1 y3
  have hv := y4 vs h2
  rw [e3] at hv
  cases hv
  refine ⟨upd_same_of y2, fun z3 e5 => ?_⟩
  rw [e2]
  refine ⟨T, _, rfl, SqT.of upd_same, ⟨_, _, rfl, ?_, _, _, rfl, e4.ext0 e5, rfl⟩⟩
  show V.int _ = V.int _
  congr 1
  omega⟩
theorem walks_eL {K : PySem.W.Frag} {z : Zn} {H : Hp} {ws : List W} {vs : List V} {p : Addr} (hl : vs.length ≤ sizeLine) (h : ∀ z2 H2, Ext0 z H z2 H2 → SqL K H2 p vs) (q : RWs K z H ws vs) : Walks K z H (numbered 0 ws) (Ite K p) := ⟨by rw [numbered_len, ← q.length]; exact hl, fun z2 H2 e i => by
  have h2 := h z2 H2 e
  have q2 := RWs.ext0 e q
  rw [numbered_len]
  refine ⟨fun hi => ⟨vs, h2, by rw [q.length]; exact Nat.le_of_eq hi.symm⟩, fun w hw => ?_⟩
  obtain ⟨u, e1, e2⟩ := numbered_get 0 i ws w hw
  obtain ⟨v, e3, e4⟩ := q2.get e1
  refine ⟨⟨vs, v, h2, e3⟩, fun x H3 y => ?_⟩
  obtain ⟨T, x', y1, y2, y3, y4⟩ := y
  subst y1 y3
  have hv := y4 vs h2
  rw [e3] at hv
  cases hv
  refine ⟨upd_same_of y2, fun z3 e5 => ?_⟩
  rw [e2]
  refine ⟨T, _, rfl, SqT.of upd_same, ⟨_, _, rfl, ?_, _, _, rfl, e4.ext0 e5, rfl⟩⟩
  show V.int _ = V.int _
  congr 1
  omega⟩
theorem si_enum {elts : List Expr} {kk : Nat} {tpos p : Pos} {f : DE} (hm : X.mg "enumerate" = none) (h : PE X e (tE (gx X cl Wx) f)) (hg : Gl X "enumerate" := by rfl) (hs : starEach [e] X.env = (false, eval e X.env) :: starEach [] X.env := by rfl) :
    PI X (.Tuple elts kk tpos) (.Call (.Name "enumerate" p) [e] [] pos) (tI (gx X cl Wx) (iEnumW f)) := by
  have hs' : starEach [e] X.env = [(false, eval e X.env)] := hs
  refine ⟨fun pins sh s H Rr I h0 => ?_⟩
  obtain ⟨r, m, z, R, P⟩ := h0
  cases q : f r m with
  | ok w m1 =>
    unfold iEnumW at P
    rw [q] at P
    cases w with
    | tup ws =>
      refine (pi_inv (pi_enumT hg hm (pa_cons h pa_nil hs) hs')).run pins sh s H Rr I ⟨r, m, z, R, ?_⟩
      rw [q]
      intro z' b H' e1 R1 ⟨p, vs, a1, a2, a3⟩
      exact ⟨p, vs, by rw [a1], a2, fun ⟨_, _, I1⟩ => P z' _ H' e1 R1 (walks_eT (let ⟨_, _, _, hz⟩ := I1.tuple a2; hz) a2 a3)⟩
    | lst ws =>
      refine (pi_inv (pi_enum hg hm (pa_cons h pa_nil hs) hs')).run pins sh s H Rr I ⟨r, m, z, R, ?_⟩
      rw [q]
      intro z' b H' e1 R1 ⟨p, vs, a1, a2, a3⟩
      exact ⟨p, vs, by rw [a1], SqL.of a2.2, fun ⟨_, _, I1⟩ => P z' _ H' e1 R1 (walks_eL (let ⟨_, _, _, hz⟩ := I1.list (SqL.of a2.2); hz) (fun z2 H2 e2 => SqL.of ((e2.zs p a2.1).2.trans a2.2)) a3)⟩
    | old ws =>
      refine (pi_inv (pi_enum hg hm (pa_cons h pa_nil hs) hs')).run pins sh s H Rr I ⟨r, m, z, R, ?_⟩
      rw [q]
      intro z' b H' e1 R1 ⟨p, vs, a1, a2, a3⟩
      exact ⟨p, vs, by rw [a1], a2.sq, fun ⟨_, _, I1⟩ => P z' _ H' e1 R1 (walks_eL (let ⟨_, _, _, hz⟩ := I1.list a2.sq; hz) (fun z2 H2 e2 => (e2.oldL a2).sq) a3)⟩
    | _ => exact P.elim
  | exc x m1 =>
    unfold iEnumW at P
    rw [q] at P
    refine (pi_enumT hg hm (pa_cons h pa_nil hs) hs').run pins sh s H Rr I ⟨r, m, z, R, ?_⟩
    rw [q]
    exact P
  | bad =>
    unfold iEnumW at P
    rw [q] at P
    exact P.elim
/-- zip(a, b), two tuples or two settled lists -/
def pairsW : List W → List W → List W
  | x :: xs, y :: ys => .tup [x, y] :: pairsW xs ys
  | _, _ => []
theorem pairsW_get : ∀ (xs ys : List W) (i : Nat) (w : W), (pairsW xs ys)[i]? = some w → ∃ u v, xs[i]? = some u ∧ ys[i]? = some v ∧ w = .tup [u, v]
  | [], _, _, _, h => by simp [pairsW] at h
  | _ :: _, [], _, _, h => by simp [pairsW] at h
  | x :: xs, y :: ys, 0, w, h => by simp [pairsW] at h; exact ⟨x, y, rfl, rfl, h.symm⟩
  | x :: xs, y :: ys, i + 1, w, h => by
    rw [pairsW, List.getElem?_cons_succ] at h
    obtain ⟨u, v, h1, h2, h3⟩ := pairsW_get xs ys i w h
    exact ⟨u, v, by simpa using h1, by simpa using h2, h3⟩
theorem pairsW_len : ∀ (xs ys : List W), (pairsW xs ys).length = min xs.length ys.length
  | [], _ => by simp [pairsW]
  | _ :: _, [] => by simp [pairsW]
  | _ :: xs, _ :: ys => by rw [pairsW, List.length_cons, pairsW_len, List.length_cons, List.length_cons]; omega
def iZipW (fa fb : DE) : DA := fun r m => (fa r m).bind fun u m1 => (fb r m1).bind fun v m2 => match u, v with
  | .tup xs, .tup ys => .ok (pairsW xs ys) m2
  | .lst xs, .lst ys => .ok (pairsW xs ys) m2
  | _, _ => .bad
theorem si_zip {elts : List Expr} {kk : Nat} {tpos p : Pos} {fa fb : DE} (hm : X.mg "zip" = none) (ha : PE X a (tE (gx X cl Wx) fa)) (hb : PE X b (tE (gx X cl Wx) fb)) (hg : Gl X "zip" := by rfl) (hs : starEach [a, b] X.env = (false, eval a X.env) :: starEach [b] X.env := by rfl) (hs2 : starEach [b] X.env = (false, eval b X.env) :: starEach [] X.env := by rfl) (hpl : (backTo pos (starEach [b] X.env)).any (·.1) = false := by rfl) :
    PI X (.Tuple elts kk tpos) (.Call (.Name "zip" p) [a, b] [] pos) (tI (gx X cl Wx) (iZipW fa fb)) :=
  (pi_inv (RZ.pi_zipA hg hm (pa_cons ha (pa_cons hb pa_nil hs2) hs) hs hpl)).imp fun s H Rr ⟨r, m, z, R, P⟩ => by
    refine ⟨r, m, z, R, P.bind fun z1 u m1 x H1 E1 R1 r1 P1 => ?_⟩
    refine ⟨r, m1, z1, R1, P1.bind fun z2 v m2 y H2 E2 R2 r2 P2 => ?_⟩
    replace r1 := RW.ext E2 r1
    split at P2
    · rename_i xs ys
      obtain ⟨p, vs, a1, a2, a3⟩ := r1
      obtain ⟨p2, us, b1, b2, b3⟩ := r2
      refine ⟨p, p2, vs, us, by rw [a1, b1], .inr ⟨a2, b2, fun ⟨_, _, I1⟩ => P2 z2 _ H2 (Ext.refl _ _) R2 ⟨?_, fun z3 H3 e3 i => ?_⟩⟩⟩
      · obtain ⟨_, _, _, hz⟩ := I1.tuple a2
        rw [pairsW_len, ← a3.length]
        exact Nat.le_trans (Nat.min_le_left _ _) hz
      · have h3 := e3.sqT a2
        have h4 := e3.sqT b2
        refine ⟨fun hi => ⟨vs, us, h3, h4, ?_⟩, fun w hw => ?_⟩
        · rw [pairsW_len, ← a3.length, ← b3.length] at hi
          omega
        · obtain ⟨u1, u2, g1, g2, g3⟩ := pairsW_get xs ys i w hw
          obtain ⟨w1, k1, k2⟩ := (RWs.ext0 e3 a3).get g1
          obtain ⟨w2, k3, k4⟩ := (RWs.ext0 e3 b3).get g2
          refine ⟨⟨vs, us, w1, w2, h3, h4, k1, k3⟩, fun x' H4 y' => ?_⟩
          obtain ⟨T, x1, x2, y1, y2, y3, y4, y5⟩ := y'
          subst y1 y3
          have q1 := y4 vs h3
          have q2 := y5 us h4
          rw [k1] at q1
          rw [k3] at q2
          cases q1
          cases q2
          refine ⟨upd_same_of y2, fun z4 e5 => ?_⟩
          rw [g3]
          exact ⟨T, _, rfl, SqT.of upd_same, ⟨_, _, rfl, k2.ext0 e5, _, _, rfl, k4.ext0 e5, rfl⟩⟩
    · rename_i xs ys
      obtain ⟨p, vs, a1, a2, a3⟩ := r1
      obtain ⟨p2, us, b1, b2, b3⟩ := r2
      refine ⟨p, p2, vs, us, by rw [a1, b1], .inl ⟨SqL.of a2.2, SqL.of b2.2, fun ⟨_, _, I1⟩ => P2 z2 _ H2 (Ext.refl _ _) R2 ⟨?_, fun z3 H3 e3 i => ?_⟩⟩⟩
      · obtain ⟨_, _, _, hz⟩ := I1.list (SqL.of a2.2)
        rw [pairsW_len, ← a3.length]
        exact Nat.le_trans (Nat.min_le_left _ _) hz
      · have h3 : SqL X.K H3 p vs := SqL.of ((e3.zs p a2.1).2.trans a2.2)
        have h4 : SqL X.K H3 p2 us := SqL.of ((e3.zs p2 b2.1).2.trans b2.2)
        refine ⟨fun hi => ⟨vs, us, h3, h4, ?_⟩, fun w hw => ?_⟩
        · rw [pairsW_len, ← a3.length, ← b3.length] at hi
          omega
        · obtain ⟨u1, u2, g1, g2, g3⟩ := pairsW_get xs ys i w hw
          obtain ⟨w1, k1, k2⟩ := (RWs.ext0 e3 a3).get g1
          obtain ⟨w2, k3, k4⟩ := (RWs.ext0 e3 b3).get g2
          refine ⟨⟨vs, us, w1, w2, h3, h4, k1, k3⟩, fun x' H4 y' => ?_⟩
          obtain ⟨T, x1, x2, y1, y2, y3, y4, y5⟩ := y'
          subst y1 y3
          have q1 := y4 vs h3
          have q2 := y5 us h4
          rw [k1] at q1
          rw [k3] at q2
          cases q1
          cases q2
          refine ⟨upd_same_of y2, fun z4 e5 => ?_⟩
          rw [g3]
          exact ⟨T, _, rfl, SqT.of upd_same, ⟨_, _, rfl, k2.ext0 e5, _, _, rfl, k4.ext0 e5, rfl⟩⟩
    · exact P2.elim
end
end Dn

/-! D9: list comprehensions with two clauses. -/
namespace Dn
open PySem PySem.Spec PyProof.Rows L2
def chkL (xs : List W) (m : Mem) : R (List W) := if xs.length ≤ 16777216 then .ok xs m else .bad
def compL2 (t : DG) (c : DT) (src1 : DA) (t1 : DG) (c1 : DT) (f : DE) (vs vs1 : List Nat) : List W → Rho → Mem → R (List W)
  | [], _, m => .ok [] m
  | w :: ws, r, m => match t w (wipeR r vs) with
    | none => .bad
    | some r1 => match c r1 m with
      | .ok true m1 => match src1 r1 m1 with
        | .ok us m2 => (compL t1 c1 f vs1 us r1 m2).bind fun ys m3 => (compL2 t c src1 t1 c1 f vs vs1 ws r m3).bind fun zs m4 => .ok (ys ++ zs) m4
        | _ => .bad
      | .ok false m1 => compL2 t c src1 t1 c1 f vs vs1 ws r m1
      | _ => .bad
def aComp2 (src : DA) (t : DG) (c : DT) (src1 : DA) (t1 : DG) (c1 : DT) (f : DE) (vs vs1 : List Nat) : DA := fun r m => (src r m).bind fun ws m1 => (compL2 t c src1 t1 c1 f vs vs1 ws r m1).bind chkL
section
variable {t t1 : DG} {c c1 : DT} {src1 : DA} {f : DE} {vs vs1 : List Nat}
theorem compL_calm : ∀ (ws : List W) (r : Rho) (m : Mem), compL t c f vs ws r m = .bad ∨ ∃ ys m', compL t c f vs ws r m = .ok ys m'
  | [], r, m => .inr ⟨[], m, rfl⟩
  | w :: ws, r, m => by
    simp only [compL]
    split
    · exact .inl rfl
    · split
      · split
        · rename_i y m2 _
          rcases compL_calm ws r m2 with h | ⟨ys, m', h⟩
          · rw [h]; exact .inl rfl
          · rw [h]; exact .inr ⟨_, _, rfl⟩
        · exact .inl rfl
      · exact compL_calm ws r _
      · exact .inl rfl
theorem compL2_calm : ∀ (ws : List W) (r : Rho) (m : Mem), compL2 t c src1 t1 c1 f vs vs1 ws r m = .bad ∨ ∃ ys m', compL2 t c src1 t1 c1 f vs vs1 ws r m = .ok ys m'
  | [], r, m => .inr ⟨[], m, rfl⟩
  | w :: ws, r, m => by
    simp only [compL2]
    split
    · exact .inl rfl
    · split
      · split
        · rename_i us m2 _
          rcases compL_calm (t := t1) (c := c1) (f := f) (vs := vs1) us _ m2 with h | ⟨ys, m', h⟩
          · rw [h]; exact .inl rfl
          · rw [h]
            simp only [Dn.R.bind]
            rcases compL2_calm ws r m' with h2 | ⟨zs, m4, h2⟩
            · rw [h2]; exact .inl rfl
            · rw [h2]; exact .inr ⟨_, _, rfl⟩
        · exact .inl rfl
      · exact compL2_calm ws r _
      · exact .inl rfl
end
section
variable {g : Gx} {src : DA} {t t1 : DG} {js js1 vs vs1 : List Nat} {c c1 : DT} {src1 : DA} {f : DE} {s : L2.St} {H : Hp} {Q : VK}
theorem tLc2_of (hj : ∀ i ∈ js, i ∈ vs) (hj1 : ∀ i ∈ js1, i ∈ vs1) (h : tN g (aComp2 src t c src1 t1 c1 f vs vs1) s H Q) :
    tLc2 (tI g src) (tGt g.K g.cl js t) (tT ⟨g.K, g.cl, noW⟩ c) (tI ⟨g.K, g.cl, noW⟩ src1) (tGt g.K g.cl js1 t1) (tT ⟨g.K, g.cl, noW⟩ c1) (tE ⟨g.K, g.cl, noW⟩ f) vs vs1 s H Q := by
  obtain ⟨r, m, z, Rl, P⟩ := h
  refine ⟨r, m, z, Rl, P.bind (rel := Walks g.K) fun z1 ws m1 J H1 E1 R1 r1 P1 D hD => ?_⟩
  have nz := R1.mem.z_ne hD
  have nh := R1.mem.h_ne hD
  have np := R1.mem.p_ne hD
  have hs1 := upd_same_of (o := .lst []) hD
  -- what is left behind i items, as being made so far
  let K2 : Nat → List W → Mem → R (List W) := fun i as m' => (compL2 t c src1 t1 c1 f vs vs1 (ws.drop i) r m').bind fun ys m3 => chkL (as ++ ys) m3
  have K2len : ∀ i as m', K2 i as m' = .bad ∨ ∃ xs m3, K2 i as m' = .ok xs m3 ∧ as.length ≤ 16777216 := fun i as m' => by
    show ((compL2 t c src1 t1 c1 f vs vs1 (ws.drop i) r m').bind fun ys m3 => chkL (as ++ ys) m3) = .bad ∨ ∃ xs m3, ((compL2 t c src1 t1 c1 f vs vs1 (ws.drop i) r m').bind fun ys m3 => chkL (as ++ ys) m3) = .ok xs m3 ∧ as.length ≤ 16777216
    rcases compL2_calm (t := t) (c := c) (src1 := src1) (t1 := t1) (c1 := c1) (f := f) (vs := vs) (vs1 := vs1) (ws.drop i) r m' with q | ⟨ys, m3, q⟩
    · rw [q]; exact .inl rfl
    · rw [q]
      simp only [Dn.R.bind, chkL]
      by_cases hl : (as ++ ys).length ≤ 16777216
      · rw [if_pos hl]
        exact .inr ⟨_, _, rfl, by rw [List.length_append] at hl; omega⟩
      · rw [if_neg hl]; exact .inl rfl
  let Iv : Nat → List W → Hp → Mem → Zn → List V → Prop := fun i as H' m' z' acc => Rel g.K g.cl z' r m' s H' ∧ Ext z1 H1 z' H' ∧ (¬ z'.Z D ∧ ¬ z'.hold D ∧ D ∉ z'.phi) ∧ H' D = some (.lst acc) ∧ RWs g.K z' H' as acc ∧ Post g (relNew g.K) z' H' r s (K2 i as m') Q
  refine ⟨fun i k H' => k = ws.length - i ∧ i ≤ ws.length ∧ ∃ m' z' as acc, Iv i as H' m' z' acc, ⟨ws.length, by simp, Nat.zero_le _, m1, z1, [], [], R1.same hs1, R1.mem.extS hs1, ⟨nz, nh, np⟩, upd_same, rfl, ?_⟩, ?_⟩
  · refine Post.mono (R1.mem.extS hs1) ?_
    have e : K2 0 [] m1 = (compL2 t c src1 t1 c1 f vs vs1 ws r m1).bind chkL := by
      show ((compL2 t c src1 t1 c1 f vs vs1 (ws.drop 0) r m1).bind fun ys m3 => chkL ([] ++ ys) m3) = _
      rw [List.drop_zero]
      cases compL2 t c src1 t1 c1 f vs vs1 ws r m1 <;> rfl
    rw [e]
    exact P1
  · rintro i k H2 ⟨rfl, hi2, m2, z2, as, acc, R2, E2, ⟨y1, y2, y3⟩, hD2, ra, P2⟩
    obtain ⟨hstop, hgo⟩ := r1.2 z2 H2 E2.e0 i
    by_cases hlt : i < ws.length
    · obtain ⟨g1, g2⟩ := hgo ws[i] (List.getElem?_eq_getElem hlt)
      have P2 : Post g (relNew g.K) z2 H2 r s ((compL2 t c src1 t1 c1 f vs vs1 (ws.drop i) r m2).bind fun ys m3 => chkL (as ++ ys) m3) Q := P2
      rw [List.drop_eq_getElem_cons hlt] at P2
      refine .inr ⟨g1, fun H' => ∃ m' z' as acc, Iv (i + 1) as H' m' z' acc, fun H' h => ⟨ws.length - (i + 1), by omega, rfl, hlt, h⟩, fun x H3 y => ?_⟩
      obtain ⟨sm, q3⟩ := g2 x H3 y
      have E3 := R2.mem.extS sm
      have R3 := R2.same sm
      have hD3 : H3 D = some (.lst acc) := sm _ _ hD2
      obtain ⟨M4, E4⟩ := R3.mem.hold hD3 y1 y3
      have R4 : Rel g.K g.cl (z2.hd D) (wipeR r vs) m2 (wipe s vs) H3 := ⟨wipe_ok (R3.slots.ext E4) vs, M4⟩
      refine ⟨ws[i], wipeR r vs, m2, z2.hd D, R4, (q3 z2 E3.e0).ext E4, ?_⟩
      simp only [compL2] at P2
      cases q4 : t ws[i] (wipeR r vs) with
      | none => rw [q4] at P2; exact P2.elim
      | some r4 =>
        rw [q4] at P2
        simp only at P2
        refine fun s4 R4' ag => ⟨wipe_agree ag hj, r4, m2, z2.hd D, R4', ?_⟩
        -- z5 holds D, whose list is whatever it is; all else goes on from z2
        let Go : Zn → Hp → Prop := fun z5 H5 => Ext0 z2 H2 z5 H5 ∧ (∀ a, z2.hold a → z5.hold a ∧ H5 a = H2 a) ∧ z5.hold D
        have go4 : Go (z2.hd D) H3 := ⟨(E3.trans E4).e0, (E3.trans E4).hs, .inl rfl⟩
        have goE : ∀ {z5 z6 : Zn} {H5 H6 : Hp}, Go z5 H5 → Ext z5 H5 z6 H6 → Go z6 H6 := fun {z5 z6 H5 H6} a b => ⟨a.1.trans b.e0, fun d hd => ⟨(b.hs d (a.2.1 d hd).1).1, (b.hs d (a.2.1 d hd).1).2.trans (a.2.1 d hd).2⟩, (b.hs D a.2.2).1⟩
        have hne : ∀ a, z2.hold a → a ≠ D := fun a ha q => by rw [q] at ha; exact y2 ha
        -- D grows while it is held
        have grow : ∀ {z5 : Zn} {H5 : Hp} {m5 : Mem} {r5 : Rho} {s5 : L2.St} {old : List V} (new : List V), Go z5 H5 → H5 D = some (.lst old) → Rel g.K g.cl z5 r5 m5 s5 H5 → Go z5 (upd H5 D (.lst new)) ∧ Ext0 z5 H5 z5 (upd H5 D (.lst new)) ∧ Rel g.K g.cl z5 r5 m5 s5 (upd H5 D (.lst new)) := by
          intro z5 H5 m5 r5 s5 old new go5 h5 R5
          obtain ⟨M6, e6, n6, p6⟩ := R5.mem.unhold (o' := .lst new) go5.2.2 h5
          have e7 : Ext0 z5 H5 z5 (upd H5 D (.lst new)) := ⟨e6.tups, e6.frzs, e6.zs, e6.ph, e6.xts⟩
          obtain ⟨M8, _⟩ := M6.hold (p := D) upd_same n6 p6
          have hz : ((z5.un D).hd D) = z5 := by
            show Zn.mk _ _ _ = z5
            have : (fun a => a = D ∨ a ≠ D ∧ z5.hold a) = z5.hold := by
              funext a
              refine propext ⟨?_, fun h => ?_⟩
              · rintro (q | q)
                · rw [q]; exact go5.2.2
                · exact q.2
              · by_cases ha : a = D
                · exact .inl ha
                · exact .inr ⟨ha, h⟩
            rw [this]
          rw [hz] at M8
          refine ⟨⟨go5.1.trans e7, fun a ha => ⟨(go5.2.1 a ha).1, by rw [upd_ne (hne a ha)]; exact (go5.2.1 a ha).2⟩, go5.2.2⟩, e7, R5.slots.ext0 e7, M8⟩
        have done : ∀ {z5 : Zn} {H5 : Hp} {m5 : Mem} {r5 : Rho} {s5 : L2.St} {acc' : List V} {as' : List W}, Go z5 H5 → H5 D = some (.lst acc') → Rel g.K g.cl z5 r5 m5 s5 H5 → RWs g.K z5 H5 as' acc' → Post g (relNew g.K) z2 H2 r s (K2 (i + 1) as' m5) Q →
            ∃ m' z' as acc, Iv (i + 1) as H5 m' z' acc := by
          intro z5 H5 m5 r5 s5 acc' as' go5 h5 R5 ra' P5
          obtain ⟨M6, e6, n6, p6⟩ := R5.mem.unhold (o' := .lst acc') go5.2.2 h5
          have hid : upd H5 D (.lst acc') = H5 := by
            funext a
            by_cases ha : a = D
            · rw [ha, upd_same, h5]
            · exact upd_ne ha
          rw [hid] at M6 e6
          have e26 : Ext z2 H2 (z5.un D) H5 := ⟨go5.1.trans e6, fun a ha => ⟨⟨hne a ha, (go5.2.1 a ha).1⟩, (go5.2.1 a ha).2⟩⟩
          exact ⟨m5, z5.un D, as', acc', ⟨R2.slots.ext e26, M6⟩, E2.trans e26, ⟨n6, fun q => q.1 rfl, p6⟩, h5, RWs.ext0 e6 ra', Post.mono e26 P5⟩
        cases q5 : c r4 m2 with
        | ok b m5 =>
          rw [q5] at P2
          intro z5 b' H5 e5 R5 rb
          have rb : b = b' := rb
          subst rb
          have go5 := goE go4 e5
          have hx5 : H5 D = some (.lst acc) := (e5.hs D (.inl rfl)).2.trans hD3
          have ra5 : RWs g.K z5 H5 as acc := RWs.ext0 go5.1 ra
          cases b with
          | true =>
            simp only at P2
            rw [if_pos rfl]
            refine ⟨r4, m5, z5, R5, ?_⟩
            cases q6 : src1 r4 m5 with
            | ok us m6 =>
              rw [q6] at P2
              simp only at P2
              intro z6 J1 H6 e6 R6 wk
              have go6 := goE go5 e6
              have hx6 : H6 D = some (.lst acc) := (e6.hs D go5.2.2).2.trans hx5
              have ra6 : RWs g.K z6 H6 as acc := RWs.ext0 go6.1 ra
              -- the inner walk
              have P6 : Post g (relNew g.K) z2 H2 r s ((compL t1 c1 f vs1 (us.drop 0) r4 m6).bind fun ys m3 => K2 (i + 1) (as ++ ys) m3) Q := by
                rw [List.drop_zero]
                have e7 : ((compL t1 c1 f vs1 us r4 m6).bind fun ys m3 => K2 (i + 1) (as ++ ys) m3) = (((compL t1 c1 f vs1 us r4 m6).bind fun ys m3 => (compL2 t c src1 t1 c1 f vs vs1 (ws.drop (i + 1)) r m3).bind fun zs m4 => .ok (ys ++ zs) m4).bind fun ys m3 => chkL (as ++ ys) m3) := by
                  cases compL t1 c1 f vs1 us r4 m6 with
                  | ok ys m7 =>
                    show ((compL2 t c src1 t1 c1 f vs vs1 (ws.drop (i + 1)) r m7).bind fun zs m3 => chkL (as ++ ys ++ zs) m3) = _
                    simp only [Dn.R.bind]
                    cases compL2 t c src1 t1 c1 f vs vs1 (ws.drop (i + 1)) r m7 with
                    | ok zs m8 => simp only [List.append_assoc]
                    | exc x m8 => rfl
                    | bad => rfl
                  | exc x m7 => rfl
                  | bad => rfl
                rw [e7]
                exact P2
              refine ⟨fun j k H' => k = us.length - j ∧ j ≤ us.length ∧ ∃ m' z' as' acc', Go z' H' ∧ H' D = some (.lst acc') ∧ Rel g.K g.cl z' r4 m' s4 H' ∧ Ext0 z6 H6 z' H' ∧ RWs g.K z' H' as' acc' ∧
                Post g (relNew g.K) z2 H2 r s ((compL t1 c1 f vs1 (us.drop j) r4 m').bind fun ys m3 => K2 (i + 1) (as' ++ ys) m3) Q, ⟨us.length, by simp, Nat.zero_le _, m6, z6, as, acc, go6, hx6, R6, Ext0.refl _ _, ra6, P6⟩, ?_⟩
              rintro j k H7 ⟨rfl, hj2, m7, z7, as7, acc7, go7, hx7, R7, E7, ra7, P7⟩
              obtain ⟨hstop1, hgo1⟩ := wk.2 z7 H7 E7 j
              by_cases hlt1 : j < us.length
              · obtain ⟨k1, k2⟩ := hgo1 us[j] (List.getElem?_eq_getElem hlt1)
                rw [List.drop_eq_getElem_cons hlt1] at P7
                refine .inr ⟨k1, fun H' => ∃ m' z' as' acc', Go z' H' ∧ H' D = some (.lst acc') ∧ Rel g.K g.cl z' r4 m' s4 H' ∧ Ext0 z6 H6 z' H' ∧ RWs g.K z' H' as' acc' ∧
                  Post g (relNew g.K) z2 H2 r s ((compL t1 c1 f vs1 (us.drop (j + 1)) r4 m').bind fun ys m3 => K2 (i + 1) (as' ++ ys) m3) Q, fun H' h => ⟨us.length - (j + 1), by omega, rfl, hlt1, h⟩, fun x1 H8 yy => ?_⟩
                obtain ⟨sm8, q8⟩ := k2 x1 H8 yy
                have E8 := R7.mem.extS sm8
                have R8 := R7.same sm8
                have go8 := goE go7 E8
                have hx8 : H8 D = some (.lst acc7) := sm8 _ _ hx7
                have R8' : Rel g.K g.cl z7 (wipeR r4 vs1) m7 (wipe s4 vs1) H8 := ⟨wipe_ok R8.slots vs1, R8.mem⟩
                refine ⟨us[j], wipeR r4 vs1, m7, z7, R8', q8 z7 E8.e0, ?_⟩
                simp only [compL] at P7
                cases q9 : t1 us[j] (wipeR r4 vs1) with
                | none => rw [q9] at P7; exact P7.elim
                | some r9 =>
                  rw [q9] at P7
                  simp only at P7
                  refine fun s9 R9 ag9 => ⟨wipe_agree ag9 hj1, r9, m7, z7, R9, ?_⟩
                  cases q10 : c1 r9 m7 with
                  | ok b m10 =>
                    rw [q10] at P7
                    intro z10 b' H10 e10 R10 rb
                    have rb : b = b' := rb
                    subst rb
                    have go10 := goE go8 e10
                    have hx10 : H10 D = some (.lst acc7) := (e10.hs D go8.2.2).2.trans hx8
                    have E610 : Ext0 z6 H6 z10 H10 := (E7.trans E8.e0).trans e10.e0
                    have ra10 : RWs g.K z10 H10 as7 acc7 := RWs.ext0 (E8.e0.trans e10.e0) ra7
                    have R10' : Rel g.K g.cl z10 r4 m10 s4 H10 := ⟨R7.slots.ext0 (E8.e0.trans e10.e0), R10.mem⟩
                    cases b with
                    | true =>
                      simp only at P7
                      rw [if_pos rfl]
                      refine ⟨r9, m10, z10, R10, ?_⟩
                      cases q11 : f r9 m10 with
                      | ok yv m11 =>
                        rw [q11] at P7
                        simp only at P7
                        intro z11 v H11 e11 R11 rv
                        have go11 := goE go10 e11
                        have hx11 : H11 D = some (.lst acc7) := (e11.hs D go10.2.2).2.trans hx10
                        have P11 : Post g (relNew g.K) z2 H2 r s ((compL t1 c1 f vs1 (us.drop (j + 1)) r4 m11).bind fun ys m3 => K2 (i + 1) (as7 ++ [yv] ++ ys) m3) Q := by
                          have e7 : ((compL t1 c1 f vs1 (us.drop (j + 1)) r4 m11).bind fun ys m3 => K2 (i + 1) (as7 ++ [yv] ++ ys) m3) = (((compL t1 c1 f vs1 (us.drop (j + 1)) r4 m11).bind fun ys m3 => .ok (yv :: ys) m3).bind fun ys m3 => K2 (i + 1) (as7 ++ ys) m3) := by
                            cases compL t1 c1 f vs1 (us.drop (j + 1)) r4 m11 <;> simp [Dn.R.bind]
                          rw [e7]
                          exact P7
                        refine ⟨acc7, hx11, ?_, ?_⟩
                        · have hl : (as7 ++ [yv]).length ≤ 16777216 := by
                            rcases compL_calm (t := t1) (c := c1) (f := f) (vs := vs1) (us.drop (j + 1)) r4 m11 with hb | ⟨ys, m12, hb⟩
                            · rw [hb] at P11; exact P11.elim
                            · rw [hb] at P11
                              have P11 : Post g (relNew g.K) z2 H2 r s (K2 (i + 1) (as7 ++ [yv] ++ ys) m12) Q := P11
                              rcases K2len (i + 1) (as7 ++ [yv] ++ ys) m12 with hb2 | ⟨_, _, _, hb2⟩
                              · rw [hb2] at P11; exact P11.elim
                              · rw [List.length_append] at hb2; omega
                          have h2 := ra7.length
                          rw [List.length_append, List.length_singleton] at hl
                          rw [h2]
                          exact sl_lt (by omega)
                        · obtain ⟨gg, ee, RR⟩ := grow (acc7 ++ [v]) go11 hx11 R11
                          refine ⟨m11, z11, as7 ++ [yv], acc7 ++ [v], gg, upd_same, ⟨R10'.slots.ext0 (e11.e0.trans ee), RR.mem⟩, (E610.trans e11.e0).trans ee, RWs.ext0 ee ((RWs.ext e11 ra10).append (.cons rv .nil)), P11⟩
                      | exc x m11 => rw [q11] at P7; exact P7.elim
                      | bad => rw [q11] at P7; exact P7.elim
                    | false =>
                      simp only at P7
                      rw [if_neg Bool.false_ne_true]
                      exact ⟨m10, z10, as7, acc7, go10, hx10, R10', E610, ra10, P7⟩
                  | exc x m10 => rw [q10] at P7; exact P7.elim
                  | bad => rw [q10] at P7; exact P7.elim
              · have hj3 : us.length ≤ j := Nat.le_of_not_lt hlt1
                refine .inl ⟨hstop1 (Nat.le_antisymm hj2 hj3), ?_⟩
                rw [List.drop_eq_nil_of_le hj3] at P7
                have P7 : Post g (relNew g.K) z2 H2 r s (K2 (i + 1) (as7 ++ []) m7) Q := P7
                rw [List.append_nil] at P7
                exact done go7 hx7 R7 ra7 P7
            | exc x m6 => rw [q6] at P2; exact P2.elim
            | bad => rw [q6] at P2; exact P2.elim
          | false =>
            simp only at P2
            rw [if_neg Bool.false_ne_true]
            exact done go5 hx5 R5 ra5 P2
        | exc x m5 => rw [q5] at P2; exact P2.elim
        | bad => rw [q5] at P2; exact P2.elim
    · have hi3 : ws.length ≤ i := Nat.le_of_not_lt hlt
      refine .inl ⟨hstop (Nat.le_antisymm hi2 hi3), ?_⟩
      have P2 : Post g (relNew g.K) z2 H2 r s ((compL2 t c src1 t1 c1 f vs vs1 (ws.drop i) r m2).bind fun ys m3 => chkL (as ++ ys) m3) Q := P2
      rw [List.drop_eq_nil_of_le hi3] at P2
      have P2 : Post g (relNew g.K) z2 H2 r s (chkL (as ++ []) m2) Q := P2
      rw [List.append_nil] at P2
      unfold chkL at P2
      split at P2
      · exact Post.ret P2 R2 ⟨D, acc, rfl, hD2, ra, y1, y2, y3⟩
      · exact P2.elim
end
end Dn
namespace Dn
open PySem PySem.Spec PyProof.Rows L2
section
variable {X : Cx} {cl : Clz} {Wx : WX} {e a b : Expr} {pos : Pos}
theorem se_lc2 {elt tg iter tg1 iter1 : Expr} {ifs ifs1 : List Expr} {scope : Scope} {own : List (Str × Nat)} {js js1 vs1 : List Nat} {src src1 : DA} {t t1 : DG} {c c1 : DT} {f : DE} (hc : X.calm = true) (hN : X.N.Nodup) (hi : PI X tg iter (tI (gx X cl Wx) src)) (ok : BlkOk X.N X.env.scope scope own) (hj : ∀ i ∈ js, i ∈ own.map (·.2)) (hj1 : ∀ i ∈ js1, i ∈ vs1) (hv : ∀ i ∈ vs1, i ∈ own.map (·.2))
    (hg : ∀ (s : Shared) (H : Hp) (C : Addr) (cs : List (Str × Addr)) (fp : List Addr), PG (X.blk s H scope (compEnvC scope cs C X.env) fp) tg (tGt X.K cl js t))
    (ht : ∀ (s : Shared) (H : Hp) (C : Addr) (cs : List (Str × Addr)) (fp : List Addr), PTs (X.blk s H scope (compEnvC scope cs C X.env) fp) ifs (tT (gx (X.blk s H scope (compEnvC scope cs C X.env) fp) cl noW) c))
    (hi1 : ∀ (s : Shared) (H : Hp) (C : Addr) (cs : List (Str × Addr)) (fp : List Addr), PI (X.blk s H scope (compEnvC scope cs C X.env) fp) tg1 iter1 (tI (gx (X.blk s H scope (compEnvC scope cs C X.env) fp) cl noW) src1))
    (hg1 : ∀ (s : Shared) (H : Hp) (C : Addr) (cs : List (Str × Addr)) (fp : List Addr), PG (X.blk s H scope (compEnvC scope cs C X.env) fp) tg1 (tGt X.K cl js1 t1))
    (ht1 : ∀ (s : Shared) (H : Hp) (C : Addr) (cs : List (Str × Addr)) (fp : List Addr), PTs (X.blk s H scope (compEnvC scope cs C X.env) fp) ifs1 (tT (gx (X.blk s H scope (compEnvC scope cs C X.env) fp) cl noW) c1))
    (he : ∀ (s : Shared) (H : Hp) (C : Addr) (cs : List (Str × Addr)) (fp : List Addr), PE (X.blk s H scope (compEnvC scope cs C X.env) fp) elt (tE (gx (X.blk s H scope (compEnvC scope cs C X.env) fp) cl noW) f)) (hs : ∀ x, foldedSetIterable iter X.env x = pure x := by intro _; rfl) (hs1 : ∀ env x, foldedSetIterable iter1 env x = pure x := by intro _ _; rfl) :
    PE X (.ListComp elt [⟨tg, iter, ifs, 0⟩, ⟨tg1, iter1, ifs1, 0⟩] scope pos) (tN (gx X cl Wx) (aComp2 src t c src1 t1 c1 f (own.map (·.2)) vs1)) :=
  (pe_lc2 (own := own) hc hN hi ok hv hg ht hi1 hg1 ht1 he hs hs1).imp fun s H Q h => tLc2_of (g := gx X cl Wx) hj hj1 h
theorem ss_setLc2 {i : Nat} {y : Str} {py spos : Pos} {elt tg iter tg1 iter1 : Expr} {ifs ifs1 : List Expr} {scope : Scope} {own : List (Str × Nat)} {js js1 vs1 : List Nat} {src src1 : DA} {t t1 : DG} {c c1 : DT} {f : DE} (hc : X.calm = true) (hN : X.N.Nodup) (hy : X.N[i]? = some y) (hyl : X.env.scope.names.lookup y = some .local)
    (hsw : swapsWith (.ListComp elt [⟨tg, iter, ifs, 0⟩, ⟨tg1, iter1, ifs1, 0⟩] scope pos) (some (.Name y py)) spos.line X.env = pure true) (hi : PI X tg iter (tI (gx X cl Wx) src)) (ok : BlkOk X.N X.env.scope scope own) (hj : ∀ i ∈ js, i ∈ own.map (·.2)) (hj1 : ∀ i ∈ js1, i ∈ vs1) (hv : ∀ i ∈ vs1, i ∈ own.map (·.2))
    (hg : ∀ (s : Shared) (H : Hp) (C : Addr) (cs : List (Str × Addr)) (fp : List Addr), PG (X.blk s H scope (compEnvC scope cs C X.env) fp) tg (tGt X.K cl js t))
    (ht : ∀ (s : Shared) (H : Hp) (C : Addr) (cs : List (Str × Addr)) (fp : List Addr), PTs (X.blk s H scope (compEnvC scope cs C X.env) fp) ifs (tT (gx (X.blk s H scope (compEnvC scope cs C X.env) fp) cl noW) c))
    (hi1 : ∀ (s : Shared) (H : Hp) (C : Addr) (cs : List (Str × Addr)) (fp : List Addr), PI (X.blk s H scope (compEnvC scope cs C X.env) fp) tg1 iter1 (tI (gx (X.blk s H scope (compEnvC scope cs C X.env) fp) cl noW) src1))
    (hg1 : ∀ (s : Shared) (H : Hp) (C : Addr) (cs : List (Str × Addr)) (fp : List Addr), PG (X.blk s H scope (compEnvC scope cs C X.env) fp) tg1 (tGt X.K cl js1 t1))
    (ht1 : ∀ (s : Shared) (H : Hp) (C : Addr) (cs : List (Str × Addr)) (fp : List Addr), PTs (X.blk s H scope (compEnvC scope cs C X.env) fp) ifs1 (tT (gx (X.blk s H scope (compEnvC scope cs C X.env) fp) cl noW) c1))
    (he : ∀ (s : Shared) (H : Hp) (C : Addr) (cs : List (Str × Addr)) (fp : List Addr), PE (X.blk s H scope (compEnvC scope cs C X.env) fp) elt (tE (gx (X.blk s H scope (compEnvC scope cs C X.env) fp) cl noW) f)) (hs : ∀ x, foldedSetIterable iter X.env x = pure x := by intro _; rfl) (hs1 : ∀ env x, foldedSetIterable iter1 env x = pure x := by intro _ _; rfl) :
    PS X (.Assign [.Name y py] (.ListComp elt [⟨tg, iter, ifs, 0⟩, ⟨tg1, iter1, ifs1, 0⟩] scope pos) spos) (tS (gx X cl Wx) (sSet i (eFz (aComp2 src t c src1 t1 c1 f (own.map (·.2)) vs1)))) :=
  (L2.ps_setLc2 (own := own) hc hN hy hyl hsw hi ok hv hg ht hi1 hg1 ht1 he hs hs1).imp fun D s H ⟨r, m, z, R, P⟩ => by
    refine tLc2_of (g := gx X cl Wx) (c := c) (src1 := src1) (c1 := c1) (f := f) hj hj1 ⟨r, m, z, R, ?_⟩
    unfold sSet eFz at P
    cases q : aComp2 src t c src1 t1 c1 f (own.map (·.2)) vs1 r m with
    | ok ws m1 =>
      rw [q] at P
      intro z1 v H1 E1 R1 ⟨p, us, e1, e2, e3, n1, n2, n3⟩
      subst e1
      obtain ⟨e4, M⟩ := R1.mem.settle e2 n2 n3
      have R2 := R1.after e4 M
      exact P _ _ _ (E1.trans e4) ⟨R2.slots.set (w := .lst ws) ⟨p, us, rfl, ⟨.inl rfl, e2⟩, RWs.ext e4 e3⟩, R2.mem⟩
    | exc x m1 => rw [q] at P; exact fun z' H' c d e R q => P z' s H' c d e R q
    | bad => rw [q] at P; exact P
end
end Dn

/-! D10: t >= u of flat tuples of ints and texts. -/
namespace Dn
open PySem PySem.Spec PyProof.Rows L2
/-- two flat values of one kind -/
def pairOk : V → V → Bool
  | .int _, .int _ => true
  | .str _, .str _ => true
  | _, _ => false
def ge1V : V → V → Bool
  | .int i, .int j => decide (j ≤ i)
  | .str x, .str y => !decide (x.cps.toList < y.cps.toList)
  | _, _ => false
def geVs : List V → List V → Bool
  | x :: xs, y :: ys => if x = y then geVs xs ys else ge1V x y
  | [], _ :: _ => false
  | _, [] => true
def pairsOk : List V → List V → Bool
  | x :: xs, y :: ys => pairOk x y && pairsOk xs ys
  | _, _ => true
theorem lexAt_ge : ∀ (us vs : List V) (d : V) (i : Nat) (a b : List V) (ha : a.length = i) (hb : b.length = i),
    Ob.lexAt (fun j => decide ((a ++ us).getD j d = (b ++ vs).getD j d)) (fun j => ge1V ((a ++ us).getD j d) ((b ++ vs).getD j d)) (decide (us.length ≥ vs.length)) i (min us.length vs.length) = geVs us vs
  | [], [], d, i, a, b, _, _ => by simp [geVs, Ob.lexAt]
  | [], _ :: _, d, i, a, b, _, _ => by simp [geVs, Ob.lexAt]
  | _ :: _, [], d, i, a, b, _, _ => by simp [geVs, Ob.lexAt]
  | x :: us, y :: vs, d, i, a, b, ha, hb => by
    have e1 : min (x :: us).length (y :: vs).length = min us.length vs.length + 1 := by simp only [List.length_cons]; omega
    rw [e1, Ob.lexAt_succ]
    have g1 : (a ++ x :: us).getD i d = x := by subst ha; simp
    have g2 : (b ++ y :: vs).getD i d = y := by subst hb; simp
    have e2 : decide ((x :: us).length ≥ (y :: vs).length) = decide (us.length ≥ vs.length) := by simp
    have ih := lexAt_ge us vs d (i + 1) (a ++ [x]) (b ++ [y]) (by simp [ha]) (by simp [hb])
    rw [e2, g1, g2]
    simp only [List.append_assoc, List.singleton_append] at ih
    rw [geVs, ← ih]
    by_cases h : x = y
    · simp [h]
    · simp [h]
def rGeT (K : PySem.W.Frag) : R2 := fun x y H Q => ∃ (a b : Addr) (us vs : List V), x = .ref a ∧ y = .ref b ∧ SqT K H a us ∧ SqT K H b vs ∧ pairsOk us vs = true ∧ Q (.bl (geVs us vs)) H
theorem pairsOk_at : ∀ {us vs : List V} {j : Nat} {x y : V}, pairsOk us vs = true → us[j]? = some x → vs[j]? = some y → pairOk x y = true
  | [], _, _, _, _, _, h, _ => by simp at h
  | _ :: _, [], _, _, _, _, _, h => by simp at h
  | a :: us, b :: vs, 0, x, y, h, h1, h2 => by
    simp at h1 h2
    subst h1 h2
    exact (Bool.and_eq_true_iff.mp h).1
  | a :: us, b :: vs, j + 1, x, y, h, h1, h2 => pairsOk_at (us := us) (vs := vs) (j := j) (Bool.and_eq_true_iff.mp h).2 (by simpa using h1) (by simpa using h2)
theorem op_geT {X : Cx} (hu : X.A.units < cLine) : OpR X (compareOp .GtE) (rGeT X.K) := by
  intro pins s σ H x y v u Q I rx ry h
  obtain ⟨a, b, us, vs, rfl, rfl, ha, hb, hp, q⟩ := h
  cases rx
  cases ry
  obtain ⟨its, r1, p1, _⟩ := I.tuple ha
  obtain ⟨its2, r2, p2, _⟩ := I.tuple hb
  have e1 : its.toArray.size = us.length := by rw [List.size_toArray]; exact r1.length.symm
  have e2 : its2.toArray.size = vs.length := by rw [List.size_toArray]; exact r2.length.symm
  have both : ∀ j (h1 : j < its.toArray.size) (h2 : j < its2.toArray.size), ∃ x y, us.getD j .non = x ∧ vs.getD j .non = y ∧ RelV x its.toArray[j] ∧ RelV y its2.toArray[j] ∧ pairOk x y = true := fun j h1 h2 => by
    have h1' : j < us.length := by rw [← e1]; exact h1
    have h2' : j < vs.length := by rw [← e2]; exact h2
    obtain ⟨u1, g1, g2⟩ := r1.get (List.getElem?_eq_getElem h1')
    obtain ⟨u2, g3, g4⟩ := r2.get (List.getElem?_eq_getElem h2')
    have f1 : its.toArray[j] = u1 := by
      have : its.toArray[j]? = some u1 := by simpa using g1
      rw [Array.getElem?_eq_getElem h1] at this
      exact Option.some.inj this
    have f2 : its2.toArray[j] = u2 := by
      have : its2.toArray[j]? = some u2 := by simpa using g3
      rw [Array.getElem?_eq_getElem h2] at this
      exact Option.some.inj this
    refine ⟨us[j], vs[j], by simp [h1'], by simp [h2'], by rw [f1]; exact g2, by rw [f2]; exact g4, ?_⟩
    exact pairsOk_at hp (List.getElem?_eq_getElem h1') (List.getElem?_eq_getElem h2')
  have R := Ob.RcOp.tuples_ge (A := X.A) (s := s) (e := fun j => decide (([] ++ us).getD j .non = ([] ++ vs).getD j .non)) (r := fun j => ge1V (([] ++ us).getD j .non) (([] ++ vs).getD j .non)) p1 p2 hu (fun j h1 h2 => by
    obtain ⟨x, y, f1, f2, f3, f4, f5⟩ := both j h1 h2
    show SeqAt.EqAt _ _ _ _ (decide (us.getD j .non = vs.getD j .non))
    rw [f1, f2]
    cases x with
    | int i =>
      cases y with
      | int k =>
        obtain ⟨t, et⟩ := f3
        obtain ⟨t', et'⟩ := f4
        rw [et, et', dec_int]
        exact SeqAt.EqAt.int_int _ _ _ _
      | _ => cases f5
    | str i =>
      cases y with
      | str k =>
        obtain ⟨t, et⟩ := f3
        obtain ⟨t', et'⟩ := f4
        rw [et, et', dec_str]
        exact SeqAt.EqAt.str_str _ _ _ _
      | _ => cases f5
    | _ => cases f5) (fun j h1 h2 _ => by
    obtain ⟨x, y, f1, f2, f3, f4, f5⟩ := both j h1 h2
    simp only [List.nil_append]
    rw [f1, f2]
    cases x with
    | int i =>
      cases y with
      | int k =>
        obtain ⟨t, et⟩ := f3
        obtain ⟨t', et'⟩ := f4
        rw [et, et']
        exact Ob.RcOp.ge_int _ _ _ _
      | _ => cases f5
    | str i =>
      cases y with
      | str k =>
        obtain ⟨t, et⟩ := f3
        obtain ⟨t', et'⟩ := f4
        rw [et, et']
        exact fun _ _ _ _ h => PySem.P.ge_str h
      | _ => cases f5
    | _ => cases f5)
  rw [e1, e2, lexAt_ge us vs .non 0 [] [] rfl rfl] at R
  have z : wpAny (model X.prog X.w) X.A (compareOp .GtE (.ref a) (.ref b)) (EP X pins σ Q) X.xe s := R X.prog X.w X.xe (EP X pins σ Q) ⟨.bl _, H, I, rfl, q⟩
  exact z
def flatW : W → Option V
  | .int i => some (.int i)
  | .str x => some (.str x)
  | _ => none
def flatWs : List W → Option (List V)
  | [] => some []
  | w :: ws => match flatW w, flatWs ws with
    | some v, some vs => some (v :: vs)
    | _, _ => none
theorem flat_rel {K : PySem.W.Frag} {z : Zn} {H : Hp} : ∀ {ws : List W} {vs us : List V}, RWs K z H ws vs → flatWs ws = some us → vs = us
  | [], _, _, h, e => by cases h; cases e; rfl
  | w :: ws, _, us, ⟨v, r, h1, h2, h3⟩, e => by
    subst h1
    simp only [flatWs] at e
    cases q : flatW w with
    | none => rw [q] at e; cases e
    | some x =>
      cases q2 : flatWs ws with
      | none => rw [q, q2] at e; cases e
      | some xs =>
        rw [q, q2] at e
        cases e
        rw [flat_rel h3 q2]
        cases w with
        | int i => cases q; rw [show v = V.int i from h2]
        | str i => cases q; rw [show v = V.str i from h2]
        | _ => cases q
def geT (_ : Mem) (a b : W) : Option W := match a, b with
  | .tup xs, .tup ys => match flatWs xs, flatWs ys with
    | some us, some vs => if pairsOk us vs = true then some (.bl (geVs us vs)) else none
    | _, _ => none
  | _, _ => none
theorem w_geT {K : PySem.W.Frag} {cl : Clz} : OpW K cl geT (rGeT K) := by
  intro z m H a b x y w Q M ra rb e k
  unfold geT at e
  split at e
  · rename_i xs ys
    split at e
    · rename_i us vs q1 q2
      split at e
      · rename_i c
        cases e
        obtain ⟨p, vs1, e1, e2, e3⟩ := ra
        obtain ⟨p2, vs2, f1, f2, f3⟩ := rb
        have g1 := flat_rel e3 q1
        have g2 := flat_rel f3 q2
        subst g1 g2
        exact ⟨p, p2, vs1, vs2, e1, f1, e2, f2, c, k z _ H (Ext.refl _ _) M rfl⟩
      · cases e
    · cases e
  · cases e
end Dn

/-! D11: what the top leaves, as facts; the law's end. -/
namespace Dn
open PySem PySem.Spec PyProof.Rows L2
/-! ### constants of the module -/
mutual
def valB (K : PySem.W.Frag) : W → Value → Bool
  | .non, u => match u with
    | .none => true
    | _ => false
  | .bl b, u => match u with
    | .bool c => b == c
    | _ => false
  | .int i, u => match u with
    | .int j _ => decide (i = j)
    | _ => false
  | .str x, u => match u with
    | .str y _ => decide (x = y)
    | _ => false
  | .tup ws, u => match u with
    | .ref a => match K.lookup a with
      | some ⟨.type c, _, .seq its _, _⟩ => decide (c = "tuple") && (decide (its.size ≤ sizeLine) && valsB K ws its.toList)
      | _ => false
    | _ => false
  | .old ws, u => match u with
    | .ref a => match K.lookup a with
      | some ⟨.type c, none, .seq its _, _⟩ => decide (c = "list") && (decide (its.size ≤ sizeLine) && valsB K ws its.toList)
      | _ => false
    | _ => false
  | _, _ => false
def valsB (K : PySem.W.Frag) : List W → List Value → Bool
  | [], us => us.isEmpty
  | w :: ws, us => match us with
    | u :: us => valB K w u && valsB K ws us
    | [] => false
end
mutual
theorem valB_ok {K : PySem.W.Frag} : ∀ (w : W) (u : Value), valB K w u = true → ∃ v, RelV v u ∧ ∀ z H, RW K z H w v
  | .non, u, h => by
    cases u with
    | none => exact ⟨.non, rfl, fun _ _ => rfl⟩
    | _ => simp [valB] at h
  | .bl b, u, h => by
    cases u with
    | bool c => have e : b = c := by simpa [valB] using h
                subst e; exact ⟨.bl b, rfl, fun _ _ => rfl⟩
    | _ => simp [valB] at h
  | .int b, u, h => by
    cases u with
    | int c t => have e : b = c := by simpa [valB] using h
                 subst e; exact ⟨.int b, ⟨t, rfl⟩, fun _ _ => rfl⟩
    | _ => simp [valB] at h
  | .str b, u, h => by
    cases u with
    | str c t => have e : b = c := by simpa [valB] using h
                 subst e; exact ⟨.str b, ⟨t, rfl⟩, fun _ _ => rfl⟩
    | _ => simp [valB] at h
  | .tup ws, u, h => by
    cases u with
    | ref a =>
      simp only [valB] at h
      split at h
      · rename_i c od its n osl q
        simp only [Bool.and_eq_true, decide_eq_true_eq] at h
        obtain ⟨vs, r, k⟩ := valsB_ok ws its.toList h.2.2
        exact ⟨.ref a, rfl, fun z H => ⟨a, vs, rfl, .inr ⟨_, its, n, q, by rw [h.1], rfl, h.2.1, r⟩, k z H⟩⟩
      · cases h
    | _ => simp [valB] at h
  | .old ws, u, h => by
    cases u with
    | ref a =>
      simp only [valB] at h
      split at h
      · rename_i c its n osl q
        simp only [Bool.and_eq_true, decide_eq_true_eq] at h
        obtain ⟨vs, r, k⟩ := valsB_ok ws its.toList h.2.2
        exact ⟨.ref a, rfl, fun z H => ⟨a, vs, rfl, .inr ⟨_, its, n, q, by rw [h.1], rfl, rfl, h.2.1, r⟩, k z H⟩⟩
      · cases h
    | _ => simp [valB] at h
  | .lst ws, u, h => by simp [valB] at h
  | .ref ws, u, h => by simp [valB] at h
  | .raw ws, u, h => by simp [valB] at h
theorem valsB_ok {K : PySem.W.Frag} : ∀ (ws : List W) (us : List Value), valsB K ws us = true → ∃ vs, Vals vs us ∧ ∀ z H, RWs K z H ws vs
  | [], us, h => by
    cases us with
    | nil => exact ⟨[], .nil, fun _ _ => rfl⟩
    | cons u us => simp [valsB] at h
  | w :: ws, us, h => by
    cases us with
    | nil => simp [valsB] at h
    | cons u us =>
      simp only [valsB, Bool.and_eq_true] at h
      obtain ⟨v, r1, k1⟩ := valB_ok w u h.1
      obtain ⟨vs, r2, k2⟩ := valsB_ok ws us h.2
      exact ⟨v :: vs, .cons r1 r2, fun z H => ⟨v, vs, rfl, k1 z H, k2 z H⟩⟩
end
/-- the module's name x stands for w -/
def gloB (K : PySem.W.Frag) (x : Str) (w : W) : Bool := match PySem.W.nsIn K mainGlobals x with
  | some (some u) => valB K w u
  | _ => false
def GloW (K : PySem.W.Frag) (mg : Str → Option Value) (x : Str) (w : W) : Prop := ∃ u v, mg x = some u ∧ RelV v u ∧ ∀ z H, RW K z H w v
theorem gloB_ok {K : PySem.W.Frag} {h : Heap} {mg : Str → Option Value} {x : Str} {w : W} (X : K.In h) (G : h.Ns mainGlobals mg) (c : gloB K x w = true) : GloW K mg x w := by
  unfold gloB at c
  split at c
  · rename_i u q
    obtain ⟨v, r, k⟩ := valB_ok w u c
    exact ⟨u, v, PySem.W.mg_of X G q, r, k⟩
  · cases c
theorem se_g {X : Cx} {cl : Clz} {Wx : WX} {pos : Pos} {x : Str} {w : W} (h : GloW X.K X.mg x w) (hg : Gl X x := by rfl) (hd : (x == ("__debug__" : Str)) = false := by decide) : PE X (.Name x pos) (tE (gx X cl Wx) (eC w)) := by
  obtain ⟨u, v, h1, h2, h3⟩ := h
  exact se_glob h1 h2 h3 hg hd
/-! ### a def of the module -/
structure FT (K : PySem.W.Frag) (mg : Str → Option Value) (x : Str) (st : Stmt) (ps : List Str) (fd : FuncData) : Prop where
  F : FunD K x x (defArgs st) (defBody st) (defScope st) [] [] (He.ga K x) fd
  g : mg x = some (.ref (He.ga K x))
  b : Binds K fd ps []
theorem hu65 {A : Around} {k : Nat} (hr : RoomG k A) : A.units + 65 < cLine := by have := hr.un; omega
/-! ### the head's hook, with a test of one's own -/
def obsE (fa : List He.Fa) (fn : List He.DefD) (ex : PySem.W.Frag → Bool) (K : PySem.W.Frag) : He.AlD × Bool := (He.obsD fa fn K, ex K)
structure SaysE (fa : List He.Fa) (fn : List He.DefD) (ex : PySem.W.Frag → Bool) (K : PySem.W.Frag) : Prop where
  d : He.SaysD fa fn K
  e : ex K = true
def obsEG (n : Nat) (fa : List He.Fa) (fn : List He.DefD) (ex : PySem.W.Frag → Bool) (g : Addr → Option Obj) : He.AlD × Bool := obsE fa fn ex (He.frG g (He.asD g n))
theorem saysE_of {fa : List He.Fa} {fn : List He.DefD} {ex : PySem.W.Frag → Bool} {K : PySem.W.Frag} (e : obsE fa fn ex K = (He.valD fn, true)) : SaysE fa fn ex K := by
  unfold obsE at e
  exact ⟨(Prod.mk.inj e).1, (Prod.mk.inj e).2⟩
def hookE (n : Nat) (fa : List He.Fa) (fn : List He.DefD) (ex : PySem.W.Frag → Bool) : PySem.W.Hook where
  α := He.AlD × Bool
  obs := fun s => obsEG n fa fn ex s.heap.get?
  val := fun _ => (He.valD fn, true)
  says := fun _ h => ∃ K : PySem.W.Frag, K.In h ∧ SaysE fa fn ex K
  of := fun _ s e => ⟨He.frG s.heap.get? (He.asD s.heap.get? n), He.frG_in, saysE_of e⟩
  keeps := fun _ _ _ ⟨K, hK, c⟩ k => ⟨K, PySem.W.Frag.In.keeps hK k, c⟩
theorem obsEG_eq {n : Nat} {fa : List He.Fa} {fn : List He.DefD} {ex : PySem.W.Frag → Bool} {g : Addr → Option Obj} {s : Shared} (h : ∀ a, g a = s.heap.get? a) : obsEG n fa fn ex g = (hookE n fa fn ex).obs s := by
  have e : g = s.heap.get? := funext h
  rw [e] <;> rfl
/-- one test of several -/
def allB (bs : List Bool) : Bool := bs.all id
theorem allB_at {bs : List Bool} (h : allB bs = true) (i : Nat) {b : Bool} (hb : bs[i]? = some b) : b = true := by
  have := List.all_eq_true.mp h b (List.mem_of_getElem? hb)
  exact this
/-! ### the law's end -/
/-- the law told as a run over plain values gives True for every script -/
def LawOk (cl : Nat → Addr) (n : Nat) (g : Fw) : Prop := ∀ ns : List Int, ns.length ≤ n → ∃ m, g [.old (ns.map .int)] [] = .ok (.bl true) m
theorem rws_ints {K : PySem.W.Frag} {z : Zn} {H : Hp} : ∀ ns : List Int, RWs K z H (ns.map .int) (ns.map V.int)
  | [] => rfl
  | n :: ns => ⟨_, _, rfl, rfl, rws_ints ns⟩
theorem law_end {K : PySem.W.Frag} {cl : Clz} {n : Nat} {g : Fw} (h : LawOk (fun _ => 0) n g) {H : Hp} {a : Addr} {ns : List Int} (hl : ns.length ≤ n) (hT : LamX.Tabs cl.T H) (hG : ∀ z H, cl.G z H) (hS : OldL K H a (ns.map V.int)) : spOf K cl 1 g [.ref a] H (fun v _ => v = .bl true) fun _ _ _ => False := by
  obtain ⟨m, e⟩ := h ns hl
  refine ⟨[.old (ns.map .int)], [], ⟨fun _ => False, fun _ => False, []⟩, rfl, ⟨rfl, .nil, fun _ q => q.elim, fun _ q => q.elim, fun _ q => q.elim, fun n a c q => by simp at q, hT, hG _ _⟩, ⟨.ref a, [], rfl, ⟨a, ns.map V.int, rfl, hS, rws_ints ns⟩, rfl⟩, ?_⟩
  rw [e]
  exact fun z' v H' _ _ q => q
end Dn
namespace Dn
open PySem PySem.Spec PyProof.Rows L2
/-- what is never come to -/
def sBad : DS := fun _ _ => .bad
theorem ss_noraise {X : Cx} {cl : Clz} {Wx : WX} {st : Stmt} : PS X st (tS (gx X cl Wx) sBad) := (ps_never (st := st)).imp fun D s H ⟨r, m, z, R, P⟩ => P
end Dn

/-! D11b: the law's end. -/
namespace Dn
open PySem PySem.Spec PyProof.Rows L2
theorem hu1 {A : Around} {k : Nat} (hr : RoomG k A) : A.units + 1 < cLine := by have := hr.un; omega
section
variable {P : Program} {w : World} {K : PySem.W.Frag} {mg mb : Str → Option Value} {k : Nat} {fa a : Addr} {fd : FuncData} {x : Str} {g : Fw} {cl : Clz} {s₁ : Shared} {vs : List Value} {ns : List Int}
/-- an abstract heap that tracks the script and nothing else, or nothing at all -/
structure Script (P : Program) (w : World) (K : PySem.W.Frag) (a : Addr) (ns : List Int) (s : Shared) (H : Hp) : Prop where
  only : Only H
  seq : SqL K H a (ns.map V.int)
  hok : HOk P w H s.heap
  at_ : ∀ b, H b ≠ none → b = a
  no : H a ≠ none → K.lookup a = none
theorem script_at (KX : K.In s₁.heap) (ha : s₁.heap.get? a = some { cls := .type "list", data := .seq vs.toArray }) (hi : IntsAre vs ns) (hl : ns.length ≤ sizeLine) : ∃ H, Script P w K a ns s₁ H := by
  have rv := vals_ints hi
  have lv := hi.length
  cases hk : K.lookup a with
  | some o =>
    have e := KX a o hk
    rw [ha] at e
    cases e
    exact ⟨fun _ => none, fun _ => .inl rfl, .inr ⟨_, vs.toArray, _, hk, rfl, rfl, rfl, by rw [List.size_toArray, lv]; exact hl, by simpa using rv⟩, fun b u q => (nomatch q), fun b q => absurd rfl q, fun q => absurd rfl q⟩
  | none =>
    refine ⟨fun b => if b = a then some (.frz { cls := .type "list", data := .seq vs.toArray } (.lst (ns.map V.int))) else none, fun b => ?_, .inl (.inr ⟨_, if_pos rfl⟩), fun b u q => ?_, fun b q => ?_, fun _ => hk⟩
    · by_cases hb : b = a
      · exact .inr ⟨_, _, if_pos hb⟩
      · exact .inl (if_neg hb)
    · by_cases hb : b = a
      · simp only [hb, if_true] at q
        cases q
        subst hb
        exact ⟨ha, by simpa using hl, vs, _, rv, ha⟩
      · simp only [hb, if_false] at q
        cases q
    · by_cases hb : b = a
      · exact hb
      · exact absurd (if_neg hb) q
theorem lawG (KX : K.In s₁.heap) (hns : s₁.heap.Ns mainGlobals mg) (hb : s₁.heap.Ns builtinsNs mb) (hbb : ∀ x : Str, x ≠ "__name__" → mb x = bootBuiltins x) (hlim : s₁.heap.NoLimit) (hg : s₁.gens = #[])
    (ha : s₁.heap.get? a = some { cls := .type "list", data := .seq vs.toArray }) (hi : IntsAre vs ns) (h63 : ns.length ≤ 63) (hr : RoomG k callerA) (hl : LawOk (fun _ => 0) 63 g) (hT : cl.T = []) (hG : ∀ z H, cl.G z H)
    (F : ∀ base : Heap, K.In base → base.Ns mainGlobals mg → FnG P w K mg base k fa fd [x] (spOf K cl 1 g)) (hbind : ∀ (s : Shared) (u : Value), BindsTo s fd ⟨[u], []⟩ [(x, u)]) :
    codeAny (model P w) callerA (.call (.ref fa) ⟨[.ref a], []⟩) (fun r s' => r = .ok (.ret (.bool true)) ∧ OldK s₁.heap s'.heap ∧ s'.os = s₁.os ∧ AllBare s'.gens) s₁ := by
  obtain ⟨H, S⟩ := script_at (P := P) (w := w) KX ha hi (Nat.le_trans h63 (by decide))
  have free : ∀ {b : Addr} {o : Obj} {es : Array DictEntry} {ep : Nat}, s₁.heap.get? b = some o → o.data = .dict es ep → H b = none := fun {b o es ep} e d => by
    cases q : H b with
    | none => rfl
    | some u =>
      have hba := S.at_ b (by rw [q]; exact Option.some_ne_none _)
      subst hba
      rw [ha] at e
      cases e
      cases d
  have ns_ok : ∀ {b : Addr} {m : Str → Option Value}, s₁.heap.Ns b m → (hidT s₁.heap H).Ns b m := fun ⟨o, es, ep, e, d, r⟩ => ⟨o, es, ep, hidT_get e (free e d), d, r⟩
  have kb : K.In (hidT s₁.heap H) := fun b o e => hidT_get (KX b o e) (by
    cases q : H b with
    | none => rfl
    | some u =>
      have hne : H b ≠ none := by rw [q]; exact Option.some_ne_none _
      have hba := S.at_ b hne
      subst hba
      rw [S.no hne] at e
      cases e)
  have hM : Mod K mg (hidT s₁.heap H) := ⟨kb, ns_ok hns, ⟨mb, ns_ok hb, hbb⟩, let ⟨mc, h1, h2⟩ := hlim; ⟨mc, ns_ok h1, h2⟩⟩
  have e0 : Env0 P w K mg (hidT s₁.heap H) callerA [] s₁ H := ⟨rfl, hM, fun b o e => of_hidT e, Nat.le_of_eq (hidT_size _ _), trivial, fun b q => (nomatch q), S.hok, .of_eq hg⟩
  have hS : OldL K H a (ns.map V.int) := by
    rcases S.seq with (hS | ⟨o, hS⟩) | hS
    · rcases S.only a with z | ⟨o, xs, z⟩
      · rw [hS] at z; cases z
      · rw [hS] at z; cases z
    · exact .inl ⟨o, hS⟩
    · exact .inr hS
  have hsp := law_end (K := K) (cl := cl) hl h63 (by rw [hT]; exact fun _ q => nomatch q) hG hS
  refine codeAny_mono ((F _ kb (ns_ok hns)).run callerA [] s₁ H ⟨[.ref a], []⟩ [.ref a] [.ref a] _ _ hr e0 (hbind s₁ (.ref a)) (.cons rfl .nil) hsp) fun r s' h => ?_
  match r, h with
  | .error e, h =>
    obtain ⟨_, _, _, _, _, _, _, _, _, _, _, _, q⟩ := h
    exact q.elim
  | .ok .next, h => exact h.elim
  | .ok .brk, h => exact h.elim
  | .ok .cont, h => exact h.elim
  | .ok (.ret u), ⟨v, H', os, bare, un, hok', rv, q⟩ =>
    have q' : v = .bl true := q
    subst q'
    have ru : u = Value.bool true := rv
    subst ru
    refine ⟨rfl, OldK.of_keep fun b o e => ?_, os, bare⟩
    rcases S.only b with q | ⟨ob, xs, q⟩
    · exact un.keep b o e q (fun z => nomatch z) (fun z => nomatch z)
    · have h1 := (S.hok b _ q).1
      rw [e] at h1
      rw [Option.some.inj h1]
      exact (hok' b _ (un.frzs b ob _ q)).1
end
/-- the law's end, where what is raised is told over the world -/
theorem walkW {l : PySem.W.OpenLaw} {k : Nat} {q : Program} {loose : List Str} {XP : (Str → Option Value) → Heap → Prop} {YP : World → Heap → Prop} {d : DefRec} {x : Str} {g : Fw} {cl : PySem.W.Frag → Nat → Addr}
    (hm : l.most = some 63) (hd : d.params.defaults = []) (hr : RoomG k callerA) (hl : LawOk (fun _ => 0) 63 g)
    (F : ∀ (w : World) (mg : Str → Option Value) (fa : Addr) (h : Heap), YP w h → h.Ns mainGlobals mg → mg d.name = some (.ref fa) →
      ∃ (K : PySem.W.Frag) (fd : FuncData), K.In h ∧ (∀ (s : Shared) (u : Value), BindsTo s fd ⟨[u], []⟩ [(x, u)]) ∧ ∀ base : Heap, K.In base → base.Ns mainGlobals mg → FnG l.prog w K mg base k fa fd [x] (spOf K (Clz.of (cl K)) 1 g)) :
    PySem.W.WalkO q loose XP YP l.row.toRowW d [] (fun f vs => PySem.call f vs) := by
  refine Att.attach_call hm hd fun w s₀ s₁ mg mb fa o pm cd doc a vs ns G Y ho hd' hcd hmg hobj hints hlen hg => ?_
  obtain ⟨K, fd, KX, hb, hF⟩ := F w mg fa _ Y G.T.g hmg
  exact lawG KX G.T.g G.T.b G.T.builtins G.T.nolimit hg hobj hints hlen hr hl rfl (fun _ _ => trivial) hF hb
end Dn

/-! D12: instances: fields, methods, making. -/
namespace Dn
open PySem PySem.Spec PyProof.Rows L2
/-! ### fields -/
def fldOf (c : Nat) (f : Str) (m : Mem) (w : W) : Option W := match w with
  | .ref n => match m[n]? with
    | some (.ins c' fs) => if c' = c then fs.lookup f else none
    | _ => none
  | _ => none
def insOf (c : Nat) (m : Mem) (w : W) : Option (Nat × List (Str × W)) := match w with
  | .ref n => match m[n]? with
    | some (.ins c' fs) => if c' = c then some (n, fs) else none
    | _ => none
  | _ => none
section
variable {K : PySem.W.Frag} {cl : Clz} {z : Zn} {m : Mem} {H : Hp}
theorem ins_at {c n : Nat} {w : W} {v : V} {fs : List (Str × W)} (M : MemOk K cl z m H) (h : RW K z H w v) (e : insOf c m w = some (n, fs)) :
    w = .ref n ∧ m[n]? = some (.ins c fs) ∧ ∃ a dx vs, z.phi[n]? = some a ∧ v = .ref a ∧ H a = some (.ins (cl c) dx vs) ∧ RFs K z H fs vs := by
  unfold insOf at e
  split at e
  · rename_i k
    split at e
    · rename_i c' fs' q
      split at e
      · rename_i hc
        cases e
        subst hc
        obtain ⟨a, h1, h2⟩ := h
        obtain ⟨_, dx, vs, q1, q2⟩ := M.cells _ a _ h1 q
        exact ⟨rfl, q, a, dx, vs, h1, h2, q1, q2⟩
      · cases e
    · cases e
  · cases e
theorem fld_ins {c : Nat} {f : Str} {w u : W} (e : fldOf c f m w = some u) : ∃ n fs, insOf c m w = some (n, fs) ∧ fs.lookup f = some u := by
  unfold fldOf at e
  unfold insOf
  split at e
  · split at e
    · split at e
      · rename_i hc
        exact ⟨_, _, if_pos hc, e⟩
      · cases e
    · cases e
  · cases e
def putFW (f : Str) (v : W) : List (Str × W) → List (Str × W)
  | [] => [(f, v)]
  | (g, x) :: r => if g = f then (g, v) :: r else (g, x) :: putFW f v r
theorem putFW_ok {f : Str} {w : W} {v : V} (hv : RW K z H w v) : ∀ {fs : List (Str × W)} {vs : List (Str × V)}, RFs K z H fs vs → RFs K z H (putFW f w fs) (putF f v vs)
  | [], _, h => by cases h; exact ⟨v, [], rfl, hv, rfl⟩
  | (g, x) :: r, _, ⟨y, t, h1, h2, h3⟩ => by
    subst h1
    unfold putFW putF
    by_cases hg : g = f
    · rw [if_pos hg, if_pos hg]; exact ⟨v, t, rfl, hv, h3⟩
    · rw [if_neg hg, if_neg hg]; exact ⟨y, _, rfl, h2, putFW_ok hv h3⟩
theorem put_mem {c n : Nat} {a dx : Addr} {f : Str} {w : W} {v : V} {fs : List (Str × W)} {vs : List (Str × V)} (M : MemOk K cl z m H) (h1 : z.phi[n]? = some a) (h2 : m[n]? = some (.ins c fs)) (h3 : RFs K z H fs vs) (hv : RW K z H w v) :
    Ext z H z (upd H a (.ins (cl c) dx (putF f v vs))) ∧ MemOk K cl z (m.set n (.ins c (putFW f w fs))) (upd H a (.ins (cl c) dx (putF f v vs))) := by
  have nh := (M.cells n a _ h1 h2).1
  exact M.write h1 h2 rfl fun e => ⟨nh, dx, _, upd_same, (putFW_ok hv h3).ext e⟩
end
section
variable {X : Cx} {cl : Clz} {Wx : WX} {e a o : Expr} {pos : Pos}
def eFld (c : Nat) (f : Str) (fa : DE) : DE := fun r m => (fa r m).bind fun w m1 => match fldOf c f m1 w with
  | some u => .ok u m1
  | none => .bad
theorem se_fld {c : Nat} {f : Str} {fa : DE} (hc : Cls X.K (cl c)) (hn : NoAttr X.K (cl c) f) (ha : PE X e (tE (gx X cl Wx) fa)) (hb : attributeBase e f X.env (eval e X.env) = eval e X.env := by rfl) :
    PE X (.Attribute e f pos) (tE (gx X cl Wx) (eFld c f fa)) :=
  (pe_fld ha hb).imp fun s H Q ⟨r, m, z, R, P⟩ => by
    refine ⟨r, m, z, R, P.bind fun z1 w m1 v H1 E1 R1 r1 P1 => ?_⟩
    cases q : fldOf c f m1 w with
    | none => rw [q] at P1; exact P1.elim
    | some u =>
      rw [q] at P1
      obtain ⟨n, fs, q1, q2⟩ := fld_ins q
      obtain ⟨_, _, b, dx, vs, q3, q4, q5, q6⟩ := ins_at R1.mem r1 q1
      obtain ⟨y, q7, q8⟩ := q6.lookup q2
      exact ⟨b, cl c, dx, vs, y, q4, q5, hc, hn, q7, P1.ret R1 q8⟩
/-- o.f = e -/
def sPut (c : Nat) (f : Str) (fo fv : DE) : DS := fun r m => (fv r m).thenS r fun y m1 => (fo r m1).thenS r fun w m2 => match insOf c m2 w with
  | some (n, fs) => if fs.length < 1000 then .next r (m2.set n (.ins c (putFW f y fs))) else .bad
  | none => .bad
theorem ss_put {c : Nat} {f : Str} {fo fv : DE} {pos' : Pos} (hc : Cls X.K (cl c)) (hn : NoAttr X.K (cl c) f) (ho : PE X o (tE (gx X cl Wx) fo)) (hv : PE X e (tE (gx X cl Wx) fv))
    (hs : swapsWith e (some (.Attribute o f pos')) pos.line X.env = pure false := by rfl) : PS X (.Assign [.Attribute o f pos'] e pos) (tS (gx X cl Wx) (sPut c f fo fv)) :=
  (ps_fld ho hv hs).imp fun D s H ⟨r, m, z, R, P⟩ => by
    refine ⟨r, m, z, R, P.bind fun z1 y m1 u H1 E1 R1 r1 P1 => ?_⟩
    refine ⟨r, m1, z1, R1, P1.bind fun z2 w m2 v H2 E2 R2 r2 P2 => ?_⟩
    cases q : insOf c m2 w with
    | none => rw [q] at P2; exact P2.elim
    | some nf =>
      obtain ⟨n, fs⟩ := nf
      rw [q] at P2
      simp only at P2
      split at P2
      · rename_i hl
        obtain ⟨_, q2, b, dx, vs, q3, q4, q5, q6⟩ := ins_at R2.mem r2 q
        obtain ⟨e1, M1⟩ := put_mem (dx := dx) (f := f) R2.mem q3 q2 q6 (RW.ext E2 r1)
        exact ⟨b, cl c, dx, vs, q4, q5, hc, hn, by rw [q6.length]; exact hl, P2 z2 s _ e1 (R2.after e1 M1)⟩
      · exact P2.elim
/-- o.f op= e -/
def sPutA (c : Nat) (f : Str) (op : Mem → W → W → Option W) (fo fv : DE) : DS := fun r m => (fo r m).thenS r fun w m1 => match fldOf c f m1 w with
  | none => .bad
  | some x => (fv r m1).thenS r fun y m2 => match op m2 x y with
    | none => .bad
    | some u => match insOf c m2 w with
      | some (n, fs) => if fs.length < 1000 then .next r (m2.set n (.ins c (putFW f u fs))) else .bad
      | none => .bad
theorem ss_putA {c : Nat} {f : Str} {fo fv : DE} {op : Operator} {ow : Mem → W → W → Option W} {rr : R2} {pos' : Pos} (hc : Cls X.K (cl c)) (hn : NoAttr X.K (cl c) f) (ho : PE X o (tE (gx X cl Wx) fo)) (hv : PE X e (tE (gx X cl Wx) fv)) (hop : OpR X (inplaceOp op) rr) (hw : OpW X.K cl ow rr) :
    PS X (.AugAssign (.Attribute o f pos') op e pos) (tS (gx X cl Wx) (sPutA c f ow fo fv)) :=
  (ps_fldaug (rd := rr) ho hv (fun pins sh s H x y u v Q I rx ry h => hop pins sh s H x y u v Q I rx ry h)).imp fun D s H ⟨r, m, z, R, P⟩ => by
    refine ⟨r, m, z, R, P.bind fun z1 w m1 v H1 E1 R1 r1 P1 => ?_⟩
    cases q : fldOf c f m1 w with
    | none => rw [q] at P1; exact P1.elim
    | some x =>
      rw [q] at P1
      obtain ⟨n, fs, q1, q2⟩ := fld_ins q
      obtain ⟨_, _, b, dx, vs, q3, q4, q5, q6⟩ := ins_at R1.mem r1 q1
      obtain ⟨xv, q7, q8⟩ := q6.lookup q2
      refine ⟨b, cl c, dx, vs, xv, q4, q5, hc, hn, q7, r, m1, z1, R1, P1.bind fun z2 y m2 yv H2 E2 R2 r2 P2 => ?_⟩
      cases q9 : ow m2 x y with
      | none => rw [q9] at P2; exact P2.elim
      | some u =>
        rw [q9] at P2
        simp only at P2
        refine hw z2 m2 H2 x y xv yv u _ R2.mem (RW.ext E2 q8) r2 q9 fun z3 uv H3 E3 M3 ru => ?_
        cases p1 : insOf c m2 w with
        | none => rw [p1] at P2; exact P2.elim
        | some nf =>
          obtain ⟨n', fs'⟩ := nf
          rw [p1] at P2
          simp only at P2
          split at P2
          · rename_i hl
            obtain ⟨_, p2, b', dx', vs', p3, p4, p5, p6⟩ := ins_at M3 (RW.ext (E2.trans E3) r1) p1
            have eb : b' = b := by rw [q4] at p4; cases p4; rfl
            subst eb
            obtain ⟨e1, M1⟩ := put_mem (dx := dx') (f := f) M3 p3 p2 p6 ru
            exact ⟨dx', vs', p5, by rw [p6.length]; exact hl, P2 z3 s _ (E3.trans e1) (R2.after (E3.trans e1) M1)⟩
          · exact P2.elim
/-! ### methods -/
def eMeth (c : Nat) (mn : Str) (n : Nat) (g : Fw) (fo : DE) (t : DA) : DE := fun r m => (fo r m).bind fun w m1 => match insOf c m1 w with
  | some (_, fs) => match fs.lookup mn with
    | none => (t r m1).bind fun ws m2 => if ws.length + 1 = n then g (w :: ws) m2 else .bad
    | some _ => .bad
  | none => .bad
theorem se_meth {k n c : Nat} {f : Addr} {fd : FuncData} {ps : List Str} {g : Fw} {mn : Str} {apos : Pos} {es : List Expr} {fo : DE} {t : DA} {pl : Sem Bool} (F : FnG X.prog X.w X.K X.mg X.base k f fd ps (spOf X.K cl n g)) (hr : RoomG k X.A) (hc : Cls X.K (cl c)) (hm : Meth X.K (cl c) mn f) (hb : Binds X.K fd ps []) (tk : Takes X Wx)
    (ho : PE X o (tE (gx X cl Wx) fo)) (ha : PA X (e :: es) (tA (gx X cl Wx) t))
    (hst : starEach (e :: es) X.env = (false, eval e X.env) :: starEach es X.env := by rfl) (hpl : (backTo pos (starEach es X.env)).any (·.1) = false := by rfl)
    (ht : eval (.Call (.Attribute o mn apos) (e :: es) [] pos) X.env = (do
      let ov ← eval o X.env
      standAt apos.atName
      let (f, first) ← holding [ov] (getMethod ov mn pl)
      callWith pos f first (backTo pos (starEach (e :: es) X.env)) (backToKw pos (keywordEach [] X.env))) := by rfl) :
    PE X (.Call (.Attribute o mn apos) (e :: es) [] pos) (tE (gx X cl Wx) (eMeth c mn n g fo t)) := by
  refine ⟨fun pins sh s H Q I ⟨r, m, z, R, P⟩ => ?_⟩
  refine PySem.W.methodCall_KW (pl := pl) (thn (ho.run pins sh s H _ I ⟨r, m, z, R, P.bind (Q1 := fun v H1 => ∃ b dx vs, v = .ref b ∧ H1 b = some (.ins (cl c) dx vs) ∧ vs.lookup mn = none ∧ tA (gx X cl Wx) t s H1 fun us H2 => spOf X.K cl n g (v :: us) H2 Q (WE Wx s)) fun z1 w m1 v H1 E1 R1 r1 P1 => ?_⟩) fun u s1 ⟨x, H1, I1, rx, b, dx, vs, ex, ea, l, q⟩ => ?_) ht
  · cases q : insOf c m1 w with
    | none => rw [q] at P1; exact P1.elim
    | some nf =>
      obtain ⟨n0, fs⟩ := nf
      rw [q] at P1
      simp only at P1
      obtain ⟨_, _, b, dx, vs, q3, q4, q5, q6⟩ := ins_at R1.mem r1 q
      cases q7 : fs.lookup mn with
      | some _ => rw [q7] at P1; exact P1.elim
      | none =>
        rw [q7] at P1
        simp only at P1
        refine ⟨b, dx, vs, q4, q5, q6.lookup_none q7, r, m1, z1, R1, P1.bind fun z2 ws m2 us H2 E2 R2 r2 P2 => ?_⟩
        split at P2
        · rename_i hl
          exact ⟨w :: ws, m2, z2, by simpa using hl, R2.mem, .cons (RW.ext E2 r1) r2, PostF.of R2 P2⟩
        · exact P2.elim
  · subst ex
    obtain rfl : u = Value.ref b := rx
    refine getmeth_ok I1 ea hc hm l ?_
    refine PySem.W.callWith_K (first := [.ref b]) (h₀ := X.base) I.ok.mod.kin hm.kp (thn (ha.run pos pins s1 s H1 _ I1 q) fun us s2 ⟨ws, H2, I2, r2, q2⟩ => ⟨I2.kIn, ?_⟩) hst hpl
    exact run_fnG (us := .ref b :: us) (vs := .ref b :: ws) F hr hb (passAt tk s) I2 (.cons rfl r2) q2
theorem se_meth0 {k n c : Nat} {f : Addr} {fd : FuncData} {ps : List Str} {g : Fw} {mn : Str} {apos : Pos} {fo : DE} {pl : Sem Bool} (F : FnG X.prog X.w X.K X.mg X.base k f fd ps (spOf X.K cl n g)) (hr : RoomG k X.A) (hc : Cls X.K (cl c)) (hm : Meth X.K (cl c) mn f) (hb : Binds X.K fd ps []) (tk : Takes X Wx)
    (ho : PE X o (tE (gx X cl Wx) fo))
    (ht : eval (.Call (.Attribute o mn apos) [] [] pos) X.env = (do
      let ov ← eval o X.env
      standAt apos.atName
      let (f, first) ← holding [ov] (getMethod ov mn pl)
      callWith pos f first (backTo pos (starEach [] X.env)) (backToKw pos (keywordEach [] X.env))) := by rfl) :
    PE X (.Call (.Attribute o mn apos) [] [] pos) (tE (gx X cl Wx) (eMeth c mn n g fo aNil)) := by
  refine ⟨fun pins sh s H Q I ⟨r, m, z, R, P⟩ => ?_⟩
  refine PySem.W.methodCall_KW (pl := pl) (thn (ho.run pins sh s H _ I ⟨r, m, z, R, P.bind (Q1 := fun v H1 => ∃ b dx vs, v = .ref b ∧ H1 b = some (.ins (cl c) dx vs) ∧ vs.lookup mn = none ∧ spOf X.K cl n g [v] H1 Q (WE Wx s)) fun z1 w m1 v H1 E1 R1 r1 P1 => ?_⟩) fun u s1 ⟨x, H1, I1, rx, b, dx, vs, ex, ea, l, q⟩ => ?_) ht
  · cases q : insOf c m1 w with
    | none => rw [q] at P1; exact P1.elim
    | some nf =>
      obtain ⟨n0, fs⟩ := nf
      rw [q] at P1
      simp only at P1
      obtain ⟨_, _, b, dx, vs, q3, q4, q5, q6⟩ := ins_at R1.mem r1 q
      cases q7 : fs.lookup mn with
      | some _ => rw [q7] at P1; exact P1.elim
      | none =>
        rw [q7] at P1
        simp only [aNil, Dn.R.bind, List.length_nil, Nat.zero_add] at P1
        split at P1
        · rename_i hl
          exact ⟨b, dx, vs, q4, q5, q6.lookup_none q7, [w], m1, z1, by simpa using hl, R1.mem, .cons r1 .nil, PostF.of R1 P1⟩
        · exact P1.elim
  · subst ex
    obtain rfl : u = Value.ref b := rx
    refine getmeth_ok I1 ea hc hm l ?_
    exact PySem.W.callWith_K0 (first := [.ref b]) I1.kIn hm.kp (run_fnG (us := [.ref b]) (vs := [.ref b]) F hr hb (passAt tk s) I1 (.cons rfl .nil) q)
/-! ### a new instance -/
def eMake (c n : Nat) (g : Fw) (t : DA) : DE := fun r m => (t r m).bind fun ws m1 => if ws.length + 1 = n then (g (.ref m1.length :: ws) (m1 ++ [.ins c []])).bind fun u m2 => match u with
    | .non => .ok (.ref m1.length) m2
    | _ => .bad
  else .bad
/-- what is made: the object and its dict -/
theorem made_mem {K : PySem.W.Frag} {z : Zn} {m : Mem} {H : Hp} {c : Nat} {x dx : Addr} (M : MemOk K cl z m H) (hx : H x = none) (hd : H dx = none) (hne : dx ≠ x) :
    Ext z H (z.lay x) (upd (upd H dx (.own x)) x (.ins (cl c) dx [])) ∧ MemOk K cl (z.lay x) (m ++ [.ins c []]) (upd (upd H dx (.own x)) x (.ins (cl c) dx [])) ∧ RW K (z.lay x) (upd (upd H dx (.own x)) x (.ins (cl c) dx [])) (.ref m.length) (.ref x) := by
  have hx2 : upd H dx (.own x) x = none := by rw [upd_ne fun q => hne q.symm]; exact hx
  have s1 : Same H (upd H dx (.own x)) := upd_same_of hd
  have s2 : Same (upd H dx (.own x)) (upd (upd H dx (.own x)) x (.ins (cl c) dx [])) := upd_same_of hx2
  have sm : Same H (upd (upd H dx (.own x)) x (.ins (cl c) dx [])) := fun b u q => s2 b u (s1 b u q)
  obtain ⟨e2, M2⟩ := (M.same sm).lay (p := x) (c := .ins c []) (M.z_ne hx) (M.p_ne hx) ⟨M.h_ne hx, dx, [], upd_same, rfl⟩
  refine ⟨(M.extS sm).trans e2, M2, x, ?_, rfl⟩
  show (z.phi ++ [x])[m.length]? = some x
  rw [← M.len]
  simp
/-- C(..) where what is raised is wished for at the caller's slots -/
theorem run_mk {k n c : Nat} {f : Addr} {fd : FuncData} {ps : List Str} {g : Fw} {pins : List (Addr × Obj)} {s : L2.St} {H : Hp} {sh : Shared} {Q : VK} {us : List Value} {vs : List V} {ws : List W} {r : Rho} {m : Mem} {z : Zn}
    (hM : Mk X.K (cl c) f) (F : FnG X.prog X.w X.K X.mg X.base k f fd ps (spOf X.K cl n g)) (hr : RoomG (k + 1) X.A) (hb : Binds X.K fd ps []) (tk : Takes X Wx) (I : Inv X pins s H sh) (rv : Vals vs us)
    (R : Rel X.K cl z r m s H) (rw' : RWs X.K z H ws vs) (hl : ws.length + 1 = n)
    (P : Post (gx X cl Wx) (RW X.K) z H r s ((g (.ref m.length :: ws) (m ++ [.ins c []])).bind fun u m2 => match u with
      | .non => .ok (.ref m.length) m2
      | _ => .bad) Q) : wpAny (model X.prog X.w) X.A (call (.ref (cl c)) us) (EP X pins s Q) X.xe sh := by
  have fx : H (sh.heap.objs.size + 1) = none := I.hok.fresh (Nat.le_succ _)
  have fd' : H sh.heap.objs.size = none := I.hok.fresh (Nat.le_refl _)
  obtain ⟨e1, M1, q1⟩ := made_mem (c := c) R.mem fx fd' (Nat.ne_of_lt (Nat.lt_succ_self _))
  have R1 := R.after e1 M1
  have hq : spOf X.K cl n g (.ref (sh.heap.objs.size + 1) :: vs) (upd (upd H sh.heap.objs.size (.own (sh.heap.objs.size + 1))) (sh.heap.objs.size + 1) (.ins (cl c) sh.heap.objs.size [])) (fun v H2 => v = .non ∧ Q (.ref (sh.heap.objs.size + 1)) H2) (WE Wx s) := by
    refine ⟨.ref m.length :: ws, _, _, by simpa using hl, M1, .cons q1 (RWs.ext e1 rw'), ?_⟩
    refine PostF.of R1 (Post.bind (Post.mono e1 P) fun z2 u m2 v H2 E2 R2 r2 P2 => ?_)
    cases u with
    | non =>
      have r2 : v = .non := r2
      exact ⟨r2, P2.ret R2 (RW.ext E2 q1)⟩
    | _ => exact P2.elim
  have I2 := Inv.made (C := cl c) I
  have rv2 : Vals (V.ref (sh.heap.objs.size + 1) :: vs) (Value.ref (sh.heap.objs.size + 1) :: us) := .cons rfl rv
  have hl2 : (Value.ref (sh.heap.objs.size + 1) :: us ++ []).length = ps.length := by
    have e2 := rv2.length
    rw [F.len _ _ _ _ hq] at e2
    rw [List.append_nil]
    exact e2.symm
  have hbb := hb _ (Value.ref (sh.heap.objs.size + 1) :: us) I2.kIn hl2
  rw [List.append_nil] at hbb
  refine wpAny_call (make_map (f := f) I.kIn hM.makes hM.init (beq_iff_eq.mp hM.fn) (codeAny_mono (F.run _ X.stack _ _ _ _ _ _ _ (hr.make (cl c) us []) (I2.env0.make (cl c) us []) hbb rv2 hq) fun rr s' hq' => ?_))
  cases rr with
  | error er => exact passAt tk s pins _ _ er s' I2 hq'
  | ok fl =>
    cases fl with
    | ret u =>
      obtain ⟨v, H', I3, rv3, ev, q3⟩ := I2.after hq'
      subst ev
      exact ⟨rv3, ⟨V.ref (sh.heap.objs.size + 1), H', I3, rfl, q3⟩⟩
    | next => exact hq'.elim
    | brk => exact hq'.elim
    | cont => exact hq'.elim
theorem se_make {k n c : Nat} {f : Addr} {fd : FuncData} {ps : List Str} {g : Fw} {x : Str} {p : Pos} {es : List Expr} {t : DA} (hM : Mk X.K (cl c) f) (F : FnG X.prog X.w X.K X.mg X.base k f fd ps (spOf X.K cl n g)) (hr : RoomG (k + 1) X.A) (hm : X.mg x = some (.ref (cl c))) (hb : Binds X.K fd ps []) (tk : Takes X Wx)
    (ha : PA X (e :: es) (tA (gx X cl Wx) t)) (hg : Gl X x := by rfl) (hdb : (x == ("__debug__" : Str)) = false := by decide) (he : starEach (e :: es) X.env = (false, eval e X.env) :: starEach es X.env := by rfl) (hpl : (backTo pos (starEach es X.env)).any (·.1) = false := by rfl) :
    PE X (.Call (.Name x p) (e :: es) [] pos) (tE (gx X cl Wx) (eMake c n g t)) := by
  refine ⟨fun pins sh s H Q I ⟨r, m, z, R, P⟩ => ?_⟩
  refine wpAny_Call_Name_kw (ld_glob I hg hm ?_ hdb)
  refine PySem.W.callWith_K (h₀ := X.base) I.ok.mod.kin hM.kp (thn (ha.run pos pins sh s H (fun vs H1 => ∃ ws m1 z1, Rel X.K cl z1 r m1 s H1 ∧ RWs X.K z1 H1 ws vs ∧ Post (gx X cl Wx) (RW X.K) z1 H1 r s (if ws.length + 1 = n then (g (.ref m1.length :: ws) (m1 ++ [.ins c []])).bind fun u m2 => match u with
    | .non => .ok (.ref m1.length) m2
    | _ => .bad
  else .bad) Q) I ⟨r, m, z, R, P.bind fun z1 ws m1 vs H1 E1 R1 r1 P1 => ⟨ws, m1, z1, R1, r1, P1⟩⟩) fun us s1 ⟨vs, H1, I1, rv, ws, m1, z1, R1, r1, P1⟩ => ⟨I1.kIn, ?_⟩) he hpl
  split at P1
  · rename_i hl
    exact run_mk hM F hr hb tk I1 rv R1 r1 hl P1
  · exact P1.elim
theorem se_make0 {k c : Nat} {f : Addr} {fd : FuncData} {ps : List Str} {g : Fw} {x : Str} {p : Pos} (hM : Mk X.K (cl c) f) (F : FnG X.prog X.w X.K X.mg X.base k f fd ps (spOf X.K cl 1 g)) (hr : RoomG (k + 1) X.A) (hm : X.mg x = some (.ref (cl c))) (hb : Binds X.K fd ps []) (tk : Takes X Wx)
    (hg : Gl X x := by rfl) (hdb : (x == ("__debug__" : Str)) = false := by decide) : PE X (.Call (.Name x p) [] [] pos) (tE (gx X cl Wx) (eMake c 1 g aNil)) := by
  refine ⟨fun pins sh s H Q I ⟨r, m, z, R, P⟩ => ?_⟩
  refine wpAny_Call_Name_kw (ld_glob I hg hm ?_ hdb)
  exact PySem.W.callWith_K0 I.kIn hM.kp (run_mk (us := []) (vs := []) (ws := []) hM F hr hb tk I .nil R rfl rfl P)
end
end Dn

/-! D13: more built-in calls: tuples repeated, any, all, min, max, index, is of boolsW, list(range). -/
namespace Dn
open PySem PySem.Spec PyProof.Rows L2
theorem tm_one (l : Addr) (items : Array Value) (n : Nat) (dd : Option Addr) (sl : Array (Option Value)) (x : Int) (u : Tok) (c0 : (decide (x < -(2 ^ 63)) || decide (x ≥ 2 ^ 63)) = false) (c1 : (items.isEmpty || x == 1) = true) :
    Meets (Builtin.«tuple.__mul__» ⟨[.ref l, .int x u], []⟩) (fun _ R s => s.heap.get? l = some { cls := .type "tuple", dict := dd, data := .seq items n, slots := sl } ∧ R (.ok (.ret (Value.ref l))) s) :=
  .of_wp fun prog w A R s h => by
    obtain ⟨hp, g, d, tk, os⟩ := s
    obtain ⟨hl, h⟩ := h
    have f1 := AutoSeq1.idx_int
    wp_walk using wpAny_loadPart' hl
    repeat (first
      | (refine wpAny_ite_false (decide_eq_false (by rw [c0]; exact Bool.false_ne_true)) ?_; wp_walk using wpAny_loadPart' hl)
      | (refine wpAny_ite_true (decide_eq_true c1) ?_; wp_walk using wpAny_loadPart' hl))
    exact ⟨_, rfl, h⟩
theorem tm_zero (l : Addr) (items : Array Value) (n : Nat) (dd : Option Addr) (sl : Array (Option Value)) (x : Int) (u : Tok) (c0 : (decide (x < -(2 ^ 63)) || decide (x ≥ 2 ^ 63)) = false) (c1 : (items.isEmpty || x == 1) = false) (c2 : (decide (x ≤ 0) || items.isEmpty) = true) :
    Meets (Builtin.«tuple.__mul__» ⟨[.ref l, .int x u], []⟩) (fun _ R s => s.heap.get? l = some { cls := .type "tuple", dict := dd, data := .seq items n, slots := sl } ∧
      R (.ok (.ret (Value.ref s.heap.objs.size))) { s with heap := s.heap.push { cls := Value.type "tuple", data := Data.seq #[] }, toks := s.toks }) :=
  .of_wp fun prog w A R s h => by
    obtain ⟨hp, g, d, tk, os⟩ := s
    obtain ⟨hl, h⟩ := h
    have f1 := AutoSeq1.idx_int
    wp_walk using wpAny_loadPart' hl
    repeat (first
      | (refine wpAny_ite_false (decide_eq_false (by rw [c0]; exact Bool.false_ne_true)) ?_; wp_walk using wpAny_loadPart' hl)
      | (refine wpAny_ite_false (decide_eq_false (by rw [c1]; exact Bool.false_ne_true)) ?_; wp_walk using wpAny_loadPart' hl)
      | (refine wpAny_ite_true (decide_eq_true c2) ?_; wp_walk using wpAny_loadPart' hl))
    exact ⟨_, rfl, h⟩
def rRepS (K : PySem.W.Frag) : R2 := fun x y H Q => ∃ l k xs, x = .ref l ∧ y = .int k ∧ SqT K H l xs ∧ xs ≠ [] ∧ ((k = 1 ∧ Q (.ref l) H) ∨ (k = 0 ∧ ∀ p, H p = none → Q (.ref p) (upd H p (.tup []))))
section
variable {X : Cx} {K : PySem.W.Frag} {cl : Clz}
theorem op_repS : OpR X (binaryOp .Mult) (rRepS X.K) := by
  intro pins s σ H x y v u Q I rx ry h
  obtain ⟨l, k, xs, rfl, rfl, hT, hne, hk⟩ := h
  cases rx
  obtain ⟨t, rfl⟩ := ry
  obtain ⟨its, r, ⟨⟨cls, dd, data, sl⟩, ho, hc, n, hd⟩, hs⟩ := I.tuple hT
  simp only at hc hd
  subst hc hd
  have hi : its.toArray.isEmpty = false := by
    cases its with
    | nil => exact absurd (List.eq_nil_of_length_eq_zero r.length) hne
    | cons a b => rfl
  have c0 : (decide (k < -(2 ^ 63)) || decide (k ≥ 2 ^ 63)) = false := by
    rcases hk with ⟨rfl, _⟩ | ⟨rfl, _⟩ <;> decide
  refine wpAny_binaryOp_repeat_ref (T := "tuple") (U := "int") (by decide) ⟨_, ho, rfl⟩ (fun s' => typeIs_int s' k t) noFill_tuple_mul F.fills_int_mul F.slot_int_rmul repeat_tuple F.slot_int_index.lookup
    (call_meets F.slot_int_rmul (typeIs_int s k t) F.entry_int_rmul (F.args_int_rmul_2 _ _) (int_rmul_tuple k t l its.toArray n dd sl) ⟨ho, rfl, ⟨_, ho, rfl⟩, ?_⟩)
  rcases hk with ⟨rfl, q⟩ | ⟨rfl, q⟩
  · exact call_meets F.slot_tuple_mul ⟨_, ho, rfl⟩ F.entry_tuple_mul (F.args_tuple_mul_2 _ _) (tm_one l its.toArray n dd sl 1 t c0 (by rw [hi]; rfl)) ⟨ho, .ref l, H, I, rfl, q⟩
  · refine call_meets F.slot_tuple_mul ⟨_, ho, rfl⟩ F.entry_tuple_mul (F.args_tuple_mul_2 _ _) (tm_zero l its.toArray n dd sl 0 t c0 (by rw [hi]; rfl) (by rw [hi]; rfl)) ⟨ho, ?_⟩
    refine ⟨.ref s.heap.objs.size, _, I.laid (t' := s.toks) (o := .tup []) (fun b ob q => Heap.get?_push_of_some _ q) (Nat.le_refl _) ?_, rfl, q _ (I.hok.fresh (Nat.le_refl _))⟩
    exact ⟨Nat.zero_le _, [], .nil, IsTup.new _ _⟩
def mulT : Mem → W → W → Option W := fun _ a b => match a, b with
  | .tup (x :: xs), .int k => if k = 0 then some (.tup []) else if k = 1 then some (.tup (x :: xs)) else if 2 ≤ k ∧ k ≤ 1000 ∧ xs.length < 1000 then some (.tup (List.replicate k.toNat (x :: xs)).flatten) else none
  | _, _ => none
theorem w_mulT : OpW K cl mulT (fun x y H Q => rRepT K x y H Q ∨ rRepS K x y H Q) := by
  intro z m H a b x y w Q M ra rb e k
  unfold mulT at e
  split at e
  · rename_i u us j
    obtain ⟨p, vs, a1, a2, a3⟩ := ra
    have hne : vs ≠ [] := fun h => by rw [h] at a3; obtain ⟨_, _, h1, _⟩ := a3; cases h1
    split at e
    · rename_i hj
      cases e
      refine .inr ⟨p, j, vs, a1, rb, a2, hne, .inr ⟨hj, fun l hl => ?_⟩⟩
      have hs := upd_same_of (o := .tup []) hl
      exact k z (.ref l) _ (M.extS hs) (M.same hs) ⟨l, [], rfl, .inl (.inl upd_same), rfl⟩
    · split at e
      · rename_i hj
        cases e
        exact .inr ⟨p, j, vs, a1, rb, a2, hne, .inl ⟨hj, k z (.ref p) H (Ext.refl _ _) M ⟨p, vs, rfl, a2, a3⟩⟩⟩
      · split at e
        · rename_i hj
          cases e
          refine .inl ⟨p, j, vs, a1, rb, a2, hne, hj.1, hj.2.1, by rw [a3.length]; exact hj.2.2, fun l hl => ?_⟩
          have hs := upd_same_of (o := .tup (List.replicate j.toNat vs).flatten) hl
          exact k z (.ref l) _ (M.extS hs) (M.same hs) ⟨l, _, rfl, .inl (.inl upd_same), RWs.ext (M.extS hs) (a3.rep j.toNat)⟩
        · cases e
  · cases e
theorem o_mulT : OpR X (binaryOp .Mult) (fun x y H Q => rRepT X.K x y H Q ∨ rRepS X.K x y H Q) := op_repT.or op_repS
/-! ### any, all, min, max -/
def boolsW : List W → Option (List Bool)
  | [] => some []
  | .bl b :: ws => (boolsW ws).map (b :: ·)
  | _ => none
theorem boolsW_ok {z : Zn} {H : Hp} : ∀ {ws : List W} {bs : List Bool} {vs : List V}, boolsW ws = some bs → RWs K z H ws vs → vs = bs.map V.bl
  | [], bs, vs, e, h => by cases e; exact h
  | .bl b :: ws, bs, vs, e, ⟨v, r, h1, h2, h3⟩ => by
    simp only [boolsW, Option.map_eq_some_iff] at e
    obtain ⟨cs, e1, e2⟩ := e
    subst e2 h1
    rw [boolsW_ok e1 h3]
    have h2 : v = .bl b := h2
    rw [h2]; rfl
  | .non :: _, _, _, e, _ => by simp [boolsW] at e
  | .int _ :: _, _, _, e, _ => by simp [boolsW] at e
  | .str _ :: _, _, _, e, _ => by simp [boolsW] at e
  | .tup _ :: _, _, _, e, _ => by simp [boolsW] at e
  | .lst _ :: _, _, _, e, _ => by simp [boolsW] at e
  | .old _ :: _, _, _, e, _ => by simp [boolsW] at e
  | .ref _ :: _, _, _, e, _ => by simp [boolsW] at e
  | .raw _ :: _, _, _, e, _ => by simp [boolsW] at e
def intsW : List W → Option (List Int)
  | [] => some []
  | .int b :: ws => (intsW ws).map (b :: ·)
  | _ => none
theorem intsW_ok {z : Zn} {H : Hp} : ∀ {ws : List W} {bs : List Int} {vs : List V}, intsW ws = some bs → RWs K z H ws vs → vs = bs.map V.int
  | [], bs, vs, e, h => by cases e; exact h
  | .int b :: ws, bs, vs, e, ⟨v, r, h1, h2, h3⟩ => by
    simp only [intsW, Option.map_eq_some_iff] at e
    obtain ⟨cs, e1, e2⟩ := e
    subst e2 h1
    rw [intsW_ok e1 h3]
    have h2 : v = .int b := h2
    rw [h2]; rfl
  | .non :: _, _, _, e, _ => by simp [intsW] at e
  | .bl _ :: _, _, _, e, _ => by simp [intsW] at e
  | .str _ :: _, _, _, e, _ => by simp [intsW] at e
  | .tup _ :: _, _, _, e, _ => by simp [intsW] at e
  | .lst _ :: _, _, _, e, _ => by simp [intsW] at e
  | .old _ :: _, _, _, e, _ => by simp [intsW] at e
  | .ref _ :: _, _, _, e, _ => by simp [intsW] at e
  | .raw _ :: _, _, _, e, _ => by simp [intsW] at e
def anyW (m : Mem) : List W → Option W
  | [w] => match trkOf m w with
    | some ws => (boolsW ws).map fun bs => .bl (bs.any id)
    | none => none
  | _ => none
def allW (m : Mem) : List W → Option W
  | [w] => match trkOf m w with
    | some ws => (boolsW ws).map fun bs => .bl (bs.all id)
    | none => none
  | _ => none
theorem w_any : ClW K cl anyW (rAny K) := by
  intro z m H ws vs w Q M rws e k
  match ws, e, rws with
  | [u], e, rws =>
    obtain ⟨v, e1, e2⟩ := rws.one
    subst e1
    simp only [anyW] at e
    split at e
    · rename_i us q
      simp only [Option.map_eq_some_iff] at e
      obtain ⟨bs, e3, e4⟩ := e
      subst e4
      obtain ⟨p, xs, a1, a2, a3⟩ := trk_at M e2 q
      have := boolsW_ok e3 a3
      subst this a1
      exact ⟨p, bs, rfl, SqL.of a2, k z _ H (Ext.refl _ _) M rfl⟩
    · cases e
theorem w_all : ClW K cl allW (rAll K) := by
  intro z m H ws vs w Q M rws e k
  match ws, e, rws with
  | [u], e, rws =>
    obtain ⟨v, e1, e2⟩ := rws.one
    subst e1
    simp only [allW] at e
    split at e
    · rename_i us q
      simp only [Option.map_eq_some_iff] at e
      obtain ⟨bs, e3, e4⟩ := e
      subst e4
      obtain ⟨p, xs, a1, a2, a3⟩ := trk_at M e2 q
      have := boolsW_ok e3 a3
      subst this a1
      exact ⟨p, bs, rfl, SqL.of a2, k z _ H (Ext.refl _ _) M rfl⟩
    · cases e
def maxW (_ : Mem) : List W → Option W
  | [.int i, .int j] => some (.int (if j > i then j else i))
  | _ => none
def minW (_ : Mem) : List W → Option W
  | [.int i, .int j] => some (.int (if j < i then j else i))
  | _ => none
theorem w_max : ClW K cl maxW (fun xs H Q => ∃ i j, xs = [.int i, .int j] ∧ Q (.int (if j > i then j else i)) H) := by
  intro z m H ws vs w Q M rws e k
  unfold maxW at e
  split at e
  · rename_i i j
    cases e
    obtain ⟨v, r, h1, h2, v2, r2, h3, h4, h5⟩ := rws
    have h2 : v = .int i := h2
    have h4 : v2 = .int j := h4
    have h5 : r2 = [] := h5
    subst h1 h2 h3 h4 h5
    exact ⟨i, j, rfl, k z _ H (Ext.refl _ _) M rfl⟩
  · cases e
theorem w_min : ClW K cl minW (fun xs H Q => ∃ i j, xs = [.int i, .int j] ∧ Q (.int (if j < i then j else i)) H) := by
  intro z m H ws vs w Q M rws e k
  unfold minW at e
  split at e
  · rename_i i j
    cases e
    obtain ⟨v, r, h1, h2, v2, r2, h3, h4, h5⟩ := rws
    have h2 : v = .int i := h2
    have h4 : v2 = .int j := h4
    have h5 : r2 = [] := h5
    subst h1 h2 h3 h4 h5
    exact ⟨i, j, rfl, k z _ H (Ext.refl _ _) M rfl⟩
  · cases e
/-! ### is of boolsW -/
def isBW (_ : Mem) (a b : W) : Option W := match a, b with
  | .bl x, .bl y => some (.bl (decide (x = y)))
  | _, _ => none
theorem w_isB : OpW K cl isBW rIsB := by
  intro z m H a b x y w Q M ra rb e k
  unfold isBW at e
  split at e
  · cases e
    exact ⟨_, _, ra, rb, k z _ H (Ext.refl _ _) M rfl⟩
  · cases e
end
end Dn

/-! D14: list(range ..), xs.index(x). -/
namespace Dn
open PySem PySem.Spec PyProof.Rows L2
section
variable {X : Cx} {K : PySem.W.Frag} {cl : Clz} {Wx : WX} {a b e o : Expr} {pos : Pos}
def rgW (a b : Int) : List W := (List.range (b - a).toNat).map fun i => W.int (a + (i : Nat))
theorem rgW_ok {z : Zn} {H : Hp} (a b : Int) : RWs K z H (rgW a b) (rgV a b) := by
  unfold rgW rgV
  generalize List.range (b - a).toNat = l
  induction l with
  | nil => exact rfl
  | cons i l ih => exact ⟨_, _, rfl, rfl, ih⟩
def aRg1 (f : DE) : DA := fun r m => (f r m).bind fun w m1 => match w with
  | .int n => if 0 ≤ n ∧ n ≤ 16777216 then .ok (rgW 0 n) m1 else .bad
  | _ => .bad
def aRg2 (f g : DE) : DA := fun r m => (f r m).bind fun w m1 => (g r m1).bind fun u m2 => match w, u with
  | .int i, .int j => if 0 ≤ i ∧ j ≤ 16777216 ∧ i ≤ 16777216 ∧ 0 ≤ j then .ok (rgW i j) m2 else .bad
  | _, _ => .bad
theorem sn_lrg1 {f : DE} {p p2 pos2 : Pos} (hc : X.calm = true) (hl : X.mg "list" = none) (hr : X.mg "range" = none) (ha : PE X a (tE (gx X cl Wx) f)) (gl : Gl X "list" := by rfl) (gr : Gl X "range" := by rfl)
    (na : starEach [a] X.env = (false, eval a X.env) :: starEach [] X.env := by rfl) (nb : starEach [.Call (.Name "range" p2) [a] [] pos2] X.env = (false, eval (.Call (.Name "range" p2) [a] [] pos2) X.env) :: starEach [] X.env := by rfl) :
    PE X (.Call (.Name "list" p) [.Call (.Name "range" p2) [a] [] pos2] [] pos) (tN (gx X cl Wx) (aRg1 f)) :=
  (pe_listRg hc gl hl (prg_1 gr hr ha na) nb).imp fun s H Q ⟨r, m, z, R, P⟩ => by
    refine ⟨r, m, z, R, P.bind fun z1 w m1 v H1 E1 R1 r1 P1 => ?_⟩
    cases w with
    | int n =>
      have r1 : v = .int n := r1
      simp only at P1
      split at P1
      · rename_i h
        refine ⟨n, r1, RgOk.of_le (by omega) h.2 (by omega) h.1, fun q hq => ?_⟩
        obtain ⟨e1, M1, q1⟩ := new_rel (cl := cl) R1.mem hq (rgW_ok 0 n)
        exact P1 z1 _ _ e1 (R1.after e1 M1) q1
      · exact P1.elim
    | _ => exact P1.elim
theorem sn_lrg2 {f g : DE} {p p2 pos2 : Pos} (hc : X.calm = true) (hl : X.mg "list" = none) (hr : X.mg "range" = none) (ha : PE X a (tE (gx X cl Wx) f)) (hb : PE X b (tE (gx X cl Wx) g)) (gl : Gl X "list" := by rfl) (gr : Gl X "range" := by rfl)
    (na : starEach [a, b] X.env = (false, eval a X.env) :: starEach [b] X.env := by rfl) (nb : starEach [b] X.env = (false, eval b X.env) :: starEach [] X.env := by rfl) (hp : (backTo pos2 (starEach [b] X.env)).any (·.1) = false := by rfl)
    (nc : starEach [.Call (.Name "range" p2) [a, b] [] pos2] X.env = (false, eval (.Call (.Name "range" p2) [a, b] [] pos2) X.env) :: starEach [] X.env := by rfl) :
    PE X (.Call (.Name "list" p) [.Call (.Name "range" p2) [a, b] [] pos2] [] pos) (tN (gx X cl Wx) (aRg2 f g)) :=
  (pe_listRg hc gl hl (prg_2 gr hr ha hb na nb hp) nc).imp fun s H Q ⟨r, m, z, R, P⟩ => by
    refine ⟨r, m, z, R, P.bind fun z1 w m1 v H1 E1 R1 r1 P1 => ?_⟩
    refine ⟨r, m1, z1, R1, P1.bind fun z2 u m2 v2 H2 E2 R2 r2 P2 => ?_⟩
    split at P2
    · rename_i i j
      have r1 : v = .int i := r1
      have r2 : v2 = .int j := r2
      split at P2
      · rename_i h
        refine ⟨i, j, r1, r2, RgOk.of_le h.1 h.2.1 h.2.2.1 h.2.2.2, fun q hq => ?_⟩
        obtain ⟨e1, M1, q1⟩ := new_rel (cl := cl) R2.mem hq (rgW_ok i j)
        exact P2 z2 _ _ e1 (R2.after e1 M1) q1
      · exact P2.elim
    · exact P2.elim
/-! ### xs.index(x) -/
def toV : W → Option V
  | .non => some .non
  | .bl b => some (.bl b)
  | .int i => some (.int i)
  | .str x => some (.str x)
  | _ => none
theorem toV_ok {z : Zn} {H : Hp} {w : W} {v u : V} (e : toV w = some u) (h : RW K z H w v) : v = u ∧ flatV u = true := by
  cases w <;> simp only [toV, Option.some.injEq] at e
  all_goals first
    | (subst e; exact ⟨h, rfl⟩)
    | cases e
def toVs : List W → Option (List V)
  | [] => some []
  | w :: ws => match toV w, toVs ws with
    | some v, some vs => some (v :: vs)
    | _, _ => none
theorem toVs_ok {z : Zn} {H : Hp} : ∀ {ws : List W} {us vs : List V}, toVs ws = some us → RWs K z H ws vs → vs = us ∧ us.all flatV = true
  | [], us, vs, e, h => by cases e; exact ⟨h, rfl⟩
  | w :: ws, us, vs, e, ⟨v, r, h1, h2, h3⟩ => by
    simp only [toVs] at e
    split at e
    · rename_i u us' e1 e2
      cases e
      obtain ⟨q1, q2⟩ := toV_ok e1 h2
      obtain ⟨q3, q4⟩ := toVs_ok e2 h3
      subst h1 q1 q3
      exact ⟨rfl, by rw [List.all_cons, q2, q4]; rfl⟩
    · cases e
def findV (y : V) : List V → Option Nat
  | [] => none
  | x :: xs => match eqV x y with
    | true => some 0
    | false => (findV y xs).map (· + 1)
theorem findV_ok {y : V} : ∀ {ys : List V} {j : Nat}, findV y ys = some j → ∃ z, ys[j]? = some z ∧ eqV z y = true ∧ ∀ (m : Nat) (z' : V), m < j → ys[m]? = some z' → eqV z' y = false
  | [], _, e => by cases e
  | x :: xs, j, e => by
    simp only [findV] at e
    split at e
    · rename_i h
      cases e
      exact ⟨x, rfl, h, fun m z' hm => absurd hm (Nat.not_lt_zero _)⟩
    · rename_i h
      simp only [Option.map_eq_some_iff] at e
      obtain ⟨i, e1, e2⟩ := e
      subst e2
      obtain ⟨z, q1, q2, q3⟩ := findV_ok e1
      refine ⟨z, by simpa using q1, q2, fun m z' hm hz => ?_⟩
      cases m with
      | zero => simp at hz; subst hz; exact h
      | succ m => exact q3 m z' (by omega) (by simpa using hz)
def idxW (m : Mem) (w y : W) : Option W := match trkOf m w with
  | some ws => match toVs ws, toV y with
    | some us, some u => (findV u us).map fun j => .int (j : Nat)
    | _, _ => none
  | none => none
def eIdx (fo fe : DE) : DE := fun r m => (fo r m).bind fun w m1 => match trkOf m1 w with
  | some _ => (fe r m1).bind fun y m2 => match idxW m2 w y with
    | some u => .ok u m2
    | none => .bad
  | none => .bad
theorem se_idx {fo fe : DE} {apos : Pos} (ho : PE X o (tE (gx X cl Wx) fo)) (he : PE X e (tE (gx X cl Wx) fe))
    (hbase : attributeBase o "index" X.env (eval o X.env) = eval o X.env := by rfl)
    (hfew : ((backTo pos (starEach [e] X.env)).all (fun x => !x.1) && (backToKw pos (keywordEach [] X.env)).all (fun x => x.1.isSome)
      && decide ([e].length + ([] : List Keyword).length + (if ([] : List Keyword).isEmpty then 0 else 1) < 30)) = true := by rfl)
    (hline : (apos.endLine == pos.line) = true := by rfl) (hs : starEach [e] X.env = (false, eval e X.env) :: starEach [] X.env := by rfl) (hplain : (backTo pos (starEach [] X.env)).any (·.1) = false := by rfl) :
    PE X (.Call (.Attribute o "index" apos) [e] [] pos) (tE (gx X cl Wx) (eIdx fo fe)) :=
  (pe_bm PySem.F.plainAttrs_list PySem.F.slot_list_index PySem.F.type_list_index mt_index ho (pa_cons he pa_nil hs) hbase hfew hline hs hplain).imp fun s H Q ⟨r, m, z, R, P⟩ => by
    refine ⟨r, m, z, R, P.bind fun z1 w m1 v H1 E1 R1 r1 P1 => ?_⟩
    split at P1
    · rename_i ws e1
      obtain ⟨p, vs, a1, a2, a3⟩ := trk_at R1.mem r1 e1
      subst a1
      refine ⟨.inl ⟨rfl, vs, SqL.of a2⟩, r, m1, z1, R1, P1.bind fun z2 y m2 v2 H2 E2 R2 r2 P2 => ?_⟩
      split at P2
      · rename_i u e2
        unfold idxW at e2
        split at e2
        · rename_i ws2 e3
          split at e2
          · rename_i us yv e4 e5
            simp only [Option.map_eq_some_iff] at e2
            obtain ⟨j, e6, e7⟩ := e2
            subst e7
            obtain ⟨p2, vs2, b1, b2, b3⟩ := trk_at R2.mem (RW.ext E2 r1) e3
            cases b1
            obtain ⟨c1, c2⟩ := toVs_ok e4 b3
            obtain ⟨c3, c4⟩ := toV_ok e5 r2
            subst c1 c3
            obtain ⟨zv, d1, d2, d3⟩ := findV_ok e6
            exact ⟨p, vs2, v2, j, zv, rfl, rfl, SqL.of b2, c4, c2, d1, d2, d3, P2.ret R2 rfl⟩
          · cases e2
        · cases e2
      · exact P2.elim
    · exact P1.elim
end
end Dn

/-! D15: a method of a class of the module. -/
namespace Dn
open PySem PySem.Spec PyProof.Rows L2
def clsItem (s : Stmt) (j : Nat) : Stmt := match s with
  | .ClassDef _ _ _ b _ _ _ _ _ _ _ => b.getD j (.Pass ⟨0, 0, 0, 0⟩)
  | _ => .Pass ⟨0, 0, 0, 0⟩
structure FM (K : PySem.W.Frag) (C m q : Str) (st : Stmt) (ps : List Str) (fd : FuncData) : Prop where
  F : FunD K m q (defArgs st) (defBody st) (defScope st) [] [] (He.ma K (He.ga K C) m) fd
  b : Binds K fd ps []
end Dn

/-! D16: a call of plain data alone: the callee's memory is its own, what it gives is settled. -/
namespace Dn
open PySem PySem.Spec PyProof.Rows L2

mutual
def gW : W → Bool
  | .non => true
  | .bl _ => true
  | .int _ => true
  | .str _ => true
  | .tup xs => gWs xs
  | .lst xs => gWs xs
  | .old xs => gWs xs
  | .ref _ => false
  | .raw _ => true
def gWs : List W → Bool
  | [] => true
  | w :: ws => gW w && gWs ws
end
mutual
/-- what is told, with what f tells in the place of the memory's objects -/
def frzA (f : Nat → Option W) : W → Option W
  | .non => some .non
  | .bl b => some (.bl b)
  | .int i => some (.int i)
  | .str x => some (.str x)
  | .tup xs => (frzAs f xs).map .tup
  | .lst xs => (frzAs f xs).map .lst
  | .old xs => (frzAs f xs).map .old
  | .ref n => f n
  | .raw v => some (.raw v)
def frzAs (f : Nat → Option W) : List W → Option (List W)
  | [] => some []
  | w :: ws => match frzA f w with
    | some w' => (frzAs f ws).map fun r => w' :: r
    | none => none
end
/-- the lists of the memory settled -/
def frzR (m : Mem) : Nat → Nat → Option W
  | 0, _ => none
  | k + 1, n => match m[n]? with
    | some (.lst xs) => (frzAs (frzR m k) xs).map .lst
    | some (.fz xs) => (frzAs (frzR m k) xs).map .lst
    | _ => none
def frzW (m : Mem) (k : Nat) (w : W) : Option W := frzA (frzR m k) w
def frzF (m : Mem) (k : Nat) : List (Str × W) → Option (List (Str × W))
  | [] => some []
  | (x, w) :: r => match frzW m k w with
    | some w' => (frzF m k r).map fun q => (x, w') :: q
    | none => none
/-- of plain data alone, by a memory of its own -/
def pw (g : Fw) : Fw := fun ws m => if gWs ws = true then match g ws [] with
    | .ok w m1 => match frzW m1 6 w with
      | some w' => .ok w' m
      | none => .bad
    | .exc x m1 => match frzF m1 6 x.fs with
      | some fs => .exc ⟨x.cls, fs⟩ m
      | none => .bad
    | .bad => .bad
  else .bad

section
variable {K : PySem.W.Frag} {cl : Clz} {z z' : Zn} {H H' : Hp} {m : Mem}
mutual
theorem RW.ground (hz : ∀ a, z.Z a → z'.Z a) : ∀ {w : W} {v : V}, gW w = true → RW K z H w v → RW K z' H w v
  | .non, _, _, h => h
  | .bl _, _, _, h => h
  | .int _, _, _, h => h
  | .str _, _, _, h => h
  | .tup ws, _, g, ⟨a, vs, h1, h2, h3⟩ => ⟨a, vs, h1, h2, RWs.ground hz (by simpa [gW] using g) h3⟩
  | .lst ws, _, g, ⟨a, vs, h1, h2, h3⟩ => ⟨a, vs, h1, ⟨hz a h2.1, h2.2⟩, RWs.ground hz (by simpa [gW] using g) h3⟩
  | .old ws, _, g, ⟨a, vs, h1, h2, h3⟩ => ⟨a, vs, h1, h2, RWs.ground hz (by simpa [gW] using g) h3⟩
  | .ref n, _, g, _ => by simp [gW] at g
  | .raw _, _, _, h => h
theorem RWs.ground (hz : ∀ a, z.Z a → z'.Z a) : ∀ {ws : List W} {vs : List V}, gWs ws = true → RWs K z H ws vs → RWs K z' H ws vs
  | [], _, _, h => h
  | _ :: _, _, g, ⟨v, r, h1, h2, h3⟩ => by
    rw [gWs, Bool.and_eq_true_iff] at g
    exact ⟨v, r, h1, RW.ground hz g.1 h2, RWs.ground hz g.2 h3⟩
end
theorem frzAs_some {f : Nat → Option W} {xs : List W} {c : List W → W} {w : W} (h : (frzAs f xs).map c = some w) : ∃ ys, frzAs f xs = some ys ∧ c ys = w := by
  cases q : frzAs f xs with
  | none => rw [q] at h; cases h
  | some ys => rw [q] at h; cases h; exact ⟨ys, rfl, rfl⟩
mutual
theorem RW.frA {f : Nat → Option W} (hz : ∀ a, z.Z a → z'.Z a) (hf : ∀ n u v, f n = some u → RW K z H (.ref n) v → RW K z' H u v) : ∀ {w u : W} {v : V}, frzA f w = some u → RW K z H w v → RW K z' H u v
  | .non, _, _, e, h => by simp [frzA] at e; subst e; exact h
  | .bl _, _, _, e, h => by simp [frzA] at e; subst e; exact h
  | .int _, _, _, e, h => by simp [frzA] at e; subst e; exact h
  | .str _, _, _, e, h => by simp [frzA] at e; subst e; exact h
  | .tup ws, _, _, e, ⟨a, vs, h1, h2, h3⟩ => by
    rw [frzA] at e
    obtain ⟨ys, e1, e2⟩ := frzAs_some e
    subst e2
    exact ⟨a, vs, h1, h2, RWs.frA hz hf e1 h3⟩
  | .lst ws, _, _, e, ⟨a, vs, h1, h2, h3⟩ => by
    rw [frzA] at e
    obtain ⟨ys, e1, e2⟩ := frzAs_some e
    subst e2
    exact ⟨a, vs, h1, ⟨hz a h2.1, h2.2⟩, RWs.frA hz hf e1 h3⟩
  | .old ws, _, _, e, ⟨a, vs, h1, h2, h3⟩ => by
    rw [frzA] at e
    obtain ⟨ys, e1, e2⟩ := frzAs_some e
    subst e2
    exact ⟨a, vs, h1, h2, RWs.frA hz hf e1 h3⟩
  | .ref n, _, _, e, h => hf n _ _ (by rw [frzA] at e; exact e) h
  | .raw _, _, _, e, h => by simp [frzA] at e; subst e; exact h
theorem RWs.frA {f : Nat → Option W} (hz : ∀ a, z.Z a → z'.Z a) (hf : ∀ n u v, f n = some u → RW K z H (.ref n) v → RW K z' H u v) : ∀ {ws us : List W} {vs : List V}, frzAs f ws = some us → RWs K z H ws vs → RWs K z' H us vs
  | [], _, _, e, h => by simp [frzAs] at e; subst e; exact h
  | w :: ws, _, _, e, ⟨v, r, h1, h2, h3⟩ => by
    rw [frzAs] at e
    split at e
    · rename_i w' e1
      cases q : frzAs f ws with
      | none => rw [q] at e; cases e
      | some ys =>
        rw [q] at e
        simp at e
        subst e
        exact ⟨v, r, h1, RW.frA hz hf e1 h2, RWs.frA hz hf q h3⟩
    · cases e
end
theorem RW.frR (M : MemOk K cl z m H) (hz : ∀ a, z.Z a → z'.Z a) (hp : ∀ a xs, a ∈ z.phi → H a = some (.lst xs) → z'.Z a) : ∀ (k n : Nat) (u : W) (v : V), frzR m k n = some u → RW K z H (.ref n) v → RW K z' H u v
  | 0, _, _, _, e, _ => by simp [frzR] at e
  | k + 1, n, u, v, e, ⟨a, h1, h2⟩ => by
    obtain ⟨c, q1, q2⟩ := M.at h1
    have ha : a ∈ z.phi := List.mem_of_getElem? h1
    cases c with
    | lst ws =>
      simp only [frzR, q1] at e
      obtain ⟨ys, e1, e2⟩ := frzAs_some e
      subst e2
      obtain ⟨_, _, vs, q3, q4⟩ := q2
      exact ⟨a, vs, h2, ⟨hp a vs ha q3, q3⟩, RWs.frA hz (RW.frR M hz hp k) e1 q4⟩
    | fz ws =>
      simp only [frzR, q1] at e
      obtain ⟨ys, e1, e2⟩ := frzAs_some e
      subst e2
      obtain ⟨_, vs, q3, q4⟩ := q2
      exact ⟨a, vs, h2, ⟨hp a vs ha q3, q3⟩, RWs.frA hz (RW.frR M hz hp k) e1 q4⟩
    | dct _ => simp [frzR, q1] at e
    | ins _ _ => simp [frzR, q1] at e
    | exn c fs => simp [frzR, q1] at e
    | dtt _ => simp [frzR, q1] at e
theorem RW.frozen (M : MemOk K cl z m H) (hz : ∀ a, z.Z a → z'.Z a) (hp : ∀ a xs, a ∈ z.phi → H a = some (.lst xs) → z'.Z a) (k : Nat) {w u : W} {v : V} (e : frzW m k w = some u) (h : RW K z H w v) : RW K z' H u v := RW.frA hz (RW.frR M hz hp k) e h
theorem RFs.frozen (M : MemOk K cl z m H) (hz : ∀ a, z.Z a → z'.Z a) (hp : ∀ a xs, a ∈ z.phi → H a = some (.lst xs) → z'.Z a) (k : Nat) : ∀ {ws us : List (Str × W)} {vs : List (Str × V)}, frzF m k ws = some us → RFs K z H ws vs → RFs K z' H us vs
  | [], _, _, e, h => by simp [frzF] at e; subst e; exact h
  | (x, w) :: ws, _, _, e, ⟨v, r, h1, h2, h3⟩ => by
    simp only [frzF] at e
    split at e
    · rename_i w' e1
      cases q : frzF m k ws with
      | none => rw [q] at e; cases e
      | some ys =>
        rw [q] at e
        simp at e
        subst e
        exact ⟨v, r, h1, RW.frozen M hz hp k e1 h2, RFs.frozen M hz hp k q h3⟩
    · cases e
/-- the callee's view: all of the memory is held -/
abbrev Zn.own (z : Zn) : Zn := { Z := z.Z, hold := fun a => z.hold a ∨ a ∈ z.phi ∧ ¬ z.Z a, phi := [] }
/-- the caller's again: what the callee's memory has of lists is settled -/
abbrev Zn.out (z z' : Zn) (H' : Hp) : Zn := { Z := fun a => z'.Z a ∨ a ∈ z'.phi ∧ ∃ xs, H' a = some (.lst xs), hold := z.hold, phi := z.phi }
theorem MemOk.own (M : MemOk K cl z m H) (ht : ∀ z H, cl.G z H) : MemOk K cl z.own [] H := by
  refine ⟨rfl, List.nodup_nil, ?_, M.lz, ?_, ?_, M.tb, ht _ _⟩
  · rintro a q (h | ⟨_, h⟩)
    · exact M.sep a q h
    · exact h q
  · rintro a (h | ⟨h, _⟩)
    · exact M.lh a h
    · obtain ⟨n, e⟩ := List.getElem?_of_mem h
      obtain ⟨c, _, hc⟩ := M.at e
      exact hc.thereX
  · intro n a c h
    simp at h
theorem CellOk.nohold {a : Addr} {c : Cell} (M : MemOk K cl z m H) (h : CellOk K cl z H a c) : ¬ z.hold a := by
  cases c with
  | lst ws => exact h.2.1
  | fz ws => exact M.sep a h.1
  | dct kvs => exact h.1
  | ins c fs => exact h.1
  | exn c fs => exact h.1
  | dtt kvs => exact h.1
theorem MemOk.back {m' : Mem} (M : MemOk K cl z m H) (e : Ext z.own H z' H') (M' : MemOk K cl z' m' H') : Ext z H (z.out z' H') H' ∧ MemOk K cl (z.out z' H') m H' := by
  have np : ∀ a, a ∈ z'.phi → ¬ z'.hold a := fun a h => by
    obtain ⟨n, e1⟩ := List.getElem?_of_mem h
    obtain ⟨c, _, hc⟩ := M'.at e1
    exact hc.nohold M'
  have e0 : Ext0 z H (z.out z' H') H' := ⟨e.e0.tups, e.e0.frzs, fun a q => ⟨.inl (e.e0.zs a q).1, (e.e0.zs a q).2⟩, fun _ _ h => h, e.e0.xts⟩
  have ex : Ext z H (z.out z' H') H' := ⟨e0, fun a q => ⟨q, (e.hs a (.inl q)).2⟩⟩
  refine ⟨ex, M.len, M.nd, ?_, ?_, ?_, ?_, M'.tb, cl.gx e0 M.gh⟩
  · rintro a (q | ⟨q, _⟩) h
    · exact M'.sep a q (e.hs a (.inl h)).1
    · exact np a q (e.hs a (.inl h)).1
  · rintro a (q | ⟨_, q⟩)
    · exact M'.lz a q
    · exact q
  · intro a q
    rw [(e.hs a (.inl q)).2]
    exact M.lh a q
  · intro n a c h1 h2
    have hc := M.cells n a c h1 h2
    have ha : a ∈ z.phi := List.mem_of_getElem? h1
    by_cases hz : z.Z a
    · refine hc.ext2 e0 ⟨fun _ => hz, fun _ => .inl (e.e0.zs a hz).1⟩ (fun q => q) (e.e0.zs a hz).2
    · have hh := e.hs a (.inr ⟨ha, hz⟩)
      refine hc.ext2 e0 ⟨?_, fun q => absurd q hz⟩ (fun q => q) hh.2
      rintro (q | ⟨q, _⟩)
      · exact absurd hh.1 (M'.sep a q)
      · exact absurd hh.1 (np a q)
theorem spOf_pw {n : Nat} {g : Fw} {vs : List V} {Q : VK} {E : XK} (ht : ∀ z H, cl.G z H) (h : spOf K cl n (pw g) vs H Q E) : spOf K cl n g vs H Q E := by
  obtain ⟨ws, m, z, hl, M, rw', p⟩ := h
  unfold pw at p
  split at p
  · rename_i hg
    refine ⟨ws, [], z.own, hl, M.own ht, RWs.ground (z := z) (z' := z.own) (fun a q => q) hg rw', ?_⟩
    cases q : g ws [] with
    | bad => rw [q] at p; exact p
    | ok w m1 =>
      rw [q] at p
      simp only at p
      intro z' v H' e M' r
      split at p
      · rename_i w' e1
        obtain ⟨ex, M2⟩ := M.back e M'
        exact p _ v H' ex M2 (RW.frozen (z' := z.out z' H') M' (fun a q => .inl q) (fun a xs q1 q2 => .inr ⟨q1, xs, q2⟩) 6 e1 r)
      · exact p.elim
    | exc x m1 =>
      rw [q] at p
      simp only at p
      intro z' H' c d e M' r
      split at p
      · rename_i fs e1
        obtain ⟨ex, M2⟩ := M.back e M'
        obtain ⟨r1, dd, fs', r2, r3, r4⟩ := r
        exact p _ H' c d ex M2 ⟨r1, dd, fs', r2, r3, RFs.frozen (z' := z.out z' H') M' (fun a q => .inl q) (fun a xs q1 q2 => .inr ⟨q1, xs, q2⟩) 6 e1 r4⟩
      · exact p.elim
  · exact p.elim
theorem fn_pw {P : Program} {w : World} {mg : Str → Option Value} {base : Heap} {k n : Nat} {f : Addr} {fd : FuncData} {ps : List Str} {g : Fw} (F : FnG P w K mg base k f fd ps (spOf K cl n g)) (ht : ∀ z H, cl.G z H := by intro _ _; trivial) : FnG P w K mg base k f fd ps (spOf K cl n (pw g)) :=
  ⟨fun vs H Q E h => F.len vs H Q E (spOf_pw ht h), fun A outer s H args us vs Q E hr e0 hb rv h => F.run A outer s H args us vs Q E hr e0 hb rv (spOf_pw ht h)⟩
end
theorem pw_ok {g : Fw} {ws : List W} {m m1 : Mem} {w w' : W} (h1 : gWs ws = true) (h2 : g ws [] = .ok w m1) (h3 : frzW m1 6 w = some w') : pw g ws m = .ok w' m := by
  unfold pw
  rw [if_pos h1, h2]
  simp only [h3]
end Dn

/-! D17: sorted of a list of data. -/
namespace Dn
open PySem PySem.Spec PyProof.Rows L2

/-! ### insertion, the same as the library's sort -/
section
variable {α : Type} (le : α → α → Bool)
def insB (a : α) : List α → List α
  | [] => [a]
  | b :: l => if le a b = true then a :: b :: l else b :: insB a l
def isort : List α → List α
  | [] => []
  | a :: l => insB le a (isort l)
theorem insB_at {a : α} : ∀ {l r : List α}, (∀ b, b ∈ l → (!le a b) = true) → (∀ b, r.head? = some b → le a b = true) → insB le a (l ++ r) = l ++ a :: r
  | [], [], _, _ => rfl
  | [], b :: r, _, h => by simp [insB, h b rfl]
  | b :: l, r, h1, h2 => by
    have hb : le a b = false := by simpa using h1 b (.head _)
    rw [List.cons_append, insB, hb, if_neg (by decide), insB_at (fun c q => h1 c (.tail _ q)) h2]
    rfl
theorem isort_eq (tr : ∀ a b c : α, le a b = true → le b c = true → le a c = true) (to : ∀ a b : α, (le a b || le b a) = true) : ∀ l : List α, l.mergeSort le = isort le l
  | [] => by simp [isort]
  | a :: l => by
    obtain ⟨l1, l2, e1, e2, h⟩ := List.mergeSort_cons (le := le) (fun a b c => tr a b c) (fun a b => to a b) a l
    have ss := List.pairwise_mergeSort (le := le) (fun a b c => tr a b c) (fun a b => to a b) (a :: l)
    rw [e1] at ss ⊢
    rw [isort, ← isort_eq tr to l, e2, insB_at le h]
    intro b hb
    have s2 := (List.pairwise_append.mp ss).2.1
    cases l2 with
    | nil => cases hb
    | cons c r =>
      simp at hb
      subst hb
      exact (List.pairwise_cons.mp s2).1 _ (.head _)
theorem isort_map {β : Type} {f : β → α} : ∀ l : List β, isort le (l.map f) = (isort (fun x y => le (f x) (f y)) l).map f
  | [] => rfl
  | x :: l => by
    have ins : ∀ l : List β, insB le (f x) (l.map f) = (insB (fun x y => le (f x) (f y)) x l).map f := fun l => by
      induction l with
      | nil => rfl
      | cons y l ih =>
        simp only [List.map_cons, insB]
        split
        · rfl
        · rw [ih]; rfl
    rw [List.map_cons, isort, isort_map l, ins, isort]
theorem insB_perm (a : α) : ∀ l : List α, (insB le a l).Perm (a :: l)
  | [] => .refl _
  | b :: l => by
    unfold insB
    split
    · exact .refl _
    · exact ((insB_perm a l).cons b).trans (List.Perm.swap a b l)
theorem isort_perm : ∀ l : List α, (isort le l).Perm l
  | [] => .refl _
  | a :: l => (insB_perm le a _).trans ((isort_perm l).cons a)
end
theorem dataLe_isort {β : Type} (k : β → PyData) (l : List β) : l.mergeSort (PySem.W.dataLe false k) = isort (PySem.W.dataLe false k) l := by
  have t : PySem.W.TotalLe (PySem.W.dataLe false k) := PySem.W.sortLe_total (listOrd itemOrd) false fun b => PySem.W.keyToks (k b)
  exact isort_eq _ t.trans (fun a b => Bool.or_eq_true_iff.mpr (t.total a b)) l

/-! ### sorted -/
def rSortD (K : PySem.W.Frag) : List V → Hp → VK → Prop := fun vs H Q => ∃ (a : Addr) (ps : List (PyData × V)), vs = [.ref a] ∧ SqL K H a (ps.map (·.2)) ∧ (∀ p, p ∈ ps → Dp K H p.2 p.1 ∧ p.1.depth ≤ 20) ∧
  PySem.W.AllAlike (ps.map (·.1)) ∧ PySem.W.Sortable (ps.map (·.1)) ∧ ∀ q, H q = none → Q (.ref q) (upd H q (.lst ((isort (PySem.W.dataLe false (·.1)) ps).map (·.2))))
theorem each_vals : ∀ {ps : List (PyData × V)} {us : List Value}, Vals (ps.map (·.2)) us → PySem.W.EachIs (fun u (p : PyData × V) => RelV p.2 u) us ps
  | [], _, h => by cases h; exact .nil
  | p :: ps, _, h => by
    cases h with
    | cons h1 h2 => exact .cons h1 (each_vals h2)
theorem vals_each : ∀ {ps : List (PyData × V)} {us : List Value}, PySem.W.EachIs (fun u (p : PyData × V) => RelV p.2 u) us ps → Vals (ps.map (·.2)) us
  | _, _, .nil => .nil
  | _, _, .cons h1 h2 => .cons h1 (vals_each h2)
theorem each_reads {X : Cx} {pins : List (Addr × Obj)} {σ : L2.St} {H : Hp} {s : Shared} (I : Inv X pins σ H s) : ∀ {ps : List (PyData × V)} {us : List Value}, (∀ p, p ∈ ps → Dp X.K H p.2 p.1 ∧ p.1.depth ≤ 20) → Vals (ps.map (·.2)) us → PySem.W.EachIs (fun u (p : PyData × V) => ∃ as, Reads s.heap u p.1 as) us ps
  | [], _, _, h => by cases h; exact .nil
  | p :: ps, _, hd, h => by
    cases h with
    | cons h1 h2 => exact .cons (Dp.reads I p.1 p.2 _ (hd p (.head _)).1 h1) (each_reads I (fun q m => hd q (.tail _ m)) h2)
theorem cr_sortD {X : Cx} (hu : X.A.units + 65 < cLine) : CallR X (.builtin "sorted") (rSortD X.K) := by
  intro pins s σ H vs us Q I r h
  obtain ⟨a, ps, rfl, hs, hd, hal, hk, q⟩ := h
  obtain ⟨its, rv, hl, hz⟩ := I.list hs
  obtain ⟨u, rfl, ru⟩ := vals1 r
  obtain rfl : u = Value.ref a := ru
  have hlen : ps.length ≤ sizeLine := by simpa using hz
  refine PySem.W.sorted_data (enc := fun p : PyData × V => p.1) (bs := ps) (R := fun u (p : PyData × V) => RelV p.2 u) hl.isList (each_vals rv) (each_reads I hd rv) hal hk hlen (fun p m => by have := (hd p m).2; omega) fun out ho he => ?_
  rw [dataLe_isort] at he
  have vv := vals_each he
  obtain ⟨n, hn⟩ := sortedAll_at s.heap its (List.toArray out)
  refine ⟨.ref (s.heap.objs.size + 1), _, I.laid (t' := s.toks) (o := .lst ((isort (PySem.W.dataLe false (·.1)) ps).map (·.2))) (fun b o e => sortedAll_old e) (Nat.le_succ _) ⟨?_, out, n, vv, hn⟩, rfl, q _ (I.hok.fresh (Nat.le_succ _))⟩
  rw [List.length_map, (isort_perm _ ps).length_eq]
  exact hlen
def alikeB (ws : List W) : Bool := ws.all fun a => ws.all fun b => PySem.W.alike (toD a) (toD b)
def tupB : W → Bool
  | .tup (_ :: _) => true
  | _ => false
def plainB : W → Bool
  | .bl _ => true
  | .int _ => true
  | .str _ => true
  | .lst _ => true
  | _ => false
def sortB (ws : List W) : Bool := ws.all tupB || ws.all plainB
def leD (a b : W) : Bool := PySem.W.dataLe false toD a b
def sortedW (m : Mem) : List W → Option (List W)
  | [w] => match lstOf m w with
    | some ws => if okWs 20 ws && (alikeB ws && sortB ws) then some (isort leD ws) else none
    | none => none
  | _ => none
section
variable {K : PySem.W.Frag} {cl : Clz}
theorem rws_zip {z : Zn} {H : Hp} : ∀ {ws : List W} {vs : List V}, RWs K z H ws vs → ∃ zs : List (W × V), zs.map (·.1) = ws ∧ zs.map (·.2) = vs ∧ ∀ p, p ∈ zs → RW K z H p.1 p.2
  | [], _, h => by cases h; exact ⟨[], rfl, rfl, fun p h => by cases h⟩
  | w :: ws, _, ⟨v, r, h1, h2, h3⟩ => by
    subst h1
    obtain ⟨zs, e1, e2, e3⟩ := rws_zip h3
    refine ⟨(w, v) :: zs, by simp [e1], by simp [e2], fun p h => ?_⟩
    rcases List.mem_cons.mp h with rfl | h
    · exact h2
    · exact e3 p h
theorem zip_rws {z : Zn} {H : Hp} : ∀ {zs : List (W × V)}, (∀ p, p ∈ zs → RW K z H p.1 p.2) → RWs K z H (zs.map (·.1)) (zs.map (·.2))
  | [], _ => rfl
  | p :: zs, h => ⟨p.2, _, rfl, h p (.head _), zip_rws fun q m => h q (.tail _ m)⟩
theorem okWs_mem {n : Nat} : ∀ {ws : List W}, okWs n ws = true → ∀ w, w ∈ ws → okW n w = true
  | [], _, _, h => by cases h
  | x :: ws, h, w, m => by
    rw [okWs, Bool.and_eq_true_iff] at h
    rcases List.mem_cons.mp m with rfl | m
    · exact h.1
    · exact okWs_mem h.2 w m
theorem w_sorted : ClN K cl sortedW (rSortD K) := by
  intro z m H ws vs us Q M rws e k
  match ws, e, rws with
  | [u], e, rws =>
    obtain ⟨v, e1, e2⟩ := rws.one
    subst e1
    simp only [sortedW] at e
    split at e
    · rename_i xs ex
      split at e
      · rename_i c
        rw [Bool.and_eq_true_iff, Bool.and_eq_true_iff] at c
        obtain ⟨c1, c2, c3⟩ := c
        cases e
        obtain ⟨a, vs, f1, f2, f3⟩ := lst_at M e2 ex
        subst f1
        obtain ⟨zs, g1, g2, g3⟩ := rws_zip f3
        have okz : ∀ p, p ∈ zs → okW 20 p.1 = true := fun p hp => okWs_mem c1 p.1 (by rw [← g1]; exact List.mem_map.mpr ⟨p, hp, rfl⟩)
        have em : ∀ (f : W → PyData), (zs.map fun p => (f p.1, p.2)).map (·.1) = xs.map f := fun f => by rw [← g1, List.map_map, List.map_map]; rfl
        have e2m : (zs.map fun p => (toD p.1, p.2)).map (·.2) = vs := by rw [← g2, List.map_map]; rfl
        refine ⟨a, zs.map fun p => (toD p.1, p.2), rfl, by rw [e2m]; exact f2, ?_, ?_, ?_, fun q hq => ?_⟩
        · intro p hp
          obtain ⟨w, hw, rfl⟩ := List.mem_map.mp hp
          exact ⟨dp_of (okz w hw) (g3 w hw), (okW_lay 20 w.1 (okz w hw)).2⟩
        · rw [em]
          intro d hd d' hd'
          obtain ⟨w, hw, rfl⟩ := List.mem_map.mp hd
          obtain ⟨w', hw', rfl⟩ := List.mem_map.mp hd'
          exact (List.all_eq_true.mp ((List.all_eq_true.mp c2) w hw)) w' hw'
        · rw [em]
          rcases Bool.or_eq_true_iff.mp c3 with h | h
          · refine .inl fun d hd => ?_
            obtain ⟨w, hw, rfl⟩ := List.mem_map.mp hd
            have := (List.all_eq_true.mp h) w hw
            cases w with
            | tup ys =>
              cases ys with
              | nil => cases this
              | cons y ys => exact ⟨toD y, toDs ys, by simp [toD, toDs]⟩
            | _ => cases this
          · refine .inr fun d hd => ?_
            obtain ⟨w, hw, rfl⟩ := List.mem_map.mp hd
            have := (List.all_eq_true.mp h) w hw
            cases w with
            | bl b => exact ⟨by simp [toD], fun xs => by simp [toD]⟩
            | int b => exact ⟨by simp [toD], fun xs => by simp [toD]⟩
            | str b => exact ⟨by simp [toD], fun xs => by simp [toD]⟩
            | lst b => exact ⟨by simp [toD], fun xs => by simp [toD]⟩
            | _ => cases this
        · have i1 : (isort (PySem.W.dataLe false (·.1)) (zs.map fun p => (toD p.1, p.2))).map (·.2) = (isort (fun p p' : W × V => leD p.1 p'.1) zs).map (·.2) := by
            rw [isort_map, List.map_map]
            rfl
          have i2 : isort leD xs = (isort (fun p p' : W × V => leD p.1 p'.1) zs).map (·.1) := by
            rw [← g1, isort_map]
          rw [i2] at k
          show Q (.ref q) (upd H q (.lst ((isort (PySem.W.dataLe false (·.1)) (zs.map fun p => (toD p.1, p.2))).map (·.2))))
          rw [i1]
          obtain ⟨t1, t2, t3⟩ := new_rel (cl := cl) M hq (zip_rws (zs := isort (fun p p' : W × V => leD p.1 p'.1) zs) fun p hp => g3 p ((isort_perm _ zs).mem_iff.mp hp))
          exact k _ _ _ t1 t2 t3
      · cases e
    · cases e
  | [], e, _ => cases e
  | _ :: _ :: _, e, _ => simp [sortedW] at e
theorem boot_sorted : bootBuiltins "sorted" = some (.builtin "sorted") := by decide +kernel
end
end Dn

/-! D18: targets that store into lists: a[i], b[j] = e. -/
namespace Dn
open PySem PySem.Spec PyProof.Rows L2
section
variable {X : Cx} {cl : Clz} {Wx : WX} {e o : Expr} {pos : Pos}
abbrev DM := W → Rho → Mem → RS
def PostM (g : Gx) (z : Zn) (H : Hp) (q : RS) (Q : L2.St → Hp → Prop) : Prop := match q with
  | .next r m => ∀ z' s' H', Ext z H z' H' → Rel g.K g.cl z' r m s' H' → Q s' H'
  | _ => False
def tGm (g : Gx) (f : DM) : TG := fun v s H Q => ∃ w r m z, Rel g.K g.cl z r m s H ∧ RW g.K z H w v ∧ PostM g z H (f w r m) Q
def tGms (g : Gx) (f : List W → Rho → Mem → RS) : TGs := fun vs s H Q => ∃ ws r m z, Rel g.K g.cl z r m s H ∧ RWs g.K z H ws vs ∧ PostM g z H (f ws r m) Q
theorem PostM.mono {g : Gx} {z z1 : Zn} {H H1 : Hp} {q : RS} {Q : L2.St → Hp → Prop} (e : Ext z H z1 H1) (h : PostM g z H q Q) : PostM g z1 H1 q Q := by
  cases q with
  | next r m => exact fun z' s' H' e' => h z' s' H' (e.trans e')
  | _ => exact h
def gmN (i : Nat) : DM := fun w r m => .next (r.set i (some w)) m
def gmSub (fo fi : DE) : DM := fun v r m => match fo r m with
  | .ok w m1 => match fi r m1 with
    | .ok i m2 => match setM m2 w i v with
      | some m3 => .next r m3
      | none => .bad
    | _ => .bad
  | _ => .bad
def gmsNil : List W → Rho → Mem → RS := fun ws r m => match ws with
  | [] => .next r m
  | _ => .bad
def gmsCons (f : DM) (t : List W → Rho → Mem → RS) : List W → Rho → Mem → RS := fun ws r m => match ws with
  | w :: ws => match f w r m with
    | .next r1 m1 => t ws r1 m1
    | _ => .bad
  | [] => .bad
def gmT (n : Nat) (t : List W → Rho → Mem → RS) : DM := fun w r m => match w with
  | .tup ws => if ws.length = n then t ws r m else .bad
  | _ => .bad
theorem set_rel {K : PySem.W.Frag} {z : Zn} {m m' : Mem} {H : Hp} {w k v : W} {y u x : V} {Q : Hp → Prop} (M : MemOk K cl z m H) (ro : RW K z H w y) (r3 : RW K z H k u) (r1 : RW K z H v x) (e : setM m w k v = some m')
    (kk : ∀ z' H', Ext z H z' H' → MemOk K cl z' m' H' → Q H') : rSetL y u x H Q ∨ rSetD y u x H Q := by
  cases w with
  | ref n =>
    obtain ⟨p, q1, q2⟩ := ro
    subst q2
    simp only [setM] at e
    cases q : m[n]? with
    | none => rw [q] at e; cases e
    | some c =>
      rw [q] at e
      cases c with
      | lst xs =>
        cases k with
        | int j =>
          have r3 : u = .int j := r3
          subst r3
          simp only at e
          cases q4 : ixN xs.length j with
          | none => rw [q4] at e; cases e
          | some l =>
            rw [q4] at e
            cases e
            obtain ⟨n1, n2, us, h2, h3⟩ := M.cells n p _ q1 q
            refine .inl ⟨p, us, j, l, rfl, rfl, h2, by rw [h3.length]; exact q4, ?_⟩
            obtain ⟨ex, M2⟩ := M.write (c' := .lst (xs.set l v)) (o' := .lst (us.set l x)) q1 q rfl fun ex => ⟨n1, n2, _, upd_same, RWs.set (r1.ext ex) l (RWs.ext ex h3)⟩
            exact kk _ _ ex M2
        | _ => cases e
      | dct kvs =>
        simp only at e
        cases q4 : keyW k with
        | none => rw [q4] at e; cases e
        | some key =>
          rw [q4] at e
          simp only at e
          by_cases hl : kvs.length < 16777216
          · rw [if_pos hl] at e
            cases e
            obtain ⟨n2, us, h2, h3⟩ := M.cells n p _ q1 q
            have hy := key_rel r3 q4
            subst hy
            refine .inr ⟨p, _, rfl, DPut.k h2 (by rw [h3.length]; exact sl_lt hl), ?_⟩
            obtain ⟨ex, M2⟩ := M.write (c' := .dct (putW kvs key v)) (o' := .dK (putK us key x)) q1 q rfl fun ex => ⟨n2, _, upd_same, putW_rel (r1.ext ex) (RFs.ext ex h3)⟩
            exact kk _ _ ex M2
          · rw [if_neg hl] at e; cases e
      | fz xs => cases e
      | _ => cases e
  | _ => cases e
theorem sm_name {i : Nat} {x : Str} (h : PG X (.Name x pos) (gName i)) : PG X (.Name x pos) (tGm (gx X cl Wx) (gmN i)) :=
  h.imp fun v s H Q ⟨w, r, m, z, R, q, k⟩ => k z _ H (Ext.refl _ _) ⟨R.slots.set q, R.mem⟩
theorem sm_sub {fo fi : DE} {i : Expr} (hu : X.A.units + 1 < cLine) (ho : PE X o (tE (gx X cl Wx) fo)) (hi : PE X i (tE (gx X cl Wx) fi))
    (ha : ∀ v, assign (.Subscript o i pos) X.env v = (do
      let ov ← holding [v] (eval o X.env)
      let iv ← holding [v, ov] (eval i X.env)
      standAt pos
      holding [v, ov, iv] (setItem ov iv v)
      release [v, ov, iv] []) := by intro _; rfl) : PG X (.Subscript o i pos) (tGm (gx X cl Wx) (gmSub fo fi)) :=
  (pg_sub ho hi (PSet.or set_list (set_dict hu)) ha).imp fun v s H Q ⟨w, r, m, z, R, q, P⟩ => by
    unfold gmSub at P
    refine ⟨r, m, z, R, ?_⟩
    cases e1 : fo r m with
    | exc x m1 => rw [e1] at P; exact P.elim
    | bad => rw [e1] at P; exact P.elim
    | ok w1 m1 =>
      rw [e1] at P
      simp only at P
      intro z1 y H1 E1 R1 r1
      refine ⟨r, m1, z1, R1, ?_⟩
      cases e2 : fi r m1 with
      | exc x m2 => rw [e2] at P; exact P.elim
      | bad => rw [e2] at P; exact P.elim
      | ok i2 m2 =>
        rw [e2] at P
        simp only at P
        intro z2 u H2 E2 R2 r2
        cases e3 : setM m2 w1 i2 w with
        | none => rw [e3] at P; exact P.elim
        | some m3 =>
          rw [e3] at P
          have P := PostM.mono (E1.trans E2) P
          exact set_rel R2.mem (RW.ext E2 r1) r2 (RW.ext (E1.trans E2) q) e3 fun z' H' ex M => P z' s H' ex (R2.after ex M)
theorem sms_nil : PGs X [] (tGms (gx X cl Wx) gmsNil) := pgs_nil.imp fun vs s H Q ⟨ws, r, m, z, R, q, k⟩ => by
  cases ws with
  | nil => exact ⟨q, k z s H (Ext.refl _ _) R⟩
  | cons w ws => exact k.elim
theorem sms_cons {es : List Expr} {f : DM} {t : List W → Rho → Mem → RS} (h1 : PG X e (tGm (gx X cl Wx) f)) (h2 : PGs X es (tGms (gx X cl Wx) t))
    (hs : (assignEach (e :: es) X.env).map (·.2) = assign e X.env :: (assignEach es X.env).map (·.2) := by rfl) : PGs X (e :: es) (tGms (gx X cl Wx) (gmsCons f t)) :=
  (pgs_cons h1 h2 hs).imp fun vs s H Q ⟨ws, r, m, z, R, q, k⟩ => by
    cases ws with
    | nil => exact k.elim
    | cons w ws =>
      obtain ⟨v, vr, e1, q1, q2⟩ := q
      refine ⟨v, vr, e1, w, r, m, z, R, q1, ?_⟩
      simp only [gmsCons] at k
      cases e2 : f w r m with
      | next r1 m1 =>
        rw [e2] at k
        exact fun z' s' H' ex R' => ⟨ws, r1, m1, z', R', RWs.ext ex q2, PostM.mono ex k⟩
      | _ => rw [e2] at k; exact k.elim
theorem sm_tup {es : List Expr} {x1 : Nat} {t : List W → Rho → Mem → RS} {n : Nat} (hc : X.calm = true) (h : PGs X es (tGms (gx X cl Wx) t))
    (hn : (assignEach es X.env).length = n := by rfl) (hst : (assignEach es X.env).findIdx? (·.1) = none := by rfl) : PG X (.Tuple es x1 pos) (tGm (gx X cl Wx) (gmT n t)) :=
  (pg_tup hc h hn hst).imp fun v s H Q ⟨w, r, m, z, R, q, k⟩ => by
    cases w with
    | tup ws =>
      obtain ⟨p, vs, e1, e2, e3⟩ := q
      simp only [gmT] at k
      split at k
      · rename_i hl
        exact ⟨p, vs, e1, e2, by rw [e3.length]; exact hl, ws, r, m, z, R, e3, k⟩
      · exact k.elim
    | _ => exact k.elim
def sAsgM (f : DE) (t : DM) : DS := fun r m => (f r m).thenS r fun w m1 => match t w r m1 with
  | .next r' m2 => .next r' m2
  | _ => .bad
theorem ss_asgM {tg : Expr} {f : DE} {t : DM} (he : PE X e (tE (gx X cl Wx) f)) (hg : PG X tg (tGm (gx X cl Wx) t)) (hs : swapsWithSole [tg] e pos.line X.env = pure false := by rfl) (hw : swappedStores [tg] e X.env = pure none := by rfl)
    (h1 : (assignEach [tg] X.env).map (·.2) = [assign tg X.env] := by rfl) : PS X (.Assign [tg] e pos) (tS (gx X cl Wx) (sAsgM f t)) :=
  (ps_asg he hg hs hw h1).imp fun D s H ⟨r, m, z, R, P⟩ => ⟨r, m, z, R, P.bind fun z1 w m1 v H1 E1 R1 r1 P1 => by
    refine ⟨w, r, m1, z1, R1, r1, ?_⟩
    cases e2 : t w r m1 with
    | next r' m2 => rw [e2] at P1; exact fun z' s' H' ex R' => P1 z' s' H' ex R'
    | _ => rw [e2] at P1; exact P1.elim⟩
/-- a, b, c = x, y, z by names -/
def sPar3 (i j l : Nat) (t : DA) : DS := fun r m => (t r m).thenS r fun ws m1 => match ws with
  | [u, v, w] => .next (((r.set i (some u)).set j (some v)).set l (some w)) m1
  | _ => .bad
theorem ss_par3 {i j l : Nat} {x y z : Str} {a b c : Expr} {t : DA} {px py pz pt : Pos} {kt k2 pt2} (hc : X.calm = true) (hN : X.N.Nodup) (hi : X.N[i]? = some x) (hj : X.N[j]? = some y) (hl : X.N[l]? = some z) (hij : i ≠ j) (hil : i ≠ l) (hjl : j ≠ l)
    (hx : X.env.scope.names.lookup x = some .local) (hy : X.env.scope.names.lookup y = some .local) (hz : X.env.scope.names.lookup z = some .local) (ha : PA X [a, b, c] (tA (gx X cl Wx) t))
    (hw : swappedStores [.Tuple [.Name x px, .Name y py, .Name z pz] kt pt] (.Tuple [a, b, c] k2 pt2) X.env = pure (some [x, y, z]))
    (hs : swapsWithSole [.Tuple [.Name x px, .Name y py, .Name z pz] kt pt] (.Tuple [a, b, c] k2 pt2) pos.line X.env = pure false := by rfl) :
    PS X (.Assign [.Tuple [.Name x px, .Name y py, .Name z pz] kt pt] (.Tuple [a, b, c] k2 pt2) pos) (tS (gx X cl Wx) (sPar3 i j l t)) :=
  (ps_par3 hc hN hi hj hl hij hil hjl hx hy hz ha hw hs).imp fun D s H ⟨r, m, z, R, P⟩ => ⟨r, m, z, R, P.bind (rel := RWs X.K) fun z1 ws m1 vs H1 E1 R1 r1 P1 => by
    split at P1
    · obtain ⟨v, vr, e1, q1, v2, vr2, e2, q2, v3, vr3, e3, q3, e4⟩ := r1
      subst e1 e2 e3 e4
      exact ⟨v, v2, v3, rfl, P1 z1 _ H1 (Ext.refl _ _) ⟨((R1.slots.set q1).set q2).set q3, R1.mem⟩⟩
    · exact P1.elim⟩
/-- (a, b, ..) = a tuple or a list of that length -/
def gmU (n : Nat) (t : List W → Rho → Mem → RS) : DM := fun w r m => match seqOf m w with
  | some ws => if ws.length = n then t ws r m else .bad
  | none => .bad
theorem pg_any {es : List Expr} {k : Nat} {t : TGs} {n : Nat} (hc : X.calm = true) (h : PGs X es t)
    (hn : (assignEach es X.env).length = n := by rfl) (hst : (assignEach es X.env).findIdx? (·.1) = none := by rfl) : PG X (.Tuple es k pos) (fun v s H Q => gTup X.K n t v s H Q ∨ gUnl X.K n t v s H Q) :=
  ⟨fun pins sh s H v u Q I rv q => q.elim (fun q => (pg_tup hc h hn hst).run pins sh s H v u Q I rv q) fun q => (pg_unl hc h hn hst).run pins sh s H v u Q I rv q⟩
theorem sm_unp {es : List Expr} {x1 : Nat} {t : List W → Rho → Mem → RS} {n : Nat} (hc : X.calm = true) (h : PGs X es (tGms (gx X cl Wx) t))
    (hn : (assignEach es X.env).length = n := by rfl) (hst : (assignEach es X.env).findIdx? (·.1) = none := by rfl) : PG X (.Tuple es x1 pos) (tGm (gx X cl Wx) (gmU n t)) :=
  (pg_any hc h hn hst).imp fun v s H Q ⟨w, r, m, z, R, q, k⟩ => by
    unfold gmU at k
    cases e0 : seqOf m w with
    | none => rw [e0] at k; exact k.elim
    | some ws =>
      rw [e0] at k
      simp only at k
      split at k
      · rename_i hl
        obtain ⟨p, vs, e1, e2, e3⟩ := seq_at R.mem q e0
        rcases e2 with e2 | e2
        · exact .inr ⟨p, vs, e1, e2, by rw [e3.length]; exact hl, ws, r, m, z, R, e3, k⟩
        · exact .inl ⟨p, vs, e1, e2, by rw [e3.length]; exact hl, ws, r, m, z, R, e3, k⟩
      · exact k.elim
def loopM (t : DM) (body : DS) : List W → Rho → Mem → RS
  | [], r, m => .next r m
  | w :: ws, r, m => match t w r m with
    | .next r1 m1 => match body r1 m1 with
      | .next r2 m2 => loopM t body ws r2 m2
      | .cont r2 m2 => loopM t body ws r2 m2
      | .brk r2 m2 => .next r2 m2
      | .ret u m2 => .ret u m2
      | .exc x r2 m2 => .exc x r2 m2
      | .bad => .bad
    | _ => .bad
def sForM (src : DA) (t : DM) (body : DS) : DS := fun r m => (src r m).thenS r fun ws m1 => loopM t body ws r m1
theorem ss_forM {tg iter : Expr} {body : List Stmt} {src : DA} {t : DM} {fb : DS} (hp : PassesOwn (model X.prog X.w) X.A X.env X.xe) (hc : X.calm = true) (hi : PI X tg iter (tI (gx X cl Wx) src)) (hg : PG X tg (tGm (gx X cl Wx) t)) (hb : PSs X body (tS (gx X cl Wx) fb))
    (hs : ∀ x, foldedSetIterable iter X.env x = pure x := by intro _; rfl) : PS X (.For tg iter body [] pos) (tS (gx X cl Wx) (sForM src t fb)) :=
  (ps_for hp hc hi hg hb hs).imp fun D s H ⟨r, m, z, R, P⟩ => ⟨r, m, z, R, P.bind (rel := Walks X.K) fun z1 ws m1 J H1 E1 R1 r1 P1 => by
    refine ⟨fun i k s' H' => ∃ r' m' z', k = ws.length - i ∧ i ≤ ws.length ∧ Rel X.K cl z' r' m' s' H' ∧ Ext z1 H1 z' H' ∧ PostS (gx X cl Wx) z' H' (loopM t fb (ws.drop i) r' m') D, ⟨ws.length, r, m1, z1, by simp, Nat.zero_le _, R1, Ext.refl _ _, by simpa using P1⟩, ?_⟩
    rintro i k s2 H2 ⟨r2, m2, z2, rfl, hi2, R2, E2, P2⟩
    obtain ⟨hstop, hgo⟩ := r1.2 z2 H2 E2.e0 i
    by_cases hlt : i < ws.length
    · obtain ⟨g1, g2⟩ := hgo ws[i] (List.getElem?_eq_getElem hlt)
      rw [List.drop_eq_getElem_cons hlt] at P2
      simp only [loopM] at P2
      refine .inr ⟨g1, fun s' H' => ∃ r' m' z', Rel X.K cl z' r' m' s' H' ∧ Ext z1 H1 z' H' ∧ PostS (gx X cl Wx) z' H' (loopM t fb (ws.drop (i + 1)) r' m') D, fun s' H' ⟨r', m', z', a1, a2, a3⟩ => ⟨ws.length - (i + 1), by omega, r', m', z', rfl, hlt, a1, a2, a3⟩, fun x H3 y => ?_⟩
      obtain ⟨sm, q3⟩ := g2 x H3 y
      have E3 := R2.mem.extS sm
      have R3 := R2.same sm
      have P3 := PostS.mono E3 P2
      refine ⟨ws[i], r2, m2, z2, R3, q3 z2 E3.e0, ?_⟩
      cases q4 : t ws[i] r2 m2 with
      | next r4 m4 =>
        rw [q4] at P3
        intro z4 s4 H4 e4 R4
        have P4 := PostS.mono e4 P3
        refine ⟨r4, m4, z4, R4, ?_⟩
        simp only at P4
        cases q5 : fb r4 m4 with
        | next r5 m5 =>
          rw [q5] at P4
          exact fun z' s' H' e5 R5 => ⟨r5, m5, z', R5, ((E2.trans E3).trans e4).trans e5, PostS.mono e5 P4⟩
        | cont r5 m5 =>
          rw [q5] at P4
          exact fun z' s' H' e5 R5 => ⟨r5, m5, z', R5, ((E2.trans E3).trans e4).trans e5, PostS.mono e5 P4⟩
        | brk r5 m5 => rw [q5] at P4; exact P4
        | ret u m5 => rw [q5] at P4; exact P4
        | exc x r5 m5 => rw [q5] at P4; exact P4
        | bad => rw [q5] at P4; exact P4
      | _ => rw [q4] at P3; exact P3.elim
    · have hi3 : ws.length ≤ i := Nat.le_of_not_lt hlt
      refine .inl ⟨hstop (Nat.le_antisymm hi2 hi3), ?_⟩
      rw [List.drop_eq_nil_of_le hi3] at P2
      exact P2.next R2⟩
/-! ### max, min of a list of ints -/
def maxI : List Int → Int
  | [] => 0
  | [n] => n
  | n :: ns => max n (maxI ns)
def minI : List Int → Int
  | [] => 0
  | [n] => n
  | n :: ns => min n (minI ns)
theorem maxI_is : ∀ ns : List Int, ns ≠ [] → maxI ns ∈ ns ∧ ∀ y, y ∈ ns → y ≤ maxI ns
  | [], h => absurd rfl h
  | [n], _ => ⟨.head _, fun y h => by simp at h; subst h; exact Int.le_refl _⟩
  | n :: k :: ns, _ => by
    obtain ⟨h1, h2⟩ := maxI_is (k :: ns) (by simp)
    rw [maxI]
    refine ⟨?_, fun y h => ?_⟩
    · by_cases c : n ≤ maxI (k :: ns)
      · rw [Int.max_eq_right c]; exact .tail _ h1
      · rw [Int.max_eq_left (by omega)]; exact .head _
    · rcases List.mem_cons.mp h with rfl | h
      · exact Int.le_max_left _ _
      · exact Int.le_trans (h2 y h) (Int.le_max_right _ _)
    all_goals simp
theorem minI_is : ∀ ns : List Int, ns ≠ [] → minI ns ∈ ns ∧ ∀ y, y ∈ ns → minI ns ≤ y
  | [], h => absurd rfl h
  | [n], _ => ⟨.head _, fun y h => by simp at h; subst h; exact Int.le_refl _⟩
  | n :: k :: ns, _ => by
    obtain ⟨h1, h2⟩ := minI_is (k :: ns) (by simp)
    rw [minI]
    refine ⟨?_, fun y h => ?_⟩
    · by_cases c : n ≤ minI (k :: ns)
      · rw [Int.min_eq_left c]; exact .head _
      · rw [Int.min_eq_right (by omega)]; exact .tail _ h1
    · rcases List.mem_cons.mp h with rfl | h
      · exact Int.min_le_left _ _
      · exact Int.le_trans (Int.min_le_right _ _) (h2 y h)
    all_goals simp
def maxLW (m : Mem) : List W → Option W
  | [w] => match lstOf m w with
    | some ws => match intsW ws with
      | some (n :: ns) => some (.int (maxI (n :: ns)))
      | _ => none
    | none => none
  | _ => none
def minLW (m : Mem) : List W → Option W
  | [w] => match lstOf m w with
    | some ws => match intsW ws with
      | some (n :: ns) => some (.int (minI (n :: ns)))
      | _ => none
    | none => none
  | _ => none
theorem ints_rel {K : PySem.W.Frag} {z : Zn} {H : Hp} : ∀ {ws : List W} {vs : List V} {ns : List Int}, RWs K z H ws vs → intsW ws = some ns → vs = ns.map V.int
  | [], _, _, h, e => by cases h; cases e; rfl
  | w :: ws, _, ns, ⟨v, r, h1, h2, h3⟩, e => by
    subst h1
    cases w with
    | int i =>
      simp only [intsW] at e
      cases q : intsW ws with
      | none => rw [q] at e; cases e
      | some ks =>
        rw [q] at e
        simp at e
        subst e
        rw [ints_rel h3 q, show v = .int i from h2]
        rfl
    | _ => simp [intsW] at e
theorem w_maxL {K : PySem.W.Frag} : ClW K cl maxLW (rMax K) := by
  intro z m H ws vs w Q M rws e k
  match ws, e, rws with
  | [u], e, rws =>
    obtain ⟨v, e1, e2⟩ := rws.one
    subst e1
    simp only [maxLW] at e
    split at e
    · rename_i xs ex
      split at e
      · rename_i n ns ei
        cases e
        obtain ⟨a, us, f1, f2, f3⟩ := lst_at M e2 ex
        subst f1
        have f4 := ints_rel f3 ei
        subst f4
        refine ⟨a, n :: ns, rfl, f2, by simp, fun i h1 h2 => ?_⟩
        obtain ⟨g1, g2⟩ := maxI_is (n :: ns) (by simp)
        have : i = maxI (n :: ns) := Int.le_antisymm (g2 i h1) (h2 _ g1)
        subst this
        exact k z _ H (Ext.refl _ _) M rfl
      · cases e
    · cases e
  | [], e, _ => cases e
  | _ :: _ :: _, e, _ => simp [maxLW] at e
theorem w_minL {K : PySem.W.Frag} : ClW K cl minLW (rMin K) := by
  intro z m H ws vs w Q M rws e k
  match ws, e, rws with
  | [u], e, rws =>
    obtain ⟨v, e1, e2⟩ := rws.one
    subst e1
    simp only [minLW] at e
    split at e
    · rename_i xs ex
      split at e
      · rename_i n ns ei
        cases e
        obtain ⟨a, us, f1, f2, f3⟩ := lst_at M e2 ex
        subst f1
        have f4 := ints_rel f3 ei
        subst f4
        refine ⟨a, n :: ns, rfl, f2, by simp, fun i h1 h2 => ?_⟩
        obtain ⟨g1, g2⟩ := minI_is (n :: ns) (by simp)
        have : i = minI (n :: ns) := Int.le_antisymm (h2 _ g1) (g2 i h1)
        subst this
        exact k z _ H (Ext.refl _ _) M rfl
      · cases e
    · cases e
  | [], e, _ => cases e
  | _ :: _ :: _, e, _ => simp [minLW] at e
end
end Dn

/-! D19: is not of bools. -/
namespace Dn
open PySem PySem.Spec PyProof.Rows L2
section
variable {K : PySem.W.Frag} {cl : Clz}
def notBW (_ : Mem) (a b : W) : Option W := match a, b with
  | .bl x, .bl y => some (.bl (!decide (x = y)))
  | _, _ => none
theorem w_notB : OpW K cl notBW rNotB := by
  intro z m H a b x y w Q M ra rb e k
  unfold notBW at e
  split at e
  · cases e
    exact ⟨_, _, ra, rb, k z _ H (Ext.refl _ _) M rfl⟩
  · cases e
end
end Dn

/-! D20: repr of data; texts compared. -/
namespace Dn
open PySem PySem.Spec PyProof.Rows L2
def rRepr (K : PySem.W.Frag) : List V → Hp → VK → Prop := fun vs H Q => ∃ v d, vs = [v] ∧ Dp K H v d ∧ d.depth ≤ 60 ∧ d.showable = true ∧ d.hasDict = false ∧ d.shown.length ≤ sizeLine ∧ Q (.str d.shown) H
theorem cr_repr {X : Cx} (hu : X.A.units + 65 < cLine) (hg : X.A.guards = some []) : CallR X (.builtin "repr") (rRepr X.K) := by
  intro pins s σ H vs us Q I r h
  obtain ⟨v, d, rfl, hD, hdp, hsh, hnd, hsz, q⟩ := h
  obtain ⟨u, rfl, ru⟩ := vals1 r
  obtain ⟨as, rd⟩ := Dp.reads I d v u hD ru
  cases rd with
  | none =>
    simp only [PyData.shown] at q
    exact PySem.P.repr_of_none ⟨.str _, H, I.tok _, ⟨_, rfl⟩, q⟩
  | bool b =>
    simp only [PyData.shown] at q
    exact PySem.P.repr_of_bool ⟨.str _, H, I.tok _, ⟨_, rfl⟩, q⟩
  | int i t =>
    simp only [PyData.shown] at q
    exact PySem.P.repr_of_int (by simpa [PyData.showable] using hsh) ⟨.str _, H, I.tok _, ⟨_, rfl⟩, q⟩
  | str x t =>
    simp only [PyData.shown] at q hsz
    exact PySem.P.repr_of_str ⟨.str _, H, I.tok _, ⟨_, rfl⟩, q⟩ hsz
  | list h1 h2 h3 h4 =>
    exact repr_of_reads' (.list h1 h2 h3 h4) hsh (PyData.noDict_hsm hnd) hg (by omega) (fun _ _ e => e) (fun h' u tk hk => ⟨.str _, H, I.kept hk, ⟨_, rfl⟩, q⟩) hsz
  | tuple h1 h2 h3 h4 =>
    exact repr_of_reads' (.tuple h1 h2 h3 h4) hsh (PyData.noDict_hsm hnd) hg (by omega) (fun _ _ e => e) (fun h' u tk hk => ⟨.str _, H, I.kept hk, ⟨_, rfl⟩, q⟩) hsz
  | dict h1 h2 h3 h4 h5 => simp [PyData.hasDict] at hnd
def reprW (m : Mem) : List W → Option W
  | [w] => if okW 60 (rsv m w) && ((toD (rsv m w)).showable && decide ((toD (rsv m w)).shown.length ≤ 16777216)) then some (.str (toD (rsv m w)).shown) else none
  | _ => none
section
variable {K : PySem.W.Frag} {cl : Clz}
theorem w_repr : ClW K cl reprW (rRepr K) := by
  intro z m H ws vs w Q M rws e k
  match ws, e, rws with
  | [u], e, rws =>
    obtain ⟨v, e1, e2⟩ := rws.one
    subst e1
    simp only [reprW] at e
    cases hb : okW 60 (rsv m u) && ((toD (rsv m u)).showable && decide ((toD (rsv m u)).shown.length ≤ 16777216)) with
    | false => rw [hb] at e; cases e
    | true =>
      rw [hb] at e
      cases e
      rw [Bool.and_eq_true_iff, Bool.and_eq_true_iff, decide_eq_true_eq] at hb
      obtain ⟨h1, h2, h3⟩ := hb
      obtain ⟨l1, l2⟩ := okW_lay 60 _ h1
      exact ⟨v, toD (rsv m u), rfl, dp_rsv M h1 e2, l2, h2, PyData.hasDict_of_canLay _ l1, by rw [sizeLine_eq]; exact h3, k z _ H (Ext.refl _ _) M rfl⟩
  | [], e, _ => cases e
  | _ :: _ :: _, e, _ => cases e
/-! ### texts compared -/
def eqS (_ : Mem) (a b : W) : Option W := match a, b with
  | .str x, .str y => some (.bl (x == y))
  | _, _ => none
def neS (_ : Mem) (a b : W) : Option W := match a, b with
  | .str x, .str y => some (.bl (!(x == y)))
  | _, _ => none
theorem w_eqS : OpW K cl eqS rEq := by
  intro z m H a b x y w Q M ra rb e k
  unfold eqS at e
  split at e
  · rename_i s t
    cases e
    have ra : x = .str s := ra
    have rb : y = .str t := rb
    subst ra rb
    exact ⟨rfl, k z _ H (Ext.refl _ _) M (by rw [dec_str]; rfl)⟩
  · cases e
theorem w_neS : OpW K cl neS rNe := by
  intro z m H a b x y w Q M ra rb e k
  unfold neS at e
  split at e
  · rename_i s t
    cases e
    have ra : x = .str s := ra
    have rb : y = .str t := rb
    subst ra rb
    exact ⟨rfl, k z _ H (Ext.refl _ _) M (by rw [dec_str]; rfl)⟩
  · cases e
def rLtS : R2 := fun x y H Q => ∃ i j, x = .str i ∧ y = .str j ∧ Q (.bl (decide (i.cps.toList < j.cps.toList))) H
def ltS (_ : Mem) (a b : W) : Option W := match a, b with
  | .str x, .str y => some (.bl (decide (x.cps.toList < y.cps.toList)))
  | _, _ => none
theorem w_ltS : OpW K cl ltS rLtS := by
  intro z m H a b x y w Q M ra rb e k
  unfold ltS at e
  split at e
  · rename_i s t
    cases e
    have ra : x = .str s := ra
    have rb : y = .str t := rb
    subst ra rb
    exact ⟨_, _, rfl, rfl, k z _ H (Ext.refl _ _) M rfl⟩
  · cases e
end
end Dn

/-! D21: min(list of ints, default=e). -/
namespace Dn
open PySem PySem.Spec PyProof.Rows L2
theorem minI_cons2 (n k : Int) : ∀ ks : List Int, minI (min n k :: ks) = min n (minI (k :: ks))
  | [] => rfl
  | j :: js => by
    show min (min n k) (minI (j :: js)) = min n (min k (minI (j :: js)))
    exact Int.min_assoc _ _ _
theorem foldl_minI : ∀ (ks : List Int) (n : Int), ks.foldl min n = minI (n :: ks)
  | [], n => rfl
  | k :: ks, n => by
    rw [List.foldl_cons, foldl_minI ks (min n k), minI_cons2]
    rfl
def rMinDf (K : PySem.W.Frag) : List V → List V → Hp → VK → Prop := fun vs zs H Q => ∃ (a : Addr) (ns : List Int) (d : V), vs = [V.ref a] ∧ zs = [d] ∧ SqL K H a (ns.map V.int) ∧ (ns = [] → Q d H) ∧ (ns ≠ [] → Q (.int (minI ns)) H)
theorem depth_ints : ∀ ns : List Int, PyData.depthAll (ns.map PyData.int) ≤ 1
  | [] => by simp [PyData.depthAll]
  | n :: ns => by
    have := depth_ints ns
    simp only [List.map_cons, PyData.depthAll, PyData.depth]
    omega
theorem cr_minDf {X : Cx} (hc : X.calm = true) (hu : X.A.units + 65 < cLine) : CallRK X (.builtin "min") [("default" : Str)] (rMinDf X.K) := by
  intro pins s σ H xs zs us ws Q I r rz h
  obtain ⟨a, ns, d, rfl, rfl, hs, h0, h1⟩ := h
  obtain ⟨its, rv, hl, _⟩ := I.list hs
  rw [Vals.ref1 r]
  obtain ⟨u, rfl, ru⟩ := vals1 rz
  have hi := rv.ints
  have hd := depth_ints ns
  refine PySem.W.min_list_default (I.ok.hd hc) hl.isList (ints_readAll _ hi) ⟨?_, ?_⟩ (by omega) (fun e h' tk hk => ⟨d, H, I.kept hk, ru, h0 (by cases ns with | nil => rfl | cons n ns => cases e)⟩) fun y ys i v h' tk bs e hv hr hk => ?_
  · intro x hx y hy
    obtain ⟨i, _, rfl⟩ := List.mem_map.mp hx
    obtain ⟨j, _, rfl⟩ := List.mem_map.mp hy
    rfl
  · intro x hx
    obtain ⟨i, _, rfl⟩ := List.mem_map.mp hx
    intro q; cases q
  · cases ns with
    | nil => cases e
    | cons n ns =>
      rw [List.map_cons] at e
      injection e with e1 e2
      subst e1 e2
      rw [PySem.W.minD_ints, foldl_minI] at hr
      cases hr with
      | int i t => exact ⟨.int _, H, I.kept hk, ⟨_, rfl⟩, h1 (by intro q; cases q)⟩
/-- min(f, default=g) -/
def eMinD (f g : DE) : DE := fun r m => (f r m).bind fun w m1 => (g r m1).bind fun d m2 => match lstOf m2 w with
  | some ws => match intsW ws with
    | some [] => .ok d m2
    | some (n :: ns) => .ok (.int (minI (n :: ns))) m2
    | none => .bad
  | none => .bad
section
variable {X : Cx} {cl : Clz} {Wx : WX} {a b : Expr} {pos p kpos : Pos}
theorem se_minD {f g : DE} (hc : X.calm = true) (hu : X.A.units + 65 < cLine) (hm : X.mg "min" = none) (hv : bootBuiltins "min" = some (.builtin "min")) (ha : PE X a (tE (gx X cl Wx) f)) (hb : PE X b (tE (gx X cl Wx) g)) (hg : Gl X "min" := by rfl)
    (he : backTo pos (starEach [a] X.env) = (false, eval a X.env) :: backTo pos (starEach [] X.env) := by rfl) (hpl : (backTo pos (starEach [a] X.env)).any (·.1) = false := by rfl)
    (hall : (backToKw pos (keywordEach [⟨some "default", b, kpos⟩] X.env)).all (·.1.isSome) = true := by rfl) (hnone : (backToKw pos (keywordEach [⟨some "default", b, kpos⟩] X.env)).any (·.1.isNone) = false := by rfl) (hks : (backToKw pos (keywordEach [⟨some "default", b, kpos⟩] X.env)).filterMap (·.1) = [("default" : Str)] := by rfl)
    (hs : starEach [a] X.env = (false, eval a X.env) :: starEach [] X.env := by rfl) :
    PE X (.Call (.Name "min" p) [a] [⟨some "default", b, kpos⟩] pos) (tE (gx X cl Wx) (eMinD f g)) :=
  (pe_callBK (cr_minDf hc hu) hg hm hv (pa_cons ha pa_nil hs) (pk_cons hb pk_nil) (by decide) (by decide) he hpl hall hnone hks).imp fun s H Q ⟨r, m, z, R, P⟩ => by
    show tE (gx X cl Wx) f s H _
    refine ⟨r, m, z, R, P.bind fun z1 w m1 x H1 E1 R1 r1 P1 => ?_⟩
    show tE (gx X cl Wx) g s H1 _
    refine ⟨r, m1, z1, R1, P1.bind fun z2 d m2 y H2 E2 R2 r2 P2 => ?_⟩
    have r1' := RW.ext E2 r1
    cases q : lstOf m2 w with
    | none => rw [q] at P2; exact P2.elim
    | some ws =>
      rw [q] at P2
      cases qi : intsW ws with
      | none => simp only [qi] at P2; exact P2.elim
      | some ns =>
        obtain ⟨l, us, f1, f2, f3⟩ := lst_at R2.mem r1' q
        subst f1
        have f4 := ints_rel f3 qi
        subst f4
        refine ⟨l, ns, y, rfl, rfl, f2, fun e => ?_, fun e => ?_⟩
        · subst e
          simp only [qi] at P2
          exact Post.ret (b := y) P2 R2 r2
        · cases ns with
          | nil => exact absurd rfl e
          | cons n ns =>
            simp only [qi] at P2
            exact Post.ret (b := V.int _) P2 R2 rfl
end
end Dn

/-! D22: dicts that the module has written, with text keys: in, []. -/
namespace Dn
open PySem PySem.Spec PyProof.Rows L2
/-- the module's name x stands for a written dict; tbl: of some keys what stands there, or that nothing does -/
def KD (w : World) (K : PySem.W.Frag) (mg : Str → Option Value) (x : Str) (tbl : List (Str × Option W)) : Prop :=
  ∃ d es n, mg x = some (.ref d) ∧ KDict K w d es n ∧ ∀ z o, tbl.lookup z = some o → match o with
    | none => PySem.W.nsIn K d z = some none
    | some b => ∃ u v, PySem.W.nsIn K d z = some (some u) ∧ RelV v u ∧ ∀ zn H, RW K zn H b v
/-- .. as the head tests it -/
def kdB (K : PySem.W.Frag) (x : Str) (tbl : List (Str × Option W)) : Bool := match PySem.W.nsIn K mainGlobals x with
  | some (some (.ref d)) => decide (d = He.ga K x) && tbl.all fun q => match q.2, PySem.W.nsIn K d q.1 with
    | none, some none => true
    | some b, some (some u) => valB K b u
    | _, _ => false
  | _ => false
theorem mem_of_lookup {α β : Type} [BEq α] [LawfulBEq α] {k : α} {v : β} : ∀ {l : List (α × β)}, l.lookup k = some v → (k, v) ∈ l
  | [], h => by cases h
  | (a, b) :: l, h => by
    rw [List.lookup_cons] at h
    cases q : k == a with
    | true =>
      rw [q] at h
      cases h
      rw [eq_of_beq q]
      exact .head _
    | false =>
      rw [q] at h
      exact .tail _ (mem_of_lookup h)
theorem kd_of {w : World} {K : PySem.W.Frag} {h : Heap} {mg : Str → Option Value} {x : Str} {tbl : List (Str × Option W)} (X : K.In h) (G : h.Ns mainGlobals mg) (c : kdB K x tbl = true) (D : ∃ es n, KDict K w (He.ga K x) es n) : KD w K mg x tbl := by
  obtain ⟨es, n, D⟩ := D
  unfold kdB at c
  split at c
  · rename_i d q
    rw [Bool.and_eq_true_iff] at c
    have e : d = He.ga K x := of_decide_eq_true c.1
    subst e
    refine ⟨_, es, n, PySem.W.mg_of X G q, D, fun z o hz => ?_⟩
    have h2 := List.all_eq_true.mp c.2 (z, o) (mem_of_lookup hz)
    dsimp only at h2
    cases o with
    | none =>
      cases q2 : PySem.W.nsIn K (He.ga K x) z with
      | none => rw [q2] at h2; cases h2
      | some o2 =>
        cases o2 with
        | none => rfl
        | some u => rw [q2] at h2; cases h2
    | some b =>
      cases q2 : PySem.W.nsIn K (He.ga K x) z with
      | none => rw [q2] at h2; cases h2
      | some o2 =>
        cases o2 with
        | none => rw [q2] at h2; cases h2
        | some u =>
          rw [q2] at h2
          obtain ⟨v, r, k⟩ := valB_ok b u h2
          exact ⟨u, v, rfl, r, k⟩
  · cases c
/-- e in the table -/
def eKin (neg : Bool) (tbl : List (Str × Option W)) (f : DE) : DE := fun r m => (f r m).bind fun w m1 => match w with
  | .str z => match tbl.lookup z with
    | some o => .ok (.bl (if neg then !o.isSome else o.isSome)) m1
    | none => .bad
  | _ => .bad
/-- the table's entry -/
def eKget (tbl : List (Str × Option W)) (f : DE) : DE := fun r m => (f r m).bind fun w m1 => match w with
  | .str z => match tbl.lookup z with
    | some (some b) => .ok b m1
    | _ => .bad
  | _ => .bad
section
variable {X : Cx} {cl : Clz} {Wx : WX} {a b : Expr} {pos p : Pos} {x : Str} {tbl : List (Str × Option W)}
theorem pe_gs {k : Str} (h : GloW X.K X.mg x (.str k)) (hg : Gl X x := by rfl) (hd : (x == ("__debug__" : Str)) = false := by decide) : PE X (.Name x pos) (tC (.str k)) := by
  obtain ⟨u, v, h1, h2, h3⟩ := h
  have e : v = .str k := h3 ⟨fun _ => False, fun _ => False, []⟩ (fun _ => none)
  subst e
  exact pe_glob hg h1 h2 hd
theorem kin_of {D : Addr} {s : L2.St} {H : Hp} {Q : VK} {f : DE} {neg : Bool} (hk : ∀ z o, tbl.lookup z = some o → match o with
    | none => PySem.W.nsIn X.K D z = some none
    | some b => ∃ u v, PySem.W.nsIn X.K D z = some (some u) ∧ RelV v u ∧ ∀ zn H, RW X.K zn H b v) (h : tE (gx X cl Wx) (eKin neg tbl f) s H Q) :
    tOp (fun x y H Q => ∃ (z : Str) (r : Option Value), x = .str z ∧ y = .ref D ∧ PySem.W.nsIn X.K D z = some r ∧ Q (.bl (if neg then !r.isSome else r.isSome)) H) (tE (gx X cl Wx) f) (tC (.ref D)) s H Q := by
  obtain ⟨r, m, z, R, P⟩ := h
  refine ⟨r, m, z, R, P.bind fun z1 w m1 v H1 E1 R1 r1 P1 => ?_⟩
  cases w with
  | str k =>
    have r1 : v = .str k := r1
    subst r1
    simp only at P1
    cases q : tbl.lookup k with
    | none => rw [q] at P1; exact P1.elim
    | some o =>
      rw [q] at P1
      have h2 := hk k o q
      cases o with
      | none => exact ⟨k, none, rfl, rfl, h2, Post.ret (b := V.bl _) P1 R1 rfl⟩
      | some b =>
        obtain ⟨u, v, h3, _, _⟩ := h2
        exact ⟨k, some u, rfl, rfl, h3, Post.ret (b := V.bl _) P1 R1 rfl⟩
  | _ => exact P1.elim
theorem se_kin {f : DE} (h : KD X.w X.K X.mg x tbl) (ha : PE X a (tE (gx X cl Wx) f)) (hg : Gl X x := by rfl) (hm : behindInMarks .In (.Name x p) = false := by rfl) (hd : (x == ("__debug__" : Str)) = false := by decide) : PE X (.Compare a [.In] [.Name x p] pos) (tE (gx X cl Wx) (eKin false tbl f)) := by
  obtain ⟨D, es, n, h1, h2, h3⟩ := h
  exact (pe_cmpR (op_in_kd h2) ha (pe_glob (v := .ref D) hg h1 rfl hd) hm).imp fun s H Q q => kin_of (neg := false) h3 q
theorem se_knotin {f : DE} (h : KD X.w X.K X.mg x tbl) (ha : PE X a (tE (gx X cl Wx) f)) (hg : Gl X x := by rfl) (hm : behindInMarks .NotIn (.Name x p) = false := by rfl) (hd : (x == ("__debug__" : Str)) = false := by decide) : PE X (.Compare a [.NotIn] [.Name x p] pos) (tE (gx X cl Wx) (eKin true tbl f)) := by
  obtain ⟨D, es, n, h1, h2, h3⟩ := h
  exact (pe_cmpR (op_notIn_kd h2) ha (pe_glob (v := .ref D) hg h1 rfl hd) hm).imp fun s H Q q => kin_of (neg := true) h3 q
theorem st_kin {f : DE} (h : KD X.w X.K X.mg x tbl) (ha : PE X a (tE (gx X cl Wx) f)) (hg : Gl X x := by rfl) (hm : behindInMarks .In (.Name x p) = false := by rfl) (hd : (x == ("__debug__" : Str)) = false := by decide) : PT X (.Compare a [.In] [.Name x p] pos) (tT (gx X cl Wx) (dTest (eKin false tbl f))) := by
  obtain ⟨D, es, n, h1, h2, h3⟩ := h
  exact (pt_cmpR (op_in_kd h2) ha (pe_glob (v := .ref D) hg h1 rfl hd) hm).imp fun s H Q q => by
    have h' := tT_test q
    unfold tTest at h' ⊢
    exact kin_of (neg := false) h3 h'
theorem st_knotin {f : DE} (h : KD X.w X.K X.mg x tbl) (ha : PE X a (tE (gx X cl Wx) f)) (hg : Gl X x := by rfl) (hm : behindInMarks .NotIn (.Name x p) = false := by rfl) (hd : (x == ("__debug__" : Str)) = false := by decide) : PT X (.Compare a [.NotIn] [.Name x p] pos) (tT (gx X cl Wx) (dTest (eKin true tbl f))) := by
  obtain ⟨D, es, n, h1, h2, h3⟩ := h
  exact (pt_cmpR (op_notIn_kd h2) ha (pe_glob (v := .ref D) hg h1 rfl hd) hm).imp fun s H Q q => by
    have h' := tT_test q
    unfold tTest at h' ⊢
    exact kin_of (neg := true) h3 h'
theorem se_kget {f : DE} (h : KD X.w X.K X.mg x tbl) (ha : PE X a (tE (gx X cl Wx) f)) (hs : NoSl a := by exact fun _ _ => rfl) (hg : Gl X x := by rfl) (hd : (x == ("__debug__" : Str)) = false := by decide) : PE X (.Subscript (.Name x p) a pos) (tE (gx X cl Wx) (eKget tbl f)) := by
  obtain ⟨D, es, n, h1, h2, h3⟩ := h
  refine ⟨fun pins s σ H Q I q => ?_⟩
  obtain ⟨r, m, z, R, P⟩ := q
  refine subD_of PySem.F.slot_dict_getitem.lookup hs (thn ((pe_glob (X := X) (v := .ref D) (pos := p) hg h1 rfl hd).run pins s σ H (fun x H1 => x = .ref D ∧ H1 = H) I ⟨rfl, rfl⟩) fun u s1 ⟨x, H1, I1, rx, q1, q2⟩ => ?_)
  subst q1 q2
  obtain rfl : u = Value.ref D := rx
  refine thn (ha.run pins s1 σ H1 (fun y H2 => ∃ k b u v, y = .str k ∧ tbl.lookup k = some (some b) ∧ PySem.W.nsIn X.K D k = some (some u) ∧ RelV v u ∧ Q v H2) I1 ⟨r, m, z, R, P.bind fun z1 w m1 v H2 E1 R1 r1 P1 => ?_⟩) fun iv s2 ⟨y, H2, I2, ry, k, b, u, v, e1, e2, e3, e4, e5⟩ => ?_
  · cases w with
    | str k =>
      have r1 : v = .str k := r1
      subst r1
      simp only at P1
      cases q : tbl.lookup k with
      | none => rw [q] at P1; exact P1.elim
      | some o =>
        cases o with
        | none => rw [q] at P1; exact P1.elim
        | some b =>
          rw [q] at P1
          obtain ⟨u, v, k1, k2, k3⟩ := h3 k (some b) q
          exact ⟨k, b, u, v, rfl, q, k1, k2, P1 _ v _ (Ext.refl _ _) R1 (k3 _ _)⟩
    | _ => exact P1.elim
  · refine ⟨kd_type h2 I2, ?_⟩
    exact op_item_kd h2 pins s2 σ H2 (.ref D) y (.ref D) iv Q I2 rfl ry ⟨k, u, v, rfl, e1, e3, e4, e5⟩
end
/-! ### the head's hook, with tables -/
abbrev AlET : Type := (He.AlD × Bool) × List (Option (List (Option (Str × Int))))
abbrev TabS : Type := Str × List Str
def obsET (fa : List He.Fa) (fn : List He.DefD) (ex : PySem.W.Frag → Bool) (ts : List TabS) (K : PySem.W.Frag) : AlET := (obsE fa fn ex K, ts.map fun t => He.dicW K (He.ga K t.1))
def obsETG (n : Nat) (fa : List He.Fa) (fn : List He.DefD) (ex : PySem.W.Frag → Bool) (ts : List TabS) (g : Addr → Option Obj) : AlET := obsET fa fn ex ts (He.frG g (He.asD g n))
structure SaysET (fa : List He.Fa) (fn : List He.DefD) (ex : PySem.W.Frag → Bool) (ts : List TabS) (w : World) (K : PySem.W.Frag) : Prop where
  d : He.SaysD fa fn K
  e : ex K = true
  t : (ts.map fun t => He.dicW K (He.ga K t.1)) = ts.map fun t => some (He.keysIn w.params t.2)
theorem SaysET.tab {fa : List He.Fa} {fn : List He.DefD} {ex : PySem.W.Frag → Bool} {ts : List TabS} {w : World} {K : PySem.W.Frag} (c : SaysET fa fn ex ts w K) (i : Nat) {t : TabS} (h : ts[i]? = some t := by rfl) : ∃ es n, KDict K w (He.ga K t.1) es n := by
  have e2 : (ts.map fun t => He.dicW K (He.ga K t.1))[i]? = (ts.map fun t => some (He.keysIn w.params t.2))[i]? := by rw [c.t]
  rw [List.getElem?_map, List.getElem?_map, h] at e2
  exact He.dicW_ok (Option.some.inj e2)
theorem saysET_of {fa : List He.Fa} {fn : List He.DefD} {ex : PySem.W.Frag → Bool} {ts : List TabS} {w : World} {K : PySem.W.Frag} (e : obsET fa fn ex ts K = ((He.valD fn, true), ts.map fun t => some (He.keysIn w.params t.2))) : SaysET fa fn ex ts w K := by
  unfold obsET obsE at e
  have e1 := Prod.mk.inj e
  have e2 := Prod.mk.inj e1.1
  exact ⟨e2.1, e2.2, e1.2⟩
def hookET (n : Nat) (fa : List He.Fa) (fn : List He.DefD) (ex : PySem.W.Frag → Bool) (ts : List TabS) : PySem.W.Hook where
  α := AlET
  obs := fun s => obsETG n fa fn ex ts s.heap.get?
  val := fun w => ((He.valD fn, true), ts.map fun (t : TabS) => some (He.keysIn w.params t.2))
  says := fun w h => ∃ K : PySem.W.Frag, K.In h ∧ SaysET fa fn ex ts w K
  of := fun w s e => ⟨He.frG s.heap.get? (He.asD s.heap.get? n), He.frG_in, saysET_of (w := w) e⟩
  keeps := fun _ _ _ ⟨K, hK, c⟩ k => ⟨K, PySem.W.Frag.In.keeps hK k, c⟩
theorem obsETG_eq {n : Nat} {fa : List He.Fa} {fn : List He.DefD} {ex : PySem.W.Frag → Bool} {ts : List TabS} {g : Addr → Option Obj} {s : Shared} (h : ∀ a, g a = s.heap.get? a) : obsETG n fa fn ex ts g = (hookET n fa fn ex ts).obs s := by
  have e : g = s.heap.get? := funext h
  rw [e] <;> rfl
end Dn

/-! D23: own errors over ValueError whose __init__ says super().__init__(text) and keeps its arguments. -/
namespace Dn
open PySem PySem.Spec PyProof.Rows L2 NdefX
/-- what the written part says of such a class and its __init__ -/
structure XCls (P : Program) (K : PySem.W.Frag) (C f : Addr) (fd : FuncData) (F : NF) : Prop where
  ox : OexC K C
  fdE : ∃ kV doc pm ct, ∃ an : Option Addr, fd = PySem.W.fnX F.name F.qual F.params F.body F.scope F.cl .none kV doc pm an (.ref F.c) ct
  lk : ∃ oc od osl, K.lookup f = some (⟨oc, od, .func fd, osl⟩ : Obj)
  code : PySem.W.codeIn K (.ref F.c) F.qual = true
  file : ∃ (ccl : Value) (cdd : Option Addr) (vs : Array Value) (ccs : Array (Option Value)) (file : Str) (tf : Tok), K.lookup F.c = some (⟨ccl, cdd, .fields vs, ccs⟩ : Obj) ∧ vs[2]? = some (.str file tf) ∧ ((P.main.file : Str) == file) = true
  cell : ∃ (cc : Addr) (cl : Value) (cld : Option Addr) (csl : Array (Option Value)), F.cl = [(("__class__" : Str), cc)] ∧ K.lookup cc = some (⟨cl, cld, .cell (some (.ref C)), csl⟩ : Obj)
  clsD : ∃ cd, PySem.W.clsIn K C = some cd
  mro : PySem.W.mroIn K C (.ref C) = some true
  opq : PySem.W.nsIn K cStatics "thirdparty.any" = some none
  sup : PySem.W.ks_superIn K C C "__init__" = some (some (.builtin "ValueError.__init__"))
  sub : PySem.W.subIn K (.ref C) (.type "ValueError") = some true
  itI : PySem.W.findIn K (.ref C) "__init__" = some (some (.ref f))
  tyI : PySem.W.typeIn K (.ref f) = some (.type "function")
section
variable {P : Program} {w : World} {K : PySem.W.Frag} {mg : Str → Option Value} {base : Heap} {N ps : List Str} {F : NF} {f C a : Addr} {fd : FuncData} {A : Around} {outer : List Env} {s : Shared} {H : Hp} {E : XK}
theorem XCls.binds (T : XCls P K C f fd F) (h : ∀ (kV doc pm : Value) (an : Option Addr) (cl : List (Str × Addr)) (c ct : Value) (us : List Value), us.length = ps.length → bindArgs (PySem.W.fnX F.name F.qual F.params F.body F.scope cl .none kV doc pm an c ct) ⟨us, []⟩ = pure (ps.zip us)) : Binds K fd ps [] := by
  obtain ⟨kV, doc, pm, ct, an, rfl⟩ := T.fdE
  exact .all (h kV doc pm an F.cl (.ref F.c) ct)
/-- super().__init__(text), then the rest -/
theorem xsuper (T : XCls P K C f fd F) (S : NScope N ps ["__class__"] F.scope) {slf : Str} {ar : Arg} (hp : (F.params.posonlyargs ++ F.params.args).head? = some ar) (har : ar.arg = slf) (hN : N[0]? = some slf) (hsl : F.scope.names.lookup slf = some .local)
    (hks : F.scope.names.lookup ("super" : Str) = some .globalImplicit) (htop : (P.main.scope.names.lookup ("super" : Str)).isSome = false) (hsup : mg ("super" : Str) = none)
    {pins : List (Addr × Obj)} {σ : L2.St} {H1 : Hp} {s1 : Shared} (I : Inv (ncx (L2.CX P w) P w K mg base N F f A outer s H E) pins σ H1 s1) (h0 : σ[0]? = some (some (.ref a))) (ea : H1 a = some (exo a C none))
    {p0 p1 p2 p3 p4 p5 : Pos} {txt : Str} {j : Nat} {rest : List Stmt} {Q : Flow → Shared → Prop} {Ex : Value → Shared → Prop}
    (hq : ∀ s', Inv (ncx (L2.CX P w) P w K mg base N F f A outer s H E) pins σ H1 s' → PySem.wpAt (model P w) (A.deeper (envF F f s.heap.objs.size)) (.func F.body (envF F f s.heap.objs.size)) (execs rest (envF F f s.heap.objs.size)) Q Ex s') {pl : Sem Bool}
    (he : eval (.Call (.Attribute (.Call (.Name "super" p0) [] [] p1) "__init__" p2) [.Constant (.str txt) j p3] [] p4) (envF F f s.heap.objs.size) = (do
      let ov ← attributeBase (.Call (.Name "super" p0) [] [] p1) "__init__" (envF F f s.heap.objs.size) (eval (.Call (.Name "super" p0) [] [] p1) (envF F f s.heap.objs.size))
      standAt p2.atName
      let (fv, first) ← holding [ov] (getMethod ov "__init__" pl)
      callWith p4 fv first (backTo p4 (starEach [.Constant (.str txt) j p3] (envF F f s.heap.objs.size))) []))
    (hi : interactive (envF F f s.heap.objs.size) = false) (hs : swapsWith (.Call (.Attribute (.Call (.Name "super" p0) [] [] p1) "__init__" p2) [.Constant (.str txt) j p3] [] p4) none p5.line (envF F f s.heap.objs.size) = pure false) :
    PySem.wpAt (model P w) (A.deeper (envF F f s.heap.objs.size)) (.func F.body (envF F f s.heap.objs.size)) (execs (.Expr (.Call (.Attribute (.Call (.Name "super" p0) [] [] p1) "__init__" p2) [.Constant (.str txt) j p3] [] p4) p5 :: rest) (envF F f s.heap.objs.size)) Q Ex s1 := by
  have KX : K.In s1.heap := I.kIn
  obtain ⟨kV, doc, pm, ct, an, hfd⟩ := T.fdE
  obtain ⟨oc, od, osl, hlk⟩ := T.lk
  obtain ⟨ccl, cdd, vs, ccs, file, tf, hcode, hvs, hfile⟩ := T.file
  obtain ⟨cc, cl0, cld, csl, hcl, hcell⟩ := T.cell
  obtain ⟨cd, hcd⟩ := T.clsD
  obtain ⟨t1, ho⟩ := exo_at I.hok ea
  have hk : F.scope.kind = .function := S.kind
  have hkc : F.scope.names.lookup ("__class__" : Str) = some .free := S.frk _ (.head _)
  obtain ⟨oD, hD1, hD2⟩ : ∃ oD : Obj, K.lookup C = some oD ∧ oD.data = .cls cd := by
    unfold PySem.W.clsIn at hcd
    split at hcd
    · rename_i c d cd' sl ho
      cases hcd
      exact ⟨_, ho, rfl⟩
    · cases hcd
  have hIA : PySem.W.InstAt s1.heap a { cls := .ref C, dict := none, data := .fields #[.ref t1, .none, .none, .none, .bool false, .none] } C none := ⟨ho, rfl, rfl, trivial⟩
  have hne : a ≠ C := PySem.W.ks_ne KX hIA hcd
  refine PySem.ks_wpAt_execs_cons (PySem.ks_wpAt_Expr_any (PySem.ks_wpAt_MethodCall (pl := pl) ?_ he) hi hs)
  refine PySem.ks_wpAt_super_base (env := envF F f s.heap.objs.size) hks hkc (by decide) rfl (KX _ _ hlk) rfl (by rw [hfd]; exact hp) rfl (KX _ _ hcode) rfl hvs hfile htop ?_
  obtain ⟨mb, b1, b2⟩ := I.mod.blt
  refine PySem.W.ks_loadName_global hk hks (Calls.loadGlobal_builtin (env := envF F f s.heap.objs.size) (I.mod.glob.keeps I.bk) hsup (b1.keeps I.bk) ((b2 "super" (by decide)).trans (show bootBuiltins "super" = some (.type "super") by decide +kernel)) ⟨rfl, ?_⟩)
  refine wpAny_loadName_free hk hkc (show F.cl.lookup ("__class__" : Str) = some cc by rw [hcl]; rfl) ⟨_, KX _ _ hcell, rfl⟩ ?_
  obtain ⟨m, hn, hl⟩ := I.loc
  obtain ⟨u, ru, l⟩ := hl 0 slf (.ref a) hN h0 (.inl hsl)
  obtain rfl : u = Value.ref a := ru
  have hv : m slf = some (.ref a) := by
    rcases l with ⟨_, hm⟩ | ⟨hk2, _⟩
    · exact hm
    · have e : (ncx (L2.CX P w) P w K mg base N F f A outer s H E).env.kindOf slf = some .local := hsl
      rcases hk2 with hk2 | hk2 <;> (rw [e] at hk2; cases hk2)
  rw [har]
  refine wpAny_loadName_local hk hsl hn hv ?_
  obtain ⟨hh, g, d, t, os⟩ := s1
  refine PySem.ks_wpAny_isType_cls (KX _ _ hD1) hD2 ⟨rfl, ?_⟩
  refine PySem.ks_wpAny_call_super (KX _ _ hD1) hD2 ho rfl (fun c e => by cases e) (PySem.W.looks_mroIn KX T.mro) (fun h' e' k' => ?_)
  have I1 := I.kept (h' := h') (t' := t) k'
  have KX1 : K.In h' := I1.kIn
  have hm : PySem.W.alongIn K "__init__" ((cd.mro.dropWhile (· != .ref C)).drop 1) = some (some (.builtin "ValueError.__init__")) := by
    have := T.sup
    unfold PySem.W.ks_superIn at this
    rw [hcd] at this
    exact this
  have hI1 : PySem.W.InstAt h' a { cls := .ref C, dict := none, data := .fields #[.ref t1, .none, .none, .none, .bool false, .none] } C none := ⟨k' _ _ ho, rfl, rfl, trivial⟩
  refine PySem.W.kxs_getMethod PySem.W.kxs_ValueError e' (PySem.W.looks_opaque KX1 T.opq) (l₀ := cd.mro) (fun A Q E s k q => wpAny_bind ((PySem.W.looks_clsIn KX1 hcd) A _ E s k (wpAny_pure q))) rfl KX1 hm (hI1.type.andThen (PySem.W.looks_subIn KX1 T.sub)) hne (by decide) ?_
  have k2 : ∀ b o, h'.get? b = some o → (h'.push (PySem.W.kxs_mw "ValueError.__init__" a)).get? b = some o := fun b o e => Heap.get?_push_of_some _ e
  have I2 := I1.kept (h' := h'.push (PySem.W.kxs_mw "ValueError.__init__" a)) (t' := t + 1) k2
  have hu : (h'.push (PySem.W.kxs_mw "ValueError.__init__" a)).get? h'.objs.size = some (PySem.W.kxs_mw "ValueError.__init__" a) := Heap.get?_push_at rfl rfl
  have ho2 : (h'.push (PySem.W.kxs_mw "ValueError.__init__" a)).get? a = some ({ cls := .ref C, dict := none, data := .fields #[.ref t1, .none, .none, .none, .bool false, .none] } : Obj) := k2 _ _ (k' _ _ ho)
  obtain ⟨nm, q, Nn, bs, bm, sn, sub, ab, col, dd, k0, k1, k3, k4, k5, hC, hbm⟩ := T.ox.cls
  show wpAny _ _ (callWith p4 (.ref h'.objs.size) [] ((false, eval (.Constant (.str txt) j p3) (envF F f s.heap.objs.size)) :: backTo p4 (starEach [] (envF F f s.heap.objs.size))) []) _ _ _
  refine PySem.W.kxs_callWith (i := "ValueError.__init__") (x := a) rfl (Calls.evalArgs_plain (Calls.spliced_cons (Calls.Constant_str ?_)))
  refine wpAny_pure ⟨hu, ?_⟩
  refine wpAny_call (codeAny_of_tree ?_)
  show wpAny _ _ (callAny (.ref h'.objs.size) ⟨[Value.str txt (t + 1)], []⟩) _ _ _
  simp only [callAny]
  refine wpAny_bind (wpAny_load hu ?_)
  simp only [PySem.W.kxs_mw, show (Value.type "method-wrapper" == Value.type "method" || Value.type "method-wrapper" == Value.type "builtin_function_or_method" || Value.type "method-wrapper" == Value.type "method-wrapper") = true by decide, if_true]
  refine PySem.W.KFB.if_so (by decide) ?_
  refine wpAny_bind (PySem.W.check_bound_init PySem.F.excBase_ValueError.toExcCallFacts (I2.kIn _ _ hC) ho2 rfl ?_)
  refine wpAny_bind (wpAny_pure (wpAny_pure ?_))
  refine ⟨plainId_quiet PySem.F.excBase_ValueError.init.plain _, codeAny_builtin PySem.F.excBase_ValueError.initEntry ?_⟩
  refine PySem.W.exc_init_tree (cls := .ref C) (t0 := t1) (dv := none) (c2 := .none) (c3 := .none) (b4 := .bool false) ho2 (by show 1 ≤ sizeLine; rw [sizeLine_eq]; decide) fun h3 k6 e6 _ => ?_
  have J := (I2.tok (t + 1 + 1)).write (h' := h3) (t' := t + 1 + 1) (x := a) (e := a) (o := exo a C none) (by rw [ea]; exact True.intro) (.inl rfl) k6 ⟨_, e6⟩ (exo_ok e6)
  have eu : upd H1 a (exo a C none) = H1 := by
    funext b
    by_cases hb : b = a
    · rw [hb, upd_same, ea]
    · rw [upd_ne hb]
  rw [eu] at J
  exact hq _ J
/-- such an __init__, its body behind super().__init__(text) by its rules -/
theorem xinit {k : Nat} {rest : List Stmt} {tr : TS} {sp : Sp} {p0 p1 p2 p3 p4 p5 : Pos} {txt : Str} {j : Nat} (T : XCls P K C f fd F) (S : NScope N ps ["__class__"] F.scope) {slf : Str} {ar : Arg} (hp : (F.params.posonlyargs ++ F.params.args).head? = some ar) (har : ar.arg = slf) (hN : N[0]? = some slf) (hsl : F.scope.names.lookup slf = some .local)
    (hks : F.scope.names.lookup ("super" : Str) = some .globalImplicit) (htop : (P.main.scope.names.lookup ("super" : Str)).isSome = false) (hsup : mg ("super" : Str) = none)
    (hbody : F.body = .Expr (.Call (.Attribute (.Call (.Name "super" p0) [] [] p1) "__init__" p2) [.Constant (.str txt) j p3] [] p4) p5 :: rest)
    (hrest : ∀ (A : Around) (outer : List Env) (s : Shared) (H : Hp) (E : XK), PSs (ncx (L2.CX P w) P w K mg base N F f A outer s H E) rest tr)
    (hsp : ∀ vs H Q E, sp vs H Q E → vs.length = ps.length ∧ ∃ a ws, vs = .ref a :: ws ∧ H a = some (exo a C none) ∧ tr { nx := fun _ H' => Q .non H', rt := Q } (startF N vs [some (.ref C)]) H)
    {pl : Addr → Sem Bool}
    (he : ∀ L : Addr, eval (.Call (.Attribute (.Call (.Name "super" p0) [] [] p1) "__init__" p2) [.Constant (.str txt) j p3] [] p4) (envF F f L) = (do
      let ov ← attributeBase (.Call (.Name "super" p0) [] [] p1) "__init__" (envF F f L) (eval (.Call (.Name "super" p0) [] [] p1) (envF F f L))
      standAt p2.atName
      let (fv, first) ← holding [ov] (getMethod ov "__init__" (pl L))
      callWith p4 fv first (backTo p4 (starEach [.Constant (.str txt) j p3] (envF F f L))) []))
    (hi : ∀ L : Addr, interactive (envF F f L) = false) (hs : ∀ L : Addr, swapsWith (.Call (.Attribute (.Call (.Name "super" p0) [] [] p1) "__init__" p2) [.Constant (.str txt) j p3] [] p4) none p5.line (envF F f L) = pure false) :
    FnOk P w K mg base (L2.CX P w) (k + 1) f fd ps sp := by
  refine ⟨fun vs H Q E q => (hsp vs H Q E q).1, fun A outer s H args us vs Q E hr e0 hbi rv q => ?_⟩
  obtain ⟨hl, a, ws, ev, ea, htr⟩ := hsp vs H Q E q
  have KX : K.In s.heap := e0.mod.kin.keeps fun b o e => (e0.bs b o e).1
  have lim : s.heap.NoLimit := e0.mod.nolimit.keeps fun b o e => (e0.bs b o e).1
  obtain ⟨kV, doc, pm, ct, an, hfd⟩ := T.fdE
  obtain ⟨oc, od, osl, hlk⟩ := T.lk
  obtain ⟨cc, cl0, cld, csl, hcl, hcell⟩ := T.cell
  subst hfd
  have hC : CellsAt F.cl ["__class__"] [some (.ref C)] s.heap H := by
    have hbc := e0.bs cc _ (e0.mod.kin _ _ hcell)
    refine ⟨rfl, fun y c e => ?_, fun x y c e1 e2 => ?_, fun i y e => ?_⟩
    · rw [hcl, List.lookup_cons] at e
      split at e
      · cases e
        exact ⟨hbc.2, _, _, hbc.1, rfl⟩
      · cases e
    · rw [hcl, List.lookup_cons] at e1 e2
      split at e1
      · rename_i q1
        split at e2
        · rename_i q2
          exact (eq_of_beq q1).trans (eq_of_beq q2).symm
        · cases e2
      · cases e1
    · cases i with
      | zero =>
        cases e
        refine ⟨cc, by rw [hcl]; rfl, fun v e => ?_⟩
        cases e
        exact ⟨.ref C, rfl, _, hbc.1, rfl⟩
      | succ i => cases e
  refine PySem.ks_codeAny_call_defAt (body := F.body) (binds := ps.zip us) hr.depth (KX _ _ hlk) rfl lim (PySem.W.codeRec_of KX T.code) rfl hbi S.nocell (fun ⟨n, _⟩ hy => S.par n (List.of_mem_zip hy).1) (fun h₁ hns kp => ?_) S.co S.gen S.kind
  show PySem.wpAt (model P w) (A.deeper (envF F f s.heap.objs.size)) (.func F.body (envF F f s.heap.objs.size)) (execs F.body (envF F f s.heap.objs.size)) _ _ _
  have I : Inv (ncx (L2.CX P w) P w K mg base N F f A outer s H E) [] (startF N vs [some (.ref C)]) H { s with heap := h₁, toks := s.toks + (ps.zip us).length } := inv_startN S hr.hd e0 hl rv hC hns kp
  rw [hbody]
  have key := xsuper (A := A) (outer := outer) (s := s) (H := H) (E := E) (w := w) (rest := rest) (Q := fun fl s' => CR (L2.CX P w) outer P w H s Q E (.ok (.ret (match fl with | .ret v => v | _ => .none))) s') (Ex := (ncx (L2.CX P w) P w K mg base N F f A outer s H E).xe) T S hp har hN hsl hks htop hsup I (by rw [ev]; rfl) ea (fun s' J => ?_) (he _) (hi _) (hs _)
  · rw [hbody] at key
    exact key
  · refine PySem.wpAt_of_wpAny (wpAny_mono ((hrest A outer s H E).run [] s' _ H _ J htr) (fun fl s' hs => ?_) fun e s' hs => hs)
    have fin : ∀ {σ' : L2.St} {H' : Hp} {v : V} {u : Value}, Inv (ncx (L2.CX P w) P w K mg base N F f A outer s H E) [] σ' H' s' → L2.RelV v u → Q v H' → CE outer P w H s Q u s' :=
      fun {σ' H' v u} J rv q => ⟨v, H', J.os, J.bare, J.base, J.hok, rv, q⟩
    cases fl with
    | ret u =>
      obtain ⟨v, σ', H', J, rv, q⟩ := hs
      exact fin J rv q
    | next =>
      obtain ⟨σ', H', J, q⟩ := hs
      exact fin (v := V.non) (u := Value.none) J rfl q
    | brk =>
      obtain ⟨_, _, _, q⟩ := hs
      exact False.elim q
    | cont =>
      obtain ⟨_, _, _, q⟩ := hs
      exact False.elim q
end
end Dn

/-! D24: raise X(e, ..) of such a class; how the head tells of it. -/
namespace Dn
open PySem PySem.Spec PyProof.Rows L2 NdefX
/-! ### what the head tests -/
def oexB (K : PySem.W.Frag) (C : Addr) : Bool := (match K.lookup C with
  | some ⟨.type t, _, .cls cd, sl⟩ => (match cd.mro, sl.toList with
    | .ref C' :: bm, [_, _, _, _, some (.builtin n), _] => decide (t = "type") && (decide (C' = C) && (decide (n = "ValueError.__new__") && (!cd.hasDel && (cd.hasDict && PySem.HandSPX.refsVE bm))))
    | _, _ => false)
  | _ => false) && (decide (PySem.W.findIn K (.ref C) "__setattr__" = some (some (.builtin "object.__setattr__"))) && (decide (PySem.W.subIn K (.ref C) (.type "BaseException") = some true) && (decide (PySem.W.typeIn K (.ref C) = some (.type "type")) && PySem.W.keepIn K (.ref C))))
theorem oexB_ok {K : PySem.W.Frag} {C : Addr} (h : oexB K C = true) : OexC K C := by
  unfold oexB at h
  rw [Bool.and_eq_true_iff, Bool.and_eq_true_iff, Bool.and_eq_true_iff, Bool.and_eq_true_iff] at h
  obtain ⟨h1, h2, h3, h4, h5⟩ := h
  refine ⟨?_, of_decide_eq_true h2, of_decide_eq_true h3, of_decide_eq_true h4, h5⟩
  split at h1
  · rename_i t dd cd sl ho
    split at h1
    · rename_i C' bm k0 k1 k2 k3 n k5 hm hs
      simp only [Bool.and_eq_true, decide_eq_true_eq, Bool.not_eq_true'] at h1
      obtain ⟨rfl, rfl, rfl, hdel, hd, hre⟩ := h1
      obtain ⟨nm, bs, mro, ns, qn, hdd, sn, sub, ab, col, del⟩ := cd
      dsimp only at hm hdel hd
      subst hm hdel hd
      have hsl : sl = #[k0, k1, k2, k3, some (.builtin "ValueError.__new__"), k5] := by
        obtain ⟨l⟩ := sl
        simp only at hs
        rw [hs]
      subst hsl
      exact ⟨nm, qn, ns, bs, bm, sn, sub, ab, col, dd, k0, k1, k2, k3, k5, ho, hre⟩
    · cases h1
  · cases h1
/-- where the code of such an __init__ stands, where its cell does -/
def xcode (K : PySem.W.Frag) (f : Addr) : Addr := match K.lookup f with
  | some ⟨_, _, .func fd, _⟩ => (match fd.code with
    | .ref c => c
    | _ => 0)
  | _ => 0
def xcell (K : PySem.W.Frag) (f : Addr) : Addr := match K.lookup f with
  | some ⟨_, _, .func fd, _⟩ => (match fd.closure with
    | [(_, c)] => c
    | _ => 0)
  | _ => 0
/-- one such class: its name, its __init__ as it is written -/
structure XD where
  name : Str
  qual : Str
  params : Arguments
  body : List Stmt
  scope : Scope
def XD.C (K : PySem.W.Frag) (d : XD) : Addr := He.ga K d.name
def XD.f (K : PySem.W.Frag) (d : XD) : Addr := He.ma K (He.ga K d.name) "__init__"
def XD.nf (K : PySem.W.Frag) (d : XD) : NF := ⟨"__init__", d.qual, d.params, d.body, d.scope, [("__class__", xcell K (d.f K))], xcode K (d.f K)⟩
abbrev XW : Type := Option (Str × Str × Arguments × FuncBody × Scope × Addr × Addr)
def XD.w (K : PySem.W.Frag) (d : XD) : XW := match K.lookup (d.f K) with
  | some ⟨_, _, .func fd, _⟩ => some (fd.name, fd.qualname, fd.params, fd.body, fd.scope, fd.globals, fd.builtins)
  | _ => none
def XD.val (d : XD) : XW := some ("__init__", d.qual, d.params, .stmts d.body, d.scope, mainGlobals, builtinsNs)
def XD.ok (file : Str) (K : PySem.W.Frag) (d : XD) : Bool := oexB K (d.C K) && ((match K.lookup (d.f K) with
  | some ⟨_, _, .func fd, _⟩ => (match fd.closure, fd.code with
    | [(y, c)], .ref a => (decide (y = ("__class__" : Str)) && decide (fd.defaults = .none)) && ((match K.lookup c with
      | some ⟨_, _, .cell (some (.ref D)), _⟩ => decide (D = d.C K)
      | _ => false) && (PySem.W.codeIn K (.ref a) d.qual && (match K.lookup a with
        | some ⟨_, _, .fields vs, _⟩ => (match ((vs[2]? : Option Value)) with
          | some (Value.str x _) => decide (x = file)
          | _ => false)
        | _ => false)))
    | _, _ => false)
  | _ => false) && ((PySem.W.clsIn K (d.C K)).isSome && (decide (PySem.W.mroIn K (d.C K) (.ref (d.C K)) = some true) && (decide (PySem.W.nsIn K cStatics "thirdparty.any" = some none) && (decide (PySem.W.ks_superIn K (d.C K) (d.C K) "__init__" = some (some (.builtin "ValueError.__init__"))) && (decide (PySem.W.subIn K (.ref (d.C K)) (.type "ValueError") = some true) && (decide (PySem.W.findIn K (.ref (d.C K)) "__init__" = some (some (.ref (d.f K)))) && decide (PySem.W.typeIn K (.ref (d.f K)) = some (.type "function")))))))))
theorem XD.cls {P : Program} {K : PySem.W.Frag} {d : XD} (e : d.w K = d.val) (c : d.ok P.main.file K = true) : ∃ fd, XCls P K (d.C K) (d.f K) fd (d.nf K) := by
  unfold XD.ok at c
  simp only [Bool.and_eq_true, decide_eq_true_eq] at c
  obtain ⟨c1, c2, c3, c4, c5, c6, c7, c8, c9⟩ := c
  unfold XD.w at e
  cases q : K.lookup (d.f K) with
  | none => rw [q] at c2; cases c2
  | some o =>
    obtain ⟨oc, od, dt, osl⟩ := o
    rw [q] at c2 e
    cases dt with
    | func fd =>
      have e := Option.some.inj e
      dsimp only at c2
      split at c2
      · rename_i y cc a hcl hco
        simp only [Bool.and_eq_true, decide_eq_true_eq] at c2
        obtain ⟨⟨rfl, cdf⟩, c21, c22, c23⟩ := c2
        have hxc : xcode K (d.f K) = a := by
          unfold xcode
          rw [q]
          dsimp only
          rw [hco]
        have hxl : xcell K (d.f K) = cc := by
          unfold xcell
          rw [q]
          dsimp only
          rw [hcl]
        refine ⟨fd, oexB_ok c1, ?_, ⟨oc, od, osl, q⟩, ?_, ?_, ?_, Option.isSome_iff_exists.mp c3, c4, c5, c6, c7, c8, c9⟩
        · obtain ⟨n, qn, pr, bd, sc, gl, cl, dv, kv, dc, pm, an, co, ct, bl⟩ := fd
          dsimp only at e hcl hco cdf
          injection e with e1 e
          injection e with e2 e
          injection e with e3 e
          injection e with e4 e
          injection e with e5 e
          injection e with e6 e7
          subst e1 e2 e3 e4 e5 e6 e7 hcl hco
          refine ⟨kv, dc, pm, ct, an, ?_⟩
          simp only [XD.nf, hxc, hxl, cdf]
        · simp only [XD.nf, hxc]
          exact c22
        · simp only [XD.nf, hxc]
          split at c23
          · rename_i ccl cdd vs ccs hk
            split at c23
            · rename_i x tf hv
              have : x = P.main.file := of_decide_eq_true c23
              subst this
              exact ⟨ccl, cdd, vs, ccs, _, tf, hk, hv, beq_self_eq_true _⟩
            · cases c23
          · cases c23
        · simp only [XD.nf, hxl]
          split at c21
          · rename_i cl cld D csl hk
            have : D = d.C K := of_decide_eq_true c21
            subst this
            exact ⟨cc, cl, cld, csl, rfl, hk⟩
          · cases c21
      · cases c2
    | _ => cases c2
end Dn

/-! D25: raise X(e, ..); the head's hook with such classes. -/
namespace Dn
open PySem PySem.Spec PyProof.Rows L2 NdefX
/-- what such an __init__ leaves: the fields by name, the last one first -/
def spX (C : Addr) (fs : List Str) : Sp := fun vs H Q _ => vs.length = fs.length + 1 ∧ ∃ a ws, vs = .ref a :: ws ∧ H a = some (exo a C none) ∧ ∀ dx, H dx = none → dx ≠ a → Q .non (upd (upd H dx (exd dx (fs.zip ws).reverse)) a (exo a C (some dx)))
section
variable {P : Program} {w : World} {K : PySem.W.Frag} {mg : Str → Option Value} {base : Heap} {F : NF} {f C : Addr} {fd : FuncData}
/-- one field -/
theorem x1_ok {k : Nat} {n1 : Str} {p0 p1 p2 p3 p4 p5 q1 q2 q3 q4 : Pos} {txt : Str} {j : Nat} (T : XCls P K C f fd F) (S : NScope ["self", n1, "__class__"] ["self", n1] ["__class__"] F.scope) {ar : Arg} (hp : (F.params.posonlyargs ++ F.params.args).head? = some ar) (har : ar.arg = "self")
    (hks : F.scope.names.lookup ("super" : Str) = some .globalImplicit) (htop : (P.main.scope.names.lookup ("super" : Str)).isSome = false) (hsup : mg ("super" : Str) = none)
    (hbody : F.body = [.Expr (.Call (.Attribute (.Call (.Name "super" p0) [] [] p1) "__init__" p2) [.Constant (.str txt) j p3] [] p4) p5, .Assign [.Attribute (.Name "self" q2) n1 q1] (.Name n1 q3) q4])
    (hno : PySem.W.findIn K (.ref C) n1 = some none) (hd : (n1 == ("__debug__" : Str)) = false) (hcd : (n1 == ("__classdict__" : Str)) = false) {pl : Addr → Sem Bool}
    (he : ∀ L : Addr, eval (.Call (.Attribute (.Call (.Name "super" p0) [] [] p1) "__init__" p2) [.Constant (.str txt) j p3] [] p4) (envF F f L) = (do
      let ov ← attributeBase (.Call (.Name "super" p0) [] [] p1) "__init__" (envF F f L) (eval (.Call (.Name "super" p0) [] [] p1) (envF F f L))
      standAt p2.atName
      let (fv, first) ← holding [ov] (getMethod ov "__init__" (pl L))
      callWith p4 fv first (backTo p4 (starEach [.Constant (.str txt) j p3] (envF F f L))) []))
    (hi : ∀ L : Addr, interactive (envF F f L) = false) (hs : ∀ L : Addr, swapsWith (.Call (.Attribute (.Call (.Name "super" p0) [] [] p1) "__init__" p2) [.Constant (.str txt) j p3] [] p4) none p5.line (envF F f L) = pure false)
    (hs2 : ∀ L : Addr, swapsWith (.Name n1 q3) (some (.Attribute (.Name "self" q2) n1 q1)) q4.line (envF F f L) = pure false) :
    FnOk P w K mg base (L2.CX P w) (k + 1) f fd ["self", n1] (spX C [n1]) := by
  have hself : F.scope.names.lookup ("self" : Str) = some .local := S.par _ (.head _)
  have hn1 : F.scope.names.lookup n1 = some .local := S.par _ (.tail _ (.head _))
  refine xinit (tr := tOst K n1 (tVar 0) (tVar 1)) T S hp har rfl hself hks htop hsup hbody (fun A outer s H E => pss_one (ps_ost (pe_var (i := 0) (x := "self") rfl (.inl hself)) (pe_var (i := 1) (x := n1) rfl (.inl hn1) hd hcd) (hs2 _))) ?_ he hi hs
  rintro vs H Q E ⟨hl, a, ws, rfl, ea, q⟩
  match ws, hl, q with
  | [y], _, q => exact ⟨rfl, a, [y], rfl, ea, y, rfl, .ref a, rfl, a, C, rfl, T.ox, hno, .inl ⟨ea, fun dx h1 h2 => q dx h1 h2⟩⟩
/-- two fields -/
theorem x2_ok {k : Nat} {n1 n2 : Str} {p0 p1 p2 p3 p4 p5 q1 q2 q3 q4 q5 q6 q7 q8 : Pos} {txt : Str} {j : Nat} (T : XCls P K C f fd F) (S : NScope ["self", n1, n2, "__class__"] ["self", n1, n2] ["__class__"] F.scope) {ar : Arg} (hp : (F.params.posonlyargs ++ F.params.args).head? = some ar) (har : ar.arg = "self")
    (hks : F.scope.names.lookup ("super" : Str) = some .globalImplicit) (htop : (P.main.scope.names.lookup ("super" : Str)).isSome = false) (hsup : mg ("super" : Str) = none)
    (hbody : F.body = [.Expr (.Call (.Attribute (.Call (.Name "super" p0) [] [] p1) "__init__" p2) [.Constant (.str txt) j p3] [] p4) p5, .Assign [.Attribute (.Name "self" q2) n1 q1] (.Name n1 q3) q4, .Assign [.Attribute (.Name "self" q6) n2 q5] (.Name n2 q7) q8])
    (hno : PySem.W.findIn K (.ref C) n1 = some none) (hno2 : PySem.W.findIn K (.ref C) n2 = some none) (hd : (n1 == ("__debug__" : Str)) = false) (hcd : (n1 == ("__classdict__" : Str)) = false) (hd2 : (n2 == ("__debug__" : Str)) = false) (hcd2 : (n2 == ("__classdict__" : Str)) = false) {pl : Addr → Sem Bool}
    (he : ∀ L : Addr, eval (.Call (.Attribute (.Call (.Name "super" p0) [] [] p1) "__init__" p2) [.Constant (.str txt) j p3] [] p4) (envF F f L) = (do
      let ov ← attributeBase (.Call (.Name "super" p0) [] [] p1) "__init__" (envF F f L) (eval (.Call (.Name "super" p0) [] [] p1) (envF F f L))
      standAt p2.atName
      let (fv, first) ← holding [ov] (getMethod ov "__init__" (pl L))
      callWith p4 fv first (backTo p4 (starEach [.Constant (.str txt) j p3] (envF F f L))) []))
    (hi : ∀ L : Addr, interactive (envF F f L) = false) (hs : ∀ L : Addr, swapsWith (.Call (.Attribute (.Call (.Name "super" p0) [] [] p1) "__init__" p2) [.Constant (.str txt) j p3] [] p4) none p5.line (envF F f L) = pure false)
    (hs2 : ∀ L : Addr, swapsWith (.Name n1 q3) (some (.Attribute (.Name "self" q2) n1 q1)) q4.line (envF F f L) = pure false)
    (hs3 : ∀ L : Addr, swapsWith (.Name n2 q7) (some (.Attribute (.Name "self" q6) n2 q5)) q8.line (envF F f L) = pure false) :
    FnOk P w K mg base (L2.CX P w) (k + 1) f fd ["self", n1, n2] (spX C [n1, n2]) := by
  have hself : F.scope.names.lookup ("self" : Str) = some .local := S.par _ (.head _)
  have hn1 : F.scope.names.lookup n1 = some .local := S.par _ (.tail _ (.head _))
  have hn2 : F.scope.names.lookup n2 = some .local := S.par _ (.tail _ (.tail _ (.head _)))
  refine xinit (tr := tSeq (tOst K n1 (tVar 0) (tVar 1)) (tOst K n2 (tVar 0) (tVar 2))) T S hp har rfl hself hks htop hsup hbody (fun A outer s H E => pss_cons (ps_ost (pe_var (i := 0) (x := "self") rfl (.inl hself)) (pe_var (i := 1) (x := n1) rfl (.inl hn1) hd hcd) (hs2 _)) (pss_one (ps_ost (pe_var (i := 0) (x := "self") rfl (.inl hself)) (pe_var (i := 2) (x := n2) rfl (.inl hn2) hd2 hcd2) (hs3 _)))) ?_ he hi hs
  rintro vs H Q E ⟨hl, a, ws, rfl, ea, q⟩
  match ws, hl, q with
  | [y, y2], _, q =>
    refine ⟨rfl, a, [y, y2], rfl, ea, y, rfl, .ref a, rfl, a, C, rfl, T.ox, hno, .inl ⟨ea, fun dx h1 h2 => ?_⟩⟩
    refine ⟨y2, rfl, .ref a, rfl, a, C, rfl, T.ox, hno2, .inr ⟨dx, [(n1, y)], upd_same, by rw [upd_ne h2, upd_same], by show 1 ≤ 900; decide, ?_⟩⟩
    have e : upd (upd (upd H dx (exd dx [(n1, y)])) a (exo a C (some dx))) dx (exd dx [(n2, y2), (n1, y)]) = upd (upd H dx (exd dx [(n2, y2), (n1, y)])) a (exo a C (some dx)) := by
      funext b
      by_cases hb : b = dx
      · subst hb
        rw [upd_same, upd_ne h2, upd_same]
      · rw [upd_ne hb]
        by_cases hb2 : b = a
        · subst hb2
          rw [upd_same, upd_same]
        · rw [upd_ne hb2, upd_ne hb2, upd_ne hb, upd_ne hb]
    rw [e]
    exact q dx h1 h2
end
/-! ### raise -/
def sRaise (c : Nat) (fs : List Str) (t : DA) : DS := fun r m => (t r m).thenS r fun ws m1 => if ws.length = fs.length ∧ ws.length ≤ 1000 then .exc ⟨c, (fs.zip ws).reverse⟩ r m1 else .bad
section
variable {K : PySem.W.Frag} {z : Zn} {H : Hp}
theorem RFs.app {α : Type} : ∀ {a b : List (α × W)} {c d : List (α × V)}, RFs K z H a c → RFs K z H b d → RFs K z H (a ++ b) (c ++ d)
  | [], _, _, _, h, t => by cases h; exact t
  | (_, _) :: _, _, _, _, ⟨v, r, h1, h2, h3⟩, t => by subst h1; exact ⟨v, _, rfl, h2, RFs.app h3 t⟩
theorem RFs.rev {α : Type} : ∀ {a : List (α × W)} {c : List (α × V)}, RFs K z H a c → RFs K z H a.reverse c.reverse
  | [], _, h => by cases h; rfl
  | (k, w) :: _, _, ⟨v, r, h1, h2, h3⟩ => by
    subst h1
    rw [List.reverse_cons, List.reverse_cons]
    exact (RFs.rev h3).app ⟨v, [], rfl, h2, rfl⟩
theorem RFs.zip {α : Type} : ∀ {fs : List α} {ws : List W} {vs : List V}, RWs K z H ws vs → RFs K z H (fs.zip ws) (fs.zip vs)
  | [], _, _, _ => by simp [RFs]
  | _ :: _, [], _, h => by cases h; simp [RFs]
  | f :: fs, w :: ws, _, ⟨v, r, h1, h2, h3⟩ => by
    subst h1
    exact ⟨v, fs.zip r, rfl, h2, RFs.zip h3⟩
end
section
variable {X : Cx} {cl : Clz} {Wx : WX} {e : Expr} {es : List Expr} {p pos pos' : Pos} {x : Str}
theorem ss_raise {c k : Nat} {fs ps : List Str} {fI : Addr} {fd : FuncData} {F : NF} {t : DA} (T : XCls X.prog X.K (cl c) fI fd F) (F1 : FnOk X.prog X.w X.K X.mg X.base (L2.CX X.prog X.w) k fI fd ps (spX (cl c) fs)) (hr : Room (k + 1) X.A) (hb : Binds X.K fd ps []) (tk : Takes X Wx) (hcalm : X.calm = true)
    (hm : X.mg x = some (.ref (cl c))) (ha : PA X (e :: es) (tA (gx X cl Wx) t)) (hg : Gl X x := by rfl) (hdb : (x == ("__debug__" : Str)) = false := by decide) (he : starEach (e :: es) X.env = (false, eval e X.env) :: starEach es X.env := by rfl) (hpl : (backTo pos (starEach es X.env)).any (·.1) = false := by rfl) :
    PS X (.Raise (some (.Call (.Name x p) (e :: es) [] pos)) none pos') (tS (gx X cl Wx) (sRaise c fs t)) :=
  (ps_raise hcalm tk (pmk_oex T.ox T.itI T.tyI F1 hr hb .nil (passes_call tk fun _ _ _ _ h => h.elim) hg hm ha hdb he hpl)).imp fun D s H ⟨r, m, z, R, P⟩ => by
    show tMkO (cl c) (spX (cl c) fs) [] (tA (gx X cl Wx) t) s H _
    refine ⟨r, m, z, R, P.bind fun z1 ws m1 vs H1 E1 R1 r1 P1 => ?_⟩
    split at P1
    · rename_i hl
      have hvl : vs.length = ws.length := RWs.length r1
      refine ⟨by rw [hvl]; exact hl.2, fun a hna => ?_⟩
      rw [List.append_nil]
      refine ⟨by rw [List.length_cons, hvl, hl.1], a, vs, rfl, upd_same, fun dx hdx hne => ⟨rfl, dx, (fs.zip vs).reverse, upd_same, by rw [upd_ne hne, upd_same], ?_, ?_⟩⟩
      · rw [upd_ne hne] at hdx
        exact hdx
      · have hdx1 : H1 dx = none := by rw [upd_ne hne] at hdx; exact hdx
        have e : upd (del (upd (upd (upd H1 a (exo a (cl c) none)) dx (exd dx (fs.zip vs).reverse)) a (exo a (cl c) (some dx))) a) dx (.xd (fs.zip vs).reverse) = upd H1 dx (.xd (fs.zip vs).reverse) := by
          funext b
          by_cases hb1 : b = dx
          · subst hb1
            rw [upd_same, upd_same]
          · rw [upd_ne hb1, upd_ne hb1]
            by_cases hb2 : b = a
            · subst hb2
              rw [del_same, hna]
            · rw [del_ne hb2, upd_ne hb2, upd_ne hb1, upd_ne hb2]
        rw [e]
        have hs := upd_same_of (H := H1) (o := .xd (fs.zip vs).reverse) hdx1
        have E2 := R1.mem.extS hs
        exact P1 z1 s _ _ _ E2 (R1.same hs) ⟨rfl, dx, (fs.zip vs).reverse, rfl, upd_same, RFs.ext E2 (RFs.zip r1).rev⟩
    · exact P1.elim
end
/-! ### the head's hook, with tables and such classes -/
abbrev AlEX : Type := AlET × List XW
def obsEX (fa : List He.Fa) (fn : List He.DefD) (ex : PySem.W.Frag → Bool) (ts : List TabS) (xs : List XD) (K : PySem.W.Frag) : AlEX := (obsET fa fn ex ts K, xs.map fun d => d.w K)
def asX (g : Addr → Option Obj) (n : Nat) : List Addr := cStatics :: He.asD g n
def obsEXG (n : Nat) (fa : List He.Fa) (fn : List He.DefD) (ex : PySem.W.Frag → Bool) (ts : List TabS) (xs : List XD) (g : Addr → Option Obj) : AlEX := obsEX fa fn ex ts xs (He.frG g (asX g n))
structure SaysEX (fa : List He.Fa) (fn : List He.DefD) (ex : PySem.W.Frag → Bool) (ts : List TabS) (xs : List XD) (w : World) (K : PySem.W.Frag) : Prop extends SaysET fa fn ex ts w K where
  x : (xs.map fun d => d.w K) = xs.map XD.val
theorem SaysEX.xat {fa : List He.Fa} {fn : List He.DefD} {ex : PySem.W.Frag → Bool} {ts : List TabS} {xs : List XD} {w : World} {K : PySem.W.Frag} (c : SaysEX fa fn ex ts xs w K) (i : Nat) {d : XD} (h : xs[i]? = some d := by rfl) : d.w K = d.val := by
  have e2 : (xs.map fun d => d.w K)[i]? = (xs.map XD.val)[i]? := by rw [c.x]
  rw [List.getElem?_map, List.getElem?_map, h] at e2
  exact Option.some.inj e2
theorem saysEX_of {fa : List He.Fa} {fn : List He.DefD} {ex : PySem.W.Frag → Bool} {ts : List TabS} {xs : List XD} {w : World} {K : PySem.W.Frag} (e : obsEX fa fn ex ts xs K = (((He.valD fn, true), ts.map fun t => some (He.keysIn w.params t.2)), xs.map XD.val)) : SaysEX fa fn ex ts xs w K := by
  unfold obsEX at e
  have e1 := Prod.mk.inj e
  exact ⟨saysET_of e1.1, e1.2⟩
def hookEX (n : Nat) (fa : List He.Fa) (fn : List He.DefD) (ex : PySem.W.Frag → Bool) (ts : List TabS) (xs : List XD) : PySem.W.Hook where
  α := AlEX
  obs := fun s => obsEXG n fa fn ex ts xs s.heap.get?
  val := fun w => (((He.valD fn, true), ts.map fun (t : TabS) => some (He.keysIn w.params t.2)), xs.map XD.val)
  says := fun w h => ∃ K : PySem.W.Frag, K.In h ∧ SaysEX fa fn ex ts xs w K
  of := fun w s e => ⟨He.frG s.heap.get? (asX s.heap.get? n), He.frG_in, saysEX_of (w := w) e⟩
  keeps := fun _ _ _ ⟨K, hK, c⟩ k => ⟨K, PySem.W.Frag.In.keeps hK k, c⟩
theorem obsEXG_eq {n : Nat} {fa : List He.Fa} {fn : List He.DefD} {ex : PySem.W.Frag → Bool} {ts : List TabS} {xs : List XD} {g : Addr → Option Obj} {s : Shared} (h : ∀ a, g a = s.heap.get? a) : obsEXG n fa fn ex ts xs g = (hookEX n fa fn ex ts xs).obs s := by
  have e : g = s.heap.get? := funext h
  rw [e] <;> rfl
end Dn

/-! D26: try .. except X: suite; try .. except X as n: return [n.f]. -/
namespace Dn
open PySem PySem.Spec PyProof.Rows L2
/-- of some classes (by number) whether an except clause takes their errors -/
def mtOf (l : List (Nat × Bool)) (i : Nat) : Option Bool := l.lookup i
def Mt (K : PySem.W.Frag) (cl : Nat → Addr) (c : Nat) (l : List (Nat × Bool)) : Prop := ∀ i b, mtOf l i = some b → PySem.W.exmOne K (.ref (cl i)) (.ref (cl c)) = some b
def mtB (K : PySem.W.Frag) (cl : Nat → Addr) (c : Nat) (l : List (Nat × Bool)) : Bool := l.all fun q => decide (PySem.W.exmOne K (.ref (cl q.1)) (.ref (cl c)) = some q.2)
theorem mtB_ok {K : PySem.W.Frag} {cl : Nat → Addr} {c : Nat} {l : List (Nat × Bool)} (h : mtB K cl c l = true) : Mt K cl c l := fun i b e => of_decide_eq_true (List.all_eq_true.mp h (i, b) (mem_of_lookup e))
/-- the suite's own end: it raises nothing -/
def noX : RS → RS
  | .exc _ _ _ => .bad
  | q => q
def sTry (l : List (Nat × Bool)) (fb fs : DS) : DS := fun r m => match fb r m with
  | .exc x r1 m1 => match mtOf l x.cls with
    | some true => noX (fs r1 m1)
    | some false => .exc x r1 m1
    | none => .bad
  | q => q
def sTryF (l : List (Nat × Bool)) (c : Nat) (i : Nat) (f : Str) (fb : DS) : DS := fun r m => match fb r m with
  | .exc x r1 m1 => match mtOf l x.cls with
    | some true => if x.cls = c ∧ i < r1.length then match x.fs.lookup f with
        | some w => .ret (.lst [w]) m1
        | none => .bad
      else .bad
    | some false => .exc x r1 m1
    | none => .bad
  | q => q
section
variable {X : Cx} {cl : Clz} {Wx : WX} {body suite : List Stmt} {b₀ : Stmt} {np pos pos' : Pos} {x : Str} {c : Nat}
theorem postS_noX {K : PySem.W.Frag} {W W' : WX} {z : Zn} {H : Hp} {q : RS} {D : Ends} (h : PostS ⟨K, cl, W⟩ z H (noX q) D) : PostS ⟨K, cl, W'⟩ z H q D := by
  cases q with
  | exc x r m => exact h.elim
  | next r m => exact h
  | brk r m => exact h
  | cont r m => exact h
  | ret w m => exact h
  | bad => exact h
theorem ss_try {l : List (Nat × Bool)} {fb fs : DS} (hs : X.stack = X.env :: X.outer) (hf : X.env.frame = some X.env.locals) (tk : Takes X Wx) (hm : X.mg x = some (.ref (cl c))) (hl : Mt X.K cl c l)
    (hb : ∀ (W : WX) (pn : List (Addr × Obj)) (xe : Value → Shared → Prop), Takes (X.tr pn xe) W → PassesOwn (model X.prog X.w) X.A X.env xe → PSs (X.tr pn xe) body (tS (gx X cl W) fb))
    (hsu : ∀ (a : Addr) (oe : Obj) (pn : List (Addr × Obj)), PSs (X.suite a ((a, oe) :: pn)) (b₀ :: suite) (tS (gx X cl noW) fs)) (hg : Gl X x := by rfl) (hd : (x == ("__debug__" : Str)) = false := by decide) :
    PS X (.Try body [.ExceptHandler (some (.Name x np)) none (b₀ :: suite) pos'] [] [] pos) (tS (gx X cl Wx) (sTry l fb fs)) :=
  (ps_try_many (tb := fun W => tS (gx X cl W) fb) (l := [(.ref (cl c), fun _ _ _ => tS (gx X cl noW) fs)]) hs hf tk hb (HdsOk.cons ⟨hg, hd, .inl hm⟩ (fun a oe cls d pn _ _ => hsu a oe pn) .nil)).imp fun D s H ⟨r, m, z, R, P⟩ => by
    refine ⟨r, m, z, R, ?_⟩
    unfold sTry at P
    cases q : fb r m with
    | next r1 m1 => rw [q] at P; exact P
    | brk r1 m1 => rw [q] at P; exact P
    | cont r1 m1 => rw [q] at P; exact P
    | ret w m1 => rw [q] at P; exact P
    | bad => rw [q] at P; exact P
    | exc y r1 m1 =>
      rw [q] at P
      dsimp only at P
      intro z' s' H' cv d e' R' xn
      obtain ⟨rfl, dd, fs', rfl, hdd, hfs⟩ := id xn
      cases qm : mtOf l y.cls with
      | none => rw [qm] at P; exact P.elim
      | some b =>
        rw [qm] at P
        refine ⟨b, hl _ _ qm, fun hb a ha => ?_, fun hb => ?_⟩
        · subst hb
          exact ⟨r1, m1, z', R', postS_noX (PostS.mono e' P)⟩
        · subst hb
          exact P z' s' H' _ _ e' R' xn
theorem ss_tryF {l : List (Nat × Bool)} {fb : DS} {n f : Str} {i : Nat} {p1 p2 p3 p4 : Pos} (hs : X.stack = X.env :: X.outer) (hf : X.env.frame = some X.env.locals) (hN : X.N.Nodup) (hi : X.N[i]? = some n) (hln : X.env.kindOf n = some .local) (tk : Takes X Wx) (hm : X.mg x = some (.ref (cl c))) (hl : Mt X.K cl c l) (T : XfC X.K (cl c)) (hno : PySem.W.findIn X.K (.ref (cl c)) f = some none)
    (hb : ∀ (W : WX) (pn : List (Addr × Obj)) (xe : Value → Shared → Prop), Takes (X.tr pn xe) W → PassesOwn (model X.prog X.w) X.A X.env xe → PSs (X.tr pn xe) body (tS (gx X cl W) fb)) (hg : Gl X x := by rfl) (hd : (x == ("__debug__" : Str)) = false := by decide)
    (hd1 : (n == ("__debug__" : Str)) = false := by decide) (hcd1 : (n == ("__classdict__" : Str)) = false := by decide) (hba : attributeBase (.Name n p1) f X.env (eval (.Name n p1) X.env) = eval (.Name n p1) X.env := by rfl)
    (hst : ∀ (a : Addr) (oe : Obj) (pn : List (Addr × Obj)), starEach [.Attribute (.Name n p1) f p2] (X.suite a ((a, oe) :: pn)).env = (false, eval (.Attribute (.Name n p1) f p2) (X.suite a ((a, oe) :: pn)).env) :: starEach [] (X.suite a ((a, oe) :: pn)).env := by intros; rfl) :
    PS X (.Try body [.ExceptHandler (some (.Name x np)) (some n) [.Return (some (.List [.Attribute (.Name n p1) f p2] p3)) p4] pos'] [] [] pos) (tS (gx X cl Wx) (sTryF l c i f fb)) :=
  (ps_try_as (i := i) (c := .ref (cl c)) (tb := fun W => tS (gx X cl W) fb) hs hf hN hi hln ⟨hg, hd, .inl hm⟩ tk hb (fun a oe cls d pn hz hfv => pss_one (ps_ret (pe_lst (pa_cons (pe_xf T hno hz hfv (pe_var (X := X.suite a ((a, oe) :: pn)) (i := i) hi (.inl hln) hd1 hcd1) hba) pa_nil (hst a oe pn)))))).imp fun D s H ⟨r, m, z, R, P⟩ => by
    refine ⟨r, m, z, R, ?_⟩
    unfold sTryF at P
    cases q : fb r m with
    | next r1 m1 => rw [q] at P; exact P
    | brk r1 m1 => rw [q] at P; exact P
    | cont r1 m1 => rw [q] at P; exact P
    | ret w m1 => rw [q] at P; exact P
    | bad => rw [q] at P; exact P
    | exc y r1 m1 =>
      rw [q] at P
      dsimp only at P
      intro z' s' H' cv d e' R' xn
      obtain ⟨rfl, dd, fs', rfl, hdd, hfs⟩ := id xn
      cases qm : mtOf l y.cls with
      | none => rw [qm] at P; exact P.elim
      | some b =>
        rw [qm] at P
        refine ⟨b, hl _ _ qm, fun hb a ha => ?_, fun hb => ?_⟩
        · subst hb
          dsimp only at P
          split at P
          · rename_i hc
            cases ql : y.fs.lookup f with
            | none => rw [ql] at P; exact P.elim
            | some w =>
              rw [ql] at P
              obtain ⟨v, hv1, hv2⟩ := hfs.lookup ql
              have hil : i < s'.length := by rw [← R'.slots.1]; exact hc.2
              have hlen : (s'.set i (some (V.ref a)))[i]? = some (some (V.ref a)) := List.getElem?_set_self hil
              refine ⟨.ref a, hlen, rfl, by rw [hc.1], dd, fs', v, rfl, hdd, hv1, by show 1 ≤ sizeLine; rw [sizeLine_eq]; decide, fun p hp => ?_⟩
              obtain ⟨e2, M2, q2⟩ := new_lst (cl := cl) R'.mem hp (RWs.cons hv2 RWs.nil)
              exact P _ _ _ (e'.trans e2) M2 q2
          · exact P.elim
        · subst hb
          exact P z' s' H' _ _ e' R' xn
end
end Dn

/-! D27: min(a list of lists, key=len). -/
namespace Dn
open PySem PySem.Spec PyProof.Rows L2
abbrev btN (ns : List Nat) : Nat → Nat → Bool := fun i j => decide (((ns.getD i 0 : Nat) : Int) < ((ns.getD j 0 : Nat) : Int))
def rMinLen (K : PySem.W.Frag) : List V → Hp → VK → Prop := fun vs H Q => ∃ (a : Addr) (ys : List V) (ns : List Nat), vs = [V.ref a] ∧ SqL K H a ys ∧ ys ≠ [] ∧ (∀ (i : Nat) (y : V), ys[i]? = some y → ∃ q zs, y = V.ref q ∧ SqL K H q zs ∧ ns[i]? = some zs.length) ∧
  ∀ y, ys[argBest (btN ns) (ys.length - 1)]? = some y → Q y H
def KeptS (s s' : Shared) : Prop := (∀ b o, s.heap.get? b = some o → s'.heap.get? b = some o) ∧ s'.gens = s.gens ∧ s'.drawn = s.drawn ∧ s'.os = s.os
theorem KeptS.same {s s' : Shared} (h : KeptS s s') : s' = { s with heap := s'.heap, toks := s'.toks } := by
  obtain ⟨_, h2, h3, h4⟩ := h
  cases s'
  simp only at h2 h3 h4
  subst h2 h3 h4
  rfl
theorem min_len {X : Cx} {pins : List (Addr × Obj)} {s : Shared} {σ : L2.St} {H : Hp} {Q : VK} {vs : List V} {us : List Value} (hc : X.calm = true) (I : Inv X pins σ H s) (r : Vals vs us) (h : rMinLen X.K vs H Q) :
    wpAny (model X.prog X.w) X.A (call (.builtin "min") us [(Str.ofString "key", .builtin "len")]) (EP X pins σ Q) X.xe s := by
  obtain ⟨a, ys, ns, rfl, hs, hne, hall, hq⟩ := h
  obtain ⟨its, rv, hl, _⟩ := I.list hs
  have hl := hl.isList
  rw [Vals.ref1 r]
  have hlen : ys.length = its.length := rv.length
  have hpos : 0 < ys.length := List.length_pos_iff.mpr hne
  have hit : ∀ (i : Nat) (v : Value), its.toArray[i]? = some v → ∃ q n, v = Value.ref q ∧ ns[i]? = some n ∧ n ≤ sizeLine ∧ ∃ its' : List Value, s.heap.IsList q its'.toArray ∧ its'.length = n := by
    intro i v hv
    have hv : its[i]? = some v := by simpa using hv
    have hi : i < its.length := (List.getElem?_eq_some_iff.mp hv).1
    obtain ⟨y, hy⟩ : ∃ y, ys[i]? = some y := ⟨_, List.getElem?_eq_getElem (by omega)⟩
    obtain ⟨q, zs, e1, e2, e3⟩ := hall i y hy
    obtain ⟨u, g1, g2⟩ := Vals.get rv hy
    rw [hv] at g1
    cases g1
    subst e1
    obtain ⟨its', rv', hl', hz'⟩ := I.list e2
    exact ⟨q, _, g2, e3, hz', its', hl'.isList, rv'.length.symm⟩
  refine call_min_walkKB (iter_anyList hl fun s₂ e st hfp hlI => ?_)
  subst e
  have key : ∀ (b : Addr) (o : Obj), s.heap.get? b = some o → b ≠ s.heap.objs.size ∧ b ≠ (s.heap.push { cls := .type "list_iterator", data := .fields #[.ref a, .int 0 0] }).objs.size := by
    intro b o e
    have := Heap.lt_size e
    rw [Heap.size_push]
    exact ⟨Nat.ne_of_lt this, Nat.ne_of_lt (Nat.lt_succ_of_lt this)⟩
  refine ⟨_, _, _, _, _, _, _, KeptS s, fun i k _ => ∃ (n : Nat) (t : Tok), ns[i]? = some n ∧ k = Value.int n t, btN ns, rfl, (Walks.list (A := X.A.in1) (I.ok.hd hc) _ a hlI its.toArray).toS, st, hfp, by simp; omega, ⟨?_, ?_, ?_, ?_⟩, ⟨fun b o e => Heap.get?_push_of_some _ e, rfl, rfl, rfl⟩, ?_⟩
  · intro s1 s2 ⟨h1, h2, h3, h4⟩ m
    refine ⟨fun b o e => m.heap b o ?_ (h1 b o e), m.gens.trans h2, m.drawn.trans h3, m.os.trans h4⟩
    obtain ⟨k1, k2⟩ := key b o e
    intro hm
    rcases List.mem_cons.mp hm with h | h
    · exact k2 h
    · exact k1 (List.mem_singleton.mp h)
  · intro i k s1 s2 h _
    exact h
  · intro i v s1 o Q' E' hi hP hJ hSt hS hk
    obtain ⟨q, n, rfl, hn, hz, its', hl', hle⟩ := hit i v hP
    have hl1 : s1.heap.IsList q its'.toArray := hl'.at fun o e => hJ.1 q o e
    have hb : ((its'.toArray.size : Nat) : Int) < 2 ^ 63 := by
      rw [sizeLine_eq] at hz
      simp only [List.size_toArray]
      omega
    refine Calls.call_len_list hl1 hb (hk _ _ ⟨hJ.1, hJ.2.1, hJ.2.2.1, hJ.2.2.2⟩ hSt hS ⟨n, s1.toks + 1, hn, by simp [hle]⟩ fun j k' h => h)
  · intro i j ki kj s1 Q' E' hJ hi hj hQ
    obtain ⟨n, t, e1, rfl⟩ := hi
    obtain ⟨n', t', e2, rfl⟩ := hj
    refine HT.rcLt_int _ _ _ _ _ _ _ _ _ _ ?_
    have : btN ns i j = decide ((n : Int) < (n' : Int)) := by simp [btN, e1, e2]
    rw [← this]
    exact hQ
  · intro v s' hP hJ
    have hv : its[argBest (btN ns) (its.length - 1)]? = some v := by simpa using hP
    rw [← hlen] at hv
    have hi := (List.getElem?_eq_some_iff.mp hv).1
    obtain ⟨y, hy⟩ : ∃ y, ys[argBest (btN ns) (ys.length - 1)]? = some y := ⟨_, List.getElem?_eq_getElem (by omega)⟩
    obtain ⟨u, g1, g2⟩ := Vals.get rv hy
    rw [hv] at g1
    cases g1
    rw [hJ.same]
    exact ⟨y, H, I.kept hJ.1, g2, hq y hy⟩
/-- the lengths of lists -/
def lensW (m : Mem) : List W → Option (List Nat)
  | [] => some []
  | w :: ws => match lstOf m w, lensW m ws with | some l, some ns => some (l.length :: ns) | _, _ => none
/-- min(f, key=len) -/
def eMinL (f : DE) : DE := fun r m => (f r m).bind fun w m1 => match lstOf m1 w with
  | some ws => match lensW m1 ws with
    | some ns => match ws[argBest (btN ns) (ws.length - 1)]? with
      | some v => .ok v m1
      | none => .bad
    | none => .bad
  | none => .bad
section
variable {X : Cx} {cl : Clz} {Wx : WX} {a : Expr} {pos p kp kpos : Pos}
theorem lens_at {K : PySem.W.Frag} {z : Zn} {m : Mem} {H : Hp} (M : MemOk K cl z m H) : ∀ {ws : List W} {vs : List V} {ns : List Nat}, RWs K z H ws vs → lensW m ws = some ns → ∀ (i : Nat) (y : V), vs[i]? = some y → ∃ q zs, y = V.ref q ∧ SqL K H q zs ∧ ns[i]? = some zs.length
  | [], vs, _, h, _, i, y, hy => by
    have h : vs = [] := h
    subst h
    simp at hy
  | w :: ws, vs, ns, h, e, i, y, hy => by
    obtain ⟨v, vs', rfl, h1, h2⟩ := h
    rw [lensW] at e
    cases q1 : lstOf m w with
    | none => rw [q1] at e; cases e
    | some l =>
      rw [q1] at e
      cases q2 : lensW m ws with
      | none => rw [q2] at e; cases e
      | some ns' =>
        rw [q2] at e
        cases e
        cases i with
        | zero =>
          obtain ⟨b, us, f1, f2, f3⟩ := lst_at M h1 q1
          simp at hy
          subst hy
          exact ⟨b, us, f1, f2, by simp [f3.length]⟩
        | succ i =>
          have := lens_at M h2 q2 i y (by simpa using hy)
          simpa using this
theorem se_minL {f : DE} (hc : X.calm = true) (hm : X.mg "min" = none) (hml : X.mg "len" = none) (hv : bootBuiltins "min" = some (.builtin "min")) (hvl : bootBuiltins "len" = some (.builtin "len")) (ha : PE X a (tE (gx X cl Wx) f)) (hg : Gl X "min" := by rfl) (hgl : Gl X "len" := by rfl)
    (he : backTo pos (starEach [a] X.env) = (false, eval a X.env) :: backTo pos (starEach [] X.env) := by rfl) (hpl : (backTo pos (starEach [a] X.env)).any (·.1) = false := by rfl)
    (hall : (backToKw pos (keywordEach [⟨some "key", .Name "len" kp, kpos⟩] X.env)).all (·.1.isSome) = true := by rfl) (hnone : (backToKw pos (keywordEach [⟨some "key", .Name "len" kp, kpos⟩] X.env)).any (·.1.isNone) = false := by rfl) (hks : (backToKw pos (keywordEach [⟨some "key", .Name "len" kp, kpos⟩] X.env)).filterMap (·.1) = [("key" : Str)] := by rfl)
    (hs : starEach [a] X.env = (false, eval a X.env) :: starEach [] X.env := by rfl) :
    PE X (.Call (.Name "min" p) [a] [⟨some "key", .Name "len" kp, kpos⟩] pos) (tE (gx X cl Wx) (eMinL f)) := by
  refine ⟨fun pins s σ H Q I h => ?_⟩
  have hA := pa_cons ha pa_nil hs
  obtain ⟨r, m, z, R, P⟩ := h
  have h' : tCons (tE (gx X cl Wx) f) tNil σ H (fun vs H1 => rMinLen X.K vs H1 Q) := by
    refine ⟨r, m, z, R, P.bind fun z1 w m1 x H1 E1 R1 r1 P1 => ?_⟩
    cases q : lstOf m1 w with
    | none => rw [q] at P1; exact P1.elim
    | some ws =>
      simp only [q] at P1
      cases qi : lensW m1 ws with
      | none => simp only [qi] at P1; exact P1.elim
      | some ns =>
        simp only [qi] at P1
        obtain ⟨l, us, f1, f2, f3⟩ := lst_at R1.mem r1 q
        subst f1
        have hl := f3.length.symm
        cases qv : ws[argBest (btN ns) (ws.length - 1)]? with
        | none => simp only [qv] at P1; exact P1.elim
        | some v =>
          simp only [qv] at P1
          refine ⟨l, us, ns, rfl, f2, ?_, lens_at R1.mem f3 qi, fun y hy => ?_⟩
          · intro e
            subst e
            rw [List.length_nil] at hl
            have : ws = [] := List.eq_nil_of_length_eq_zero hl
            subst this
            simp at qv
          · rw [← hl] at hy
            obtain ⟨y', g1, g2⟩ := f3.get qv
            rw [hy] at g1
            cases g1
            exact Post.ret (b := y) P1 R1 g2
  refine wpAny_Call_Name_kw (ld_blt I hg hm hv ?_ (by decide) (by decide))
  refine PyProof.Rows.callWith_kw (thn (hA.run pos pins s σ H _ I h') fun us s1 ⟨vs, H1, I1, r1, q1⟩ => ?_) he hpl hall hnone
  rw [hks]
  show wpAny _ _ (evalAll ((do let v ← eval (.Name "len" kp) X.env; standAt pos; pure v) :: [])) _ _ s1
  refine wpAny_evalAll_cons (wpAny_bind (ld_blt I1 hgl hml hvl (wpAny_bind (wpAny_standAt (wpAny_pure ?_))) (by decide) (by decide)))
  exact wpAny_evalAll_nil (min_len hc I1 r1 q1)
end
end Dn

/-! D28: the head's run in parts, each with a kernel's memory of its own; x or y by truth. -/
namespace Dn
open PySem PySem.W PySem.Calls PyProof.Rows HandSHeadRun
/-- the top ends in a state of which P holds -/
def EndsAt (r : OpenRow) (M : Nat) (w : World) (P : SharedT → Prop) : Prop := ∀ os : OsState, ∃ s, endF (stepQ (denQ tabQ) r.prog w) M r.prog w os = some s ∧ P s
theorem EndsAt.and {r : OpenRow} {M : Nat} {w : World} {P Q : SharedT → Prop} (a : EndsAt r M w P) (b : EndsAt r M w Q) : EndsAt r M w fun s => P s ∧ Q s := fun os => by
  obtain ⟨s, e, p⟩ := a os
  obtain ⟨s', e', q⟩ := b os
  rw [e] at e'
  cases e'
  exact ⟨s, e, p, q⟩
theorem EndsAt.imp {r : OpenRow} {M : Nat} {w : World} {P Q : SharedT → Prop} (a : EndsAt r M w P) (h : ∀ s, P s → Q s) : EndsAt r M w Q := fun os => by
  obtain ⟨s, e, p⟩ := a os
  exact ⟨s, e, h s p⟩
/-- one look at the end -/
def LookEq {α : Type} (r : OpenRow) (M : Nat) (f : SharedT → α) (v : α) (w : World) : Prop := ∀ os : OsState, (endF (stepQ (denQ tabQ) r.prog w) M r.prog w os).map f = some v
theorem EndsAt.of_look {α : Type} {r : OpenRow} {M : Nat} {f : SharedT → α} {v : α} {w : World} (h : LookEq r M f v w) : EndsAt r M w fun s => f s = v := fun os => by
  obtain ⟨s, e, q⟩ := Option.map_eq_some_iff.mp (h os)
  exact ⟨s, e, q⟩
/-- the looks of the run but the hook's -/
noncomputable def runLook (r : OpenRow) (q : Program) (loose : List PySem.Str) (w : World) (s : SharedT) := (looksF r.prog (boot_heap w.params) s.abs, seenQ q loose (importedModules r.prog.main.body) (fun s => xlAt q [] s && recOk r.toRowW.records s) s.abs)
theorem runEq_of {r : OpenRow} {q : Program} {H : Hook} {ob : SharedT → H.α} {M : Nat} {loose : List PySem.Str} {w : World} (a : LookEq r M (runLook r q loose w) (true, openGood q loose) w) (b : EndsAt r M w fun s => ob s = H.val w) : RunEq r q H ob M loose w := fun os => by
  obtain ⟨s, e, h1, h2⟩ := (EndsAt.of_look a).and b os
  have h3 := Prod.mk.inj h1
  rw [e, Option.map_some]
  exact congrArg some (Prod.ext h3.1 (Prod.ext h3.2 h2))
theorem allB_app : ∀ {a b : List Bool}, allB a = true → allB b = true → allB (a ++ b) = true
  | [], _, _, h => h
  | true :: a, b, h, g => allB_app (a := a) h g
  | false :: a, b, h, _ => by cases h
def allBs : List (List Bool) → List Bool
  | [] => []
  | [a] => a
  | a :: b :: l => a ++ allBs (b :: l)
theorem allBs_ok : ∀ {l : List (List Bool)}, (∀ a, a ∈ l → allB a = true) → allB (allBs l) = true
  | [], _ => rfl
  | [a], h => h a (.head _)
  | a :: b :: l, h => allB_app (h a (.head _)) (allBs_ok fun c q => h c (.tail _ q))
theorem all_cons {α : Type} {P : α → Prop} {a : α} {l : List α} (h : P a) (t : ∀ x, x ∈ l → P x) : ∀ x, x ∈ a :: l → P x := fun x q => by
  rcases List.mem_cons.mp q with rfl | q
  · exact h
  · exact t x q
def catL {α : Type} : List (List α) → List α
  | [] => []
  | [a] => a
  | a :: b :: l => a ++ catL (b :: l)
theorem all_cat {α : Type} {P : α → Bool} : ∀ {l : List (List α)}, (∀ a, a ∈ l → a.all P = true) → (catL l).all P = true
  | [], _ => rfl
  | [a], h => h a (.head _)
  | a :: b :: l, h => by
    rw [catL, List.all_append, h a (.head _), all_cat fun c q => h c (.tail _ q)]
    rfl
theorem map_cat {α β : Type} {f g : α → β} : ∀ {l : List (List α)}, (∀ a, a ∈ l → a.map f = a.map g) → (catL l).map f = (catL l).map g
  | [], _ => rfl
  | [a], h => h a (.head _)
  | a :: b :: l, h => by rw [catL, List.map_append, List.map_append, h a (.head _), map_cat fun c q => h c (.tail _ q)]
/-- the hook's look by its parts -/
theorem obEX_of {fa : List He.Fa} {fn : List He.DefD} {ex : PySem.W.Frag → Bool} {tb : List TabS} {xl : List XD} {w : World} {K : PySem.W.Frag} {fas : List (List He.Fa)} {fns : List (List He.DefD)} {exs : List (List Bool)} (e1 : catL fas = fa) (e2 : catL fns = fn) (e3 : allB (allBs exs) = ex K)
    (h1 : ∀ a, a ∈ fas → (a.all fun f => f.ok K) = true) (h2 : ∀ a, a ∈ fns → (a.all (fun d => d.ok K), a.map fun d => He.fnW K d.at_) = (true, a.map He.DefD.val)) (h3 : ∀ a, a ∈ exs → allB a = true)
    (h4 : (tb.map fun t => He.dicW K (He.ga K t.1)) = tb.map fun (t : TabS) => some (He.keysIn w.params t.2)) (h5 : (xl.map fun d => d.w K) = xl.map XD.val) :
    obsEX fa fn ex tb xl K = (((He.valD fn, true), tb.map fun (t : TabS) => some (He.keysIn w.params t.2)), xl.map XD.val) := by
  subst e1 e2
  unfold obsEX obsET obsE He.obsD He.valD
  rw [all_cat h1, all_cat fun a q => (Prod.mk.inj (h2 a q)).1, map_cat fun a q => (Prod.mk.inj (h2 a q)).2, ← e3, allBs_ok h3, h4, h5]
  rfl
end Dn
namespace Dn
open PySem PySem.Spec PyProof.Rows L2
/-- truth -/
def truW (m : Mem) : W → Option Bool
  | .non => some false
  | .bl b => some b
  | .int i => some (i != 0)
  | .tup xs => some (!xs.isEmpty)
  | .lst xs => some (!xs.isEmpty)
  | .old xs => some (!xs.isEmpty)
  | _ => none
theorem RWs.isEmpty {K : PySem.W.Frag} {z : Zn} {H : Hp} {ws : List W} {vs : List V} (h : RWs K z H ws vs) : vs.isEmpty = ws.isEmpty := by
  have := h.length
  cases vs <;> cases ws <;> simp at this <;> rfl
theorem truW_ok {K : PySem.W.Frag} {z : Zn} {H : Hp} {m : Mem} {w : W} {v : V} {k : Bool} (h : RW K z H w v) (e : truW m w = some k) : TruV K v H k := by
  cases w with
  | non => cases h; cases e; rfl
  | bl b => cases h; cases e; rfl
  | int i => cases h; cases e; rfl
  | tup xs =>
    obtain ⟨a, vs, rfl, h2, h3⟩ := h
    cases e
    exact .inr (.inl ⟨vs, h2, by rw [h3.isEmpty]⟩)
  | lst xs =>
    obtain ⟨a, vs, rfl, h2, h3⟩ := h
    cases e
    exact .inl ⟨vs, SqL.of h2.2, by rw [h3.isEmpty]⟩
  | old xs =>
    obtain ⟨a, vs, rfl, h2, h3⟩ := h
    cases e
    exact .inl ⟨vs, h2.sq, by rw [h3.isEmpty]⟩
  | _ => cases e
def eOrT (f h : DE) : DE := fun r m => (f r m).bind fun w m1 => match truW m1 w with
  | some true => .ok w m1
  | some false => h r m1
  | none => .bad
def eAndT (f h : DE) : DE := fun r m => (f r m).bind fun w m1 => match truW m1 w with
  | some true => h r m1
  | some false => .ok w m1
  | none => .bad
section
variable {X : Cx} {cl : Clz} {Wx : WX} {a b : Expr} {pos : Pos}
theorem se_orT {f h : DE} {rest : List Expr} (ha : PE X a (tE (gx X cl Wx) f)) (hb : PE X (.BoolOp .Or (b :: rest) pos) (tE (gx X cl Wx) h)) : PE X (.BoolOp .Or (a :: b :: rest) pos) (tE (gx X cl Wx) (eOrT f h)) :=
  (pe_orT ha hb).imp fun s H Q ⟨r, m, z, R, P⟩ => by
    refine ⟨r, m, z, R, P.bind fun z1 w m1 v H1 E1 R1 r1 P1 => ?_⟩
    cases q : truW m1 w with
    | none => rw [q] at P1; exact P1.elim
    | some k =>
      rw [q] at P1
      refine ⟨k, truW_ok r1 q, ?_⟩
      cases k with
      | true => exact Post.ret (b := v) P1 R1 r1
      | false => exact ⟨r, m1, z1, R1, P1⟩
theorem se_andT {f h : DE} {rest : List Expr} (ha : PE X a (tE (gx X cl Wx) f)) (hb : PE X (.BoolOp .And (b :: rest) pos) (tE (gx X cl Wx) h)) : PE X (.BoolOp .And (a :: b :: rest) pos) (tE (gx X cl Wx) (eAndT f h)) :=
  (pe_andT ha hb).imp fun s H Q ⟨r, m, z, R, P⟩ => by
    refine ⟨r, m, z, R, P.bind fun z1 w m1 v H1 E1 R1 r1 P1 => ?_⟩
    cases q : truW m1 w with
    | none => rw [q] at P1; exact P1.elim
    | some k =>
      rw [q] at P1
      refine ⟨k, truW_ok r1 q, ?_⟩
      cases k with
      | true => exact ⟨r, m1, z1, R1, P1⟩
      | false => exact Post.ret (b := v) P1 R1 r1
end
end Dn
namespace Dn
open PySem PySem.Spec PyProof.Rows L2
/-! ### what the module's names reach, with marks -/
/-- the new ones of some addresses, and the marks with them -/
def marks : List Addr → Nat → List Addr → Nat × List Addr
  | [], seen, acc => (seen, acc)
  | a :: as, seen, acc => match Nat.beq (Nat.land (Nat.shiftRight seen a) 1) 1 with
    | true => marks as seen acc
    | false => marks as (Nat.lor seen (Nat.shiftLeft 1 a)) (a :: acc)
/-- n rounds: the marks, all that was come to, the last round's -/
def rounds (g : Addr → Option Obj) : Nat → Nat → List Addr → List Addr → List Addr
  | 0, _, acc, _ => acc
  | n + 1, seen, acc, fr => match marks (fr.flatMap fun a => match g a with
    | some o => He.refsD o
    | none => []) seen [] with
    | (seen', new) => rounds g n seen' (acc ++ new) new
def asY (g : Addr → Option Obj) (n : Nat) : List Addr := cStatics :: rounds g n (Nat.shiftLeft 1 mainGlobals) [mainGlobals] [mainGlobals]
def obsEYG (n : Nat) (fa : List He.Fa) (fn : List He.DefD) (ex : PySem.W.Frag → Bool) (ts : List TabS) (xs : List XD) (g : Addr → Option Obj) : AlEX := obsEX fa fn ex ts xs (He.frG g (asY g n))
def hookEY (n : Nat) (fa : List He.Fa) (fn : List He.DefD) (ex : PySem.W.Frag → Bool) (ts : List TabS) (xs : List XD) : PySem.W.Hook where
  α := AlEX
  obs := fun s => obsEYG n fa fn ex ts xs s.heap.get?
  val := fun w => (((He.valD fn, true), ts.map fun (t : TabS) => some (He.keysIn w.params t.2)), xs.map XD.val)
  says := fun w h => ∃ K : PySem.W.Frag, K.In h ∧ SaysEX fa fn ex ts xs w K
  of := fun w s e => ⟨He.frG s.heap.get? (asY s.heap.get? n), He.frG_in, saysEX_of (w := w) e⟩
  keeps := fun _ _ _ ⟨K, hK, c⟩ k => ⟨K, PySem.W.Frag.In.keeps hK k, c⟩
theorem obsEYG_eq {n : Nat} {fa : List He.Fa} {fn : List He.DefD} {ex : PySem.W.Frag → Bool} {ts : List TabS} {xs : List XD} {g : Addr → Option Obj} {s : Shared} (h : ∀ a, g a = s.heap.get? a) : obsEYG n fa fn ex ts xs g = (hookEY n fa fn ex ts xs).obs s := by
  have e : g = s.heap.get? := funext h
  rw [e] <;> rfl
end Dn

/-! D29: t == () of a tuple of any things. -/
namespace Dn
open PySem PySem.Spec PyProof.Rows L2
def rEqT0 (K : PySem.W.Frag) : R2 := fun x y H Q => rEqD K x y H Q ∨ ∃ a b xs, x = .ref a ∧ y = .ref b ∧ SqT K H a xs ∧ SqT K H b [] ∧ Q (.bl xs.isEmpty) H
theorem op_eqT0 {X : Cx} (hu : X.A.units + 64 < cLine) : OpR X (compareOp .Eq) (rEqT0 X.K) := by
  intro pins s σ H x y v u Q I rx ry h
  rcases h with h | ⟨a, b, xs, rfl, rfl, h1, h2, q⟩
  · exact op_eqD hu pins s σ H x y v u Q I rx ry h
  cases rx
  cases ry
  obtain ⟨its, rv, ht, _⟩ := I.tuple h1
  obtain ⟨its2, rv2, ht2, _⟩ := I.tuple h2
  cases rv2
  have hl := rv.length
  have ⟨o1, o2, o3, n1, o4⟩ := ht
  have ⟨p1, p2, p3, n2, p4⟩ := ht2
  have key := SeqAt.RcAt.tuples (A := X.A) (s := s) (l := a) (b := b) (e := fun _ => true) ⟨o1, o2, o3, _, o4⟩ ⟨p1, p2, p3, _, p4⟩ (by omega) (fun j j1 j2 => absurd j2 (by simp))
  have eb : ((List.range (min its.toArray.size (List.toArray ([] : List Value)).size)).all (fun _ => true) && its.toArray.size == (List.toArray ([] : List Value)).size) = xs.isEmpty := by
    have : its.toArray.size = xs.length := by simpa using hl.symm
    rw [this]
    cases xs <;> rfl
  rw [eb] at key
  exact key X.prog X.w X.xe _ ⟨.bl _, H, I, rfl, q⟩
/-- x == y, of a tuple of any things if y is () -/
def eqT0 (m : Mem) (a b : W) : Option W := match a, b with
  | .tup xs, .tup [] => some (.bl xs.isEmpty)
  | a, b => eqM m a b
theorem w_eqT0 {K : PySem.W.Frag} {cl : Clz} : OpW K cl eqT0 (rEqT0 K) := by
  intro z m H a b x y w Q M ra rb e k
  unfold eqT0 at e
  split at e
  · rename_i xs
    obtain ⟨p, vs, rfl, h2, h3⟩ := ra
    obtain ⟨q, us, rfl, g2, g3⟩ := rb
    cases g3
    cases e
    refine .inr ⟨p, q, vs, rfl, rfl, h2, g2, ?_⟩
    rw [h3.isEmpty]
    exact k z _ H (Ext.refl _ _) M rfl
  · exact .inl (w_eq z m H _ _ x y w Q M ra rb e k)
end Dn
namespace Dn
open PySem PySem.Spec PyProof.Rows L2
/-! ### {} -/
theorem new_dct {K : PySem.W.Frag} {cl : Clz} {z : Zn} {m : Mem} {H : Hp} {p : Addr} {kws : List (Key × W)} {kvs : List (Key × V)} (M : MemOk K cl z m H) (hp : H p = none) (h : RFs K z H kws kvs) : Ext z H (z.lay p) (upd H p (.dK kvs)) ∧ MemOk K cl (z.lay p) (m ++ [.dct kws]) (upd H p (.dK kvs)) ∧ RW K (z.lay p) (upd H p (.dK kvs)) (.ref m.length) (.ref p) := by
  have hs := upd_same_of (o := .dK kvs) hp
  have e := M.extS hs
  have e2 : Ext z (upd H p (.dK kvs)) (z.lay p) (upd H p (.dK kvs)) := ⟨⟨fun _ _ h => h, fun _ _ _ h => h, fun _ h => ⟨h, rfl⟩, fun n a h => by
    have hl := (List.getElem?_eq_some_iff.mp h).1
    show (z.phi ++ [p])[n]? = some a
    rw [List.getElem?_append_left hl]
    exact h, fun _ _ h => h⟩, fun _ h => ⟨h, rfl⟩⟩
  obtain ⟨e3, M2⟩ := (M.same hs).lay (p := p) (c := .dct kws) (M.z_ne hp) (M.p_ne hp) ⟨M.h_ne hp, kvs, upd_same, RFs.ext (e.trans e2) h⟩
  refine ⟨e.trans e2, M2, p, ?_, rfl⟩
  show (z.phi ++ [p])[m.length]? = some p
  rw [← M.len]
  simp
def eDict0 : DE := fun _ m => .ok (.ref m.length) (m ++ [.dct []])
theorem se_dict0 {X : Cx} {cl : Clz} {Wx : WX} {pos : Pos} : PE X (.Dict [] [] pos) (tE (gx X cl Wx) eDict0) :=
  pe_dnewK.imp fun s H Q ⟨r, m, z, R, P⟩ p hp => by
    obtain ⟨e, M, q⟩ := new_dct (cl := cl) (kws := []) (kvs := []) R.mem hp rfl
    exact P _ _ _ e (R.after e M) q
end Dn

/-! D30: except X as n: y = n; the caught one as a value: isinstance of own classes, its fields. -/
namespace Dn
open PySem PySem.Spec PyProof.Rows L2
section
variable {X : Cx} {x n y : Str} {c : Value} {i j : Nat} {body : List Stmt} {np p1 p2 p3 pos pos' : Pos} {tb : WX → TS} {Wout : WX}
/-- a thing that is there, and no one's, is known from now on; so is an exception's dict -/
theorem inv_know {pins : List (Addr × Obj)} {σ : L2.St} {H : Hp} {s : Shared} {a : Addr} {oe : Obj} (I : Inv X pins σ H s) (na : H a = none) (nL : a ≠ X.env.locals) (new : ∀ o, X.s_0.heap.get? a = some o → a ∈ X.ex) (nC : ∀ z c, X.env.cells.lookup z = some c → c ≠ a) (nP : ∀ p ∈ X.pn ++ pins, p.1 ≠ a)
    (ho : s.heap.get? a = some oe) : Inv X pins σ (upd H a (.frz oe (hereO a))) s := by
  have hne : ∀ b u, H b = some u → b ≠ a := fun b u e q => by rw [q, na] at e; cases e
  have sub : ∀ b u, H b = some u → upd H a (.frz oe (hereO a)) b = some u := fun b u e => by rw [upd_ne (hne b u e)]; exact e
  refine ⟨I.ok, I.os, I.bare, ⟨I.base.keep, I.base.slot, fun b o e n hx => ?_, I.base.there, fun b xs e => sub _ _ (I.base.tups b xs e), fun b o u e => sub _ _ (I.base.frzs b o u e), fun b ps e => ?_⟩, I.loc, I.cell, ?_, fun z c e => ?_, fun p hp => ?_, ?_, I.len⟩
  · by_cases hb : b = a
    · subst hb
      exact absurd (new o e) hx
    · rw [upd_ne hb]
      exact I.base.free b o e n hx
  · obtain ⟨more, e2⟩ := I.base.tbls b ps e
    exact ⟨more, sub _ _ e2⟩
  · rw [upd_ne (Ne.symm nL)]
    exact I.free
  · rw [upd_ne (nC z c e)]
    exact I.freeC z c e
  · obtain ⟨q1, q2, q3, q4, q5⟩ := I.pin p hp
    exact ⟨q1, by rw [upd_ne (nP p hp)]; exact q2, q3, q4, q5⟩
  · intro b u e
    by_cases hb : b = a
    · subst hb
      rw [upd_same] at e
      cases e
      exact ⟨ho, ⟨_, ho⟩, ⟨_, ho⟩, fun h1 h2 ⟨o, q⟩ k => ⟨o, k _ q⟩⟩
    · rw [upd_ne hb] at e
      exact (I.hok b u e).stay (fun _ _ _ q => q) (fun b q => sub _ _ q) fun b xs q => sub _ _ q
theorem inv_frz {pins : List (Addr × Obj)} {σ : L2.St} {H : Hp} {s : Shared} {d : Addr} {od : Obj} {fs : List (Str × V)} (I : Inv X pins σ H s) (hd : H d = some (.xd fs)) (ho : s.heap.get? d = some od) : Inv X pins σ (upd H d (.frz od (.xd fs))) s := by
  have ne : ∀ b, H b = none → b ≠ d := fun b e q => by rw [q, hd] at e; cases e
  have sub : ∀ b u, H b = some u → (∀ gs, u ≠ .xd gs) → upd H d (.frz od (.xd fs)) b = some u := fun b u e n => by
    by_cases hb : b = d
    · subst hb
      rw [hd] at e
      exact absurd (Option.some.inj e).symm (n fs)
    · rw [upd_ne hb]; exact e
  refine ⟨I.ok, I.os, I.bare, ⟨I.base.keep, I.base.slot, fun b o e n hx => ?_, I.base.there, fun b xs e => sub _ _ (I.base.tups b xs e) (fun _ q => by cases q), fun b o u e => sub _ _ (I.base.frzs b o u e) (fun _ q => by cases q), fun b ps e => ?_⟩, I.loc, I.cell, ?_, fun z c e => ?_, fun p hp => ?_, ?_, I.len⟩
  · have := I.base.free b o e n hx
    rw [upd_ne (ne b this)]
    exact this
  · obtain ⟨more, e2⟩ := I.base.tbls b ps e
    exact ⟨more, sub _ _ e2 (fun _ q => by cases q)⟩
  · rw [upd_ne (ne _ I.free)]
    exact I.free
  · rw [upd_ne (ne _ (I.freeC z c e))]
    exact I.freeC z c e
  · obtain ⟨q1, q2, q3, q4, q5⟩ := I.pin p hp
    exact ⟨q1, by rw [upd_ne (ne _ q2)]; exact q2, q3, q4, q5⟩
  · intro b u e
    have st : ∀ b u, ObjOk X.prog X.w H s.heap b u → ObjOk X.prog X.w (upd H d (.frz od (.xd fs))) s.heap b u := fun b u q => q.stay (fun _ _ _ q => q) (fun b q => sub _ _ q (fun _ z => by cases z)) fun b xs q => sub _ _ q (fun _ z => by cases z)
    by_cases hb : b = d
    · subst hb
      rw [upd_same] at e
      cases e
      exact ⟨ho, st _ _ (I.hok b _ hd)⟩
    · rw [upd_ne hb] at e
      exact st _ _ (I.hok b u e)
/-- the heap behind the catch -/
def caught (H : Hp) (a d : Addr) (oe od : Obj) (fs : List (Str × V)) : Hp := upd (upd H a (.frz oe (hereO a))) d (.frz od (.xd fs))
def wKeep (K : PySem.W.Frag) (c : Value) (i j : Nat) (Wout : WX) (D : Ends) : WX := fun cls d σ H =>
  ∃ b, PySem.W.exmOne K cls c = some b ∧ (b = true → ∃ dd fs, d = some dd ∧ H dd = some (.xd fs) ∧ ∀ a (oe od : Obj), H a = none → (oe.cls = cls ∧ oe.dict = some dd ∧ ∃ us, oe.data = .fields us) →
      D.nx (((σ.set i (some (.ref a))).set j (some (.ref a))).set i none) (caught H a dd oe od fs)) ∧
    (b = false → Wout cls d σ H)
/-- where a flying thing stands: at no frame, and nowhere ahead of the try -/
theorem fly_at {pins : List (Addr × Obj)} {σ : L2.St} {H : Hp} {sI : Shared} {B h : Heap} {a : Addr} {Z : Obj → Prop} (hs : X.stack = X.env :: X.outer) (hf : X.env.frame = some X.env.locals) (J : Inv X pins σ H sI) (nb : ∀ b o, sI.heap.get? b = some o → b ∉ frs X.stack → B.get? b = some o) (fl : HandSPX.FlyingZ B (X.env :: X.outer) a Z h) :
    a ≠ X.env.locals ∧ a ∉ X.fs ∧ ∀ o, sI.heap.get? a ≠ some o := by
  obtain ⟨oe, us, h1, _, h2⟩ := fl.there
  have out : a ∉ frs (X.env :: X.outer) := fun q => by
    obtain ⟨_, o, g1, g2⟩ := fl.2.2.1.mem q
    have e := h1.symm.trans g1
    cases e
    exact g2 _ h2
  refine ⟨fun q => out ?_, fun q => out ?_, fun o q => ?_⟩
  · exact List.mem_filterMap.mpr ⟨X.env, .head _, hf.trans (congrArg some q.symm)⟩
  · obtain ⟨en, m1, m2⟩ := List.mem_filterMap.mp q
    exact List.mem_filterMap.mpr ⟨en, .tail _ m1, m2⟩
  · have e := nb a o q (by rw [hs]; exact out)
    rw [fl.2.1] at e
    cases e
theorem ps_try_keep (hs : X.stack = X.env :: X.outer) (hf : X.env.frame = some X.env.locals) (hN : X.N.Nodup) (hi : X.N[i]? = some n) (hln : X.env.kindOf n = some .local) (hj : X.N[j]? = some y) (hly : Loc X.env.scope y) (hfy : X.env.scope.names.lookup y = some .local) (hij : i ≠ j) (hc : Names X x c) (tk : Takes X Wout)
    (hd : (n == ("__debug__" : Str)) = false) (hcd : (n == ("__classdict__" : Str)) = false)
    (hsw : swapsWith (.Name n p2) (some (.Name y p1)) p3.line X.env = pure false)
    (hb : ∀ (W : WX) (pn : List (Addr × Obj)) (xe : Value → Shared → Prop), Takes (X.tr pn xe) W → PassesOwn (model X.prog X.w) X.A X.env xe → PSs (X.tr pn xe) body (tb W)) :
    PS X (.Try body [.ExceptHandler (some (.Name x np)) (some n) [.Assign [.Name y p1] (.Name n p2) p3] pos'] [] [] pos) (fun D σ H => tb (wKeep X.K c i j Wout D) D σ H) := by
  constructor
  intro pins s0 σ0 H0 D I0 hw
  have ok := I0.ok
  have frames : X.A.frames = some (X.env :: X.outer) := ok.frames.trans (congrArg some hs)
  let hdl : ExceptHandler := .ExceptHandler (some (.Name x np)) (some n) [.Assign [.Name y p1] (.Name n p2) p3] pos'
  -- what is wished of an exception of the body
  let wish : Value → Shared → Prop := fun e t1 => wpAny (model X.prog X.w) X.A (noteFrame e X.env) (fun _ t2 => wpAny (model X.prog X.w) X.A (setFlight e none) (fun _ t3 => wpAny (model X.prog X.w) X.A (handleBy e X.env [hdl]) (SP X pins D) X.xe t3) X.xe t2) X.xe t1
  have catches : Takes (X.tr (X.pn ++ pins) wish) (wKeep X.K c i j Wout D) := by
    rintro u s1 ⟨a, B, sI, q0, σ1, H1, cls, d, rfl, IT, nb, up, sky, na, os, ag, b, hb1, yes, no⟩
    have JI : Inv X pins σ1 H1 sI := IT.ofTry ok
    refine Sky.land Zc.steady frames hf (show Sky B (X.env :: X.outer) a (Zc cls d) X.env.locals s1.heap from hs ▸ sky) fun h1 F1 U1 => ?_
    have stands : ∀ h2, HandSPX.FlyingZ B (X.env :: X.outer) a (Zc cls d) h2 → s1.heap.UpToSlots h2 → Inv X pins σ1 H1 { s1 with heap := h2 } := fun h2 F U => JI.landed nb F.1 (up.trans U) os ag
    obtain ⟨nL, nF, nI⟩ := fly_at hs hf JI nb F1
    obtain ⟨o1, us1, g1, z1, dat1⟩ := F1.there
    have I1 := stands h1 F1 U1
    have asks : PySem.W.Looks (model X.prog X.w) h1 (typeOf (.ref a)) cls := fun _ _ _ _ k q => wpAny_typeOf_ref (k _ _ g1) (z1.1 ▸ q)
    have test := PySem.W.exm_one (M := model X.prog X.w) I1.kIn asks hb1
    refine wpAny_handleBy_cons (codeAny_handlers_test ?_) (by intro q; cases q)
    have onName : ∀ {Q E : Value → Shared → Prop}, Q c { s1 with heap := h1 } → wpAny (model X.prog X.w) (X.A.mark (some (.ref a))) (eval (.Name x np) X.env) Q E { s1 with heap := h1 } := fun q => by
      have IS := I1.suite g1 dat1 na nL nF
      rcases hc with ⟨hg, hdb, hm | ⟨hm, hv, hnn⟩⟩
      · exact ld_glob IS hg hm q hdb
      · exact ld_blt IS hg hm hv q hnn hdb
    refine onName (test.here ?_)
    cases b with
    | false =>
      refine wpAny_handleBy_nil ?_
      obtain ⟨_, _, _, o2, vs2, T, oT, ts2, g2, z2, dat2, fl2, rT⟩ := id F1
      have out : wpAny (model X.prog X.w) X.A (setFlight (.ref a) X.env.frame) (fun _ s2 => wpAny (model X.prog X.w) X.A (throw (.ref a) : Sem Flow) (SP X pins D) X.xe s2) X.xe { s1 with heap := h1 } := by
        rw [hf]
        exact HandSPX.setFlight_upZ F1 fun h2 hh2 U2 => wpAny_throw (tk _ _ ⟨a, B, sI, pins, σ1, H1, cls, d, rfl, JI, nb, (up.trans U1).trans U2, .inr (.inr (hs ▸ hh2)), na, os, ag, no rfl⟩)
      show wpAny (model X.prog X.w) X.A (PySem.passOn _ _ _) _ _ _
      unfold PySem.passOn
      refine wpAny_bind (wpAny_field g2 dat2 fl2 ?_)
      rw [if_neg (show ¬ ((Value.ref T == Value.none) = true) from by simp)]
      first
        | exact wpAny_bind (wpAny_pure (wpAny_bind out))
        | exact wpAny_bind out
    | true =>
      obtain ⟨dd, fs, hdd, hxd, hq⟩ := yes rfl
      refine codeAny_handlers_suite_as (HandSPX.lands_againZ F1 fun h2 F2 U2 => ?_)
      obtain ⟨o2, us2, g2, z2, dat2⟩ := F2.there
      have IS := (stands h2 F2 (U1.trans U2)).suite g2 dat2 na nL nF
      let XS : Cx := X.suite a ((a, o2) :: (X.pn ++ pins))
      refine store_ok (X := XS) (v := .ref a) IS hN hi (.inl hln) rfl (fun s3 I3 => ?_) (.inr hln)
      have run := pss_one (ps_set (X := XS) (i := j) hN hj hly (pe_var (X := XS) (i := i) hi (.inl hln) hd hcd) hsw (.inr hfy))
      have hlt : i < σ1.length := JI.len ▸ (List.getElem?_eq_some_iff.mp hi).1
      have slot : (σ1.set i (some (V.ref a)))[i]? = some (some (V.ref a)) := List.getElem?_set_self hlt
      refine wpAny_mono (run.run [] s3 _ H1 { nx := fun σ2 H2 => σ2 = (σ1.set i (some (.ref a))).set j (some (.ref a)) ∧ H2 = H1, rt := fun _ _ => False, bk := fun _ _ => False, ct := fun _ _ => False } I3 ⟨.ref a, slot, rfl, rfl⟩) (fun f s4 r4 => ?_) fun _ _ z => z.elim
      cases f with
      | next =>
        obtain ⟨σ4, H4, I4, e4, e5⟩ := r4
        rw [e4, e5] at I4
        have here := (I4.pin (a, o2) (List.mem_append_left _ (.head _))).1
        have I5 := inv_know (I4.unsuite ok) na nL (fun o e => Classical.byContradiction fun hx => by
            obtain ⟨o', e'⟩ := JI.base.there a o e hx
            exact nI o' e') (fun z cc e q => by
            obtain ⟨_, o, e1, _⟩ := JI.cell z cc e
            exact nI o (q ▸ e1)) (fun p hp q => nI _ (q ▸ (JI.pin p hp).1)) here
        have xd5 : upd H1 a (.frz o2 (hereO a)) dd = some (.xd fs) := (upd_ne fun q => by rw [q, na] at hxd; cases hxd).trans hxd
        obtain ⟨_, ⟨od, _, _, hod, _⟩, _⟩ := (show ObjOk X.prog X.w _ s4.heap dd (.xd fs) from I5.hok dd _ xd5)
        exact gone_ok (inv_frz I5 xd5 hod) hN hi hln fun s6 I6 => ⟨_, _, I6, hq a o2 od na ⟨z2.1, z2.2.trans hdd, _, dat2⟩⟩
      | brk => exact absurd r4 (by rintro ⟨_, _, _, q⟩; exact q)
      | cont => exact absurd r4 (by rintro ⟨_, _, _, q⟩; exact q)
      | ret u => exact absurd r4 (by rintro ⟨_, _, _, _, _, q⟩; exact q)
  refine wpAny_Try_except (wpAny_mono ((hb _ _ wish catches PassesOwn.looking).run [] s0 σ0 H0 D (I0.toTry _) hw) (fun f s1 r1 => ?_) fun _ _ q => q)
  cases f with
  | next =>
    obtain ⟨σ1, H1, I1, q⟩ := r1
    exact wpAny_execs_nil ⟨σ1, H1, I1.ofTry ok, q⟩
  | ret u =>
    obtain ⟨v, σ1, H1, I1, ru, q⟩ := r1
    exact ⟨v, σ1, H1, I1.ofTry ok, ru, q⟩
  | brk =>
    obtain ⟨σ1, H1, I1, q⟩ := r1
    exact ⟨σ1, H1, I1.ofTry ok, q⟩
  | cont =>
    obtain ⟨σ1, H1, I1, q⟩ := r1
    exact ⟨σ1, H1, I1.ofTry ok, q⟩
end
end Dn

/-! D31: a caught exception as a value: try .. except X as n: y = n; isinstance(y, C); y.f. -/
namespace Dn
open PySem PySem.Spec PyProof.Rows L2
def sTryV (l : List (Nat × Bool)) (i j : Nat) (fb : DS) : DS := fun r m => match fb r m with
  | .exc x r1 m1 => match mtOf l x.cls with
    | some true => if i < r1.length ∧ j < r1.length then .next ((r1.set i none).set j (some (.ref m1.length))) (m1 ++ [.exn x.cls x.fs]) else .bad
    | some false => .exc x r1 m1
    | none => .bad
  | q => q
section
variable {K : PySem.W.Frag} {cl : Clz}
theorem caught_ok {z : Zn} {H : Hp} {m : Mem} {a d : Addr} {oe od : Obj} {c : Nat} {fs : List (Str × W)} {vs : List (Str × V)} {us : Array Value} (M : MemOk K cl z m H) (na : H a = none) (hd : H d = some (.xd vs)) (h1 : oe.cls = .ref (cl c)) (h2 : oe.dict = some d) (h3 : oe.data = .fields us) (hf : RFs K z H fs vs) :
    Ext z H (z.lay a) (caught H a d oe od vs) ∧ MemOk K cl (z.lay a) (m ++ [.exn c fs]) (caught H a d oe od vs) ∧ (z.lay a).phi[m.length]? = some a := by
  have hda : d ≠ a := fun q => by rw [q, na] at hd; cases hd
  have atA : caught H a d oe od vs a = some (.frz oe (hereO a)) := by unfold caught; rw [upd_ne (Ne.symm hda), upd_same]
  have atD : caught H a d oe od vs d = some (.frz od (.xd vs)) := by unfold caught; rw [upd_same]
  have other : ∀ b, b ≠ a → b ≠ d → caught H a d oe od vs b = H b := fun b q1 q2 => by unfold caught; rw [upd_ne q2, upd_ne q1]
  have keep : ∀ b u, H b = some u → (∀ gs, u ≠ .xd gs) → caught H a d oe od vs b = some u := fun b u e n => by
    rw [other b (fun q => by rw [q, na] at e; cases e) (fun q => by rw [q, hd] at e; exact absurd (Option.some.inj e).symm (n vs))]
    exact e
  have hph : ∀ (n : Nat) b, z.phi[n]? = some b → (z.lay a).phi[n]? = some b := fun n b h => by
    have hl := (List.getElem?_eq_some_iff.mp h).1
    show (z.phi ++ [a])[n]? = some b
    rw [List.getElem?_append_left hl]
    exact h
  have e0 : Ext0 z H (z.lay a) (caught H a d oe od vs) := ⟨fun b xs e => keep b _ e (fun _ q => by cases q), fun b o u e => keep b _ e (fun _ q => by cases q), fun b q => ⟨q, by
    obtain ⟨xs, e⟩ := M.lz b q
    rw [keep b _ e (fun _ q => by cases q), e]⟩, hph, fun b p e => keep b _ e (fun _ q => by cases q)⟩
  have e : Ext z H (z.lay a) (caught H a d oe od vs) := ⟨e0, fun b q => ⟨q, by
    obtain ⟨o, e, n⟩ := M.lh b q
    rw [keep b _ e n.1, e]⟩⟩
  have atP : (z.lay a).phi[m.length]? = some a := by
    show (z.phi ++ [a])[m.length]? = some a
    rw [← M.len]
    simp
  have np := M.p_ne na
  refine ⟨e, ⟨by simp [M.len], ?_, M.sep, fun b q => ?_, fun b q => ?_, fun n b c' p1 p2 => ?_, tabs_keep M.tb (fun b ps q => keep b _ q (fun _ q => by cases q)) e0.xts, cl.gx e0 M.gh⟩, atP⟩
  · show (z.phi ++ [a]).Nodup
    rw [List.nodup_append]
    exact ⟨M.nd, by simp, fun x hx y hy q => np (by rw [List.mem_singleton.mp hy] at q; rw [← q]; exact hx)⟩
  · obtain ⟨xs, q2⟩ := M.lz b q
    exact ⟨xs, keep b _ q2 (fun _ q => by cases q)⟩
  · obtain ⟨o, q2, q3⟩ := M.lh b q
    exact ⟨o, keep b _ q2 q3.1, q3⟩
  · by_cases hn : n < m.length
    · have p1' : z.phi[n]? = some b := by
        have p1 : (z.phi ++ [a])[n]? = some b := p1
        rw [List.getElem?_append_left (by rw [M.len]; exact hn)] at p1
        exact p1
      rw [List.getElem?_append_left hn] at p2
      have hc := M.cells n b c' p1' p2
      have hb : caught H a d oe od vs b = H b := by
        obtain ⟨o, q1, q2⟩ := hc.thereX
        rw [keep b _ q1 q2.1, q1]
      exact hc.ext2 e0 Iff.rfl (fun q => q) hb
    · have hl : n < (m ++ [Cell.exn c fs]).length := (List.getElem?_eq_some_iff.mp p2).1
      have hn2 : n = m.length := by
        rw [List.length_append, List.length_singleton] at hl
        omega
      subst hn2
      rw [atP] at p1
      cases p1
      rw [List.getElem?_append_right (Nat.le_refl _), Nat.sub_self] at p2
      cases p2
      exact ⟨M.h_ne na, oe, od, d, us, vs, atA, ⟨h1, h2, h3⟩, atD, hf.ext0 e0⟩
end
section
variable {X : Cx} {cl : Clz} {Wx : WX} {body : List Stmt} {np p1 p2 p3 pos pos' : Pos} {x n y : Str} {c i j : Nat}
theorem ss_tryV {l : List (Nat × Bool)} {fb : DS} (hs : X.stack = X.env :: X.outer) (hf : X.env.frame = some X.env.locals) (hN : X.N.Nodup) (hi : X.N[i]? = some n) (hln : X.env.kindOf n = some .local) (hj : X.N[j]? = some y) (hfy : X.env.scope.names.lookup y = some .local) (hij : i ≠ j) (tk : Takes X Wx) (hm : X.mg x = some (.ref (cl c))) (hl : Mt X.K cl c l)
    (hb : ∀ (W : WX) (pn : List (Addr × Obj)) (xe : Value → Shared → Prop), Takes (X.tr pn xe) W → PassesOwn (model X.prog X.w) X.A X.env xe → PSs (X.tr pn xe) body (tS (gx X cl W) fb)) (hg : Gl X x := by rfl) (hd : (x == ("__debug__" : Str)) = false := by decide)
    (hd1 : (n == ("__debug__" : Str)) = false := by decide) (hcd1 : (n == ("__classdict__" : Str)) = false := by decide) (hsw : swapsWith (.Name n p2) (some (.Name y p1)) p3.line X.env = pure false := by rfl) :
    PS X (.Try body [.ExceptHandler (some (.Name x np)) (some n) [.Assign [.Name y p1] (.Name n p2) p3] pos'] [] [] pos) (tS (gx X cl Wx) (sTryV l i j fb)) :=
  (ps_try_keep (i := i) (j := j) (c := .ref (cl c)) (tb := fun W => tS (gx X cl W) fb) hs hf hN hi hln hj (.inl hfy) hfy hij ⟨hg, hd, .inl hm⟩ tk hd1 hcd1 hsw hb).imp fun D s H ⟨r, m, z, R, P⟩ => by
    refine ⟨r, m, z, R, ?_⟩
    unfold sTryV at P
    cases q : fb r m with
    | next r1 m1 => rw [q] at P; exact P
    | brk r1 m1 => rw [q] at P; exact P
    | cont r1 m1 => rw [q] at P; exact P
    | ret w m1 => rw [q] at P; exact P
    | bad => rw [q] at P; exact P
    | exc x r1 m1 =>
      rw [q] at P
      dsimp only at P
      intro z' s' H' cv d e' R' xn
      obtain ⟨rfl, dd, fs', rfl, hdd, hfs⟩ := id xn
      cases qm : mtOf l x.cls with
      | none => rw [qm] at P; exact P.elim
      | some b =>
        rw [qm] at P
        refine ⟨b, hl _ _ qm, fun hb => ⟨dd, fs', rfl, hdd, fun a oe od na ⟨h1, h2, us, h3⟩ => ?_⟩, fun hb => ?_⟩
        · subst hb
          dsimp only at P
          split at P
          · rename_i hc
            obtain ⟨e2, M2, at2⟩ := caught_ok (oe := oe) (od := od) R'.mem na hdd h1 h2 h3 hfs
            refine P _ _ _ (e'.trans e2) ⟨⟨?_, fun k w hk => ?_⟩, M2⟩
            · simp [R'.slots.1]
            · have hlen : s'.length = r1.length := R'.slots.1.symm
              by_cases hkj : j = k
              · subst hkj
                rw [List.getElem?_set_self (by rw [List.length_set]; exact hc.2)] at hk
                cases hk
                refine ⟨.ref a, ?_, a, at2, rfl⟩
                rw [List.getElem?_set_ne hij, List.getElem?_set_self (by rw [List.length_set, hlen]; exact hc.2)]
              · rw [List.getElem?_set_ne hkj] at hk
                by_cases hki : i = k
                · subst hki
                  rw [List.getElem?_set_self hc.1] at hk
                  cases hk
                · rw [List.getElem?_set_ne hki] at hk
                  obtain ⟨v, v1, v2⟩ := R'.slots.2 k w hk
                  refine ⟨v, ?_, v2.ext e2⟩
                  rw [List.getElem?_set_ne hki, List.getElem?_set_ne hkj, List.getElem?_set_ne hki]
                  exact v1
          · exact P.elim
        · subst hb
          exact P z' s' H' _ _ e' R' xn
end
end Dn

/-! D32: isinstance(y, C) and y.f of a caught exception y. -/
namespace Dn
open PySem PySem.Spec PyProof.Rows L2
/-- a caught exception at a, of the class D, with its fields -/
structure Kept (H : Hp) (a D : Addr) (vs : List (Str × V)) : Prop where
  ex : ∃ (oe od : Obj) (d : Addr) (us : Array Value), H a = some (.frz oe (hereO a)) ∧ oe.cls = .ref D ∧ oe.dict = some d ∧ oe.data = .fields us ∧ H d = some (.frz od (.xd vs))
theorem Kept.inst {X : Cx} {pins : List (Addr × Obj)} {σ : L2.St} {H : Hp} {s : Shared} {a D : Addr} {vs : List (Str × V)} (k : Kept H a D vs) (I : Inv X pins σ H s) : ∃ oe od, PySem.W.InstAt s.heap a oe D (some od) ∧ ∀ f v, vs.lookup f = some v → ∃ u, PySem.W.lookIn f od = some (some u) ∧ RelV v u := by
  obtain ⟨oe, od, d, us, h1, h2, h3, h4, h5⟩ := k.ex
  obtain ⟨ha, _⟩ := (show ObjOk X.prog X.w H s.heap a (.frz oe (hereO a)) from I.hok a _ h1)
  obtain ⟨hd, mA, hns, hr⟩ := (show ObjOk X.prog X.w H s.heap d (.frz od (.xd vs)) from I.hok d _ h5)
  obtain ⟨od2, ho, hl⟩ := lookIn_ns hns
  refine ⟨oe, od2, ⟨ha, h2, by unfold PySem.W.notCls; rw [h4] <;> rfl, by rw [h3]; exact ho⟩, fun f v e => ?_⟩
  obtain ⟨u, hu, ru⟩ := RelO.some_of (v := v) (o := mA f) (by rw [← e]; exact hr f)
  exact ⟨u, by rw [hl, hu], ru⟩
def excB (K : PySem.W.Frag) (D : Addr) : Bool := decide (PySem.W.findIn K (.ref D) "__getattribute__" = some (some (.builtin "BaseException.__getattribute__"))) && (decide (PySem.W.findIn K (.ref D) "__getattr__" = some none) && (decide (PySem.W.subIn K (.ref D) (.type "BaseException") = some true) && (PySem.W.hasDictIn K D && (decide (PySem.W.findIn K (.ref D) "__class__" = some (some (.builtin "object.__class__"))) &&
  (decide (PySem.W.specialIn K (.builtin "object.__class__") "__get__" = some (some (.builtin "getset_descriptor.__get__"))) && (decide (PySem.W.takesIn K (.builtin "object.__class__") = some true) && decide (PySem.W.mroIn K D (.type "object") = some true)))))))
theorem excB_ok {K : PySem.W.Frag} {D : Addr} (h : excB K D = true) : ExcC K D := by
  unfold excB at h
  simp only [Bool.and_eq_true, decide_eq_true_eq] at h
  obtain ⟨h1, h2, h3, h4, h5, h6, h7, h8⟩ := h
  exact ⟨h1, h2, h3, h4, h5, h6, h7, h8⟩
/-- isinstance(y, c), c a value that stands for the class cv -/
def rIsKe (K : PySem.W.Frag) : List V → Hp → VK → Prop := fun xs H Q => ∃ (a D : Addr) (vs : List (Str × V)) (c : V) (cv : Value) (b : Bool), xs = [.ref a, c] ∧ Kept H a D vs ∧ ExcC K D ∧ (∀ u, RelV c u → u = cv) ∧ PySem.W.kitOne K (.ref D) cv = some b ∧ Q (.bl b) H
theorem call_isKe {X : Cx} : CallR X (.builtin "isinstance") (rIsKe X.K) := by
  intro pins s σ H xs us Q I r h
  obtain ⟨a, D, vs, c, cv, b, rfl, k, C, hcv, e, q⟩ := h
  obtain ⟨u1, u2, rfl, r1, r2⟩ := vals2 r
  cases (show u1 = Value.ref a from r1)
  have := hcv _ r2
  subst this
  obtain ⟨oe, od, J, _⟩ := k.inst I
  obtain ⟨cd, hcd, _⟩ := PySem.W.any_some C.hd
  exact PySem.W.kia_one (PySem.W.kitx_exc (by rw [hcd]; rfl) C.hg C.hk C.hs C.ha C.hn C.ht C.hm) I.kIn J e (fun z => nomatch z) fun tk => ⟨.bl b, H, I.tok tk, rfl, q⟩
/-- y.f -/
def tXk (K : PySem.W.Frag) (f : Str) (te : TE) : TE := fun σ H Q => te σ H fun x H1 => ∃ (a D : Addr) (vs : List (Str × V)) (v : V), x = .ref a ∧ Kept H1 a D vs ∧ XfC K D ∧ PySem.W.findIn K (.ref D) f = some none ∧ vs.lookup f = some v ∧ Q v H1
theorem pe_xk {X : Cx} {e : Expr} {te : TE} {pos : Pos} {n : Str} (he : PE X e te) (hb : attributeBase e n X.env (eval e X.env) = eval e X.env := by rfl) : PE X (.Attribute e n pos) (tXk X.K n te) := by
  refine ⟨fun pins s σ H Q I h => ?_⟩
  refine attr_of hb (thn (he.run pins s σ H _ I h) fun u s1 hh => ?_)
  obtain ⟨x, H1, I1, rx, a, D, vs, v, ex, k, T, hno, l, q⟩ := hh
  subst ex
  obtain rfl : u = Value.ref a := rx
  obtain ⟨oe, od, J, hl⟩ := k.inst I1
  obtain ⟨u, hu, ru⟩ := hl n v l
  exact HandSPX.exc_get I1.kIn J T.ga T.gg T.exC (PySem.W.findObj_own T.hdC hno rfl hu) (handed_of ru) ⟨v, H1, I1.tok _, ru, q⟩
/-! ### by the layer -/
/-- the number of a caught one's class, its fields -/
def exnOf (m : Mem) (w : W) : Option (Nat × List (Str × W)) := match w with
  | .ref n => match m[n]? with
    | some (.exn c fs) => some (c, fs)
    | _ => none
  | _ => none
def eIsX (l : List (Nat × Bool)) (f : DE) : DE := fun r m => (f r m).bind fun w m1 => match exnOf m1 w with
  | some (c, _) => match mtOf l c with
    | some b => .ok (.bl b) m1
    | none => .bad
  | none => .bad
def eXk (cs : List Nat) (x : Str) (f : DE) : DE := fun r m => (f r m).bind fun w m1 => match exnOf m1 w with
  | some (c, fs) => if cs.contains c = true then match fs.lookup x with
      | some u => .ok u m1
      | none => .bad
    else .bad
  | none => .bad
def IsX (K : PySem.W.Frag) (cl : Nat → Addr) (cv : Value) (l : List (Nat × Bool)) : Prop := ∀ i b, mtOf l i = some b → ExcC K (cl i) ∧ PySem.W.kitOne K (.ref (cl i)) cv = some b
def isXB (K : PySem.W.Frag) (cl : Nat → Addr) (cv : Value) (l : List (Nat × Bool)) : Bool := l.all fun q => excB K (cl q.1) && decide (PySem.W.kitOne K (.ref (cl q.1)) cv = some q.2)
theorem isXB_ok {K : PySem.W.Frag} {cl : Nat → Addr} {cv : Value} {l : List (Nat × Bool)} (h : isXB K cl cv l = true) : IsX K cl cv l := fun i b e => by
  have h2 := List.all_eq_true.mp h (i, b) (mem_of_lookup e)
  rw [Bool.and_eq_true_iff, decide_eq_true_eq] at h2
  exact ⟨excB_ok h2.1, h2.2⟩
def XkS (K : PySem.W.Frag) (cl : Nat → Addr) (cs : List Nat) (x : Str) : Prop := ∀ c, cs.contains c = true → XfC K (cl c) ∧ PySem.W.findIn K (.ref (cl c)) x = some none
def xkB (K : PySem.W.Frag) (cl : Nat → Addr) (cs : List Nat) (x : Str) : Bool := cs.all fun c => xfB K (cl c) && decide (PySem.W.findIn K (.ref (cl c)) x = some none)
theorem xkB_ok {K : PySem.W.Frag} {cl : Nat → Addr} {cs : List Nat} {x : Str} (h : xkB K cl cs x = true) : XkS K cl cs x := fun c e => by
  have h2 := List.all_eq_true.mp h c (by simpa using e)
  rw [Bool.and_eq_true_iff, decide_eq_true_eq] at h2
  exact ⟨xfB_ok h2.1, h2.2⟩
section
variable {X : Cx} {cl : Clz} {Wx : WX} {e : Expr} {pos : Pos}
theorem exn_at {K : PySem.W.Frag} {z : Zn} {m : Mem} {H : Hp} {w : W} {v : V} {c : Nat} {fs : List (Str × W)} (M : MemOk K cl z m H) (h : RW K z H w v) (e : exnOf m w = some (c, fs)) : ∃ a vs, v = .ref a ∧ Kept H a (cl c) vs ∧ RFs K z H fs vs := by
  cases w with
  | ref n =>
    obtain ⟨a, h1, h2⟩ := h
    obtain ⟨cc, e1, hc⟩ := M.at h1
    simp only [exnOf, e1] at e
    cases cc with
    | exn c' fs' =>
      cases e
      obtain ⟨_, oe, od, d, us, vs, q1, ⟨q2, q3, q4⟩, q5, q6⟩ := hc
      exact ⟨a, vs, h2, ⟨oe, od, d, us, q1, q2, q3, q4, q5⟩, q6⟩
    | _ => cases e
  | _ => cases e
theorem se_isx {l : List (Nat × Bool)} {f : DE} {x : Str} {c : Nat} {p p2 : Pos} (hm : X.mg "isinstance" = none) (hx : X.mg x = some (.ref (cl c))) (hl : IsX X.K cl (.ref (cl c)) l) (h : PE X e (tE (gx X cl Wx) f)) (hg : Gl X "isinstance" := by rfl) (hg2 : Gl X x := by rfl) (hdb2 : (x == ("__debug__" : Str)) = false := by decide)
    (he1 : starEach [e, .Name x p2] X.env = (false, eval e X.env) :: starEach [.Name x p2] X.env := by rfl) (he2 : starEach [.Name x p2] X.env = (false, eval (.Name x p2) X.env) :: starEach [] X.env := by rfl) (hpl : (backTo pos (starEach [.Name x p2] X.env)).any (·.1) = false := by rfl) :
    PE X (.Call (.Name "isinstance" p) [e, .Name x p2] [] pos) (tE (gx X cl Wx) (eIsX l f)) :=
  (pe_callB call_isKe hg hm (by decide +kernel) (pa_cons h (pa_cons (pe_glob (v := .ref (cl c)) hg2 hx rfl hdb2) pa_nil he2) he1) (by decide) (by decide) he1 hpl).imp fun s H Q ⟨r, m, z, R, P⟩ => by
    refine ⟨r, m, z, R, P.bind fun z1 w m1 v H1 E1 R1 r1 P1 => ?_⟩
    cases q : exnOf m1 w with
    | none => rw [q] at P1; exact P1.elim
    | some cf =>
      obtain ⟨k, fs⟩ := cf
      rw [q] at P1
      dsimp only at P1
      cases q2 : mtOf l k with
      | none => rw [q2] at P1; exact P1.elim
      | some b =>
        rw [q2] at P1
        obtain ⟨a, vs, rfl, hk, hf⟩ := exn_at R1.mem r1 q
        obtain ⟨g1, g2⟩ := hl _ _ q2
        exact ⟨a, cl k, vs, .ref (cl c), .ref (cl c), b, rfl, hk, g1, fun u hu => hu, g2, Post.ret (b := V.bl b) P1 R1 rfl⟩
theorem se_xk {cs : List Nat} {x : Str} {f : DE} (hs : XkS X.K cl cs x) (h : PE X e (tE (gx X cl Wx) f)) (hb : attributeBase e x X.env (eval e X.env) = eval e X.env := by rfl) : PE X (.Attribute e x pos) (tE (gx X cl Wx) (eXk cs x f)) :=
  (pe_xk h hb).imp fun s H Q ⟨r, m, z, R, P⟩ => by
    refine ⟨r, m, z, R, P.bind fun z1 w m1 v H1 E1 R1 r1 P1 => ?_⟩
    cases q : exnOf m1 w with
    | none => rw [q] at P1; exact P1.elim
    | some cf =>
      obtain ⟨k, fs⟩ := cf
      rw [q] at P1
      dsimp only at P1
      split at P1
      · rename_i hc
        cases q2 : fs.lookup x with
        | none => rw [q2] at P1; exact P1.elim
        | some u =>
          rw [q2] at P1
          obtain ⟨a, vs, rfl, hk, hf⟩ := exn_at R1.mem r1 q
          obtain ⟨g1, g2⟩ := hs _ hc
          obtain ⟨v, v1, v2⟩ := hf.lookup q2
          exact ⟨a, cl k, vs, v, rfl, hk, g1, g2, v1, Post.ret (b := v) P1 R1 v2⟩
      · exact P1.elim
end
end Dn

/-! D33: repr of {}; tuple(range ..). -/
namespace Dn
open PySem PySem.Spec PyProof.Rows L2
def rRepr0 (K : PySem.W.Frag) : List V → Hp → VK → Prop := fun vs H Q => rRepr K vs H Q ∨ ∃ a, vs = [.ref a] ∧ H a = some (.dK []) ∧ Q (.str (PyData.dict []).shown) H
theorem cr_repr0 {X : Cx} (hu : X.A.units + 65 < cLine) (hg : X.A.guards = some []) : CallR X (.builtin "repr") (rRepr0 X.K) := by
  intro pins s σ H vs us Q I r h
  rcases h with h | ⟨a, rfl, ha, q⟩
  · exact cr_repr hu hg pins s σ H vs us Q I r h
  obtain ⟨u, rfl, ru⟩ := vals1 r
  cases (show u = Value.ref a from ru)
  obtain ⟨_, hs, kvs, rk, o, es, ep, h1, h2, h3, _, h4, _⟩ := (show ObjOk X.prog X.w H s.heap a (.dK []) from I.hok a _ ha)
  cases rk
  have he : es.toList = [] := by
    revert h4
    generalize es.toList = l
    intro h4
    cases h4
    rfl
  have hr : Reads s.heap (.ref a) (.dict []) ([a] ++ [] ++ []) := .dict (kvs := []) h1 h2.1 h3 (by rw [he]; exact .nil) (by rw [he]; exact .nil)
  refine repr_of_reads' hr (by kernel_rfl) (fun _ hm => ?_) hg (by
    have : PyData.depth (.dict []) ≤ 2 := by decide +kernel
    omega) (fun _ _ e => e) (fun h' u tk hk => ⟨.str _, H, I.kept hk, ⟨_, rfl⟩, q⟩) (by decide +kernel)
  have : sysModules = a := by simpa using hm
  rw [this] at hs
  simp at hs
def reprD (m : Mem) : List W → Option W
  | [.ref n] => match m[n]? with
    | some (.dct []) => some (.str (PyData.dict []).shown)
    | _ => reprW m [.ref n]
  | ws => reprW m ws
theorem w_reprD {K : PySem.W.Frag} {cl : Clz} : ClW K cl reprD (rRepr0 K) := by
  intro z m H ws vs w Q M rws e k
  unfold reprD at e
  split at e
  · rename_i n
    split at e
    · rename_i q
      obtain ⟨v, e1, e2⟩ := rws.one
      subst e1
      obtain ⟨a, h1, h2⟩ := e2
      obtain ⟨_, vs, h3, h4⟩ := M.cells n a _ h1 q
      cases h4
      cases e
      exact .inr ⟨a, by rw [h2], h3, k z _ H (Ext.refl _ _) M rfl⟩
    · exact .inl (w_repr z m H _ vs w Q M rws e k)
  · exact .inl (w_repr z m H _ vs w Q M rws e k)
/-! ### tuple(range ..) -/
section
variable {X : Cx} {cl : Clz} {Wx : WX} {a b : Expr} {p p2 pos pos2 : Pos}
def eTupA (t : DA) : DE := fun r m => (t r m).bind fun ws m1 => .ok (.tup ws) m1
theorem se_trg1 {f : DE} (hc : X.calm = true) (hl : X.mg "tuple" = none) (hr : X.mg "range" = none) (ha : PE X a (tE (gx X cl Wx) f)) (gl : Gl X "tuple" := by rfl) (gr : Gl X "range" := by rfl)
    (na : starEach [a] X.env = (false, eval a X.env) :: starEach [] X.env := by rfl) (nb : starEach [.Call (.Name "range" p2) [a] [] pos2] X.env = (false, eval (.Call (.Name "range" p2) [a] [] pos2) X.env) :: starEach [] X.env := by rfl) :
    PE X (.Call (.Name "tuple" p) [.Call (.Name "range" p2) [a] [] pos2] [] pos) (tE (gx X cl Wx) (eTupA (aRg1 f))) :=
  (pe_tupRg hc gl hl (prg_1 gr hr ha na) nb).imp fun s H Q ⟨r, m, z, R, P⟩ => by
    refine ⟨r, m, z, R, ?_⟩
    unfold eTupA aRg1 at P
    cases q : f r m with
    | ok w m1 =>
      rw [q] at P
      intro z1 v H1 E1 R1 r1
      cases w with
      | int n =>
        have r1 : v = .int n := r1
        simp only [Dn.R.bind] at P
        by_cases h : 0 ≤ n ∧ n ≤ 16777216
        · simp only [h, and_self, if_true] at P
          refine ⟨n, r1, RgOk.of_le (by omega) h.2 (by omega) h.1, fun y hy => ?_⟩
          obtain ⟨e, M, g⟩ := new_tup (cl := cl) R1.mem hy (rgW_ok 0 n)
          exact P z1 _ _ (E1.trans e) (R1.after e M) g
        · rw [if_neg h] at P; exact P.elim
      | _ => exact P.elim
    | exc x m1 => rw [q] at P; exact P
    | bad => rw [q] at P; exact P
theorem se_trg2 {f g : DE} (hc : X.calm = true) (hl : X.mg "tuple" = none) (hr : X.mg "range" = none) (ha : PE X a (tE (gx X cl Wx) f)) (hb : PE X b (tE (gx X cl Wx) g)) (gl : Gl X "tuple" := by rfl) (gr : Gl X "range" := by rfl)
    (na : starEach [a, b] X.env = (false, eval a X.env) :: starEach [b] X.env := by rfl) (nb : starEach [b] X.env = (false, eval b X.env) :: starEach [] X.env := by rfl) (hp : (backTo pos2 (starEach [b] X.env)).any (·.1) = false := by rfl)
    (nc : starEach [.Call (.Name "range" p2) [a, b] [] pos2] X.env = (false, eval (.Call (.Name "range" p2) [a, b] [] pos2) X.env) :: starEach [] X.env := by rfl) :
    PE X (.Call (.Name "tuple" p) [.Call (.Name "range" p2) [a, b] [] pos2] [] pos) (tE (gx X cl Wx) (eTupA (aRg2 f g))) :=
  (pe_tupRg hc gl hl (prg_2 gr hr ha hb na nb hp) nc).imp fun s H Q ⟨r, m, z, R, P⟩ => by
    refine ⟨r, m, z, R, ?_⟩
    unfold eTupA aRg2 at P
    cases q : f r m with
    | ok w m1 =>
      rw [q] at P
      intro z1 v H1 E1 R1 r1
      simp only [Dn.R.bind] at P
      refine ⟨r, m1, z1, R1, ?_⟩
      cases q2 : g r m1 with
      | ok u m2 =>
        rw [q2] at P
        intro z2 v2 H2 E2 R2 r2
        cases w with
        | int i => cases u with
          | int j =>
            have r1 : v = .int i := r1
            have r2 : v2 = .int j := r2
            simp only at P
            by_cases h : 0 ≤ i ∧ j ≤ 16777216 ∧ i ≤ 16777216 ∧ 0 ≤ j
            · simp only [h, and_self, if_true] at P
              refine ⟨i, j, r1, r2, RgOk.of_le h.1 h.2.1 h.2.2.1 h.2.2.2, fun y hy => ?_⟩
              obtain ⟨e, M, g⟩ := new_tup (cl := cl) R2.mem hy (rgW_ok i j)
              exact P z2 _ _ ((E1.trans E2).trans e) (R2.after e M) g
            · rw [if_neg h] at P; exact P.elim
          | _ => exact P.elim
        | _ => exact P.elim
      | exc x m2 => rw [q2] at P; exact fun z' H' c d e R' q' => P z' H' c d (E1.trans e) R' q'
      | bad => rw [q2] at P; exact P
    | exc x m1 => rw [q] at P; exact P
    | bad => rw [q] at P; exact P
end
end Dn
namespace Dn
open PySem PySem.Spec PyProof.Rows L2
/-! ### list + list, to change -/
section
variable {X : Cx} {cl : Clz} {Wx : WX} {a b : Expr} {pos : Pos}
def aAddL (f h : DE) : DA := fun r m => (f r m).bind fun x m1 => (h r m1).bind fun y m2 => match trkOf m2 x, trkOf m2 y with
  | some xs, some ys => if xs.length + ys.length ≤ 16777216 then .ok (xs ++ ys) m2 else .bad
  | _, _ => .bad
theorem sn_addL {f h : DE} (ha : PE X a (tE (gx X cl Wx) f)) (hb : PE X b (tE (gx X cl Wx) h)) : PE X (.BinOp a .Add b pos) (tN (gx X cl Wx) (aAddL f h)) :=
  (pe_op op_cat ha hb).imp fun s H Q ⟨r, m, z, R, P⟩ => by
    refine ⟨r, m, z, R, P.bind fun z1 w m1 v H1 E1 R1 r1 P1 => ?_⟩
    refine ⟨r, m1, z1, R1, P1.bind fun z2 u m2 v2 H2 E2 R2 r2 P2 => ?_⟩
    cases q1 : trkOf m2 w with
    | none => rw [q1] at P2; exact P2.elim
    | some xs =>
      rw [q1] at P2
      cases q2 : trkOf m2 u with
      | none => rw [q2] at P2; exact P2.elim
      | some ys =>
        rw [q2] at P2
        dsimp only at P2
        split at P2
        · rename_i c
          obtain ⟨p, vs, a1, a2, a3⟩ := trk_at R2.mem (r1.ext E2) q1
          obtain ⟨q, us, b1, b2, b3⟩ := trk_at R2.mem r2 q2
          refine ⟨p, q, vs, us, a1, b1, a2, b2, by rw [a3.length, b3.length]; exact sl_le c, fun l hl => ?_⟩
          obtain ⟨e, M, g⟩ := new_rel (cl := cl) R2.mem hl (a3.append b3)
          exact P2 _ _ _ e (R2.after e M) g
        · exact P2.elim
end
end Dn

/-! D34: xs[::-1] of a list or a tuple. -/
namespace Dn
open PySem PySem.Spec PyProof.Rows L2 HT
theorem fm_congr {α β : Type} {f g : α → Option β} : ∀ {l : List α}, (∀ x, x ∈ l → f x = g x) → l.filterMap f = l.filterMap g
  | [], _ => rfl
  | a :: l, h => by
    have ih := fm_congr (l := l) fun x q => h x (.tail _ q)
    simp only [List.filterMap_cons, h a (.head _), ih]
section
variable {prog : Program} {w : World} {A : Around} {E : Value → Shared → Prop} {s : Shared}
theorem adjust_rev (n : Nat) : Builtin.Slice.sliceAdjust none none (-1) (n : Int) = ((n : Int) - 1, -1) := by
  have h1 : (-1 : Int) < 0 := by omega
  unfold Builtin.Slice.sliceAdjust
  simp only [h1, if_true]
theorem places_rev (n : Nat) : Builtin.Slice.slicePlaces ((n : Int) - 1) (-1) (-1) = n := by
  unfold Builtin.Slice.slicePlaces
  have h1 : ¬ ((-1 : Int) > 0) := by omega
  simp only [h1, if_false]
  have e : (- -1 : Int) = 1 := by decide
  rw [e, Int.ediv_one]
  split <;> omega
theorem sliceApplied_rev {sl : Addr} {vl vu vs : Value} {n : Nat} {Q : Int × Int × Nat → Shared → Prop} (hs : s.heap.IsSliceOf sl vl vu vs) (pl : IsPart vl none) (pu : IsPart vu none) (ps : IsPart vs (some (-1)))
    (h : Q ((n : Int) - 1, -1, n) s) : wpAny (model prog w) A (Builtin.Slice.sliceApplied (.ref sl) (pure (n : Int))) Q E s := by
  obtain ⟨os, hos, hcs, hds⟩ := id hs
  unfold Builtin.Slice.sliceApplied Builtin.Slice.sliceFields
  refine wpAny_bind (wpAny_bind (wpAny_field hos hds (x := vl) rfl (wpAny_bind (wpAny_field hos hds (x := vu) rfl (wpAny_bind (wpAny_field hos hds (x := vs) rfl (wpAny_pure ?_)))))))
  refine wpAny_bind (slicePart_ ps ?_)
  show wpAny _ _ (if ((-1 : Int) == 0) = true then _ else _) _ _ s
  rw [if_neg (by decide)]
  refine wpAny_bind (slicePart_ pl (wpAny_bind (slicePart_ pu (wpAny_bind (wpAny_pure ?_)))))
  show wpAny _ _ (match Builtin.Slice.sliceAdjust none none (-1) (n : Int) with | (lo, hi) => pure (lo, (-1 : Int), Builtin.Slice.slicePlaces lo hi (-1))) _ _ s
  rw [adjust_rev n]
  show wpAny _ _ (pure ((n : Int) - 1, (-1 : Int), Builtin.Slice.slicePlaces ((n : Int) - 1) (-1) (-1))) _ _ s
  rw [places_rev]
  exact wpAny_pure h
theorem pick_rev (xs : Array Value) : ((List.range xs.size).filterMap fun (m : Nat) => xs[((xs.size : Int) - 1 + (m : Int) * -1).toNat]?).toArray = xs.toList.reverse.toArray := by
  have e : ((List.range xs.size).filterMap fun (m : Nat) => xs[((xs.size : Int) - 1 + (m : Int) * -1).toNat]?) = ((List.range xs.size).map fun k => xs.size - 1 - k).filterMap (xs[·]?) := by
    rw [List.filterMap_map]
    refine fm_congr fun m hm => ?_
    have := List.mem_range.mp hm
    have e2 : ((xs.size : Int) - 1 + (m : Int) * -1).toNat = xs.size - 1 - m := by omega
    show _ = xs[xs.size - 1 - m]?
    rw [e2]
  rw [e, PySem.W.krv_range, List.filterMap_reverse, PySem.W.krv_all]
theorem getItem_tuple_rev {t sl : Addr} {items : Array Value} {vl vu vs : Value} {Q : Value → Shared → Prop} (ht : IsTup s.heap t items) (hs : s.heap.IsSliceOf sl vl vu vs) (pl : IsPart vl none) (pu : IsPart vu none) (ps : IsPart vs (some (-1)))
    (h : Q (.ref s.heap.objs.size) { s with heap := s.heap.push { cls := .type "tuple", data := .seq items.toList.reverse.toArray } })
    (hsz : items.size ≤ sizeLine) : wpAny (model prog w) A (getItem (.ref t) (.ref sl)) Q E s := by
  have htake : sizeOk (.seq items.toList.reverse.toArray) := by
    show items.toList.reverse.toArray.size ≤ sizeLine
    rw [List.size_toArray, List.length_reverse, Array.length_toList]
    exact hsz
  obtain ⟨os, hos, hcs, hds⟩ := id hs
  have hTs : s.TypeIs (.ref sl) "slice" := ⟨os, hos, hcs⟩
  unfold getItem
  try with_reducible refine wpAny_holding ?_
  first | refine wpAny_bind (wpAny_pure ?_) | skip
  refine wpAny_bind (wpAny_sequenceKey ht.typeIs (by decide) ?_)
  refine wpAny_bind (wpAny_callSpecial?_slot (name := Str.ofString "__getitem__") ht.typeIs PyProof.Rows.slot_tuple_getitem
    (wpAny_call_entry PyProof.Rows.slot_tuple_getitem ht.typeIs entry_tuple_getitem ?_ (args_tuple_getitem _ _)))
  show wpAny _ _ (Builtin.Tuple.tupleItemsOf (.ref t) >>= _) _ _ s
  refine wpAny_bind (tupleItemsOf_ ht ?_)
  refine wpAny_bind (wpAny_typeOf hTs ?_)
  rw [if_pos (by decide)]
  refine wpAny_bind (sliceApplied_rev hs pl pu ps ?_)
  have hno : ¬ (((items.size : Int) - 1 == 0 && (-1 : Int) == 1 && items.size == items.size) = true) := by
    have : ((-1 : Int) == 1) = false := by decide
    rw [this, Bool.and_false, Bool.false_and]
    exact Bool.false_ne_true
  show wpAny _ _ (if ((items.size : Int) - 1 == 0 && (-1 : Int) == 1 && items.size == items.size) = true then _ else _) _ _ s
  rw [if_neg hno, pick_rev]
  first
    | exact wpAny_bind (m := Builtin.Tuple.tupleExact _) (wpAny_newObj_type (wpAny_pure ⟨_, rfl, wpAny_pure h⟩) htake)
    | exact wpAny_bind (m := Builtin.Tuple.tupleExact _) (wpAny_newObj_type (wpAny_bind (wpAny_pure (wpAny_pure ⟨_, rfl, wpAny_pure h⟩))) htake)
    | exact wpAny_bind (wpAny_bind (m := Builtin.Tuple.tupleExact _) (wpAny_newObj_type (wpAny_pure (wpAny_pure ⟨_, rfl, wpAny_pure h⟩)) htake))
    | exact wpAny_bind (wpAny_bind (m := Builtin.Tuple.tupleExact _) (wpAny_newObj_type (wpAny_pure ⟨_, rfl, wpAny_pure h⟩) htake))
end
section
variable {X : Cx}
def tRevT (K : PySem.W.Frag) (te : TE) : TE := fun σ H Q => te σ H fun x H1 => ∃ a xs, x = .ref a ∧ SqT K H1 a xs ∧ ∀ p, H1 p = none → Q (.ref p) (upd H1 p (.tup xs.reverse))
theorem pe_revT {e : Expr} {te : TE} {k : Nat} {p1 p2 p3 pos : Pos} (he : PE X e te) : PE X (.Subscript e (.Slice none none (some (.UnaryOp .USub (.Constant (.int 1) k p1) p2)) p3) pos) (tRevT X.K te) := by
  refine ⟨fun pins s σ H Q I h => ?_⟩
  refine Subscript_ (thn (he.run pins s σ H _ I h) fun v s1 ⟨x, H1, I1, r1, q1⟩ => ?_)
  obtain ⟨a, xs, ex, hx, q⟩ := q1
  subst ex
  cases r1
  have hst : PO X (some (.UnaryOp .USub (.Constant (.int 1) k p1) p2)) (tPart (tUn (rU fun i => .int (-i)) (tC (.int 1)))) := po_some (pe_un un_neg pe_int)
  refine wpAny_Slice (thn (po_none.run pins s1 σ H1 (fun o H2 => o = none ∧ H2 = H1) I1 ⟨rfl, rfl⟩) fun vl s2 ⟨l, H2, I2, pl, el, e2⟩ => ?_)
  subst el e2
  refine thn (po_none.run pins s2 σ H2 (fun o H3 => o = none ∧ H3 = H2) I2 ⟨rfl, rfl⟩) fun vu s3 ⟨u, H3, I3, pu, eu, e3⟩ => ?_
  subst eu e3
  refine thn (hst.run pins s3 σ H3 (fun o H4 => o = some (-1) ∧ H4 = H3) I3 ⟨1, rfl, -1, rfl, rfl, rfl⟩) fun vs s4 ⟨o, H4, I4, ps, eo, e4⟩ => ?_
  subst eo e4
  have I5 : Inv X pins σ H4 { s4 with heap := s4.heap.push { cls := .type "slice", data := .fields #[vl, vu, vs] } } := I4.kept (t' := s4.toks) fun b ob q => Heap.get?_push_of_some _ q
  obtain ⟨its, r, ht, hz⟩ := I5.tuple hx
  have hlen := r.length
  show wpAny (model X.prog X.w) X.A (subscriptTail e (.Slice none none (some (.UnaryOp .USub (.Constant (.int 1) k p1) p2)) p3) (.ref a) (.ref s4.heap.objs.size)) (EP X pins σ Q) X.xe { s4 with heap := s4.heap.push { cls := .type "slice", data := .fields #[vl, vu, vs] } }
  refine tail_any (ops := [.ref a, .ref s4.heap.objs.size]) ht.typeIs PyProof.Rows.slot_tuple_getitem.lookup ?_ (by with_unfolding_all rfl)
  refine getItem_tuple_rev ht (Heap.IsSliceOf.new _ vl vu vs) pl pu ps ?_ (by rw [List.size_toArray]; omega)
  refine ⟨.ref _, _, I5.laid (t' := s4.toks) (o := .tup xs.reverse) (fun b ob q => Heap.get?_push_of_some _ q) (Nat.le_refl _) ?_, rfl, q _ (I5.hok.fresh (Nat.le_refl _))⟩
  exact ⟨by rw [List.length_reverse]; exact hz, _, r.reverse, IsTup.new _ _⟩
end
section
variable {X : Cx} {cl : Clz} {Wx : WX} {e : Expr} {pos : Pos}
/-- t[::-1] of a tuple -/
def eRevT (f : DE) : DE := fun r m => (f r m).bind fun w m1 => match w with
  | .tup xs => .ok (.tup xs.reverse) m1
  | _ => .bad
theorem se_revT {f : DE} {k : Nat} {p1 p2 p3 : Pos} (h : PE X e (tE (gx X cl Wx) f)) : PE X (.Subscript e (.Slice none none (some (.UnaryOp .USub (.Constant (.int 1) k p1) p2)) p3) pos) (tE (gx X cl Wx) (eRevT f)) :=
  (pe_revT h).imp fun s H Q ⟨r, m, z, R, P⟩ => by
    refine ⟨r, m, z, R, P.bind fun z1 w m1 v H1 E1 R1 r1 P1 => ?_⟩
    cases w with
    | tup xs =>
      dsimp only at P1
      obtain ⟨p, vs, f1, f2, f3⟩ := r1
      refine ⟨p, vs, f1, f2, fun l hl => ?_⟩
      obtain ⟨t1, t2, t3⟩ := new_tup (cl := cl) R1.mem hl f3.reverse
      exact P1 _ _ _ t1 (R1.after t1 t2) t3
    | _ => exact P1.elim
end
end Dn

/-! D36: except clauses whose type is a tuple of classes, with a name (y = n) or without. -/
namespace Dn
open PySem PySem.Spec PyProof.Rows L2
section
variable {X : Cx} {x1 x2 x3 x4 : Str} {c1 c2 c3 c4 : Value} {q1 q2 q3 q4 tpos : Pos} {kk : Nat} {cls : Value} {b : Bool}
/-- a clause's type is evaluated, and asked of the caught one -/
def HTest (X : Cx) (tt : Expr) (cls : Value) (b : Bool) : Prop :=
  ∀ (a : Addr) (oe : Obj) (pn pins : List (Addr × Obj)) (σ : L2.St) (H : Hp) (s : Shared) (Q : Bool → Shared → Prop) (E : Value → Shared → Prop), Inv (X.suite a ((a, oe) :: pn)) pins σ H s →
    PySem.W.Looks (model X.prog X.w) s.heap (typeOf (.ref a)) cls → (∀ h2 : Heap, (∀ d o, s.heap.get? d = some o → h2.get? d = some o) → Q b { s with heap := h2 }) →
    wpAny (model X.prog X.w) (X.A.mark (some (.ref a))) (eval tt X.env) (fun c s1 => wpAny (model X.prog X.w) (X.A.mark (some (.ref a))) (excMatches (.ref a) c) Q E s1) E s
abbrev gTup (h : Heap) (cs : List Value) : Heap := h.push { cls := .type "tuple", data := .seq cs.toArray }
theorem gTup_keeps {h : Heap} (cs : List Value) (d : Addr) (o : Obj) (e : h.get? d = some o) : (gTup h cs).get? d = some o := Heap.get?_push_of_some _ e
theorem htest_1 (g1 : Gl X x1) (m1 : X.mg x1 = some c1) (d1 : (x1 == ("__debug__" : Str)) = false) (he : PySem.W.exmOne X.K cls c1 = some b) : HTest X (.Name x1 q1) cls b :=
  fun a oe pn pins σ H s Q E IS lk q => ld_glob IS g1 m1 ((PySem.W.exm_one (M := model X.prog X.w) IS.kIn lk he).here (q s.heap fun _ _ z => z)) d1
theorem htest_2 (g1 : Gl X x1) (m1 : X.mg x1 = some c1) (d1 : (x1 == ("__debug__" : Str)) = false) (g2 : Gl X x2) (m2 : X.mg x2 = some c2) (d2 : (x2 == ("__debug__" : Str)) = false) (he : PySem.W.exmAny X.K cls [c1, c2] = some b) :
    HTest X (.Tuple [.Name x1 q1, .Name x2 q2] kk tpos) cls b := by
  intro a oe pn pins σ H s Q E IS lk q
  have kp := gTup_keeps (h := s.heap) [c1, c2]
  refine wpAny_Tuple (wpAny_items_cons (ld_glob IS g1 m1 (wpAny_items_cons (ld_glob IS g2 m2 (wpAny_items_nil ⟨by size_fits, ?_⟩) d2)) d1))
  exact (PySem.W.exm_tup2 (M := model X.prog X.w) (IS.kIn.keeps kp) (lk.keeps kp) (Heap.get?_push_size s.heap rfl) he).here (q (gTup s.heap [c1, c2]) kp)
theorem htest_4 (g1 : Gl X x1) (m1 : X.mg x1 = some c1) (d1 : (x1 == ("__debug__" : Str)) = false) (g2 : Gl X x2) (m2 : X.mg x2 = some c2) (d2 : (x2 == ("__debug__" : Str)) = false)
    (g3 : Gl X x3) (m3 : X.mg x3 = some c3) (d3 : (x3 == ("__debug__" : Str)) = false) (g4 : Gl X x4) (m4 : X.mg x4 = some c4) (d4 : (x4 == ("__debug__" : Str)) = false) (he : PySem.W.exmAny X.K cls [c1, c2, c3, c4] = some b) :
    HTest X (.Tuple [.Name x1 q1, .Name x2 q2, .Name x3 q3, .Name x4 q4] kk tpos) cls b := by
  intro a oe pn pins σ H s Q E IS lk q
  have kp := gTup_keeps (h := s.heap) [c1, c2, c3, c4]
  refine wpAny_Tuple (wpAny_items_cons (ld_glob IS g1 m1 (wpAny_items_cons (ld_glob IS g2 m2 (wpAny_items_cons (ld_glob IS g3 m3 (wpAny_items_cons (ld_glob IS g4 m4 (wpAny_items_nil ⟨by size_fits, ?_⟩) d4)) d3)) d2)) d1))
  exact (PySem.W.exm_tup4 (M := model X.prog X.w) (IS.kIn.keeps kp) (lk.keeps kp) (Heap.get?_push_size s.heap rfl) he).here (q (gTup s.heap [c1, c2, c3, c4]) kp)
end
theorem fly_keeps {B h h' : Heap} {l : List Env} {e : Addr} {Z : Obj → Prop} (R : HandSPX.FlyingZ B l e Z h) (k : ∀ d o, h.get? d = some o → h'.get? d = some o) : HandSPX.FlyingZ B l e Z h' := by
  obtain ⟨f1, f2, f3, oe, vs, T, oT, ts, a1, a2, a3, a4, a5, a6, a7, a8, a9⟩ := R
  exact ⟨fun d o q => k d o (f1 d o q), f2, f3.of_keeps fun d o q _ => ⟨o, k d o q, rfl⟩, oe, vs, T, oT, ts, k _ _ a1, a2, a3, a4, a5, a6, k _ _ a7, a8, a9⟩
section
variable {X : Cx} {n y : Str} {tt : Expr} {ex : Value → Option Bool} {i j : Nat} {body : List Stmt} {p1 p2 p3 pos pos' : Pos} {tb : WX → TS} {Wout : WX}
def wKeepT (ex : Value → Option Bool) (i j : Nat) (Wout : WX) (D : Ends) : WX := fun cls d σ H =>
  ∃ b, ex cls = some b ∧ (b = true → ∃ dd fs, d = some dd ∧ H dd = some (.xd fs) ∧ ∀ a (oe od : Obj), H a = none → (oe.cls = cls ∧ oe.dict = some dd ∧ ∃ us, oe.data = .fields us) →
      D.nx (((σ.set i (some (.ref a))).set j (some (.ref a))).set i none) (caught H a dd oe od fs)) ∧
    (b = false → Wout cls d σ H)
theorem ps_try_keepT (hs : X.stack = X.env :: X.outer) (hf : X.env.frame = some X.env.locals) (hN : X.N.Nodup) (hi : X.N[i]? = some n) (hln : X.env.kindOf n = some .local) (hj : X.N[j]? = some y) (hly : Loc X.env.scope y) (hfy : X.env.scope.names.lookup y = some .local) (hij : i ≠ j) (hT : ∀ cls b, ex cls = some b → HTest X tt cls b) (tk : Takes X Wout)
    (hd : (n == ("__debug__" : Str)) = false) (hcd : (n == ("__classdict__" : Str)) = false)
    (hsw : swapsWith (.Name n p2) (some (.Name y p1)) p3.line X.env = pure false)
    (hb : ∀ (W : WX) (pn : List (Addr × Obj)) (xe : Value → Shared → Prop), Takes (X.tr pn xe) W → PassesOwn (model X.prog X.w) X.A X.env xe → PSs (X.tr pn xe) body (tb W)) :
    PS X (.Try body [.ExceptHandler (some tt) (some n) [.Assign [.Name y p1] (.Name n p2) p3] pos'] [] [] pos) (fun D σ H => tb (wKeepT ex i j Wout D) D σ H) := by
  constructor
  intro pins s0 σ0 H0 D I0 hw
  have ok := I0.ok
  have frames : X.A.frames = some (X.env :: X.outer) := ok.frames.trans (congrArg some hs)
  let hdl : ExceptHandler := .ExceptHandler (some tt) (some n) [.Assign [.Name y p1] (.Name n p2) p3] pos'
  let wish : Value → Shared → Prop := fun e t1 => wpAny (model X.prog X.w) X.A (noteFrame e X.env) (fun _ t2 => wpAny (model X.prog X.w) X.A (setFlight e none) (fun _ t3 => wpAny (model X.prog X.w) X.A (handleBy e X.env [hdl]) (SP X pins D) X.xe t3) X.xe t2) X.xe t1
  have catches : Takes (X.tr (X.pn ++ pins) wish) (wKeepT ex i j Wout D) := by
    rintro u s1 ⟨a, B, sI, q0, σ1, H1, cls, d, rfl, IT, nb, up, sky, na, os, ag, b, hb1, yes, no⟩
    have JI : Inv X pins σ1 H1 sI := IT.ofTry ok
    refine Sky.land Zc.steady frames hf (show Sky B (X.env :: X.outer) a (Zc cls d) X.env.locals s1.heap from hs ▸ sky) fun h1 F1 U1 => ?_
    have stands : ∀ h2, HandSPX.FlyingZ B (X.env :: X.outer) a (Zc cls d) h2 → s1.heap.UpToSlots h2 → Inv X pins σ1 H1 { s1 with heap := h2 } := fun h2 F U => JI.landed nb F.1 (up.trans U) os ag
    obtain ⟨nL, nF, nI⟩ := fly_at hs hf JI nb F1
    obtain ⟨o1, us1, g1, z1, dat1⟩ := F1.there
    have I1 := stands h1 F1 U1
    have asks : PySem.W.Looks (model X.prog X.w) h1 (typeOf (.ref a)) cls := fun _ _ _ _ k q => wpAny_typeOf_ref (k _ _ g1) (z1.1 ▸ q)
    refine wpAny_handleBy_cons (codeAny_handlers_test ?_) (by intro q; cases q)
    refine hT cls b hb1 a o1 (X.pn ++ pins) [] σ1 H1 { s1 with heap := h1 } _ _ (I1.suite g1 dat1 na nL nF) asks fun h2 kp => ?_
    have F2 := fly_keeps F1 kp
    have U2 : s1.heap.UpToSlots h2 := U1.trans (Heap.UpToSlots.of_keeps kp)
    cases b with
    | false =>
      refine wpAny_handleBy_nil ?_
      obtain ⟨_, _, _, o2, vs2, T, oT, ts2, g2, z2, dat2, fl2, rT⟩ := id F2
      have out : wpAny (model X.prog X.w) X.A (setFlight (.ref a) X.env.frame) (fun _ s2 => wpAny (model X.prog X.w) X.A (throw (.ref a) : Sem Flow) (SP X pins D) X.xe s2) X.xe { s1 with heap := h2 } := by
        rw [hf]
        exact HandSPX.setFlight_upZ F2 fun h3 hh2 U3 => wpAny_throw (tk _ _ ⟨a, B, sI, pins, σ1, H1, cls, d, rfl, JI, nb, (up.trans U2).trans U3, .inr (.inr (hs ▸ hh2)), na, os, ag, no rfl⟩)
      show wpAny (model X.prog X.w) X.A (PySem.passOn _ _ _) _ _ _
      unfold PySem.passOn
      refine wpAny_bind (wpAny_field g2 dat2 fl2 ?_)
      rw [if_neg (show ¬ ((Value.ref T == Value.none) = true) from by simp)]
      first
        | exact wpAny_bind (wpAny_pure (wpAny_bind out))
        | exact wpAny_bind out
    | true =>
      obtain ⟨dd, fs, hdd, hxd, hq⟩ := yes rfl
      refine codeAny_handlers_suite_as (HandSPX.lands_againZ F2 fun h3 F3 U3 => ?_)
      obtain ⟨o2, us2, g2, z2, dat2⟩ := F3.there
      have IS := (stands h3 F3 (U2.trans U3)).suite g2 dat2 na nL nF
      let XS : Cx := X.suite a ((a, o2) :: (X.pn ++ pins))
      refine store_ok (X := XS) (v := .ref a) IS hN hi (.inl hln) rfl (fun s3 I3 => ?_) (.inr hln)
      have run := pss_one (ps_set (X := XS) (i := j) hN hj hly (pe_var (X := XS) (i := i) hi (.inl hln) hd hcd) hsw (.inr hfy))
      have hlt : i < σ1.length := JI.len ▸ (List.getElem?_eq_some_iff.mp hi).1
      have slot : (σ1.set i (some (V.ref a)))[i]? = some (some (V.ref a)) := List.getElem?_set_self hlt
      refine wpAny_mono (run.run [] s3 _ H1 { nx := fun σ2 H2 => σ2 = (σ1.set i (some (.ref a))).set j (some (.ref a)) ∧ H2 = H1, rt := fun _ _ => False, bk := fun _ _ => False, ct := fun _ _ => False } I3 ⟨.ref a, slot, rfl, rfl⟩) (fun f s4 r4 => ?_) fun _ _ z => z.elim
      cases f with
      | next =>
        obtain ⟨σ4, H4, I4, e4, e5⟩ := r4
        rw [e4, e5] at I4
        have here := (I4.pin (a, o2) (List.mem_append_left _ (.head _))).1
        have I5 := inv_know (I4.unsuite ok) na nL (fun o e => Classical.byContradiction fun hx => by
            obtain ⟨o', e'⟩ := JI.base.there a o e hx
            exact nI o' e') (fun z cc e q => by
            obtain ⟨_, o, e1, _⟩ := JI.cell z cc e
            exact nI o (q ▸ e1)) (fun p hp q => nI _ (q ▸ (JI.pin p hp).1)) here
        have xd5 : upd H1 a (.frz o2 (hereO a)) dd = some (.xd fs) := (upd_ne fun q => by rw [q, na] at hxd; cases hxd).trans hxd
        obtain ⟨_, ⟨od, _, _, hod, _⟩, _⟩ := (show ObjOk X.prog X.w _ s4.heap dd (.xd fs) from I5.hok dd _ xd5)
        exact gone_ok (inv_frz I5 xd5 hod) hN hi hln fun s6 I6 => ⟨_, _, I6, hq a o2 od na ⟨z2.1, z2.2.trans hdd, _, dat2⟩⟩
      | brk => exact absurd r4 (by rintro ⟨_, _, _, q⟩; exact q)
      | cont => exact absurd r4 (by rintro ⟨_, _, _, q⟩; exact q)
      | ret u => exact absurd r4 (by rintro ⟨_, _, _, _, _, q⟩; exact q)
  refine wpAny_Try_except (wpAny_mono ((hb _ _ wish catches PassesOwn.looking).run [] s0 σ0 H0 D (I0.toTry _) hw) (fun f s1 r1 => ?_) fun _ _ q => q)
  cases f with
  | next =>
    obtain ⟨σ1, H1, I1, q⟩ := r1
    exact wpAny_execs_nil ⟨σ1, H1, I1.ofTry ok, q⟩
  | ret u =>
    obtain ⟨v, σ1, H1, I1, ru, q⟩ := r1
    exact ⟨v, σ1, H1, I1.ofTry ok, ru, q⟩
  | brk =>
    obtain ⟨σ1, H1, I1, q⟩ := r1
    exact ⟨σ1, H1, I1.ofTry ok, q⟩
  | cont =>
    obtain ⟨σ1, H1, I1, q⟩ := r1
    exact ⟨σ1, H1, I1.ofTry ok, q⟩
/-- .. without a name -/
def wOnlyT (ex : Value → Option Bool) (Wout : WX) (ts : TS) (D : Ends) : WX := fun cls d σ H => ∃ b, ex cls = some b ∧ (b = true → ts D σ H) ∧ (b = false → Wout cls d σ H)
theorem ps_try_onlyT {b₀ : Stmt} {suite : List Stmt} {ts : TS} (hs : X.stack = X.env :: X.outer) (hf : X.env.frame = some X.env.locals) (hT : ∀ cls b, ex cls = some b → HTest X tt cls b) (tk : Takes X Wout)
    (hb : ∀ (W : WX) (pn : List (Addr × Obj)) (xe : Value → Shared → Prop), Takes (X.tr pn xe) W → PassesOwn (model X.prog X.w) X.A X.env xe → PSs (X.tr pn xe) body (tb W))
    (hsu : ∀ (a : Addr) (oe : Obj) (pn : List (Addr × Obj)), PSs (X.suite a ((a, oe) :: pn)) (b₀ :: suite) ts) :
    PS X (.Try body [.ExceptHandler (some tt) none (b₀ :: suite) pos'] [] [] pos) (fun D σ H => tb (wOnlyT ex Wout ts D) D σ H) := by
  constructor
  intro pins s0 σ0 H0 D I0 hw
  have ok := I0.ok
  have frames : X.A.frames = some (X.env :: X.outer) := ok.frames.trans (congrArg some hs)
  let hdl : ExceptHandler := .ExceptHandler (some tt) none (b₀ :: suite) pos'
  let wish : Value → Shared → Prop := fun e t1 => wpAny (model X.prog X.w) X.A (noteFrame e X.env) (fun _ t2 => wpAny (model X.prog X.w) X.A (setFlight e none) (fun _ t3 => wpAny (model X.prog X.w) X.A (handleBy e X.env [hdl]) (SP X pins D) X.xe t3) X.xe t2) X.xe t1
  have catches : Takes (X.tr (X.pn ++ pins) wish) (wOnlyT ex Wout ts D) := by
    rintro u s1 ⟨a, B, sI, q0, σ1, H1, cls, d, rfl, IT, nb, up, sky, na, os, ag, b, hb1, yes, no⟩
    have JI : Inv X pins σ1 H1 sI := IT.ofTry ok
    refine Sky.land Zc.steady frames hf (show Sky B (X.env :: X.outer) a (Zc cls d) X.env.locals s1.heap from hs ▸ sky) fun h1 F1 U1 => ?_
    have stands : ∀ h2, HandSPX.FlyingZ B (X.env :: X.outer) a (Zc cls d) h2 → s1.heap.UpToSlots h2 → Inv X pins σ1 H1 { s1 with heap := h2 } := fun h2 F U => JI.landed nb F.1 (up.trans U) os ag
    obtain ⟨nL, nF, nI⟩ := fly_at hs hf JI nb F1
    obtain ⟨o1, us1, g1, z1, dat1⟩ := F1.there
    have I1 := stands h1 F1 U1
    have asks : PySem.W.Looks (model X.prog X.w) h1 (typeOf (.ref a)) cls := fun _ _ _ _ k q => wpAny_typeOf_ref (k _ _ g1) (z1.1 ▸ q)
    refine wpAny_handleBy_cons (codeAny_handlers_test ?_) (by intro q; cases q)
    refine hT cls b hb1 a o1 (X.pn ++ pins) [] σ1 H1 { s1 with heap := h1 } _ _ (I1.suite g1 dat1 na nL nF) asks fun h2 kp => ?_
    have F2 := fly_keeps F1 kp
    have U2 : s1.heap.UpToSlots h2 := U1.trans (Heap.UpToSlots.of_keeps kp)
    cases b with
    | false =>
      refine wpAny_handleBy_nil ?_
      obtain ⟨_, _, _, o2, vs2, T, oT, ts2, g2, z2, dat2, fl2, rT⟩ := id F2
      have out : wpAny (model X.prog X.w) X.A (setFlight (.ref a) X.env.frame) (fun _ s2 => wpAny (model X.prog X.w) X.A (throw (.ref a) : Sem Flow) (SP X pins D) X.xe s2) X.xe { s1 with heap := h2 } := by
        rw [hf]
        exact HandSPX.setFlight_upZ F2 fun h3 hh2 U3 => wpAny_throw (tk _ _ ⟨a, B, sI, pins, σ1, H1, cls, d, rfl, JI, nb, (up.trans U2).trans U3, .inr (.inr (hs ▸ hh2)), na, os, ag, no rfl⟩)
      show wpAny (model X.prog X.w) X.A (PySem.passOn _ _ _) _ _ _
      unfold PySem.passOn
      refine wpAny_bind (wpAny_field g2 dat2 fl2 ?_)
      rw [if_neg (show ¬ ((Value.ref T == Value.none) = true) from by simp)]
      first
        | exact wpAny_bind (wpAny_pure (wpAny_bind out))
        | exact wpAny_bind out
    | true =>
      refine codeAny_handlers_suite (HandSPX.lands_againZ F2 fun h3 F3 U3 => ?_)
      obtain ⟨o2, us2, g2, z2, dat2⟩ := F3.there
      have IS := (stands h3 F3 (U2.trans U3)).suite g2 dat2 na nL nF
      refine wpAny_mono ((hsu a o2 (X.pn ++ pins)).run [] _ σ1 H1 D IS (yes rfl)) (fun f s4 r4 => ?_) fun _ _ z => z.elim
      cases f with
      | next => exact let ⟨_, _, I4, q4⟩ := r4; ⟨_, _, I4.unsuite ok, q4⟩
      | brk => exact let ⟨_, _, I4, q4⟩ := r4; ⟨_, _, I4.unsuite ok, q4⟩
      | cont => exact let ⟨_, _, I4, q4⟩ := r4; ⟨_, _, I4.unsuite ok, q4⟩
      | ret u => exact let ⟨_, _, _, I4, r5, q4⟩ := r4; ⟨_, _, _, I4.unsuite ok, r5, q4⟩
  refine wpAny_Try_except (wpAny_mono ((hb _ _ wish catches PassesOwn.looking).run [] s0 σ0 H0 D (I0.toTry _) hw) (fun f s1 r1 => ?_) fun _ _ q => q)
  cases f with
  | next => exact let ⟨σ1, H1, I1, q⟩ := r1; wpAny_execs_nil ⟨σ1, H1, I1.ofTry ok, q⟩
  | ret u => exact let ⟨v, σ1, H1, I1, ru, q⟩ := r1; ⟨v, σ1, H1, I1.ofTry ok, ru, q⟩
  | brk => exact let ⟨σ1, H1, I1, q⟩ := r1; ⟨σ1, H1, I1.ofTry ok, q⟩
  | cont => exact let ⟨σ1, H1, I1, q⟩ := r1; ⟨σ1, H1, I1.ofTry ok, q⟩
end

end Dn

/-! D37: try .. except (A, B) as n: y = n; except (A, B, C, D): suite; isinstance(y, (A, B, ..)); t.get(key) of a table. -/
namespace Dn
open PySem PySem.Spec PyProof.Rows L2
def MtA (K : PySem.W.Frag) (at_ : Nat → Addr) (cs : List Nat) (l : List (Nat × Bool)) : Prop := ∀ i b, mtOf l i = some b → PySem.W.exmAny K (.ref (at_ i)) (cs.map fun c => Value.ref (at_ c)) = some b
def mtAB (K : PySem.W.Frag) (at_ : Nat → Addr) (cs : List Nat) (l : List (Nat × Bool)) : Bool := l.all fun q => decide (PySem.W.exmAny K (.ref (at_ q.1)) (cs.map fun c => Value.ref (at_ c)) = some q.2)
theorem mtAB_ok {K : PySem.W.Frag} {at_ : Nat → Addr} {cs : List Nat} {l : List (Nat × Bool)} (h : mtAB K at_ cs l = true) : MtA K at_ cs l := fun i b e => of_decide_eq_true (List.all_eq_true.mp h (i, b) (mem_of_lookup e))
def IsXT (K : PySem.W.Frag) (at_ : Nat → Addr) (cs : List Nat) (l : List (Nat × Bool)) : Prop := ∀ i b, mtOf l i = some b → ExcC K (at_ i) ∧ PySem.W.kitAny K (.ref (at_ i)) (cs.map fun c => Value.ref (at_ c)) = some b
def isXTB (K : PySem.W.Frag) (at_ : Nat → Addr) (cs : List Nat) (l : List (Nat × Bool)) : Bool := l.all fun q => excB K (at_ q.1) && decide (PySem.W.kitAny K (.ref (at_ q.1)) (cs.map fun c => Value.ref (at_ c)) = some q.2)
theorem isXTB_ok {K : PySem.W.Frag} {at_ : Nat → Addr} {cs : List Nat} {l : List (Nat × Bool)} (h : isXTB K at_ cs l = true) : IsXT K at_ cs l := fun i b e => by
  have h2 := List.all_eq_true.mp h (i, b) (mem_of_lookup e)
  rw [Bool.and_eq_true_iff, decide_eq_true_eq] at h2
  exact ⟨excB_ok h2.1, h2.2⟩
section
variable {X : Cx} {cl : Clz} {Wx : WX} {body : List Stmt} {n y x1 x2 x3 x4 : Str} {q1 q2 q3 q4 tpos p1 p2 p3 pos pos' : Pos} {kk c1 c2 c3 c4 i j : Nat} {tt : Expr} {ex : Value → Option Bool}
theorem keepT_of {l : List (Nat × Bool)} {fb : DS} {r : Rho} {m : Mem} {z : Zn} {s : L2.St} {H : Hp} {D : Ends} (hij : i ≠ j) (hl : ∀ k b, mtOf l k = some b → ex (.ref (cl k)) = some b) (R : Rel X.K cl z r m s H) (P : PostS (gx X cl Wx) z H (sTryV l i j fb r m) D) :
    tS (gx X cl (wKeepT ex i j Wx D)) fb D s H := by
  refine ⟨r, m, z, R, ?_⟩
  unfold sTryV at P
  cases q : fb r m with
  | next r1 m1 => rw [q] at P; exact P
  | brk r1 m1 => rw [q] at P; exact P
  | cont r1 m1 => rw [q] at P; exact P
  | ret w m1 => rw [q] at P; exact P
  | bad => rw [q] at P; exact P
  | exc x r1 m1 =>
    rw [q] at P
    dsimp only at P
    intro z' s' H' cv d e' R' xn
    obtain ⟨rfl, dd, fs', rfl, hdd, hfs⟩ := id xn
    cases qm : mtOf l x.cls with
    | none => rw [qm] at P; exact P.elim
    | some b =>
      rw [qm] at P
      refine ⟨b, hl _ _ qm, fun hb => ⟨dd, fs', rfl, hdd, fun a oe od na ⟨h1, h2, us, h3⟩ => ?_⟩, fun hb => ?_⟩
      · subst hb
        dsimp only at P
        split at P
        · rename_i hc
          obtain ⟨e2, M2, at2⟩ := caught_ok (oe := oe) (od := od) R'.mem na hdd h1 h2 h3 hfs
          refine P _ _ _ (e'.trans e2) ⟨⟨?_, fun k w hk => ?_⟩, M2⟩
          · simp [R'.slots.1]
          · have hlen : s'.length = r1.length := R'.slots.1.symm
            by_cases hkj : j = k
            · subst hkj
              rw [List.getElem?_set_self (by rw [List.length_set]; exact hc.2)] at hk
              cases hk
              refine ⟨.ref a, ?_, a, at2, rfl⟩
              rw [List.getElem?_set_ne hij, List.getElem?_set_self (by rw [List.length_set, hlen]; exact hc.2)]
            · rw [List.getElem?_set_ne hkj] at hk
              by_cases hki : i = k
              · subst hki
                rw [List.getElem?_set_self hc.1] at hk
                cases hk
              · rw [List.getElem?_set_ne hki] at hk
                obtain ⟨v, v1, v2⟩ := R'.slots.2 k w hk
                refine ⟨v, ?_, v2.ext e2⟩
                rw [List.getElem?_set_ne hki, List.getElem?_set_ne hkj, List.getElem?_set_ne hki]
                exact v1
        · exact P.elim
      · subst hb
        exact P z' s' H' _ _ e' R' xn
theorem ss_tryV2 {l : List (Nat × Bool)} {fb : DS} (hs : X.stack = X.env :: X.outer) (hf : X.env.frame = some X.env.locals) (hN : X.N.Nodup) (hi : X.N[i]? = some n) (hln : X.env.kindOf n = some .local) (hj : X.N[j]? = some y) (hfy : X.env.scope.names.lookup y = some .local) (hij : i ≠ j) (tk : Takes X Wx) (m1 : X.mg x1 = some (.ref (cl c1))) (m2 : X.mg x2 = some (.ref (cl c2))) (hl : MtA X.K cl [c1, c2] l)
    (hb : ∀ (W : WX) (pn : List (Addr × Obj)) (xe : Value → Shared → Prop), Takes (X.tr pn xe) W → PassesOwn (model X.prog X.w) X.A X.env xe → PSs (X.tr pn xe) body (tS (gx X cl W) fb)) (g1 : Gl X x1 := by rfl) (g2 : Gl X x2 := by rfl) (d1 : (x1 == ("__debug__" : Str)) = false := by decide) (d2 : (x2 == ("__debug__" : Str)) = false := by decide)
    (hd1 : (n == ("__debug__" : Str)) = false := by decide) (hcd1 : (n == ("__classdict__" : Str)) = false := by decide) (hsw : swapsWith (.Name n p2) (some (.Name y p1)) p3.line X.env = pure false := by rfl) :
    PS X (.Try body [.ExceptHandler (some (.Tuple [.Name x1 q1, .Name x2 q2] kk tpos)) (some n) [.Assign [.Name y p1] (.Name n p2) p3] pos'] [] [] pos) (tS (gx X cl Wx) (sTryV l i j fb)) :=
  (ps_try_keepT (i := i) (j := j) (ex := fun cls => PySem.W.exmAny X.K cls [.ref (cl c1), .ref (cl c2)]) (tb := fun W => tS (gx X cl W) fb) hs hf hN hi hln hj (.inl hfy) hfy hij (fun cls b he => htest_2 g1 m1 d1 g2 m2 d2 he) tk hd1 hcd1 hsw hb).imp fun D s H ⟨r, m, z, R, P⟩ => keepT_of hij (fun k b e => hl k b e) R P
theorem onlyT_of {l : List (Nat × Bool)} {fb fs : DS} {r : Rho} {m : Mem} {z : Zn} {s : L2.St} {H : Hp} {D : Ends} (hl : ∀ k b, mtOf l k = some b → ex (.ref (cl k)) = some b) (R : Rel X.K cl z r m s H) (P : PostS (gx X cl Wx) z H (sTry l fb fs r m) D) :
    tS (gx X cl (wOnlyT ex Wx (tS (gx X cl noW) fs) D)) fb D s H := by
  refine ⟨r, m, z, R, ?_⟩
  unfold sTry at P
  cases q : fb r m with
  | next r1 m1 => rw [q] at P; exact P
  | brk r1 m1 => rw [q] at P; exact P
  | cont r1 m1 => rw [q] at P; exact P
  | ret w m1 => rw [q] at P; exact P
  | bad => rw [q] at P; exact P
  | exc x r1 m1 =>
    rw [q] at P
    dsimp only at P
    intro z' s' H' cv d e' R' xn
    obtain ⟨rfl, dd, fs', rfl, hdd, hfs⟩ := id xn
    cases qm : mtOf l x.cls with
    | none => rw [qm] at P; exact P.elim
    | some b =>
      rw [qm] at P
      refine ⟨b, hl _ _ qm, fun hb => ?_, fun hb => ?_⟩
      · subst hb
        exact ⟨r1, m1, z', R', postS_noX (PostS.mono e' P)⟩
      · subst hb
        exact P z' s' H' _ _ e' R' xn
theorem ss_try2 {b₀ : Stmt} {suite : List Stmt} {l : List (Nat × Bool)} {fb fs : DS} (hs : X.stack = X.env :: X.outer) (hf : X.env.frame = some X.env.locals) (tk : Takes X Wx) (m1 : X.mg x1 = some (.ref (cl c1))) (m2 : X.mg x2 = some (.ref (cl c2))) (hl : MtA X.K cl [c1, c2] l)
    (hb : ∀ (W : WX) (pn : List (Addr × Obj)) (xe : Value → Shared → Prop), Takes (X.tr pn xe) W → PassesOwn (model X.prog X.w) X.A X.env xe → PSs (X.tr pn xe) body (tS (gx X cl W) fb))
    (hsu : ∀ (a : Addr) (oe : Obj) (pn : List (Addr × Obj)), PSs (X.suite a ((a, oe) :: pn)) (b₀ :: suite) (tS (gx X cl noW) fs)) (g1 : Gl X x1 := by rfl) (g2 : Gl X x2 := by rfl) (d1 : (x1 == ("__debug__" : Str)) = false := by decide) (d2 : (x2 == ("__debug__" : Str)) = false := by decide) :
    PS X (.Try body [.ExceptHandler (some (.Tuple [.Name x1 q1, .Name x2 q2] kk tpos)) none (b₀ :: suite) pos'] [] [] pos) (tS (gx X cl Wx) (sTry l fb fs)) :=
  (ps_try_onlyT (ex := fun cls => PySem.W.exmAny X.K cls [.ref (cl c1), .ref (cl c2)]) (tb := fun W => tS (gx X cl W) fb) hs hf (fun cls b he => htest_2 g1 m1 d1 g2 m2 d2 he) tk hb hsu).imp fun D s H ⟨r, m, z, R, P⟩ => onlyT_of (fun k b e => hl k b e) R P
theorem ss_try4 {b₀ : Stmt} {suite : List Stmt} {l : List (Nat × Bool)} {fb fs : DS} (hs : X.stack = X.env :: X.outer) (hf : X.env.frame = some X.env.locals) (tk : Takes X Wx) (m1 : X.mg x1 = some (.ref (cl c1))) (m2 : X.mg x2 = some (.ref (cl c2))) (m3 : X.mg x3 = some (.ref (cl c3))) (m4 : X.mg x4 = some (.ref (cl c4))) (hl : MtA X.K cl [c1, c2, c3, c4] l)
    (hb : ∀ (W : WX) (pn : List (Addr × Obj)) (xe : Value → Shared → Prop), Takes (X.tr pn xe) W → PassesOwn (model X.prog X.w) X.A X.env xe → PSs (X.tr pn xe) body (tS (gx X cl W) fb))
    (hsu : ∀ (a : Addr) (oe : Obj) (pn : List (Addr × Obj)), PSs (X.suite a ((a, oe) :: pn)) (b₀ :: suite) (tS (gx X cl noW) fs)) (g1 : Gl X x1 := by rfl) (g2 : Gl X x2 := by rfl) (g3 : Gl X x3 := by rfl) (g4 : Gl X x4 := by rfl) (d1 : (x1 == ("__debug__" : Str)) = false := by decide) (d2 : (x2 == ("__debug__" : Str)) = false := by decide) (d3 : (x3 == ("__debug__" : Str)) = false := by decide) (d4 : (x4 == ("__debug__" : Str)) = false := by decide) :
    PS X (.Try body [.ExceptHandler (some (.Tuple [.Name x1 q1, .Name x2 q2, .Name x3 q3, .Name x4 q4] kk tpos)) none (b₀ :: suite) pos'] [] [] pos) (tS (gx X cl Wx) (sTry l fb fs)) :=
  (ps_try_onlyT (ex := fun cls => PySem.W.exmAny X.K cls [.ref (cl c1), .ref (cl c2), .ref (cl c3), .ref (cl c4)]) (tb := fun W => tS (gx X cl W) fb) hs hf (fun cls b he => htest_4 g1 m1 d1 g2 m2 d2 g3 m3 d3 g4 m4 d4 he) tk hb hsu).imp fun D s H ⟨r, m, z, R, P⟩ => onlyT_of (fun k b e => hl k b e) R P
end
/-! ### isinstance(y, (A, B, ..)) -/
/-- .. the tuple that was just laid -/
def rIsKT (K : PySem.W.Frag) : List V → Hp → VK → Prop := fun xs H Q => ∃ (a D tp : Addr) (vs : List (Str × V)) (ds : List Addr) (b : Bool), xs = [.ref a, .ref tp] ∧ H tp = some (.tup (ds.map V.ref)) ∧ Kept H a D vs ∧ ExcC K D ∧ PySem.W.kitAny K (.ref D) (ds.map Value.ref) = some b ∧ Q (.bl b) H
theorem refs_of : ∀ {ds : List Addr} {us : List Value}, Vals (ds.map V.ref) us → us = ds.map Value.ref
  | [], _, .nil => rfl
  | _ :: _, _, .cons r t => by
    have h1 := refs_of t
    subst h1
    exact congrArg (· :: _) r
theorem call_isKT {X : Cx} : CallR X (.builtin "isinstance") (rIsKT X.K) := by
  intro pins s σ H xs us Q I r h
  obtain ⟨a, D, tp, vs, ds, b, rfl, hT, k, C, e, q⟩ := h
  obtain ⟨u1, u2, rfl, r1, r2⟩ := vals2 r
  cases (show u1 = Value.ref a from r1)
  cases (show u2 = Value.ref tp from r2)
  obtain ⟨oe, od, J, _⟩ := k.inst I
  obtain ⟨cd, hcd, _⟩ := PySem.W.any_some C.hd
  obtain ⟨_, its, rv, o, h1, h2, nn, h3⟩ := (show ObjOk X.prog X.w H s.heap tp (.tup (ds.map V.ref)) from I.hok tp _ hT)
  have e3 := refs_of rv
  subst e3
  obtain ⟨oc, odd, dt, sl⟩ := o
  simp only at h2 h3
  subst h2 h3
  exact PySem.W.kia_tup (PySem.W.kitx_exc (by rw [hcd]; rfl) C.hg C.hk C.hs C.ha C.hn C.ht C.hm) I.kIn J h1 e (fun z => nomatch z) fun tk => ⟨.bl b, H, I.tok _, rfl, q⟩
section
variable {X : Cx} {cl : Clz} {Wx : WX} {e : Expr} {pos : Pos}
/-- names of classes, one after the other -/
def NmOk (X : Cx) (cl : Nat → Addr) (ns : List (Str × Nat)) : Prop := ∀ q ∈ ns, X.mg q.1 = some (.ref (cl q.2)) ∧ Gl X q.1 ∧ (q.1 == ("__debug__" : Str)) = false
theorem pa_cls {es : List Expr} {x : Str} {c : Addr} {p : Pos} {ds : List Addr} {t : TA} (hm : X.mg x = some (.ref c)) (hg : Gl X x) (hd : (x == ("__debug__" : Str)) = false) (h : PA X es (fun σ H Q => Q (ds.map V.ref) H)) (hs : starEach (.Name x p :: es) X.env = (false, eval (.Name x p) X.env) :: starEach es X.env) :
    PA X (.Name x p :: es) (fun σ H Q => Q ((c :: ds).map V.ref) H) := (pa_cons (pe_glob (v := .ref c) hg hm rfl hd) h hs).imp fun s H Q q => q
theorem se_isxT {l : List (Nat × Bool)} {f : DE} {cs : List Nat} {es : List Expr} {p tpos : Pos} {kk : Nat} (hm : X.mg "isinstance" = none) (ht : PA X es (fun σ H Q => Q ((cs.map cl.at_).map V.ref) H)) (hl : IsXT X.K cl cs l) (h : PE X e (tE (gx X cl Wx) f)) (hcs : cs.length ≤ 16 := by decide) (hg : Gl X "isinstance" := by rfl)
    (he1 : starEach [e, .Tuple es kk tpos] X.env = (false, eval e X.env) :: starEach [.Tuple es kk tpos] X.env := by rfl) (he2 : starEach [.Tuple es kk tpos] X.env = (false, eval (.Tuple es kk tpos) X.env) :: starEach [] X.env := by rfl) (hpl : (backTo pos (starEach [.Tuple es kk tpos] X.env)).any (·.1) = false := by rfl) :
    PE X (.Call (.Name "isinstance" p) [e, .Tuple es kk tpos] [] pos) (tE (gx X cl Wx) (eIsX l f)) :=
  (pe_callB call_isKT hg hm (by decide +kernel) (pa_cons h (pa_cons (pe_tup ht) pa_nil he2) he1) (by decide) (by decide) he1 hpl).imp fun s H Q ⟨r, m, z, R, P⟩ => by
    refine ⟨r, m, z, R, P.bind fun z1 w m1 v H1 E1 R1 r1 P1 => ?_⟩
    refine ⟨by rw [List.length_map, List.length_map, sizeLine_eq]; omega, fun tp htp => ?_⟩
    have sm := upd_same_of (o := .tup ((cs.map cl.at_).map V.ref)) htp
    cases q : exnOf m1 w with
    | none => rw [q] at P1; exact P1.elim
    | some cf =>
      obtain ⟨k, fs⟩ := cf
      rw [q] at P1
      dsimp only at P1
      cases q2 : mtOf l k with
      | none => rw [q2] at P1; exact P1.elim
      | some b =>
        rw [q2] at P1
        obtain ⟨a, vs, rfl, ⟨oe, od, d, us, k1, k2, k3, k4, k5⟩, hf⟩ := exn_at R1.mem r1 q
        obtain ⟨g1, g2⟩ := hl _ _ q2
        refine ⟨a, cl k, tp, vs, cs.map cl.at_, b, rfl, upd_same, ⟨oe, od, d, us, sm _ _ k1, k2, k3, k4, sm _ _ k5⟩, g1, ?_, ?_⟩
        · rw [List.map_map]; exact g2
        · exact P1 z1 (.bl b) _ (R1.mem.extS sm) (R1.same sm) rfl
end
/-! ### t.get(key), a table's -/
def eKget1 (tbl : List (Str × Option W)) (f : DE) : DE := fun r m => (f r m).bind fun w m1 => match w with
  | .str z => match tbl.lookup z with
    | some o => .ok (o.getD .non) m1
    | none => .bad
  | _ => .bad
section
variable {X : Cx} {cl : Clz} {Wx : WX} {a : Expr} {p apos cpos : Pos} {x : Str} {tbl : List (Str × Option W)}
theorem kd_get1 {D : Addr} {es : Array DictEntry} {n : Nat} {A : Around} {Q E : Value → Shared → Prop} {pins : List (Addr × Obj)} {σ : L2.St} {H : Hp} {s : Shared} {k : Str} {u : Value} {o : Option Value} (D' : KDict X.K X.w D es n) (I : Inv X pins σ H s) (hk : PySem.W.nsIn X.K D k = some o) (ru : RelV (.str k) u)
    (h : ∀ s', Inv X pins σ H s' → Q (o.getD .none) s') : wpAny (model X.prog X.w) A (call (.builtin "dict.get") [.ref D, u]) Q E s := by
  obtain ⟨t, rfl⟩ := ru
  have mp := PySem.W.mapOf_K (prog := X.prog) (w := X.w) I.kIn D'.at_ D'.lit
  refine call_meetsIn PySem.F.slot_dict_get (kd_type D' I) PySem.F.entry_dict_get (PySem.F.args_dict_get_2 _ _) (meets_dict_get (PySem.strKind X.prog X.w) D (PySem.strKind_is X.prog X.w k t) D'.low) ⟨_, mp, ?_⟩
  rw [PySem.W.find_K D'.at_ hk]
  exact h _ (I.tok _)
theorem se_kget1 {f : DE} (h : KD X.w X.K X.mg x tbl) (ha : PE X a (tE (gx X cl Wx) f)) (m1 : M1 X (.Name x p) "get" apos a cpos := by exact ⟨rfl, rfl, rfl, rfl⟩) (hg : Gl X x := by rfl) (hd : (x == ("__debug__" : Str)) = false := by decide) : PE X (.Call (.Attribute (.Name x p) "get" apos) [a] [] cpos) (tE (gx X cl Wx) (eKget1 tbl f)) := by
  obtain ⟨D, es, n, h1, h2, h3⟩ := h
  refine ⟨fun pins s σ H Q I q => ?_⟩
  obtain ⟨r, m, z, R, P⟩ := q
  refine wpAny_Call_method m1.base m1.few m1.line PySem.F.plainAttrs_dict PySem.F.slot_dict_get PySem.F.type_dict_get (thn ((pe_glob (X := X) (v := .ref D) (pos := p) hg h1 rfl hd).run pins s σ H (fun x H1 => x = .ref D ∧ H1 = H) I ⟨rfl, rfl⟩) fun u s1 ⟨x, H1, I1, rx, e1, e2⟩ => ?_)
  subst e1 e2
  obtain rfl : u = Value.ref D := rx
  refine ⟨kd_type h2 I1, (PySem.W.mapOf_K (prog := X.prog) (w := X.w) I1.kIn h2.at_ h2.lit).noDict, ?_⟩
  rw [m1.trees]
  refine Calls.callWith_builtin rfl (Calls.evalArgs_plain (Calls.spliced_cons (thn (ha.run pins s1 σ H1 (fun y H2 => ∃ k o, y = .str k ∧ tbl.lookup k = some o ∧ ∃ z2 m2, Rel X.K cl z2 r m2 σ H2 ∧ Post (gx X cl Wx) (RW X.K) z2 H2 r σ (.ok (o.getD .non) m2) Q) I1 ⟨r, m, z, R, P.bind fun z1 w m1' v H2 E1 R1 r1 P1 => ?_⟩) fun iv s2 ⟨y, H2, I2, ry, k, o, e3, e4, z2, m2, R2, P2⟩ => Calls.spliced_nil ?_)))
  · cases w with
    | str k =>
      have r1 : v = .str k := r1
      subst r1
      simp only at P1
      cases q : tbl.lookup k with
      | none => rw [q] at P1; exact P1.elim
      | some o => rw [q] at P1; exact ⟨k, o, rfl, q, z1, m1', R1, P1⟩
    | _ => exact P1.elim
  · subst e3
    have h4 := h3 k o e4
    cases o with
    | none => exact kd_get1 h2 I2 h4 ry fun s' I' => ⟨.non, H2, I', rfl, P2.ret R2 rfl⟩
    | some b =>
      obtain ⟨u, v, k1, k2, k3⟩ := h4
      exact kd_get1 h2 I2 k1 ry fun s' I' => ⟨v, H2, I', k2, P2.ret R2 (k3 _ _)⟩
end
end Dn

/-! D38: x(lambda: body), x a def that calls what it got. -/
namespace Dn
open PySem PySem.Spec PyProof.Rows L2 LamX
section
variable {K : PySem.W.Frag} {cl : Clz} {z z' : Zn} {H H' : Hp} {m : Mem} {G : Zn → Hp → Prop} {gx0 : ∀ {z : Zn} {H : Hp} {z' : Zn} {H' : Hp}, Ext0 z H z' H' → G z H → G z' H'}
theorem CellOk.more {a : Addr} {c : Cell} (h : CellOk K cl z H a c) : CellOk K (cl.and G gx0) z H a c := by
  cases c <;> exact h
theorem CellOk.less {a : Addr} {c : Cell} (h : CellOk K (cl.and G gx0) z H a c) : CellOk K cl z H a c := by
  cases c <;> exact h
theorem MemOk.more (M : MemOk K cl z m H) (g : G z H) : MemOk K (cl.and G gx0) z m H := ⟨M.len, M.nd, M.sep, M.lz, M.lh, fun n a c h1 h2 => (M.cells n a c h1 h2).more, M.tb, M.gh, g⟩
theorem MemOk.less (M : MemOk K (cl.and G gx0) z m H) : MemOk K cl z m H := ⟨M.len, M.nd, M.sep, M.lz, M.lh, fun n a c h1 h2 => (M.cells n a c h1 h2).less, M.tb, M.gh.1⟩
/-- a lambda was made: the heap has gone on -/
theorem MemOk.extN (M : MemOk K cl z m H) (eN : ExtN H H') (T : Tabs cl.T H') : Ext z H z H' ∧ MemOk K cl z m H' := by
  have e0 : Ext0 z H z H' := ⟨fun a xs e => eN _ _ e (fun _ q => by cases q), fun a o u e => eN _ _ e (fun _ q => by cases q), fun a q => ⟨q, by
    obtain ⟨xs, e⟩ := M.lz a q
    rw [e]
    exact eN _ _ e (fun _ q => by cases q)⟩, fun _ _ h => h, fun a p e => eN _ _ e (fun _ q => by cases q)⟩
  have e : Ext z H z H' := ⟨e0, fun a q => ⟨q, by
    obtain ⟨o, e, n⟩ := M.lh a q
    rw [e]
    exact eN _ _ e n.2⟩⟩
  refine ⟨e, M.len, M.nd, M.sep, fun a q => ?_, fun a q => ?_, fun n a c h1 h2 => ?_, T, cl.gx e0 M.gh⟩
  · obtain ⟨xs, e⟩ := M.lz a q
    exact ⟨xs, eN _ _ e (fun _ q => by cases q)⟩
  · obtain ⟨o, e, n⟩ := M.lh a q
    exact ⟨o, eN _ _ e n.2, n⟩
  · have hc := M.cells n a c h1 h2
    obtain ⟨o, q1, q2⟩ := hc.thereX
    exact hc.ext2 e0 Iff.rfl (fun q => q) (by rw [q1]; exact eN _ _ q1 q2.2)
end
/-- the parameter, called -/
def eCb (f : Addr) (cb : Mem → R W) : DE := fun r m => match r[0]? with
  | some (some (W.raw (V.ref a))) => if a = f then cb m else .bad
  | _ => .bad
/-- what hangs on no address -/
noncomputable def unR (F : Addr → R W) : R W := open Classical in if ∀ f, F f = F 0 then F 0 else .bad
theorem unR_of {F : Addr → R W} {q : R W} (h : ∀ f, F f = q) : unR F = q := by
  unfold unR
  rw [if_pos fun f => (h f).trans (h 0).symm, h 0]
theorem unR_at {F : Addr → R W} {q : R W} (h : unR F = q) (hq : q ≠ .bad) (f : Addr) : F f = q := by
  unfold unR at h
  split at h
  · rename_i e
    rw [e f, h]
  · exact absurd h.symm hq
/-- x(lambda: body): dh tells what x makes of what it got, laid at f -/
noncomputable def eLam (n : Nat) (dh : Addr → (Mem → R W) → DS) (fb : DE) : DE := fun r m => unR fun f => runD n (dh f fun m' => fb r m') [.raw (.ref f)] m
/-- what is known in the def that got the lambda: the maker's slots, the lambda's code object -/
def GLam (K : PySem.W.Frag) (r0 : Rho) (σ0 : L2.St) (c' : Addr) (q : Str) : Zn → Hp → Prop := fun z H => SlotsOk K z H r0 σ0 ∧ H c' = some (CodeO c' q)
theorem glam_gx {K : PySem.W.Frag} {r0 : Rho} {σ0 : L2.St} {c' : Addr} {q : Str} {z : Zn} {H : Hp} {z' : Zn} {H' : Hp} (e : Ext0 z H z' H') (h : GLam K r0 σ0 c' q z H) : GLam K r0 σ0 c' q z' H' := ⟨h.1.ext0 e, e.xts _ _ h.2⟩
section
variable {X : Cx} {cl : Clz} {pins : List (Addr × Obj)} {σ : L2.St} {H : Hp} {s : Shared}
theorem act_ok {CXg : CXT} {Eg : XK} {Ng : List Str} {qg : Str} {sg : Scope} {g f c' : Addr} {cdg pm ctv : Value} {params : Arguments} {body : Expr} {scope : Scope} {k : Nat} {a : Str} {pn : List (Addr × Obj)} {xe : Value → Shared → Prop} {Wz : WX} {fb : DE} {r0 : Rho} {p1 p2 : Pos}
    (I : Inv X pins σ H s) (L : LamS X.env.scope scope) (hf : s.heap.get? f = some (PySem.W.kla_obj "<lambda>" (X.env.qual ++ "<lambda>") params body scope (cloFrom X.env.cells scope.names []) pm c' ctv)) (hfn : H f = none) (hfr : f ∉ frs X.stack)
    (hbind : bindArgs (PySem.W.kla_fn "<lambda>" (X.env.qual ++ "<lambda>") params body scope (cloFrom X.env.cells scope.names []) pm (.ref c') ctv) ⟨[], []⟩ = pure [])
    (tk : Takes ((cxOf CXg X.prog X.w X.K X.mg X.base Ng qg sg g cdg X.A X.stack s H Eg).tr pn xe) Wz) (hr : RoomG (k + 1) (X.A.deeper (envOfC qg sg s.heap.objs.size g cdg)))
    (hbody : ∀ (A : Around) (outer : List Env) (s : Shared) (H : Hp) (E : XK), RoomG k (A.deeper (lamEnv X scope s.heap.objs.size f c')) → PE (lamCx X A outer s H E scope f c') body (tE (gx (lamCx X A outer s H E scope f c') cl (fun c d _ H => E c d H)) fb))
    (hN : Ng[0]? = some a) (hv : Vis sg a) (hd : (a == ("__debug__" : Str)) = false := by decide) (hcd : (a == ("__classdict__" : Str)) = false := by decide) :
    PE ((cxOf CXg X.prog X.w X.K X.mg X.base Ng qg sg g cdg X.A X.stack s H Eg).tr pn xe) (.Call (.Name a p1) [] [] p2)
      (tE (gx ((cxOf CXg X.prog X.w X.K X.mg X.base Ng qg sg g cdg X.A X.stack s H Eg).tr pn xe) (cl.and (GLam X.K r0 σ c' (X.env.qual ++ "<lambda>")) glam_gx) Wz) (eCb f fun m => fb r0 m)) := by
  refine ⟨fun pinsZ sZ σZ HZ Q IZ h => ?_⟩
  obtain ⟨r, m, z, R, P⟩ := h
  have hs : r[0]? = some (some (W.raw (.ref f))) ∧ Post (gx ((cxOf CXg X.prog X.w X.K X.mg X.base Ng qg sg g cdg X.A X.stack s H Eg).tr pn xe) (cl.and (GLam X.K r0 σ c' (X.env.qual ++ "<lambda>")) glam_gx) Wz) (RW X.K) z HZ r σZ (fb r0 m) Q := by
    unfold eCb at P
    split at P
    · rename_i a e
      split at P
      · rename_i ha
        subst ha
        exact ⟨e, P⟩
      · exact P.elim
    · exact P.elim
  obtain ⟨e0, P⟩ := hs
  obtain ⟨v0, e1, e2⟩ := R.slots.2 0 _ e0
  have e2 : v0 = V.ref f := e2
  subst e2
  obtain ⟨gS, gC⟩ := R.mem.gh.2
  refine wpAny_Call_Name_kw (thn ((pe_var (pos := p1) (i := 0) hN hv hd hcd).run pinsZ sZ σZ HZ (fun v H1 => v = .ref f ∧ H1 = HZ) IZ ⟨.ref f, e1, rfl, rfl⟩) fun u s1 ⟨v, H1, I1, r1, ev, eH⟩ => ?_)
  subst ev eH
  obtain rfl : u = Value.ref f := r1
  have there : s1.heap.get? f = some (PySem.W.kla_obj "<lambda>" (X.env.qual ++ "<lambda>") params body scope (cloFrom X.env.cells scope.names []) pm c' ctv) := I1.base.keep f _ hf hfn hfr (fun q => nomatch (show f ∈ ([] : List Addr) from q))
  refine PySem.W.callWith_F0 ⟨_, _, _, _, there⟩ ?_
  have un : Un (frs X.stack) [] H H1 s.heap s1.heap := I1.base
  obtain ⟨⟨oc, vs, t, k1, k2, k3⟩, _, _⟩ := I1.hok c' _ gC
  have hq : tE ⟨X.K, cl, fun c d _ H' => Wz c d σZ H'⟩ fb σ H1 Q := by
    refine ⟨r0, m, z, ⟨gS, R.mem.less (gx0 := glam_gx)⟩, ?_⟩
    cases q : fb r0 m with
    | ok w m1 =>
      rw [q] at P
      intro z' v H' e R' rv
      have gh := R'.mem.more (gx0 := glam_gx) (glam_gx e.e0 ⟨gS, gC⟩)
      exact P z' v H' e ⟨R.slots.ext e, gh⟩ rv
    | exc x m1 =>
      rw [q] at P
      intro z' H' c d e R' xn
      have gh := R'.mem.more (gx0 := glam_gx) (glam_gx e.e0 ⟨gS, gC⟩)
      exact P z' H' c d e ⟨R.slots.ext e, gh⟩ xn
    | bad => rw [q] at P; exact P
  have run : codeAny (model X.prog X.w) (X.A.deeper (envOfC qg sg s.heap.objs.size g cdg)) (.call (.ref f) ⟨[], []⟩) (CR (L2.CX X.prog X.w) (envOfC qg sg s.heap.objs.size g cdg :: X.stack) X.prog X.w H1 s1 Q (fun c d H' => Wz c d σZ H')) s1 := by
    refine PySem.W.kla_callFunE hr.depth there rfl L.co L.gen rfl ⟨c', oc, vs, t, rfl, k1, k2, k3⟩ ?_
    rw [hbind]
    refine wpAny_pure (wpAny_newFunctionEnv (fun y hy => (L.own y hy).2) (fun y hy => absurd hy (by simp)) (fun h₁ hns hsb => ⟨I1.nolimit.fresh _ hsb, ?_⟩) L.kind)
    show codeAny _ _ (.expr body (lamEnv X scope s1.heap.objs.size f c')) _ _
    have J := lam_start2 (E := fun c d H' => Wz c d σZ H') (c' := c') (f := f) (scope := scope) (A := X.A.deeper (envOfC qg sg s.heap.objs.size g cdg)) (outer := envOfC qg sg s.heap.objs.size g cdg :: X.stack) (tk := s1.toks + ([] : List (Str × Value)).length) I L I1.env0 hr.hd un hns
      (fun b o e => hsb.extBut b o (Nat.ne_of_lt (Heap.lt_size e)) (Heap.get?_push_of_some _ e))
    refine PySem.W.kla_codeExpr (wpAny_mono ((hbody _ _ s1 H1 _ (hr.deeper _)).run [] _ _ H1 Q J hq) (fun v s' ⟨w', H', J', rv, q⟩ => ?_) fun e s' hq => hq)
    exact ⟨w', H', J'.os, J'.bare, J'.base, J'.hok, rv, q⟩
  refine wpAny_call (codeAny_mono run fun rr s' hq => ?_)
  match rr, hq with
  | .error e, hq => exact passAt tk σZ pinsZ H1 s1 e s' I1 hq
  | .ok (.ret u), hq => exact I1.after hq
  | .ok .next, hq => exact hq.elim
  | .ok .brk, hq => exact hq.elim
  | .ok .cont, hq => exact hq.elim
/-- the def that gets the lambda, by its body -/
def Gives (P : Program) (w : World) (K : PySem.W.Frag) (mg : Str → Option Value) (base : Heap) (cl : Clz) (k : Nat) (x a : Str) (Ng : List Str) (sg : Scope) (bg : List Stmt) (g : Addr) (dh : Addr → (Mem → R W) → DS) : Prop :=
  ∀ (G : Zn → Hp → Prop) (gx0 : ∀ {z : Zn} {H : Hp} {z' : Zn} {H' : Hp}, Ext0 z H z' H' → G z H → G z' H') (f : Addr) (cb : Mem → R W) (cdv : Value) (A : Around) (outer : List Env) (s : Shared) (H : Hp) (E : XK), RoomG k (A.deeper (envOfC x sg s.heap.objs.size g cdv)) →
    (∀ (W : WX) (pn : List (Addr × Obj)) (xe : Value → Shared → Prop) (p1 p2 : Pos), Takes ((cxOf (L2.CX P w) P w K mg base Ng x sg g cdv A outer s H E).tr pn xe) W →
      PE ((cxOf (L2.CX P w) P w K mg base Ng x sg g cdv A outer s H E).tr pn xe) (.Call (.Name a p1) [] [] p2) (tE (gx ((cxOf (L2.CX P w) P w K mg base Ng x sg g cdv A outer s H E).tr pn xe) (cl.and G gx0) W) (eCb f cb))) →
    PSs (cxOf (L2.CX P w) P w K mg base Ng x sg g cdv A outer s H E) bg (tS (gx (cxOf (L2.CX P w) P w K mg base Ng x sg g cdv A outer s H E) (cl.and G gx0) (fun c d _ H => E c d H)) (dh f cb))
variable {Wx : WX}
theorem se_lam {x a : Str} {g c P : Addr} {k : Nat} {fd : FuncData} {pg : Arguments} {bg : List Stmt} {sg : Scope} {kws : List (Str × V)} {Ng : List Str} {dh : Addr → (Mem → R W) → DS}
    {params : Arguments} {body : Expr} {scope : Scope} {fb : DE} {p lpos pos : Pos} (F : FunD X.K x x pg bg sg [] kws g fd) (hm : X.mg x = some (.ref g)) (hk : PySem.W.keepIn X.K (.ref g) = true) (hb : Binds X.K fd [a] []) (Sg : FnScope Ng [a] sg)
    (hG : Gives X.prog X.w X.K X.mg X.base cl (k + 1) x a Ng sg bg g dh)
    (TB : TabB X.base X.mg c P) (hcode : X.env.code = .ref c) (hmT : (P, X.env.qual ++ "<lambda>") ∈ cl.T) (hu : ∀ p ∈ cl.T, p.1 = P → p.2 = X.env.qual ++ "<lambda>") (hr : RoomG (k + 2) X.A) (tk : Takes X Wx)
    (hbody : ∀ (A : Around) (outer : List Env) (s : Shared) (H : Hp) (E : XK) (f c' : Addr), RoomG k (A.deeper (lamEnv X scope s.heap.objs.size f c')) → PE (lamCx X A outer s H E scope f c') body (tE (gx (lamCx X A outer s H E scope f c') cl (fun c d _ H => E c d H)) fb))
    (L : LamS X.env.scope scope := by exact lamS_by (by decide +kernel)) (hdef : defaultsOf params X.env = ([], []) := by rfl)
    (hbind : ∀ (q : Str) (cl : List (Str × Addr)) (pm cv ctv : Value), bindArgs (PySem.W.kla_fn "<lambda>" q params body scope cl pm cv ctv) ⟨[], []⟩ = pure [] := by intros; rfl) (hNg : Ng[0]? = some a := by rfl) (hva : Vis sg a := by first | exact Or.inl rfl | exact Or.inr (Or.inl rfl)) (hg : Gl X x := by rfl)
    (hdb : (x == ("__debug__" : Str)) = false := by decide) (hd : (a == ("__debug__" : Str)) = false := by decide) (hcd : (a == ("__classdict__" : Str)) = false := by decide) :
    PE X (.Call (.Name x p) [.Lambda params body scope lpos] [] pos) (tE (gx X cl Wx) (eLam Ng.length dh fb)) := by
  refine ⟨fun pins s σ H Q I h => ?_⟩
  obtain ⟨r, m, z, R, P1⟩ := h
  obtain ⟨oc, od, dV, kV, doc, pm, an, cdv, ct, osl, rfl, lk, hcg, _, _⟩ := F.ex
  refine wpAny_Call_Name_kw (ld_glob I hg hm ?_ hdb)
  refine PySem.W.callWith_K (h₀ := X.base) I.ok.mod.kin hk ?_ (by rfl) (by rfl)
  show wpAny _ _ (spliced ((false, eval (.Lambda params body scope lpos) X.env) :: backTo pos (starEach [] X.env))) _ _ s
  refine Calls.spliced_cons (lam_make2 I TB hcode hmT hu R.mem.tb hdef (L.has I.ok) fun f c' pm' ctv H1 s' I1 eN T1 hf hfn hfr hco => Calls.spliced_nil ⟨I1.kIn, ?_⟩)
  obtain ⟨e1, M1⟩ := R.mem.extN eN T1
  have S1 := R.slots.ext e1
  have G1 : GLam X.K r σ c' (X.env.qual ++ "<lambda>") z H1 := ⟨S1, hco⟩
  have M2 := M1.more (gx0 := glam_gx) G1
  have run : codeAny (model X.prog X.w) X.A (.call (.ref g) ⟨[.ref f], []⟩) (CR (L2.CX X.prog X.w) X.stack X.prog X.w H1 s' Q (WE Wx σ)) s' := by
    refine run_ofS (N := Ng) (ps := [a]) (us := [.ref f]) (vs := [.ref f]) (k := k + 1) lk hcg Sg hr.toRoom I1.env0 (hb s' [.ref f] I1.kIn rfl) (.cons rfl .nil) rfl fun _ => ?_
    refine ⟨_, hG (GLam X.K r σ c' (X.env.qual ++ "<lambda>")) glam_gx f (fun m' => fb r m') cdv X.A X.stack s' H1 (WE Wx σ) (hr.deeper _)
      (fun W pn xe p1 p2 tk' => act_ok (k := k) I1 L hf hfn hfr (hbind _ _ _ _ _) tk' (hr.deeper _) (fun A outer s H E hr2 => hbody A outer s H E f c' hr2) hNg hva hd hcd), ?_⟩
    have P2 : Post (gx X cl Wx) (RW X.K) z H r σ (runD Ng.length (dh f fun m' => fb r m') [.raw (.ref f)] m) Q := by
      unfold eLam at P1
      cases q : (unR fun f => runD Ng.length (dh f fun m' => fb r m') [.raw (.ref f)] m) with
      | ok w m1 => rw [q] at P1; rw [unR_at q (fun e => nomatch e) f]; exact P1
      | exc x m1 => rw [q] at P1; rw [unR_at q (fun e => nomatch e) f]; exact P1
      | bad => rw [q] at P1; exact P1.elim
    refine ⟨startW Ng.length [.raw (.ref f)], m, z, ⟨start_ok (RWs.cons (v := V.ref f) rfl RWs.nil), M2⟩, ?_⟩
    unfold runD at P2
    cases q : dh f (fun m' => fb r m') (startW Ng.length [.raw (.ref f)]) m with
    | next r1 m1 => rw [q] at P2; exact fun z' s' H' e R' => P2 z' .non H' (e1.trans e) ⟨S1.ext e, R'.mem.less (gx0 := glam_gx)⟩ rfl
    | ret u m1 => rw [q] at P2; exact fun z' v H' e M' rv => P2 z' v H' (e1.trans e) ⟨S1.ext e, M'.less (gx0 := glam_gx)⟩ rv
    | exc x r1 m1 => rw [q] at P2; exact fun z' s' H' c d e R' xn => P2 z' H' c d (e1.trans e) ⟨S1.ext e, R'.mem.less (gx0 := glam_gx)⟩ xn
    | brk r1 m1 => rw [q] at P2; exact P2.elim
    | cont r1 m1 => rw [q] at P2; exact P2.elim
    | bad => rw [q] at P2; exact P2.elim
  refine wpAny_call (codeAny_mono run fun rr s2 hq => ?_)
  match rr, hq with
  | .error e, hq => exact passAt tk σ pins H1 s' e s2 I1 hq
  | .ok (.ret u), hq => exact I1.after hq
  | .ok .next, hq => exact hq.elim
  | .ok .brk, hq => exact hq.elim
  | .ok .cont, hq => exact hq.elim
theorem takes_lam {A : Around} {outer : List Env} {s : Shared} {H : Hp} {E : XK} {scope : Scope} {f c' : Addr} : Takes (lamCx X A outer s H E scope f c') (fun c d _ H => E c d H) :=
  takes_of (X := lamCx X A outer s H E scope f c') (E := E) rfl rfl rfl rfl
end
end Dn

/-! D39: laws that make lambdas: the head's hook, a def's code object, the law's end with tables. -/
namespace Dn
open PySem PySem.Spec PyProof.Rows L2 LamX
/-! ### the hook -/
abbrev frV (g : Addr → Option Obj) (n : Nat) : PySem.W.Frag := He.frT g (asY g n)
structure TabsAt (tf : List He.Defn) (h : Heap) (K : PySem.W.Frag) : Prop where
  hd : ∀ p ∈ tf, PySem.W.codeHdIn K (He.cT K p).1 (He.cT K p).2 = true
  out : ∀ p ∈ tf, K.lookup (He.cT K p).2 = none
  nil : ∀ p ∈ tf, h.get? (He.cT K p).2 = some { cls := .none, data := .fields #[] }
abbrev AlEZ : Type := AlEX × Bool
def obsEZG (n : Nat) (fa : List He.Fa) (fn : List He.DefD) (ex : PySem.W.Frag → Bool) (ts : List TabS) (xs : List XD) (tf : List He.Defn) (g : Addr → Option Obj) : AlEZ := (obsEX fa fn ex ts xs (frV g n), He.tabsB g tf (frV g n))
theorem tabsAt_of {n : Nat} {tf : List He.Defn} {h : Heap} (e : He.tabsB h.get? tf (frV h.get? n) = true) : TabsAt tf h (frV h.get? n) := by
  have key : ∀ p ∈ tf, PySem.W.codeHdIn (frV h.get? n) (He.cT (frV h.get? n) p).1 (He.cT (frV h.get? n) p).2 = true ∧ ∃ o, h.get? (He.cT (frV h.get? n) p).2 = some o ∧ He.emptyTab o = true := by
    intro p hp
    have q := List.all_eq_true.mp e p hp
    rw [Bool.and_eq_true_iff] at q
    refine ⟨q.1, ?_⟩
    have q2 := q.2
    split at q2
    · rename_i o e2
      exact ⟨o, e2, q2⟩
    · cases q2
  refine ⟨fun p hp => (key p hp).1, fun p hp => ?_, fun p hp => ?_⟩
  · obtain ⟨_, o, q, t⟩ := key p hp
    exact He.frT_none q t
  · obtain ⟨_, o, q, t⟩ := key p hp
    rw [q, He.emptyTab_eq t]
def hookEZ (n : Nat) (fa : List He.Fa) (fn : List He.DefD) (ex : PySem.W.Frag → Bool) (ts : List TabS) (xs : List XD) (tf : List He.Defn) : PySem.W.Hook where
  α := AlEZ
  obs := fun s => obsEZG n fa fn ex ts xs tf s.heap.get?
  val := fun w => ((((He.valD fn, true), ts.map fun (t : TabS) => some (He.keysIn w.params t.2)), xs.map XD.val), true)
  says := fun w h => ∃ K : PySem.W.Frag, K.In h ∧ SaysEX fa fn ex ts xs w K ∧ TabsAt tf h K
  of := fun w s e => ⟨frV s.heap.get? n, He.frT_in, saysEX_of (w := w) (Prod.mk.inj e).1, tabsAt_of (Prod.mk.inj e).2⟩
  keeps := fun _ _ _ ⟨K, hK, c, t⟩ k => ⟨K, PySem.W.Frag.In.keeps hK k, c, t.hd, t.out, fun p hp => k _ _ (t.nil p hp)⟩
theorem obsEZG_eq {n : Nat} {fa : List He.Fa} {fn : List He.DefD} {ex : PySem.W.Frag → Bool} {ts : List TabS} {xs : List XD} {tf : List He.Defn} {g : Addr → Option Obj} {s : Shared} (h : ∀ a, g a = s.heap.get? a) : obsEZG n fa fn ex ts xs tf g = (hookEZ n fa fn ex ts xs tf).obs s := by
  have e : g = s.heap.get? := funext h
  rw [e] <;> rfl
/-! ### a def, its code object known -/
section
variable {P : Program} {w : World} {K : PySem.W.Frag} {mg : Str → Option Value} {base : Heap} {cl : Clz} {x qual : Str} {params : Arguments} {body : List Stmt} {scope : Scope} {kws : List (Str × V)} {fd : FuncData} {p : He.Defn}
theorem fn_okC {N ps : List Str} {k n : Nat} {d : DS} (F : FunD K x qual params body scope [] kws (He.fAd K p) fd) (S : FnScope N ps scope) (hn : ps.length = n)
    (hb : ∀ (A : Around) (outer : List Env) (s : Shared) (H : Hp) (E : XK), RoomG k (A.deeper (envOfC qual scope s.heap.objs.size (He.fAd K p) (.ref (He.codeOf K p)))) →
      PSs (cxOf (L2.CX P w) P w K mg base N qual scope (He.fAd K p) (.ref (He.codeOf K p)) A outer s H E) body (tS (gx (cxOf (L2.CX P w) P w K mg base N qual scope (He.fAd K p) (.ref (He.codeOf K p)) A outer s H E) cl (fun c d _ H => E c d H)) d)) :
    FnG P w K mg base (k + 1) (He.fAd K p) fd ps (spOf K cl n (runD N.length d)) := by
  have len : ∀ vs H Q E, spOf K cl n (runD N.length d) vs H Q E → vs.length = ps.length := fun vs H Q E ⟨ws, m, z, hl, M, rw', p⟩ => by rw [rw'.length, hl, hn]
  obtain ⟨oc, od, dV, kV, doc, pm, an, cdv, ct, osl, rfl, lk, hcd, _, _⟩ := F.ex
  obtain ⟨c, rfl⟩ := He.codeIn_ref hcd
  have ec : He.codeOf K p = c := He.codeOf_eq lk rfl
  subst ec
  refine ⟨len, fun A outer s H args us vs Q E hr e0 hbi rv hsp => ?_⟩
  have KX : K.In s.heap := e0.mod.kin.keeps fun b o e => (e0.bs b o e).1
  have hlim : s.heap.NoLimit := e0.mod.nolimit.keeps fun b o e => (e0.bs b o e).1
  refine codeAny_call_function hr.depth (KX _ _ lk) rfl S.co S.gen rfl (PySem.W.codeRec_of KX hcd) (hbi _ _ _ _ ?_)
  refine wpAny_newFunctionEnv_cells S.kind (fun y hy => (S.par y.1 (List.of_mem_zip hy).1).imp id fun q => ⟨q, PySem.W.cellsFrom_some _ _ _ (.inl q)⟩) fun env he s1 x => ?_
  subst he
  refine ⟨hlim.keeps x.toInCall.keep, codeAny_func ?_⟩
  have I := inv_start (E := E) (CX := L2.CX P w) S hr.hd e0 (len vs H Q E hsp) rv x
  obtain ⟨ws, m, z, hl, M, rw', p0⟩ := hsp
  have hq : tS ⟨K, cl, fun c d _ H => E c d H⟩ d { nx := fun _ H' => Q .non H', rt := Q } (L2.start N vs) H := by
    refine ⟨startW N.length ws, m, z, ⟨start_ok rw', M⟩, ?_⟩
    show PostS ⟨K, cl, fun c d _ H => E c d H⟩ z H (d (startW N.length ws) m) _
    unfold runD at p0
    cases q : d (startW N.length ws) m with
    | next r m1 => rw [q] at p0; exact fun z' s' H' e R' => p0 z' .non H' e R'.mem rfl
    | ret u m1 => rw [q] at p0; exact p0
    | exc x r m1 => rw [q] at p0; exact fun z' s' H' c d e R' => p0 z' H' c d e R'.mem
    | brk r m1 => rw [q] at p0; exact p0.elim
    | cont r m1 => rw [q] at p0; exact p0.elim
    | bad => rw [q] at p0; exact p0.elim
  refine wpAny_mono ((hb A outer s H E (hr.deeper _)).run [] s1 (L2.start N vs) H _ I hq) (fun fl s' hs => ?_) fun e s' hs => hs
  match fl, hs with
  | .ret u, ⟨v, σ', H', J, rv', q⟩ => exact ⟨v, H', J.os, J.bare, J.base, J.hok, rv', q⟩
  | .next, ⟨σ', H', J, q⟩ => exact ⟨.non, H', J.os, J.bare, J.base, J.hok, rfl, q⟩
  | .brk, ⟨_, _, _, q⟩ => exact q.elim
  | .cont, ⟨_, _, _, q⟩ => exact q.elim
end
/-! ### the law's end -/
section
variable {P : Program} {w : World} {K : PySem.W.Frag} {mg mb : Str → Option Value} {k : Nat} {fa a : Addr} {fd : FuncData} {x : Str} {g : Fw} {cl : Clz} {s₁ : Shared} {vs : List Value} {ns : List Int} {ts : List Addr}
/-- an abstract heap that tracks the tables and perhaps the script -/
structure ScriptT (P : Program) (w : World) (K : PySem.W.Frag) (a : Addr) (ns : List Int) (ts : List Addr) (s : Shared) (H : Hp) : Prop where
  tab : ∀ t ∈ ts, H t = some (.tbl #[])
  only : ∀ b, b ∉ ts → H b = none ∨ ∃ o xs, H b = some (.frz o (.lst xs))
  seq : OldL K H a (ns.map V.int)
  hok : HOk P w H s.heap
  at_ : ∀ b, H b ≠ none → b = a ∨ b ∈ ts
  no : H a ≠ none → K.lookup a = none
theorem scriptT_at (KX : K.In s₁.heap) (hT : ∀ t ∈ ts, s₁.heap.get? t = some { cls := .none, data := .fields #[] }) (ha : s₁.heap.get? a = some { cls := .type "list", data := .seq vs.toArray }) (hi : IntsAre vs ns) (hl : ns.length ≤ sizeLine) :
    a ∉ ts ∧ ∃ H, ScriptT P w K a ns ts s₁ H := by
  have rv := vals_ints hi
  have lv := hi.length
  have na : a ∉ ts := fun q => by
    have e := hT a q
    rw [ha] at e
    cases e
  refine ⟨na, ?_⟩
  cases hk : K.lookup a with
  | some o =>
    have e := KX a o hk
    rw [ha] at e
    cases e
    refine ⟨fun b => if b ∈ ts then some (.tbl #[]) else none, fun t ht => if_pos ht, fun b hb => .inl (if_neg hb), .inr ⟨_, vs.toArray, _, hk, rfl, rfl, rfl, by rw [List.size_toArray, lv]; exact hl, by simpa using rv⟩, fun b u q => ?_, fun b q => .inr ?_, fun q => absurd (if_neg na) q⟩
    · by_cases hb : b ∈ ts
      · simp only [hb, if_true] at q
        cases q
        exact hT b hb
      · simp only [hb, if_false] at q
        cases q
    · exact Classical.byContradiction fun hb => q (if_neg hb)
  | none =>
    have nat : ∀ t, t ∈ ts → t ≠ a := fun t ht e => na (e ▸ ht)
    refine ⟨fun b => if b = a then some (.frz { cls := .type "list", data := .seq vs.toArray } (.lst (ns.map V.int))) else if b ∈ ts then some (.tbl #[]) else none, fun t ht => by rw [if_neg (nat t ht), if_pos ht], fun b hb => ?_, .inl ⟨_, if_pos rfl⟩, fun b u q => ?_, fun b q => ?_, fun _ => hk⟩
    · by_cases h : b = a
      · exact .inr ⟨_, _, if_pos h⟩
      · exact .inl (by rw [if_neg h, if_neg hb])
    · by_cases h : b = a
      · simp only [h, if_true] at q
        cases q
        subst h
        exact ⟨ha, by simpa using hl, vs, _, rv, ha⟩
      · by_cases hb : b ∈ ts
        · simp only [h, hb, if_true, if_false] at q
          cases q
          exact hT b hb
        · simp only [h, hb, if_false] at q
          cases q
    · by_cases h : b = a
      · exact .inl h
      · exact .inr (Classical.byContradiction fun hb => q (by simp only [h, hb, if_false]))
theorem lawGT (KX : K.In s₁.heap) (hns : s₁.heap.Ns mainGlobals mg) (hb : s₁.heap.Ns builtinsNs mb) (hbb : ∀ x : Str, x ≠ "__name__" → mb x = bootBuiltins x) (hlim : s₁.heap.NoLimit) (hg : s₁.gens = #[])
    (hT : ∀ t ∈ ts, s₁.heap.get? t = some { cls := .none, data := .fields #[] }) (nT : ∀ t ∈ ts, K.lookup t = none) (hct : ∀ t ∈ ts, isCodeTable s₁.heap t)
    (hbm : ∃ (bm : Addr) (ob : Obj), mg "__builtins__" = some (.ref bm) ∧ bm ≠ builtinsNs ∧ s₁.heap.get? bm = some ob ∧ ob.cls = .type "module" ∧ ob.dict = some builtinsNs ∧ ob.data = .plain)
    (ha : s₁.heap.get? a = some { cls := .type "list", data := .seq vs.toArray }) (hi : IntsAre vs ns) (h63 : ns.length ≤ 63) (hr : RoomG k callerA) (hl : LawOk (fun _ => 0) 63 g) (hcl : ∀ q ∈ cl.T, q.1 ∈ ts) (hG : ∀ z H, cl.G z H)
    (F : ∀ base : Heap, K.In base → base.Ns mainGlobals mg → (∀ t ∈ ts, base.BuiltinsAt mg t ∧ mainGlobals ≠ t) → FnG P w K mg base k fa fd [x] (spOf K cl 1 g)) (hbind : ∀ (s : Shared) (u : Value), BindsTo s fd ⟨[u], []⟩ [(x, u)]) :
    codeAny (model P w) callerA (.call (.ref fa) ⟨[.ref a], []⟩) (fun r s' => r = .ok (.ret (.bool true)) ∧ OldK s₁.heap s'.heap ∧ s'.os = s₁.os ∧ AllBare s'.gens) s₁ := by
  obtain ⟨na, H, S⟩ := scriptT_at (P := P) (w := w) KX hT ha hi (Nat.le_trans h63 (by decide))
  -- what is neither the script nor a table is seen by the callee's base
  have free : ∀ {b : Addr} {o : Obj}, s₁.heap.get? b = some o → o.data ≠ .seq vs.toArray → o.data ≠ .fields #[] → H b = none := fun {b o} e d1 d2 => by
    cases q : H b with
    | none => rfl
    | some u =>
      rcases S.at_ b (by rw [q]; exact Option.some_ne_none _) with h | h
      · rw [h, ha] at e
        cases e
        exact absurd rfl d1
      · rw [hT b h] at e
        cases e
        exact absurd rfl d2
  have dfree : ∀ {b : Addr} {o : Obj} {es : Array DictEntry} {ep : Nat}, s₁.heap.get? b = some o → o.data = .dict es ep → H b = none := fun {b o es ep} e d => free e (by rw [d]; exact fun q => nomatch q) (by rw [d]; exact fun q => nomatch q)
  have ns_ok : ∀ {b : Addr} {m : Str → Option Value}, s₁.heap.Ns b m → (hidT s₁.heap H).Ns b m := fun ⟨o, es, ep, e, d, r⟩ => ⟨o, es, ep, hidT_get e (dfree e d), d, r⟩
  have kb : K.In (hidT s₁.heap H) := fun b o e => hidT_get (KX b o e) (by
    cases q : H b with
    | none => rfl
    | some u =>
      have hne : H b ≠ none := by rw [q]; exact Option.some_ne_none _
      rcases S.at_ b hne with h | h
      · subst h
        rw [S.no hne] at e
        cases e
      · rw [nT b h] at e
        cases e)
  have hM : Mod K mg (hidT s₁.heap H) := ⟨kb, ns_ok hns, ⟨mb, ns_ok hb, hbb⟩, let ⟨mc, h1, h2⟩ := hlim; ⟨mc, ns_ok h1, h2⟩⟩
  have e0 : Env0 P w K mg (hidT s₁.heap H) callerA [] s₁ H := ⟨rfl, hM, fun b o e => of_hidT e, Nat.le_of_eq (hidT_size _ _), trivial, fun b q => (nomatch q), S.hok, .of_eq hg⟩
  have hB : ∀ t ∈ ts, (hidT s₁.heap H).BuiltinsAt mg t ∧ mainGlobals ≠ t := fun t ht => by
    obtain ⟨bm, ob, b1, b2, b3, b4, b5, b6⟩ := hbm
    obtain ⟨og, es, ep, g1, g2, _⟩ := hns
    have n1 : bm ≠ mainGlobals := fun q => by
      rw [q, g1] at b3
      cases b3
      rw [g2] at b6
      cases b6
    have n2 : bm ≠ t := fun q => by
      rw [q, hT t ht] at b3
      cases b3
      cases b6
    have n3 : mainGlobals ≠ t := fun q => by
      rw [q, hT t ht] at g1
      cases g1
      cases g2
    exact ⟨⟨bm, ob, b1, b2, n1, n2, hidT_get b3 (free b3 (by rw [b6]; exact fun q => nomatch q) (by rw [b6]; exact fun q => nomatch q)), b4, b5, b6⟩, n3⟩
  have hsp := law_end (K := K) (cl := cl) hl h63 (fun q hq => TabS.nil (S.tab q.1 (hcl q hq))) hG S.seq
  refine codeAny_mono ((F _ kb (ns_ok hns) hB).run callerA [] s₁ H ⟨[.ref a], []⟩ [.ref a] [.ref a] _ _ hr e0 (hbind s₁ (.ref a)) (.cons rfl .nil) hsp) fun r s' h => ?_
  match r, h with
  | .error e, h =>
    obtain ⟨_, _, _, _, _, _, _, _, _, _, _, _, q⟩ := h
    exact q.elim
  | .ok .next, h => exact h.elim
  | .ok .brk, h => exact h.elim
  | .ok .cont, h => exact h.elim
  | .ok (.ret u), ⟨v, H', os, bare, un, hok', rv, q⟩ =>
    have q' : v = .bl true := q
    subst q'
    have ru : u = Value.bool true := rv
    subst ru
    have key : ∀ b o, b ∉ ts → s₁.heap.get? b = some o → s'.heap.get? b = some o := fun b o nb e => by
      rcases S.only b nb with q | ⟨ob, xs, q⟩
      · exact un.keep b o e q (fun z => nomatch z) (fun z => nomatch z)
      · have h1 := (S.hok b _ q).1
        rw [e] at h1
        rw [Option.some.inj h1]
        exact (hok' b _ (un.frzs b ob _ q)).1
    have grown : ∀ t ∈ ts, ∃ more : Array Value, s'.heap.get? t = some { cls := .none, data := .fields more } := fun t ht => by
      obtain ⟨more, q⟩ := un.tbls t #[] (S.tab t ht)
      exact ⟨_, hok' t _ q⟩
    refine ⟨rfl, ⟨fun b o e => ?_, fun b o e => ?_⟩, os, bare⟩
    · by_cases hbt : b ∈ ts
      · obtain ⟨more, hm⟩ := grown b hbt
        have hc := hct b hbt
        rw [hT b hbt] at e
        cases e
        exact .inr (.inl ⟨hc, rfl, #[], more, rfl, by rw [Array.empty_append]; exact hm⟩)
      · exact .inl (key b o hbt e)
    · by_cases hbt : b ∈ ts
      · exact let ⟨more, hm⟩ := grown b hbt; ⟨_, hm⟩
      · exact ⟨o, key b o hbt e⟩
end
theorem walkWT {l : PySem.W.OpenLaw} {k : Nat} {q : Program} {loose : List Str} {XP : (Str → Option Value) → Heap → Prop} {YP : World → Heap → Prop} {d : DefRec} {x : Str} {g : Fw} {cl : PySem.W.Frag → Clz} {tf : List He.Defn}
    (hm : l.most = some 63) (hd : d.params.defaults = []) (hr : RoomG k callerA) (hl : LawOk (fun _ => 0) 63 g) (hcl : ∀ K, ∀ q ∈ (cl K).T, q.1 ∈ tf.map fun p => (He.cT K p).2) (hG : ∀ K z H, (cl K).G z H)
    (F : ∀ (w : World) (mg : Str → Option Value) (fa : Addr) (h : Heap), YP w h → h.Ns mainGlobals mg → mg d.name = some (.ref fa) →
      ∃ (K : PySem.W.Frag) (fd : FuncData), K.In h ∧ TabsAt tf h K ∧ (∀ (s : Shared) (u : Value), BindsTo s fd ⟨[u], []⟩ [(x, u)]) ∧
        ∀ base : Heap, K.In base → base.Ns mainGlobals mg → (∀ p ∈ tf, TabB base mg (He.cT K p).1 (He.cT K p).2) → FnG l.prog w K mg base k fa fd [x] (spOf K (cl K) 1 g)) :
    PySem.W.WalkO q loose XP YP l.row.toRowW d [] (fun f vs => PySem.call f vs) := by
  refine Att.attach_call hm hd fun w s₀ s₁ mg mb fa o pm cd doc a vs ns G Y ho hd' hcd hmg hobj hints hlen hg => ?_
  obtain ⟨K, fd, KX, T, hb, hF⟩ := F w mg fa _ Y G.T.g hmg
  have mem : ∀ t ∈ tf.map (fun p => (He.cT K p).2), ∃ p ∈ tf, (He.cT K p).2 = t := fun t ht => by
    obtain ⟨p, hp, e⟩ := List.mem_map.mp ht
    exact ⟨p, hp, e⟩
  refine lawGT (ts := tf.map fun p => (He.cT K p).2) KX G.T.g G.T.b G.T.builtins G.T.nolimit hg (fun t ht => ?_) (fun t ht => ?_) (fun t ht => ?_) G.T.bmain hobj hints hlen hr hl (hcl K) (hG K)
    (fun base kb nb hB => hF base kb nb fun p hp => NdefX.tabB_of_K kb (T.hd p hp) (hB _ (List.mem_map.mpr ⟨p, hp, rfl⟩)).1 (hB _ (List.mem_map.mpr ⟨p, hp, rfl⟩)).2) hb
  · obtain ⟨p, hp, rfl⟩ := mem t ht; exact T.nil p hp
  · obtain ⟨p, hp, rfl⟩ := mem t ht; exact T.out p hp
  · obtain ⟨p, hp, rfl⟩ := mem t ht
    exact ((PySem.W.codeHd_of_K KX (T.hd p hp)).tab (T.nil p hp)).isCodeTable
end Dn

/-! D40: tables that are unlike; the run of a def that got a lambda. -/
namespace Dn
open PySem PySem.Spec PyProof.Rows L2
theorem tabs_hu : ∀ {L : List (Addr × Str)}, (L.map (·.1)).Nodup → ∀ {i : Nat} {P : Addr} {q : Str}, L[i]? = some (P, q) → ∀ p ∈ L, p.1 = P → p.2 = q
  | [], _, _, _, _, h, _, hp, _ => by cases hp
  | (P0, q0) :: r, nd, 0, P, q, h, p, hp, e => by
    have h : some (P0, q0) = some (P, q) := h
    cases h
    rcases List.mem_cons.mp hp with rfl | hp
    · rfl
    · exact absurd (List.mem_map.mpr ⟨p, hp, e⟩) (List.nodup_cons.mp nd).1
  | (P0, q0) :: r, nd, i + 1, P, q, h, p, hp, e => by
    have h : r[i]? = some (P, q) := h
    rcases List.mem_cons.mp hp with rfl | hp
    · subst e
      exact absurd (List.mem_map.mpr ⟨(_, q), List.mem_of_getElem? h, rfl⟩) (List.nodup_cons.mp nd).1
    · exact tabs_hu (List.nodup_cons.mp nd).2 h p hp e
end Dn
namespace Dn
theorem exnOf_new {m : Mem} {c : Nat} {fs : List (PySem.Str × W)} : exnOf (m ++ [.exn c fs]) (.ref m.length) = some (c, fs) := by
  simp [exnOf]
end Dn

namespace L
open PySem PySem.Spec PyProof.Rows L2 Dn
def top (i : Nat) : Stmt := PySem.Challenge.pw_asklast_k31_claims_refused.main.body.getD i (.Pass ⟨0, 0, 0, 0⟩)
def w_LINE : W := (.str "line")
def w_ON : W := (.str "on")
def w_ASKS : W := (.str "asks")
def w_OLD : W := (.str "old")
def w_TELLS : W := (.str "tells")
def w_QUIET : W := (.str "quiet")
def w_TOLD : W := (.str "told")
def w_MOST_NAMES : W := (.int 3)
def w_CHOICES : W := (.tup [(.tup [(.str "line"), (.str "seen")]), (.tup [(.str "none"), (.str "on")]), (.tup [(.str "asks"), (.str "old"), (.str "tells")]), (.tup [(.str "quiet"), (.str "told")]), (.tup [(.str "asks"), (.str "claims")])])
def w_HERE : W := (.str "here")
def w_OUT : W := (.str "out")
def w_LOST : W := (.str "lost")
def w_AWAY : W := (.str "away")
def w_COME : W := (.str "come")
def w_LET : W := (.str "let")
def w_LEAVE : W := (.str "leave")
def w_BACK : W := (.str "back")
def w_DOOR : W := (.str "door")
def w_PERSONAL : W := (.tup [(.str "back"), (.str "leave"), (.str "let"), (.str "out"), (.str "vanish")])
def w_MOST_EVENTS : W := (.int 200)
def w_MOST_PEOPLE : W := (.int 12)
def w_SAME : W := (.str "same")
def w_PARTED : W := (.str "parted")
def w_FORM : W := (.str "form")
def w_SPOT_LOST : W := (.int 6)
def w_ORDER : W := (.str "order")
def w_PLACE : W := (.str "place")
def w_DOOR_PROMISE : W := (.str "door")
def w_ORDER_PROMISE : W := (.str "order")
def w_PROMISES : W := (.tup [(.str "door"), (.str "order"), (.str "place")])
def w_MAY_LET : W := (.str "let")
def w_MAY_OUT : W := (.str "out")
def w_MAYS : W := (.tup [(.tup []), (.tup [(.str "let")]), (.tup [(.str "let"), (.str "out")]), (.tup [(.str "out")])])
def w_MOST_ABSENT : W := (.int 99)
def w_KEPT : W := (.str "kept")
def w_BROKEN : W := (.str "broken")
def w_ALIKE : W := (.str "alike")
def t_SIZES : List (Str × Option W) := [("alike", some (.int 3)), ("keeps", some (.int 5)), ("Keeps", none), ("same", none)]
def clf (K : PySem.W.Frag) : Nat → Addr
  | 0 => He.ga K "Room"
  | 1 => He.ga K "Beside"
  | 2 => He.ga K "AskError"
  | 3 => He.ga K "BadRule"
  | 4 => He.ga K "BadEvents"
  | 5 => He.ga K "BadPaper"
  | 6 => He.ga K "BadPromise"
  | 7 => He.ga K "BadMay"
  | 8 => He.ga K "BadAbsent"
  | 9 => He.ga K "BadClaim"
  | 10 => He.ga K "TooMany"
  | _ => 0
abbrev cl (K : PySem.W.Frag) : Clz := Clz.tab (clf K) [((He.cT K ("_law_hand_right", none)).2, "_law_hand_right" ++ ".<locals>." ++ "<lambda>"), ((He.cT K ("law", none)).2, "law" ++ ".<locals>." ++ "<lambda>")]
def tfl : List He.Defn := [("_law_hand_right", none), ("law", none)]
theorem cl_tf (K : PySem.W.Frag) : ∀ q ∈ (cl K).T, q.1 ∈ tfl.map fun p => (He.cT K p).2 := fun q hq => by
  have h := List.mem_map_of_mem (f := Prod.fst) hq
  exact h
abbrev st_is_integer : Stmt := top 23
abbrev st_is_between : Stmt := top 24
abbrev st_is_one_of : Stmt := top 25
abbrev st_need_rule : Stmt := top 26
abbrev st_nearest_ahead : Stmt := top 41
abbrev st_renewed : Stmt := top 42
abbrev st_spot_of : Stmt := top 43
abbrev st_as_how : Stmt := top 44
abbrev st_without : Stmt := top 45
abbrev st_forgetting : Stmt := top 46
abbrev st_asked_again : Stmt := top 47
abbrev st_claiming : Stmt := top 48
abbrev st_has_form : Stmt := top 50
abbrev st_Room___init__ : Stmt := clsItem (top 49) 0
abbrev st_Room_put_in : Stmt := clsItem (top 49) 4
abbrev st_Room_open_door : Stmt := clsItem (top 49) 7
abbrev st_Room_renew_from : Stmt := clsItem (top 49) 5
abbrev st_Room_bring_back : Stmt := clsItem (top 49) 6
abbrev st_Room_do_personal : Stmt := clsItem (top 49) 8
abbrev st_Room_do : Stmt := clsItem (top 49) 9
abbrev st_Room_how_is : Stmt := clsItem (top 49) 1
abbrev st_Room_are_here : Stmt := clsItem (top 49) 2
abbrev st_Room_can_be : Stmt := clsItem (top 49) 3
abbrev st_room_behind : Stmt := top 51
abbrev st_absent_in : Stmt := top 52
abbrev st_normal_of : Stmt := top 58
abbrev st_normal_rule : Stmt := top 59
abbrev st_are_alike : Stmt := top 60
abbrev st_Beside___init__ : Stmt := clsItem (top 61) 0
abbrev st_Beside_can_both : Stmt := clsItem (top 61) 1
abbrev st_Beside_parts_by : Stmt := clsItem (top 61) 2
abbrev st_parting_in : Stmt := top 62
abbrev st_is_paper : Stmt := top 63
abbrev st_check_alike : Stmt := top 64
abbrev st_claims_in : Stmt := top 68
abbrev st_door_faults : Stmt := top 69
abbrev st_faults_now : Stmt := top 70
abbrev st_need_promise : Stmt := top 80
abbrev st_need_may : Stmt := top 81
abbrev st_need_absent : Stmt := top 82
abbrev st_is_at_most : Stmt := top 83
abbrev st_do_renew : Stmt := top 84
abbrev st_keeps_order : Stmt := top 85
abbrev st_keeps_door : Stmt := top 86
abbrev st_keeps_by : Stmt := top 87
abbrev st_does_keep : Stmt := top 88
abbrev st_need_all : Stmt := top 92
abbrev st_is_row : Stmt := top 93
abbrev st_does_break : Stmt := top 94
abbrev st_check_promise : Stmt := top 95
abbrev st_need_parts : Stmt := top 100
abbrev st_is_claim : Stmt := top 101
abbrev st_judged : Stmt := top 102
abbrev st__law_mixed : Stmt := top 104
abbrev st__law_begin : Stmt := top 105
abbrev st__law_draw : Stmt := top 106
abbrev st__law_of : Stmt := top 107
abbrev st__law_heard : Stmt := top 108
abbrev st__law_rule : Stmt := top 109
abbrev st__law_odds : Stmt := top 110
abbrev st__law_hand_right : Stmt := top 111
abbrev st_law : Stmt := top 112
/-- what stands behind the top -/
abbrev st_x_BadRule : Stmt := clsItem (top 2) 0
def xd_BadRule : XD := ⟨"BadRule", "BadRule.__init__", defArgs st_x_BadRule, defBody st_x_BadRule, defScope st_x_BadRule⟩
abbrev st_x_BadEvents : Stmt := clsItem (top 3) 0
def xd_BadEvents : XD := ⟨"BadEvents", "BadEvents.__init__", defArgs st_x_BadEvents, defBody st_x_BadEvents, defScope st_x_BadEvents⟩
abbrev st_x_BadPaper : Stmt := clsItem (top 4) 0
def xd_BadPaper : XD := ⟨"BadPaper", "BadPaper.__init__", defArgs st_x_BadPaper, defBody st_x_BadPaper, defScope st_x_BadPaper⟩
abbrev st_x_BadPromise : Stmt := clsItem (top 5) 0
def xd_BadPromise : XD := ⟨"BadPromise", "BadPromise.__init__", defArgs st_x_BadPromise, defBody st_x_BadPromise, defScope st_x_BadPromise⟩
abbrev st_x_BadMay : Stmt := clsItem (top 6) 0
def xd_BadMay : XD := ⟨"BadMay", "BadMay.__init__", defArgs st_x_BadMay, defBody st_x_BadMay, defScope st_x_BadMay⟩
abbrev st_x_BadAbsent : Stmt := clsItem (top 7) 0
def xd_BadAbsent : XD := ⟨"BadAbsent", "BadAbsent.__init__", defArgs st_x_BadAbsent, defBody st_x_BadAbsent, defScope st_x_BadAbsent⟩
abbrev st_x_BadClaim : Stmt := clsItem (top 8) 0
def xd_BadClaim : XD := ⟨"BadClaim", "BadClaim.__init__", defArgs st_x_BadClaim, defBody st_x_BadClaim, defScope st_x_BadClaim⟩
def l_BadEvents : List (Nat × Bool) := [(3, false), (4, true), (5, false), (6, false), (7, false), (8, false), (9, false), (10, false)]
def l_BadPaper : List (Nat × Bool) := [(3, false), (4, false), (5, true), (6, false), (7, false), (8, false), (9, false), (10, false)]
def l_BadClaim : List (Nat × Bool) := [(3, false), (4, false), (5, false), (6, false), (7, false), (8, false), (9, true), (10, false)]
def la_AskError_TooMany : List (Nat × Bool) := [(3, true), (4, true), (5, true), (6, true), (7, true), (8, true), (9, true), (10, true)]
def la_BadAbsent_BadMay_BadPromise_BadRule : List (Nat × Bool) := [(3, true), (4, false), (5, false), (6, true), (7, true), (8, true), (9, false), (10, false)]
def cs_given : List Nat := [6, 7, 8, 9]
def cs_part : List Nat := [5]
def fa : List He.Fa := [.glo "is_integer", .glo "is_between", .glo "is_one_of", .glo "need_rule", .glo "nearest_ahead", .glo "renewed", .glo "spot_of", .glo "as_how", .glo "without", .glo "forgetting", .glo "asked_again", .glo "claiming", .glo "has_form", .glo "room_behind", .glo "absent_in", .glo "normal_of", .glo "normal_rule", .glo "are_alike", .glo "parting_in", .glo "is_paper", .glo "check_alike", .glo "claims_in", .glo "door_faults", .glo "faults_now", .glo "need_promise", .glo "need_may", .glo "need_absent", .glo "is_at_most", .glo "do_renew", .glo "keeps_order", .glo "keeps_door", .glo "keeps_by", .glo "does_keep", .glo "need_all", .glo "is_row", .glo "does_break", .glo "check_promise", .glo "need_parts", .glo "is_claim", .glo "judged", .glo "_law_mixed", .glo "_law_begin", .glo "_law_draw", .glo "_law_of", .glo "_law_heard", .glo "_law_rule", .glo "_law_odds", .glo "_law_hand_right", .glo "law", .free "all", .free "any", .free "bool", .free "enumerate", .free "int", .free "isinstance", .free "len", .free "list", .free "range", .free "repr", .free "str", .free "super", .free "tuple", .cls "Beside", .cls "Room", .noat "Beside" "one_room", .noat "Beside" "other_room", .noat "Room" "came_so_far", .noat "Room" "line_now", .noat "Room" "own_rule", .noat "Room" "served_so_far", .meth "Beside" "can_both", .meth "Beside" "parts_by", .meth "Room" "are_here", .meth "Room" "bring_back", .meth "Room" "can_be", .meth "Room" "do", .meth "Room" "do_personal", .meth "Room" "how_is", .meth "Room" "open_door", .meth "Room" "put_in", .meth "Room" "renew_from", .mkr "Beside", .glo "Beside", .mkr "Room", .glo "Room", .glo "AskError", .glo "BadRule", .glo "BadEvents", .glo "BadPaper", .glo "BadPromise", .glo "BadMay", .glo "BadAbsent", .glo "BadClaim", .glo "TooMany"]
def dd_is_integer : He.DefD := ⟨("is_integer", none), "is_integer", "is_integer", defArgs st_is_integer, defBody st_is_integer, defScope st_is_integer, [], []⟩
def dd_is_between : He.DefD := ⟨("is_between", none), "is_between", "is_between", defArgs st_is_between, defBody st_is_between, defScope st_is_between, [], []⟩
def dd_is_one_of : He.DefD := ⟨("is_one_of", none), "is_one_of", "is_one_of", defArgs st_is_one_of, defBody st_is_one_of, defScope st_is_one_of, [], []⟩
def dd_need_rule : He.DefD := ⟨("need_rule", none), "need_rule", "need_rule", defArgs st_need_rule, defBody st_need_rule, defScope st_need_rule, [], []⟩
def dd_nearest_ahead : He.DefD := ⟨("nearest_ahead", none), "nearest_ahead", "nearest_ahead", defArgs st_nearest_ahead, defBody st_nearest_ahead, defScope st_nearest_ahead, [], []⟩
def dd_renewed : He.DefD := ⟨("renewed", none), "renewed", "renewed", defArgs st_renewed, defBody st_renewed, defScope st_renewed, [], []⟩
def dd_spot_of : He.DefD := ⟨("spot_of", none), "spot_of", "spot_of", defArgs st_spot_of, defBody st_spot_of, defScope st_spot_of, [], []⟩
def dd_as_how : He.DefD := ⟨("as_how", none), "as_how", "as_how", defArgs st_as_how, defBody st_as_how, defScope st_as_how, [], []⟩
def dd_without : He.DefD := ⟨("without", none), "without", "without", defArgs st_without, defBody st_without, defScope st_without, [], []⟩
def dd_forgetting : He.DefD := ⟨("forgetting", none), "forgetting", "forgetting", defArgs st_forgetting, defBody st_forgetting, defScope st_forgetting, [], []⟩
def dd_asked_again : He.DefD := ⟨("asked_again", none), "asked_again", "asked_again", defArgs st_asked_again, defBody st_asked_again, defScope st_asked_again, [], []⟩
def dd_claiming : He.DefD := ⟨("claiming", none), "claiming", "claiming", defArgs st_claiming, defBody st_claiming, defScope st_claiming, [], []⟩
def dd_has_form : He.DefD := ⟨("has_form", none), "has_form", "has_form", defArgs st_has_form, defBody st_has_form, defScope st_has_form, [], []⟩
def dd_Room___init__ : He.DefD := ⟨("Room", some "__init__"), "__init__", "Room.__init__", defArgs st_Room___init__, defBody st_Room___init__, defScope st_Room___init__, [], []⟩
def dd_Room_put_in : He.DefD := ⟨("Room", some "put_in"), "put_in", "Room.put_in", defArgs st_Room_put_in, defBody st_Room_put_in, defScope st_Room_put_in, [], []⟩
def dd_Room_open_door : He.DefD := ⟨("Room", some "open_door"), "open_door", "Room.open_door", defArgs st_Room_open_door, defBody st_Room_open_door, defScope st_Room_open_door, [], []⟩
def dd_Room_renew_from : He.DefD := ⟨("Room", some "renew_from"), "renew_from", "Room.renew_from", defArgs st_Room_renew_from, defBody st_Room_renew_from, defScope st_Room_renew_from, [], []⟩
def dd_Room_bring_back : He.DefD := ⟨("Room", some "bring_back"), "bring_back", "Room.bring_back", defArgs st_Room_bring_back, defBody st_Room_bring_back, defScope st_Room_bring_back, [], []⟩
def dd_Room_do_personal : He.DefD := ⟨("Room", some "do_personal"), "do_personal", "Room.do_personal", defArgs st_Room_do_personal, defBody st_Room_do_personal, defScope st_Room_do_personal, [], []⟩
def dd_Room_do : He.DefD := ⟨("Room", some "do"), "do", "Room.do", defArgs st_Room_do, defBody st_Room_do, defScope st_Room_do, [], []⟩
def dd_Room_how_is : He.DefD := ⟨("Room", some "how_is"), "how_is", "Room.how_is", defArgs st_Room_how_is, defBody st_Room_how_is, defScope st_Room_how_is, [], []⟩
def dd_Room_are_here : He.DefD := ⟨("Room", some "are_here"), "are_here", "Room.are_here", defArgs st_Room_are_here, defBody st_Room_are_here, defScope st_Room_are_here, [], []⟩
def dd_Room_can_be : He.DefD := ⟨("Room", some "can_be"), "can_be", "Room.can_be", defArgs st_Room_can_be, defBody st_Room_can_be, defScope st_Room_can_be, [], []⟩
def dd_room_behind : He.DefD := ⟨("room_behind", none), "room_behind", "room_behind", defArgs st_room_behind, defBody st_room_behind, defScope st_room_behind, [], []⟩
def dd_absent_in : He.DefD := ⟨("absent_in", none), "absent_in", "absent_in", defArgs st_absent_in, defBody st_absent_in, defScope st_absent_in, [], []⟩
def dd_normal_of : He.DefD := ⟨("normal_of", none), "normal_of", "normal_of", defArgs st_normal_of, defBody st_normal_of, defScope st_normal_of, [], []⟩
def dd_normal_rule : He.DefD := ⟨("normal_rule", none), "normal_rule", "normal_rule", defArgs st_normal_rule, defBody st_normal_rule, defScope st_normal_rule, [], []⟩
def dd_are_alike : He.DefD := ⟨("are_alike", none), "are_alike", "are_alike", defArgs st_are_alike, defBody st_are_alike, defScope st_are_alike, [], []⟩
def dd_Beside___init__ : He.DefD := ⟨("Beside", some "__init__"), "__init__", "Beside.__init__", defArgs st_Beside___init__, defBody st_Beside___init__, defScope st_Beside___init__, [], []⟩
def dd_Beside_can_both : He.DefD := ⟨("Beside", some "can_both"), "can_both", "Beside.can_both", defArgs st_Beside_can_both, defBody st_Beside_can_both, defScope st_Beside_can_both, [], []⟩
def dd_Beside_parts_by : He.DefD := ⟨("Beside", some "parts_by"), "parts_by", "Beside.parts_by", defArgs st_Beside_parts_by, defBody st_Beside_parts_by, defScope st_Beside_parts_by, [], []⟩
def dd_parting_in : He.DefD := ⟨("parting_in", none), "parting_in", "parting_in", defArgs st_parting_in, defBody st_parting_in, defScope st_parting_in, [], []⟩
def dd_is_paper : He.DefD := ⟨("is_paper", none), "is_paper", "is_paper", defArgs st_is_paper, defBody st_is_paper, defScope st_is_paper, [], []⟩
def dd_check_alike : He.DefD := ⟨("check_alike", none), "check_alike", "check_alike", defArgs st_check_alike, defBody st_check_alike, defScope st_check_alike, [], []⟩
def dd_claims_in : He.DefD := ⟨("claims_in", none), "claims_in", "claims_in", defArgs st_claims_in, defBody st_claims_in, defScope st_claims_in, [], []⟩
def dd_door_faults : He.DefD := ⟨("door_faults", none), "door_faults", "door_faults", defArgs st_door_faults, defBody st_door_faults, defScope st_door_faults, [], []⟩
def dd_faults_now : He.DefD := ⟨("faults_now", none), "faults_now", "faults_now", defArgs st_faults_now, defBody st_faults_now, defScope st_faults_now, [], []⟩
def dd_need_promise : He.DefD := ⟨("need_promise", none), "need_promise", "need_promise", defArgs st_need_promise, defBody st_need_promise, defScope st_need_promise, [], []⟩
def dd_need_may : He.DefD := ⟨("need_may", none), "need_may", "need_may", defArgs st_need_may, defBody st_need_may, defScope st_need_may, [], []⟩
def dd_need_absent : He.DefD := ⟨("need_absent", none), "need_absent", "need_absent", defArgs st_need_absent, defBody st_need_absent, defScope st_need_absent, [], []⟩
def dd_is_at_most : He.DefD := ⟨("is_at_most", none), "is_at_most", "is_at_most", defArgs st_is_at_most, defBody st_is_at_most, defScope st_is_at_most, [], []⟩
def dd_do_renew : He.DefD := ⟨("do_renew", none), "do_renew", "do_renew", defArgs st_do_renew, defBody st_do_renew, defScope st_do_renew, [], []⟩
def dd_keeps_order : He.DefD := ⟨("keeps_order", none), "keeps_order", "keeps_order", defArgs st_keeps_order, defBody st_keeps_order, defScope st_keeps_order, [], []⟩
def dd_keeps_door : He.DefD := ⟨("keeps_door", none), "keeps_door", "keeps_door", defArgs st_keeps_door, defBody st_keeps_door, defScope st_keeps_door, [], []⟩
def dd_keeps_by : He.DefD := ⟨("keeps_by", none), "keeps_by", "keeps_by", defArgs st_keeps_by, defBody st_keeps_by, defScope st_keeps_by, [], []⟩
def dd_does_keep : He.DefD := ⟨("does_keep", none), "does_keep", "does_keep", defArgs st_does_keep, defBody st_does_keep, defScope st_does_keep, [], []⟩
def dd_need_all : He.DefD := ⟨("need_all", none), "need_all", "need_all", defArgs st_need_all, defBody st_need_all, defScope st_need_all, [], []⟩
def dd_is_row : He.DefD := ⟨("is_row", none), "is_row", "is_row", defArgs st_is_row, defBody st_is_row, defScope st_is_row, [], []⟩
def dd_does_break : He.DefD := ⟨("does_break", none), "does_break", "does_break", defArgs st_does_break, defBody st_does_break, defScope st_does_break, [], []⟩
def dd_check_promise : He.DefD := ⟨("check_promise", none), "check_promise", "check_promise", defArgs st_check_promise, defBody st_check_promise, defScope st_check_promise, [], []⟩
def dd_need_parts : He.DefD := ⟨("need_parts", none), "need_parts", "need_parts", defArgs st_need_parts, defBody st_need_parts, defScope st_need_parts, [], []⟩
def dd_is_claim : He.DefD := ⟨("is_claim", none), "is_claim", "is_claim", defArgs st_is_claim, defBody st_is_claim, defScope st_is_claim, [], []⟩
def dd_judged : He.DefD := ⟨("judged", none), "judged", "judged", defArgs st_judged, defBody st_judged, defScope st_judged, [], []⟩
def dd__law_mixed : He.DefD := ⟨("_law_mixed", none), "_law_mixed", "_law_mixed", defArgs st__law_mixed, defBody st__law_mixed, defScope st__law_mixed, [], []⟩
def dd__law_begin : He.DefD := ⟨("_law_begin", none), "_law_begin", "_law_begin", defArgs st__law_begin, defBody st__law_begin, defScope st__law_begin, [], []⟩
def dd__law_draw : He.DefD := ⟨("_law_draw", none), "_law_draw", "_law_draw", defArgs st__law_draw, defBody st__law_draw, defScope st__law_draw, [], []⟩
def dd__law_of : He.DefD := ⟨("_law_of", none), "_law_of", "_law_of", defArgs st__law_of, defBody st__law_of, defScope st__law_of, [], []⟩
def dd__law_heard : He.DefD := ⟨("_law_heard", none), "_law_heard", "_law_heard", defArgs st__law_heard, defBody st__law_heard, defScope st__law_heard, [], []⟩
def dd__law_rule : He.DefD := ⟨("_law_rule", none), "_law_rule", "_law_rule", defArgs st__law_rule, defBody st__law_rule, defScope st__law_rule, [], []⟩
def dd__law_odds : He.DefD := ⟨("_law_odds", none), "_law_odds", "_law_odds", defArgs st__law_odds, defBody st__law_odds, defScope st__law_odds, [], []⟩
def dd__law_hand_right : He.DefD := ⟨("_law_hand_right", none), "_law_hand_right", "_law_hand_right", defArgs st__law_hand_right, defBody st__law_hand_right, defScope st__law_hand_right, [], []⟩
def dd_law : He.DefD := ⟨("law", none), "law", "law", defArgs st_law, defBody st_law, defScope st_law, [], []⟩
def fn : List He.DefD := [dd_is_integer, dd_is_between, dd_is_one_of, dd_need_rule, dd_nearest_ahead, dd_renewed, dd_spot_of, dd_as_how, dd_without, dd_forgetting, dd_asked_again, dd_claiming, dd_has_form, dd_Room___init__, dd_Room_put_in, dd_Room_open_door, dd_Room_renew_from, dd_Room_bring_back, dd_Room_do_personal, dd_Room_do, dd_Room_how_is, dd_Room_are_here, dd_Room_can_be, dd_room_behind, dd_absent_in, dd_normal_of, dd_normal_rule, dd_are_alike, dd_Beside___init__, dd_Beside_can_both, dd_Beside_parts_by, dd_parting_in, dd_is_paper, dd_check_alike, dd_claims_in, dd_door_faults, dd_faults_now, dd_need_promise, dd_need_may, dd_need_absent, dd_is_at_most, dd_do_renew, dd_keeps_order, dd_keeps_door, dd_keeps_by, dd_does_keep, dd_need_all, dd_is_row, dd_does_break, dd_check_promise, dd_need_parts, dd_is_claim, dd_judged, dd__law_mixed, dd__law_begin, dd__law_draw, dd__law_of, dd__law_heard, dd__law_rule, dd__law_odds, dd__law_hand_right, dd_law]
def fileS : Str := PySem.Challenge.pw_asklast_k31_claims_refused.main.file
def ex0 (K : PySem.W.Frag) : List Bool := [gloB K "LINE" w_LINE, gloB K "ON" w_ON, gloB K "ASKS" w_ASKS, gloB K "OLD" w_OLD, gloB K "TELLS" w_TELLS, gloB K "QUIET" w_QUIET, gloB K "TOLD" w_TOLD, gloB K "MOST_NAMES" w_MOST_NAMES, gloB K "CHOICES" w_CHOICES, gloB K "HERE" w_HERE, gloB K "OUT" w_OUT, gloB K "LOST" w_LOST]
def ex1 (K : PySem.W.Frag) : List Bool := [gloB K "AWAY" w_AWAY, gloB K "COME" w_COME, gloB K "LET" w_LET, gloB K "LEAVE" w_LEAVE, gloB K "BACK" w_BACK, gloB K "DOOR" w_DOOR, gloB K "PERSONAL" w_PERSONAL, gloB K "MOST_EVENTS" w_MOST_EVENTS, gloB K "MOST_PEOPLE" w_MOST_PEOPLE, gloB K "SAME" w_SAME, gloB K "PARTED" w_PARTED, gloB K "FORM" w_FORM]
def ex2 (K : PySem.W.Frag) : List Bool := [gloB K "SPOT_LOST" w_SPOT_LOST, gloB K "ORDER" w_ORDER, gloB K "PLACE" w_PLACE, gloB K "DOOR_PROMISE" w_DOOR_PROMISE, gloB K "ORDER_PROMISE" w_ORDER_PROMISE, gloB K "PROMISES" w_PROMISES, gloB K "MAY_LET" w_MAY_LET, gloB K "MAY_OUT" w_MAY_OUT, gloB K "MAYS" w_MAYS, gloB K "MOST_ABSENT" w_MOST_ABSENT, gloB K "KEPT" w_KEPT, gloB K "BROKEN" w_BROKEN]
def ex3 (K : PySem.W.Frag) : List Bool := [gloB K "ALIKE" w_ALIKE, kdB K "SIZES" t_SIZES, XD.ok fileS K xd_BadRule, decide (PySem.W.findIn K (.ref (cl K 3)) "place" = some none), XD.ok fileS K xd_BadEvents, decide (PySem.W.findIn K (.ref (cl K 4)) "number" = some none), XD.ok fileS K xd_BadPaper, decide (PySem.W.findIn K (.ref (cl K 5)) "part" = some none), XD.ok fileS K xd_BadPromise, decide (PySem.W.findIn K (.ref (cl K 6)) "given" = some none), XD.ok fileS K xd_BadMay, decide (PySem.W.findIn K (.ref (cl K 7)) "given" = some none)]
def ex4 (K : PySem.W.Frag) : List Bool := [XD.ok fileS K xd_BadAbsent, decide (PySem.W.findIn K (.ref (cl K 8)) "given" = some none), XD.ok fileS K xd_BadClaim, decide (PySem.W.findIn K (.ref (cl K 9)) "given" = some none), mtB K (cl K) 4 l_BadEvents, mtB K (cl K) 5 l_BadPaper, mtB K (cl K) 9 l_BadClaim, isXB K (cl K) (.ref (cl K 5)) l_BadPaper, isXB K (cl K) (.ref (cl K 9)) l_BadClaim, xkB K (cl K) cs_given "given", xkB K (cl K) cs_part "part", mtAB K (cl K) [2, 10] la_AskError_TooMany]
def ex5 (K : PySem.W.Frag) : List Bool := [mtAB K (cl K) [8, 7, 6, 3] la_BadAbsent_BadMay_BadPromise_BadRule, decide (((cl K).T.map (·.1)).Nodup)]
def ex (K : PySem.W.Frag) : Bool := allB [gloB K "LINE" w_LINE, gloB K "ON" w_ON, gloB K "ASKS" w_ASKS, gloB K "OLD" w_OLD, gloB K "TELLS" w_TELLS, gloB K "QUIET" w_QUIET, gloB K "TOLD" w_TOLD, gloB K "MOST_NAMES" w_MOST_NAMES, gloB K "CHOICES" w_CHOICES, gloB K "HERE" w_HERE, gloB K "OUT" w_OUT, gloB K "LOST" w_LOST, gloB K "AWAY" w_AWAY, gloB K "COME" w_COME, gloB K "LET" w_LET, gloB K "LEAVE" w_LEAVE, gloB K "BACK" w_BACK, gloB K "DOOR" w_DOOR, gloB K "PERSONAL" w_PERSONAL, gloB K "MOST_EVENTS" w_MOST_EVENTS, gloB K "MOST_PEOPLE" w_MOST_PEOPLE, gloB K "SAME" w_SAME, gloB K "PARTED" w_PARTED, gloB K "FORM" w_FORM, gloB K "SPOT_LOST" w_SPOT_LOST, gloB K "ORDER" w_ORDER, gloB K "PLACE" w_PLACE, gloB K "DOOR_PROMISE" w_DOOR_PROMISE, gloB K "ORDER_PROMISE" w_ORDER_PROMISE, gloB K "PROMISES" w_PROMISES, gloB K "MAY_LET" w_MAY_LET, gloB K "MAY_OUT" w_MAY_OUT, gloB K "MAYS" w_MAYS, gloB K "MOST_ABSENT" w_MOST_ABSENT, gloB K "KEPT" w_KEPT, gloB K "BROKEN" w_BROKEN, gloB K "ALIKE" w_ALIKE, kdB K "SIZES" t_SIZES, XD.ok fileS K xd_BadRule, decide (PySem.W.findIn K (.ref (cl K 3)) "place" = some none), XD.ok fileS K xd_BadEvents, decide (PySem.W.findIn K (.ref (cl K 4)) "number" = some none), XD.ok fileS K xd_BadPaper, decide (PySem.W.findIn K (.ref (cl K 5)) "part" = some none), XD.ok fileS K xd_BadPromise, decide (PySem.W.findIn K (.ref (cl K 6)) "given" = some none), XD.ok fileS K xd_BadMay, decide (PySem.W.findIn K (.ref (cl K 7)) "given" = some none), XD.ok fileS K xd_BadAbsent, decide (PySem.W.findIn K (.ref (cl K 8)) "given" = some none), XD.ok fileS K xd_BadClaim, decide (PySem.W.findIn K (.ref (cl K 9)) "given" = some none), mtB K (cl K) 4 l_BadEvents, mtB K (cl K) 5 l_BadPaper, mtB K (cl K) 9 l_BadClaim, isXB K (cl K) (.ref (cl K 5)) l_BadPaper, isXB K (cl K) (.ref (cl K 9)) l_BadClaim, xkB K (cl K) cs_given "given", xkB K (cl K) cs_part "part", mtAB K (cl K) [2, 10] la_AskError_TooMany, mtAB K (cl K) [8, 7, 6, 3] la_BadAbsent_BadMay_BadPromise_BadRule, decide (((cl K).T.map (·.1)).Nodup)]
def xl : List XD := [xd_BadRule, xd_BadEvents, xd_BadPaper, xd_BadPromise, xd_BadMay, xd_BadAbsent, xd_BadClaim]
def tb : List TabS := [("SIZES", ["alike", "keeps"])]
abbrev Rw : PySem.W.OpenRow := PySem.W.OpenLaw.row PySem.Challenge.rw_asklast_k31_claims_refused
abbrev hk : PySem.W.Hook := hookEZ 4 fa fn ex tb xl tfl
def ob (s : PySem.W.SharedT) : AlEZ := obsEZG 4 fa fn ex tb xl tfl (HandSHeadRun.getT s)
theorem ob_eq (s : PySem.W.SharedT) : ob s = hk.obs s.abs := obsEZG_eq (HandSHeadRun.getT_eq s)
def nm0 : List Str := ["AskError", "BadRule", "BadEvents", "BadPaper", "BadPromise", "BadMay", "BadAbsent", "BadClaim", "TooMany", "LINE", "SEEN", "NONE", "ON", "ASKS", "OLD", "TELLS", "QUIET", "TOLD", "CLAIMS", "MOST_NAMES", "CHOICES", "is_integer", "is_between", "is_one_of", "need_rule", "HERE", "OUT", "LOST", "AWAY", "COME"]
def nm1 : List Str := ["LET", "VANISH", "LEAVE", "BACK", "DOOR", "PERSONAL", "MOST_EVENTS", "MOST_PEOPLE", "nearest_ahead", "renewed", "spot_of", "as_how", "without", "forgetting", "asked_again", "claiming", "Room", "has_form", "room_behind", "absent_in", "SAME", "PARTED", "FORM", "SPOT_LOST", "normal_of", "normal_rule", "are_alike", "Beside", "parting_in", "is_paper"]
def nm2 : List Str := ["check_alike", "ORDER", "PLACE", "claims_in", "door_faults", "faults_now", "DOOR_PROMISE", "ORDER_PROMISE", "PLACE_PROMISE", "PROMISES", "MAY_LET", "MAY_OUT", "MAYS", "MOST_ABSENT", "need_promise", "need_may", "need_absent", "is_at_most", "do_renew", "keeps_order", "keeps_door", "keeps_by", "does_keep", "KEPT", "BROKEN", "need_all", "is_row", "does_break", "check_promise", "ALIKE"]
def nm3 : List Str := ["KEEPS", "SIZES", "need_parts", "is_claim", "judged", "_law_mixed", "_law_begin", "_law_draw", "_law_of", "_law_heard", "_law_rule", "_law_odds", "_law_hand_right"]
def nms : List Str := nm0 ++ nm1 ++ nm2 ++ nm3
def fa0 : List He.Fa := [.glo "is_integer", .glo "is_between", .glo "is_one_of", .glo "need_rule", .glo "nearest_ahead", .glo "renewed", .glo "spot_of", .glo "as_how", .glo "without", .glo "forgetting", .glo "asked_again", .glo "claiming", .glo "has_form", .glo "room_behind", .glo "absent_in", .glo "normal_of", .glo "normal_rule", .glo "are_alike", .glo "parting_in", .glo "is_paper", .glo "check_alike", .glo "claims_in", .glo "door_faults", .glo "faults_now", .glo "need_promise", .glo "need_may", .glo "need_absent", .glo "is_at_most", .glo "do_renew", .glo "keeps_order", .glo "keeps_door", .glo "keeps_by", .glo "does_keep", .glo "need_all", .glo "is_row", .glo "does_break", .glo "check_promise", .glo "need_parts", .glo "is_claim", .glo "judged", .glo "_law_mixed", .glo "_law_begin", .glo "_law_draw", .glo "_law_of", .glo "_law_heard", .glo "_law_rule", .glo "_law_odds", .glo "_law_hand_right", .glo "law", .free "all", .free "any", .free "bool", .free "enumerate", .free "int", .free "isinstance", .free "len", .free "list", .free "range", .free "repr", .free "str"]
def fa1 : List He.Fa := [.free "super", .free "tuple", .cls "Beside", .cls "Room", .noat "Beside" "one_room", .noat "Beside" "other_room", .noat "Room" "came_so_far", .noat "Room" "line_now", .noat "Room" "own_rule", .noat "Room" "served_so_far", .meth "Beside" "can_both", .meth "Beside" "parts_by", .meth "Room" "are_here", .meth "Room" "bring_back", .meth "Room" "can_be", .meth "Room" "do", .meth "Room" "do_personal", .meth "Room" "how_is", .meth "Room" "open_door", .meth "Room" "put_in", .meth "Room" "renew_from", .mkr "Beside", .glo "Beside", .mkr "Room", .glo "Room", .glo "AskError", .glo "BadRule", .glo "BadEvents", .glo "BadPaper", .glo "BadPromise", .glo "BadMay", .glo "BadAbsent", .glo "BadClaim", .glo "TooMany"]
def fn0 : List He.DefD := [dd_is_integer, dd_is_between, dd_is_one_of, dd_need_rule, dd_nearest_ahead, dd_renewed, dd_spot_of, dd_as_how, dd_without, dd_forgetting, dd_asked_again, dd_claiming, dd_has_form, dd_Room___init__, dd_Room_put_in, dd_Room_open_door, dd_Room_renew_from, dd_Room_bring_back, dd_Room_do_personal, dd_Room_do, dd_Room_how_is, dd_Room_are_here, dd_Room_can_be, dd_room_behind, dd_absent_in, dd_normal_of, dd_normal_rule, dd_are_alike, dd_Beside___init__, dd_Beside_can_both, dd_Beside_parts_by, dd_parting_in, dd_is_paper, dd_check_alike, dd_claims_in, dd_door_faults, dd_faults_now, dd_need_promise, dd_need_may, dd_need_absent, dd_is_at_most, dd_do_renew, dd_keeps_order, dd_keeps_door, dd_keeps_by, dd_does_keep, dd_need_all, dd_is_row, dd_does_break, dd_check_promise, dd_need_parts, dd_is_claim, dd_judged, dd__law_mixed, dd__law_begin, dd__law_draw, dd__law_of, dd__law_heard, dd__law_rule, dd__law_odds]
def fn1 : List He.DefD := [dd__law_hand_right, dd_law]
theorem rl_f (w : World) : LookEq Rw 8000 (runLook Rw (PySem.W.view Rw.prog [112]) nms (w.withFollow "special-get-raises" false)) (true, PySem.W.openGood (PySem.W.view Rw.prog [112]) nms) (w.withFollow "special-get-raises" false) := by
  intro os
  kernel_rfl
theorem rl_t (w : World) : LookEq Rw 8000 (runLook Rw (PySem.W.view Rw.prog [112]) nms (w.withFollow "special-get-raises" true)) (true, PySem.W.openGood (PySem.W.view Rw.prog [112]) nms) (w.withFollow "special-get-raises" true) := by
  intro os
  kernel_rfl
theorem rl (w : World) : LookEq Rw 8000 (runLook Rw (PySem.W.view Rw.prog [112]) nms w) (true, PySem.W.openGood (PySem.W.view Rw.prog [112]) nms) w :=
  PySem.W.byRow2 (P := fun w => LookEq Rw 8000 (runLook Rw (PySem.W.view Rw.prog [112]) nms w) (true, PySem.W.openGood (PySem.W.view Rw.prog [112]) nms) w) "special-get-raises" rl_f rl_t w
theorem rall_f (w : World) : LookEq Rw 8000 ob (hk.val (w.withFollow "special-get-raises" false)) (w.withFollow "special-get-raises" false) := by
  intro os
  kernel_rfl
theorem rall_t (w : World) : LookEq Rw 8000 ob (hk.val (w.withFollow "special-get-raises" true)) (w.withFollow "special-get-raises" true) := by
  intro os
  kernel_rfl
theorem rall (w : World) : LookEq Rw 8000 ob (hk.val w) w :=
  PySem.W.byRow2 (P := fun w => LookEq Rw 8000 ob (hk.val w) w) "special-get-raises" rall_f rall_t w
theorem run (w : World) : HandSHeadRun.RunEq Rw (PySem.W.view Rw.prog [112]) hk ob 8000 nms w := runEq_of (rl w) (EndsAt.of_look (rall w))
end L

namespace L
open PySem PySem.Spec PyProof.Rows L2 Dn
noncomputable section
abbrev N_is_integer : List Str := ["thing"]
def s_is_integer_0 : DS := (sRet (eAnd (eIsi .int (eVar 0)) (eNot (eIsi .bl (eVar 0)))))
def d_is_integer : DS := s_is_integer_0
def r_is_integer : Fw := pw (runD 1 d_is_integer)
abbrev N_is_between : List Str := ["thing", "least", "most"]
def s_is_between_0 : DS := (sRet (eAnd (eCall 1 r_is_integer (aCons (eVar 0) aNil)) (eChain leW leW (eVar 1) (eVar 0) (eVar 2))))
def d_is_between : DS := s_is_between_0
def r_is_between : Fw := pw (runD 3 d_is_between)
abbrev N_is_one_of : List Str := ["some", "thing"]
def s_is_one_of_0 : DS := (sRet (eAnd (eIsi .str (eVar 1)) (eBin (inM false) (eVar 1) (eVar 0))))
def d_is_one_of : DS := s_is_one_of_0
def r_is_one_of : Fw := pw (runD 2 d_is_one_of)
abbrev N_need_rule : List Str := ["thing", "number", "some"]
def s_need_rule_0 : DS := (sIf (dOr (dNot (dTest (eIsi .tup (eVar 0)))) (dTest (eBin neM (eFn lenW (aCons (eVar 0) aNil)) (eBin addW (eC (.int 2)) (eFn lenW (aCons (eC w_CHOICES) aNil)))))) (sRaise 3 ["place"] (aCons (eC .non) aNil)) sNil)
def s_need_rule_1 : DS := (sIf (dNot (dTest (eCall 3 r_is_between (aCons (eBin ixM (eVar 0) (eC (.int 0))) (aCons (eC (.int 1)) (aCons (eC w_MOST_NAMES) aNil)))))) (sRaise 3 ["place"] (aCons (eC (.int 0)) aNil)) sNil)
def s_need_rule_2 : DS := (sIf (dNot (dTest (eCall 3 r_is_between (aCons (eBin ixM (eVar 0) (eC (.int 1))) (aCons (eC (.int 0)) (aCons (eBin ixM (eVar 0) (eC (.int 0))) aNil)))))) (sRaise 3 ["place"] (aCons (eC (.int 1)) aNil)) sNil)
def b_need_rule_0 : DS := (sIf (dNot (dTest (eCall 2 r_is_one_of (aCons (eVar 2) (aCons (eBin ixM (eVar 0) (eBin addW (eC (.int 2)) (eVar 1))) aNil))))) (sRaise 3 ["place"] (aCons (eBin addW (eC (.int 2)) (eVar 1)) aNil)) sNil)
def s_need_rule_3 : DS := (sFor (iEnumW (eC w_CHOICES)) (gT (gsCons (gN 1) (gsCons (gN 2) gsNil))) b_need_rule_0)
def s_need_rule_4 : DS := (sRet (eVar 0))
def d_need_rule : DS := (sSeq s_need_rule_0 (sSeq s_need_rule_1 (sSeq s_need_rule_2 (sSeq s_need_rule_3 s_need_rule_4))))
def r_need_rule : Fw := pw (runD 3 d_need_rule)
abbrev N_nearest_ahead : List Str := ["rule", "line", "spot", "hows", "ahead", "person", "how", "names"]
def s_nearest_ahead_0 : DS := (sSet 3 (eIf (dTest (eBin eqM (eBin ixM (eVar 0) (eC (.int 2))) (eC w_LINE))) (eTup (aCons (eC w_HERE) (aCons (eC w_OUT) (aCons (eC w_AWAY) aNil)))) (eTup (aCons (eC w_HERE) aNil))))
def s_nearest_ahead_1 : DS := (sSet 4 (eFz (aComp (iSeq (eSl (eVar 1) oNone (oSome (eVar 2)))) (gT (gsCons (gN 5) (gsCons (gN 6) (gsCons (gN 7) gsNil)))) (dTest (eBin (inM false) (eVar 6) (eVar 3))) (eVar 5) [5, 6, 7])))
def s_nearest_ahead_2 : DS := (sRet (eFn tupleW (aCons (eSl (eRev (eVar 4)) oNone (oSome (eBin ixM (eVar 0) (eC (.int 0))))) aNil)))
def d_nearest_ahead : DS := (sSeq s_nearest_ahead_0 (sSeq s_nearest_ahead_1 s_nearest_ahead_2))
def r_nearest_ahead : Fw := pw (runD 8 d_nearest_ahead)
abbrev N_renewed : List Str := ["rule", "line", "spots", "found", "spot", "person", "how", "names", "does_take"]
def s_renewed_0 : DS := (sSet 3 (eLstM aNil))
def b_renewed_0 : DS := (sSeq (sSet 8 (eAnd (eBin (inM false) (eVar 4) (eVar 2)) (eBin eqM (eVar 6) (eC w_HERE))))
    (sExpr (eApp (eVar 3) (eTup (aCons (eVar 5) (aCons (eVar 6) (aCons (eIf (dTest (eVar 8)) (eCall 3 r_nearest_ahead (aCons (eVar 0) (aCons (eVar 1) (aCons (eVar 4) aNil)))) (eVar 7)) aNil)))))))
def s_renewed_1 : DS := (sFor (iEnumW (eVar 1)) (gT (gsCons (gN 4) (gsCons (gT (gsCons (gN 5) (gsCons (gN 6) (gsCons (gN 7) gsNil)))) gsNil))) b_renewed_0)
def s_renewed_2 : DS := (sRet (eFn tupleW (aCons (eVar 3) aNil)))
def d_renewed : DS := (sSeq s_renewed_0 (sSeq s_renewed_1 s_renewed_2))
def r_renewed : Fw := pw (runD 9 d_renewed)
abbrev N_spot_of : List Str := ["line", "person", "one", "how", "names"]
def s_spot_of_0 : DS := (sRet (eIdx (eFz (aComp (iSeq (eVar 0)) (gT (gsCons (gN 2) (gsCons (gN 3) (gsCons (gN 4) gsNil)))) dYes (eVar 2) [2, 3, 4])) (eVar 1)))
def d_spot_of : DS := s_spot_of_0
def r_spot_of : Fw := pw (runD 5 d_spot_of)
abbrev N_as_how : List Str := ["line", "spot", "how", "person", "was", "names"]
def s_as_how_0 : DS := (sAsg (eBin ixM (eVar 0) (eVar 1)) (gT (gsCons (gN 3) (gsCons (gN 4) (gsCons (gN 5) gsNil)))))
def s_as_how_1 : DS := (sRet (eTup (aStar (eSl (eVar 0) oNone (oSome (eVar 1))) (aCons (eTup (aCons (eVar 3) (aCons (eVar 2) (aCons (eIf (dTest (eBin eqM (eVar 2) (eC w_AWAY))) (eTup aNil) (eVar 5)) aNil)))) (aStar (eSl (eVar 0) (oSome (eBin addW (eVar 1) (eC (.int 1)))) oNone) aNil)))))
def d_as_how : DS := (sSeq s_as_how_0 s_as_how_1)
def r_as_how : Fw := pw (runD 6 d_as_how)
abbrev N_without : List Str := ["rule", "line", "person", "found", "spots", "one", "how", "names", "left", "name"]
def s_without_0 : DS := (sPar 3 4 (aCons (eLstM aNil) (aCons (eLstM aNil) aNil)))
def b_without_0 : DS := (sSeq (sIf (dTest (eBin eqM (eVar 5) (eVar 2))) sCont sNil)
    (sSeq (sSet 8 (eVar 7))
    (sSeq (sIf (dAnd (dTest (eBin eqM (eVar 6) (eC w_HERE))) (dTest (eBin (inM false) (eVar 2) (eVar 7)))) (sSeq (sExpr (eApp (eVar 4) (eFn lenW (aCons (eVar 3) aNil))))
    (sSet 8 (eFn tupleW (aCons (eFz (aComp (iSeq (eVar 7)) (gN 9) (dTest (eBin neM (eVar 9) (eVar 2))) (eVar 9) [9])) aNil)))) sNil)
    (sExpr (eApp (eVar 3) (eTup (aCons (eVar 5) (aCons (eVar 6) (aCons (eVar 8) aNil)))))))))
def s_without_1 : DS := (sFor (iSeq (eVar 1)) (gT (gsCons (gN 5) (gsCons (gN 6) (gsCons (gN 7) gsNil)))) b_without_0)
def s_without_2 : DS := (sRet (eCall 3 r_renewed (aCons (eVar 0) (aCons (eFn tupleW (aCons (eVar 3) aNil)) (aCons (eIf (dTest (eBin eqM (eBin ixM (eVar 0) (eC (.int 3))) (eC w_ON))) (eFrz 4) (eLst aNil)) aNil)))))
def d_without : DS := (sSeq s_without_0 (sSeq s_without_1 s_without_2))
def r_without : Fw := pw (runD 10 d_without)
abbrev N_forgetting : List Str := ["line", "person", "how", "names"]
def s_forgetting_0 : DS := (sIf (dTest (eFn anyW (aCons (eFz (aComp (iSeq (eVar 0)) (gT (gsCons (gN 1) (gsCons (gN 2) (gsCons (gN 3) gsNil)))) dYes (eBin eqM (eVar 2) (eC w_HERE)) [1, 2, 3])) aNil))) (sRet (eVar 0)) sNil)
def s_forgetting_1 : DS := (sRet (eFn tupleW (aCons (eFz (aComp (iSeq (eVar 0)) (gT (gsCons (gN 1) (gsCons (gN 2) (gsCons (gN 3) gsNil)))) (dTest (eBin neM (eVar 2) (eC w_AWAY))) (eTup (aCons (eVar 1) (aCons (eC w_LOST) (aCons (eVar 3) aNil)))) [1, 2, 3])) aNil)))
def d_forgetting : DS := (sSeq s_forgetting_0 s_forgetting_1)
def r_forgetting : Fw := pw (runD 4 d_forgetting)
abbrev N_asked_again : List Str := ["rule", "line", "spot", "person", "how", "names"]
def s_asked_again_0 : DS := (sIf (dTest (eBin neM (eBin ixM (eVar 0) (eC (.int 6))) (eC w_ASKS))) (sRet (eVar 1)) sNil)
def s_asked_again_1 : DS := (sRet (eCall 3 r_renewed (aCons (eVar 0) (aCons (eVar 1) (aCons (eFz (aComp (iEnumW (eVar 1)) (gT (gsCons (gN 2) (gsCons (gT (gsCons (gN 3) (gsCons (gN 4) (gsCons (gN 5) gsNil)))) gsNil))) (dTest (eBin eqM (eVar 5) (eTup aNil))) (eVar 2) [2, 3, 4, 5])) aNil)))))
def d_asked_again : DS := (sSeq s_asked_again_0 s_asked_again_1)
def r_asked_again : Fw := pw (runD 6 d_asked_again)
abbrev N_claiming : List Str := ["rule", "line", "here", "found", "person", "how", "names", "name"]
def s_claiming_0 : DS := (sSet 2 (eFz (aComp (iSeq (eVar 1)) (gT (gsCons (gN 4) (gsCons (gN 5) (gsCons (gN 6) gsNil)))) (dTest (eBin eqM (eVar 5) (eC w_HERE))) (eVar 4) [4, 5, 6])))
def s_claiming_1 : DS := (sSet 3 (eLstM aNil))
def b_claiming_0 : DS := (sIf (dAnd (dTest (eBin eqM (eVar 5) (eC w_HERE))) (dAnd (dTest (eBin leW (eFn lenW (aCons (eVar 6) aNil)) (eBin ixM (eVar 0) (eC (.int 1))))) (dNot (dTest (eFn anyW (aCons (eFz (aComp (iSeq (eVar 6)) (gN 7) dYes (eBin (inM false) (eVar 7) (eVar 2)) [7])) aNil)))))) (sExpr (eApp (eVar 3) (eVar 4))) sNil)
def s_claiming_2 : DS := (sFor (iSeq (eVar 1)) (gT (gsCons (gN 4) (gsCons (gN 5) (gsCons (gN 6) gsNil)))) b_claiming_0)
def s_claiming_3 : DS := (sRet (eVar 3))
def d_claiming : DS := (sSeq s_claiming_0 (sSeq s_claiming_1 (sSeq s_claiming_2 s_claiming_3)))
def r_claiming : Fw := pw (runD 8 d_claiming)
abbrev N_has_form : List Str := ["thing"]
def s_has_form_0 : DS := (sIf (dOr (dNot (dTest (eIsi .tup (eVar 0)))) (dOr (dTest (eBin eqM (eVar 0) (eTup aNil))) (dNot (dTest (eIsi .str (eBin ixM (eVar 0) (eC (.int 0)))))))) (sRet (eC (.bl false))) sNil)
def s_has_form_1 : DS := (sIf (dTest (eBin (inM false) (eBin ixM (eVar 0) (eC (.int 0))) (eTup (aCons (eC w_COME) (aCons (eC w_DOOR) aNil))))) (sRet (eBin eqM (eFn lenW (aCons (eVar 0) aNil)) (eC (.int 1)))) sNil)
def s_has_form_2 : DS := (sRet (eAnd (eBin eqM (eFn lenW (aCons (eVar 0) aNil)) (eC (.int 2))) (eAnd (eBin (inM false) (eBin ixM (eVar 0) (eC (.int 0))) (eC w_PERSONAL)) (eCall 1 r_is_integer (aCons (eBin ixM (eVar 0) (eC (.int 1))) aNil)))))
def d_has_form : DS := (sSeq s_has_form_0 (sSeq s_has_form_1 s_has_form_2))
def r_has_form : Fw := pw (runD 1 d_has_form)
abbrev N_Room___init__ : List Str := ["self", "rule"]
def s_Room___init___0 : DS := (sPut 0 "own_rule" (eVar 0) (eVar 1))
def s_Room___init___1 : DS := (sPut 0 "line_now" (eVar 0) (eTup aNil))
def s_Room___init___2 : DS := (sPut 0 "came_so_far" (eVar 0) (eC (.int 0)))
def s_Room___init___3 : DS := (sPut 0 "served_so_far" (eVar 0) (eLstM aNil))
def d_Room___init__ : DS := (sSeq s_Room___init___0 (sSeq s_Room___init___1 (sSeq s_Room___init___2 s_Room___init___3)))
def r_Room___init__ : Fw := runD 2 d_Room___init__
abbrev N_Room_put_in : List Str := ["self", "spot", "fresh"]
def s_Room_put_in_0 : DS := (sSet 2 (eTup (aCons (eFld 0 "came_so_far" (eVar 0)) (aCons (eC w_HERE) (aCons (eTup aNil) aNil)))))
def s_Room_put_in_1 : DS := (sPut 0 "line_now" (eVar 0) (eCall 3 r_renewed (aCons (eFld 0 "own_rule" (eVar 0)) (aCons (eTup (aStar (eSl (eFld 0 "line_now" (eVar 0)) oNone (oSome (eVar 1))) (aCons (eVar 2) (aStar (eSl (eFld 0 "line_now" (eVar 0)) (oSome (eVar 1)) oNone) aNil)))) (aCons (eLst (aCons (eVar 1) aNil)) aNil)))))
def s_Room_put_in_2 : DS := (sPutA 0 "came_so_far" addI (eVar 0) (eC (.int 1)))
def d_Room_put_in : DS := (sSeq s_Room_put_in_0 (sSeq s_Room_put_in_1 s_Room_put_in_2))
def r_Room_put_in : Fw := runD 3 d_Room_put_in
abbrev N_Room_open_door : List Str := ["self", "some"]
def s_Room_open_door_0 : DS := (sPut 0 "line_now" (eVar 0) (eCall 2 r_asked_again (aCons (eFld 0 "own_rule" (eVar 0)) (aCons (eFld 0 "line_now" (eVar 0)) aNil))))
def s_Room_open_door_1 : DS := (sSet 1 (eCall 2 r_claiming (aCons (eFld 0 "own_rule" (eVar 0)) (aCons (eFld 0 "line_now" (eVar 0)) aNil))))
def s_Room_open_door_2 : DS := (sIf (dTest (eBin eqM (eFn lenW (aCons (eVar 1) aNil)) (eC (.int 1)))) (sSeq (sExpr (eApp (eFld 0 "served_so_far" (eVar 0)) (eBin ixM (eVar 1) (eC (.int 0)))))
    (sPut 0 "line_now" (eVar 0) (eCall 3 r_without (aCons (eFld 0 "own_rule" (eVar 0)) (aCons (eFld 0 "line_now" (eVar 0)) (aCons (eBin ixM (eVar 1) (eC (.int 0))) aNil)))))) sNil)
def d_Room_open_door : DS := (sSeq s_Room_open_door_0 (sSeq s_Room_open_door_1 s_Room_open_door_2))
def r_Room_open_door : Fw := runD 2 d_Room_open_door
abbrev N_Room_renew_from : List Str := ["self", "spot"]
def s_Room_renew_from_0 : DS := (sPut 0 "line_now" (eVar 0) (eCall 3 r_renewed (aCons (eFld 0 "own_rule" (eVar 0)) (aCons (eFld 0 "line_now" (eVar 0)) (aCons (eFz (aRg2 (eVar 1) (eFn lenW (aCons (eFld 0 "line_now" (eVar 0)) aNil)))) aNil)))))
def d_Room_renew_from : DS := s_Room_renew_from_0
def r_Room_renew_from : Fw := runD 2 d_Room_renew_from
abbrev N_Room_bring_back : List Str := ["self", "spot", "how"]
def s_Room_bring_back_0 : DS := (sSet 2 (eBin ixM (eBin ixM (eFld 0 "line_now" (eVar 0)) (eVar 1)) (eC (.int 1))))
def s_Room_bring_back_1 : DS := (sIf (dAnd (dTest (eBin eqM (eBin ixM (eFld 0 "own_rule" (eVar 0)) (eC (.int 4))) (eC w_ASKS))) (dTest (eBin eqM (eVar 2) (eC w_LOST)))) (sSeq (sPut 0 "line_now" (eVar 0) (eTup (aStar (eSl (eFld 0 "line_now" (eVar 0)) oNone (oSome (eVar 1))) (aStar (eSl (eFld 0 "line_now" (eVar 0)) (oSome (eBin addW (eVar 1) (eC (.int 1)))) oNone) aNil))))
    (sSeq (sExpr (eMeth 0 "put_in" 2 r_Room_put_in (eVar 0) (aCons (eFn lenW (aCons (eFld 0 "line_now" (eVar 0)) aNil)) aNil)))
    sRetN)) sNil)
def s_Room_bring_back_2 : DS := (sPut 0 "line_now" (eVar 0) (eCall 3 r_as_how (aCons (eFld 0 "line_now" (eVar 0)) (aCons (eVar 1) (aCons (eC w_HERE) aNil)))))
def s_Room_bring_back_3 : DS := (sIf (dTest (eBin eqM (eBin ixM (eFld 0 "own_rule" (eVar 0)) (eC (.int 4))) (eC w_TELLS))) (sExpr (eMeth 0 "renew_from" 2 r_Room_renew_from (eVar 0) (aCons (eVar 1) aNil))) (sIf (dTest (eBin neM (eBin ixM (eFld 0 "own_rule" (eVar 0)) (eC (.int 4))) (eC w_OLD))) (sPut 0 "line_now" (eVar 0) (eCall 3 r_renewed (aCons (eFld 0 "own_rule" (eVar 0)) (aCons (eFld 0 "line_now" (eVar 0)) (aCons (eLst (aCons (eVar 1) aNil)) aNil))))) sNil))
def d_Room_bring_back : DS := (sSeq s_Room_bring_back_0 (sSeq s_Room_bring_back_1 (sSeq s_Room_bring_back_2 s_Room_bring_back_3)))
def r_Room_bring_back : Fw := runD 3 d_Room_bring_back
abbrev N_Room_do_personal : List Str := ["self", "word", "person", "spot"]
def s_Room_do_personal_0 : DS := (sSet 3 (eCall 2 r_spot_of (aCons (eFld 0 "line_now" (eVar 0)) (aCons (eVar 2) aNil))))
def s_Room_do_personal_1 : DS := (sIf (dTest (eBin eqM (eVar 1) (eC w_LET))) (sSeq (sExpr (eMeth 0 "put_in" 2 r_Room_put_in (eVar 0) (aCons (eBin addW (eVar 3) (eC (.int 1))) aNil)))
    (sIf (dTest (eBin eqM (eBin ixM (eFld 0 "own_rule" (eVar 0)) (eC (.int 5))) (eC w_TOLD))) (sExpr (eMeth 0 "renew_from" 2 r_Room_renew_from (eVar 0) (aCons (eBin addW (eVar 3) (eC (.int 2))) aNil))) sNil)) (sIf (dTest (eBin eqM (eVar 1) (eC w_LEAVE))) (sPut 0 "line_now" (eVar 0) (eCall 3 r_without (aCons (eFld 0 "own_rule" (eVar 0)) (aCons (eFld 0 "line_now" (eVar 0)) (aCons (eVar 2) aNil))))) (sIf (dTest (eBin eqM (eVar 1) (eC w_BACK))) (sExpr (eMeth 0 "bring_back" 2 r_Room_bring_back (eVar 0) (aCons (eVar 3) aNil))) (sPut 0 "line_now" (eVar 0) (eCall 3 r_as_how (aCons (eFld 0 "line_now" (eVar 0)) (aCons (eVar 3) (aCons (eIf (dTest (eBin eqM (eVar 1) (eC w_OUT))) (eC w_OUT) (eC w_AWAY)) aNil))))))))
def d_Room_do_personal : DS := (sSeq s_Room_do_personal_0 s_Room_do_personal_1)
def r_Room_do_personal : Fw := runD 4 d_Room_do_personal
abbrev N_Room_do : List Str := ["self", "event"]
def s_Room_do_0 : DS := (sIf (dTest (eBin eqM (eBin ixM (eVar 1) (eC (.int 0))) (eC w_COME))) (sExpr (eMeth 0 "put_in" 2 r_Room_put_in (eVar 0) (aCons (eFn lenW (aCons (eFld 0 "line_now" (eVar 0)) aNil)) aNil))) (sIf (dTest (eBin eqM (eBin ixM (eVar 1) (eC (.int 0))) (eC w_DOOR))) (sExpr (eMeth 0 "open_door" 1 r_Room_open_door (eVar 0) aNil)) (sExpr (eMeth 0 "do_personal" 3 r_Room_do_personal (eVar 0) (aCons (eBin ixM (eVar 1) (eC (.int 0))) (aCons (eBin ixM (eVar 1) (eC (.int 1))) aNil))))))
def s_Room_do_1 : DS := (sPut 0 "line_now" (eVar 0) (eCall 1 r_forgetting (aCons (eFld 0 "line_now" (eVar 0)) aNil)))
def d_Room_do : DS := (sSeq s_Room_do_0 s_Room_do_1)
def r_Room_do : Fw := runD 2 d_Room_do
abbrev N_Room_how_is : List Str := ["self", "person", "found", "one", "how", "names"]
def s_Room_how_is_0 : DS := (sSet 2 (eFz (aComp (iSeq (eFld 0 "line_now" (eVar 0))) (gT (gsCons (gN 3) (gsCons (gN 4) (gsCons (gN 5) gsNil)))) (dTest (eBin eqM (eVar 3) (eVar 1))) (eVar 4) [3, 4, 5])))
def s_Room_how_is_1 : DS := (sRet (eIf (dTest (eBin neM (eVar 2) (eLst aNil))) (eBin ixM (eVar 2) (eC (.int 0))) (eC .non)))
def d_Room_how_is : DS := (sSeq s_Room_how_is_0 s_Room_how_is_1)
def r_Room_how_is : Fw := runD 6 d_Room_how_is
abbrev N_Room_are_here : List Str := ["self", "person", "how", "names"]
def s_Room_are_here_0 : DS := (sRet (eFz (aComp (iSeq (eFld 0 "line_now" (eVar 0))) (gT (gsCons (gN 1) (gsCons (gN 2) (gsCons (gN 3) gsNil)))) (dTest (eBin eqM (eVar 2) (eC w_HERE))) (eVar 1) [1, 2, 3])))
def d_Room_are_here : DS := s_Room_are_here_0
def r_Room_are_here : Fw := runD 4 d_Room_are_here
abbrev N_Room_can_be : List Str := ["self", "event", "word", "how", "is_new"]
def s_Room_can_be_0 : DS := (sSet 2 (eBin ixM (eVar 1) (eC (.int 0))))
def s_Room_can_be_1 : DS := (sIf (dTest (eBin eqM (eVar 2) (eC w_COME))) (sRet (eBin ltW (eFld 0 "came_so_far" (eVar 0)) (eC w_MOST_PEOPLE))) sNil)
def s_Room_can_be_2 : DS := (sIf (dTest (eBin eqM (eVar 2) (eC w_DOOR))) (sRet (eBin neM (eMeth 0 "are_here" 1 r_Room_are_here (eVar 0) aNil) (eLst aNil))) sNil)
def s_Room_can_be_3 : DS := (sSet 3 (eMeth 0 "how_is" 2 r_Room_how_is (eVar 0) (aCons (eBin ixM (eVar 1) (eC (.int 1))) aNil)))
def s_Room_can_be_4 : DS := (sIf (dTest (eBin eqM (eVar 2) (eC w_BACK))) (sSeq (sSet 4 (eAnd (eBin eqM (eVar 3) (eC w_LOST)) (eBin eqM (eBin ixM (eFld 0 "own_rule" (eVar 0)) (eC (.int 4))) (eC w_ASKS))))
    (sRet (eAnd (eBin (inM false) (eVar 3) (eTup (aCons (eC w_OUT) (aCons (eC w_LOST) aNil)))) (eOr (eNot (eVar 4)) (eBin ltW (eFld 0 "came_so_far" (eVar 0)) (eC w_MOST_PEOPLE)))))) sNil)
def s_Room_can_be_5 : DS := (sRet (eAnd (eBin eqM (eVar 3) (eC w_HERE)) (eOr (eBin neM (eVar 2) (eC w_LET)) (eBin ltW (eFld 0 "came_so_far" (eVar 0)) (eC w_MOST_PEOPLE)))))
def d_Room_can_be : DS := (sSeq s_Room_can_be_0 (sSeq s_Room_can_be_1 (sSeq s_Room_can_be_2 (sSeq s_Room_can_be_3 (sSeq s_Room_can_be_4 s_Room_can_be_5)))))
def r_Room_can_be : Fw := runD 5 d_Room_can_be
abbrev N_room_behind : List Str := ["rule", "events", "room", "number", "event"]
def s_room_behind_0 : DS := (sIf (dOr (dNot (dTest (eIsi .tup (eVar 1)))) (dTest (eBin gtW (eFn lenW (aCons (eVar 1) aNil)) (eC w_MOST_EVENTS)))) (sRaise 4 ["number"] (aCons (eC .non) aNil)) sNil)
def s_room_behind_1 : DS := (sSet 2 (eMake 0 2 r_Room___init__ (aCons (eVar 0) aNil)))
def b_room_behind_0 : DS := (sSeq (sIf (dOr (dNot (dTest (eCall 1 r_has_form (aCons (eVar 4) aNil)))) (dNot (dTest (eMeth 0 "can_be" 2 r_Room_can_be (eVar 2) (aCons (eVar 4) aNil))))) (sRaise 4 ["number"] (aCons (eVar 3) aNil)) sNil)
    (sExpr (eMeth 0 "do" 2 r_Room_do (eVar 2) (aCons (eVar 4) aNil))))
def s_room_behind_2 : DS := (sFor (iEnumW (eVar 1)) (gT (gsCons (gN 3) (gsCons (gN 4) gsNil))) b_room_behind_0)
def s_room_behind_3 : DS := (sRet (eVar 2))
def d_room_behind : DS := (sSeq s_room_behind_0 (sSeq s_room_behind_1 (sSeq s_room_behind_2 s_room_behind_3)))
def r_room_behind : Fw := runD 5 d_room_behind
abbrev N_absent_in : List Str := ["line", "person", "how", "names"]
def s_absent_in_0 : DS := (sRet (eFn lenW (aCons (eFz (aComp (iSeq (eVar 0)) (gT (gsCons (gN 1) (gsCons (gN 2) (gsCons (gN 3) gsNil)))) (dTest (eBin neM (eVar 2) (eC w_HERE))) (eVar 2) [1, 2, 3])) aNil)))
def d_absent_in : DS := s_absent_in_0
def r_absent_in : Fw := pw (runD 4 d_absent_in)
abbrev N_normal_of : List Str := ["rule", "most", "few", "ask", "fill", "back", "let", "lost"]
def s_normal_of_0 : DS := (sAsg (eVar 0) (gT (gsCons (gN 1) (gsCons (gN 2) (gsCons (gN 3) (gsCons (gN 4) (gsCons (gN 5) (gsCons (gN 6) (gsCons (gN 7) gsNil)))))))))
def s_normal_of_1 : DS := (sIf (dAnd (dTest (eBin eqM (eVar 4) (eC w_ON))) (dOr (dTest (eBin eqM (eVar 5) (eC w_TELLS))) (dAnd (dTest (eBin eqM (eVar 5) (eC w_ASKS))) (dTest (eBin eqM (eVar 3) (eC w_LINE)))))) (sRet (eTup (aStar (eSl (eVar 0) oNone (oSome (eC w_SPOT_LOST))) (aCons (eBin ixM (eBin ixM (eC w_CHOICES) (eNeg (eC (.int 1)))) (eC (.int 0))) aNil)))) sNil)
def s_normal_of_2 : DS := (sRet (eVar 0))
def d_normal_of : DS := (sSeq s_normal_of_0 (sSeq s_normal_of_1 s_normal_of_2))
def r_normal_of : Fw := pw (runD 8 d_normal_of)
abbrev N_normal_rule : List Str := ["rule"]
def s_normal_rule_0 : DS := (sRet (eCall 1 r_normal_of (aCons (eCall 1 r_need_rule (aCons (eVar 0) aNil)) aNil)))
def d_normal_rule : DS := s_normal_rule_0
def r_normal_rule : Fw := pw (runD 1 d_normal_rule)
abbrev N_are_alike : List Str := ["one", "other"]
def s_are_alike_0 : DS := (sRet (eBin eqM (eCall 1 r_normal_rule (aCons (eVar 0) aNil)) (eCall 1 r_normal_rule (aCons (eVar 1) aNil))))
def d_are_alike : DS := s_are_alike_0
def r_are_alike : Fw := pw (runD 2 d_are_alike)
abbrev N_Beside___init__ : List Str := ["self", "one", "other"]
def s_Beside___init___0 : DS := (sPut 1 "one_room" (eVar 0) (eMake 0 2 r_Room___init__ (aCons (eVar 1) aNil)))
def s_Beside___init___1 : DS := (sPut 1 "other_room" (eVar 0) (eMake 0 2 r_Room___init__ (aCons (eVar 2) aNil)))
def d_Beside___init__ : DS := (sSeq s_Beside___init___0 s_Beside___init___1)
def r_Beside___init__ : Fw := runD 3 d_Beside___init__
abbrev N_Beside_can_both : List Str := ["self", "event"]
def s_Beside_can_both_0 : DS := (sRet (eLst (aCons (eMeth 0 "can_be" 2 r_Room_can_be (eFld 1 "one_room" (eVar 0)) (aCons (eVar 1) aNil)) (aCons (eMeth 0 "can_be" 2 r_Room_can_be (eFld 1 "other_room" (eVar 0)) (aCons (eVar 1) aNil)) aNil))))
def d_Beside_can_both : DS := s_Beside_can_both_0
def r_Beside_can_both : Fw := runD 2 d_Beside_can_both
abbrev N_Beside_parts_by : List Str := ["self", "event", "can"]
def s_Beside_parts_by_0 : DS := (sSet 2 (eMeth 1 "can_both" 2 r_Beside_can_both (eVar 0) (aCons (eVar 1) aNil)))
def s_Beside_parts_by_1 : DS := (sIf (dTest (eBin neM (eVar 2) (eLst (aCons (eC (.bl true)) (aCons (eC (.bl true)) aNil))))) (sRet (eC (.bl true))) sNil)
def s_Beside_parts_by_2 : DS := (sExpr (eMeth 0 "do" 2 r_Room_do (eFld 1 "one_room" (eVar 0)) (aCons (eVar 1) aNil)))
def s_Beside_parts_by_3 : DS := (sExpr (eMeth 0 "do" 2 r_Room_do (eFld 1 "other_room" (eVar 0)) (aCons (eVar 1) aNil)))
def s_Beside_parts_by_4 : DS := (sRet (eBin neM (eFld 0 "line_now" (eFld 1 "one_room" (eVar 0))) (eFld 0 "line_now" (eFld 1 "other_room" (eVar 0)))))
def d_Beside_parts_by : DS := (sSeq s_Beside_parts_by_0 (sSeq s_Beside_parts_by_1 (sSeq s_Beside_parts_by_2 (sSeq s_Beside_parts_by_3 s_Beside_parts_by_4))))
def r_Beside_parts_by : Fw := runD 3 d_Beside_parts_by
abbrev N_parting_in : List Str := ["one", "other", "row", "beside", "number", "event"]
def s_parting_in_0 : DS := (sSet 3 (eMake 1 3 r_Beside___init__ (aCons (eVar 0) (aCons (eVar 1) aNil))))
def b_parting_in_0 : DS := (sSeq (sIf (dTest (eBin (inM true) (eC (.bl true)) (eMeth 1 "can_both" 2 r_Beside_can_both (eVar 3) (aCons (eVar 5) aNil)))) (sRet (eC .non)) sNil)
    (sIf (dTest (eMeth 1 "parts_by" 2 r_Beside_parts_by (eVar 3) (aCons (eVar 5) aNil))) (sRet (eSl (eVar 2) oNone (oSome (eBin addW (eVar 4) (eC (.int 1)))))) sNil))
def s_parting_in_1 : DS := (sFor (iEnumW (eVar 2)) (gT (gsCons (gN 4) (gsCons (gN 5) gsNil))) b_parting_in_0)
def s_parting_in_2 : DS := (sRet (eC .non))
def d_parting_in : DS := (sSeq s_parting_in_0 (sSeq s_parting_in_1 s_parting_in_2))
def r_parting_in : Fw := pw (runD 6 d_parting_in)
abbrev N_is_paper : List Str := ["paper", "event"]
def s_is_paper_0 : DS := (sIf (dOr (dNot (dTest (eIsi .tup (eVar 0)))) (dOr (dTest (eBin eqT0 (eVar 0) (eTup aNil))) (dNot (dTest (eIsi .str (eBin ixM (eVar 0) (eC (.int 0)))))))) (sRet (eC (.bl false))) sNil)
def s_is_paper_1 : DS := (sIf (dTest (eBin eqM (eBin ixM (eVar 0) (eC (.int 0))) (eC w_SAME))) (sRet (eBin eqM (eFn lenW (aCons (eVar 0) aNil)) (eC (.int 1)))) sNil)
def s_is_paper_2 : DS := (sIf (dOr (dTest (eBin neM (eBin ixM (eVar 0) (eC (.int 0))) (eC w_PARTED))) (dOr (dTest (eBin neM (eFn lenW (aCons (eVar 0) aNil)) (eC (.int 2)))) (dNot (dTest (eIsi .tup (eBin ixM (eVar 0) (eC (.int 1)))))))) (sRet (eC (.bl false))) sNil)
def s_is_paper_3 : DS := (sRet (eAnd (eBin leW (eFn lenW (aCons (eBin ixM (eVar 0) (eC (.int 1))) aNil)) (eC w_MOST_EVENTS)) (eFn allW (aCons (eFz (aComp (iSeq (eBin ixM (eVar 0) (eC (.int 1)))) (gN 1) dYes (eCall 1 r_has_form (aCons (eVar 1) aNil)) [1])) aNil))))
def d_is_paper : DS := (sSeq s_is_paper_0 (sSeq s_is_paper_1 (sSeq s_is_paper_2 s_is_paper_3)))
def r_is_paper : Fw := pw (runD 2 d_is_paper)
abbrev N_check_alike : List Str := ["one", "other", "paper", "is_so"]
def s_check_alike_0 : DS := (sSet 3 (eCall 2 r_are_alike (aCons (eVar 0) (aCons (eVar 1) aNil))))
def s_check_alike_1 : DS := (sIf (dNot (dTest (eCall 1 r_is_paper (aCons (eVar 2) aNil)))) (sRaise 5 ["part"] (aCons (eC w_FORM) aNil)) sNil)
def s_check_alike_2 : DS := (sIf (dTest (eBin eqM (eBin ixM (eVar 2) (eC (.int 0))) (eC w_SAME))) (sSeq (sIf (dNot (dTest (eVar 3))) (sRaise 5 ["part"] (aCons (eC w_SAME) aNil)) sNil)
    (sRet (eC w_SAME))) sNil)
def s_check_alike_3 : DS := (sIf (dOr (dTest (eBin eqT0 (eBin ixM (eVar 2) (eC (.int 1))) (eTup aNil))) (dTest (eBin neM (eCall 3 r_parting_in (aCons (eVar 0) (aCons (eVar 1) (aCons (eBin ixM (eVar 2) (eC (.int 1))) aNil)))) (eBin ixM (eVar 2) (eC (.int 1)))))) (sRaise 5 ["part"] (aCons (eC w_PARTED) aNil)) sNil)
def s_check_alike_4 : DS := (sRet (eC w_PARTED))
def d_check_alike : DS := (sSeq s_check_alike_0 (sSeq s_check_alike_1 (sSeq s_check_alike_2 (sSeq s_check_alike_3 s_check_alike_4))))
def r_check_alike : Fw := pw (runD 4 d_check_alike)
abbrev N_claims_in : List Str := ["room"]
def s_claims_in_0 : DS := (sRet (eCall 2 r_claiming (aCons (eFld 0 "own_rule" (eVar 0)) (aCons (eCall 2 r_asked_again (aCons (eFld 0 "own_rule" (eVar 0)) (aCons (eFld 0 "line_now" (eVar 0)) aNil))) aNil))))
def d_claims_in : DS := s_claims_in_0
def r_claims_in : Fw := runD 1 d_claims_in
abbrev N_door_faults : List Str := ["room", "here", "some", "found", "person"]
def s_door_faults_0 : DS := (sAsg (eTup (aCons (eMeth 0 "are_here" 1 r_Room_are_here (eVar 0) aNil) (aCons (eCall 1 r_claims_in (aCons (eVar 0) aNil)) aNil))) (gT (gsCons (gN 1) (gsCons (gN 2) gsNil))))
def s_door_faults_1 : DS := (sSet 3 (eFz (aComp (iSeq (eVar 2)) (gN 4) (dTest (eBin neM (eVar 4) (eBin ixM (eVar 1) (eC (.int 0))))) (eTup (aCons (eC w_ORDER) (aCons (eVar 4) aNil))) [4])))
def s_door_faults_2 : DS := (sRet (eIf (dTest (eBin (inM false) (eBin ixM (eVar 1) (eC (.int 0))) (eVar 2))) (eVar 3) (eBin addW (eVar 3) (eLst (aCons (eTup (aCons (eC w_DOOR) (aCons (eBin ixM (eVar 1) (eC (.int 0))) aNil))) aNil)))))
def d_door_faults : DS := (sSeq s_door_faults_0 (sSeq s_door_faults_1 s_door_faults_2))
def r_door_faults : Fw := runD 5 d_door_faults
abbrev N_faults_now : List Str := ["room", "event"]
def s_faults_now_0 : DS := (sIf (dTest (eBin eqM (eBin ixM (eVar 1) (eC (.int 0))) (eC w_DOOR))) (sRet (eCall 1 r_door_faults (aCons (eVar 0) aNil))) sNil)
def s_faults_now_1 : DS := (sIf (dOr (dTest (eBin neM (eBin ixM (eVar 1) (eC (.int 0))) (eC w_BACK))) (dOr (dTest (eBin neM (eBin ixM (eFld 0 "own_rule" (eVar 0)) (eC (.int 4))) (eC w_ASKS))) (dTest (eBin neM (eMeth 0 "how_is" 2 r_Room_how_is (eVar 0) (aCons (eBin ixM (eVar 1) (eC (.int 1))) aNil)) (eC w_LOST))))) (sRet (eLst aNil)) sNil)
def s_faults_now_2 : DS := (sRet (eIf (dTest (eBin neM (eBin ixM (eBin ixM (eFld 0 "line_now" (eVar 0)) (eNeg (eC (.int 1)))) (eC (.int 0))) (eBin ixM (eVar 1) (eC (.int 1))))) (eLst (aCons (eTup (aCons (eC w_PLACE) (aCons (eBin ixM (eVar 1) (eC (.int 1))) aNil))) aNil)) (eLst aNil)))
def d_faults_now : DS := (sSeq s_faults_now_0 (sSeq s_faults_now_1 s_faults_now_2))
def r_faults_now : Fw := runD 2 d_faults_now
abbrev N_need_promise : List Str := ["thing"]
def s_need_promise_0 : DS := (sIf (dOr (dNot (dTest (eIsi .str (eVar 0)))) (dTest (eBin (inM true) (eVar 0) (eC w_PROMISES)))) (sRaise 6 ["given"] (aCons (eVar 0) aNil)) sNil)
def s_need_promise_1 : DS := (sRet (eVar 0))
def d_need_promise : DS := (sSeq s_need_promise_0 s_need_promise_1)
def r_need_promise : Fw := pw (runD 1 d_need_promise)
abbrev N_need_may : List Str := ["thing", "one"]
def s_need_may_0 : DS := (sIf (dOr (dNot (dTest (eIsi .tup (eVar 0)))) (dOr (dNot (dTest (eFn allW (aCons (eFz (aComp (iSeq (eVar 0)) (gN 1) dYes (eIsi .str (eVar 1)) [1])) aNil)))) (dTest (eBin (inM true) (eVar 0) (eC w_MAYS))))) (sRaise 7 ["given"] (aCons (eVar 0) aNil)) sNil)
def s_need_may_1 : DS := (sRet (eVar 0))
def d_need_may : DS := (sSeq s_need_may_0 s_need_may_1)
def r_need_may : Fw := pw (runD 2 d_need_may)
abbrev N_need_absent : List Str := ["thing"]
def s_need_absent_0 : DS := (sIf (dAnd (dTest (eBin notNonW (eVar 0) (eC .non))) (dNot (dTest (eCall 3 r_is_between (aCons (eVar 0) (aCons (eC (.int 0)) (aCons (eC w_MOST_ABSENT) aNil))))))) (sRaise 8 ["given"] (aCons (eVar 0) aNil)) sNil)
def s_need_absent_1 : DS := (sRet (eVar 0))
def d_need_absent : DS := (sSeq s_need_absent_0 s_need_absent_1)
def r_need_absent : Fw := pw (runD 1 d_need_absent)
abbrev N_is_at_most : List Str := ["absent", "number"]
def s_is_at_most_0 : DS := (sRet (eAnd (eBin notNonW (eVar 0) (eC .non)) (eBin leW (eVar 0) (eVar 1))))
def d_is_at_most : DS := s_is_at_most_0
def r_is_at_most : Fw := pw (runD 2 d_is_at_most)
abbrev N_do_renew : List Str := ["rule", "may"]
def s_do_renew_0 : DS := (sRet (eOr (eBin (inM true) (eC w_MAY_OUT) (eVar 1)) (eOr (eBin eqM (eBin ixM (eVar 0) (eC (.int 4))) (eC w_TELLS)) (eAnd (eBin eqM (eBin ixM (eVar 0) (eC (.int 4))) (eC w_ASKS)) (eBin eqM (eBin ixM (eVar 0) (eC (.int 2))) (eC w_LINE))))))
def d_do_renew : DS := s_do_renew_0
def r_do_renew : Fw := pw (runD 2 d_do_renew)
abbrev N_keeps_order : List Str := ["rule", "may", "absent", "most", "few", "ask", "fill", "back", "let", "lost"]
def s_keeps_order_0 : DS := (sAsg (eVar 0) (gT (gsCons (gN 3) (gsCons (gN 4) (gsCons (gN 5) (gsCons (gN 6) (gsCons (gN 7) (gsCons (gN 8) (gsCons (gN 9) gsNil)))))))))
def s_keeps_order_1 : DS := (sIf (dTest (eBin eqM (eVar 2) (eC (.int 0)))) (sRet (eOr (eBin eqM (eVar 9) (eC w_ASKS)) (eBin eqM (eVar 6) (eC w_ON)))) sNil)
def s_keeps_order_2 : DS := (sIf (dTest (eBin eqM (eVar 4) (eC (.int 0)))) (sRet (eOr (eBin eqM (eVar 9) (eC w_ASKS)) (eAnd (eBin eqM (eVar 6) (eC w_ON)) (eCall 2 r_do_renew (aCons (eVar 0) (aCons (eVar 1) aNil)))))) sNil)
def s_keeps_order_3 : DS := (sIf (dOr (dTest (eBin neM (eVar 6) (eC w_ON))) (dOr (dAnd (dTest (eBin eqM (eVar 8) (eC w_QUIET))) (dTest (eBin (inM false) (eC w_MAY_LET) (eVar 1)))) (dNot (dTest (eCall 2 r_do_renew (aCons (eVar 0) (aCons (eVar 1) aNil))))))) (sRet (eC (.bl false))) sNil)
def s_keeps_order_4 : DS := (sRet (eOr (eBin ltW (eVar 4) (eVar 3)) (eCall 2 r_is_at_most (aCons (eVar 2) (aCons (eBin subW (eVar 3) (eC (.int 1))) aNil)))))
def d_keeps_order : DS := (sSeq s_keeps_order_0 (sSeq s_keeps_order_1 (sSeq s_keeps_order_2 (sSeq s_keeps_order_3 s_keeps_order_4))))
def r_keeps_order : Fw := pw (runD 10 d_keeps_order)
abbrev N_keeps_door : List Str := ["rule", "may", "absent"]
def s_keeps_door_0 : DS := (sIf (dTest (eBin eqM (eBin ixM (eVar 0) (eC (.int 1))) (eBin ixM (eVar 0) (eC (.int 0))))) (sRet (eC (.bl true))) sNil)
def s_keeps_door_1 : DS := (sIf (dNot (dTest (eCall 2 r_is_at_most (aCons (eVar 2) (aCons (eBin ixM (eVar 0) (eC (.int 1))) aNil))))) (sRet (eC (.bl false))) sNil)
def s_keeps_door_2 : DS := (sRet (eOr (eBin eqM (eVar 2) (eC (.int 0))) (eOr (eBin neM (eBin ixM (eVar 0) (eC (.int 4))) (eC w_OLD)) (eBin (inM true) (eC w_MAY_OUT) (eVar 1)))))
def d_keeps_door : DS := (sSeq s_keeps_door_0 (sSeq s_keeps_door_1 s_keeps_door_2))
def r_keeps_door : Fw := pw (runD 3 d_keeps_door)
abbrev N_keeps_by : List Str := ["rule", "promise", "may", "absent"]
def s_keeps_by_0 : DS := (sIf (dTest (eBin eqM (eVar 1) (eC w_ORDER_PROMISE))) (sRet (eCall 3 r_keeps_order (aCons (eVar 0) (aCons (eVar 2) (aCons (eVar 3) aNil))))) sNil)
def s_keeps_by_1 : DS := (sIf (dTest (eBin eqM (eVar 1) (eC w_DOOR_PROMISE))) (sRet (eCall 3 r_keeps_door (aCons (eVar 0) (aCons (eVar 2) (aCons (eVar 3) aNil))))) sNil)
def s_keeps_by_2 : DS := (sRet (eOr (eBin neM (eBin ixM (eVar 0) (eC (.int 4))) (eC w_ASKS)) (eOr (eBin eqM (eVar 3) (eC (.int 0))) (eBin (inM true) (eC w_MAY_OUT) (eVar 2)))))
def d_keeps_by : DS := (sSeq s_keeps_by_0 (sSeq s_keeps_by_1 s_keeps_by_2))
def r_keeps_by : Fw := pw (runD 4 d_keeps_by)
abbrev N_does_keep : List Str := ["rule", "promise", "may", "absent"]
def s_does_keep_0 : DS := (sExpr (eCall 1 r_need_rule (aCons (eVar 0) aNil)))
def s_does_keep_1 : DS := (sExpr (eCall 1 r_need_promise (aCons (eVar 1) aNil)))
def s_does_keep_2 : DS := (sRet (eCall 4 r_keeps_by (aCons (eVar 0) (aCons (eVar 1) (aCons (eCall 1 r_need_may (aCons (eVar 2) aNil)) (aCons (eCall 1 r_need_absent (aCons (eVar 3) aNil)) aNil))))))
def d_does_keep : DS := (sSeq s_does_keep_0 (sSeq s_does_keep_1 s_does_keep_2))
def r_does_keep : Fw := pw (runD 4 d_does_keep)
abbrev N_need_all : List Str := ["rule", "promise", "may", "absent"]
def s_need_all_0 : DS := (sExpr (eCall 1 r_need_rule (aCons (eVar 0) aNil)))
def s_need_all_1 : DS := (sExpr (eCall 1 r_need_promise (aCons (eVar 1) aNil)))
def s_need_all_2 : DS := (sExpr (eCall 1 r_need_may (aCons (eVar 2) aNil)))
def s_need_all_3 : DS := (sExpr (eCall 1 r_need_absent (aCons (eVar 3) aNil)))
def d_need_all : DS := (sSeq s_need_all_0 (sSeq s_need_all_1 (sSeq s_need_all_2 s_need_all_3)))
def r_need_all : Fw := pw (runD 4 d_need_all)
abbrev N_is_row : List Str := ["rule", "thing"]
def s_is_row_0 : DS := (sTry l_BadEvents (sExpr (eCall 2 r_room_behind (aCons (eVar 0) (aCons (eVar 1) aNil)))) (sRet (eC (.bl false))))
def s_is_row_1 : DS := (sRet (eC (.bl true)))
def d_is_row : DS := (sSeq s_is_row_0 s_is_row_1)
def r_is_row : Fw := pw (runD 2 d_is_row)
abbrev N_does_break : List Str := ["rule", "promise", "may", "absent", "events", "room", "is_broken", "event", "word", "person"]
def s_does_break_0 : DS := (sPar 5 6 (aCons (eMake 0 2 r_Room___init__ (aCons (eVar 0) aNil)) (aCons (eC (.bl false)) aNil)))
def b_does_break_0 : DS := (sSeq (sIf (dOr (dAnd (dTest (eBin eqM (eBin ixM (eVar 7) (eC (.int 0))) (eC w_LET))) (dTest (eBin (inM true) (eC w_MAY_LET) (eVar 2)))) (dAnd (dTest (eBin eqM (eBin ixM (eVar 7) (eC (.int 0))) (eC w_OUT))) (dTest (eBin (inM true) (eC w_MAY_OUT) (eVar 2))))) (sRet (eC (.bl false))) sNil)
    (sSeq (sSet 6 (eOr (eVar 6) (eBin (inM false) (eVar 1) (eFz (aComp (iSeq (eCall 2 r_faults_now (aCons (eVar 5) (aCons (eVar 7) aNil)))) (gT (gsCons (gN 8) (gsCons (gN 9) gsNil))) dYes (eVar 8) [8, 9])))))
    (sSeq (sExpr (eMeth 0 "do" 2 r_Room_do (eVar 5) (aCons (eVar 7) aNil)))
    (sIf (dAnd (dTest (eBin notNonW (eVar 3) (eC .non))) (dNot (dTest (eCall 2 r_is_at_most (aCons (eCall 1 r_absent_in (aCons (eFld 0 "line_now" (eVar 5)) aNil)) (aCons (eVar 3) aNil)))))) (sRet (eC (.bl false))) sNil))))
def s_does_break_1 : DS := (sFor (iSeq (eVar 4)) (gN 7) b_does_break_0)
def s_does_break_2 : DS := (sRet (eVar 6))
def d_does_break : DS := (sSeq s_does_break_0 (sSeq s_does_break_1 s_does_break_2))
def r_does_break : Fw := pw (runD 10 d_does_break)
abbrev N_check_promise : List Str := ["rule", "promise", "may", "absent", "paper"]
def s_check_promise_0 : DS := (sExpr (eCall 4 r_need_all (aCons (eVar 0) (aCons (eVar 1) (aCons (eVar 2) (aCons (eVar 3) aNil))))))
def s_check_promise_1 : DS := (sIf (dOr (dNot (dTest (eIsi .tup (eVar 4)))) (dOr (dTest (eBin eqT0 (eVar 4) (eTup aNil))) (dNot (dTest (eIsi .str (eBin ixM (eVar 4) (eC (.int 0)))))))) (sRaise 5 ["part"] (aCons (eC (.str "form")) aNil)) sNil)
def s_check_promise_2 : DS := (sIf (dTest (eBin eqM (eVar 4) (eTup (aCons (eC w_KEPT) aNil)))) (sSeq (sIf (dNot (dTest (eCall 4 r_keeps_by (aCons (eVar 0) (aCons (eVar 1) (aCons (eVar 2) (aCons (eVar 3) aNil))))))) (sRaise 5 ["part"] (aCons (eC w_KEPT) aNil)) sNil)
    (sRet (eC w_KEPT))) sNil)
def s_check_promise_3 : DS := (sIf (dOr (dTest (eBin neM (eFn lenW (aCons (eVar 4) aNil)) (eC (.int 2)))) (dOr (dTest (eBin neM (eBin ixM (eVar 4) (eC (.int 0))) (eC w_BROKEN))) (dNot (dTest (eIsi .tup (eBin ixM (eVar 4) (eC (.int 1)))))))) (sRaise 5 ["part"] (aCons (eC (.str "form")) aNil)) sNil)
def s_check_promise_4 : DS := (sIf (dOr (dNot (dTest (eCall 2 r_is_row (aCons (eVar 0) (aCons (eBin ixM (eVar 4) (eC (.int 1))) aNil))))) (dNot (dTest (eCall 5 r_does_break (aCons (eVar 0) (aCons (eVar 1) (aCons (eVar 2) (aCons (eVar 3) (aCons (eBin ixM (eVar 4) (eC (.int 1))) aNil))))))))) (sRaise 5 ["part"] (aCons (eC w_BROKEN) aNil)) sNil)
def s_check_promise_5 : DS := (sRet (eC w_BROKEN))
def d_check_promise : DS := (sSeq s_check_promise_0 (sSeq s_check_promise_1 (sSeq s_check_promise_2 (sSeq s_check_promise_3 (sSeq s_check_promise_4 s_check_promise_5)))))
def r_check_promise : Fw := pw (runD 5 d_check_promise)
abbrev N_need_parts : List Str := ["claim"]
def s_need_parts_0 : DS := (sExpr (eCall 1 r_need_rule (aCons (eBin ixM (eVar 0) (eC (.int 1))) aNil)))
def s_need_parts_1 : DS := (sIf (dTest (eBin eqM (eBin ixM (eVar 0) (eC (.int 0))) (eC w_ALIKE))) (sExpr (eCall 1 r_need_rule (aCons (eBin ixM (eVar 0) (eC (.int 2))) aNil))) (sExpr (eCall 4 r_does_keep (aCons (eBin ixM (eVar 0) (eC (.int 1))) (aCons (eBin ixM (eVar 0) (eC (.int 2))) (aCons (eBin ixM (eVar 0) (eC (.int 3))) (aCons (eBin ixM (eVar 0) (eC (.int 4))) aNil)))))))
def d_need_parts : DS := (sSeq s_need_parts_0 s_need_parts_1)
def r_need_parts : Fw := pw (runD 1 d_need_parts)
abbrev N_is_claim : List Str := ["thing"]
def s_is_claim_0 : DS := (sIf (dOr (dNot (dTest (eIsi .tup (eVar 0)))) (dOr (dTest (eBin eqT0 (eVar 0) (eTup aNil))) (dNot (dTest (eIsi .str (eBin ixM (eVar 0) (eC (.int 0)))))))) (sRet (eC (.bl false))) sNil)
def s_is_claim_1 : DS := (sIf (dTest (eBin neM (eKget1 t_SIZES (eBin ixM (eVar 0) (eC (.int 0)))) (eFn lenW (aCons (eVar 0) aNil)))) (sRet (eC (.bl false))) sNil)
def s_is_claim_2 : DS := (sTry la_BadAbsent_BadMay_BadPromise_BadRule (sExpr (eCall 1 r_need_parts (aCons (eVar 0) aNil))) (sRet (eC (.bl false))))
def s_is_claim_3 : DS := (sRet (eC (.bl true)))
def d_is_claim : DS := (sSeq s_is_claim_0 (sSeq s_is_claim_1 (sSeq s_is_claim_2 s_is_claim_3)))
def r_is_claim : Fw := pw (runD 1 d_is_claim)
abbrev N_judged : List Str := ["claim", "paper"]
def s_judged_0 : DS := (sIf (dNot (dTest (eCall 1 r_is_claim (aCons (eVar 0) aNil)))) (sRaise 9 ["given"] (aCons (eVar 0) aNil)) sNil)
def s_judged_1 : DS := (sIf (dTest (eBin eqM (eBin ixM (eVar 0) (eC (.int 0))) (eC w_ALIKE))) (sRet (eBin eqM (eCall 3 r_check_alike (aCons (eBin ixM (eVar 0) (eC (.int 1))) (aCons (eBin ixM (eVar 0) (eC (.int 2))) (aCons (eVar 1) aNil)))) (eC (.str "same")))) sNil)
def s_judged_2 : DS := (sRet (eBin eqM (eCall 5 r_check_promise (aCons (eBin ixM (eVar 0) (eC (.int 1))) (aCons (eBin ixM (eVar 0) (eC (.int 2))) (aCons (eBin ixM (eVar 0) (eC (.int 3))) (aCons (eBin ixM (eVar 0) (eC (.int 4))) (aCons (eVar 1) aNil)))))) (eC (.str "kept"))))
def d_judged : DS := (sSeq s_judged_0 (sSeq s_judged_1 s_judged_2))
def r_judged : Fw := pw (runD 2 d_judged)
abbrev N__law_mixed : List Str := ["_law_cell", "_law_k"]
def s__law_mixed_0 : DS := (sSet 0 (eBin modW (eFn intW (aCons (eVar 0) aNil)) (eC (.int 2147483647))))
def s__law_mixed_1 : DS := (sRet (eBin modW (eBin mulW (eBin modW (eBin addW (eBin addW (eBin mulW (eVar 0) (eBin addW (eC (.int 48271)) (eBin mulW (eBin mulW (eC (.int 2)) (eVar 1)) (eVar 1)))) (eBin mulW (eC (.int 69621)) (eVar 1))) (eC (.int 11))) (eC (.int 2147483647))) (eC (.int 69621))) (eC (.int 2147483629))))
def d__law_mixed : DS := (sSeq s__law_mixed_0 s__law_mixed_1)
def r__law_mixed : Fw := pw (runD 2 d__law_mixed)
abbrev N__law_begin : List Str := ["_law_script", "_law_cells", "_law_cell"]
def s__law_begin_0 : DS := (sSet 1 (eIf (dTest (eBin neM (eVar 0) (eLst aNil))) (eFz (aFn listW (aCons (eVar 0) aNil))) (eLst (aCons (eC (.int 0)) aNil))))
def s__law_begin_1 : DS := (sRet (eDict [("cells", (eVar 1)), ("lefts", (eNw (aComp (iSeq (eVar 1)) (gN 2) dYes (eIf (dTest (eBin geW (eVar 2) (eBin powW (eC (.int 10)) (eC (.int 18))))) (eVar 2) (eC (.int 0))) [2]))), ("at", (eC (.int 0))), ("room", (eC (.int 0)))]))
def d__law_begin : DS := (sSeq s__law_begin_0 s__law_begin_1)
def r__law_begin : Fw := runD 3 d__law_begin
abbrev N__law_draw : List Str := ["_law_state", "_law_many", "_law_at", "_law_place", "_law_left", "_law_number"]
def s__law_draw_0 : DS := (sSet 2 (eDget (eVar 0) (eC (.str "at"))))
def s__law_draw_1 : DS := (sSub (eVar 0) (eC (.str "at")) (eBin addW (eVar 2) (eC (.int 1))))
def s__law_draw_2 : DS := (sSet 3 (eBin modW (eFn intW (aCons (eVar 2) aNil)) (eFn lenW (aCons (eDget (eVar 0) (eC (.str "cells"))) aNil))))
def s__law_draw_3 : DS := (sSet 4 (eBin ixM (eDget (eVar 0) (eC (.str "lefts"))) (eVar 3)))
def s__law_draw_4 : DS := (sIf (dTest (eBin gtW (eVar 4) (eC (.int 0)))) (sSeq (sSub (eDget (eVar 0) (eC (.str "lefts"))) (eVar 3) (eBin fdivW (eVar 4) (eVar 1)))
    (sRet (eBin modW (eFn intW (aCons (eVar 4) aNil)) (eVar 1)))) sNil)
def s__law_draw_5 : DS := (sSet 5 (eCall 2 r__law_mixed (aCons (eCall 2 r__law_mixed (aCons (eBin ixM (eDget (eVar 0) (eC (.str "cells"))) (eVar 3)) (aCons (eVar 2) aNil))) (aCons (eBin addW (eC (.int 40)) (eVar 2)) aNil))))
def s__law_draw_6 : DS := (sRet (eBin modW (eBin fdivW (eFn intW (aCons (eBin addW (eBin mulW (eVar 5) (eC (.int 2147483647))) (eCall 2 r__law_mixed (aCons (eVar 5) (aCons (eBin addW (eC (.int 7)) (eVar 2)) aNil)))) aNil)) (eC (.int 64))) (eVar 1)))
def d__law_draw : DS := (sSeq s__law_draw_0 (sSeq s__law_draw_1 (sSeq s__law_draw_2 (sSeq s__law_draw_3 (sSeq s__law_draw_4 (sSeq s__law_draw_5 s__law_draw_6))))))
def r__law_draw : Fw := runD 6 d__law_draw
abbrev N__law_of : List Str := ["_law_state", "_law_some"]
def s__law_of_0 : DS := (sRet (eBin ixM (eVar 1) (eCall 2 r__law_draw (aCons (eVar 0) (aCons (eFn lenW (aCons (eVar 1) aNil)) aNil)))))
def d__law_of : DS := s__law_of_0
def r__law_of : Fw := runD 2 d__law_of
abbrev N__law_heard : List Str := ["_law_call", "_law_caught", "_law_found", "e"]
def d__law_heard (fL : Addr) (cb : Mem → R W) : DS := (sSeq (sAsg (eTup (aCons (eC .non) (aCons (eC .non) aNil))) (gT (gsCons (gN 1) (gsCons (gN 2) gsNil)))) (sSeq (sTryV la_AskError_TooMany 3 1 (sSet 2 (eCb fL cb))) (sSeq (sIf (dTest (eBin isNonW (eVar 1) (eC .non))) (sRet (eLst (aCons (eC (.str "good")) (aCons (eVar 2) aNil)))) sNil) (sSeq (sIf (dTest (eIsX l_BadClaim (eVar 1))) (sRet (eLst (aCons (eC (.str "claim")) (aCons (eFn reprW (aCons (eXk cs_given "given" (eVar 1)) aNil)) aNil)))) sNil) (sRet (eIf (dTest (eIsX l_BadPaper (eVar 1))) (eLst (aCons (eC (.str "paper")) (aCons (eXk cs_part "part" (eVar 1)) aNil))) (eLst (aCons (eC (.str "odd")) aNil))))))))
abbrev N__law_rule : List Str := []
def s__law_rule_0 : DS := (sRet (eTup (aCons (eC (.int 2)) (aCons (eC (.int 2)) (aCons (eC (.str "line")) (aCons (eC (.str "on")) (aCons (eC (.str "tells")) (aCons (eC (.str "told")) (aCons (eC (.str "asks")) aNil)))))))))
def d__law_rule : DS := s__law_rule_0
def r__law_rule : Fw := runD 0 d__law_rule
abbrev N__law_odds : List Str := ["_law_rule_here", "_law_may", "_law_rows", "_law_one"]
def s__law_odds_0 : DS := (sAsg (eTup (aCons (eCall 0 r__law_rule aNil) (aCons (eTup (aCons (eC (.str "let")) (aCons (eC (.str "out")) aNil))) aNil))) (gT (gsCons (gN 0) (gsCons (gN 1) gsNil))))
def s__law_odds_1 : DS := (sSet 2 (eLstM (aCons (eC .non) (aCons (eTup aNil) (aCons (eC (.str "keeps")) (aCons (eLst (aCons (eC (.str "keeps")) (aCons (eVar 0) (aCons (eC (.str "door")) (aCons (eVar 1) (aCons (eC (.int 0)) aNil)))))) (aCons (eTup (aCons (eC (.str "keeps")) (aCons (eVar 0) (aCons (eC (.str "door")) (aCons (eVar 1) aNil))))) aNil)))))))
def s__law_odds_2 : DS := (sSet 2 (eNw (aAddL (eVar 2) (eLst (aCons (eTup (aCons (eC (.str "Keeps")) (aCons (eVar 0) (aCons (eC (.str "door")) (aCons (eVar 1) (aCons (eC (.int 0)) aNil)))))) (aCons (eTup (aCons (eC (.str "keeps")) (aCons (eVar 0) (aCons (eC (.str "door")) (aCons (eVar 1) (aCons (eC (.int 0)) (aCons (eC (.int 0)) aNil))))))) aNil))))))
def s__law_odds_3 : DS := (sSet 2 (eNw (aAddL (eVar 2) (eLst (aCons (eTup (aCons (eC (.str "keeps")) (aCons (eSl (eVar 0) oNone (oSome (eC (.int 6)))) (aCons (eC (.str "door")) (aCons (eVar 1) (aCons (eC (.int 0)) aNil)))))) (aCons (eTup (aCons (eC (.str "keeps")) (aCons (eC .non) (aCons (eC (.str "door")) (aCons (eVar 1) (aCons (eC (.int 0)) aNil)))))) aNil))))))
def s__law_odds_4 : DS := (sSet 2 (eNw (aAddL (eVar 2) (eLst (aCons (eTup (aCons (eC (.str "keeps")) (aCons (eVar 0) (aCons (eC (.str "Door")) (aCons (eVar 1) (aCons (eC (.int 0)) aNil)))))) (aCons (eTup (aCons (eC (.str "keeps")) (aCons (eVar 0) (aCons (eC .non) (aCons (eVar 1) (aCons (eC (.int 0)) aNil)))))) (aCons (eTup (aCons (eC (.str "keeps")) (aCons (eVar 0) (aCons (eLst (aCons (eC (.str "door")) aNil)) (aCons (eVar 1) (aCons (eC (.int 0)) aNil)))))) aNil)))))))
def b__law_odds_0 : DS := (sExpr (eApp (eVar 2) (eTup (aCons (eC (.str "keeps")) (aCons (eVar 0) (aCons (eC (.str "door")) (aCons (eVar 3) (aCons (eC (.int 0)) aNil))))))))
def s__law_odds_5 : DS := (sFor (iSeq (eTup (aCons (eTup (aCons (eC (.str "out")) (aCons (eC (.str "let")) aNil))) (aCons (eLst (aCons (eC (.str "let")) aNil)) (aCons (eTup (aCons (eC (.str "let")) (aCons (eC (.str "let")) aNil))) (aCons (eC (.str "let")) (aCons (eTup (aCons (eC (.str "come")) aNil)) (aCons (eC .non) aNil)))))))) (gN 3) b__law_odds_0)
def s__law_odds_6 : DS := (sSet 2 (eNw (aAddL (eVar 2) (eFz (aComp (iSeq (eTup (aCons (eNeg (eC (.int 1))) (aCons (eC (.int 100)) (aCons (eC (.bl true)) (aCons (eC (.str "0")) (aCons (eTup (aCons (eC (.int 0)) aNil)) (aCons (eC (.bl false)) aNil)))))))) (gN 3) dYes (eTup (aCons (eC (.str "keeps")) (aCons (eVar 0) (aCons (eC (.str "door")) (aCons (eVar 1) (aCons (eVar 3) aNil)))))) [3])))))
def s__law_odds_7 : DS := (sSet 2 (eNw (aAddL (eVar 2) (eLst (aCons (eTup (aCons (eC (.str "alike")) (aCons (eVar 0) aNil))) (aCons (eTup (aCons (eC (.str "alike")) (aCons (eVar 0) (aCons (eVar 0) (aCons (eVar 0) aNil))))) (aCons (eTup (aCons (eC (.str "alike")) (aCons (eVar 0) (aCons (eC .non) aNil)))) (aCons (eTup (aCons (eC (.str "alike")) (aCons (eSl (eVar 0) oNone (oSome (eC (.int 6)))) (aCons (eVar 0) aNil)))) aNil))))))))
def s__law_odds_8 : DS := (sSet 2 (eNw (aAddL (eVar 2) (eLst (aCons (eTup (aCons (eC (.str "alike")) aNil)) (aCons (eTup (aCons (eC (.str "alike")) (aCons (eVar 0) (aCons (eBin addW (eTup (aCons (eC (.int 1)) (aCons (eC (.int 2)) aNil))) (eSl (eVar 0) (oSome (eC (.int 2))) oNone)) aNil)))) (aCons (eTup (aCons (eC (.str "alike")) (aCons (eBin addW (eTup (aCons (eC (.int 0)) (aCons (eC (.int 0)) aNil))) (eSl (eVar 0) (oSome (eC (.int 2))) oNone)) (aCons (eVar 0) aNil)))) aNil)))))))
def s__law_odds_9 : DS := (sSet 2 (eNw (aAddL (eVar 2) (eLst (aCons (eTup (aCons (eC .non) (aCons (eVar 0) (aCons (eVar 0) aNil)))) (aCons (eTup (aCons (eTup (aCons (eC (.str "alike")) aNil)) (aCons (eVar 0) (aCons (eVar 0) aNil)))) (aCons (eTup (aCons (eC (.str "same")) (aCons (eVar 0) (aCons (eVar 0) aNil)))) aNil)))))))
def s__law_odds_10 : DS := (sRet (eBin addW (eVar 2) (eLst (aCons (eTup (aCons (eC (.str "keeps")) (aCons (eBin addW (eTup (aCons (eC (.int 4)) (aCons (eC (.int 0)) aNil))) (eSl (eVar 0) (oSome (eC (.int 2))) oNone)) (aCons (eC (.str "door")) (aCons (eVar 1) (aCons (eC (.int 0)) aNil)))))) (aCons (eTup (aCons (eC (.str "keeps")) (aCons (eFz (aFn listW (aCons (eVar 0) aNil))) (aCons (eC (.str "door")) (aCons (eVar 1) (aCons (eC (.int 0)) aNil)))))) aNil)))))
def d__law_odds : DS := (sSeq s__law_odds_0 (sSeq s__law_odds_1 (sSeq s__law_odds_2 (sSeq s__law_odds_3 (sSeq s__law_odds_4 (sSeq s__law_odds_5 (sSeq s__law_odds_6 (sSeq s__law_odds_7 (sSeq s__law_odds_8 (sSeq s__law_odds_9 s__law_odds_10))))))))))
def r__law_odds : Fw := pw (runD 4 d__law_odds)
abbrev N__law_hand_right : List Str := ["_law_rule_here", "_law_both", "_law_old", "_law_rows", "_law_row", "_law_gone", "_law_anew", "_law_asks", "_law_part", "_law_pad", "_law_full", "_law_k", "_law_claim", "_law_paper", "_law_due", "_law_one"]
def s__law_hand_right_0 : DS := (sPar 0 1 (aCons (eCall 0 r__law_rule aNil) (aCons (eTup (aCons (eC (.str "let")) (aCons (eC (.str "out")) aNil))) aNil)))
def s__law_hand_right_1 : DS := (sSet 2 (eBin addW (eBin addW (eSl (eVar 0) oNone (oSome (eC (.int 4)))) (eTup (aCons (eC (.str "old")) aNil))) (eSl (eVar 0) (oSome (eC (.int 5))) oNone)))
def s__law_hand_right_2 : DS := (sSet 3 (eLstM (aCons (eTup (aCons (eTup (aCons (eC (.str "keeps")) (aCons (eVar 0) (aCons (eC (.str "order")) (aCons (eVar 1) (aCons (eC (.int 1)) aNil)))))) (aCons (eTup (aCons (eC (.str "kept")) aNil)) (aCons (eLst (aCons (eC (.str "good")) (aCons (eC (.bl true)) aNil))) aNil)))) aNil)))
def s__law_hand_right_3 : DS := (sSet 3 (eNw (aAddL (eVar 3) (eLst (aCons (eTup (aCons (eTup (aCons (eC (.str "keeps")) (aCons (eVar 0) (aCons (eC (.str "order")) (aCons (eVar 1) (aCons (eC (.int 2)) aNil)))))) (aCons (eTup (aCons (eC (.str "kept")) aNil)) (aCons (eLst (aCons (eC (.str "paper")) (aCons (eC (.str "kept")) aNil))) aNil)))) aNil)))))
def s__law_hand_right_4 : DS := (sSet 4 (eBin addW (eBin mulT (eTup (aCons (eTup (aCons (eC (.str "come")) aNil)) aNil)) (eC (.int 4))) (eTup (aCons (eTup (aCons (eC (.str "vanish")) (aCons (eC (.int 1)) aNil))) (aCons (eTup (aCons (eC (.str "vanish")) (aCons (eC (.int 2)) aNil))) (aCons (eTup (aCons (eC (.str "door")) aNil)) aNil))))))
def s__law_hand_right_5 : DS := (sSet 3 (eNw (aAddL (eVar 3) (eLst (aCons (eTup (aCons (eTup (aCons (eC (.str "keeps")) (aCons (eVar 0) (aCons (eC (.str "order")) (aCons (eVar 1) (aCons (eC (.int 2)) aNil)))))) (aCons (eTup (aCons (eC (.str "broken")) (aCons (eVar 4) aNil))) (aCons (eLst (aCons (eC (.str "good")) (aCons (eC (.bl false)) aNil))) aNil)))) aNil)))))
def s__law_hand_right_6 : DS := (sSet 3 (eNw (aAddL (eVar 3) (eLst (aCons (eTup (aCons (eTup (aCons (eC (.str "keeps")) (aCons (eVar 0) (aCons (eC (.str "order")) (aCons (eVar 1) (aCons (eC .non) aNil)))))) (aCons (eTup (aCons (eC (.str "broken")) (aCons (eVar 4) aNil))) (aCons (eLst (aCons (eC (.str "good")) (aCons (eC (.bl false)) aNil))) aNil)))) aNil)))))
def s__law_hand_right_7 : DS := (sSet 3 (eNw (aAddL (eVar 3) (eLst (aCons (eTup (aCons (eTup (aCons (eC (.str "keeps")) (aCons (eVar 0) (aCons (eC (.str "order")) (aCons (eVar 1) (aCons (eC (.int 1)) aNil)))))) (aCons (eTup (aCons (eC (.str "broken")) (aCons (eVar 4) aNil))) (aCons (eLst (aCons (eC (.str "paper")) (aCons (eC (.str "broken")) aNil))) aNil)))) aNil)))))
def s__law_hand_right_8 : DS := (sSet 5 (eTup (aCons (eTup (aCons (eC (.str "come")) aNil)) (aCons (eTup (aCons (eC (.str "out")) (aCons (eC (.int 0)) aNil))) (aCons (eTup (aCons (eC (.str "come")) aNil)) (aCons (eTup (aCons (eC (.str "come")) aNil)) (aCons (eTup (aCons (eC (.str "back")) (aCons (eC (.int 0)) aNil))) (aCons (eTup (aCons (eC (.str "vanish")) (aCons (eC (.int 1)) aNil))) (aCons (eTup (aCons (eC (.str "door")) aNil)) aNil)))))))))
def s__law_hand_right_9 : DS := (sSet 3 (eNw (aAddL (eVar 3) (eLst (aCons (eTup (aCons (eTup (aCons (eC (.str "keeps")) (aCons (eVar 2) (aCons (eC (.str "order")) (aCons (eVar 1) (aCons (eC (.int 1)) aNil)))))) (aCons (eTup (aCons (eC (.str "broken")) (aCons (eVar 5) aNil))) (aCons (eLst (aCons (eC (.str "good")) (aCons (eC (.bl false)) aNil))) aNil)))) aNil)))))
def s__law_hand_right_10 : DS := (sSet 3 (eNw (aAddL (eVar 3) (eLst (aCons (eTup (aCons (eTup (aCons (eC (.str "keeps")) (aCons (eVar 2) (aCons (eC (.str "order")) (aCons (eTup (aCons (eC (.str "let")) aNil)) (aCons (eC (.int 1)) aNil)))))) (aCons (eTup (aCons (eC (.str "broken")) (aCons (eVar 5) aNil))) (aCons (eLst (aCons (eC (.str "paper")) (aCons (eC (.str "broken")) aNil))) aNil)))) aNil)))))
def s__law_hand_right_11 : DS := (sSet 3 (eNw (aAddL (eVar 3) (eLst (aCons (eTup (aCons (eTup (aCons (eC (.str "keeps")) (aCons (eVar 2) (aCons (eC (.str "order")) (aCons (eTup (aCons (eC (.str "let")) aNil)) (aCons (eC (.int 1)) aNil)))))) (aCons (eTup (aCons (eC (.str "kept")) aNil)) (aCons (eLst (aCons (eC (.str "good")) (aCons (eC (.bl true)) aNil))) aNil)))) aNil)))))
def s__law_hand_right_12 : DS := (sSet 6 (eTup (aCons (eTup (aCons (eC (.str "come")) aNil)) (aCons (eTup (aCons (eC (.str "out")) (aCons (eC (.int 0)) aNil))) (aCons (eTup (aCons (eC (.str "come")) aNil)) (aCons (eTup (aCons (eC (.str "back")) (aCons (eC (.int 0)) aNil))) aNil))))))
def s__law_hand_right_13 : DS := (sSet 7 (eBin addW (eBin addW (eSl (eVar 0) oNone (oSome (eC (.int 4)))) (eTup (aCons (eC (.str "asks")) aNil))) (eSl (eVar 0) (oSome (eC (.int 5))) oNone)))
def s__law_hand_right_14 : DS := (sSet 3 (eNw (aAddL (eVar 3) (eLst (aCons (eTup (aCons (eTup (aCons (eC (.str "keeps")) (aCons (eVar 7) (aCons (eC (.str "place")) (aCons (eTup (aCons (eC (.str "out")) aNil)) (aCons (eC (.int 1)) aNil)))))) (aCons (eTup (aCons (eC (.str "broken")) (aCons (eVar 6) aNil))) (aCons (eLst (aCons (eC (.str "good")) (aCons (eC (.bl false)) aNil))) aNil)))) aNil)))))
def s__law_hand_right_15 : DS := (sSet 3 (eNw (aAddL (eVar 3) (eLst (aCons (eTup (aCons (eTup (aCons (eC (.str "keeps")) (aCons (eVar 7) (aCons (eC (.str "place")) (aCons (eTup (aCons (eC (.str "out")) aNil)) (aCons (eC (.int 99)) aNil)))))) (aCons (eTup (aCons (eC (.str "broken")) (aCons (eBin addW (eSl (eVar 6) oNone (oSome (eC (.int 2)))) (eSl (eVar 6) (oSome (eC (.int 3))) oNone)) aNil))) (aCons (eLst (aCons (eC (.str "paper")) (aCons (eC (.str "broken")) aNil))) aNil)))) aNil)))))
def s__law_hand_right_16 : DS := (sSet 3 (eNw (aAddL (eVar 3) (eLst (aCons (eTup (aCons (eTup (aCons (eC (.str "alike")) (aCons (eVar 0) (aCons (eBin addW (eSl (eVar 0) oNone (oSome (eC (.int 6)))) (eTup (aCons (eC (.str "claims")) aNil))) aNil)))) (aCons (eTup (aCons (eC (.str "same")) aNil)) (aCons (eLst (aCons (eC (.str "good")) (aCons (eC (.bl true)) aNil))) aNil)))) aNil)))))
def s__law_hand_right_17 : DS := (sSet 3 (eNw (aAddL (eVar 3) (eLst (aCons (eTup (aCons (eTup (aCons (eC (.str "alike")) (aCons (eVar 0) (aCons (eVar 2) aNil)))) (aCons (eTup (aCons (eC (.str "same")) aNil)) (aCons (eLst (aCons (eC (.str "paper")) (aCons (eC (.str "same")) aNil))) aNil)))) aNil)))))
def s__law_hand_right_18 : DS := (sSet 3 (eNw (aAddL (eVar 3) (eLst (aCons (eTup (aCons (eTup (aCons (eC (.str "alike")) (aCons (eVar 0) (aCons (eVar 0) aNil)))) (aCons (eC .non) (aCons (eLst (aCons (eC (.str "paper")) (aCons (eC (.str "form")) aNil))) aNil)))) aNil)))))
def s__law_hand_right_19 : DS := (sSet 3 (eNw (aAddL (eVar 3) (eLst (aCons (eTup (aCons (eTup (aCons (eC (.str "alike")) (aCons (eVar 0) (aCons (eVar 2) aNil)))) (aCons (eTup (aCons (eC (.str "parted")) (aCons (eSl (eVar 5) oNone (oSome (eC (.int 5)))) aNil))) (aCons (eLst (aCons (eC (.str "good")) (aCons (eC (.bl false)) aNil))) aNil)))) aNil)))))
def b__law_hand_right_0 : DS := (sExpr (eApp (eVar 3) (eTup (aCons (eTup (aCons (eC (.str "alike")) (aCons (eVar 0) (aCons (eVar 2) aNil)))) (aCons (eTup (aCons (eC (.str "parted")) (aCons (eVar 8) aNil))) (aCons (eLst (aCons (eC (.str "paper")) (aCons (eC (.str "parted")) aNil))) aNil))))))
def s__law_hand_right_20 : DS := (sFor (iSeq (eTup (aCons (eTup aNil) (aCons (eSl (eVar 5) oNone (oSome (eC (.int 4)))) (aCons (eVar 5) aNil))))) (gN 8) b__law_hand_right_0)
def s__law_hand_right_21 : DS := (sSet 9 (eBin addW (eTup (aCons (eTup (aCons (eC (.str "come")) aNil)) aNil)) (eBin mulT (eTup (aCons (eTup (aCons (eC (.str "out")) (aCons (eC (.int 0)) aNil))) (aCons (eTup (aCons (eC (.str "back")) (aCons (eC (.int 0)) aNil))) aNil))) (eC (.int 96)))))
def s__law_hand_right_22 : DS := (sSet 4 (eBin addW (eBin addW (eVar 9) (eBin mulT (eTup (aCons (eTup (aCons (eC (.str "come")) aNil)) aNil)) (eC (.int 4)))) (eTup (aCons (eTup (aCons (eC (.str "vanish")) (aCons (eC (.int 1)) aNil))) (aCons (eTup (aCons (eC (.str "vanish")) (aCons (eC (.int 2)) aNil))) (aCons (eTup (aCons (eC (.str "door")) aNil)) aNil))))))
def s__law_hand_right_23 : DS := (sSet 3 (eNw (aAddL (eVar 3) (eLst (aCons (eTup (aCons (eTup (aCons (eC (.str "keeps")) (aCons (eVar 0) (aCons (eC (.str "order")) (aCons (eVar 1) (aCons (eC (.int 2)) aNil)))))) (aCons (eTup (aCons (eC (.str "broken")) (aCons (eVar 4) aNil))) (aCons (eLst (aCons (eC (.str "good")) (aCons (eC (.bl false)) aNil))) aNil)))) aNil)))))
def s__law_hand_right_24 : DS := (sSet 3 (eNw (aAddL (eVar 3) (eLst (aCons (eTup (aCons (eTup (aCons (eC (.str "keeps")) (aCons (eVar 0) (aCons (eC (.str "order")) (aCons (eVar 1) (aCons (eC (.int 2)) aNil)))))) (aCons (eTup (aCons (eC (.str "broken")) (aCons (eBin addW (eVar 4) (eTup (aCons (eTup (aCons (eC (.str "come")) aNil)) aNil))) aNil))) (aCons (eLst (aCons (eC (.str "paper")) (aCons (eC (.str "broken")) aNil))) aNil)))) aNil)))))
def s__law_hand_right_25 : DS := (sSet 10 (eBin addW (eBin addW (eBin mulT (eTup (aCons (eTup (aCons (eC (.str "come")) aNil)) aNil)) (eC (.int 12))) (eFn tupleW (aCons (eFz (aComp (iRng (aCons (eC (.int 11)) aNil)) (gN 11) dYes (eTup (aCons (eC (.str "vanish")) (aCons (eFn intW (aCons (eVar 11) aNil)) aNil))) [11])) aNil))) (eTup (aCons (eTup (aCons (eC (.str "out")) (aCons (eC (.int 11)) aNil))) (aCons (eTup (aCons (eC (.str "back")) (aCons (eC (.int 11)) aNil))) aNil)))))
def s__law_hand_right_26 : DS := (sSet 3 (eNw (aAddL (eVar 3) (eLst (aCons (eTup (aCons (eTup (aCons (eC (.str "alike")) (aCons (eVar 7) (aCons (eVar 2) aNil)))) (aCons (eTup (aCons (eC (.str "parted")) (aCons (eVar 10) aNil))) (aCons (eLst (aCons (eC (.str "good")) (aCons (eC (.bl false)) aNil))) aNil)))) aNil)))))
def s__law_hand_right_27 : DS := (sSet 3 (eNw (aAddL (eVar 3) (eLst (aCons (eTup (aCons (eTup (aCons (eC (.str "alike")) (aCons (eVar 7) (aCons (eVar 2) aNil)))) (aCons (eTup (aCons (eC (.str "parted")) (aCons (eSl (eVar 10) oNone (oSome (eNeg (eC (.int 1))))) aNil))) (aCons (eLst (aCons (eC (.str "paper")) (aCons (eC (.str "parted")) aNil))) aNil)))) aNil)))))
def s__law_hand_right_28 : DS := (sRet (eBin eqM (eFz (aComp (iSeq (eFrz 3)) (gT (gsCons (gN 12) (gsCons (gN 13) (gsCons (gN 14) gsNil)))) dYes (eLam N__law_heard.length d__law_heard (eCall 2 r_judged (aCons (eVar 12) (aCons (eVar 13) aNil)))) [12, 13, 14])) (eFz (aComp (iSeq (eFrz 3)) (gN 15) dYes (eBin ixM (eVar 15) (eC (.int 2))) [15]))))
def d__law_hand_right : DS := (sSeq s__law_hand_right_0 (sSeq s__law_hand_right_1 (sSeq s__law_hand_right_2 (sSeq s__law_hand_right_3 (sSeq s__law_hand_right_4 (sSeq s__law_hand_right_5 (sSeq s__law_hand_right_6 (sSeq s__law_hand_right_7 (sSeq s__law_hand_right_8 (sSeq s__law_hand_right_9 (sSeq s__law_hand_right_10 (sSeq s__law_hand_right_11 (sSeq s__law_hand_right_12 (sSeq s__law_hand_right_13 (sSeq s__law_hand_right_14 (sSeq s__law_hand_right_15 (sSeq s__law_hand_right_16 (sSeq s__law_hand_right_17 (sSeq s__law_hand_right_18 (sSeq s__law_hand_right_19 (sSeq s__law_hand_right_20 (sSeq s__law_hand_right_21 (sSeq s__law_hand_right_22 (sSeq s__law_hand_right_23 (sSeq s__law_hand_right_24 (sSeq s__law_hand_right_25 (sSeq s__law_hand_right_26 (sSeq s__law_hand_right_27 s__law_hand_right_28))))))))))))))))))))))))))))
def r__law_hand_right : Fw := pw (runD 16 d__law_hand_right)
abbrev N_law : List Str := ["_law_script", "_law_state", "_law_thing", "_law_paper", "_law_shown"]
def s_law_0 : DS := (sSet 1 (eCall 1 r__law_begin (aCons (eVar 0) aNil)))
def b_law_0 : DS := (sSeq (sSet 3 (eCall 2 r__law_of (aCons (eVar 1) (aCons (eLst (aCons (eC .non) (aCons (eTup (aCons (eC (.str "kept")) aNil)) (aCons (eTup (aCons (eC (.str "same")) aNil)) (aCons (eTup aNil) (aCons (eTup (aCons (eC (.str "broken")) (aCons (eTup aNil) aNil))) aNil)))))) aNil))))
    (sSeq (sSet 4 (eFn reprW (aCons (eVar 2) aNil)))
    (sIf (dOr (dTest (eBin neM (eLam N__law_heard.length d__law_heard (eCall 2 r_judged (aCons (eVar 2) (aCons (eVar 3) aNil)))) (eLst (aCons (eC (.str "claim")) (aCons (eVar 4) aNil))))) (dTest (eBin neS (eFn reprW (aCons (eVar 2) aNil)) (eVar 4)))) (sRet (eC (.bl false))) sNil)))
def s_law_1 : DS := (sFor (iSeq (eCall 0 r__law_odds aNil)) (gN 2) b_law_0)
def s_law_2 : DS := (sRet (eCall 0 r__law_hand_right aNil))
def d_law : DS := (sSeq s_law_0 (sSeq s_law_1 s_law_2))
def r_law : Fw := runD 5 d_law
structure Txt (P : Program) (w : World) (K : PySem.W.Frag) (mg : Str → Option Value) (base : Heap) where
  tb__law_hand_right : LamX.TabB base mg (He.cT K ("_law_hand_right", none)).1 (He.cT K ("_law_hand_right", none)).2
  tb_law : LamX.TabB base mg (He.cT K ("law", none)).1 (He.cT K ("law", none)).2
  tnd : ((cl K).T.map (·.1)).Nodup
  htop : (P.main.scope.names.lookup ("super" : Str)).isSome = false
  gx_AskError : mg "AskError" = some (.ref (cl K 2))
  gx_BadRule : mg "BadRule" = some (.ref (cl K 3))
  gx_BadEvents : mg "BadEvents" = some (.ref (cl K 4))
  gx_BadPaper : mg "BadPaper" = some (.ref (cl K 5))
  gx_BadPromise : mg "BadPromise" = some (.ref (cl K 6))
  gx_BadMay : mg "BadMay" = some (.ref (cl K 7))
  gx_BadAbsent : mg "BadAbsent" = some (.ref (cl K 8))
  gx_BadClaim : mg "BadClaim" = some (.ref (cl K 9))
  gx_TooMany : mg "TooMany" = some (.ref (cl K 10))
  fdx_BadRule : FuncData
  x_BadRule : XCls P K (cl K 3) (XD.f K xd_BadRule) fdx_BadRule (XD.nf K xd_BadRule)
  xb_BadRule : Binds K fdx_BadRule ["self", "place"] []
  nf_BadRule_place : PySem.W.findIn K (.ref (cl K 3)) "place" = some none
  fdx_BadEvents : FuncData
  x_BadEvents : XCls P K (cl K 4) (XD.f K xd_BadEvents) fdx_BadEvents (XD.nf K xd_BadEvents)
  xb_BadEvents : Binds K fdx_BadEvents ["self", "number"] []
  nf_BadEvents_number : PySem.W.findIn K (.ref (cl K 4)) "number" = some none
  fdx_BadPaper : FuncData
  x_BadPaper : XCls P K (cl K 5) (XD.f K xd_BadPaper) fdx_BadPaper (XD.nf K xd_BadPaper)
  xb_BadPaper : Binds K fdx_BadPaper ["self", "part"] []
  nf_BadPaper_part : PySem.W.findIn K (.ref (cl K 5)) "part" = some none
  fdx_BadPromise : FuncData
  x_BadPromise : XCls P K (cl K 6) (XD.f K xd_BadPromise) fdx_BadPromise (XD.nf K xd_BadPromise)
  xb_BadPromise : Binds K fdx_BadPromise ["self", "given"] []
  nf_BadPromise_given : PySem.W.findIn K (.ref (cl K 6)) "given" = some none
  fdx_BadMay : FuncData
  x_BadMay : XCls P K (cl K 7) (XD.f K xd_BadMay) fdx_BadMay (XD.nf K xd_BadMay)
  xb_BadMay : Binds K fdx_BadMay ["self", "given"] []
  nf_BadMay_given : PySem.W.findIn K (.ref (cl K 7)) "given" = some none
  fdx_BadAbsent : FuncData
  x_BadAbsent : XCls P K (cl K 8) (XD.f K xd_BadAbsent) fdx_BadAbsent (XD.nf K xd_BadAbsent)
  xb_BadAbsent : Binds K fdx_BadAbsent ["self", "given"] []
  nf_BadAbsent_given : PySem.W.findIn K (.ref (cl K 8)) "given" = some none
  fdx_BadClaim : FuncData
  x_BadClaim : XCls P K (cl K 9) (XD.f K xd_BadClaim) fdx_BadClaim (XD.nf K xd_BadClaim)
  xb_BadClaim : Binds K fdx_BadClaim ["self", "given"] []
  nf_BadClaim_given : PySem.W.findIn K (.ref (cl K 9)) "given" = some none
  mt_BadEvents : Mt K (cl K) 4 l_BadEvents
  mt_BadPaper : Mt K (cl K) 5 l_BadPaper
  mt_BadClaim : Mt K (cl K) 9 l_BadClaim
  is_BadPaper : IsX K (cl K) (.ref (cl K 5)) l_BadPaper
  is_BadClaim : IsX K (cl K) (.ref (cl K 9)) l_BadClaim
  xk_given : XkS K (cl K) cs_given "given"
  xk_part : XkS K (cl K) cs_part "part"
  mta_AskError_TooMany : MtA K (cl K) [2, 10] la_AskError_TooMany
  mta_BadAbsent_BadMay_BadPromise_BadRule : MtA K (cl K) [8, 7, 6, 3] la_BadAbsent_BadMay_BadPromise_BadRule
  kd_SIZES : KD w K mg "SIZES" t_SIZES
  m_all : mg "all" = none
  m_any : mg "any" = none
  m_bool : mg "bool" = none
  m_enumerate : mg "enumerate" = none
  m_int : mg "int" = none
  m_isinstance : mg "isinstance" = none
  m_len : mg "len" = none
  m_list : mg "list" = none
  m_range : mg "range" = none
  m_repr : mg "repr" = none
  m_str : mg "str" = none
  m_super : mg "super" = none
  m_tuple : mg "tuple" = none
  c_LINE : GloW K mg "LINE" w_LINE
  c_ON : GloW K mg "ON" w_ON
  c_ASKS : GloW K mg "ASKS" w_ASKS
  c_OLD : GloW K mg "OLD" w_OLD
  c_TELLS : GloW K mg "TELLS" w_TELLS
  c_QUIET : GloW K mg "QUIET" w_QUIET
  c_TOLD : GloW K mg "TOLD" w_TOLD
  c_MOST_NAMES : GloW K mg "MOST_NAMES" w_MOST_NAMES
  c_CHOICES : GloW K mg "CHOICES" w_CHOICES
  c_HERE : GloW K mg "HERE" w_HERE
  c_OUT : GloW K mg "OUT" w_OUT
  c_LOST : GloW K mg "LOST" w_LOST
  c_AWAY : GloW K mg "AWAY" w_AWAY
  c_COME : GloW K mg "COME" w_COME
  c_LET : GloW K mg "LET" w_LET
  c_LEAVE : GloW K mg "LEAVE" w_LEAVE
  c_BACK : GloW K mg "BACK" w_BACK
  c_DOOR : GloW K mg "DOOR" w_DOOR
  c_PERSONAL : GloW K mg "PERSONAL" w_PERSONAL
  c_MOST_EVENTS : GloW K mg "MOST_EVENTS" w_MOST_EVENTS
  c_MOST_PEOPLE : GloW K mg "MOST_PEOPLE" w_MOST_PEOPLE
  c_SAME : GloW K mg "SAME" w_SAME
  c_PARTED : GloW K mg "PARTED" w_PARTED
  c_FORM : GloW K mg "FORM" w_FORM
  c_SPOT_LOST : GloW K mg "SPOT_LOST" w_SPOT_LOST
  c_ORDER : GloW K mg "ORDER" w_ORDER
  c_PLACE : GloW K mg "PLACE" w_PLACE
  c_DOOR_PROMISE : GloW K mg "DOOR_PROMISE" w_DOOR_PROMISE
  c_ORDER_PROMISE : GloW K mg "ORDER_PROMISE" w_ORDER_PROMISE
  c_PROMISES : GloW K mg "PROMISES" w_PROMISES
  c_MAY_LET : GloW K mg "MAY_LET" w_MAY_LET
  c_MAY_OUT : GloW K mg "MAY_OUT" w_MAY_OUT
  c_MAYS : GloW K mg "MAYS" w_MAYS
  c_MOST_ABSENT : GloW K mg "MOST_ABSENT" w_MOST_ABSENT
  c_KEPT : GloW K mg "KEPT" w_KEPT
  c_BROKEN : GloW K mg "BROKEN" w_BROKEN
  c_ALIKE : GloW K mg "ALIKE" w_ALIKE
  k_Beside : Cls K (cl K 1)
  k_Room : Cls K (cl K 0)
  n_Beside_one_room : NoAttr K (cl K 1) "one_room"
  n_Beside_other_room : NoAttr K (cl K 1) "other_room"
  n_Room_came_so_far : NoAttr K (cl K 0) "came_so_far"
  n_Room_line_now : NoAttr K (cl K 0) "line_now"
  n_Room_own_rule : NoAttr K (cl K 0) "own_rule"
  n_Room_served_so_far : NoAttr K (cl K 0) "served_so_far"
  mt_Beside_can_both : Meth K (cl K 1) "can_both" (He.ma K (He.ga K "Beside") "can_both")
  mt_Beside_parts_by : Meth K (cl K 1) "parts_by" (He.ma K (He.ga K "Beside") "parts_by")
  mt_Room_are_here : Meth K (cl K 0) "are_here" (He.ma K (He.ga K "Room") "are_here")
  mt_Room_bring_back : Meth K (cl K 0) "bring_back" (He.ma K (He.ga K "Room") "bring_back")
  mt_Room_can_be : Meth K (cl K 0) "can_be" (He.ma K (He.ga K "Room") "can_be")
  mt_Room_do : Meth K (cl K 0) "do" (He.ma K (He.ga K "Room") "do")
  mt_Room_do_personal : Meth K (cl K 0) "do_personal" (He.ma K (He.ga K "Room") "do_personal")
  mt_Room_how_is : Meth K (cl K 0) "how_is" (He.ma K (He.ga K "Room") "how_is")
  mt_Room_open_door : Meth K (cl K 0) "open_door" (He.ma K (He.ga K "Room") "open_door")
  mt_Room_put_in : Meth K (cl K 0) "put_in" (He.ma K (He.ga K "Room") "put_in")
  mt_Room_renew_from : Meth K (cl K 0) "renew_from" (He.ma K (He.ga K "Room") "renew_from")
  mk_Beside : Mk K (cl K 1) (He.ma K (He.ga K "Beside") "__init__")
  g_Beside : mg "Beside" = some (.ref (cl K 1))
  mk_Room : Mk K (cl K 0) (He.ma K (He.ga K "Room") "__init__")
  g_Room : mg "Room" = some (.ref (cl K 0))
  fd_is_integer : FuncData
  f_is_integer : FT K mg "is_integer" st_is_integer ["thing"] fd_is_integer
  fd_is_between : FuncData
  f_is_between : FT K mg "is_between" st_is_between ["thing", "least", "most"] fd_is_between
  fd_is_one_of : FuncData
  f_is_one_of : FT K mg "is_one_of" st_is_one_of ["some", "thing"] fd_is_one_of
  fd_need_rule : FuncData
  f_need_rule : FT K mg "need_rule" st_need_rule ["thing"] fd_need_rule
  fd_nearest_ahead : FuncData
  f_nearest_ahead : FT K mg "nearest_ahead" st_nearest_ahead ["rule", "line", "spot"] fd_nearest_ahead
  fd_renewed : FuncData
  f_renewed : FT K mg "renewed" st_renewed ["rule", "line", "spots"] fd_renewed
  fd_spot_of : FuncData
  f_spot_of : FT K mg "spot_of" st_spot_of ["line", "person"] fd_spot_of
  fd_as_how : FuncData
  f_as_how : FT K mg "as_how" st_as_how ["line", "spot", "how"] fd_as_how
  fd_without : FuncData
  f_without : FT K mg "without" st_without ["rule", "line", "person"] fd_without
  fd_forgetting : FuncData
  f_forgetting : FT K mg "forgetting" st_forgetting ["line"] fd_forgetting
  fd_asked_again : FuncData
  f_asked_again : FT K mg "asked_again" st_asked_again ["rule", "line"] fd_asked_again
  fd_claiming : FuncData
  f_claiming : FT K mg "claiming" st_claiming ["rule", "line"] fd_claiming
  fd_has_form : FuncData
  f_has_form : FT K mg "has_form" st_has_form ["thing"] fd_has_form
  fd_Room___init__ : FuncData
  f_Room___init__ : FM K "Room" "__init__" "Room.__init__" st_Room___init__ ["self", "rule"] fd_Room___init__
  fd_Room_put_in : FuncData
  f_Room_put_in : FM K "Room" "put_in" "Room.put_in" st_Room_put_in ["self", "spot"] fd_Room_put_in
  fd_Room_open_door : FuncData
  f_Room_open_door : FM K "Room" "open_door" "Room.open_door" st_Room_open_door ["self"] fd_Room_open_door
  fd_Room_renew_from : FuncData
  f_Room_renew_from : FM K "Room" "renew_from" "Room.renew_from" st_Room_renew_from ["self", "spot"] fd_Room_renew_from
  fd_Room_bring_back : FuncData
  f_Room_bring_back : FM K "Room" "bring_back" "Room.bring_back" st_Room_bring_back ["self", "spot"] fd_Room_bring_back
  fd_Room_do_personal : FuncData
  f_Room_do_personal : FM K "Room" "do_personal" "Room.do_personal" st_Room_do_personal ["self", "word", "person"] fd_Room_do_personal
  fd_Room_do : FuncData
  f_Room_do : FM K "Room" "do" "Room.do" st_Room_do ["self", "event"] fd_Room_do
  fd_Room_how_is : FuncData
  f_Room_how_is : FM K "Room" "how_is" "Room.how_is" st_Room_how_is ["self", "person"] fd_Room_how_is
  fd_Room_are_here : FuncData
  f_Room_are_here : FM K "Room" "are_here" "Room.are_here" st_Room_are_here ["self"] fd_Room_are_here
  fd_Room_can_be : FuncData
  f_Room_can_be : FM K "Room" "can_be" "Room.can_be" st_Room_can_be ["self", "event"] fd_Room_can_be
  fd_room_behind : FuncData
  f_room_behind : FT K mg "room_behind" st_room_behind ["rule", "events"] fd_room_behind
  fd_absent_in : FuncData
  f_absent_in : FT K mg "absent_in" st_absent_in ["line"] fd_absent_in
  fd_normal_of : FuncData
  f_normal_of : FT K mg "normal_of" st_normal_of ["rule"] fd_normal_of
  fd_normal_rule : FuncData
  f_normal_rule : FT K mg "normal_rule" st_normal_rule ["rule"] fd_normal_rule
  fd_are_alike : FuncData
  f_are_alike : FT K mg "are_alike" st_are_alike ["one", "other"] fd_are_alike
  fd_Beside___init__ : FuncData
  f_Beside___init__ : FM K "Beside" "__init__" "Beside.__init__" st_Beside___init__ ["self", "one", "other"] fd_Beside___init__
  fd_Beside_can_both : FuncData
  f_Beside_can_both : FM K "Beside" "can_both" "Beside.can_both" st_Beside_can_both ["self", "event"] fd_Beside_can_both
  fd_Beside_parts_by : FuncData
  f_Beside_parts_by : FM K "Beside" "parts_by" "Beside.parts_by" st_Beside_parts_by ["self", "event"] fd_Beside_parts_by
  fd_parting_in : FuncData
  f_parting_in : FT K mg "parting_in" st_parting_in ["one", "other", "row"] fd_parting_in
  fd_is_paper : FuncData
  f_is_paper : FT K mg "is_paper" st_is_paper ["paper"] fd_is_paper
  fd_check_alike : FuncData
  f_check_alike : FT K mg "check_alike" st_check_alike ["one", "other", "paper"] fd_check_alike
  fd_claims_in : FuncData
  f_claims_in : FT K mg "claims_in" st_claims_in ["room"] fd_claims_in
  fd_door_faults : FuncData
  f_door_faults : FT K mg "door_faults" st_door_faults ["room"] fd_door_faults
  fd_faults_now : FuncData
  f_faults_now : FT K mg "faults_now" st_faults_now ["room", "event"] fd_faults_now
  fd_need_promise : FuncData
  f_need_promise : FT K mg "need_promise" st_need_promise ["thing"] fd_need_promise
  fd_need_may : FuncData
  f_need_may : FT K mg "need_may" st_need_may ["thing"] fd_need_may
  fd_need_absent : FuncData
  f_need_absent : FT K mg "need_absent" st_need_absent ["thing"] fd_need_absent
  fd_is_at_most : FuncData
  f_is_at_most : FT K mg "is_at_most" st_is_at_most ["absent", "number"] fd_is_at_most
  fd_do_renew : FuncData
  f_do_renew : FT K mg "do_renew" st_do_renew ["rule", "may"] fd_do_renew
  fd_keeps_order : FuncData
  f_keeps_order : FT K mg "keeps_order" st_keeps_order ["rule", "may", "absent"] fd_keeps_order
  fd_keeps_door : FuncData
  f_keeps_door : FT K mg "keeps_door" st_keeps_door ["rule", "may", "absent"] fd_keeps_door
  fd_keeps_by : FuncData
  f_keeps_by : FT K mg "keeps_by" st_keeps_by ["rule", "promise", "may", "absent"] fd_keeps_by
  fd_does_keep : FuncData
  f_does_keep : FT K mg "does_keep" st_does_keep ["rule", "promise", "may", "absent"] fd_does_keep
  fd_need_all : FuncData
  f_need_all : FT K mg "need_all" st_need_all ["rule", "promise", "may", "absent"] fd_need_all
  fd_is_row : FuncData
  f_is_row : FT K mg "is_row" st_is_row ["rule", "thing"] fd_is_row
  fd_does_break : FuncData
  f_does_break : FT K mg "does_break" st_does_break ["rule", "promise", "may", "absent", "events"] fd_does_break
  fd_check_promise : FuncData
  f_check_promise : FT K mg "check_promise" st_check_promise ["rule", "promise", "may", "absent", "paper"] fd_check_promise
  fd_need_parts : FuncData
  f_need_parts : FT K mg "need_parts" st_need_parts ["claim"] fd_need_parts
  fd_is_claim : FuncData
  f_is_claim : FT K mg "is_claim" st_is_claim ["thing"] fd_is_claim
  fd_judged : FuncData
  f_judged : FT K mg "judged" st_judged ["claim", "paper"] fd_judged
  fd__law_mixed : FuncData
  f__law_mixed : FT K mg "_law_mixed" st__law_mixed ["_law_cell", "_law_k"] fd__law_mixed
  fd__law_begin : FuncData
  f__law_begin : FT K mg "_law_begin" st__law_begin ["_law_script"] fd__law_begin
  fd__law_draw : FuncData
  f__law_draw : FT K mg "_law_draw" st__law_draw ["_law_state", "_law_many"] fd__law_draw
  fd__law_of : FuncData
  f__law_of : FT K mg "_law_of" st__law_of ["_law_state", "_law_some"] fd__law_of
  fd__law_heard : FuncData
  f__law_heard : FT K mg "_law_heard" st__law_heard ["_law_call"] fd__law_heard
  fd__law_rule : FuncData
  f__law_rule : FT K mg "_law_rule" st__law_rule [] fd__law_rule
  fd__law_odds : FuncData
  f__law_odds : FT K mg "_law_odds" st__law_odds [] fd__law_odds
  fd__law_hand_right : FuncData
  f__law_hand_right : FT K mg "_law_hand_right" st__law_hand_right [] fd__law_hand_right
  fd_law : FuncData
  f_law : FT K mg "law" st_law ["_law_script"] fd_law
section
variable {P : Program} {w : World} {K : PySem.W.Frag} {mg : Str → Option Value} {base : Heap}
theorem ok_x_BadRule (T : Txt P w K mg base) : FnOk P w K mg base (L2.CX P w) 1 (XD.f K xd_BadRule) T.fdx_BadRule ["self", "place"] (spX (cl K 3) ["place"]) :=
  x1_ok (k := 0) T.x_BadRule (show NdefX.NScope _ _ _ (defScope st_x_BadRule) from NdefX.nscope_by (by decide +kernel)) rfl rfl rfl T.htop T.m_super rfl T.nf_BadRule_place (by decide) (by decide) (fun _ => rfl) (fun _ => rfl) (fun _ => rfl) (fun _ => rfl)
theorem ok_x_BadEvents (T : Txt P w K mg base) : FnOk P w K mg base (L2.CX P w) 1 (XD.f K xd_BadEvents) T.fdx_BadEvents ["self", "number"] (spX (cl K 4) ["number"]) :=
  x1_ok (k := 0) T.x_BadEvents (show NdefX.NScope _ _ _ (defScope st_x_BadEvents) from NdefX.nscope_by (by decide +kernel)) rfl rfl rfl T.htop T.m_super rfl T.nf_BadEvents_number (by decide) (by decide) (fun _ => rfl) (fun _ => rfl) (fun _ => rfl) (fun _ => rfl)
theorem ok_x_BadPaper (T : Txt P w K mg base) : FnOk P w K mg base (L2.CX P w) 1 (XD.f K xd_BadPaper) T.fdx_BadPaper ["self", "part"] (spX (cl K 5) ["part"]) :=
  x1_ok (k := 0) T.x_BadPaper (show NdefX.NScope _ _ _ (defScope st_x_BadPaper) from NdefX.nscope_by (by decide +kernel)) rfl rfl rfl T.htop T.m_super rfl T.nf_BadPaper_part (by decide) (by decide) (fun _ => rfl) (fun _ => rfl) (fun _ => rfl) (fun _ => rfl)
theorem ok_x_BadPromise (T : Txt P w K mg base) : FnOk P w K mg base (L2.CX P w) 1 (XD.f K xd_BadPromise) T.fdx_BadPromise ["self", "given"] (spX (cl K 6) ["given"]) :=
  x1_ok (k := 0) T.x_BadPromise (show NdefX.NScope _ _ _ (defScope st_x_BadPromise) from NdefX.nscope_by (by decide +kernel)) rfl rfl rfl T.htop T.m_super rfl T.nf_BadPromise_given (by decide) (by decide) (fun _ => rfl) (fun _ => rfl) (fun _ => rfl) (fun _ => rfl)
theorem ok_x_BadMay (T : Txt P w K mg base) : FnOk P w K mg base (L2.CX P w) 1 (XD.f K xd_BadMay) T.fdx_BadMay ["self", "given"] (spX (cl K 7) ["given"]) :=
  x1_ok (k := 0) T.x_BadMay (show NdefX.NScope _ _ _ (defScope st_x_BadMay) from NdefX.nscope_by (by decide +kernel)) rfl rfl rfl T.htop T.m_super rfl T.nf_BadMay_given (by decide) (by decide) (fun _ => rfl) (fun _ => rfl) (fun _ => rfl) (fun _ => rfl)
theorem ok_x_BadAbsent (T : Txt P w K mg base) : FnOk P w K mg base (L2.CX P w) 1 (XD.f K xd_BadAbsent) T.fdx_BadAbsent ["self", "given"] (spX (cl K 8) ["given"]) :=
  x1_ok (k := 0) T.x_BadAbsent (show NdefX.NScope _ _ _ (defScope st_x_BadAbsent) from NdefX.nscope_by (by decide +kernel)) rfl rfl rfl T.htop T.m_super rfl T.nf_BadAbsent_given (by decide) (by decide) (fun _ => rfl) (fun _ => rfl) (fun _ => rfl) (fun _ => rfl)
theorem ok_x_BadClaim (T : Txt P w K mg base) : FnOk P w K mg base (L2.CX P w) 1 (XD.f K xd_BadClaim) T.fdx_BadClaim ["self", "given"] (spX (cl K 9) ["given"]) :=
  x1_ok (k := 0) T.x_BadClaim (show NdefX.NScope _ _ _ (defScope st_x_BadClaim) from NdefX.nscope_by (by decide +kernel)) rfl rfl rfl T.htop T.m_super rfl T.nf_BadClaim_given (by decide) (by decide) (fun _ => rfl) (fun _ => rfl) (fun _ => rfl) (fun _ => rfl)
theorem sc_is_integer : FnScope N_is_integer ["thing"] (defScope st_is_integer) := ⟨rfl, rfl, rfl, by decide +kernel, rfl, by decide +kernel, by decide +kernel⟩
theorem ok_is_integer (T : Txt P w K mg base) : FnG P w K mg base 1 (He.ga K "is_integer") T.fd_is_integer ["thing"] (spOf K (cl K) 1 r_is_integer) := by
  refine fn_pw (fn_ok (N := N_is_integer) (d := d_is_integer) T.f_is_integer.F sc_is_integer rfl fun cdv A outer s H E hr => ?_)
  have tk := takes_of (X := cxOf (L2.CX P w) P w K mg base N_is_integer "is_integer" (defScope st_is_integer) (He.ga K "is_integer") cdv A outer s H E) (E := E) rfl rfl rfl rfl
  exact (ss_one (ss_ret (se_and (se_isi .int T.m_isinstance T.m_int (by decide +kernel) (sv 0)) (se_one (se_not (se_isi .bl T.m_isinstance T.m_bool (by decide +kernel) (sv 0)))))))
theorem sc_is_between : FnScope N_is_between ["thing", "least", "most"] (defScope st_is_between) := ⟨rfl, rfl, rfl, by decide +kernel, rfl, by decide +kernel, by decide +kernel⟩
theorem ok_is_between (T : Txt P w K mg base) : FnG P w K mg base 2 (He.ga K "is_between") T.fd_is_between ["thing", "least", "most"] (spOf K (cl K) 3 r_is_between) := by
  refine fn_pw (fn_ok (N := N_is_between) (d := d_is_between) T.f_is_between.F sc_is_between rfl fun cdv A outer s H E hr => ?_)
  have tk := takes_of (X := cxOf (L2.CX P w) P w K mg base N_is_between "is_between" (defScope st_is_between) (He.ga K "is_between") cdv A outer s H E) (E := E) rfl rfl rfl rfl
  exact (ss_one (ss_ret (se_and (se_call (ok_is_integer T) (hr.mono (by decide)) T.f_is_integer.g T.f_is_integer.F.kp T.f_is_integer.b tk (sa_cons (sv 0) sa_nil)) (se_one (se_chain op_le b_le op_le w_le (sv 1) (sv 0) (sv 2))))))
theorem sc_is_one_of : FnScope N_is_one_of ["some", "thing"] (defScope st_is_one_of) := ⟨rfl, rfl, rfl, by decide +kernel, rfl, by decide +kernel, by decide +kernel⟩
theorem ok_is_one_of (T : Txt P w K mg base) : FnG P w K mg base 1 (He.ga K "is_one_of") T.fd_is_one_of ["some", "thing"] (spOf K (cl K) 2 r_is_one_of) := by
  refine fn_pw (fn_ok (N := N_is_one_of) (d := d_is_one_of) T.f_is_one_of.F sc_is_one_of rfl fun cdv A outer s H E hr => ?_)
  have tk := takes_of (X := cxOf (L2.CX P w) P w K mg base N_is_one_of "is_one_of" (defScope st_is_one_of) (He.ga K "is_one_of") cdv A outer s H E) (E := E) rfl rfl rfl rfl
  exact (ss_one (ss_ret (se_and (se_isi .str T.m_isinstance T.m_str (by decide +kernel) (sv 1)) (se_one (se_cmp (op_inA (hu65 hr)) w_in (sv 1) (sv 0) rfl)))))
theorem sc_need_rule : FnScope N_need_rule ["thing"] (defScope st_need_rule) := ⟨rfl, rfl, rfl, by decide +kernel, rfl, by decide +kernel, by decide +kernel⟩
theorem ok_need_rule (T : Txt P w K mg base) : FnG P w K mg base 3 (He.ga K "need_rule") T.fd_need_rule ["thing"] (spOf K (cl K) 1 r_need_rule) := by
  refine fn_pw (fn_ok (N := N_need_rule) (d := d_need_rule) T.f_need_rule.F sc_need_rule rfl fun cdv A outer s H E hr => ?_)
  have tk := takes_of (X := cxOf (L2.CX P w) P w K mg base N_need_rule "need_rule" (defScope st_need_rule) (He.ga K "need_rule") cdv A outer s H E) (E := E) rfl rfl rfl rfl
  exact (ss_cons (ss_if (PW.pt (sw_or (st_not (st_val (se_isi .tup T.m_isinstance T.m_tuple (by decide +kernel) (sv 0)))) (sw_or1 (st_cmp (op_neD hr.units) w_ne (se_cb c_len w_len T.m_len boot_len (sa_cons (sv 0) sa_nil)) (se_op o_add w_add se_int (se_cb c_len w_len T.m_len boot_len (sa_cons (se_g T.c_CHOICES) sa_nil))) rfl)))) (ss_one (ss_raise (c := 3) T.x_BadRule (ok_x_BadRule T) (hr.toRoom.mono (by decide)) T.xb_BadRule tk rfl T.gx_BadRule (sa_cons se_non sa_nil))) ss_nil)
    (ss_cons (ss_if (st_not (st_val (se_call (ok_is_between T) (hr.mono (by decide)) T.f_is_between.g T.f_is_between.F.kp T.f_is_between.b tk (sa_cons (se_ix ix_seq w_ix (sv 0) se_int) (sa_cons se_int (sa_cons (se_g T.c_MOST_NAMES) sa_nil)))))) (ss_one (ss_raise (c := 3) T.x_BadRule (ok_x_BadRule T) (hr.toRoom.mono (by decide)) T.xb_BadRule tk rfl T.gx_BadRule (sa_cons se_int sa_nil))) ss_nil)
    (ss_cons (ss_if (st_not (st_val (se_call (ok_is_between T) (hr.mono (by decide)) T.f_is_between.g T.f_is_between.F.kp T.f_is_between.b tk (sa_cons (se_ix ix_seq w_ix (sv 0) se_int) (sa_cons se_int (sa_cons (se_ix ix_seq w_ix (sv 0) se_int) sa_nil)))))) (ss_one (ss_raise (c := 3) T.x_BadRule (ok_x_BadRule T) (hr.toRoom.mono (by decide)) T.xb_BadRule tk rfl T.gx_BadRule (sa_cons se_int sa_nil))) ss_nil)
    (ss_cons (ss_for (passes_of rfl) rfl (si_enum T.m_enumerate (se_g T.c_CHOICES)) (sg_tup rfl (sgs_cons (sg_name (pg_name (i := 1) sc_need_rule.nd rfl (by first | exact Or.inl rfl | exact Or.inr rfl))) (sgs_cons (sg_name (pg_name (i := 2) sc_need_rule.nd rfl (by first | exact Or.inl rfl | exact Or.inr rfl))) sgs_nil)) (gsCons_len (gsCons_len gsNil_len))) (ss_one (ss_if (st_not (st_val (se_call (ok_is_one_of T) (hr.mono (by decide)) T.f_is_one_of.g T.f_is_one_of.F.kp T.f_is_one_of.b tk (sa_cons (sv 2) (sa_cons (se_ix ix_seq w_ix (sv 0) (se_op o_add w_add se_int (sv 1))) sa_nil))))) (ss_one (ss_raise (c := 3) T.x_BadRule (ok_x_BadRule T) (hr.toRoom.mono (by decide)) T.xb_BadRule tk rfl T.gx_BadRule (sa_cons (se_op o_add w_add se_int (sv 1)) sa_nil))) ss_nil)))
    (ss_one (ss_ret (sv 0)))))))
theorem sc_nearest_ahead : FnScope N_nearest_ahead ["rule", "line", "spot"] (defScope st_nearest_ahead) := ⟨rfl, rfl, rfl, by decide +kernel, rfl, by decide +kernel, by decide +kernel⟩
theorem ok_nearest_ahead (T : Txt P w K mg base) : FnG P w K mg base 1 (He.ga K "nearest_ahead") T.fd_nearest_ahead ["rule", "line", "spot"] (spOf K (cl K) 3 r_nearest_ahead) := by
  refine fn_pw (fn_ok (N := N_nearest_ahead) (d := d_nearest_ahead) T.f_nearest_ahead.F sc_nearest_ahead rfl fun cdv A outer s H E hr => ?_)
  have tk := takes_of (X := cxOf (L2.CX P w) P w K mg base N_nearest_ahead "nearest_ahead" (defScope st_nearest_ahead) (He.ga K "nearest_ahead") cdv A outer s H E) (E := E) rfl rfl rfl rfl
  exact (ss_cons (ss_set (i := 3) sc_nearest_ahead.nd rfl (by first | exact Or.inl rfl | exact Or.inr rfl) (se_if (st_cmp (op_eqD hr.units) w_eq (se_ix ix_seq w_ix (sv 0) se_int) (se_g T.c_LINE) rfl) (se_tup (sa_cons (se_g T.c_HERE) (sa_cons (se_g T.c_OUT) (sa_cons (se_g T.c_AWAY) sa_nil)))) (se_tup (sa_cons (se_g T.c_HERE) sa_nil))))
    (ss_cons (ss_setLc (i := 4) (own := [("person", 5), ("how", 6), ("names", 7)]) rfl sc_nearest_ahead.nd rfl rfl (sw_true rfl rfl rfl (by decide +kernel)) (si_seq (se_sl (sv 1) so_none (so_some (sv 2)))) (blkOk_by (N := N_nearest_ahead) (sc := defScope st_nearest_ahead) (by decide +kernel)) (by decide) (fun _ _ _ _ _ => (sg_tup rfl (sgs_cons (sg_name (pg_name (i := 5) sc_nearest_ahead.nd rfl (by first | exact Or.inl rfl | exact Or.inr rfl))) (sgs_cons (sg_name (pg_name (i := 6) sc_nearest_ahead.nd rfl (by first | exact Or.inl rfl | exact Or.inr rfl))) (sgs_cons (sg_name (pg_name (i := 7) sc_nearest_ahead.nd rfl (by first | exact Or.inl rfl | exact Or.inr rfl))) sgs_nil))) (gsCons_len (gsCons_len (gsCons_len gsNil_len))))) (fun _ _ _ _ _ => (stc_one (st_cmp (op_inA (hu65 hr)) w_in (sv 6) (sv 3) rfl))) (fun _ _ _ _ _ => (sv 5)))
    (ss_one (ss_ret (se_ct call_tuple_of w_tuple T.m_tuple (by decide +kernel) (sa_cons (se_sl (se_rev (sv 4)) so_none (so_some (se_ix ix_seq w_ix (sv 0) se_int))) sa_nil))))))
theorem sc_renewed : FnScope N_renewed ["rule", "line", "spots"] (defScope st_renewed) := ⟨rfl, rfl, rfl, by decide +kernel, rfl, by decide +kernel, by decide +kernel⟩
theorem ok_renewed (T : Txt P w K mg base) : FnG P w K mg base 2 (He.ga K "renewed") T.fd_renewed ["rule", "line", "spots"] (spOf K (cl K) 3 r_renewed) := by
  refine fn_pw (fn_ok (N := N_renewed) (d := d_renewed) T.f_renewed.F sc_renewed rfl fun cdv A outer s H E hr => ?_)
  have tk := takes_of (X := cxOf (L2.CX P w) P w K mg base N_renewed "renewed" (defScope st_renewed) (He.ga K "renewed") cdv A outer s H E) (E := E) rfl rfl rfl rfl
  exact (ss_cons (ss_set (i := 3) sc_renewed.nd rfl (by first | exact Or.inl rfl | exact Or.inr rfl) (se_lstM sa_nil))
    (ss_cons (ss_for (passes_of rfl) rfl (si_enum T.m_enumerate (sv 1)) (sg_tup rfl (sgs_cons (sg_name (pg_name (i := 4) sc_renewed.nd rfl (by first | exact Or.inl rfl | exact Or.inr rfl))) (sgs_cons (sg_tup rfl (sgs_cons (sg_name (pg_name (i := 5) sc_renewed.nd rfl (by first | exact Or.inl rfl | exact Or.inr rfl))) (sgs_cons (sg_name (pg_name (i := 6) sc_renewed.nd rfl (by first | exact Or.inl rfl | exact Or.inr rfl))) (sgs_cons (sg_name (pg_name (i := 7) sc_renewed.nd rfl (by first | exact Or.inl rfl | exact Or.inr rfl))) sgs_nil))) (gsCons_len (gsCons_len (gsCons_len gsNil_len)))) sgs_nil)) (gsCons_len (gsCons_len gsNil_len))) (ss_cons (ss_set (i := 8) sc_renewed.nd rfl (by first | exact Or.inl rfl | exact Or.inr rfl) (se_and (se_cmp (op_inA (hu65 hr)) w_in (sv 4) (sv 2) rfl) (se_one (se_cmp (op_eqD hr.units) w_eq (sv 6) (se_g T.c_HERE) rfl))))
    (ss_one (ss_expr (se_app (sv 3) (se_tup (sa_cons (sv 5) (sa_cons (sv 6) (sa_cons (se_if (st_val (sv 8)) (se_call (ok_nearest_ahead T) (hr.mono (by decide)) T.f_nearest_ahead.g T.f_nearest_ahead.F.kp T.f_nearest_ahead.b tk (sa_cons (sv 0) (sa_cons (sv 1) (sa_cons (sv 4) sa_nil)))) (sv 7)) sa_nil)))))))))
    (ss_one (ss_ret (se_ct call_tuple_of w_tuple T.m_tuple (by decide +kernel) (sa_cons (sv 3) sa_nil))))))
theorem sc_spot_of : FnScope N_spot_of ["line", "person"] (defScope st_spot_of) := ⟨rfl, rfl, rfl, by decide +kernel, rfl, by decide +kernel, by decide +kernel⟩
theorem ok_spot_of (T : Txt P w K mg base) : FnG P w K mg base 1 (He.ga K "spot_of") T.fd_spot_of ["line", "person"] (spOf K (cl K) 2 r_spot_of) := by
  refine fn_pw (fn_ok (N := N_spot_of) (d := d_spot_of) T.f_spot_of.F sc_spot_of rfl fun cdv A outer s H E hr => ?_)
  have tk := takes_of (X := cxOf (L2.CX P w) P w K mg base N_spot_of "spot_of" (defScope st_spot_of) (He.ga K "spot_of") cdv A outer s H E) (E := E) rfl rfl rfl rfl
  exact (ss_one (ss_ret (se_idx (se_fz (se_lc (own := [("one", 2), ("how", 3), ("names", 4)]) rfl sc_spot_of.nd (si_seq (sv 0)) (blkOk_by (N := N_spot_of) (sc := defScope st_spot_of) (by decide +kernel)) (by decide) (fun _ _ _ _ _ => (sg_tup rfl (sgs_cons (sg_name (pg_name (i := 2) sc_spot_of.nd rfl (by first | exact Or.inl rfl | exact Or.inr rfl))) (sgs_cons (sg_name (pg_name (i := 3) sc_spot_of.nd rfl (by first | exact Or.inl rfl | exact Or.inr rfl))) (sgs_cons (sg_name (pg_name (i := 4) sc_spot_of.nd rfl (by first | exact Or.inl rfl | exact Or.inr rfl))) sgs_nil))) (gsCons_len (gsCons_len (gsCons_len gsNil_len))))) (fun _ _ _ _ _ => stc_nil) (fun _ _ _ _ _ => (sv 2)))) (sv 1))))
theorem sc_as_how : FnScope N_as_how ["line", "spot", "how"] (defScope st_as_how) := ⟨rfl, rfl, rfl, by decide +kernel, rfl, by decide +kernel, by decide +kernel⟩
theorem ok_as_how (T : Txt P w K mg base) : FnG P w K mg base 1 (He.ga K "as_how") T.fd_as_how ["line", "spot", "how"] (spOf K (cl K) 3 r_as_how) := by
  refine fn_pw (fn_ok (N := N_as_how) (d := d_as_how) T.f_as_how.F sc_as_how rfl fun cdv A outer s H E hr => ?_)
  have tk := takes_of (X := cxOf (L2.CX P w) P w K mg base N_as_how "as_how" (defScope st_as_how) (He.ga K "as_how") cdv A outer s H E) (E := E) rfl rfl rfl rfl
  exact (ss_cons (ss_asg (se_ix ix_seq w_ix (sv 0) (sv 1)) (sg_tup rfl (sgs_cons (sg_name (pg_name (i := 3) sc_as_how.nd rfl (by first | exact Or.inl rfl | exact Or.inr rfl))) (sgs_cons (sg_name (pg_name (i := 4) sc_as_how.nd rfl (by first | exact Or.inl rfl | exact Or.inr rfl))) (sgs_cons (sg_name (pg_name (i := 5) sc_as_how.nd rfl (by first | exact Or.inl rfl | exact Or.inr rfl))) sgs_nil))) (gsCons_len (gsCons_len (gsCons_len gsNil_len)))))
    (ss_one (ss_ret (se_tup (sa_star (se_sl (sv 0) so_none (so_some (sv 1))) (sa_cons (se_tup (sa_cons (sv 3) (sa_cons (sv 2) (sa_cons (se_if (st_cmp (op_eqD hr.units) w_eq (sv 2) (se_g T.c_AWAY) rfl) (se_tup sa_nil) (sv 5)) sa_nil)))) (sa_star (se_sl (sv 0) (so_some (se_op o_add w_add (sv 1) se_int)) so_none) sa_nil)))))))
theorem sc_without : FnScope N_without ["rule", "line", "person"] (defScope st_without) := ⟨rfl, rfl, rfl, by decide +kernel, rfl, by decide +kernel, by decide +kernel⟩
theorem ok_without (T : Txt P w K mg base) : FnG P w K mg base 3 (He.ga K "without") T.fd_without ["rule", "line", "person"] (spOf K (cl K) 3 r_without) := by
  refine fn_pw (fn_ok (N := N_without) (d := d_without) T.f_without.F sc_without rfl fun cdv A outer s H E hr => ?_)
  have tk := takes_of (X := cxOf (L2.CX P w) P w K mg base N_without "without" (defScope st_without) (He.ga K "without") cdv A outer s H E) (E := E) rfl rfl rfl rfl
  exact (ss_cons (ss_par (i := 3) (j := 4) rfl sc_without.nd rfl rfl (by decide) rfl rfl (sa_cons (se_lstM sa_nil) (sa_cons (se_lstM sa_nil) sa_nil)) rfl)
    (ss_cons (ss_for (passes_of rfl) rfl (si_seq (sv 1)) (sg_tup rfl (sgs_cons (sg_name (pg_name (i := 5) sc_without.nd rfl (by first | exact Or.inl rfl | exact Or.inr rfl))) (sgs_cons (sg_name (pg_name (i := 6) sc_without.nd rfl (by first | exact Or.inl rfl | exact Or.inr rfl))) (sgs_cons (sg_name (pg_name (i := 7) sc_without.nd rfl (by first | exact Or.inl rfl | exact Or.inr rfl))) sgs_nil))) (gsCons_len (gsCons_len (gsCons_len gsNil_len)))) (ss_cons (ss_if (st_cmp (op_eqD hr.units) w_eq (sv 5) (sv 2) rfl) (ss_one ss_continue) ss_nil)
    (ss_cons (ss_set (i := 8) sc_without.nd rfl (by first | exact Or.inl rfl | exact Or.inr rfl) (sv 7))
    (ss_cons (ss_if (PW.pt (sw_and (st_cmp (op_eqD hr.units) w_eq (sv 6) (se_g T.c_HERE) rfl) (sw_and1 (st_cmp (op_inA (hu65 hr)) w_in (sv 2) (sv 7) rfl)))) (ss_cons (ss_expr (se_app (sv 4) (se_cb c_len w_len T.m_len boot_len (sa_cons (sv 3) sa_nil))))
    (ss_one (ss_set (i := 8) sc_without.nd rfl (by first | exact Or.inl rfl | exact Or.inr rfl) (se_ct call_tuple_of w_tuple T.m_tuple (by decide +kernel) (sa_cons (se_fz (se_lc (own := [("name", 9)]) rfl sc_without.nd (si_seq (sv 7)) (blkOk_by (N := N_without) (sc := defScope st_without) (by decide +kernel)) (by decide) (fun _ _ _ _ _ => (sg_name (pg_name (i := 9) sc_without.nd rfl (by first | exact Or.inl rfl | exact Or.inr rfl)))) (fun _ _ _ _ _ => (stc_one (st_cmp (op_neD hr.units) w_ne (sv 9) (sv 2) rfl))) (fun _ _ _ _ _ => (sv 9)))) sa_nil))))) ss_nil)
    (ss_one (ss_expr (se_app (sv 3) (se_tup (sa_cons (sv 5) (sa_cons (sv 6) (sa_cons (sv 8) sa_nil)))))))))))
    (ss_one (ss_ret (se_call (ok_renewed T) (hr.mono (by decide)) T.f_renewed.g T.f_renewed.F.kp T.f_renewed.b tk (sa_cons (sv 0) (sa_cons (se_ct call_tuple_of w_tuple T.m_tuple (by decide +kernel) (sa_cons (sv 3) sa_nil)) (sa_cons (se_if (st_cmp (op_eqD hr.units) w_eq (se_ix ix_seq w_ix (sv 0) se_int) (se_g T.c_ON) rfl) (se_frz 4) (se_lst sa_nil)) sa_nil))))))))
theorem sc_forgetting : FnScope N_forgetting ["line"] (defScope st_forgetting) := ⟨rfl, rfl, rfl, by decide +kernel, rfl, by decide +kernel, by decide +kernel⟩
theorem ok_forgetting (T : Txt P w K mg base) : FnG P w K mg base 1 (He.ga K "forgetting") T.fd_forgetting ["line"] (spOf K (cl K) 1 r_forgetting) := by
  refine fn_pw (fn_ok (N := N_forgetting) (d := d_forgetting) T.f_forgetting.F sc_forgetting rfl fun cdv A outer s H E hr => ?_)
  have tk := takes_of (X := cxOf (L2.CX P w) P w K mg base N_forgetting "forgetting" (defScope st_forgetting) (He.ga K "forgetting") cdv A outer s H E) (E := E) rfl rfl rfl rfl
  exact (ss_cons (ss_if (st_val (se_cb (cr_any rfl) w_any T.m_any boot_any (sa_cons (se_fz (se_lc (own := [("person", 1), ("how", 2), ("names", 3)]) rfl sc_forgetting.nd (si_seq (sv 0)) (blkOk_by (N := N_forgetting) (sc := defScope st_forgetting) (by decide +kernel)) (by decide) (fun _ _ _ _ _ => (sg_tup rfl (sgs_cons (sg_name (pg_name (i := 1) sc_forgetting.nd rfl (by first | exact Or.inl rfl | exact Or.inr rfl))) (sgs_cons (sg_name (pg_name (i := 2) sc_forgetting.nd rfl (by first | exact Or.inl rfl | exact Or.inr rfl))) (sgs_cons (sg_name (pg_name (i := 3) sc_forgetting.nd rfl (by first | exact Or.inl rfl | exact Or.inr rfl))) sgs_nil))) (gsCons_len (gsCons_len (gsCons_len gsNil_len))))) (fun _ _ _ _ _ => stc_nil) (fun _ _ _ _ _ => (se_cmp (op_eqD hr.units) w_eq (sv 2) (se_g T.c_HERE) rfl)))) sa_nil))) (ss_one (ss_ret (sv 0))) ss_nil)
    (ss_one (ss_ret (se_ct call_tuple_of w_tuple T.m_tuple (by decide +kernel) (sa_cons (se_fz (se_lc (own := [("person", 1), ("how", 2), ("names", 3)]) rfl sc_forgetting.nd (si_seq (sv 0)) (blkOk_by (N := N_forgetting) (sc := defScope st_forgetting) (by decide +kernel)) (by decide) (fun _ _ _ _ _ => (sg_tup rfl (sgs_cons (sg_name (pg_name (i := 1) sc_forgetting.nd rfl (by first | exact Or.inl rfl | exact Or.inr rfl))) (sgs_cons (sg_name (pg_name (i := 2) sc_forgetting.nd rfl (by first | exact Or.inl rfl | exact Or.inr rfl))) (sgs_cons (sg_name (pg_name (i := 3) sc_forgetting.nd rfl (by first | exact Or.inl rfl | exact Or.inr rfl))) sgs_nil))) (gsCons_len (gsCons_len (gsCons_len gsNil_len))))) (fun _ _ _ _ _ => (stc_one (st_cmp (op_neD hr.units) w_ne (sv 2) (se_g T.c_AWAY) rfl))) (fun _ _ _ _ _ => (se_tup (sa_cons (sv 1) (sa_cons (se_g T.c_LOST) (sa_cons (sv 3) sa_nil))))))) sa_nil)))))
theorem sc_asked_again : FnScope N_asked_again ["rule", "line"] (defScope st_asked_again) := ⟨rfl, rfl, rfl, by decide +kernel, rfl, by decide +kernel, by decide +kernel⟩
theorem ok_asked_again (T : Txt P w K mg base) : FnG P w K mg base 3 (He.ga K "asked_again") T.fd_asked_again ["rule", "line"] (spOf K (cl K) 2 r_asked_again) := by
  refine fn_pw (fn_ok (N := N_asked_again) (d := d_asked_again) T.f_asked_again.F sc_asked_again rfl fun cdv A outer s H E hr => ?_)
  have tk := takes_of (X := cxOf (L2.CX P w) P w K mg base N_asked_again "asked_again" (defScope st_asked_again) (He.ga K "asked_again") cdv A outer s H E) (E := E) rfl rfl rfl rfl
  exact (ss_cons (ss_if (st_cmp (op_neD hr.units) w_ne (se_ix ix_seq w_ix (sv 0) se_int) (se_g T.c_ASKS) rfl) (ss_one (ss_ret (sv 1))) ss_nil)
    (ss_one (ss_ret (se_call (ok_renewed T) (hr.mono (by decide)) T.f_renewed.g T.f_renewed.F.kp T.f_renewed.b tk (sa_cons (sv 0) (sa_cons (sv 1) (sa_cons (se_fz (se_lc (own := [("spot", 2), ("person", 3), ("how", 4), ("names", 5)]) rfl sc_asked_again.nd (si_enum T.m_enumerate (sv 1)) (blkOk_by (N := N_asked_again) (sc := defScope st_asked_again) (by decide +kernel)) (by decide) (fun _ _ _ _ _ => (sg_tup rfl (sgs_cons (sg_name (pg_name (i := 2) sc_asked_again.nd rfl (by first | exact Or.inl rfl | exact Or.inr rfl))) (sgs_cons (sg_tup rfl (sgs_cons (sg_name (pg_name (i := 3) sc_asked_again.nd rfl (by first | exact Or.inl rfl | exact Or.inr rfl))) (sgs_cons (sg_name (pg_name (i := 4) sc_asked_again.nd rfl (by first | exact Or.inl rfl | exact Or.inr rfl))) (sgs_cons (sg_name (pg_name (i := 5) sc_asked_again.nd rfl (by first | exact Or.inl rfl | exact Or.inr rfl))) sgs_nil))) (gsCons_len (gsCons_len (gsCons_len gsNil_len)))) sgs_nil)) (gsCons_len (gsCons_len gsNil_len)))) (fun _ _ _ _ _ => (stc_one (st_cmp (op_eqD hr.units) w_eq (sv 5) (se_tup sa_nil) rfl))) (fun _ _ _ _ _ => (sv 2)))) sa_nil)))))))
theorem sc_claiming : FnScope N_claiming ["rule", "line"] (defScope st_claiming) := ⟨rfl, rfl, rfl, by decide +kernel, rfl, by decide +kernel, by decide +kernel⟩
theorem ok_claiming (T : Txt P w K mg base) : FnG P w K mg base 1 (He.ga K "claiming") T.fd_claiming ["rule", "line"] (spOf K (cl K) 2 r_claiming) := by
  refine fn_pw (fn_ok (N := N_claiming) (d := d_claiming) T.f_claiming.F sc_claiming rfl fun cdv A outer s H E hr => ?_)
  have tk := takes_of (X := cxOf (L2.CX P w) P w K mg base N_claiming "claiming" (defScope st_claiming) (He.ga K "claiming") cdv A outer s H E) (E := E) rfl rfl rfl rfl
  exact (ss_cons (ss_set (i := 2) sc_claiming.nd rfl (by first | exact Or.inl rfl | exact Or.inr rfl) (se_fz (se_lc (own := [("person", 4), ("how", 5), ("names", 6)]) rfl sc_claiming.nd (si_seq (sv 1)) (blkOk_by (N := N_claiming) (sc := defScope st_claiming) (by decide +kernel)) (by decide) (fun _ _ _ _ _ => (sg_tup rfl (sgs_cons (sg_name (pg_name (i := 4) sc_claiming.nd rfl (by first | exact Or.inl rfl | exact Or.inr rfl))) (sgs_cons (sg_name (pg_name (i := 5) sc_claiming.nd rfl (by first | exact Or.inl rfl | exact Or.inr rfl))) (sgs_cons (sg_name (pg_name (i := 6) sc_claiming.nd rfl (by first | exact Or.inl rfl | exact Or.inr rfl))) sgs_nil))) (gsCons_len (gsCons_len (gsCons_len gsNil_len))))) (fun _ _ _ _ _ => (stc_one (st_cmp (op_eqD hr.units) w_eq (sv 5) (se_g T.c_HERE) rfl))) (fun _ _ _ _ _ => (sv 4)))))
    (ss_cons (ss_set (i := 3) sc_claiming.nd rfl (by first | exact Or.inl rfl | exact Or.inr rfl) (se_lstM sa_nil))
    (ss_cons (ss_for (passes_of rfl) rfl (si_seq (sv 1)) (sg_tup rfl (sgs_cons (sg_name (pg_name (i := 4) sc_claiming.nd rfl (by first | exact Or.inl rfl | exact Or.inr rfl))) (sgs_cons (sg_name (pg_name (i := 5) sc_claiming.nd rfl (by first | exact Or.inl rfl | exact Or.inr rfl))) (sgs_cons (sg_name (pg_name (i := 6) sc_claiming.nd rfl (by first | exact Or.inl rfl | exact Or.inr rfl))) sgs_nil))) (gsCons_len (gsCons_len (gsCons_len gsNil_len)))) (ss_one (ss_if (PW.pt (sw_and (st_cmp (op_eqD hr.units) w_eq (sv 5) (se_g T.c_HERE) rfl) (sw_and (st_cmp op_le w_le (se_cb c_len w_len T.m_len boot_len (sa_cons (sv 6) sa_nil)) (se_ix ix_seq w_ix (sv 0) se_int) rfl) (sw_and1 (st_not (st_val (se_cb (cr_any rfl) w_any T.m_any boot_any (sa_cons (se_fz (se_lc (own := [("name", 7)]) rfl sc_claiming.nd (si_seq (sv 6)) (blkOk_by (N := N_claiming) (sc := defScope st_claiming) (by decide +kernel)) (by decide) (fun _ _ _ _ _ => (sg_name (pg_name (i := 7) sc_claiming.nd rfl (by first | exact Or.inl rfl | exact Or.inr rfl)))) (fun _ _ _ _ _ => stc_nil) (fun _ _ _ _ _ => (se_cmp (op_inA (hu65 hr)) w_in (sv 7) (sv 2) rfl)))) sa_nil)))))))) (ss_one (ss_expr (se_app (sv 3) (sv 4)))) ss_nil)))
    (ss_one (ss_ret (sv 3))))))
theorem sc_has_form : FnScope N_has_form ["thing"] (defScope st_has_form) := ⟨rfl, rfl, rfl, by decide +kernel, rfl, by decide +kernel, by decide +kernel⟩
theorem ok_has_form (T : Txt P w K mg base) : FnG P w K mg base 2 (He.ga K "has_form") T.fd_has_form ["thing"] (spOf K (cl K) 1 r_has_form) := by
  refine fn_pw (fn_ok (N := N_has_form) (d := d_has_form) T.f_has_form.F sc_has_form rfl fun cdv A outer s H E hr => ?_)
  have tk := takes_of (X := cxOf (L2.CX P w) P w K mg base N_has_form "has_form" (defScope st_has_form) (He.ga K "has_form") cdv A outer s H E) (E := E) rfl rfl rfl rfl
  exact (ss_cons (ss_if (PW.pt (sw_or (st_not (st_val (se_isi .tup T.m_isinstance T.m_tuple (by decide +kernel) (sv 0)))) (sw_or (st_cmp (op_eqD hr.units) w_eq (sv 0) (se_tup sa_nil) rfl) (sw_or1 (st_not (st_val (se_isi .str T.m_isinstance T.m_str (by decide +kernel) (se_ix ix_seq w_ix (sv 0) se_int)))))))) (ss_one (ss_ret se_bl)) ss_nil)
    (ss_cons (ss_if (st_cmp (op_inA (hu65 hr)) w_in (se_ix ix_seq w_ix (sv 0) se_int) (se_tup (sa_cons (se_g T.c_COME) (sa_cons (se_g T.c_DOOR) sa_nil))) rfl) (ss_one (ss_ret (se_cmp (op_eqD hr.units) w_eq (se_cb c_len w_len T.m_len boot_len (sa_cons (sv 0) sa_nil)) se_int rfl))) ss_nil)
    (ss_one (ss_ret (se_and (se_cmp (op_eqD hr.units) w_eq (se_cb c_len w_len T.m_len boot_len (sa_cons (sv 0) sa_nil)) se_int rfl) (se_and (se_cmp (op_inA (hu65 hr)) w_in (se_ix ix_seq w_ix (sv 0) se_int) (se_g T.c_PERSONAL) rfl) (se_one (se_call (ok_is_integer T) (hr.mono (by decide)) T.f_is_integer.g T.f_is_integer.F.kp T.f_is_integer.b tk (sa_cons (se_ix ix_seq w_ix (sv 0) se_int) sa_nil)))))))))
theorem sc_Room___init__ : FnScope N_Room___init__ ["self", "rule"] (defScope st_Room___init__) := ⟨rfl, rfl, rfl, by decide +kernel, rfl, by decide +kernel, by decide +kernel⟩
theorem ok_Room___init__ (T : Txt P w K mg base) : FnG P w K mg base 1 (He.ma K (He.ga K "Room") "__init__") T.fd_Room___init__ ["self", "rule"] (spOf K (cl K) 2 r_Room___init__) := by
  refine fn_ok (N := N_Room___init__) (d := d_Room___init__) T.f_Room___init__.F sc_Room___init__ rfl fun cdv A outer s H E hr => ?_
  have tk := takes_of (X := cxOf (L2.CX P w) P w K mg base N_Room___init__ "Room.__init__" (defScope st_Room___init__) (He.ma K (He.ga K "Room") "__init__") cdv A outer s H E) (E := E) rfl rfl rfl rfl
  exact (ss_cons (ss_put (c := 0) T.k_Room T.n_Room_own_rule (sv 0) (sv 1))
    (ss_cons (ss_put (c := 0) T.k_Room T.n_Room_line_now (sv 0) (se_tup sa_nil))
    (ss_cons (ss_put (c := 0) T.k_Room T.n_Room_came_so_far (sv 0) se_int)
    (ss_one (ss_put (c := 0) T.k_Room T.n_Room_served_so_far (sv 0) (se_lstM sa_nil))))))
theorem sc_Room_put_in : FnScope N_Room_put_in ["self", "spot"] (defScope st_Room_put_in) := ⟨rfl, rfl, rfl, by decide +kernel, rfl, by decide +kernel, by decide +kernel⟩
theorem ok_Room_put_in (T : Txt P w K mg base) : FnG P w K mg base 3 (He.ma K (He.ga K "Room") "put_in") T.fd_Room_put_in ["self", "spot"] (spOf K (cl K) 2 r_Room_put_in) := by
  refine fn_ok (N := N_Room_put_in) (d := d_Room_put_in) T.f_Room_put_in.F sc_Room_put_in rfl fun cdv A outer s H E hr => ?_
  have tk := takes_of (X := cxOf (L2.CX P w) P w K mg base N_Room_put_in "Room.put_in" (defScope st_Room_put_in) (He.ma K (He.ga K "Room") "put_in") cdv A outer s H E) (E := E) rfl rfl rfl rfl
  exact (ss_cons (ss_set (i := 2) sc_Room_put_in.nd rfl (by first | exact Or.inl rfl | exact Or.inr rfl) (se_tup (sa_cons (se_fld (c := 0) T.k_Room T.n_Room_came_so_far (sv 0)) (sa_cons (se_g T.c_HERE) (sa_cons (se_tup sa_nil) sa_nil)))))
    (ss_cons (ss_put (c := 0) T.k_Room T.n_Room_line_now (sv 0) (se_call (ok_renewed T) (hr.mono (by decide)) T.f_renewed.g T.f_renewed.F.kp T.f_renewed.b tk (sa_cons (se_fld (c := 0) T.k_Room T.n_Room_own_rule (sv 0)) (sa_cons (se_tup (sa_star (se_sl (se_fld (c := 0) T.k_Room T.n_Room_line_now (sv 0)) so_none (so_some (sv 1))) (sa_cons (sv 2) (sa_star (se_sl (se_fld (c := 0) T.k_Room T.n_Room_line_now (sv 0)) (so_some (sv 1)) so_none) sa_nil)))) (sa_cons (se_lst (sa_cons (sv 1) sa_nil)) sa_nil)))))
    (ss_one (ss_putA (c := 0) T.k_Room T.n_Room_came_so_far (sv 0) se_int iop_add w_addI))))
theorem sc_Room_open_door : FnScope N_Room_open_door ["self"] (defScope st_Room_open_door) := ⟨rfl, rfl, rfl, by decide +kernel, rfl, by decide +kernel, by decide +kernel⟩
theorem ok_Room_open_door (T : Txt P w K mg base) : FnG P w K mg base 4 (He.ma K (He.ga K "Room") "open_door") T.fd_Room_open_door ["self"] (spOf K (cl K) 1 r_Room_open_door) := by
  refine fn_ok (N := N_Room_open_door) (d := d_Room_open_door) T.f_Room_open_door.F sc_Room_open_door rfl fun cdv A outer s H E hr => ?_
  have tk := takes_of (X := cxOf (L2.CX P w) P w K mg base N_Room_open_door "Room.open_door" (defScope st_Room_open_door) (He.ma K (He.ga K "Room") "open_door") cdv A outer s H E) (E := E) rfl rfl rfl rfl
  exact (ss_cons (ss_put (c := 0) T.k_Room T.n_Room_line_now (sv 0) (se_call (ok_asked_again T) (hr.mono (by decide)) T.f_asked_again.g T.f_asked_again.F.kp T.f_asked_again.b tk (sa_cons (se_fld (c := 0) T.k_Room T.n_Room_own_rule (sv 0)) (sa_cons (se_fld (c := 0) T.k_Room T.n_Room_line_now (sv 0)) sa_nil))))
    (ss_cons (ss_set (i := 1) sc_Room_open_door.nd rfl (by first | exact Or.inl rfl | exact Or.inr rfl) (se_call (ok_claiming T) (hr.mono (by decide)) T.f_claiming.g T.f_claiming.F.kp T.f_claiming.b tk (sa_cons (se_fld (c := 0) T.k_Room T.n_Room_own_rule (sv 0)) (sa_cons (se_fld (c := 0) T.k_Room T.n_Room_line_now (sv 0)) sa_nil))))
    (ss_one (ss_if (st_cmp (op_eqD hr.units) w_eq (se_cb c_len w_len T.m_len boot_len (sa_cons (sv 1) sa_nil)) se_int rfl) (ss_cons (ss_expr (se_app (se_fld (c := 0) T.k_Room T.n_Room_served_so_far (sv 0)) (se_ix ix_seq w_ix (sv 1) se_int)))
    (ss_one (ss_put (c := 0) T.k_Room T.n_Room_line_now (sv 0) (se_call (ok_without T) (hr.mono (by decide)) T.f_without.g T.f_without.F.kp T.f_without.b tk (sa_cons (se_fld (c := 0) T.k_Room T.n_Room_own_rule (sv 0)) (sa_cons (se_fld (c := 0) T.k_Room T.n_Room_line_now (sv 0)) (sa_cons (se_ix ix_seq w_ix (sv 1) se_int) sa_nil))))))) ss_nil))))
theorem sc_Room_renew_from : FnScope N_Room_renew_from ["self", "spot"] (defScope st_Room_renew_from) := ⟨rfl, rfl, rfl, by decide +kernel, rfl, by decide +kernel, by decide +kernel⟩
theorem ok_Room_renew_from (T : Txt P w K mg base) : FnG P w K mg base 3 (He.ma K (He.ga K "Room") "renew_from") T.fd_Room_renew_from ["self", "spot"] (spOf K (cl K) 2 r_Room_renew_from) := by
  refine fn_ok (N := N_Room_renew_from) (d := d_Room_renew_from) T.f_Room_renew_from.F sc_Room_renew_from rfl fun cdv A outer s H E hr => ?_
  have tk := takes_of (X := cxOf (L2.CX P w) P w K mg base N_Room_renew_from "Room.renew_from" (defScope st_Room_renew_from) (He.ma K (He.ga K "Room") "renew_from") cdv A outer s H E) (E := E) rfl rfl rfl rfl
  exact (ss_one (ss_put (c := 0) T.k_Room T.n_Room_line_now (sv 0) (se_call (ok_renewed T) (hr.mono (by decide)) T.f_renewed.g T.f_renewed.F.kp T.f_renewed.b tk (sa_cons (se_fld (c := 0) T.k_Room T.n_Room_own_rule (sv 0)) (sa_cons (se_fld (c := 0) T.k_Room T.n_Room_line_now (sv 0)) (sa_cons (se_fz (sn_lrg2 rfl T.m_list T.m_range (sv 1) (se_cb c_len w_len T.m_len boot_len (sa_cons (se_fld (c := 0) T.k_Room T.n_Room_line_now (sv 0)) sa_nil)))) sa_nil))))))
theorem sc_Room_bring_back : FnScope N_Room_bring_back ["self", "spot"] (defScope st_Room_bring_back) := ⟨rfl, rfl, rfl, by decide +kernel, rfl, by decide +kernel, by decide +kernel⟩
theorem ok_Room_bring_back (T : Txt P w K mg base) : FnG P w K mg base 4 (He.ma K (He.ga K "Room") "bring_back") T.fd_Room_bring_back ["self", "spot"] (spOf K (cl K) 2 r_Room_bring_back) := by
  refine fn_ok (N := N_Room_bring_back) (d := d_Room_bring_back) T.f_Room_bring_back.F sc_Room_bring_back rfl fun cdv A outer s H E hr => ?_
  have tk := takes_of (X := cxOf (L2.CX P w) P w K mg base N_Room_bring_back "Room.bring_back" (defScope st_Room_bring_back) (He.ma K (He.ga K "Room") "bring_back") cdv A outer s H E) (E := E) rfl rfl rfl rfl
  exact (ss_cons (ss_set (i := 2) sc_Room_bring_back.nd rfl (by first | exact Or.inl rfl | exact Or.inr rfl) (se_ix ix_seq w_ix (se_ix ix_seq w_ix (se_fld (c := 0) T.k_Room T.n_Room_line_now (sv 0)) (sv 1)) se_int))
    (ss_cons (ss_if (PW.pt (sw_and (st_cmp (op_eqD hr.units) w_eq (se_ix ix_seq w_ix (se_fld (c := 0) T.k_Room T.n_Room_own_rule (sv 0)) se_int) (se_g T.c_ASKS) rfl) (sw_and1 (st_cmp (op_eqD hr.units) w_eq (sv 2) (se_g T.c_LOST) rfl)))) (ss_cons (ss_put (c := 0) T.k_Room T.n_Room_line_now (sv 0) (se_tup (sa_star (se_sl (se_fld (c := 0) T.k_Room T.n_Room_line_now (sv 0)) so_none (so_some (sv 1))) (sa_star (se_sl (se_fld (c := 0) T.k_Room T.n_Room_line_now (sv 0)) (so_some (se_op o_add w_add (sv 1) se_int)) so_none) sa_nil))))
    (ss_cons (ss_expr (se_meth (c := 0) (ok_Room_put_in T) (hr.mono (by decide)) T.k_Room T.mt_Room_put_in T.f_Room_put_in.b tk (sv 0) (sa_cons (se_cb c_len w_len T.m_len boot_len (sa_cons (se_fld (c := 0) T.k_Room T.n_Room_line_now (sv 0)) sa_nil)) sa_nil)))
    (ss_one ss_retN))) ss_nil)
    (ss_cons (ss_put (c := 0) T.k_Room T.n_Room_line_now (sv 0) (se_call (ok_as_how T) (hr.mono (by decide)) T.f_as_how.g T.f_as_how.F.kp T.f_as_how.b tk (sa_cons (se_fld (c := 0) T.k_Room T.n_Room_line_now (sv 0)) (sa_cons (sv 1) (sa_cons (se_g T.c_HERE) sa_nil)))))
    (ss_one (ss_if (st_cmp (op_eqD hr.units) w_eq (se_ix ix_seq w_ix (se_fld (c := 0) T.k_Room T.n_Room_own_rule (sv 0)) se_int) (se_g T.c_TELLS) rfl) (ss_one (ss_expr (se_meth (c := 0) (ok_Room_renew_from T) (hr.mono (by decide)) T.k_Room T.mt_Room_renew_from T.f_Room_renew_from.b tk (sv 0) (sa_cons (sv 1) sa_nil)))) (ss_one (ss_if (st_cmp (op_neD hr.units) w_ne (se_ix ix_seq w_ix (se_fld (c := 0) T.k_Room T.n_Room_own_rule (sv 0)) se_int) (se_g T.c_OLD) rfl) (ss_one (ss_put (c := 0) T.k_Room T.n_Room_line_now (sv 0) (se_call (ok_renewed T) (hr.mono (by decide)) T.f_renewed.g T.f_renewed.F.kp T.f_renewed.b tk (sa_cons (se_fld (c := 0) T.k_Room T.n_Room_own_rule (sv 0)) (sa_cons (se_fld (c := 0) T.k_Room T.n_Room_line_now (sv 0)) (sa_cons (se_lst (sa_cons (sv 1) sa_nil)) sa_nil)))))) ss_nil)))))))
theorem sc_Room_do_personal : FnScope N_Room_do_personal ["self", "word", "person"] (defScope st_Room_do_personal) := ⟨rfl, rfl, rfl, by decide +kernel, rfl, by decide +kernel, by decide +kernel⟩
theorem ok_Room_do_personal (T : Txt P w K mg base) : FnG P w K mg base 5 (He.ma K (He.ga K "Room") "do_personal") T.fd_Room_do_personal ["self", "word", "person"] (spOf K (cl K) 3 r_Room_do_personal) := by
  refine fn_ok (N := N_Room_do_personal) (d := d_Room_do_personal) T.f_Room_do_personal.F sc_Room_do_personal rfl fun cdv A outer s H E hr => ?_
  have tk := takes_of (X := cxOf (L2.CX P w) P w K mg base N_Room_do_personal "Room.do_personal" (defScope st_Room_do_personal) (He.ma K (He.ga K "Room") "do_personal") cdv A outer s H E) (E := E) rfl rfl rfl rfl
  exact (ss_cons (ss_set (i := 3) sc_Room_do_personal.nd rfl (by first | exact Or.inl rfl | exact Or.inr rfl) (se_call (ok_spot_of T) (hr.mono (by decide)) T.f_spot_of.g T.f_spot_of.F.kp T.f_spot_of.b tk (sa_cons (se_fld (c := 0) T.k_Room T.n_Room_line_now (sv 0)) (sa_cons (sv 2) sa_nil))))
    (ss_one (ss_if (st_cmp (op_eqD hr.units) w_eq (sv 1) (se_g T.c_LET) rfl) (ss_cons (ss_expr (se_meth (c := 0) (ok_Room_put_in T) (hr.mono (by decide)) T.k_Room T.mt_Room_put_in T.f_Room_put_in.b tk (sv 0) (sa_cons (se_op o_add w_add (sv 3) se_int) sa_nil)))
    (ss_one (ss_if (st_cmp (op_eqD hr.units) w_eq (se_ix ix_seq w_ix (se_fld (c := 0) T.k_Room T.n_Room_own_rule (sv 0)) se_int) (se_g T.c_TOLD) rfl) (ss_one (ss_expr (se_meth (c := 0) (ok_Room_renew_from T) (hr.mono (by decide)) T.k_Room T.mt_Room_renew_from T.f_Room_renew_from.b tk (sv 0) (sa_cons (se_op o_add w_add (sv 3) se_int) sa_nil)))) ss_nil))) (ss_one (ss_if (st_cmp (op_eqD hr.units) w_eq (sv 1) (se_g T.c_LEAVE) rfl) (ss_one (ss_put (c := 0) T.k_Room T.n_Room_line_now (sv 0) (se_call (ok_without T) (hr.mono (by decide)) T.f_without.g T.f_without.F.kp T.f_without.b tk (sa_cons (se_fld (c := 0) T.k_Room T.n_Room_own_rule (sv 0)) (sa_cons (se_fld (c := 0) T.k_Room T.n_Room_line_now (sv 0)) (sa_cons (sv 2) sa_nil)))))) (ss_one (ss_if (st_cmp (op_eqD hr.units) w_eq (sv 1) (se_g T.c_BACK) rfl) (ss_one (ss_expr (se_meth (c := 0) (ok_Room_bring_back T) (hr.mono (by decide)) T.k_Room T.mt_Room_bring_back T.f_Room_bring_back.b tk (sv 0) (sa_cons (sv 3) sa_nil)))) (ss_one (ss_put (c := 0) T.k_Room T.n_Room_line_now (sv 0) (se_call (ok_as_how T) (hr.mono (by decide)) T.f_as_how.g T.f_as_how.F.kp T.f_as_how.b tk (sa_cons (se_fld (c := 0) T.k_Room T.n_Room_line_now (sv 0)) (sa_cons (sv 3) (sa_cons (se_if (st_cmp (op_eqD hr.units) w_eq (sv 1) (se_g T.c_OUT) rfl) (se_g T.c_OUT) (se_g T.c_AWAY)) sa_nil)))))))))))))
theorem sc_Room_do : FnScope N_Room_do ["self", "event"] (defScope st_Room_do) := ⟨rfl, rfl, rfl, by decide +kernel, rfl, by decide +kernel, by decide +kernel⟩
theorem ok_Room_do (T : Txt P w K mg base) : FnG P w K mg base 6 (He.ma K (He.ga K "Room") "do") T.fd_Room_do ["self", "event"] (spOf K (cl K) 2 r_Room_do) := by
  refine fn_ok (N := N_Room_do) (d := d_Room_do) T.f_Room_do.F sc_Room_do rfl fun cdv A outer s H E hr => ?_
  have tk := takes_of (X := cxOf (L2.CX P w) P w K mg base N_Room_do "Room.do" (defScope st_Room_do) (He.ma K (He.ga K "Room") "do") cdv A outer s H E) (E := E) rfl rfl rfl rfl
  exact (ss_cons (ss_if (st_cmp (op_eqD hr.units) w_eq (se_ix ix_seq w_ix (sv 1) se_int) (se_g T.c_COME) rfl) (ss_one (ss_expr (se_meth (c := 0) (ok_Room_put_in T) (hr.mono (by decide)) T.k_Room T.mt_Room_put_in T.f_Room_put_in.b tk (sv 0) (sa_cons (se_cb c_len w_len T.m_len boot_len (sa_cons (se_fld (c := 0) T.k_Room T.n_Room_line_now (sv 0)) sa_nil)) sa_nil)))) (ss_one (ss_if (st_cmp (op_eqD hr.units) w_eq (se_ix ix_seq w_ix (sv 1) se_int) (se_g T.c_DOOR) rfl) (ss_one (ss_expr (se_meth0 (c := 0) (ok_Room_open_door T) (hr.mono (by decide)) T.k_Room T.mt_Room_open_door T.f_Room_open_door.b tk (sv 0)))) (ss_one (ss_expr (se_meth (c := 0) (ok_Room_do_personal T) (hr.mono (by decide)) T.k_Room T.mt_Room_do_personal T.f_Room_do_personal.b tk (sv 0) (sa_cons (se_ix ix_seq w_ix (sv 1) se_int) (sa_cons (se_ix ix_seq w_ix (sv 1) se_int) sa_nil))))))))
    (ss_one (ss_put (c := 0) T.k_Room T.n_Room_line_now (sv 0) (se_call (ok_forgetting T) (hr.mono (by decide)) T.f_forgetting.g T.f_forgetting.F.kp T.f_forgetting.b tk (sa_cons (se_fld (c := 0) T.k_Room T.n_Room_line_now (sv 0)) sa_nil)))))
theorem sc_Room_how_is : FnScope N_Room_how_is ["self", "person"] (defScope st_Room_how_is) := ⟨rfl, rfl, rfl, by decide +kernel, rfl, by decide +kernel, by decide +kernel⟩
theorem ok_Room_how_is (T : Txt P w K mg base) : FnG P w K mg base 1 (He.ma K (He.ga K "Room") "how_is") T.fd_Room_how_is ["self", "person"] (spOf K (cl K) 2 r_Room_how_is) := by
  refine fn_ok (N := N_Room_how_is) (d := d_Room_how_is) T.f_Room_how_is.F sc_Room_how_is rfl fun cdv A outer s H E hr => ?_
  have tk := takes_of (X := cxOf (L2.CX P w) P w K mg base N_Room_how_is "Room.how_is" (defScope st_Room_how_is) (He.ma K (He.ga K "Room") "how_is") cdv A outer s H E) (E := E) rfl rfl rfl rfl
  exact (ss_cons (ss_setLc (i := 2) (own := [("one", 3), ("how", 4), ("names", 5)]) rfl sc_Room_how_is.nd rfl rfl (sw_true rfl rfl rfl (by decide +kernel)) (si_seq (se_fld (c := 0) T.k_Room T.n_Room_line_now (sv 0))) (blkOk_by (N := N_Room_how_is) (sc := defScope st_Room_how_is) (by decide +kernel)) (by decide) (fun _ _ _ _ _ => (sg_tup rfl (sgs_cons (sg_name (pg_name (i := 3) sc_Room_how_is.nd rfl (by first | exact Or.inl rfl | exact Or.inr rfl))) (sgs_cons (sg_name (pg_name (i := 4) sc_Room_how_is.nd rfl (by first | exact Or.inl rfl | exact Or.inr rfl))) (sgs_cons (sg_name (pg_name (i := 5) sc_Room_how_is.nd rfl (by first | exact Or.inl rfl | exact Or.inr rfl))) sgs_nil))) (gsCons_len (gsCons_len (gsCons_len gsNil_len))))) (fun _ _ _ _ _ => (stc_one (st_cmp (op_eqD hr.units) w_eq (sv 3) (sv 1) rfl))) (fun _ _ _ _ _ => (sv 4)))
    (ss_one (ss_ret (se_if (st_cmp (op_neD hr.units) w_ne (sv 2) (se_lst sa_nil) rfl) (se_ix ix_seq w_ix (sv 2) se_int) se_non))))
theorem sc_Room_are_here : FnScope N_Room_are_here ["self"] (defScope st_Room_are_here) := ⟨rfl, rfl, rfl, by decide +kernel, rfl, by decide +kernel, by decide +kernel⟩
theorem ok_Room_are_here (T : Txt P w K mg base) : FnG P w K mg base 1 (He.ma K (He.ga K "Room") "are_here") T.fd_Room_are_here ["self"] (spOf K (cl K) 1 r_Room_are_here) := by
  refine fn_ok (N := N_Room_are_here) (d := d_Room_are_here) T.f_Room_are_here.F sc_Room_are_here rfl fun cdv A outer s H E hr => ?_
  have tk := takes_of (X := cxOf (L2.CX P w) P w K mg base N_Room_are_here "Room.are_here" (defScope st_Room_are_here) (He.ma K (He.ga K "Room") "are_here") cdv A outer s H E) (E := E) rfl rfl rfl rfl
  exact (ss_one (ss_ret (se_fz (se_lc (own := [("person", 1), ("how", 2), ("names", 3)]) rfl sc_Room_are_here.nd (si_seq (se_fld (c := 0) T.k_Room T.n_Room_line_now (sv 0))) (blkOk_by (N := N_Room_are_here) (sc := defScope st_Room_are_here) (by decide +kernel)) (by decide) (fun _ _ _ _ _ => (sg_tup rfl (sgs_cons (sg_name (pg_name (i := 1) sc_Room_are_here.nd rfl (by first | exact Or.inl rfl | exact Or.inr rfl))) (sgs_cons (sg_name (pg_name (i := 2) sc_Room_are_here.nd rfl (by first | exact Or.inl rfl | exact Or.inr rfl))) (sgs_cons (sg_name (pg_name (i := 3) sc_Room_are_here.nd rfl (by first | exact Or.inl rfl | exact Or.inr rfl))) sgs_nil))) (gsCons_len (gsCons_len (gsCons_len gsNil_len))))) (fun _ _ _ _ _ => (stc_one (st_cmp (op_eqD hr.units) w_eq (sv 2) (se_g T.c_HERE) rfl))) (fun _ _ _ _ _ => (sv 1))))))
theorem sc_Room_can_be : FnScope N_Room_can_be ["self", "event"] (defScope st_Room_can_be) := ⟨rfl, rfl, rfl, by decide +kernel, rfl, by decide +kernel, by decide +kernel⟩
theorem ok_Room_can_be (T : Txt P w K mg base) : FnG P w K mg base 2 (He.ma K (He.ga K "Room") "can_be") T.fd_Room_can_be ["self", "event"] (spOf K (cl K) 2 r_Room_can_be) := by
  refine fn_ok (N := N_Room_can_be) (d := d_Room_can_be) T.f_Room_can_be.F sc_Room_can_be rfl fun cdv A outer s H E hr => ?_
  have tk := takes_of (X := cxOf (L2.CX P w) P w K mg base N_Room_can_be "Room.can_be" (defScope st_Room_can_be) (He.ma K (He.ga K "Room") "can_be") cdv A outer s H E) (E := E) rfl rfl rfl rfl
  exact (ss_cons (ss_set (i := 2) sc_Room_can_be.nd rfl (by first | exact Or.inl rfl | exact Or.inr rfl) (se_ix ix_seq w_ix (sv 1) se_int))
    (ss_cons (ss_if (st_cmp (op_eqD hr.units) w_eq (sv 2) (se_g T.c_COME) rfl) (ss_one (ss_ret (se_cmp op_lt w_lt (se_fld (c := 0) T.k_Room T.n_Room_came_so_far (sv 0)) (se_g T.c_MOST_PEOPLE) rfl))) ss_nil)
    (ss_cons (ss_if (st_cmp (op_eqD hr.units) w_eq (sv 2) (se_g T.c_DOOR) rfl) (ss_one (ss_ret (se_cmp (op_neD hr.units) w_ne (se_meth0 (c := 0) (ok_Room_are_here T) (hr.mono (by decide)) T.k_Room T.mt_Room_are_here T.f_Room_are_here.b tk (sv 0)) (se_lst sa_nil) rfl))) ss_nil)
    (ss_cons (ss_set (i := 3) sc_Room_can_be.nd rfl (by first | exact Or.inl rfl | exact Or.inr rfl) (se_meth (c := 0) (ok_Room_how_is T) (hr.mono (by decide)) T.k_Room T.mt_Room_how_is T.f_Room_how_is.b tk (sv 0) (sa_cons (se_ix ix_seq w_ix (sv 1) se_int) sa_nil)))
    (ss_cons (ss_if (st_cmp (op_eqD hr.units) w_eq (sv 2) (se_g T.c_BACK) rfl) (ss_cons (ss_set (i := 4) sc_Room_can_be.nd rfl (by first | exact Or.inl rfl | exact Or.inr rfl) (se_and (se_cmp (op_eqD hr.units) w_eq (sv 3) (se_g T.c_LOST) rfl) (se_one (se_cmp (op_eqD hr.units) w_eq (se_ix ix_seq w_ix (se_fld (c := 0) T.k_Room T.n_Room_own_rule (sv 0)) se_int) (se_g T.c_ASKS) rfl))))
    (ss_one (ss_ret (se_and (se_cmp (op_inA (hu65 hr)) w_in (sv 3) (se_tup (sa_cons (se_g T.c_OUT) (sa_cons (se_g T.c_LOST) sa_nil))) rfl) (se_one (se_or (se_not (sv 4)) (se_one (se_cmp op_lt w_lt (se_fld (c := 0) T.k_Room T.n_Room_came_so_far (sv 0)) (se_g T.c_MOST_PEOPLE) rfl)))))))) ss_nil)
    (ss_one (ss_ret (se_and (se_cmp (op_eqD hr.units) w_eq (sv 3) (se_g T.c_HERE) rfl) (se_one (se_or (se_cmp (op_neD hr.units) w_ne (sv 2) (se_g T.c_LET) rfl) (se_one (se_cmp op_lt w_lt (se_fld (c := 0) T.k_Room T.n_Room_came_so_far (sv 0)) (se_g T.c_MOST_PEOPLE) rfl))))))))))))
theorem sc_room_behind : FnScope N_room_behind ["rule", "events"] (defScope st_room_behind) := ⟨rfl, rfl, rfl, by decide +kernel, rfl, by decide +kernel, by decide +kernel⟩
theorem ok_room_behind (T : Txt P w K mg base) : FnG P w K mg base 7 (He.ga K "room_behind") T.fd_room_behind ["rule", "events"] (spOf K (cl K) 2 r_room_behind) := by
  refine fn_ok (N := N_room_behind) (d := d_room_behind) T.f_room_behind.F sc_room_behind rfl fun cdv A outer s H E hr => ?_
  have tk := takes_of (X := cxOf (L2.CX P w) P w K mg base N_room_behind "room_behind" (defScope st_room_behind) (He.ga K "room_behind") cdv A outer s H E) (E := E) rfl rfl rfl rfl
  exact (ss_cons (ss_if (PW.pt (sw_or (st_not (st_val (se_isi .tup T.m_isinstance T.m_tuple (by decide +kernel) (sv 1)))) (sw_or1 (st_cmp op_gt w_gt (se_cb c_len w_len T.m_len boot_len (sa_cons (sv 1) sa_nil)) (se_g T.c_MOST_EVENTS) rfl)))) (ss_one (ss_raise (c := 4) T.x_BadEvents (ok_x_BadEvents T) (hr.toRoom.mono (by decide)) T.xb_BadEvents tk rfl T.gx_BadEvents (sa_cons se_non sa_nil))) ss_nil)
    (ss_cons (ss_set (i := 2) sc_room_behind.nd rfl (by first | exact Or.inl rfl | exact Or.inr rfl) (se_make (c := 0) T.mk_Room (ok_Room___init__ T) (hr.mono (by decide)) T.g_Room T.f_Room___init__.b tk (sa_cons (sv 0) sa_nil)))
    (ss_cons (ss_for (passes_of rfl) rfl (si_enum T.m_enumerate (sv 1)) (sg_tup rfl (sgs_cons (sg_name (pg_name (i := 3) sc_room_behind.nd rfl (by first | exact Or.inl rfl | exact Or.inr rfl))) (sgs_cons (sg_name (pg_name (i := 4) sc_room_behind.nd rfl (by first | exact Or.inl rfl | exact Or.inr rfl))) sgs_nil)) (gsCons_len (gsCons_len gsNil_len))) (ss_cons (ss_if (PW.pt (sw_or (st_not (st_val (se_call (ok_has_form T) (hr.mono (by decide)) T.f_has_form.g T.f_has_form.F.kp T.f_has_form.b tk (sa_cons (sv 4) sa_nil)))) (sw_or1 (st_not (st_val (se_meth (c := 0) (ok_Room_can_be T) (hr.mono (by decide)) T.k_Room T.mt_Room_can_be T.f_Room_can_be.b tk (sv 2) (sa_cons (sv 4) sa_nil))))))) (ss_one (ss_raise (c := 4) T.x_BadEvents (ok_x_BadEvents T) (hr.toRoom.mono (by decide)) T.xb_BadEvents tk rfl T.gx_BadEvents (sa_cons (sv 3) sa_nil))) ss_nil)
    (ss_one (ss_expr (se_meth (c := 0) (ok_Room_do T) (hr.mono (by decide)) T.k_Room T.mt_Room_do T.f_Room_do.b tk (sv 2) (sa_cons (sv 4) sa_nil))))))
    (ss_one (ss_ret (sv 2))))))
theorem sc_absent_in : FnScope N_absent_in ["line"] (defScope st_absent_in) := ⟨rfl, rfl, rfl, by decide +kernel, rfl, by decide +kernel, by decide +kernel⟩
theorem ok_absent_in (T : Txt P w K mg base) : FnG P w K mg base 1 (He.ga K "absent_in") T.fd_absent_in ["line"] (spOf K (cl K) 1 r_absent_in) := by
  refine fn_pw (fn_ok (N := N_absent_in) (d := d_absent_in) T.f_absent_in.F sc_absent_in rfl fun cdv A outer s H E hr => ?_)
  have tk := takes_of (X := cxOf (L2.CX P w) P w K mg base N_absent_in "absent_in" (defScope st_absent_in) (He.ga K "absent_in") cdv A outer s H E) (E := E) rfl rfl rfl rfl
  exact (ss_one (ss_ret (se_cb c_len w_len T.m_len boot_len (sa_cons (se_fz (se_lc (own := [("person", 1), ("how", 2), ("names", 3)]) rfl sc_absent_in.nd (si_seq (sv 0)) (blkOk_by (N := N_absent_in) (sc := defScope st_absent_in) (by decide +kernel)) (by decide) (fun _ _ _ _ _ => (sg_tup rfl (sgs_cons (sg_name (pg_name (i := 1) sc_absent_in.nd rfl (by first | exact Or.inl rfl | exact Or.inr rfl))) (sgs_cons (sg_name (pg_name (i := 2) sc_absent_in.nd rfl (by first | exact Or.inl rfl | exact Or.inr rfl))) (sgs_cons (sg_name (pg_name (i := 3) sc_absent_in.nd rfl (by first | exact Or.inl rfl | exact Or.inr rfl))) sgs_nil))) (gsCons_len (gsCons_len (gsCons_len gsNil_len))))) (fun _ _ _ _ _ => (stc_one (st_cmp (op_neD hr.units) w_ne (sv 2) (se_g T.c_HERE) rfl))) (fun _ _ _ _ _ => (sv 2)))) sa_nil))))
theorem sc_normal_of : FnScope N_normal_of ["rule"] (defScope st_normal_of) := ⟨rfl, rfl, rfl, by decide +kernel, rfl, by decide +kernel, by decide +kernel⟩
theorem ok_normal_of (T : Txt P w K mg base) : FnG P w K mg base 1 (He.ga K "normal_of") T.fd_normal_of ["rule"] (spOf K (cl K) 1 r_normal_of) := by
  refine fn_pw (fn_ok (N := N_normal_of) (d := d_normal_of) T.f_normal_of.F sc_normal_of rfl fun cdv A outer s H E hr => ?_)
  have tk := takes_of (X := cxOf (L2.CX P w) P w K mg base N_normal_of "normal_of" (defScope st_normal_of) (He.ga K "normal_of") cdv A outer s H E) (E := E) rfl rfl rfl rfl
  exact (ss_cons (ss_asg (sv 0) (sg_tup rfl (sgs_cons (sg_name (pg_name (i := 1) sc_normal_of.nd rfl (by first | exact Or.inl rfl | exact Or.inr rfl))) (sgs_cons (sg_name (pg_name (i := 2) sc_normal_of.nd rfl (by first | exact Or.inl rfl | exact Or.inr rfl))) (sgs_cons (sg_name (pg_name (i := 3) sc_normal_of.nd rfl (by first | exact Or.inl rfl | exact Or.inr rfl))) (sgs_cons (sg_name (pg_name (i := 4) sc_normal_of.nd rfl (by first | exact Or.inl rfl | exact Or.inr rfl))) (sgs_cons (sg_name (pg_name (i := 5) sc_normal_of.nd rfl (by first | exact Or.inl rfl | exact Or.inr rfl))) (sgs_cons (sg_name (pg_name (i := 6) sc_normal_of.nd rfl (by first | exact Or.inl rfl | exact Or.inr rfl))) (sgs_cons (sg_name (pg_name (i := 7) sc_normal_of.nd rfl (by first | exact Or.inl rfl | exact Or.inr rfl))) sgs_nil))))))) (gsCons_len (gsCons_len (gsCons_len (gsCons_len (gsCons_len (gsCons_len (gsCons_len gsNil_len)))))))))
    (ss_cons (ss_if (PW.pt (sw_and (st_cmp (op_eqD hr.units) w_eq (sv 4) (se_g T.c_ON) rfl) (sw_and1 (PW.pt (sw_or (st_cmp (op_eqD hr.units) w_eq (sv 5) (se_g T.c_TELLS) rfl) (sw_or1 (PW.pt (sw_and (st_cmp (op_eqD hr.units) w_eq (sv 5) (se_g T.c_ASKS) rfl) (sw_and1 (st_cmp (op_eqD hr.units) w_eq (sv 3) (se_g T.c_LINE) rfl)))))))))) (ss_one (ss_ret (se_tup (sa_star (se_sl (sv 0) so_none (so_some (se_g T.c_SPOT_LOST))) (sa_cons (se_ix ix_seq w_ix (se_ix ix_seq w_ix (se_g T.c_CHOICES) (se_neg se_int)) se_int) sa_nil))))) ss_nil)
    (ss_one (ss_ret (sv 0)))))
theorem sc_normal_rule : FnScope N_normal_rule ["rule"] (defScope st_normal_rule) := ⟨rfl, rfl, rfl, by decide +kernel, rfl, by decide +kernel, by decide +kernel⟩
theorem ok_normal_rule (T : Txt P w K mg base) : FnG P w K mg base 4 (He.ga K "normal_rule") T.fd_normal_rule ["rule"] (spOf K (cl K) 1 r_normal_rule) := by
  refine fn_pw (fn_ok (N := N_normal_rule) (d := d_normal_rule) T.f_normal_rule.F sc_normal_rule rfl fun cdv A outer s H E hr => ?_)
  have tk := takes_of (X := cxOf (L2.CX P w) P w K mg base N_normal_rule "normal_rule" (defScope st_normal_rule) (He.ga K "normal_rule") cdv A outer s H E) (E := E) rfl rfl rfl rfl
  exact (ss_one (ss_ret (se_call (ok_normal_of T) (hr.mono (by decide)) T.f_normal_of.g T.f_normal_of.F.kp T.f_normal_of.b tk (sa_cons (se_call (ok_need_rule T) (hr.mono (by decide)) T.f_need_rule.g T.f_need_rule.F.kp T.f_need_rule.b tk (sa_cons (sv 0) sa_nil)) sa_nil))))
theorem sc_are_alike : FnScope N_are_alike ["one", "other"] (defScope st_are_alike) := ⟨rfl, rfl, rfl, by decide +kernel, rfl, by decide +kernel, by decide +kernel⟩
theorem ok_are_alike (T : Txt P w K mg base) : FnG P w K mg base 5 (He.ga K "are_alike") T.fd_are_alike ["one", "other"] (spOf K (cl K) 2 r_are_alike) := by
  refine fn_pw (fn_ok (N := N_are_alike) (d := d_are_alike) T.f_are_alike.F sc_are_alike rfl fun cdv A outer s H E hr => ?_)
  have tk := takes_of (X := cxOf (L2.CX P w) P w K mg base N_are_alike "are_alike" (defScope st_are_alike) (He.ga K "are_alike") cdv A outer s H E) (E := E) rfl rfl rfl rfl
  exact (ss_one (ss_ret (se_cmp (op_eqD hr.units) w_eq (se_call (ok_normal_rule T) (hr.mono (by decide)) T.f_normal_rule.g T.f_normal_rule.F.kp T.f_normal_rule.b tk (sa_cons (sv 0) sa_nil)) (se_call (ok_normal_rule T) (hr.mono (by decide)) T.f_normal_rule.g T.f_normal_rule.F.kp T.f_normal_rule.b tk (sa_cons (sv 1) sa_nil)) rfl)))
theorem sc_Beside___init__ : FnScope N_Beside___init__ ["self", "one", "other"] (defScope st_Beside___init__) := ⟨rfl, rfl, rfl, by decide +kernel, rfl, by decide +kernel, by decide +kernel⟩
theorem ok_Beside___init__ (T : Txt P w K mg base) : FnG P w K mg base 3 (He.ma K (He.ga K "Beside") "__init__") T.fd_Beside___init__ ["self", "one", "other"] (spOf K (cl K) 3 r_Beside___init__) := by
  refine fn_ok (N := N_Beside___init__) (d := d_Beside___init__) T.f_Beside___init__.F sc_Beside___init__ rfl fun cdv A outer s H E hr => ?_
  have tk := takes_of (X := cxOf (L2.CX P w) P w K mg base N_Beside___init__ "Beside.__init__" (defScope st_Beside___init__) (He.ma K (He.ga K "Beside") "__init__") cdv A outer s H E) (E := E) rfl rfl rfl rfl
  exact (ss_cons (ss_put (c := 1) T.k_Beside T.n_Beside_one_room (sv 0) (se_make (c := 0) T.mk_Room (ok_Room___init__ T) (hr.mono (by decide)) T.g_Room T.f_Room___init__.b tk (sa_cons (sv 1) sa_nil)))
    (ss_one (ss_put (c := 1) T.k_Beside T.n_Beside_other_room (sv 0) (se_make (c := 0) T.mk_Room (ok_Room___init__ T) (hr.mono (by decide)) T.g_Room T.f_Room___init__.b tk (sa_cons (sv 2) sa_nil)))))
theorem sc_Beside_can_both : FnScope N_Beside_can_both ["self", "event"] (defScope st_Beside_can_both) := ⟨rfl, rfl, rfl, by decide +kernel, rfl, by decide +kernel, by decide +kernel⟩
theorem ok_Beside_can_both (T : Txt P w K mg base) : FnG P w K mg base 3 (He.ma K (He.ga K "Beside") "can_both") T.fd_Beside_can_both ["self", "event"] (spOf K (cl K) 2 r_Beside_can_both) := by
  refine fn_ok (N := N_Beside_can_both) (d := d_Beside_can_both) T.f_Beside_can_both.F sc_Beside_can_both rfl fun cdv A outer s H E hr => ?_
  have tk := takes_of (X := cxOf (L2.CX P w) P w K mg base N_Beside_can_both "Beside.can_both" (defScope st_Beside_can_both) (He.ma K (He.ga K "Beside") "can_both") cdv A outer s H E) (E := E) rfl rfl rfl rfl
  exact (ss_one (ss_ret (se_lst (sa_cons (se_meth (c := 0) (ok_Room_can_be T) (hr.mono (by decide)) T.k_Room T.mt_Room_can_be T.f_Room_can_be.b tk (se_fld (c := 1) T.k_Beside T.n_Beside_one_room (sv 0)) (sa_cons (sv 1) sa_nil)) (sa_cons (se_meth (c := 0) (ok_Room_can_be T) (hr.mono (by decide)) T.k_Room T.mt_Room_can_be T.f_Room_can_be.b tk (se_fld (c := 1) T.k_Beside T.n_Beside_other_room (sv 0)) (sa_cons (sv 1) sa_nil)) sa_nil)))))
theorem sc_Beside_parts_by : FnScope N_Beside_parts_by ["self", "event"] (defScope st_Beside_parts_by) := ⟨rfl, rfl, rfl, by decide +kernel, rfl, by decide +kernel, by decide +kernel⟩
theorem ok_Beside_parts_by (T : Txt P w K mg base) : FnG P w K mg base 7 (He.ma K (He.ga K "Beside") "parts_by") T.fd_Beside_parts_by ["self", "event"] (spOf K (cl K) 2 r_Beside_parts_by) := by
  refine fn_ok (N := N_Beside_parts_by) (d := d_Beside_parts_by) T.f_Beside_parts_by.F sc_Beside_parts_by rfl fun cdv A outer s H E hr => ?_
  have tk := takes_of (X := cxOf (L2.CX P w) P w K mg base N_Beside_parts_by "Beside.parts_by" (defScope st_Beside_parts_by) (He.ma K (He.ga K "Beside") "parts_by") cdv A outer s H E) (E := E) rfl rfl rfl rfl
  exact (ss_cons (ss_set (i := 2) sc_Beside_parts_by.nd rfl (by first | exact Or.inl rfl | exact Or.inr rfl) (se_meth (c := 1) (ok_Beside_can_both T) (hr.mono (by decide)) T.k_Beside T.mt_Beside_can_both T.f_Beside_can_both.b tk (sv 0) (sa_cons (sv 1) sa_nil)))
    (ss_cons (ss_if (st_cmp (op_neD hr.units) w_ne (sv 2) (se_lst (sa_cons se_bl (sa_cons se_bl sa_nil))) rfl) (ss_one (ss_ret se_bl)) ss_nil)
    (ss_cons (ss_expr (se_meth (c := 0) (ok_Room_do T) (hr.mono (by decide)) T.k_Room T.mt_Room_do T.f_Room_do.b tk (se_fld (c := 1) T.k_Beside T.n_Beside_one_room (sv 0)) (sa_cons (sv 1) sa_nil)))
    (ss_cons (ss_expr (se_meth (c := 0) (ok_Room_do T) (hr.mono (by decide)) T.k_Room T.mt_Room_do T.f_Room_do.b tk (se_fld (c := 1) T.k_Beside T.n_Beside_other_room (sv 0)) (sa_cons (sv 1) sa_nil)))
    (ss_one (ss_ret (se_cmp (op_neD hr.units) w_ne (se_fld (c := 0) T.k_Room T.n_Room_line_now (se_fld (c := 1) T.k_Beside T.n_Beside_one_room (sv 0))) (se_fld (c := 0) T.k_Room T.n_Room_line_now (se_fld (c := 1) T.k_Beside T.n_Beside_other_room (sv 0))) rfl)))))))
theorem sc_parting_in : FnScope N_parting_in ["one", "other", "row"] (defScope st_parting_in) := ⟨rfl, rfl, rfl, by decide +kernel, rfl, by decide +kernel, by decide +kernel⟩
theorem ok_parting_in (T : Txt P w K mg base) : FnG P w K mg base 8 (He.ga K "parting_in") T.fd_parting_in ["one", "other", "row"] (spOf K (cl K) 3 r_parting_in) := by
  refine fn_pw (fn_ok (N := N_parting_in) (d := d_parting_in) T.f_parting_in.F sc_parting_in rfl fun cdv A outer s H E hr => ?_)
  have tk := takes_of (X := cxOf (L2.CX P w) P w K mg base N_parting_in "parting_in" (defScope st_parting_in) (He.ga K "parting_in") cdv A outer s H E) (E := E) rfl rfl rfl rfl
  exact (ss_cons (ss_set (i := 3) sc_parting_in.nd rfl (by first | exact Or.inl rfl | exact Or.inr rfl) (se_make (c := 1) T.mk_Beside (ok_Beside___init__ T) (hr.mono (by decide)) T.g_Beside T.f_Beside___init__.b tk (sa_cons (sv 0) (sa_cons (sv 1) sa_nil))))
    (ss_cons (ss_for (passes_of rfl) rfl (si_enum T.m_enumerate (sv 2)) (sg_tup rfl (sgs_cons (sg_name (pg_name (i := 4) sc_parting_in.nd rfl (by first | exact Or.inl rfl | exact Or.inr rfl))) (sgs_cons (sg_name (pg_name (i := 5) sc_parting_in.nd rfl (by first | exact Or.inl rfl | exact Or.inr rfl))) sgs_nil)) (gsCons_len (gsCons_len gsNil_len))) (ss_cons (ss_if (st_cmp (op_notInA (hu65 hr)) w_in se_bl (se_meth (c := 1) (ok_Beside_can_both T) (hr.mono (by decide)) T.k_Beside T.mt_Beside_can_both T.f_Beside_can_both.b tk (sv 3) (sa_cons (sv 5) sa_nil)) rfl) (ss_one (ss_ret se_non)) ss_nil)
    (ss_one (ss_if (st_val (se_meth (c := 1) (ok_Beside_parts_by T) (hr.mono (by decide)) T.k_Beside T.mt_Beside_parts_by T.f_Beside_parts_by.b tk (sv 3) (sa_cons (sv 5) sa_nil))) (ss_one (ss_ret (se_sl (sv 2) so_none (so_some (se_op o_add w_add (sv 4) se_int))))) ss_nil))))
    (ss_one (ss_ret se_non))))
theorem sc_is_paper : FnScope N_is_paper ["paper"] (defScope st_is_paper) := ⟨rfl, rfl, rfl, by decide +kernel, rfl, by decide +kernel, by decide +kernel⟩
theorem ok_is_paper (T : Txt P w K mg base) : FnG P w K mg base 3 (He.ga K "is_paper") T.fd_is_paper ["paper"] (spOf K (cl K) 1 r_is_paper) := by
  refine fn_pw (fn_ok (N := N_is_paper) (d := d_is_paper) T.f_is_paper.F sc_is_paper rfl fun cdv A outer s H E hr => ?_)
  have tk := takes_of (X := cxOf (L2.CX P w) P w K mg base N_is_paper "is_paper" (defScope st_is_paper) (He.ga K "is_paper") cdv A outer s H E) (E := E) rfl rfl rfl rfl
  exact (ss_cons (ss_if (PW.pt (sw_or (st_not (st_val (se_isi .tup T.m_isinstance T.m_tuple (by decide +kernel) (sv 0)))) (sw_or (st_cmp (op_eqT0 hr.units) w_eqT0 (sv 0) (se_tup sa_nil) rfl) (sw_or1 (st_not (st_val (se_isi .str T.m_isinstance T.m_str (by decide +kernel) (se_ix ix_seq w_ix (sv 0) se_int)))))))) (ss_one (ss_ret se_bl)) ss_nil)
    (ss_cons (ss_if (st_cmp (op_eqD hr.units) w_eq (se_ix ix_seq w_ix (sv 0) se_int) (se_g T.c_SAME) rfl) (ss_one (ss_ret (se_cmp (op_eqD hr.units) w_eq (se_cb c_len w_len T.m_len boot_len (sa_cons (sv 0) sa_nil)) se_int rfl))) ss_nil)
    (ss_cons (ss_if (PW.pt (sw_or (st_cmp (op_neD hr.units) w_ne (se_ix ix_seq w_ix (sv 0) se_int) (se_g T.c_PARTED) rfl) (sw_or (st_cmp (op_neD hr.units) w_ne (se_cb c_len w_len T.m_len boot_len (sa_cons (sv 0) sa_nil)) se_int rfl) (sw_or1 (st_not (st_val (se_isi .tup T.m_isinstance T.m_tuple (by decide +kernel) (se_ix ix_seq w_ix (sv 0) se_int)))))))) (ss_one (ss_ret se_bl)) ss_nil)
    (ss_one (ss_ret (se_and (se_cmp op_le w_le (se_cb c_len w_len T.m_len boot_len (sa_cons (se_ix ix_seq w_ix (sv 0) se_int) sa_nil)) (se_g T.c_MOST_EVENTS) rfl) (se_one (se_cb (cr_all rfl) w_all T.m_all boot_all (sa_cons (se_fz (se_lc (own := [("event", 1)]) rfl sc_is_paper.nd (si_seq (se_ix ix_seq w_ix (sv 0) se_int)) (blkOk_by (N := N_is_paper) (sc := defScope st_is_paper) (by decide +kernel)) (by decide) (fun _ _ _ _ _ => (sg_name (pg_name (i := 1) sc_is_paper.nd rfl (by first | exact Or.inl rfl | exact Or.inr rfl)))) (fun _ _ _ _ _ => stc_nil) (fun _ _ _ _ _ => (se_call (ok_has_form T) (hr.mono (by decide)) T.f_has_form.g T.f_has_form.F.kp T.f_has_form.b takes0 (sa_cons (sv 1) sa_nil))))) sa_nil)))))))))
theorem sc_check_alike : FnScope N_check_alike ["one", "other", "paper"] (defScope st_check_alike) := ⟨rfl, rfl, rfl, by decide +kernel, rfl, by decide +kernel, by decide +kernel⟩
theorem ok_check_alike (T : Txt P w K mg base) : FnG P w K mg base 9 (He.ga K "check_alike") T.fd_check_alike ["one", "other", "paper"] (spOf K (cl K) 3 r_check_alike) := by
  refine fn_pw (fn_ok (N := N_check_alike) (d := d_check_alike) T.f_check_alike.F sc_check_alike rfl fun cdv A outer s H E hr => ?_)
  have tk := takes_of (X := cxOf (L2.CX P w) P w K mg base N_check_alike "check_alike" (defScope st_check_alike) (He.ga K "check_alike") cdv A outer s H E) (E := E) rfl rfl rfl rfl
  exact (ss_cons (ss_set (i := 3) sc_check_alike.nd rfl (by first | exact Or.inl rfl | exact Or.inr rfl) (se_call (ok_are_alike T) (hr.mono (by decide)) T.f_are_alike.g T.f_are_alike.F.kp T.f_are_alike.b tk (sa_cons (sv 0) (sa_cons (sv 1) sa_nil))))
    (ss_cons (ss_if (st_not (st_val (se_call (ok_is_paper T) (hr.mono (by decide)) T.f_is_paper.g T.f_is_paper.F.kp T.f_is_paper.b tk (sa_cons (sv 2) sa_nil)))) (ss_one (ss_raise (c := 5) T.x_BadPaper (ok_x_BadPaper T) (hr.toRoom.mono (by decide)) T.xb_BadPaper tk rfl T.gx_BadPaper (sa_cons (se_g T.c_FORM) sa_nil))) ss_nil)
    (ss_cons (ss_if (st_cmp (op_eqD hr.units) w_eq (se_ix ix_seq w_ix (sv 2) se_int) (se_g T.c_SAME) rfl) (ss_cons (ss_if (st_not (st_val (sv 3))) (ss_one (ss_raise (c := 5) T.x_BadPaper (ok_x_BadPaper T) (hr.toRoom.mono (by decide)) T.xb_BadPaper tk rfl T.gx_BadPaper (sa_cons (se_g T.c_SAME) sa_nil))) ss_nil)
    (ss_one (ss_ret (se_g T.c_SAME)))) ss_nil)
    (ss_cons (ss_if (PW.pt (sw_or (st_cmp (op_eqT0 hr.units) w_eqT0 (se_ix ix_seq w_ix (sv 2) se_int) (se_tup sa_nil) rfl) (sw_or1 (st_cmp (op_neD hr.units) w_ne (se_call (ok_parting_in T) (hr.mono (by decide)) T.f_parting_in.g T.f_parting_in.F.kp T.f_parting_in.b tk (sa_cons (sv 0) (sa_cons (sv 1) (sa_cons (se_ix ix_seq w_ix (sv 2) se_int) sa_nil)))) (se_ix ix_seq w_ix (sv 2) se_int) rfl)))) (ss_one (ss_raise (c := 5) T.x_BadPaper (ok_x_BadPaper T) (hr.toRoom.mono (by decide)) T.xb_BadPaper tk rfl T.gx_BadPaper (sa_cons (se_g T.c_PARTED) sa_nil))) ss_nil)
    (ss_one (ss_ret (se_g T.c_PARTED)))))))
theorem sc_claims_in : FnScope N_claims_in ["room"] (defScope st_claims_in) := ⟨rfl, rfl, rfl, by decide +kernel, rfl, by decide +kernel, by decide +kernel⟩
theorem ok_claims_in (T : Txt P w K mg base) : FnG P w K mg base 4 (He.ga K "claims_in") T.fd_claims_in ["room"] (spOf K (cl K) 1 r_claims_in) := by
  refine fn_ok (N := N_claims_in) (d := d_claims_in) T.f_claims_in.F sc_claims_in rfl fun cdv A outer s H E hr => ?_
  have tk := takes_of (X := cxOf (L2.CX P w) P w K mg base N_claims_in "claims_in" (defScope st_claims_in) (He.ga K "claims_in") cdv A outer s H E) (E := E) rfl rfl rfl rfl
  exact (ss_one (ss_ret (se_call (ok_claiming T) (hr.mono (by decide)) T.f_claiming.g T.f_claiming.F.kp T.f_claiming.b tk (sa_cons (se_fld (c := 0) T.k_Room T.n_Room_own_rule (sv 0)) (sa_cons (se_call (ok_asked_again T) (hr.mono (by decide)) T.f_asked_again.g T.f_asked_again.F.kp T.f_asked_again.b tk (sa_cons (se_fld (c := 0) T.k_Room T.n_Room_own_rule (sv 0)) (sa_cons (se_fld (c := 0) T.k_Room T.n_Room_line_now (sv 0)) sa_nil))) sa_nil)))))
theorem sc_door_faults : FnScope N_door_faults ["room"] (defScope st_door_faults) := ⟨rfl, rfl, rfl, by decide +kernel, rfl, by decide +kernel, by decide +kernel⟩
theorem ok_door_faults (T : Txt P w K mg base) : FnG P w K mg base 5 (He.ga K "door_faults") T.fd_door_faults ["room"] (spOf K (cl K) 1 r_door_faults) := by
  refine fn_ok (N := N_door_faults) (d := d_door_faults) T.f_door_faults.F sc_door_faults rfl fun cdv A outer s H E hr => ?_
  have tk := takes_of (X := cxOf (L2.CX P w) P w K mg base N_door_faults "door_faults" (defScope st_door_faults) (He.ga K "door_faults") cdv A outer s H E) (E := E) rfl rfl rfl rfl
  exact (ss_cons (ss_asg (se_tup (sa_cons (se_meth0 (c := 0) (ok_Room_are_here T) (hr.mono (by decide)) T.k_Room T.mt_Room_are_here T.f_Room_are_here.b tk (sv 0)) (sa_cons (se_call (ok_claims_in T) (hr.mono (by decide)) T.f_claims_in.g T.f_claims_in.F.kp T.f_claims_in.b tk (sa_cons (sv 0) sa_nil)) sa_nil))) (sg_tup rfl (sgs_cons (sg_name (pg_name (i := 1) sc_door_faults.nd rfl (by first | exact Or.inl rfl | exact Or.inr rfl))) (sgs_cons (sg_name (pg_name (i := 2) sc_door_faults.nd rfl (by first | exact Or.inl rfl | exact Or.inr rfl))) sgs_nil)) (gsCons_len (gsCons_len gsNil_len))))
    (ss_cons (ss_setLc (i := 3) (own := [("person", 4)]) rfl sc_door_faults.nd rfl rfl (sw_true rfl rfl rfl (by decide +kernel)) (si_seq (sv 2)) (blkOk_by (N := N_door_faults) (sc := defScope st_door_faults) (by decide +kernel)) (by decide) (fun _ _ _ _ _ => (sg_name (pg_name (i := 4) sc_door_faults.nd rfl (by first | exact Or.inl rfl | exact Or.inr rfl)))) (fun _ _ _ _ _ => (stc_one (st_cmp (op_neD hr.units) w_ne (sv 4) (se_ix ix_seq w_ix (sv 1) se_int) rfl))) (fun _ _ _ _ _ => (se_tup (sa_cons (se_g T.c_ORDER) (sa_cons (sv 4) sa_nil)))))
    (ss_one (ss_ret (se_if (st_cmp (op_inA (hu65 hr)) w_in (se_ix ix_seq w_ix (sv 1) se_int) (sv 2) rfl) (sv 3) (se_op o_add w_add (sv 3) (se_lst (sa_cons (se_tup (sa_cons (se_g T.c_DOOR) (sa_cons (se_ix ix_seq w_ix (sv 1) se_int) sa_nil))) sa_nil))))))))
theorem sc_faults_now : FnScope N_faults_now ["room", "event"] (defScope st_faults_now) := ⟨rfl, rfl, rfl, by decide +kernel, rfl, by decide +kernel, by decide +kernel⟩
theorem ok_faults_now (T : Txt P w K mg base) : FnG P w K mg base 6 (He.ga K "faults_now") T.fd_faults_now ["room", "event"] (spOf K (cl K) 2 r_faults_now) := by
  refine fn_ok (N := N_faults_now) (d := d_faults_now) T.f_faults_now.F sc_faults_now rfl fun cdv A outer s H E hr => ?_
  have tk := takes_of (X := cxOf (L2.CX P w) P w K mg base N_faults_now "faults_now" (defScope st_faults_now) (He.ga K "faults_now") cdv A outer s H E) (E := E) rfl rfl rfl rfl
  exact (ss_cons (ss_if (st_cmp (op_eqD hr.units) w_eq (se_ix ix_seq w_ix (sv 1) se_int) (se_g T.c_DOOR) rfl) (ss_one (ss_ret (se_call (ok_door_faults T) (hr.mono (by decide)) T.f_door_faults.g T.f_door_faults.F.kp T.f_door_faults.b tk (sa_cons (sv 0) sa_nil)))) ss_nil)
    (ss_cons (ss_if (PW.pt (sw_or (st_cmp (op_neD hr.units) w_ne (se_ix ix_seq w_ix (sv 1) se_int) (se_g T.c_BACK) rfl) (sw_or (st_cmp (op_neD hr.units) w_ne (se_ix ix_seq w_ix (se_fld (c := 0) T.k_Room T.n_Room_own_rule (sv 0)) se_int) (se_g T.c_ASKS) rfl) (sw_or1 (st_cmp (op_neD hr.units) w_ne (se_meth (c := 0) (ok_Room_how_is T) (hr.mono (by decide)) T.k_Room T.mt_Room_how_is T.f_Room_how_is.b tk (sv 0) (sa_cons (se_ix ix_seq w_ix (sv 1) se_int) sa_nil)) (se_g T.c_LOST) rfl))))) (ss_one (ss_ret (se_lst sa_nil))) ss_nil)
    (ss_one (ss_ret (se_if (st_cmp (op_neD hr.units) w_ne (se_ix ix_seq w_ix (se_ix ix_seq w_ix (se_fld (c := 0) T.k_Room T.n_Room_line_now (sv 0)) (se_neg se_int)) se_int) (se_ix ix_seq w_ix (sv 1) se_int) rfl) (se_lst (sa_cons (se_tup (sa_cons (se_g T.c_PLACE) (sa_cons (se_ix ix_seq w_ix (sv 1) se_int) sa_nil))) sa_nil)) (se_lst sa_nil))))))
theorem sc_need_promise : FnScope N_need_promise ["thing"] (defScope st_need_promise) := ⟨rfl, rfl, rfl, by decide +kernel, rfl, by decide +kernel, by decide +kernel⟩
theorem ok_need_promise (T : Txt P w K mg base) : FnG P w K mg base 3 (He.ga K "need_promise") T.fd_need_promise ["thing"] (spOf K (cl K) 1 r_need_promise) := by
  refine fn_pw (fn_ok (N := N_need_promise) (d := d_need_promise) T.f_need_promise.F sc_need_promise rfl fun cdv A outer s H E hr => ?_)
  have tk := takes_of (X := cxOf (L2.CX P w) P w K mg base N_need_promise "need_promise" (defScope st_need_promise) (He.ga K "need_promise") cdv A outer s H E) (E := E) rfl rfl rfl rfl
  exact (ss_cons (ss_if (PW.pt (sw_or (st_not (st_val (se_isi .str T.m_isinstance T.m_str (by decide +kernel) (sv 0)))) (sw_or1 (st_cmp (op_notInA (hu65 hr)) w_in (sv 0) (se_g T.c_PROMISES) rfl)))) (ss_one (ss_raise (c := 6) T.x_BadPromise (ok_x_BadPromise T) (hr.toRoom.mono (by decide)) T.xb_BadPromise tk rfl T.gx_BadPromise (sa_cons (sv 0) sa_nil))) ss_nil)
    (ss_one (ss_ret (sv 0))))
theorem sc_need_may : FnScope N_need_may ["thing"] (defScope st_need_may) := ⟨rfl, rfl, rfl, by decide +kernel, rfl, by decide +kernel, by decide +kernel⟩
theorem ok_need_may (T : Txt P w K mg base) : FnG P w K mg base 3 (He.ga K "need_may") T.fd_need_may ["thing"] (spOf K (cl K) 1 r_need_may) := by
  refine fn_pw (fn_ok (N := N_need_may) (d := d_need_may) T.f_need_may.F sc_need_may rfl fun cdv A outer s H E hr => ?_)
  have tk := takes_of (X := cxOf (L2.CX P w) P w K mg base N_need_may "need_may" (defScope st_need_may) (He.ga K "need_may") cdv A outer s H E) (E := E) rfl rfl rfl rfl
  exact (ss_cons (ss_if (PW.pt (sw_or (st_not (st_val (se_isi .tup T.m_isinstance T.m_tuple (by decide +kernel) (sv 0)))) (sw_or (st_not (st_val (se_cb (cr_all rfl) w_all T.m_all boot_all (sa_cons (se_fz (se_lc (own := [("one", 1)]) rfl sc_need_may.nd (si_seq (sv 0)) (blkOk_by (N := N_need_may) (sc := defScope st_need_may) (by decide +kernel)) (by decide) (fun _ _ _ _ _ => (sg_name (pg_name (i := 1) sc_need_may.nd rfl (by first | exact Or.inl rfl | exact Or.inr rfl)))) (fun _ _ _ _ _ => stc_nil) (fun _ _ _ _ _ => (se_isi .str T.m_isinstance T.m_str (by decide +kernel) (sv 1))))) sa_nil)))) (sw_or1 (st_cmp (op_notInA (hu65 hr)) w_in (sv 0) (se_g T.c_MAYS) rfl))))) (ss_one (ss_raise (c := 7) T.x_BadMay (ok_x_BadMay T) (hr.toRoom.mono (by decide)) T.xb_BadMay tk rfl T.gx_BadMay (sa_cons (sv 0) sa_nil))) ss_nil)
    (ss_one (ss_ret (sv 0))))
theorem sc_need_absent : FnScope N_need_absent ["thing"] (defScope st_need_absent) := ⟨rfl, rfl, rfl, by decide +kernel, rfl, by decide +kernel, by decide +kernel⟩
theorem ok_need_absent (T : Txt P w K mg base) : FnG P w K mg base 3 (He.ga K "need_absent") T.fd_need_absent ["thing"] (spOf K (cl K) 1 r_need_absent) := by
  refine fn_pw (fn_ok (N := N_need_absent) (d := d_need_absent) T.f_need_absent.F sc_need_absent rfl fun cdv A outer s H E hr => ?_)
  have tk := takes_of (X := cxOf (L2.CX P w) P w K mg base N_need_absent "need_absent" (defScope st_need_absent) (He.ga K "need_absent") cdv A outer s H E) (E := E) rfl rfl rfl rfl
  exact (ss_cons (ss_if (PW.pt (sw_and (st_cmp op_notN w_notNon (sv 0) se_non rfl) (sw_and1 (st_not (st_val (se_call (ok_is_between T) (hr.mono (by decide)) T.f_is_between.g T.f_is_between.F.kp T.f_is_between.b tk (sa_cons (sv 0) (sa_cons se_int (sa_cons (se_g T.c_MOST_ABSENT) sa_nil))))))))) (ss_one (ss_raise (c := 8) T.x_BadAbsent (ok_x_BadAbsent T) (hr.toRoom.mono (by decide)) T.xb_BadAbsent tk rfl T.gx_BadAbsent (sa_cons (sv 0) sa_nil))) ss_nil)
    (ss_one (ss_ret (sv 0))))
theorem sc_is_at_most : FnScope N_is_at_most ["absent", "number"] (defScope st_is_at_most) := ⟨rfl, rfl, rfl, by decide +kernel, rfl, by decide +kernel, by decide +kernel⟩
theorem ok_is_at_most (T : Txt P w K mg base) : FnG P w K mg base 1 (He.ga K "is_at_most") T.fd_is_at_most ["absent", "number"] (spOf K (cl K) 2 r_is_at_most) := by
  refine fn_pw (fn_ok (N := N_is_at_most) (d := d_is_at_most) T.f_is_at_most.F sc_is_at_most rfl fun cdv A outer s H E hr => ?_)
  have tk := takes_of (X := cxOf (L2.CX P w) P w K mg base N_is_at_most "is_at_most" (defScope st_is_at_most) (He.ga K "is_at_most") cdv A outer s H E) (E := E) rfl rfl rfl rfl
  exact (ss_one (ss_ret (se_and (se_cmp op_notN w_notNon (sv 0) se_non rfl) (se_one (se_cmp op_le w_le (sv 0) (sv 1) rfl)))))
theorem sc_do_renew : FnScope N_do_renew ["rule", "may"] (defScope st_do_renew) := ⟨rfl, rfl, rfl, by decide +kernel, rfl, by decide +kernel, by decide +kernel⟩
theorem ok_do_renew (T : Txt P w K mg base) : FnG P w K mg base 1 (He.ga K "do_renew") T.fd_do_renew ["rule", "may"] (spOf K (cl K) 2 r_do_renew) := by
  refine fn_pw (fn_ok (N := N_do_renew) (d := d_do_renew) T.f_do_renew.F sc_do_renew rfl fun cdv A outer s H E hr => ?_)
  have tk := takes_of (X := cxOf (L2.CX P w) P w K mg base N_do_renew "do_renew" (defScope st_do_renew) (He.ga K "do_renew") cdv A outer s H E) (E := E) rfl rfl rfl rfl
  exact (ss_one (ss_ret (se_or (se_cmp (op_notInA (hu65 hr)) w_in (se_g T.c_MAY_OUT) (sv 1) rfl) (se_or (se_cmp (op_eqD hr.units) w_eq (se_ix ix_seq w_ix (sv 0) se_int) (se_g T.c_TELLS) rfl) (se_one (se_and (se_cmp (op_eqD hr.units) w_eq (se_ix ix_seq w_ix (sv 0) se_int) (se_g T.c_ASKS) rfl) (se_one (se_cmp (op_eqD hr.units) w_eq (se_ix ix_seq w_ix (sv 0) se_int) (se_g T.c_LINE) rfl))))))))
theorem sc_keeps_order : FnScope N_keeps_order ["rule", "may", "absent"] (defScope st_keeps_order) := ⟨rfl, rfl, rfl, by decide +kernel, rfl, by decide +kernel, by decide +kernel⟩
theorem ok_keeps_order (T : Txt P w K mg base) : FnG P w K mg base 2 (He.ga K "keeps_order") T.fd_keeps_order ["rule", "may", "absent"] (spOf K (cl K) 3 r_keeps_order) := by
  refine fn_pw (fn_ok (N := N_keeps_order) (d := d_keeps_order) T.f_keeps_order.F sc_keeps_order rfl fun cdv A outer s H E hr => ?_)
  have tk := takes_of (X := cxOf (L2.CX P w) P w K mg base N_keeps_order "keeps_order" (defScope st_keeps_order) (He.ga K "keeps_order") cdv A outer s H E) (E := E) rfl rfl rfl rfl
  exact (ss_cons (ss_asg (sv 0) (sg_tup rfl (sgs_cons (sg_name (pg_name (i := 3) sc_keeps_order.nd rfl (by first | exact Or.inl rfl | exact Or.inr rfl))) (sgs_cons (sg_name (pg_name (i := 4) sc_keeps_order.nd rfl (by first | exact Or.inl rfl | exact Or.inr rfl))) (sgs_cons (sg_name (pg_name (i := 5) sc_keeps_order.nd rfl (by first | exact Or.inl rfl | exact Or.inr rfl))) (sgs_cons (sg_name (pg_name (i := 6) sc_keeps_order.nd rfl (by first | exact Or.inl rfl | exact Or.inr rfl))) (sgs_cons (sg_name (pg_name (i := 7) sc_keeps_order.nd rfl (by first | exact Or.inl rfl | exact Or.inr rfl))) (sgs_cons (sg_name (pg_name (i := 8) sc_keeps_order.nd rfl (by first | exact Or.inl rfl | exact Or.inr rfl))) (sgs_cons (sg_name (pg_name (i := 9) sc_keeps_order.nd rfl (by first | exact Or.inl rfl | exact Or.inr rfl))) sgs_nil))))))) (gsCons_len (gsCons_len (gsCons_len (gsCons_len (gsCons_len (gsCons_len (gsCons_len gsNil_len)))))))))
    (ss_cons (ss_if (st_cmp (op_eqD hr.units) w_eq (sv 2) se_int rfl) (ss_one (ss_ret (se_or (se_cmp (op_eqD hr.units) w_eq (sv 9) (se_g T.c_ASKS) rfl) (se_one (se_cmp (op_eqD hr.units) w_eq (sv 6) (se_g T.c_ON) rfl))))) ss_nil)
    (ss_cons (ss_if (st_cmp (op_eqD hr.units) w_eq (sv 4) se_int rfl) (ss_one (ss_ret (se_or (se_cmp (op_eqD hr.units) w_eq (sv 9) (se_g T.c_ASKS) rfl) (se_one (se_and (se_cmp (op_eqD hr.units) w_eq (sv 6) (se_g T.c_ON) rfl) (se_one (se_call (ok_do_renew T) (hr.mono (by decide)) T.f_do_renew.g T.f_do_renew.F.kp T.f_do_renew.b tk (sa_cons (sv 0) (sa_cons (sv 1) sa_nil))))))))) ss_nil)
    (ss_cons (ss_if (PW.pt (sw_or (st_cmp (op_neD hr.units) w_ne (sv 6) (se_g T.c_ON) rfl) (sw_or (PW.pt (sw_and (st_cmp (op_eqD hr.units) w_eq (sv 8) (se_g T.c_QUIET) rfl) (sw_and1 (st_cmp (op_inA (hu65 hr)) w_in (se_g T.c_MAY_LET) (sv 1) rfl)))) (sw_or1 (st_not (st_val (se_call (ok_do_renew T) (hr.mono (by decide)) T.f_do_renew.g T.f_do_renew.F.kp T.f_do_renew.b tk (sa_cons (sv 0) (sa_cons (sv 1) sa_nil))))))))) (ss_one (ss_ret se_bl)) ss_nil)
    (ss_one (ss_ret (se_or (se_cmp op_lt w_lt (sv 4) (sv 3) rfl) (se_one (se_call (ok_is_at_most T) (hr.mono (by decide)) T.f_is_at_most.g T.f_is_at_most.F.kp T.f_is_at_most.b tk (sa_cons (sv 2) (sa_cons (se_op op_sub w_sub (sv 3) se_int) sa_nil)))))))))))
theorem sc_keeps_door : FnScope N_keeps_door ["rule", "may", "absent"] (defScope st_keeps_door) := ⟨rfl, rfl, rfl, by decide +kernel, rfl, by decide +kernel, by decide +kernel⟩
theorem ok_keeps_door (T : Txt P w K mg base) : FnG P w K mg base 2 (He.ga K "keeps_door") T.fd_keeps_door ["rule", "may", "absent"] (spOf K (cl K) 3 r_keeps_door) := by
  refine fn_pw (fn_ok (N := N_keeps_door) (d := d_keeps_door) T.f_keeps_door.F sc_keeps_door rfl fun cdv A outer s H E hr => ?_)
  have tk := takes_of (X := cxOf (L2.CX P w) P w K mg base N_keeps_door "keeps_door" (defScope st_keeps_door) (He.ga K "keeps_door") cdv A outer s H E) (E := E) rfl rfl rfl rfl
  exact (ss_cons (ss_if (st_cmp (op_eqD hr.units) w_eq (se_ix ix_seq w_ix (sv 0) se_int) (se_ix ix_seq w_ix (sv 0) se_int) rfl) (ss_one (ss_ret se_bl)) ss_nil)
    (ss_cons (ss_if (st_not (st_val (se_call (ok_is_at_most T) (hr.mono (by decide)) T.f_is_at_most.g T.f_is_at_most.F.kp T.f_is_at_most.b tk (sa_cons (sv 2) (sa_cons (se_ix ix_seq w_ix (sv 0) se_int) sa_nil))))) (ss_one (ss_ret se_bl)) ss_nil)
    (ss_one (ss_ret (se_or (se_cmp (op_eqD hr.units) w_eq (sv 2) se_int rfl) (se_or (se_cmp (op_neD hr.units) w_ne (se_ix ix_seq w_ix (sv 0) se_int) (se_g T.c_OLD) rfl) (se_one (se_cmp (op_notInA (hu65 hr)) w_in (se_g T.c_MAY_OUT) (sv 1) rfl))))))))
theorem sc_keeps_by : FnScope N_keeps_by ["rule", "promise", "may", "absent"] (defScope st_keeps_by) := ⟨rfl, rfl, rfl, by decide +kernel, rfl, by decide +kernel, by decide +kernel⟩
theorem ok_keeps_by (T : Txt P w K mg base) : FnG P w K mg base 3 (He.ga K "keeps_by") T.fd_keeps_by ["rule", "promise", "may", "absent"] (spOf K (cl K) 4 r_keeps_by) := by
  refine fn_pw (fn_ok (N := N_keeps_by) (d := d_keeps_by) T.f_keeps_by.F sc_keeps_by rfl fun cdv A outer s H E hr => ?_)
  have tk := takes_of (X := cxOf (L2.CX P w) P w K mg base N_keeps_by "keeps_by" (defScope st_keeps_by) (He.ga K "keeps_by") cdv A outer s H E) (E := E) rfl rfl rfl rfl
  exact (ss_cons (ss_if (st_cmp (op_eqD hr.units) w_eq (sv 1) (se_g T.c_ORDER_PROMISE) rfl) (ss_one (ss_ret (se_call (ok_keeps_order T) (hr.mono (by decide)) T.f_keeps_order.g T.f_keeps_order.F.kp T.f_keeps_order.b tk (sa_cons (sv 0) (sa_cons (sv 2) (sa_cons (sv 3) sa_nil)))))) ss_nil)
    (ss_cons (ss_if (st_cmp (op_eqD hr.units) w_eq (sv 1) (se_g T.c_DOOR_PROMISE) rfl) (ss_one (ss_ret (se_call (ok_keeps_door T) (hr.mono (by decide)) T.f_keeps_door.g T.f_keeps_door.F.kp T.f_keeps_door.b tk (sa_cons (sv 0) (sa_cons (sv 2) (sa_cons (sv 3) sa_nil)))))) ss_nil)
    (ss_one (ss_ret (se_or (se_cmp (op_neD hr.units) w_ne (se_ix ix_seq w_ix (sv 0) se_int) (se_g T.c_ASKS) rfl) (se_or (se_cmp (op_eqD hr.units) w_eq (sv 3) se_int rfl) (se_one (se_cmp (op_notInA (hu65 hr)) w_in (se_g T.c_MAY_OUT) (sv 2) rfl))))))))
theorem sc_does_keep : FnScope N_does_keep ["rule", "promise", "may", "absent"] (defScope st_does_keep) := ⟨rfl, rfl, rfl, by decide +kernel, rfl, by decide +kernel, by decide +kernel⟩
theorem ok_does_keep (T : Txt P w K mg base) : FnG P w K mg base 4 (He.ga K "does_keep") T.fd_does_keep ["rule", "promise", "may", "absent"] (spOf K (cl K) 4 r_does_keep) := by
  refine fn_pw (fn_ok (N := N_does_keep) (d := d_does_keep) T.f_does_keep.F sc_does_keep rfl fun cdv A outer s H E hr => ?_)
  have tk := takes_of (X := cxOf (L2.CX P w) P w K mg base N_does_keep "does_keep" (defScope st_does_keep) (He.ga K "does_keep") cdv A outer s H E) (E := E) rfl rfl rfl rfl
  exact (ss_cons (ss_expr (se_call (ok_need_rule T) (hr.mono (by decide)) T.f_need_rule.g T.f_need_rule.F.kp T.f_need_rule.b tk (sa_cons (sv 0) sa_nil)))
    (ss_cons (ss_expr (se_call (ok_need_promise T) (hr.mono (by decide)) T.f_need_promise.g T.f_need_promise.F.kp T.f_need_promise.b tk (sa_cons (sv 1) sa_nil)))
    (ss_one (ss_ret (se_call (ok_keeps_by T) (hr.mono (by decide)) T.f_keeps_by.g T.f_keeps_by.F.kp T.f_keeps_by.b tk (sa_cons (sv 0) (sa_cons (sv 1) (sa_cons (se_call (ok_need_may T) (hr.mono (by decide)) T.f_need_may.g T.f_need_may.F.kp T.f_need_may.b tk (sa_cons (sv 2) sa_nil)) (sa_cons (se_call (ok_need_absent T) (hr.mono (by decide)) T.f_need_absent.g T.f_need_absent.F.kp T.f_need_absent.b tk (sa_cons (sv 3) sa_nil)) sa_nil)))))))))
theorem sc_need_all : FnScope N_need_all ["rule", "promise", "may", "absent"] (defScope st_need_all) := ⟨rfl, rfl, rfl, by decide +kernel, rfl, by decide +kernel, by decide +kernel⟩
theorem ok_need_all (T : Txt P w K mg base) : FnG P w K mg base 4 (He.ga K "need_all") T.fd_need_all ["rule", "promise", "may", "absent"] (spOf K (cl K) 4 r_need_all) := by
  refine fn_pw (fn_ok (N := N_need_all) (d := d_need_all) T.f_need_all.F sc_need_all rfl fun cdv A outer s H E hr => ?_)
  have tk := takes_of (X := cxOf (L2.CX P w) P w K mg base N_need_all "need_all" (defScope st_need_all) (He.ga K "need_all") cdv A outer s H E) (E := E) rfl rfl rfl rfl
  exact (ss_cons (ss_expr (se_call (ok_need_rule T) (hr.mono (by decide)) T.f_need_rule.g T.f_need_rule.F.kp T.f_need_rule.b tk (sa_cons (sv 0) sa_nil)))
    (ss_cons (ss_expr (se_call (ok_need_promise T) (hr.mono (by decide)) T.f_need_promise.g T.f_need_promise.F.kp T.f_need_promise.b tk (sa_cons (sv 1) sa_nil)))
    (ss_cons (ss_expr (se_call (ok_need_may T) (hr.mono (by decide)) T.f_need_may.g T.f_need_may.F.kp T.f_need_may.b tk (sa_cons (sv 2) sa_nil)))
    (ss_one (ss_expr (se_call (ok_need_absent T) (hr.mono (by decide)) T.f_need_absent.g T.f_need_absent.F.kp T.f_need_absent.b tk (sa_cons (sv 3) sa_nil)))))))
theorem sc_is_row : FnScope N_is_row ["rule", "thing"] (defScope st_is_row) := ⟨rfl, rfl, rfl, by decide +kernel, rfl, by decide +kernel, by decide +kernel⟩
theorem ok_is_row (T : Txt P w K mg base) : FnG P w K mg base 8 (He.ga K "is_row") T.fd_is_row ["rule", "thing"] (spOf K (cl K) 2 r_is_row) := by
  refine fn_pw (fn_ok (N := N_is_row) (d := d_is_row) T.f_is_row.F sc_is_row rfl fun cdv A outer s H E hr => ?_)
  have tk := takes_of (X := cxOf (L2.CX P w) P w K mg base N_is_row "is_row" (defScope st_is_row) (He.ga K "is_row") cdv A outer s H E) (E := E) rfl rfl rfl rfl
  exact (ss_cons (ss_try (c := 4) (l := l_BadEvents) rfl rfl tk T.gx_BadEvents T.mt_BadEvents (fun W pn xe tk _ => (ss_one (ss_expr (se_call (ok_room_behind T) (hr.mono (by decide)) T.f_room_behind.g T.f_room_behind.F.kp T.f_room_behind.b tk (sa_cons (sv 0) (sa_cons (sv 1) sa_nil)))))) (fun a oe pn => (ss_one (ss_ret se_bl))))
    (ss_one (ss_ret se_bl)))
theorem sc_does_break : FnScope N_does_break ["rule", "promise", "may", "absent", "events"] (defScope st_does_break) := ⟨rfl, rfl, rfl, by decide +kernel, rfl, by decide +kernel, by decide +kernel⟩
theorem ok_does_break (T : Txt P w K mg base) : FnG P w K mg base 7 (He.ga K "does_break") T.fd_does_break ["rule", "promise", "may", "absent", "events"] (spOf K (cl K) 5 r_does_break) := by
  refine fn_pw (fn_ok (N := N_does_break) (d := d_does_break) T.f_does_break.F sc_does_break rfl fun cdv A outer s H E hr => ?_)
  have tk := takes_of (X := cxOf (L2.CX P w) P w K mg base N_does_break "does_break" (defScope st_does_break) (He.ga K "does_break") cdv A outer s H E) (E := E) rfl rfl rfl rfl
  exact (ss_cons (ss_par (i := 5) (j := 6) rfl sc_does_break.nd rfl rfl (by decide) rfl rfl (sa_cons (se_make (c := 0) T.mk_Room (ok_Room___init__ T) (hr.mono (by decide)) T.g_Room T.f_Room___init__.b tk (sa_cons (sv 0) sa_nil)) (sa_cons se_bl sa_nil)) rfl)
    (ss_cons (ss_for (passes_of rfl) rfl (si_seq (sv 4)) (sg_name (pg_name (i := 7) sc_does_break.nd rfl (by first | exact Or.inl rfl | exact Or.inr rfl))) (ss_cons (ss_if (PW.pt (sw_or (PW.pt (sw_and (st_cmp (op_eqD hr.units) w_eq (se_ix ix_seq w_ix (sv 7) se_int) (se_g T.c_LET) rfl) (sw_and1 (st_cmp (op_notInA (hu65 hr)) w_in (se_g T.c_MAY_LET) (sv 2) rfl)))) (sw_or1 (PW.pt (sw_and (st_cmp (op_eqD hr.units) w_eq (se_ix ix_seq w_ix (sv 7) se_int) (se_g T.c_OUT) rfl) (sw_and1 (st_cmp (op_notInA (hu65 hr)) w_in (se_g T.c_MAY_OUT) (sv 2) rfl))))))) (ss_one (ss_ret se_bl)) ss_nil)
    (ss_cons (ss_set (i := 6) sc_does_break.nd rfl (by first | exact Or.inl rfl | exact Or.inr rfl) (se_or (sv 6) (se_one (se_cmp (op_inA (hu65 hr)) w_in (sv 1) (se_fz (se_lc (own := [("word", 8), ("person", 9)]) rfl sc_does_break.nd (si_seq (se_call (ok_faults_now T) (hr.mono (by decide)) T.f_faults_now.g T.f_faults_now.F.kp T.f_faults_now.b tk (sa_cons (sv 5) (sa_cons (sv 7) sa_nil)))) (blkOk_by (N := N_does_break) (sc := defScope st_does_break) (by decide +kernel)) (by decide) (fun _ _ _ _ _ => (sg_tup rfl (sgs_cons (sg_name (pg_name (i := 8) sc_does_break.nd rfl (by first | exact Or.inl rfl | exact Or.inr rfl))) (sgs_cons (sg_name (pg_name (i := 9) sc_does_break.nd rfl (by first | exact Or.inl rfl | exact Or.inr rfl))) sgs_nil)) (gsCons_len (gsCons_len gsNil_len)))) (fun _ _ _ _ _ => stc_nil) (fun _ _ _ _ _ => (sv 8)))) rfl))))
    (ss_cons (ss_expr (se_meth (c := 0) (ok_Room_do T) (hr.mono (by decide)) T.k_Room T.mt_Room_do T.f_Room_do.b tk (sv 5) (sa_cons (sv 7) sa_nil)))
    (ss_one (ss_if (PW.pt (sw_and (st_cmp op_notN w_notNon (sv 3) se_non rfl) (sw_and1 (st_not (st_val (se_call (ok_is_at_most T) (hr.mono (by decide)) T.f_is_at_most.g T.f_is_at_most.F.kp T.f_is_at_most.b tk (sa_cons (se_call (ok_absent_in T) (hr.mono (by decide)) T.f_absent_in.g T.f_absent_in.F.kp T.f_absent_in.b tk (sa_cons (se_fld (c := 0) T.k_Room T.n_Room_line_now (sv 5)) sa_nil)) (sa_cons (sv 3) sa_nil)))))))) (ss_one (ss_ret se_bl)) ss_nil))))))
    (ss_one (ss_ret (sv 6)))))
theorem sc_check_promise : FnScope N_check_promise ["rule", "promise", "may", "absent", "paper"] (defScope st_check_promise) := ⟨rfl, rfl, rfl, by decide +kernel, rfl, by decide +kernel, by decide +kernel⟩
theorem ok_check_promise (T : Txt P w K mg base) : FnG P w K mg base 9 (He.ga K "check_promise") T.fd_check_promise ["rule", "promise", "may", "absent", "paper"] (spOf K (cl K) 5 r_check_promise) := by
  refine fn_pw (fn_ok (N := N_check_promise) (d := d_check_promise) T.f_check_promise.F sc_check_promise rfl fun cdv A outer s H E hr => ?_)
  have tk := takes_of (X := cxOf (L2.CX P w) P w K mg base N_check_promise "check_promise" (defScope st_check_promise) (He.ga K "check_promise") cdv A outer s H E) (E := E) rfl rfl rfl rfl
  exact (ss_cons (ss_expr (se_call (ok_need_all T) (hr.mono (by decide)) T.f_need_all.g T.f_need_all.F.kp T.f_need_all.b tk (sa_cons (sv 0) (sa_cons (sv 1) (sa_cons (sv 2) (sa_cons (sv 3) sa_nil))))))
    (ss_cons (ss_if (PW.pt (sw_or (st_not (st_val (se_isi .tup T.m_isinstance T.m_tuple (by decide +kernel) (sv 4)))) (sw_or (st_cmp (op_eqT0 hr.units) w_eqT0 (sv 4) (se_tup sa_nil) rfl) (sw_or1 (st_not (st_val (se_isi .str T.m_isinstance T.m_str (by decide +kernel) (se_ix ix_seq w_ix (sv 4) se_int)))))))) (ss_one (ss_raise (c := 5) T.x_BadPaper (ok_x_BadPaper T) (hr.toRoom.mono (by decide)) T.xb_BadPaper tk rfl T.gx_BadPaper (sa_cons se_str sa_nil))) ss_nil)
    (ss_cons (ss_if (st_cmp (op_eqD hr.units) w_eq (sv 4) (se_tup (sa_cons (se_g T.c_KEPT) sa_nil)) rfl) (ss_cons (ss_if (st_not (st_val (se_call (ok_keeps_by T) (hr.mono (by decide)) T.f_keeps_by.g T.f_keeps_by.F.kp T.f_keeps_by.b tk (sa_cons (sv 0) (sa_cons (sv 1) (sa_cons (sv 2) (sa_cons (sv 3) sa_nil))))))) (ss_one (ss_raise (c := 5) T.x_BadPaper (ok_x_BadPaper T) (hr.toRoom.mono (by decide)) T.xb_BadPaper tk rfl T.gx_BadPaper (sa_cons (se_g T.c_KEPT) sa_nil))) ss_nil)
    (ss_one (ss_ret (se_g T.c_KEPT)))) ss_nil)
    (ss_cons (ss_if (PW.pt (sw_or (st_cmp (op_neD hr.units) w_ne (se_cb c_len w_len T.m_len boot_len (sa_cons (sv 4) sa_nil)) se_int rfl) (sw_or (st_cmp (op_neD hr.units) w_ne (se_ix ix_seq w_ix (sv 4) se_int) (se_g T.c_BROKEN) rfl) (sw_or1 (st_not (st_val (se_isi .tup T.m_isinstance T.m_tuple (by decide +kernel) (se_ix ix_seq w_ix (sv 4) se_int)))))))) (ss_one (ss_raise (c := 5) T.x_BadPaper (ok_x_BadPaper T) (hr.toRoom.mono (by decide)) T.xb_BadPaper tk rfl T.gx_BadPaper (sa_cons se_str sa_nil))) ss_nil)
    (ss_cons (ss_if (PW.pt (sw_or (st_not (st_val (se_call (ok_is_row T) (hr.mono (by decide)) T.f_is_row.g T.f_is_row.F.kp T.f_is_row.b tk (sa_cons (sv 0) (sa_cons (se_ix ix_seq w_ix (sv 4) se_int) sa_nil))))) (sw_or1 (st_not (st_val (se_call (ok_does_break T) (hr.mono (by decide)) T.f_does_break.g T.f_does_break.F.kp T.f_does_break.b tk (sa_cons (sv 0) (sa_cons (sv 1) (sa_cons (sv 2) (sa_cons (sv 3) (sa_cons (se_ix ix_seq w_ix (sv 4) se_int) sa_nil))))))))))) (ss_one (ss_raise (c := 5) T.x_BadPaper (ok_x_BadPaper T) (hr.toRoom.mono (by decide)) T.xb_BadPaper tk rfl T.gx_BadPaper (sa_cons (se_g T.c_BROKEN) sa_nil))) ss_nil)
    (ss_one (ss_ret (se_g T.c_BROKEN))))))))
theorem sc_need_parts : FnScope N_need_parts ["claim"] (defScope st_need_parts) := ⟨rfl, rfl, rfl, by decide +kernel, rfl, by decide +kernel, by decide +kernel⟩
theorem ok_need_parts (T : Txt P w K mg base) : FnG P w K mg base 5 (He.ga K "need_parts") T.fd_need_parts ["claim"] (spOf K (cl K) 1 r_need_parts) := by
  refine fn_pw (fn_ok (N := N_need_parts) (d := d_need_parts) T.f_need_parts.F sc_need_parts rfl fun cdv A outer s H E hr => ?_)
  have tk := takes_of (X := cxOf (L2.CX P w) P w K mg base N_need_parts "need_parts" (defScope st_need_parts) (He.ga K "need_parts") cdv A outer s H E) (E := E) rfl rfl rfl rfl
  exact (ss_cons (ss_expr (se_call (ok_need_rule T) (hr.mono (by decide)) T.f_need_rule.g T.f_need_rule.F.kp T.f_need_rule.b tk (sa_cons (se_ix ix_seq w_ix (sv 0) se_int) sa_nil)))
    (ss_one (ss_if (st_cmp (op_eqD hr.units) w_eq (se_ix ix_seq w_ix (sv 0) se_int) (se_g T.c_ALIKE) rfl) (ss_one (ss_expr (se_call (ok_need_rule T) (hr.mono (by decide)) T.f_need_rule.g T.f_need_rule.F.kp T.f_need_rule.b tk (sa_cons (se_ix ix_seq w_ix (sv 0) se_int) sa_nil)))) (ss_one (ss_expr (se_call (ok_does_keep T) (hr.mono (by decide)) T.f_does_keep.g T.f_does_keep.F.kp T.f_does_keep.b tk (sa_cons (se_ix ix_seq w_ix (sv 0) se_int) (sa_cons (se_ix ix_seq w_ix (sv 0) se_int) (sa_cons (se_ix ix_seq w_ix (sv 0) se_int) (sa_cons (se_ix ix_seq w_ix (sv 0) se_int) sa_nil))))))))))
theorem sc_is_claim : FnScope N_is_claim ["thing"] (defScope st_is_claim) := ⟨rfl, rfl, rfl, by decide +kernel, rfl, by decide +kernel, by decide +kernel⟩
theorem ok_is_claim (T : Txt P w K mg base) : FnG P w K mg base 6 (He.ga K "is_claim") T.fd_is_claim ["thing"] (spOf K (cl K) 1 r_is_claim) := by
  refine fn_pw (fn_ok (N := N_is_claim) (d := d_is_claim) T.f_is_claim.F sc_is_claim rfl fun cdv A outer s H E hr => ?_)
  have tk := takes_of (X := cxOf (L2.CX P w) P w K mg base N_is_claim "is_claim" (defScope st_is_claim) (He.ga K "is_claim") cdv A outer s H E) (E := E) rfl rfl rfl rfl
  exact (ss_cons (ss_if (PW.pt (sw_or (st_not (st_val (se_isi .tup T.m_isinstance T.m_tuple (by decide +kernel) (sv 0)))) (sw_or (st_cmp (op_eqT0 hr.units) w_eqT0 (sv 0) (se_tup sa_nil) rfl) (sw_or1 (st_not (st_val (se_isi .str T.m_isinstance T.m_str (by decide +kernel) (se_ix ix_seq w_ix (sv 0) se_int)))))))) (ss_one (ss_ret se_bl)) ss_nil)
    (ss_cons (ss_if (st_cmp (op_neD hr.units) w_ne (se_kget1 T.kd_SIZES (se_ix ix_seq w_ix (sv 0) se_int)) (se_cb c_len w_len T.m_len boot_len (sa_cons (sv 0) sa_nil)) rfl) (ss_one (ss_ret se_bl)) ss_nil)
    (ss_cons (ss_try4 (c1 := 8) (c2 := 7) (c3 := 6) (c4 := 3) (l := la_BadAbsent_BadMay_BadPromise_BadRule) rfl rfl tk T.gx_BadAbsent T.gx_BadMay T.gx_BadPromise T.gx_BadRule T.mta_BadAbsent_BadMay_BadPromise_BadRule (fun W pn xe tk _ => (ss_one (ss_expr (se_call (ok_need_parts T) (hr.mono (by decide)) T.f_need_parts.g T.f_need_parts.F.kp T.f_need_parts.b tk (sa_cons (sv 0) sa_nil))))) (fun a oe pn => (ss_one (ss_ret se_bl))))
    (ss_one (ss_ret se_bl)))))
theorem sc_judged : FnScope N_judged ["claim", "paper"] (defScope st_judged) := ⟨rfl, rfl, rfl, by decide +kernel, rfl, by decide +kernel, by decide +kernel⟩
theorem ok_judged (T : Txt P w K mg base) : FnG P w K mg base 10 (He.ga K "judged") T.fd_judged ["claim", "paper"] (spOf K (cl K) 2 r_judged) := by
  refine fn_pw (fn_ok (N := N_judged) (d := d_judged) T.f_judged.F sc_judged rfl fun cdv A outer s H E hr => ?_)
  have tk := takes_of (X := cxOf (L2.CX P w) P w K mg base N_judged "judged" (defScope st_judged) (He.ga K "judged") cdv A outer s H E) (E := E) rfl rfl rfl rfl
  exact (ss_cons (ss_if (st_not (st_val (se_call (ok_is_claim T) (hr.mono (by decide)) T.f_is_claim.g T.f_is_claim.F.kp T.f_is_claim.b tk (sa_cons (sv 0) sa_nil)))) (ss_one (ss_raise (c := 9) T.x_BadClaim (ok_x_BadClaim T) (hr.toRoom.mono (by decide)) T.xb_BadClaim tk rfl T.gx_BadClaim (sa_cons (sv 0) sa_nil))) ss_nil)
    (ss_cons (ss_if (st_cmp (op_eqD hr.units) w_eq (se_ix ix_seq w_ix (sv 0) se_int) (se_g T.c_ALIKE) rfl) (ss_one (ss_ret (se_cmp (op_eqD hr.units) w_eq (se_call (ok_check_alike T) (hr.mono (by decide)) T.f_check_alike.g T.f_check_alike.F.kp T.f_check_alike.b tk (sa_cons (se_ix ix_seq w_ix (sv 0) se_int) (sa_cons (se_ix ix_seq w_ix (sv 0) se_int) (sa_cons (sv 1) sa_nil)))) se_str rfl))) ss_nil)
    (ss_one (ss_ret (se_cmp (op_eqD hr.units) w_eq (se_call (ok_check_promise T) (hr.mono (by decide)) T.f_check_promise.g T.f_check_promise.F.kp T.f_check_promise.b tk (sa_cons (se_ix ix_seq w_ix (sv 0) se_int) (sa_cons (se_ix ix_seq w_ix (sv 0) se_int) (sa_cons (se_ix ix_seq w_ix (sv 0) se_int) (sa_cons (se_ix ix_seq w_ix (sv 0) se_int) (sa_cons (sv 1) sa_nil)))))) se_str rfl)))))
theorem sc__law_mixed : FnScope N__law_mixed ["_law_cell", "_law_k"] (defScope st__law_mixed) := ⟨rfl, rfl, rfl, by decide +kernel, rfl, by decide +kernel, by decide +kernel⟩
theorem ok__law_mixed (T : Txt P w K mg base) : FnG P w K mg base 1 (He.ga K "_law_mixed") T.fd__law_mixed ["_law_cell", "_law_k"] (spOf K (cl K) 2 r__law_mixed) := by
  refine fn_pw (fn_ok (N := N__law_mixed) (d := d__law_mixed) T.f__law_mixed.F sc__law_mixed rfl fun cdv A outer s H E hr => ?_)
  have tk := takes_of (X := cxOf (L2.CX P w) P w K mg base N__law_mixed "_law_mixed" (defScope st__law_mixed) (He.ga K "_law_mixed") cdv A outer s H E) (E := E) rfl rfl rfl rfl
  exact (ss_cons (ss_set (i := 0) sc__law_mixed.nd rfl (by first | exact Or.inl rfl | exact Or.inr rfl) (se_op op_mod w_mod (se_ct call_int1 w_int T.m_int (by decide +kernel) (sa_cons (sv 0) sa_nil)) se_int))
    (ss_one (ss_ret (se_op op_mod w_mod (se_op o_mul w_mul (se_op op_mod w_mod (se_op o_add w_add (se_op o_add w_add (se_op o_mul w_mul (sv 0) (se_op o_add w_add se_int (se_op o_mul w_mul (se_op o_mul w_mul se_int (sv 1)) (sv 1)))) (se_op o_mul w_mul se_int (sv 1))) se_int) se_int) se_int) se_int))))
theorem sc__law_begin : FnScope N__law_begin ["_law_script"] (defScope st__law_begin) := ⟨rfl, rfl, rfl, by decide +kernel, rfl, by decide +kernel, by decide +kernel⟩
theorem ok__law_begin (T : Txt P w K mg base) : FnG P w K mg base 1 (He.ga K "_law_begin") T.fd__law_begin ["_law_script"] (spOf K (cl K) 1 r__law_begin) := by
  refine fn_ok (N := N__law_begin) (d := d__law_begin) T.f__law_begin.F sc__law_begin rfl fun cdv A outer s H E hr => ?_
  have tk := takes_of (X := cxOf (L2.CX P w) P w K mg base N__law_begin "_law_begin" (defScope st__law_begin) (He.ga K "_law_begin") cdv A outer s H E) (E := E) rfl rfl rfl rfl
  exact (ss_cons (ss_set (i := 1) sc__law_begin.nd rfl (by first | exact Or.inl rfl | exact Or.inr rfl) (se_if (st_cmp (op_neD hr.units) w_ne (sv 0) (se_lst sa_nil) rfl) (se_fz (sn_ct call_list_of w_list T.m_list (by decide +kernel) (sa_cons (sv 0) sa_nil))) (se_lst (sa_cons se_int sa_nil))))
    (ss_one (ss_ret (se_dict (fs := [("cells", (eVar 1)), ("lefts", (eNw (aComp (iSeq (eVar 1)) (gN 2) dYes (eIf (dTest (eBin geW (eVar 2) (eBin powW (eC (.int 10)) (eC (.int 18))))) (eVar 2) (eC (.int 0))) [2]))), ("at", (eC (.int 0))), ("room", (eC (.int 0)))]) (pps_cons pe_str (sv 1) (pps_cons pe_str (se_nw (se_lc (own := [("_law_cell", 2)]) rfl sc__law_begin.nd (si_seq (sv 1)) (blkOk_by (N := N__law_begin) (sc := defScope st__law_begin) (by decide +kernel)) (by decide) (fun _ _ _ _ _ => (sg_name (pg_name (i := 2) sc__law_begin.nd rfl (by first | exact Or.inl rfl | exact Or.inr rfl)))) (fun _ _ _ _ _ => stc_nil) (fun _ _ _ _ _ => (se_if (st_cmp op_ge w_ge (sv 2) (se_op op_pow w_pow se_int se_int) rfl) (sv 2) se_int)))) (pps_cons pe_str se_int (pps_cons pe_str se_int pps_nil))))))))
theorem sc__law_draw : FnScope N__law_draw ["_law_state", "_law_many"] (defScope st__law_draw) := ⟨rfl, rfl, rfl, by decide +kernel, rfl, by decide +kernel, by decide +kernel⟩
theorem ok__law_draw (T : Txt P w K mg base) : FnG P w K mg base 2 (He.ga K "_law_draw") T.fd__law_draw ["_law_state", "_law_many"] (spOf K (cl K) 2 r__law_draw) := by
  refine fn_ok (N := N__law_draw) (d := d__law_draw) T.f__law_draw.F sc__law_draw rfl fun cdv A outer s H E hr => ?_
  have tk := takes_of (X := cxOf (L2.CX P w) P w K mg base N__law_draw "_law_draw" (defScope st__law_draw) (He.ga K "_law_draw") cdv A outer s H E) (E := E) rfl rfl rfl rfl
  exact (ss_cons (ss_set (i := 2) sc__law_draw.nd rfl (by first | exact Or.inl rfl | exact Or.inr rfl) (se_dget (hu1 hr) (sv 0) se_str))
    (ss_cons (ss_sub (hu1 hr) (se_op o_add w_add (sv 2) se_int) (sv 0) se_str)
    (ss_cons (ss_set (i := 3) sc__law_draw.nd rfl (by first | exact Or.inl rfl | exact Or.inr rfl) (se_op op_mod w_mod (se_ct call_int1 w_int T.m_int (by decide +kernel) (sa_cons (sv 2) sa_nil)) (se_cb c_len w_len T.m_len boot_len (sa_cons (se_dget (hu1 hr) (sv 0) se_str) sa_nil))))
    (ss_cons (ss_set (i := 4) sc__law_draw.nd rfl (by first | exact Or.inl rfl | exact Or.inr rfl) (se_ix ix_seq w_ix (se_dget (hu1 hr) (sv 0) se_str) (sv 3)))
    (ss_cons (ss_if (st_cmp op_gt w_gt (sv 4) se_int rfl) (ss_cons (ss_sub (hu1 hr) (se_op op_fdiv w_fdiv (sv 4) (sv 1)) (se_dget (hu1 hr) (sv 0) se_str) (sv 3))
    (ss_one (ss_ret (se_op op_mod w_mod (se_ct call_int1 w_int T.m_int (by decide +kernel) (sa_cons (sv 4) sa_nil)) (sv 1))))) ss_nil)
    (ss_cons (ss_set (i := 5) sc__law_draw.nd rfl (by first | exact Or.inl rfl | exact Or.inr rfl) (se_call (ok__law_mixed T) (hr.mono (by decide)) T.f__law_mixed.g T.f__law_mixed.F.kp T.f__law_mixed.b tk (sa_cons (se_call (ok__law_mixed T) (hr.mono (by decide)) T.f__law_mixed.g T.f__law_mixed.F.kp T.f__law_mixed.b tk (sa_cons (se_ix ix_seq w_ix (se_dget (hu1 hr) (sv 0) se_str) (sv 3)) (sa_cons (sv 2) sa_nil))) (sa_cons (se_op o_add w_add se_int (sv 2)) sa_nil))))
    (ss_one (ss_ret (se_op op_mod w_mod (se_op op_fdiv w_fdiv (se_ct call_int1 w_int T.m_int (by decide +kernel) (sa_cons (se_op o_add w_add (se_op o_mul w_mul (sv 5) se_int) (se_call (ok__law_mixed T) (hr.mono (by decide)) T.f__law_mixed.g T.f__law_mixed.F.kp T.f__law_mixed.b tk (sa_cons (sv 5) (sa_cons (se_op o_add w_add se_int (sv 2)) sa_nil)))) sa_nil)) se_int) (sv 1))))))))))
theorem sc__law_of : FnScope N__law_of ["_law_state", "_law_some"] (defScope st__law_of) := ⟨rfl, rfl, rfl, by decide +kernel, rfl, by decide +kernel, by decide +kernel⟩
theorem ok__law_of (T : Txt P w K mg base) : FnG P w K mg base 3 (He.ga K "_law_of") T.fd__law_of ["_law_state", "_law_some"] (spOf K (cl K) 2 r__law_of) := by
  refine fn_ok (N := N__law_of) (d := d__law_of) T.f__law_of.F sc__law_of rfl fun cdv A outer s H E hr => ?_
  have tk := takes_of (X := cxOf (L2.CX P w) P w K mg base N__law_of "_law_of" (defScope st__law_of) (He.ga K "_law_of") cdv A outer s H E) (E := E) rfl rfl rfl rfl
  exact (ss_one (ss_ret (se_ix ix_seq w_ix (sv 1) (se_call (ok__law_draw T) (hr.mono (by decide)) T.f__law_draw.g T.f__law_draw.F.kp T.f__law_draw.b tk (sa_cons (sv 0) (sa_cons (se_cb c_len w_len T.m_len boot_len (sa_cons (sv 1) sa_nil)) sa_nil))))))
theorem sc__law_heard : FnScope N__law_heard ["_law_call"] (defScope st__law_heard) := ⟨rfl, rfl, rfl, by decide +kernel, rfl, by decide +kernel, by decide +kernel⟩
theorem okL__law_heard (T : Txt P w K mg base) {k : Nat} (hk : 1 ≤ k) : Gives P w K mg base (cl K) k "_law_heard" "_law_call" N__law_heard (defScope st__law_heard) (defBody st__law_heard) (He.ga K "_law_heard") d__law_heard := by
  intro G gx0 fL cb cdv A outer s H E hr0 act
  have hr := hr0.mono hk
  have tk := takes_of (X := cxOf (L2.CX P w) P w K mg base N__law_heard "_law_heard" (defScope st__law_heard) (He.ga K "_law_heard") cdv A outer s H E) (E := E) rfl rfl rfl rfl
  exact (ss_cons (ss_asg (se_tup (sa_cons se_non (sa_cons se_non sa_nil))) (sg_tup rfl (sgs_cons (sg_name (pg_name (i := 1) sc__law_heard.nd rfl (by first | exact Or.inl rfl | exact Or.inr rfl))) (sgs_cons (sg_name (pg_name (i := 2) sc__law_heard.nd rfl (by first | exact Or.inl rfl | exact Or.inr rfl))) sgs_nil)) (gsCons_len (gsCons_len gsNil_len))))
    (ss_cons (ss_tryV2 (c1 := 2) (c2 := 10) (l := la_AskError_TooMany) (i := 3) (j := 1) rfl rfl sc__law_heard.nd rfl rfl rfl rfl (by decide) tk T.gx_AskError T.gx_TooMany T.mta_AskError_TooMany (fun W pn xe tk _ => (ss_one (ss_set (i := 2) sc__law_heard.nd rfl (by first | exact Or.inl rfl | exact Or.inr rfl) (act _ _ _ _ _ tk)))))
    (ss_cons (ss_if (st_cmp op_isN w_isNon (sv 1) se_non rfl) (ss_one (ss_ret (se_lst (sa_cons se_str (sa_cons (sv 2) sa_nil))))) ss_nil)
    (ss_cons (ss_if (st_val (se_isx (c := 9) (l := l_BadClaim) T.m_isinstance T.gx_BadClaim T.is_BadClaim (sv 1))) (ss_one (ss_ret (se_lst (sa_cons se_str (sa_cons (se_cb (cr_repr (hu65 hr) hr.g) w_repr T.m_repr (by decide +kernel) (sa_cons (se_xk T.xk_given (sv 1)) sa_nil)) sa_nil))))) ss_nil)
    (ss_one (ss_ret (se_if (st_val (se_isx (c := 5) (l := l_BadPaper) T.m_isinstance T.gx_BadPaper T.is_BadPaper (sv 1))) (se_lst (sa_cons se_str (sa_cons (se_xk T.xk_part (sv 1)) sa_nil))) (se_lst (sa_cons se_str sa_nil)))))))))
theorem sc__law_rule : FnScope N__law_rule [] (defScope st__law_rule) := ⟨rfl, rfl, rfl, by decide +kernel, rfl, by decide +kernel, by decide +kernel⟩
theorem ok__law_rule (T : Txt P w K mg base) : FnG P w K mg base 1 (He.ga K "_law_rule") T.fd__law_rule [] (spOf K (cl K) 0 r__law_rule) := by
  refine fn_ok (N := N__law_rule) (d := d__law_rule) T.f__law_rule.F sc__law_rule rfl fun cdv A outer s H E hr => ?_
  have tk := takes_of (X := cxOf (L2.CX P w) P w K mg base N__law_rule "_law_rule" (defScope st__law_rule) (He.ga K "_law_rule") cdv A outer s H E) (E := E) rfl rfl rfl rfl
  exact (ss_one (ss_ret (se_tup (sa_cons se_int (sa_cons se_int (sa_cons se_str (sa_cons se_str (sa_cons se_str (sa_cons se_str (sa_cons se_str sa_nil))))))))))
theorem sc__law_odds : FnScope N__law_odds [] (defScope st__law_odds) := ⟨rfl, rfl, rfl, by decide +kernel, rfl, by decide +kernel, by decide +kernel⟩
theorem ok__law_odds (T : Txt P w K mg base) : FnG P w K mg base 2 (He.ga K "_law_odds") T.fd__law_odds [] (spOf K (cl K) 0 r__law_odds) := by
  refine fn_pw (fn_ok (N := N__law_odds) (d := d__law_odds) T.f__law_odds.F sc__law_odds rfl fun cdv A outer s H E hr => ?_)
  have tk := takes_of (X := cxOf (L2.CX P w) P w K mg base N__law_odds "_law_odds" (defScope st__law_odds) (He.ga K "_law_odds") cdv A outer s H E) (E := E) rfl rfl rfl rfl
  exact (ss_cons (ss_asg (se_tup (sa_cons (se_call0 (ok__law_rule T) (hr.mono (by decide)) T.f__law_rule.g T.f__law_rule.F.kp T.f__law_rule.b tk) (sa_cons (se_tup (sa_cons se_str (sa_cons se_str sa_nil))) sa_nil))) (sg_tup rfl (sgs_cons (sg_name (pg_name (i := 0) sc__law_odds.nd rfl (by first | exact Or.inl rfl | exact Or.inr rfl))) (sgs_cons (sg_name (pg_name (i := 1) sc__law_odds.nd rfl (by first | exact Or.inl rfl | exact Or.inr rfl))) sgs_nil)) (gsCons_len (gsCons_len gsNil_len))))
    (ss_cons (ss_set (i := 2) sc__law_odds.nd rfl (by first | exact Or.inl rfl | exact Or.inr rfl) (se_lstM (sa_cons se_non (sa_cons (se_tup sa_nil) (sa_cons se_str (sa_cons (se_lst (sa_cons se_str (sa_cons (sv 0) (sa_cons se_str (sa_cons (sv 1) (sa_cons se_int sa_nil)))))) (sa_cons (se_tup (sa_cons se_str (sa_cons (sv 0) (sa_cons se_str (sa_cons (sv 1) sa_nil))))) sa_nil)))))))
    (ss_cons (ss_set (i := 2) sc__law_odds.nd rfl (by first | exact Or.inl rfl | exact Or.inr rfl) (se_nw (sn_addL (sv 2) (se_lst (sa_cons (se_tup (sa_cons se_str (sa_cons (sv 0) (sa_cons se_str (sa_cons (sv 1) (sa_cons se_int sa_nil)))))) (sa_cons (se_tup (sa_cons se_str (sa_cons (sv 0) (sa_cons se_str (sa_cons (sv 1) (sa_cons se_int (sa_cons se_int sa_nil))))))) sa_nil))))))
    (ss_cons (ss_set (i := 2) sc__law_odds.nd rfl (by first | exact Or.inl rfl | exact Or.inr rfl) (se_nw (sn_addL (sv 2) (se_lst (sa_cons (se_tup (sa_cons se_str (sa_cons (se_sl (sv 0) so_none (so_some se_int)) (sa_cons se_str (sa_cons (sv 1) (sa_cons se_int sa_nil)))))) (sa_cons (se_tup (sa_cons se_str (sa_cons se_non (sa_cons se_str (sa_cons (sv 1) (sa_cons se_int sa_nil)))))) sa_nil))))))
    (ss_cons (ss_set (i := 2) sc__law_odds.nd rfl (by first | exact Or.inl rfl | exact Or.inr rfl) (se_nw (sn_addL (sv 2) (se_lst (sa_cons (se_tup (sa_cons se_str (sa_cons (sv 0) (sa_cons se_str (sa_cons (sv 1) (sa_cons se_int sa_nil)))))) (sa_cons (se_tup (sa_cons se_str (sa_cons (sv 0) (sa_cons se_non (sa_cons (sv 1) (sa_cons se_int sa_nil)))))) (sa_cons (se_tup (sa_cons se_str (sa_cons (sv 0) (sa_cons (se_lst (sa_cons se_str sa_nil)) (sa_cons (sv 1) (sa_cons se_int sa_nil)))))) sa_nil)))))))
    (ss_cons (ss_for (passes_of rfl) rfl (si_seq (se_tup (sa_cons (se_tup (sa_cons se_str (sa_cons se_str sa_nil))) (sa_cons (se_lst (sa_cons se_str sa_nil)) (sa_cons (se_tup (sa_cons se_str (sa_cons se_str sa_nil))) (sa_cons se_str (sa_cons (se_tup (sa_cons se_str sa_nil)) (sa_cons se_non sa_nil)))))))) (sg_name (pg_name (i := 3) sc__law_odds.nd rfl (by first | exact Or.inl rfl | exact Or.inr rfl))) (ss_one (ss_expr (se_app (sv 2) (se_tup (sa_cons se_str (sa_cons (sv 0) (sa_cons se_str (sa_cons (sv 3) (sa_cons se_int sa_nil))))))))))
    (ss_cons (ss_set (i := 2) sc__law_odds.nd rfl (by first | exact Or.inl rfl | exact Or.inr rfl) (se_nw (sn_addL (sv 2) (se_fz (se_lc (own := [("_law_one", 3)]) rfl sc__law_odds.nd (si_seq (se_tup (sa_cons (se_neg se_int) (sa_cons se_int (sa_cons se_bl (sa_cons se_str (sa_cons (se_tup (sa_cons se_int sa_nil)) (sa_cons se_bl sa_nil)))))))) (blkOk_by (N := N__law_odds) (sc := defScope st__law_odds) (by decide +kernel)) (by decide) (fun _ _ _ _ _ => (sg_name (pg_name (i := 3) sc__law_odds.nd rfl (by first | exact Or.inl rfl | exact Or.inr rfl)))) (fun _ _ _ _ _ => stc_nil) (fun _ _ _ _ _ => (se_tup (sa_cons se_str (sa_cons (sv 0) (sa_cons se_str (sa_cons (sv 1) (sa_cons (sv 3) sa_nil))))))))))))
    (ss_cons (ss_set (i := 2) sc__law_odds.nd rfl (by first | exact Or.inl rfl | exact Or.inr rfl) (se_nw (sn_addL (sv 2) (se_lst (sa_cons (se_tup (sa_cons se_str (sa_cons (sv 0) sa_nil))) (sa_cons (se_tup (sa_cons se_str (sa_cons (sv 0) (sa_cons (sv 0) (sa_cons (sv 0) sa_nil))))) (sa_cons (se_tup (sa_cons se_str (sa_cons (sv 0) (sa_cons se_non sa_nil)))) (sa_cons (se_tup (sa_cons se_str (sa_cons (se_sl (sv 0) so_none (so_some se_int)) (sa_cons (sv 0) sa_nil)))) sa_nil))))))))
    (ss_cons (ss_set (i := 2) sc__law_odds.nd rfl (by first | exact Or.inl rfl | exact Or.inr rfl) (se_nw (sn_addL (sv 2) (se_lst (sa_cons (se_tup (sa_cons se_str sa_nil)) (sa_cons (se_tup (sa_cons se_str (sa_cons (sv 0) (sa_cons (se_op o_add w_add (se_tup (sa_cons se_int (sa_cons se_int sa_nil))) (se_sl (sv 0) (so_some se_int) so_none)) sa_nil)))) (sa_cons (se_tup (sa_cons se_str (sa_cons (se_op o_add w_add (se_tup (sa_cons se_int (sa_cons se_int sa_nil))) (se_sl (sv 0) (so_some se_int) so_none)) (sa_cons (sv 0) sa_nil)))) sa_nil)))))))
    (ss_cons (ss_set (i := 2) sc__law_odds.nd rfl (by first | exact Or.inl rfl | exact Or.inr rfl) (se_nw (sn_addL (sv 2) (se_lst (sa_cons (se_tup (sa_cons se_non (sa_cons (sv 0) (sa_cons (sv 0) sa_nil)))) (sa_cons (se_tup (sa_cons (se_tup (sa_cons se_str sa_nil)) (sa_cons (sv 0) (sa_cons (sv 0) sa_nil)))) (sa_cons (se_tup (sa_cons se_str (sa_cons (sv 0) (sa_cons (sv 0) sa_nil)))) sa_nil)))))))
    (ss_one (ss_ret (se_op o_add w_add (sv 2) (se_lst (sa_cons (se_tup (sa_cons se_str (sa_cons (se_op o_add w_add (se_tup (sa_cons se_int (sa_cons se_int sa_nil))) (se_sl (sv 0) (so_some se_int) so_none)) (sa_cons se_str (sa_cons (sv 1) (sa_cons se_int sa_nil)))))) (sa_cons (se_tup (sa_cons se_str (sa_cons (se_fz (sn_ct call_list_of w_list T.m_list (by decide +kernel) (sa_cons (sv 0) sa_nil))) (sa_cons se_str (sa_cons (sv 1) (sa_cons se_int sa_nil)))))) sa_nil))))))))))))))))
theorem sc__law_hand_right : FnScope N__law_hand_right [] (defScope st__law_hand_right) := ⟨rfl, rfl, rfl, by decide +kernel, rfl, by decide +kernel, by decide +kernel⟩
theorem ok__law_hand_right (T : Txt P w K mg base) : FnG P w K mg base 13 (He.ga K "_law_hand_right") T.fd__law_hand_right [] (spOf K (cl K) 0 r__law_hand_right) := by
  refine fn_pw (fn_okC (p := ("_law_hand_right", none)) (N := N__law_hand_right) (d := d__law_hand_right) T.f__law_hand_right.F sc__law_hand_right rfl fun A outer s H E hr => ?_)
  have tk := takes_of (X := cxOf (L2.CX P w) P w K mg base N__law_hand_right "_law_hand_right" (defScope st__law_hand_right) (He.fAd K ("_law_hand_right", none)) (.ref (He.codeOf K ("_law_hand_right", none))) A outer s H E) (E := E) rfl rfl rfl rfl
  exact (ss_cons (ss_par (i := 0) (j := 1) rfl sc__law_hand_right.nd rfl rfl (by decide) rfl rfl (sa_cons (se_call0 (ok__law_rule T) (hr.mono (by decide)) T.f__law_rule.g T.f__law_rule.F.kp T.f__law_rule.b tk) (sa_cons (se_tup (sa_cons se_str (sa_cons se_str sa_nil))) sa_nil)) rfl)
    (ss_cons (ss_set (i := 2) sc__law_hand_right.nd rfl (by first | exact Or.inl rfl | exact Or.inr rfl) (se_op o_add w_add (se_op o_add w_add (se_sl (sv 0) so_none (so_some se_int)) (se_tup (sa_cons se_str sa_nil))) (se_sl (sv 0) (so_some se_int) so_none)))
    (ss_cons (ss_set (i := 3) sc__law_hand_right.nd rfl (by first | exact Or.inl rfl | exact Or.inr rfl) (se_lstM (sa_cons (se_tup (sa_cons (se_tup (sa_cons se_str (sa_cons (sv 0) (sa_cons se_str (sa_cons (sv 1) (sa_cons se_int sa_nil)))))) (sa_cons (se_tup (sa_cons se_str sa_nil)) (sa_cons (se_lst (sa_cons se_str (sa_cons se_bl sa_nil))) sa_nil)))) sa_nil)))
    (ss_cons (ss_set (i := 3) sc__law_hand_right.nd rfl (by first | exact Or.inl rfl | exact Or.inr rfl) (se_nw (sn_addL (sv 3) (se_lst (sa_cons (se_tup (sa_cons (se_tup (sa_cons se_str (sa_cons (sv 0) (sa_cons se_str (sa_cons (sv 1) (sa_cons se_int sa_nil)))))) (sa_cons (se_tup (sa_cons se_str sa_nil)) (sa_cons (se_lst (sa_cons se_str (sa_cons se_str sa_nil))) sa_nil)))) sa_nil)))))
    (ss_cons (ss_set (i := 4) sc__law_hand_right.nd rfl (by first | exact Or.inl rfl | exact Or.inr rfl) (se_op o_add w_add (se_op o_mulT w_mulT (se_tup (sa_cons (se_tup (sa_cons se_str sa_nil)) sa_nil)) se_int) (se_tup (sa_cons (se_tup (sa_cons se_str (sa_cons se_int sa_nil))) (sa_cons (se_tup (sa_cons se_str (sa_cons se_int sa_nil))) (sa_cons (se_tup (sa_cons se_str sa_nil)) sa_nil))))))
    (ss_cons (ss_set (i := 3) sc__law_hand_right.nd rfl (by first | exact Or.inl rfl | exact Or.inr rfl) (se_nw (sn_addL (sv 3) (se_lst (sa_cons (se_tup (sa_cons (se_tup (sa_cons se_str (sa_cons (sv 0) (sa_cons se_str (sa_cons (sv 1) (sa_cons se_int sa_nil)))))) (sa_cons (se_tup (sa_cons se_str (sa_cons (sv 4) sa_nil))) (sa_cons (se_lst (sa_cons se_str (sa_cons se_bl sa_nil))) sa_nil)))) sa_nil)))))
    (ss_cons (ss_set (i := 3) sc__law_hand_right.nd rfl (by first | exact Or.inl rfl | exact Or.inr rfl) (se_nw (sn_addL (sv 3) (se_lst (sa_cons (se_tup (sa_cons (se_tup (sa_cons se_str (sa_cons (sv 0) (sa_cons se_str (sa_cons (sv 1) (sa_cons se_non sa_nil)))))) (sa_cons (se_tup (sa_cons se_str (sa_cons (sv 4) sa_nil))) (sa_cons (se_lst (sa_cons se_str (sa_cons se_bl sa_nil))) sa_nil)))) sa_nil)))))
    (ss_cons (ss_set (i := 3) sc__law_hand_right.nd rfl (by first | exact Or.inl rfl | exact Or.inr rfl) (se_nw (sn_addL (sv 3) (se_lst (sa_cons (se_tup (sa_cons (se_tup (sa_cons se_str (sa_cons (sv 0) (sa_cons se_str (sa_cons (sv 1) (sa_cons se_int sa_nil)))))) (sa_cons (se_tup (sa_cons se_str (sa_cons (sv 4) sa_nil))) (sa_cons (se_lst (sa_cons se_str (sa_cons se_str sa_nil))) sa_nil)))) sa_nil)))))
    (ss_cons (ss_set (i := 5) sc__law_hand_right.nd rfl (by first | exact Or.inl rfl | exact Or.inr rfl) (se_tup (sa_cons (se_tup (sa_cons se_str sa_nil)) (sa_cons (se_tup (sa_cons se_str (sa_cons se_int sa_nil))) (sa_cons (se_tup (sa_cons se_str sa_nil)) (sa_cons (se_tup (sa_cons se_str sa_nil)) (sa_cons (se_tup (sa_cons se_str (sa_cons se_int sa_nil))) (sa_cons (se_tup (sa_cons se_str (sa_cons se_int sa_nil))) (sa_cons (se_tup (sa_cons se_str sa_nil)) sa_nil)))))))))
    (ss_cons (ss_set (i := 3) sc__law_hand_right.nd rfl (by first | exact Or.inl rfl | exact Or.inr rfl) (se_nw (sn_addL (sv 3) (se_lst (sa_cons (se_tup (sa_cons (se_tup (sa_cons se_str (sa_cons (sv 2) (sa_cons se_str (sa_cons (sv 1) (sa_cons se_int sa_nil)))))) (sa_cons (se_tup (sa_cons se_str (sa_cons (sv 5) sa_nil))) (sa_cons (se_lst (sa_cons se_str (sa_cons se_bl sa_nil))) sa_nil)))) sa_nil)))))
    (ss_cons (ss_set (i := 3) sc__law_hand_right.nd rfl (by first | exact Or.inl rfl | exact Or.inr rfl) (se_nw (sn_addL (sv 3) (se_lst (sa_cons (se_tup (sa_cons (se_tup (sa_cons se_str (sa_cons (sv 2) (sa_cons se_str (sa_cons (se_tup (sa_cons se_str sa_nil)) (sa_cons se_int sa_nil)))))) (sa_cons (se_tup (sa_cons se_str (sa_cons (sv 5) sa_nil))) (sa_cons (se_lst (sa_cons se_str (sa_cons se_str sa_nil))) sa_nil)))) sa_nil)))))
    (ss_cons (ss_set (i := 3) sc__law_hand_right.nd rfl (by first | exact Or.inl rfl | exact Or.inr rfl) (se_nw (sn_addL (sv 3) (se_lst (sa_cons (se_tup (sa_cons (se_tup (sa_cons se_str (sa_cons (sv 2) (sa_cons se_str (sa_cons (se_tup (sa_cons se_str sa_nil)) (sa_cons se_int sa_nil)))))) (sa_cons (se_tup (sa_cons se_str sa_nil)) (sa_cons (se_lst (sa_cons se_str (sa_cons se_bl sa_nil))) sa_nil)))) sa_nil)))))
    (ss_cons (ss_set (i := 6) sc__law_hand_right.nd rfl (by first | exact Or.inl rfl | exact Or.inr rfl) (se_tup (sa_cons (se_tup (sa_cons se_str sa_nil)) (sa_cons (se_tup (sa_cons se_str (sa_cons se_int sa_nil))) (sa_cons (se_tup (sa_cons se_str sa_nil)) (sa_cons (se_tup (sa_cons se_str (sa_cons se_int sa_nil))) sa_nil))))))
    (ss_cons (ss_set (i := 7) sc__law_hand_right.nd rfl (by first | exact Or.inl rfl | exact Or.inr rfl) (se_op o_add w_add (se_op o_add w_add (se_sl (sv 0) so_none (so_some se_int)) (se_tup (sa_cons se_str sa_nil))) (se_sl (sv 0) (so_some se_int) so_none)))
    (ss_cons (ss_set (i := 3) sc__law_hand_right.nd rfl (by first | exact Or.inl rfl | exact Or.inr rfl) (se_nw (sn_addL (sv 3) (se_lst (sa_cons (se_tup (sa_cons (se_tup (sa_cons se_str (sa_cons (sv 7) (sa_cons se_str (sa_cons (se_tup (sa_cons se_str sa_nil)) (sa_cons se_int sa_nil)))))) (sa_cons (se_tup (sa_cons se_str (sa_cons (sv 6) sa_nil))) (sa_cons (se_lst (sa_cons se_str (sa_cons se_bl sa_nil))) sa_nil)))) sa_nil)))))
    (ss_cons (ss_set (i := 3) sc__law_hand_right.nd rfl (by first | exact Or.inl rfl | exact Or.inr rfl) (se_nw (sn_addL (sv 3) (se_lst (sa_cons (se_tup (sa_cons (se_tup (sa_cons se_str (sa_cons (sv 7) (sa_cons se_str (sa_cons (se_tup (sa_cons se_str sa_nil)) (sa_cons se_int sa_nil)))))) (sa_cons (se_tup (sa_cons se_str (sa_cons (se_op o_add w_add (se_sl (sv 6) so_none (so_some se_int)) (se_sl (sv 6) (so_some se_int) so_none)) sa_nil))) (sa_cons (se_lst (sa_cons se_str (sa_cons se_str sa_nil))) sa_nil)))) sa_nil)))))
    (ss_cons (ss_set (i := 3) sc__law_hand_right.nd rfl (by first | exact Or.inl rfl | exact Or.inr rfl) (se_nw (sn_addL (sv 3) (se_lst (sa_cons (se_tup (sa_cons (se_tup (sa_cons se_str (sa_cons (sv 0) (sa_cons (se_op o_add w_add (se_sl (sv 0) so_none (so_some se_int)) (se_tup (sa_cons se_str sa_nil))) sa_nil)))) (sa_cons (se_tup (sa_cons se_str sa_nil)) (sa_cons (se_lst (sa_cons se_str (sa_cons se_bl sa_nil))) sa_nil)))) sa_nil)))))
    (ss_cons (ss_set (i := 3) sc__law_hand_right.nd rfl (by first | exact Or.inl rfl | exact Or.inr rfl) (se_nw (sn_addL (sv 3) (se_lst (sa_cons (se_tup (sa_cons (se_tup (sa_cons se_str (sa_cons (sv 0) (sa_cons (sv 2) sa_nil)))) (sa_cons (se_tup (sa_cons se_str sa_nil)) (sa_cons (se_lst (sa_cons se_str (sa_cons se_str sa_nil))) sa_nil)))) sa_nil)))))
    (ss_cons (ss_set (i := 3) sc__law_hand_right.nd rfl (by first | exact Or.inl rfl | exact Or.inr rfl) (se_nw (sn_addL (sv 3) (se_lst (sa_cons (se_tup (sa_cons (se_tup (sa_cons se_str (sa_cons (sv 0) (sa_cons (sv 0) sa_nil)))) (sa_cons se_non (sa_cons (se_lst (sa_cons se_str (sa_cons se_str sa_nil))) sa_nil)))) sa_nil)))))
    (ss_cons (ss_set (i := 3) sc__law_hand_right.nd rfl (by first | exact Or.inl rfl | exact Or.inr rfl) (se_nw (sn_addL (sv 3) (se_lst (sa_cons (se_tup (sa_cons (se_tup (sa_cons se_str (sa_cons (sv 0) (sa_cons (sv 2) sa_nil)))) (sa_cons (se_tup (sa_cons se_str (sa_cons (se_sl (sv 5) so_none (so_some se_int)) sa_nil))) (sa_cons (se_lst (sa_cons se_str (sa_cons se_bl sa_nil))) sa_nil)))) sa_nil)))))
    (ss_cons (ss_for (passes_of rfl) rfl (si_seq (se_tup (sa_cons (se_tup sa_nil) (sa_cons (se_sl (sv 5) so_none (so_some se_int)) (sa_cons (sv 5) sa_nil))))) (sg_name (pg_name (i := 8) sc__law_hand_right.nd rfl (by first | exact Or.inl rfl | exact Or.inr rfl))) (ss_one (ss_expr (se_app (sv 3) (se_tup (sa_cons (se_tup (sa_cons se_str (sa_cons (sv 0) (sa_cons (sv 2) sa_nil)))) (sa_cons (se_tup (sa_cons se_str (sa_cons (sv 8) sa_nil))) (sa_cons (se_lst (sa_cons se_str (sa_cons se_str sa_nil))) sa_nil))))))))
    (ss_cons (ss_set (i := 9) sc__law_hand_right.nd rfl (by first | exact Or.inl rfl | exact Or.inr rfl) (se_op o_add w_add (se_tup (sa_cons (se_tup (sa_cons se_str sa_nil)) sa_nil)) (se_op o_mulT w_mulT (se_tup (sa_cons (se_tup (sa_cons se_str (sa_cons se_int sa_nil))) (sa_cons (se_tup (sa_cons se_str (sa_cons se_int sa_nil))) sa_nil))) se_int)))
    (ss_cons (ss_set (i := 4) sc__law_hand_right.nd rfl (by first | exact Or.inl rfl | exact Or.inr rfl) (se_op o_add w_add (se_op o_add w_add (sv 9) (se_op o_mulT w_mulT (se_tup (sa_cons (se_tup (sa_cons se_str sa_nil)) sa_nil)) se_int)) (se_tup (sa_cons (se_tup (sa_cons se_str (sa_cons se_int sa_nil))) (sa_cons (se_tup (sa_cons se_str (sa_cons se_int sa_nil))) (sa_cons (se_tup (sa_cons se_str sa_nil)) sa_nil))))))
    (ss_cons (ss_set (i := 3) sc__law_hand_right.nd rfl (by first | exact Or.inl rfl | exact Or.inr rfl) (se_nw (sn_addL (sv 3) (se_lst (sa_cons (se_tup (sa_cons (se_tup (sa_cons se_str (sa_cons (sv 0) (sa_cons se_str (sa_cons (sv 1) (sa_cons se_int sa_nil)))))) (sa_cons (se_tup (sa_cons se_str (sa_cons (sv 4) sa_nil))) (sa_cons (se_lst (sa_cons se_str (sa_cons se_bl sa_nil))) sa_nil)))) sa_nil)))))
    (ss_cons (ss_set (i := 3) sc__law_hand_right.nd rfl (by first | exact Or.inl rfl | exact Or.inr rfl) (se_nw (sn_addL (sv 3) (se_lst (sa_cons (se_tup (sa_cons (se_tup (sa_cons se_str (sa_cons (sv 0) (sa_cons se_str (sa_cons (sv 1) (sa_cons se_int sa_nil)))))) (sa_cons (se_tup (sa_cons se_str (sa_cons (se_op o_add w_add (sv 4) (se_tup (sa_cons (se_tup (sa_cons se_str sa_nil)) sa_nil))) sa_nil))) (sa_cons (se_lst (sa_cons se_str (sa_cons se_str sa_nil))) sa_nil)))) sa_nil)))))
    (ss_cons (ss_set (i := 10) sc__law_hand_right.nd rfl (by first | exact Or.inl rfl | exact Or.inr rfl) (se_op o_add w_add (se_op o_add w_add (se_op o_mulT w_mulT (se_tup (sa_cons (se_tup (sa_cons se_str sa_nil)) sa_nil)) se_int) (se_ct call_tuple_of w_tuple T.m_tuple (by decide +kernel) (sa_cons (se_fz (se_lc (own := [("_law_k", 11)]) rfl sc__law_hand_right.nd (si_rng1 T.m_range (sa_cons se_int sa_nil) a1_len) (blkOk_by (N := N__law_hand_right) (sc := defScope st__law_hand_right) (by decide +kernel)) (by decide) (fun _ _ _ _ _ => (sg_name (pg_name (i := 11) sc__law_hand_right.nd rfl (by first | exact Or.inl rfl | exact Or.inr rfl)))) (fun _ _ _ _ _ => stc_nil) (fun _ _ _ _ _ => (se_tup (sa_cons se_str (sa_cons (se_ct call_int1 w_int T.m_int (by decide +kernel) (sa_cons (sv 11) sa_nil)) sa_nil)))))) sa_nil))) (se_tup (sa_cons (se_tup (sa_cons se_str (sa_cons se_int sa_nil))) (sa_cons (se_tup (sa_cons se_str (sa_cons se_int sa_nil))) sa_nil)))))
    (ss_cons (ss_set (i := 3) sc__law_hand_right.nd rfl (by first | exact Or.inl rfl | exact Or.inr rfl) (se_nw (sn_addL (sv 3) (se_lst (sa_cons (se_tup (sa_cons (se_tup (sa_cons se_str (sa_cons (sv 7) (sa_cons (sv 2) sa_nil)))) (sa_cons (se_tup (sa_cons se_str (sa_cons (sv 10) sa_nil))) (sa_cons (se_lst (sa_cons se_str (sa_cons se_bl sa_nil))) sa_nil)))) sa_nil)))))
    (ss_cons (ss_set (i := 3) sc__law_hand_right.nd rfl (by first | exact Or.inl rfl | exact Or.inr rfl) (se_nw (sn_addL (sv 3) (se_lst (sa_cons (se_tup (sa_cons (se_tup (sa_cons se_str (sa_cons (sv 7) (sa_cons (sv 2) sa_nil)))) (sa_cons (se_tup (sa_cons se_str (sa_cons (se_sl (sv 10) so_none (so_some (se_neg se_int))) sa_nil))) (sa_cons (se_lst (sa_cons se_str (sa_cons se_str sa_nil))) sa_nil)))) sa_nil)))))
    (ss_one (ss_ret (se_cmp (op_eqD hr.units) w_eq (se_fz (se_lc (own := [("_law_claim", 12), ("_law_paper", 13), ("_law_due", 14)]) rfl sc__law_hand_right.nd (si_seq (se_frz 3)) (blkOk_by (N := N__law_hand_right) (sc := defScope st__law_hand_right) (by decide +kernel)) (by decide) (fun _ _ _ _ _ => (sg_tup rfl (sgs_cons (sg_name (pg_name (i := 12) sc__law_hand_right.nd rfl (by first | exact Or.inl rfl | exact Or.inr rfl))) (sgs_cons (sg_name (pg_name (i := 13) sc__law_hand_right.nd rfl (by first | exact Or.inl rfl | exact Or.inr rfl))) (sgs_cons (sg_name (pg_name (i := 14) sc__law_hand_right.nd rfl (by first | exact Or.inl rfl | exact Or.inr rfl))) sgs_nil))) (gsCons_len (gsCons_len (gsCons_len gsNil_len))))) (fun _ _ _ _ _ => stc_nil) (fun _ _ _ _ _ => (se_lam (k := 10) (c := (He.cT K ("_law_hand_right", none)).1) (P := (He.cT K ("_law_hand_right", none)).2) T.f__law_heard.F T.f__law_heard.g T.f__law_heard.F.kp T.f__law_heard.b sc__law_heard (okL__law_heard T (by decide)) T.tb__law_hand_right rfl (List.mem_of_getElem? (i := 0) rfl) (tabs_hu T.tnd (i := 0) rfl) (hr.mono (by decide)) takes0 (fun A outer s H E f c hr => (se_call (ok_judged T) (hr.mono (by decide)) T.f_judged.g T.f_judged.F.kp T.f_judged.b takes_lam (sa_cons (sv 12) (sa_cons (sv 13) sa_nil)))) (L := LamX.lamS_by (by kernel_rfl)))))) (se_fz (se_lc (own := [("_law_one", 15)]) rfl sc__law_hand_right.nd (si_seq (se_frz 3)) (blkOk_by (N := N__law_hand_right) (sc := defScope st__law_hand_right) (by decide +kernel)) (by decide) (fun _ _ _ _ _ => (sg_name (pg_name (i := 15) sc__law_hand_right.nd rfl (by first | exact Or.inl rfl | exact Or.inr rfl)))) (fun _ _ _ _ _ => stc_nil) (fun _ _ _ _ _ => (se_ix ix_seq w_ix (sv 15) se_int)))) rfl)))))))))))))))))))))))))))))))
theorem sc_law : FnScope N_law ["_law_script"] (defScope st_law) := ⟨rfl, rfl, rfl, by decide +kernel, rfl, by decide +kernel, by decide +kernel⟩
theorem ok_law (T : Txt P w K mg base) : FnG P w K mg base 14 (He.ga K "law") T.fd_law ["_law_script"] (spOf K (cl K) 1 r_law) := by
  refine fn_okC (p := ("law", none)) (N := N_law) (d := d_law) T.f_law.F sc_law rfl fun A outer s H E hr => ?_
  have tk := takes_of (X := cxOf (L2.CX P w) P w K mg base N_law "law" (defScope st_law) (He.fAd K ("law", none)) (.ref (He.codeOf K ("law", none))) A outer s H E) (E := E) rfl rfl rfl rfl
  exact (ss_cons (ss_set (i := 1) sc_law.nd rfl (by first | exact Or.inl rfl | exact Or.inr rfl) (se_call (ok__law_begin T) (hr.mono (by decide)) T.f__law_begin.g T.f__law_begin.F.kp T.f__law_begin.b tk (sa_cons (sv 0) sa_nil)))
    (ss_cons (ss_for (passes_of rfl) rfl (si_seq (se_call0 (ok__law_odds T) (hr.mono (by decide)) T.f__law_odds.g T.f__law_odds.F.kp T.f__law_odds.b tk)) (sg_name (pg_name (i := 2) sc_law.nd rfl (by first | exact Or.inl rfl | exact Or.inr rfl))) (ss_cons (ss_set (i := 3) sc_law.nd rfl (by first | exact Or.inl rfl | exact Or.inr rfl) (se_call (ok__law_of T) (hr.mono (by decide)) T.f__law_of.g T.f__law_of.F.kp T.f__law_of.b tk (sa_cons (sv 1) (sa_cons (se_lst (sa_cons se_non (sa_cons (se_tup (sa_cons se_str sa_nil)) (sa_cons (se_tup (sa_cons se_str sa_nil)) (sa_cons (se_tup sa_nil) (sa_cons (se_tup (sa_cons se_str (sa_cons (se_tup sa_nil) sa_nil))) sa_nil)))))) sa_nil))))
    (ss_cons (ss_set (i := 4) sc_law.nd rfl (by first | exact Or.inl rfl | exact Or.inr rfl) (se_cb (cr_repr (hu65 hr) hr.g) w_repr T.m_repr (by decide +kernel) (sa_cons (sv 2) sa_nil)))
    (ss_one (ss_if (PW.pt (sw_or (st_cmp (op_neD hr.units) w_ne (se_lam (k := 10) (c := (He.cT K ("law", none)).1) (P := (He.cT K ("law", none)).2) T.f__law_heard.F T.f__law_heard.g T.f__law_heard.F.kp T.f__law_heard.b sc__law_heard (okL__law_heard T (by decide)) T.tb_law rfl (List.mem_of_getElem? (i := 1) rfl) (tabs_hu T.tnd (i := 1) rfl) (hr.mono (by decide)) tk (fun A outer s H E f c hr => (se_call (ok_judged T) (hr.mono (by decide)) T.f_judged.g T.f_judged.F.kp T.f_judged.b takes_lam (sa_cons (sv 2) (sa_cons (sv 3) sa_nil)))) (L := LamX.lamS_by (by kernel_rfl))) (se_lst (sa_cons se_str (sa_cons (sv 4) sa_nil))) rfl) (sw_or1 (st_cmp op_ne w_neS (se_cb (cr_repr (hu65 hr) hr.g) w_repr T.m_repr (by decide +kernel) (sa_cons (sv 2) sa_nil)) (sv 4) rfl)))) (ss_one (ss_ret se_bl)) ss_nil)))))
    (ss_one (ss_ret (se_call0 (ok__law_hand_right T) (hr.mono (by decide)) T.f__law_hand_right.g T.f__law_hand_right.F.kp T.f__law_hand_right.b tk)))))
end
theorem facts {P : Program} {w : World} {K : PySem.W.Frag} {h : Heap} {mg : Str → Option Value} {f : Addr} (X : K.In h) (G : h.Ns mainGlobals mg) (hfa : mg ("law" : Str) = some (.ref f)) (c : SaysEX fa fn ex tb xl w K) (hfile : P.main.file = fileS) (htop : (P.main.scope.names.lookup ("super" : Str)).isSome = false) :
    ∃ fd : FuncData, (∀ (s : Shared) (v : Value), BindsTo s fd ⟨[v], []⟩ [("_law_script", v)]) ∧ ∀ base : Heap, K.In base → base.Ns mainGlobals mg → (∀ p ∈ tfl, LamX.TabB base mg (He.cT K p).1 (He.cT K p).2) → FnG P w K mg base 14 f fd ["_law_script"] (spOf K (cl K) 1 r_law) := by
  obtain ⟨fd_is_integer, F_is_integer⟩ := c.d.def_ 0 (d := dd_is_integer) rfl
  have g_is_integer := He.glo_ok X G (c.d.fact 0 (f := .glo "is_integer") rfl)
  have b_is_integer := FunD.bindsN (ps := ["thing"]) F_is_integer fun _ _ _ _ _ _ us hl => match us, hl with | [_], _ => rfl
  obtain ⟨fd_is_between, F_is_between⟩ := c.d.def_ 1 (d := dd_is_between) rfl
  have g_is_between := He.glo_ok X G (c.d.fact 1 (f := .glo "is_between") rfl)
  have b_is_between := FunD.bindsN (ps := ["thing", "least", "most"]) F_is_between fun _ _ _ _ _ _ us hl => match us, hl with | [_, _, _], _ => rfl
  obtain ⟨fd_is_one_of, F_is_one_of⟩ := c.d.def_ 2 (d := dd_is_one_of) rfl
  have g_is_one_of := He.glo_ok X G (c.d.fact 2 (f := .glo "is_one_of") rfl)
  have b_is_one_of := FunD.bindsN (ps := ["some", "thing"]) F_is_one_of fun _ _ _ _ _ _ us hl => match us, hl with | [_, _], _ => rfl
  obtain ⟨fd_need_rule, F_need_rule⟩ := c.d.def_ 3 (d := dd_need_rule) rfl
  have g_need_rule := He.glo_ok X G (c.d.fact 3 (f := .glo "need_rule") rfl)
  have b_need_rule := FunD.bindsN (ps := ["thing"]) F_need_rule fun _ _ _ _ _ _ us hl => match us, hl with | [_], _ => rfl
  obtain ⟨fd_nearest_ahead, F_nearest_ahead⟩ := c.d.def_ 4 (d := dd_nearest_ahead) rfl
  have g_nearest_ahead := He.glo_ok X G (c.d.fact 4 (f := .glo "nearest_ahead") rfl)
  have b_nearest_ahead := FunD.bindsN (ps := ["rule", "line", "spot"]) F_nearest_ahead fun _ _ _ _ _ _ us hl => match us, hl with | [_, _, _], _ => rfl
  obtain ⟨fd_renewed, F_renewed⟩ := c.d.def_ 5 (d := dd_renewed) rfl
  have g_renewed := He.glo_ok X G (c.d.fact 5 (f := .glo "renewed") rfl)
  have b_renewed := FunD.bindsN (ps := ["rule", "line", "spots"]) F_renewed fun _ _ _ _ _ _ us hl => match us, hl with | [_, _, _], _ => rfl
  obtain ⟨fd_spot_of, F_spot_of⟩ := c.d.def_ 6 (d := dd_spot_of) rfl
  have g_spot_of := He.glo_ok X G (c.d.fact 6 (f := .glo "spot_of") rfl)
  have b_spot_of := FunD.bindsN (ps := ["line", "person"]) F_spot_of fun _ _ _ _ _ _ us hl => match us, hl with | [_, _], _ => rfl
  obtain ⟨fd_as_how, F_as_how⟩ := c.d.def_ 7 (d := dd_as_how) rfl
  have g_as_how := He.glo_ok X G (c.d.fact 7 (f := .glo "as_how") rfl)
  have b_as_how := FunD.bindsN (ps := ["line", "spot", "how"]) F_as_how fun _ _ _ _ _ _ us hl => match us, hl with | [_, _, _], _ => rfl
  obtain ⟨fd_without, F_without⟩ := c.d.def_ 8 (d := dd_without) rfl
  have g_without := He.glo_ok X G (c.d.fact 8 (f := .glo "without") rfl)
  have b_without := FunD.bindsN (ps := ["rule", "line", "person"]) F_without fun _ _ _ _ _ _ us hl => match us, hl with | [_, _, _], _ => rfl
  obtain ⟨fd_forgetting, F_forgetting⟩ := c.d.def_ 9 (d := dd_forgetting) rfl
  have g_forgetting := He.glo_ok X G (c.d.fact 9 (f := .glo "forgetting") rfl)
  have b_forgetting := FunD.bindsN (ps := ["line"]) F_forgetting fun _ _ _ _ _ _ us hl => match us, hl with | [_], _ => rfl
  obtain ⟨fd_asked_again, F_asked_again⟩ := c.d.def_ 10 (d := dd_asked_again) rfl
  have g_asked_again := He.glo_ok X G (c.d.fact 10 (f := .glo "asked_again") rfl)
  have b_asked_again := FunD.bindsN (ps := ["rule", "line"]) F_asked_again fun _ _ _ _ _ _ us hl => match us, hl with | [_, _], _ => rfl
  obtain ⟨fd_claiming, F_claiming⟩ := c.d.def_ 11 (d := dd_claiming) rfl
  have g_claiming := He.glo_ok X G (c.d.fact 11 (f := .glo "claiming") rfl)
  have b_claiming := FunD.bindsN (ps := ["rule", "line"]) F_claiming fun _ _ _ _ _ _ us hl => match us, hl with | [_, _], _ => rfl
  obtain ⟨fd_has_form, F_has_form⟩ := c.d.def_ 12 (d := dd_has_form) rfl
  have g_has_form := He.glo_ok X G (c.d.fact 12 (f := .glo "has_form") rfl)
  have b_has_form := FunD.bindsN (ps := ["thing"]) F_has_form fun _ _ _ _ _ _ us hl => match us, hl with | [_], _ => rfl
  obtain ⟨fd_Room___init__, F_Room___init__⟩ := c.d.def_ 13 (d := dd_Room___init__) rfl
  have b_Room___init__ := FunD.bindsN (ps := ["self", "rule"]) F_Room___init__ fun _ _ _ _ _ _ us hl => match us, hl with | [_, _], _ => rfl
  obtain ⟨fd_Room_put_in, F_Room_put_in⟩ := c.d.def_ 14 (d := dd_Room_put_in) rfl
  have b_Room_put_in := FunD.bindsN (ps := ["self", "spot"]) F_Room_put_in fun _ _ _ _ _ _ us hl => match us, hl with | [_, _], _ => rfl
  obtain ⟨fd_Room_open_door, F_Room_open_door⟩ := c.d.def_ 15 (d := dd_Room_open_door) rfl
  have b_Room_open_door := FunD.bindsN (ps := ["self"]) F_Room_open_door fun _ _ _ _ _ _ us hl => match us, hl with | [_], _ => rfl
  obtain ⟨fd_Room_renew_from, F_Room_renew_from⟩ := c.d.def_ 16 (d := dd_Room_renew_from) rfl
  have b_Room_renew_from := FunD.bindsN (ps := ["self", "spot"]) F_Room_renew_from fun _ _ _ _ _ _ us hl => match us, hl with | [_, _], _ => rfl
  obtain ⟨fd_Room_bring_back, F_Room_bring_back⟩ := c.d.def_ 17 (d := dd_Room_bring_back) rfl
  have b_Room_bring_back := FunD.bindsN (ps := ["self", "spot"]) F_Room_bring_back fun _ _ _ _ _ _ us hl => match us, hl with | [_, _], _ => rfl
  obtain ⟨fd_Room_do_personal, F_Room_do_personal⟩ := c.d.def_ 18 (d := dd_Room_do_personal) rfl
  have b_Room_do_personal := FunD.bindsN (ps := ["self", "word", "person"]) F_Room_do_personal fun _ _ _ _ _ _ us hl => match us, hl with | [_, _, _], _ => rfl
  obtain ⟨fd_Room_do, F_Room_do⟩ := c.d.def_ 19 (d := dd_Room_do) rfl
  have b_Room_do := FunD.bindsN (ps := ["self", "event"]) F_Room_do fun _ _ _ _ _ _ us hl => match us, hl with | [_, _], _ => rfl
  obtain ⟨fd_Room_how_is, F_Room_how_is⟩ := c.d.def_ 20 (d := dd_Room_how_is) rfl
  have b_Room_how_is := FunD.bindsN (ps := ["self", "person"]) F_Room_how_is fun _ _ _ _ _ _ us hl => match us, hl with | [_, _], _ => rfl
  obtain ⟨fd_Room_are_here, F_Room_are_here⟩ := c.d.def_ 21 (d := dd_Room_are_here) rfl
  have b_Room_are_here := FunD.bindsN (ps := ["self"]) F_Room_are_here fun _ _ _ _ _ _ us hl => match us, hl with | [_], _ => rfl
  obtain ⟨fd_Room_can_be, F_Room_can_be⟩ := c.d.def_ 22 (d := dd_Room_can_be) rfl
  have b_Room_can_be := FunD.bindsN (ps := ["self", "event"]) F_Room_can_be fun _ _ _ _ _ _ us hl => match us, hl with | [_, _], _ => rfl
  obtain ⟨fd_room_behind, F_room_behind⟩ := c.d.def_ 23 (d := dd_room_behind) rfl
  have g_room_behind := He.glo_ok X G (c.d.fact 13 (f := .glo "room_behind") rfl)
  have b_room_behind := FunD.bindsN (ps := ["rule", "events"]) F_room_behind fun _ _ _ _ _ _ us hl => match us, hl with | [_, _], _ => rfl
  obtain ⟨fd_absent_in, F_absent_in⟩ := c.d.def_ 24 (d := dd_absent_in) rfl
  have g_absent_in := He.glo_ok X G (c.d.fact 14 (f := .glo "absent_in") rfl)
  have b_absent_in := FunD.bindsN (ps := ["line"]) F_absent_in fun _ _ _ _ _ _ us hl => match us, hl with | [_], _ => rfl
  obtain ⟨fd_normal_of, F_normal_of⟩ := c.d.def_ 25 (d := dd_normal_of) rfl
  have g_normal_of := He.glo_ok X G (c.d.fact 15 (f := .glo "normal_of") rfl)
  have b_normal_of := FunD.bindsN (ps := ["rule"]) F_normal_of fun _ _ _ _ _ _ us hl => match us, hl with | [_], _ => rfl
  obtain ⟨fd_normal_rule, F_normal_rule⟩ := c.d.def_ 26 (d := dd_normal_rule) rfl
  have g_normal_rule := He.glo_ok X G (c.d.fact 16 (f := .glo "normal_rule") rfl)
  have b_normal_rule := FunD.bindsN (ps := ["rule"]) F_normal_rule fun _ _ _ _ _ _ us hl => match us, hl with | [_], _ => rfl
  obtain ⟨fd_are_alike, F_are_alike⟩ := c.d.def_ 27 (d := dd_are_alike) rfl
  have g_are_alike := He.glo_ok X G (c.d.fact 17 (f := .glo "are_alike") rfl)
  have b_are_alike := FunD.bindsN (ps := ["one", "other"]) F_are_alike fun _ _ _ _ _ _ us hl => match us, hl with | [_, _], _ => rfl
  obtain ⟨fd_Beside___init__, F_Beside___init__⟩ := c.d.def_ 28 (d := dd_Beside___init__) rfl
  have b_Beside___init__ := FunD.bindsN (ps := ["self", "one", "other"]) F_Beside___init__ fun _ _ _ _ _ _ us hl => match us, hl with | [_, _, _], _ => rfl
  obtain ⟨fd_Beside_can_both, F_Beside_can_both⟩ := c.d.def_ 29 (d := dd_Beside_can_both) rfl
  have b_Beside_can_both := FunD.bindsN (ps := ["self", "event"]) F_Beside_can_both fun _ _ _ _ _ _ us hl => match us, hl with | [_, _], _ => rfl
  obtain ⟨fd_Beside_parts_by, F_Beside_parts_by⟩ := c.d.def_ 30 (d := dd_Beside_parts_by) rfl
  have b_Beside_parts_by := FunD.bindsN (ps := ["self", "event"]) F_Beside_parts_by fun _ _ _ _ _ _ us hl => match us, hl with | [_, _], _ => rfl
  obtain ⟨fd_parting_in, F_parting_in⟩ := c.d.def_ 31 (d := dd_parting_in) rfl
  have g_parting_in := He.glo_ok X G (c.d.fact 18 (f := .glo "parting_in") rfl)
  have b_parting_in := FunD.bindsN (ps := ["one", "other", "row"]) F_parting_in fun _ _ _ _ _ _ us hl => match us, hl with | [_, _, _], _ => rfl
  obtain ⟨fd_is_paper, F_is_paper⟩ := c.d.def_ 32 (d := dd_is_paper) rfl
  have g_is_paper := He.glo_ok X G (c.d.fact 19 (f := .glo "is_paper") rfl)
  have b_is_paper := FunD.bindsN (ps := ["paper"]) F_is_paper fun _ _ _ _ _ _ us hl => match us, hl with | [_], _ => rfl
  obtain ⟨fd_check_alike, F_check_alike⟩ := c.d.def_ 33 (d := dd_check_alike) rfl
  have g_check_alike := He.glo_ok X G (c.d.fact 20 (f := .glo "check_alike") rfl)
  have b_check_alike := FunD.bindsN (ps := ["one", "other", "paper"]) F_check_alike fun _ _ _ _ _ _ us hl => match us, hl with | [_, _, _], _ => rfl
  obtain ⟨fd_claims_in, F_claims_in⟩ := c.d.def_ 34 (d := dd_claims_in) rfl
  have g_claims_in := He.glo_ok X G (c.d.fact 21 (f := .glo "claims_in") rfl)
  have b_claims_in := FunD.bindsN (ps := ["room"]) F_claims_in fun _ _ _ _ _ _ us hl => match us, hl with | [_], _ => rfl
  obtain ⟨fd_door_faults, F_door_faults⟩ := c.d.def_ 35 (d := dd_door_faults) rfl
  have g_door_faults := He.glo_ok X G (c.d.fact 22 (f := .glo "door_faults") rfl)
  have b_door_faults := FunD.bindsN (ps := ["room"]) F_door_faults fun _ _ _ _ _ _ us hl => match us, hl with | [_], _ => rfl
  obtain ⟨fd_faults_now, F_faults_now⟩ := c.d.def_ 36 (d := dd_faults_now) rfl
  have g_faults_now := He.glo_ok X G (c.d.fact 23 (f := .glo "faults_now") rfl)
  have b_faults_now := FunD.bindsN (ps := ["room", "event"]) F_faults_now fun _ _ _ _ _ _ us hl => match us, hl with | [_, _], _ => rfl
  obtain ⟨fd_need_promise, F_need_promise⟩ := c.d.def_ 37 (d := dd_need_promise) rfl
  have g_need_promise := He.glo_ok X G (c.d.fact 24 (f := .glo "need_promise") rfl)
  have b_need_promise := FunD.bindsN (ps := ["thing"]) F_need_promise fun _ _ _ _ _ _ us hl => match us, hl with | [_], _ => rfl
  obtain ⟨fd_need_may, F_need_may⟩ := c.d.def_ 38 (d := dd_need_may) rfl
  have g_need_may := He.glo_ok X G (c.d.fact 25 (f := .glo "need_may") rfl)
  have b_need_may := FunD.bindsN (ps := ["thing"]) F_need_may fun _ _ _ _ _ _ us hl => match us, hl with | [_], _ => rfl
  obtain ⟨fd_need_absent, F_need_absent⟩ := c.d.def_ 39 (d := dd_need_absent) rfl
  have g_need_absent := He.glo_ok X G (c.d.fact 26 (f := .glo "need_absent") rfl)
  have b_need_absent := FunD.bindsN (ps := ["thing"]) F_need_absent fun _ _ _ _ _ _ us hl => match us, hl with | [_], _ => rfl
  obtain ⟨fd_is_at_most, F_is_at_most⟩ := c.d.def_ 40 (d := dd_is_at_most) rfl
  have g_is_at_most := He.glo_ok X G (c.d.fact 27 (f := .glo "is_at_most") rfl)
  have b_is_at_most := FunD.bindsN (ps := ["absent", "number"]) F_is_at_most fun _ _ _ _ _ _ us hl => match us, hl with | [_, _], _ => rfl
  obtain ⟨fd_do_renew, F_do_renew⟩ := c.d.def_ 41 (d := dd_do_renew) rfl
  have g_do_renew := He.glo_ok X G (c.d.fact 28 (f := .glo "do_renew") rfl)
  have b_do_renew := FunD.bindsN (ps := ["rule", "may"]) F_do_renew fun _ _ _ _ _ _ us hl => match us, hl with | [_, _], _ => rfl
  obtain ⟨fd_keeps_order, F_keeps_order⟩ := c.d.def_ 42 (d := dd_keeps_order) rfl
  have g_keeps_order := He.glo_ok X G (c.d.fact 29 (f := .glo "keeps_order") rfl)
  have b_keeps_order := FunD.bindsN (ps := ["rule", "may", "absent"]) F_keeps_order fun _ _ _ _ _ _ us hl => match us, hl with | [_, _, _], _ => rfl
  obtain ⟨fd_keeps_door, F_keeps_door⟩ := c.d.def_ 43 (d := dd_keeps_door) rfl
  have g_keeps_door := He.glo_ok X G (c.d.fact 30 (f := .glo "keeps_door") rfl)
  have b_keeps_door := FunD.bindsN (ps := ["rule", "may", "absent"]) F_keeps_door fun _ _ _ _ _ _ us hl => match us, hl with | [_, _, _], _ => rfl
  obtain ⟨fd_keeps_by, F_keeps_by⟩ := c.d.def_ 44 (d := dd_keeps_by) rfl
  have g_keeps_by := He.glo_ok X G (c.d.fact 31 (f := .glo "keeps_by") rfl)
  have b_keeps_by := FunD.bindsN (ps := ["rule", "promise", "may", "absent"]) F_keeps_by fun _ _ _ _ _ _ us hl => match us, hl with | [_, _, _, _], _ => rfl
  obtain ⟨fd_does_keep, F_does_keep⟩ := c.d.def_ 45 (d := dd_does_keep) rfl
  have g_does_keep := He.glo_ok X G (c.d.fact 32 (f := .glo "does_keep") rfl)
  have b_does_keep := FunD.bindsN (ps := ["rule", "promise", "may", "absent"]) F_does_keep fun _ _ _ _ _ _ us hl => match us, hl with | [_, _, _, _], _ => rfl
  obtain ⟨fd_need_all, F_need_all⟩ := c.d.def_ 46 (d := dd_need_all) rfl
  have g_need_all := He.glo_ok X G (c.d.fact 33 (f := .glo "need_all") rfl)
  have b_need_all := FunD.bindsN (ps := ["rule", "promise", "may", "absent"]) F_need_all fun _ _ _ _ _ _ us hl => match us, hl with | [_, _, _, _], _ => rfl
  obtain ⟨fd_is_row, F_is_row⟩ := c.d.def_ 47 (d := dd_is_row) rfl
  have g_is_row := He.glo_ok X G (c.d.fact 34 (f := .glo "is_row") rfl)
  have b_is_row := FunD.bindsN (ps := ["rule", "thing"]) F_is_row fun _ _ _ _ _ _ us hl => match us, hl with | [_, _], _ => rfl
  obtain ⟨fd_does_break, F_does_break⟩ := c.d.def_ 48 (d := dd_does_break) rfl
  have g_does_break := He.glo_ok X G (c.d.fact 35 (f := .glo "does_break") rfl)
  have b_does_break := FunD.bindsN (ps := ["rule", "promise", "may", "absent", "events"]) F_does_break fun _ _ _ _ _ _ us hl => match us, hl with | [_, _, _, _, _], _ => rfl
  obtain ⟨fd_check_promise, F_check_promise⟩ := c.d.def_ 49 (d := dd_check_promise) rfl
  have g_check_promise := He.glo_ok X G (c.d.fact 36 (f := .glo "check_promise") rfl)
  have b_check_promise := FunD.bindsN (ps := ["rule", "promise", "may", "absent", "paper"]) F_check_promise fun _ _ _ _ _ _ us hl => match us, hl with | [_, _, _, _, _], _ => rfl
  obtain ⟨fd_need_parts, F_need_parts⟩ := c.d.def_ 50 (d := dd_need_parts) rfl
  have g_need_parts := He.glo_ok X G (c.d.fact 37 (f := .glo "need_parts") rfl)
  have b_need_parts := FunD.bindsN (ps := ["claim"]) F_need_parts fun _ _ _ _ _ _ us hl => match us, hl with | [_], _ => rfl
  obtain ⟨fd_is_claim, F_is_claim⟩ := c.d.def_ 51 (d := dd_is_claim) rfl
  have g_is_claim := He.glo_ok X G (c.d.fact 38 (f := .glo "is_claim") rfl)
  have b_is_claim := FunD.bindsN (ps := ["thing"]) F_is_claim fun _ _ _ _ _ _ us hl => match us, hl with | [_], _ => rfl
  obtain ⟨fd_judged, F_judged⟩ := c.d.def_ 52 (d := dd_judged) rfl
  have g_judged := He.glo_ok X G (c.d.fact 39 (f := .glo "judged") rfl)
  have b_judged := FunD.bindsN (ps := ["claim", "paper"]) F_judged fun _ _ _ _ _ _ us hl => match us, hl with | [_, _], _ => rfl
  obtain ⟨fd__law_mixed, F__law_mixed⟩ := c.d.def_ 53 (d := dd__law_mixed) rfl
  have g__law_mixed := He.glo_ok X G (c.d.fact 40 (f := .glo "_law_mixed") rfl)
  have b__law_mixed := FunD.bindsN (ps := ["_law_cell", "_law_k"]) F__law_mixed fun _ _ _ _ _ _ us hl => match us, hl with | [_, _], _ => rfl
  obtain ⟨fd__law_begin, F__law_begin⟩ := c.d.def_ 54 (d := dd__law_begin) rfl
  have g__law_begin := He.glo_ok X G (c.d.fact 41 (f := .glo "_law_begin") rfl)
  have b__law_begin := FunD.bindsN (ps := ["_law_script"]) F__law_begin fun _ _ _ _ _ _ us hl => match us, hl with | [_], _ => rfl
  obtain ⟨fd__law_draw, F__law_draw⟩ := c.d.def_ 55 (d := dd__law_draw) rfl
  have g__law_draw := He.glo_ok X G (c.d.fact 42 (f := .glo "_law_draw") rfl)
  have b__law_draw := FunD.bindsN (ps := ["_law_state", "_law_many"]) F__law_draw fun _ _ _ _ _ _ us hl => match us, hl with | [_, _], _ => rfl
  obtain ⟨fd__law_of, F__law_of⟩ := c.d.def_ 56 (d := dd__law_of) rfl
  have g__law_of := He.glo_ok X G (c.d.fact 43 (f := .glo "_law_of") rfl)
  have b__law_of := FunD.bindsN (ps := ["_law_state", "_law_some"]) F__law_of fun _ _ _ _ _ _ us hl => match us, hl with | [_, _], _ => rfl
  obtain ⟨fd__law_heard, F__law_heard⟩ := c.d.def_ 57 (d := dd__law_heard) rfl
  have g__law_heard := He.glo_ok X G (c.d.fact 44 (f := .glo "_law_heard") rfl)
  have b__law_heard := FunD.bindsN (ps := ["_law_call"]) F__law_heard fun _ _ _ _ _ _ us hl => match us, hl with | [_], _ => rfl
  obtain ⟨fd__law_rule, F__law_rule⟩ := c.d.def_ 58 (d := dd__law_rule) rfl
  have g__law_rule := He.glo_ok X G (c.d.fact 45 (f := .glo "_law_rule") rfl)
  have b__law_rule := FunD.bindsN (ps := []) F__law_rule fun _ _ _ _ _ _ us hl => match us, hl with | [], _ => rfl
  obtain ⟨fd__law_odds, F__law_odds⟩ := c.d.def_ 59 (d := dd__law_odds) rfl
  have g__law_odds := He.glo_ok X G (c.d.fact 46 (f := .glo "_law_odds") rfl)
  have b__law_odds := FunD.bindsN (ps := []) F__law_odds fun _ _ _ _ _ _ us hl => match us, hl with | [], _ => rfl
  obtain ⟨fd__law_hand_right, F__law_hand_right⟩ := c.d.def_ 60 (d := dd__law_hand_right) rfl
  have g__law_hand_right := He.glo_ok X G (c.d.fact 47 (f := .glo "_law_hand_right") rfl)
  have b__law_hand_right := FunD.bindsN (ps := []) F__law_hand_right fun _ _ _ _ _ _ us hl => match us, hl with | [], _ => rfl
  obtain ⟨fd_law, F_law⟩ := c.d.def_ 61 (d := dd_law) rfl
  have g_law := He.glo_ok X G (c.d.fact 48 (f := .glo "law") rfl)
  have b_law := FunD.bindsN (ps := ["_law_script"]) F_law fun _ _ _ _ _ _ us hl => match us, hl with | [_], _ => rfl
  obtain ⟨fdx_BadRule, X_BadRule⟩ := XD.cls (P := P) (c.xat 0 (d := xd_BadRule) rfl) (by rw [hfile]; exact allB_at c.e 38 rfl)
  obtain ⟨fdx_BadEvents, X_BadEvents⟩ := XD.cls (P := P) (c.xat 1 (d := xd_BadEvents) rfl) (by rw [hfile]; exact allB_at c.e 40 rfl)
  obtain ⟨fdx_BadPaper, X_BadPaper⟩ := XD.cls (P := P) (c.xat 2 (d := xd_BadPaper) rfl) (by rw [hfile]; exact allB_at c.e 42 rfl)
  obtain ⟨fdx_BadPromise, X_BadPromise⟩ := XD.cls (P := P) (c.xat 3 (d := xd_BadPromise) rfl) (by rw [hfile]; exact allB_at c.e 44 rfl)
  obtain ⟨fdx_BadMay, X_BadMay⟩ := XD.cls (P := P) (c.xat 4 (d := xd_BadMay) rfl) (by rw [hfile]; exact allB_at c.e 46 rfl)
  obtain ⟨fdx_BadAbsent, X_BadAbsent⟩ := XD.cls (P := P) (c.xat 5 (d := xd_BadAbsent) rfl) (by rw [hfile]; exact allB_at c.e 48 rfl)
  obtain ⟨fdx_BadClaim, X_BadClaim⟩ := XD.cls (P := P) (c.xat 6 (d := xd_BadClaim) rfl) (by rw [hfile]; exact allB_at c.e 50 rfl)
  let T : ∀ base : Heap, (∀ p ∈ tfl, LamX.TabB base mg (He.cT K p).1 (He.cT K p).2) → Txt P w K mg base := fun base tbs => {
    m_all := He.free_ok X G (c.d.fact 49 (f := .free "all") rfl)
    m_any := He.free_ok X G (c.d.fact 50 (f := .free "any") rfl)
    m_bool := He.free_ok X G (c.d.fact 51 (f := .free "bool") rfl)
    m_enumerate := He.free_ok X G (c.d.fact 52 (f := .free "enumerate") rfl)
    m_int := He.free_ok X G (c.d.fact 53 (f := .free "int") rfl)
    m_isinstance := He.free_ok X G (c.d.fact 54 (f := .free "isinstance") rfl)
    m_len := He.free_ok X G (c.d.fact 55 (f := .free "len") rfl)
    m_list := He.free_ok X G (c.d.fact 56 (f := .free "list") rfl)
    m_range := He.free_ok X G (c.d.fact 57 (f := .free "range") rfl)
    m_repr := He.free_ok X G (c.d.fact 58 (f := .free "repr") rfl)
    m_str := He.free_ok X G (c.d.fact 59 (f := .free "str") rfl)
    m_super := He.free_ok X G (c.d.fact 60 (f := .free "super") rfl)
    m_tuple := He.free_ok X G (c.d.fact 61 (f := .free "tuple") rfl)
    k_Beside := He.cls_ok (c.d.fact 62 (f := .cls "Beside") rfl)
    k_Room := He.cls_ok (c.d.fact 63 (f := .cls "Room") rfl)
    n_Beside_one_room := He.noat_ok (c.d.fact 64 (f := .noat "Beside" "one_room") rfl)
    n_Beside_other_room := He.noat_ok (c.d.fact 65 (f := .noat "Beside" "other_room") rfl)
    n_Room_came_so_far := He.noat_ok (c.d.fact 66 (f := .noat "Room" "came_so_far") rfl)
    n_Room_line_now := He.noat_ok (c.d.fact 67 (f := .noat "Room" "line_now") rfl)
    n_Room_own_rule := He.noat_ok (c.d.fact 68 (f := .noat "Room" "own_rule") rfl)
    n_Room_served_so_far := He.noat_ok (c.d.fact 69 (f := .noat "Room" "served_so_far") rfl)
    mt_Beside_can_both := He.meth_ok (c.d.fact 70 (f := .meth "Beside" "can_both") rfl)
    mt_Beside_parts_by := He.meth_ok (c.d.fact 71 (f := .meth "Beside" "parts_by") rfl)
    mt_Room_are_here := He.meth_ok (c.d.fact 72 (f := .meth "Room" "are_here") rfl)
    mt_Room_bring_back := He.meth_ok (c.d.fact 73 (f := .meth "Room" "bring_back") rfl)
    mt_Room_can_be := He.meth_ok (c.d.fact 74 (f := .meth "Room" "can_be") rfl)
    mt_Room_do := He.meth_ok (c.d.fact 75 (f := .meth "Room" "do") rfl)
    mt_Room_do_personal := He.meth_ok (c.d.fact 76 (f := .meth "Room" "do_personal") rfl)
    mt_Room_how_is := He.meth_ok (c.d.fact 77 (f := .meth "Room" "how_is") rfl)
    mt_Room_open_door := He.meth_ok (c.d.fact 78 (f := .meth "Room" "open_door") rfl)
    mt_Room_put_in := He.meth_ok (c.d.fact 79 (f := .meth "Room" "put_in") rfl)
    mt_Room_renew_from := He.meth_ok (c.d.fact 80 (f := .meth "Room" "renew_from") rfl)
    mk_Beside := He.mkr_ok (c.d.fact 81 (f := .mkr "Beside") rfl)
    g_Beside := He.glo_ok X G (c.d.fact 82 (f := .glo "Beside") rfl)
    mk_Room := He.mkr_ok (c.d.fact 83 (f := .mkr "Room") rfl)
    g_Room := He.glo_ok X G (c.d.fact 84 (f := .glo "Room") rfl)
    c_LINE := gloB_ok X G (allB_at c.e 0 rfl)
    c_ON := gloB_ok X G (allB_at c.e 1 rfl)
    c_ASKS := gloB_ok X G (allB_at c.e 2 rfl)
    c_OLD := gloB_ok X G (allB_at c.e 3 rfl)
    c_TELLS := gloB_ok X G (allB_at c.e 4 rfl)
    c_QUIET := gloB_ok X G (allB_at c.e 5 rfl)
    c_TOLD := gloB_ok X G (allB_at c.e 6 rfl)
    c_MOST_NAMES := gloB_ok X G (allB_at c.e 7 rfl)
    c_CHOICES := gloB_ok X G (allB_at c.e 8 rfl)
    c_HERE := gloB_ok X G (allB_at c.e 9 rfl)
    c_OUT := gloB_ok X G (allB_at c.e 10 rfl)
    c_LOST := gloB_ok X G (allB_at c.e 11 rfl)
    c_AWAY := gloB_ok X G (allB_at c.e 12 rfl)
    c_COME := gloB_ok X G (allB_at c.e 13 rfl)
    c_LET := gloB_ok X G (allB_at c.e 14 rfl)
    c_LEAVE := gloB_ok X G (allB_at c.e 15 rfl)
    c_BACK := gloB_ok X G (allB_at c.e 16 rfl)
    c_DOOR := gloB_ok X G (allB_at c.e 17 rfl)
    c_PERSONAL := gloB_ok X G (allB_at c.e 18 rfl)
    c_MOST_EVENTS := gloB_ok X G (allB_at c.e 19 rfl)
    c_MOST_PEOPLE := gloB_ok X G (allB_at c.e 20 rfl)
    c_SAME := gloB_ok X G (allB_at c.e 21 rfl)
    c_PARTED := gloB_ok X G (allB_at c.e 22 rfl)
    c_FORM := gloB_ok X G (allB_at c.e 23 rfl)
    c_SPOT_LOST := gloB_ok X G (allB_at c.e 24 rfl)
    c_ORDER := gloB_ok X G (allB_at c.e 25 rfl)
    c_PLACE := gloB_ok X G (allB_at c.e 26 rfl)
    c_DOOR_PROMISE := gloB_ok X G (allB_at c.e 27 rfl)
    c_ORDER_PROMISE := gloB_ok X G (allB_at c.e 28 rfl)
    c_PROMISES := gloB_ok X G (allB_at c.e 29 rfl)
    c_MAY_LET := gloB_ok X G (allB_at c.e 30 rfl)
    c_MAY_OUT := gloB_ok X G (allB_at c.e 31 rfl)
    c_MAYS := gloB_ok X G (allB_at c.e 32 rfl)
    c_MOST_ABSENT := gloB_ok X G (allB_at c.e 33 rfl)
    c_KEPT := gloB_ok X G (allB_at c.e 34 rfl)
    c_BROKEN := gloB_ok X G (allB_at c.e 35 rfl)
    c_ALIKE := gloB_ok X G (allB_at c.e 36 rfl)
    kd_SIZES := kd_of X G (allB_at c.e 37 rfl) (c.tab 0 rfl)
    htop := htop
    gx_AskError := He.glo_ok X G (c.d.fact 85 (f := .glo "AskError") rfl)
    gx_BadRule := He.glo_ok X G (c.d.fact 86 (f := .glo "BadRule") rfl)
    gx_BadEvents := He.glo_ok X G (c.d.fact 87 (f := .glo "BadEvents") rfl)
    gx_BadPaper := He.glo_ok X G (c.d.fact 88 (f := .glo "BadPaper") rfl)
    gx_BadPromise := He.glo_ok X G (c.d.fact 89 (f := .glo "BadPromise") rfl)
    gx_BadMay := He.glo_ok X G (c.d.fact 90 (f := .glo "BadMay") rfl)
    gx_BadAbsent := He.glo_ok X G (c.d.fact 91 (f := .glo "BadAbsent") rfl)
    gx_BadClaim := He.glo_ok X G (c.d.fact 92 (f := .glo "BadClaim") rfl)
    gx_TooMany := He.glo_ok X G (c.d.fact 93 (f := .glo "TooMany") rfl)
    fdx_BadRule := fdx_BadRule
    x_BadRule := X_BadRule
    xb_BadRule := X_BadRule.binds fun _ _ _ _ _ _ _ us hl => match us, hl with | [_, _], _ => rfl
    nf_BadRule_place := of_decide_eq_true (allB_at c.e 39 rfl)
    fdx_BadEvents := fdx_BadEvents
    x_BadEvents := X_BadEvents
    xb_BadEvents := X_BadEvents.binds fun _ _ _ _ _ _ _ us hl => match us, hl with | [_, _], _ => rfl
    nf_BadEvents_number := of_decide_eq_true (allB_at c.e 41 rfl)
    fdx_BadPaper := fdx_BadPaper
    x_BadPaper := X_BadPaper
    xb_BadPaper := X_BadPaper.binds fun _ _ _ _ _ _ _ us hl => match us, hl with | [_, _], _ => rfl
    nf_BadPaper_part := of_decide_eq_true (allB_at c.e 43 rfl)
    fdx_BadPromise := fdx_BadPromise
    x_BadPromise := X_BadPromise
    xb_BadPromise := X_BadPromise.binds fun _ _ _ _ _ _ _ us hl => match us, hl with | [_, _], _ => rfl
    nf_BadPromise_given := of_decide_eq_true (allB_at c.e 45 rfl)
    fdx_BadMay := fdx_BadMay
    x_BadMay := X_BadMay
    xb_BadMay := X_BadMay.binds fun _ _ _ _ _ _ _ us hl => match us, hl with | [_, _], _ => rfl
    nf_BadMay_given := of_decide_eq_true (allB_at c.e 47 rfl)
    fdx_BadAbsent := fdx_BadAbsent
    x_BadAbsent := X_BadAbsent
    xb_BadAbsent := X_BadAbsent.binds fun _ _ _ _ _ _ _ us hl => match us, hl with | [_, _], _ => rfl
    nf_BadAbsent_given := of_decide_eq_true (allB_at c.e 49 rfl)
    fdx_BadClaim := fdx_BadClaim
    x_BadClaim := X_BadClaim
    xb_BadClaim := X_BadClaim.binds fun _ _ _ _ _ _ _ us hl => match us, hl with | [_, _], _ => rfl
    nf_BadClaim_given := of_decide_eq_true (allB_at c.e 51 rfl)
    mt_BadEvents := mtB_ok (allB_at c.e 52 rfl)
    mt_BadPaper := mtB_ok (allB_at c.e 53 rfl)
    mt_BadClaim := mtB_ok (allB_at c.e 54 rfl)
    is_BadPaper := isXB_ok (allB_at c.e 55 rfl)
    is_BadClaim := isXB_ok (allB_at c.e 56 rfl)
    mta_AskError_TooMany := mtAB_ok (allB_at c.e 59 rfl)
    mta_BadAbsent_BadMay_BadPromise_BadRule := mtAB_ok (allB_at c.e 60 rfl)
    tnd := of_decide_eq_true (allB_at c.e 61 rfl)
    tb__law_hand_right := tbs _ (List.mem_of_getElem? (i := 0) rfl)
    tb_law := tbs _ (List.mem_of_getElem? (i := 1) rfl)
    xk_given := xkB_ok (allB_at c.e 57 rfl)
    xk_part := xkB_ok (allB_at c.e 58 rfl)
    fd_is_integer := fd_is_integer
    f_is_integer := ⟨F_is_integer, g_is_integer, b_is_integer⟩
    fd_is_between := fd_is_between
    f_is_between := ⟨F_is_between, g_is_between, b_is_between⟩
    fd_is_one_of := fd_is_one_of
    f_is_one_of := ⟨F_is_one_of, g_is_one_of, b_is_one_of⟩
    fd_need_rule := fd_need_rule
    f_need_rule := ⟨F_need_rule, g_need_rule, b_need_rule⟩
    fd_nearest_ahead := fd_nearest_ahead
    f_nearest_ahead := ⟨F_nearest_ahead, g_nearest_ahead, b_nearest_ahead⟩
    fd_renewed := fd_renewed
    f_renewed := ⟨F_renewed, g_renewed, b_renewed⟩
    fd_spot_of := fd_spot_of
    f_spot_of := ⟨F_spot_of, g_spot_of, b_spot_of⟩
    fd_as_how := fd_as_how
    f_as_how := ⟨F_as_how, g_as_how, b_as_how⟩
    fd_without := fd_without
    f_without := ⟨F_without, g_without, b_without⟩
    fd_forgetting := fd_forgetting
    f_forgetting := ⟨F_forgetting, g_forgetting, b_forgetting⟩
    fd_asked_again := fd_asked_again
    f_asked_again := ⟨F_asked_again, g_asked_again, b_asked_again⟩
    fd_claiming := fd_claiming
    f_claiming := ⟨F_claiming, g_claiming, b_claiming⟩
    fd_has_form := fd_has_form
    f_has_form := ⟨F_has_form, g_has_form, b_has_form⟩
    fd_Room___init__ := fd_Room___init__
    f_Room___init__ := ⟨F_Room___init__, b_Room___init__⟩
    fd_Room_put_in := fd_Room_put_in
    f_Room_put_in := ⟨F_Room_put_in, b_Room_put_in⟩
    fd_Room_open_door := fd_Room_open_door
    f_Room_open_door := ⟨F_Room_open_door, b_Room_open_door⟩
    fd_Room_renew_from := fd_Room_renew_from
    f_Room_renew_from := ⟨F_Room_renew_from, b_Room_renew_from⟩
    fd_Room_bring_back := fd_Room_bring_back
    f_Room_bring_back := ⟨F_Room_bring_back, b_Room_bring_back⟩
    fd_Room_do_personal := fd_Room_do_personal
    f_Room_do_personal := ⟨F_Room_do_personal, b_Room_do_personal⟩
    fd_Room_do := fd_Room_do
    f_Room_do := ⟨F_Room_do, b_Room_do⟩
    fd_Room_how_is := fd_Room_how_is
    f_Room_how_is := ⟨F_Room_how_is, b_Room_how_is⟩
    fd_Room_are_here := fd_Room_are_here
    f_Room_are_here := ⟨F_Room_are_here, b_Room_are_here⟩
    fd_Room_can_be := fd_Room_can_be
    f_Room_can_be := ⟨F_Room_can_be, b_Room_can_be⟩
    fd_room_behind := fd_room_behind
    f_room_behind := ⟨F_room_behind, g_room_behind, b_room_behind⟩
    fd_absent_in := fd_absent_in
    f_absent_in := ⟨F_absent_in, g_absent_in, b_absent_in⟩
    fd_normal_of := fd_normal_of
    f_normal_of := ⟨F_normal_of, g_normal_of, b_normal_of⟩
    fd_normal_rule := fd_normal_rule
    f_normal_rule := ⟨F_normal_rule, g_normal_rule, b_normal_rule⟩
    fd_are_alike := fd_are_alike
    f_are_alike := ⟨F_are_alike, g_are_alike, b_are_alike⟩
    fd_Beside___init__ := fd_Beside___init__
    f_Beside___init__ := ⟨F_Beside___init__, b_Beside___init__⟩
    fd_Beside_can_both := fd_Beside_can_both
    f_Beside_can_both := ⟨F_Beside_can_both, b_Beside_can_both⟩
    fd_Beside_parts_by := fd_Beside_parts_by
    f_Beside_parts_by := ⟨F_Beside_parts_by, b_Beside_parts_by⟩
    fd_parting_in := fd_parting_in
    f_parting_in := ⟨F_parting_in, g_parting_in, b_parting_in⟩
    fd_is_paper := fd_is_paper
    f_is_paper := ⟨F_is_paper, g_is_paper, b_is_paper⟩
    fd_check_alike := fd_check_alike
    f_check_alike := ⟨F_check_alike, g_check_alike, b_check_alike⟩
    fd_claims_in := fd_claims_in
    f_claims_in := ⟨F_claims_in, g_claims_in, b_claims_in⟩
    fd_door_faults := fd_door_faults
    f_door_faults := ⟨F_door_faults, g_door_faults, b_door_faults⟩
    fd_faults_now := fd_faults_now
    f_faults_now := ⟨F_faults_now, g_faults_now, b_faults_now⟩
    fd_need_promise := fd_need_promise
    f_need_promise := ⟨F_need_promise, g_need_promise, b_need_promise⟩
    fd_need_may := fd_need_may
    f_need_may := ⟨F_need_may, g_need_may, b_need_may⟩
    fd_need_absent := fd_need_absent
    f_need_absent := ⟨F_need_absent, g_need_absent, b_need_absent⟩
    fd_is_at_most := fd_is_at_most
    f_is_at_most := ⟨F_is_at_most, g_is_at_most, b_is_at_most⟩
    fd_do_renew := fd_do_renew
    f_do_renew := ⟨F_do_renew, g_do_renew, b_do_renew⟩
    fd_keeps_order := fd_keeps_order
    f_keeps_order := ⟨F_keeps_order, g_keeps_order, b_keeps_order⟩
    fd_keeps_door := fd_keeps_door
    f_keeps_door := ⟨F_keeps_door, g_keeps_door, b_keeps_door⟩
    fd_keeps_by := fd_keeps_by
    f_keeps_by := ⟨F_keeps_by, g_keeps_by, b_keeps_by⟩
    fd_does_keep := fd_does_keep
    f_does_keep := ⟨F_does_keep, g_does_keep, b_does_keep⟩
    fd_need_all := fd_need_all
    f_need_all := ⟨F_need_all, g_need_all, b_need_all⟩
    fd_is_row := fd_is_row
    f_is_row := ⟨F_is_row, g_is_row, b_is_row⟩
    fd_does_break := fd_does_break
    f_does_break := ⟨F_does_break, g_does_break, b_does_break⟩
    fd_check_promise := fd_check_promise
    f_check_promise := ⟨F_check_promise, g_check_promise, b_check_promise⟩
    fd_need_parts := fd_need_parts
    f_need_parts := ⟨F_need_parts, g_need_parts, b_need_parts⟩
    fd_is_claim := fd_is_claim
    f_is_claim := ⟨F_is_claim, g_is_claim, b_is_claim⟩
    fd_judged := fd_judged
    f_judged := ⟨F_judged, g_judged, b_judged⟩
    fd__law_mixed := fd__law_mixed
    f__law_mixed := ⟨F__law_mixed, g__law_mixed, b__law_mixed⟩
    fd__law_begin := fd__law_begin
    f__law_begin := ⟨F__law_begin, g__law_begin, b__law_begin⟩
    fd__law_draw := fd__law_draw
    f__law_draw := ⟨F__law_draw, g__law_draw, b__law_draw⟩
    fd__law_of := fd__law_of
    f__law_of := ⟨F__law_of, g__law_of, b__law_of⟩
    fd__law_heard := fd__law_heard
    f__law_heard := ⟨F__law_heard, g__law_heard, b__law_heard⟩
    fd__law_rule := fd__law_rule
    f__law_rule := ⟨F__law_rule, g__law_rule, b__law_rule⟩
    fd__law_odds := fd__law_odds
    f__law_odds := ⟨F__law_odds, g__law_odds, b__law_odds⟩
    fd__law_hand_right := fd__law_hand_right
    f__law_hand_right := ⟨F__law_hand_right, g__law_hand_right, b__law_hand_right⟩
    fd_law := fd_law
    f_law := ⟨F_law, g_law, b_law⟩ }
  have e := hfa.symm.trans g_law
  cases e
  have b := FunD.bindsA (ps := ["_law_script"]) F_law fun _ _ _ _ _ _ us hl => match us, hl with | [_], _ => rfl
  exact ⟨fd_law, fun s v => b s [v] rfl, fun base _ _ tbs => ok_law (T base tbs)⟩
end
end L

/-! Q1: plain lemmas over denotations. -/
namespace Dn
open PySem PySem.Spec PyProof.Rows L2

/-! ### ground data, settling -/
mutual
theorem frzA_g (f : Nat → Option W) : ∀ w : W, gW w = true → frzA f w = some w
  | .non, _ => by simp [frzA]
  | .bl _, _ => by simp [frzA]
  | .int _, _ => by simp [frzA]
  | .str _, _ => by simp [frzA]
  | .tup xs, h => by
    rw [gW] at h
    simp [frzA, frzAs_g f xs h]
  | .lst xs, h => by
    rw [gW] at h
    simp [frzA, frzAs_g f xs h]
  | .old xs, h => by
    rw [gW] at h
    simp [frzA, frzAs_g f xs h]
  | .ref n, h => by simp [gW] at h
  | .raw _, _ => by simp [frzA]
theorem frzAs_g (f : Nat → Option W) : ∀ ws : List W, gWs ws = true → frzAs f ws = some ws
  | [], _ => by simp [frzAs]
  | w :: ws, h => by
    rw [gWs, Bool.and_eq_true_iff] at h
    simp [frzAs, frzA_g f w h.1, frzAs_g f ws h.2]
end
theorem frzW_g (m : Mem) (k : Nat) (w : W) (h : gW w = true) : frzW m k w = some w := frzA_g _ w h
theorem frzW_lst0 {m : Mem} {k n : Nat} {xs : List W} (h : m[n]? = some (.lst xs)) (g : gWs xs = true) : frzW m (k + 1) (.ref n) = some (.lst xs) := by
  rw [frzW, frzA]
  simp only [frzR, h, frzAs_g _ xs g, Option.map_some]
theorem pw_g {g : Fw} {ws : List W} {m m1 : Mem} {w : W} (h1 : gWs ws = true) (h2 : g ws [] = .ok w m1) (h3 : gW w = true) : pw g ws m = .ok w m := pw_ok h1 h2 (frzW_g m1 6 w h3)
theorem gWs_map {α : Type} {f : α → W} (h : ∀ x, gW (f x) = true) : ∀ l : List α, gWs (l.map f) = true
  | [] => rfl
  | x :: l => by rw [List.map_cons, gWs, h x, gWs_map h l]; rfl
theorem gWs_ints (l : List Int) : gWs (l.map .int) = true := gWs_map (fun _ => rfl) l
theorem gW_tup (xs : List W) : gW (.tup xs) = gWs xs := by rw [gW]
theorem gW_lst (xs : List W) : gW (.lst xs) = gWs xs := by rw [gW]
theorem gWs_cons (x : W) (xs : List W) : gWs (x :: xs) = (gW x && gWs xs) := by rw [gWs]
theorem gWs_nil : gWs [] = true := rfl
theorem gW_int (i : Int) : gW (.int i) = true := rfl
theorem gW_str (x : Str) : gW (.str x) = true := rfl
theorem gW_bl (b : Bool) : gW (.bl b) = true := rfl
theorem gW_non : gW .non = true := rfl
theorem gWs_append : ∀ xs ys : List W, gWs (xs ++ ys) = (gWs xs && gWs ys)
  | [], ys => by simp [gWs]
  | x :: xs, ys => by rw [List.cons_append, gWs, gWs_append xs ys, gWs, Bool.and_assoc]

/-! ### data that can be compared -/
theorem okWs_map {α : Type} {f : α → W} {n : Nat} (h : ∀ x, okW n (f x) = true) : ∀ l : List α, okWs n (l.map f) = true
  | [] => rfl
  | x :: l => by rw [List.map_cons, okWs, h x, okWs_map h l]; rfl
theorem okWs_int (n : Nat) (l : List Int) : okWs n (l.map .int) = true := okWs_map (fun _ => rfl) l
theorem okW_tup (n : Nat) (xs : List W) : okW (n + 1) (.tup xs) = okWs n xs := by rw [okW]
theorem okW_lst (n : Nat) (xs : List W) : okW (n + 1) (.lst xs) = okWs n xs := by rw [okW]
theorem okWs_append (n : Nat) : ∀ xs ys : List W, okWs n (xs ++ ys) = (okWs n xs && okWs n ys)
  | [], ys => by simp [okWs]
  | x :: xs, ys => by rw [List.cons_append, okWs, okWs_append n xs ys, okWs, Bool.and_assoc]
mutual
theorem eqW_refl : ∀ (n : Nat) (w : W), okW n w = true → eqW w w = true
  | _, .non, _ => rfl
  | _, .bl b, _ => by cases b <;> rfl
  | _, .int i, _ => by simp [eqW]
  | _, .str x, _ => by simp [eqW]
  | 0, .tup xs, h => by simp [okW] at h
  | n + 1, .tup xs, h => by rw [okW] at h; rw [eqW]; exact eqWs_refl n xs h
  | 0, .lst xs, h => by simp [okW] at h
  | n + 1, .lst xs, h => by rw [okW] at h; rw [eqW]; exact eqWs_refl n xs h
  | 0, .old xs, h => by simp [okW] at h
  | n + 1, .old xs, h => by rw [okW] at h; rw [eqW]; exact eqWs_refl n xs h
  | _, .ref _, h => by simp [okW] at h
  | _, .raw _, h => by simp [okW] at h
theorem eqWs_refl : ∀ (n : Nat) (ws : List W), okWs n ws = true → eqWs ws ws = true
  | _, [], _ => rfl
  | n, w :: ws, h => by
    rw [okWs, Bool.and_eq_true_iff] at h
    rw [eqWs, eqW_refl n w h.1, eqWs_refl n ws h.2]
    rfl
end
theorem rsv_ok {m : Mem} {n : Nat} {w : W} (h : okW n w = true) : rsv m w = w := by
  cases w <;> first | rfl | (simp [okW] at h)
theorem eqM_ok {m : Mem} {a b : W} (ha : okW 60 a = true) (hb : okW 60 b = true) : eqM m a b = some (.bl (eqW a b)) := by
  unfold eqM
  rw [rsv_ok ha, rsv_ok hb, ha, hb]
  rfl
theorem neM_ok {m : Mem} {a b : W} (ha : okW 60 a = true) (hb : okW 60 b = true) : neM m a b = some (.bl (!eqW a b)) := by
  unfold neM
  rw [rsv_ok ha, rsv_ok hb, ha, hb]
  rfl
theorem eqM_same {m : Mem} {a : W} (ha : okW 60 a = true) : eqM m a a = some (.bl true) := by rw [eqM_ok ha ha, eqW_refl 60 a ha]
theorem neM_same {m : Mem} {a : W} (ha : okW 60 a = true) : neM m a a = some (.bl false) := by rw [neM_ok ha ha, eqW_refl 60 a ha]; rfl
theorem eqM_int {m : Mem} {i j : Int} : eqM m (.int i) (.int j) = some (.bl (i == j)) := rfl
theorem neM_int {m : Mem} {i j : Int} : neM m (.int i) (.int j) = some (.bl (!(i == j))) := rfl
theorem eqWs_ints : ∀ xs ys : List Int, eqWs (xs.map .int) (ys.map .int) = decide (xs = ys)
  | [], [] => rfl
  | [], _ :: _ => rfl
  | _ :: _, [] => rfl
  | x :: xs, y :: ys => by
    rw [List.map_cons, List.map_cons, eqWs, eqWs_ints xs ys, eqW]
    by_cases h : x = y
    · subst h; simp
    · simp [h]
theorem eqWs_nil_map {α : Type} {f : α → W} (l : List α) : eqWs (l.map f) [] = l.isEmpty := by cases l <;> rfl
theorem anyEq_ints (p : Int) : ∀ l : List Int, anyEq (.int p) (l.map .int) = l.contains p
  | [] => rfl
  | x :: l => by
    rw [List.map_cons, anyEq, anyEq_ints p l, List.contains_cons, eqW]
    have e : (x == p) = (p == x) := by
      by_cases h : p = x
      · subst h; rfl
      · rw [beq_eq_false_iff_ne.mpr h, beq_eq_false_iff_ne.mpr fun q => h q.symm]
    rw [e]
theorem inM_ints {m : Mem} {p : Int} {l : List Int} {neg : Bool} : inM neg m (.int p) (.tup (l.map .int)) = some (.bl (if neg then !l.contains p else l.contains p)) := by
  simp only [inM, seqOf, okWs_int, rsv, okW, Bool.and_self, if_true, anyEq_ints]
theorem inM_intsL {m : Mem} {p : Int} {l : List Int} {neg : Bool} : inM neg m (.int p) (.lst (l.map .int)) = some (.bl (if neg then !l.contains p else l.contains p)) := by
  simp only [inM, seqOf, okWs_int, rsv, okW, Bool.and_self, if_true, anyEq_ints]

/-! ### items, slices -/
theorem atI_get {α : Type} {xs : List α} {i : Int} {n : Nat} {x : α} (hi : i = n) (h : xs[n]? = some x) : atI xs i = some x := by
  subst hi
  have hn := (List.getElem?_eq_some_iff.mp h).1
  unfold atI ixN
  rw [if_pos (by omega), if_pos (by omega)]
  simpa using h
theorem cut_to {xs : List W} {k : Nat} : cutW xs none (some (k : Int)) = xs.take k := by
  unfold cutW
  rw [HT.sIx_none, HT.sIx_nat]
  simp only [List.drop_zero, Nat.sub_zero]
  rw [List.take_eq_take_iff]
  omega
theorem cut_from {xs : List W} {k : Nat} : cutW xs (some (k : Int)) none = xs.drop k := by
  unfold cutW
  rw [HT.sIx_none, HT.sIx_nat]
  by_cases h : k ≤ xs.length
  · rw [Nat.min_eq_left h]
    exact List.take_of_length_le (by simp)
  · have h : xs.length ≤ k := by omega
    rw [Nat.min_eq_right h, List.drop_eq_nil_of_le h]
    simp
theorem cut_toI {xs : List W} {k : Int} (h : 0 ≤ k) : cutW xs none (some k) = xs.take k.toNat := by
  obtain ⟨n, rfl⟩ : ∃ n : Nat, k = n := ⟨k.toNat, by omega⟩
  rw [cut_to]; rfl
theorem cut_fromI {xs : List W} {k : Int} (h : 0 ≤ k) : cutW xs (some k) none = xs.drop k.toNat := by
  obtain ⟨n, rfl⟩ : ∃ n : Nat, k = n := ⟨k.toNat, by omega⟩
  rw [cut_from]; rfl
theorem cut_all {xs : List W} : cutW xs none none = xs := by
  unfold cutW
  rw [HT.sIx_none, HT.sIx_none]
  simp

/-! ### comprehensions -/
theorem compL_map {α : Type} {t : DG} {c : DT} {f : DE} {vs : List Nat} {r : Rho} {m : Mem} (w : α → W) (p : α → Bool) (g : α → W) (rr : α → Rho) :
    ∀ l : List α, (∀ x, x ∈ l → t (w x) (wipeR r vs) = some (rr x)) → (∀ x, x ∈ l → c (rr x) m = .ok (p x) m) → (∀ x, x ∈ l → p x = true → f (rr x) m = .ok (g x) m) → compL t c f vs (l.map w) r m = .ok ((l.filter p).map g) m
  | [], _, _, _ => rfl
  | x :: l, h1, h2, h3 => by
    have ih := compL_map (c := c) (f := f) w p g rr l (fun y q => h1 y (.tail _ q)) (fun y q => h2 y (.tail _ q)) fun y q => h3 y (.tail _ q)
    rw [List.map_cons, compL, h1 x (.head _)]
    simp only [h2 x (.head _)]
    cases q : p x with
    | true =>
      simp only [h3 x (.head _) q, ih, Dn.R.bind, List.filter_cons, q, if_true, List.map_cons]
    | false =>
      simp only [ih, List.filter_cons, q, Bool.false_eq_true, if_false]
/-- .. all of them -/
theorem compL_all {α : Type} {t : DG} {f : DE} {vs : List Nat} {r : Rho} {m : Mem} (w : α → W) (g : α → W) (rr : α → Rho) (l : List α)
    (h1 : ∀ x, x ∈ l → t (w x) (wipeR r vs) = some (rr x)) (h3 : ∀ x, x ∈ l → f (rr x) m = .ok (g x) m) : compL t dYes f vs (l.map w) r m = .ok (l.map g) m := by
  have := compL_map (c := dYes) w (fun _ => true) g rr l h1 (fun _ _ => rfl) fun x q _ => h3 x q
  rwa [List.filter_eq_self.mpr fun _ _ => rfl] at this

/-! ### loops -/
theorem loop_ex {α β : Type} {t : DG} {body : DS} (w : α → W) (P : β → Rho → Mem → Prop) (step : β → α → β) :
    ∀ (l : List α) (b : β) (r : Rho) (m : Mem), (∀ b x r m, x ∈ l → P b r m → ∃ r1 r2 m2, t (w x) r = some r1 ∧ (body r1 m = .next r2 m2 ∨ body r1 m = .cont r2 m2) ∧ P (step b x) r2 m2) → P b r m →
      ∃ r' m', loop t body (l.map w) r m = .next r' m' ∧ P (l.foldl step b) r' m'
  | [], b, r, m, _, h => ⟨r, m, rfl, h⟩
  | x :: l, b, r, m, hs, h => by
    obtain ⟨r1, r2, m2, e1, e2, h2⟩ := hs b x r m (.head _) h
    obtain ⟨r', m', e3, h3⟩ := loop_ex w P step l (step b x) r2 m2 (fun b y r m q => hs b y r m (.tail _ q)) h2
    refine ⟨r', m', ?_, h3⟩
    rw [List.map_cons, loop, e1]
    rcases e2 with e2 | e2 <;> simp only [e2, e3]
/-- the body passes, and leaves Q -/
def GoesD (q : RS) (Q : Rho → Mem → Prop) : Prop := match q with
  | .next r m => Q r m
  | .cont r m => Q r m
  | _ => False
def Steps (t : DG) (body : DS) (wx : W) (r : Rho) (m : Mem) (Q : Rho → Mem → Prop) : Prop := match t wx r with
  | none => False
  | some r1 => GoesD (body r1 m) Q
theorem loop_pre {α : Type} {t : DG} {body : DS} (w : α → W) (P : List α → Rho → Mem → Prop) (l : List α) (r : Rho) (m : Mem) (h0 : P [] r m)
    (hs : ∀ pre x post r m, l = pre ++ x :: post → P pre r m → Steps t body (w x) r m (P (pre ++ [x]))) :
    ∃ r' m', loop t body (l.map w) r m = .next r' m' ∧ P l r' m' := by
  have go : ∀ (post pre : List α) (r : Rho) (m : Mem), l = pre ++ post → P pre r m → ∃ r' m', loop t body (post.map w) r m = .next r' m' ∧ P l r' m' := by
    intro post
    induction post with
    | nil => intro pre r m e h; rw [List.append_nil] at e; subst e; exact ⟨r, m, rfl, h⟩
    | cons x post ih =>
      intro pre r m e h
      have h2 := hs pre x post r m e h
      unfold Steps at h2
      rw [List.map_cons, loop]
      cases e1 : t (w x) r with
      | none => simp only [e1] at h2
      | some r1 =>
        simp only [e1] at h2 ⊢
        cases e2 : body r1 m with
        | next r2 m2 =>
          simp only [e2, GoesD] at h2 ⊢
          exact ih (pre ++ [x]) _ _ (by rw [e]; simp) h2
        | cont r2 m2 =>
          simp only [e2, GoesD] at h2 ⊢
          exact ih (pre ++ [x]) _ _ (by rw [e]; simp) h2
        | brk r2 m2 => simp only [e2, GoesD] at h2
        | ret u m2 => simp only [e2, GoesD] at h2
        | exc y r2 m2 => simp only [e2, GoesD] at h2
        | bad => simp only [e2, GoesD] at h2
  exact go l [] r m rfl h0
/-- .. or it gives something back -/
def GoesR (q : RS) (P : Rho → Mem → Prop) (Q : W → Mem → Prop) : Prop := match q with
  | .next r m => P r m
  | .cont r m => P r m
  | .ret w m => Q w m
  | _ => False
def StepsR (t : DG) (body : DS) (wx : W) (r : Rho) (m : Mem) (P : Rho → Mem → Prop) (Q : W → Mem → Prop) : Prop := match t wx r with
  | none => False
  | some r1 => GoesR (body r1 m) P Q
theorem loop_ret {α : Type} {t : DG} {body : DS} (w : α → W) (P : List α → Rho → Mem → Prop) (Q : W → Mem → Prop) (l : List α) (r : Rho) (m : Mem) (h0 : P [] r m)
    (hs : ∀ pre x post r m, l = pre ++ x :: post → P pre r m → StepsR t body (w x) r m (P (pre ++ [x])) Q) :
    (∃ r' m', loop t body (l.map w) r m = .next r' m' ∧ P l r' m') ∨ ∃ u m', loop t body (l.map w) r m = .ret u m' ∧ Q u m' := by
  have go : ∀ (post pre : List α) (r : Rho) (m : Mem), l = pre ++ post → P pre r m → (∃ r' m', loop t body (post.map w) r m = .next r' m' ∧ P l r' m') ∨ ∃ u m', loop t body (post.map w) r m = .ret u m' ∧ Q u m' := by
    intro post
    induction post with
    | nil => intro pre r m e h; rw [List.append_nil] at e; subst e; exact .inl ⟨r, m, rfl, h⟩
    | cons x post ih =>
      intro pre r m e h
      have h2 := hs pre x post r m e h
      unfold StepsR at h2
      rw [List.map_cons, loop]
      cases e1 : t (w x) r with
      | none => simp only [e1] at h2
      | some r1 =>
        simp only [e1] at h2 ⊢
        cases e2 : body r1 m with
        | next r2 m2 =>
          simp only [e2, GoesR] at h2 ⊢
          exact ih (pre ++ [x]) _ _ (by rw [e]; simp) h2
        | cont r2 m2 =>
          simp only [e2, GoesR] at h2 ⊢
          exact ih (pre ++ [x]) _ _ (by rw [e]; simp) h2
        | brk r2 m2 => simp only [e2, GoesR] at h2
        | ret u m2 =>
          simp only [e2, GoesR] at h2 ⊢
          exact .inr ⟨u, m2, rfl, h2⟩
        | exc y r2 m2 => simp only [e2, GoesR] at h2
        | bad => simp only [e2, GoesR] at h2
  exact go l [] r m rfl h0
theorem numbered_map {α : Type} {w : α → W} : ∀ (l : List α) (i : Nat), numbered i (l.map w) = (l.zipIdx i).map fun x => W.tup [.int (x.2 : Nat), w x.1]
  | [], i => rfl
  | x :: l, i => by rw [List.map_cons, numbered, List.zipIdx_cons, List.map_cons, numbered_map l (i + 1)]
theorem fold_app {α β : Type} (f : α → β) : ∀ (l : List α) (acc : List β), l.foldl (fun a x => a ++ [f x]) acc = acc ++ l.map f
  | [], acc => by simp
  | x :: l, acc => by rw [List.foldl_cons, fold_app f l, List.map_cons, List.append_assoc]; rfl
theorem fold_appIf {α β : Type} (p : α → Bool) (f : α → β) : ∀ (l : List α) (acc : List β), l.foldl (fun a x => if p x = true then a ++ [f x] else a) acc = acc ++ (l.filter p).map f
  | [], acc => by simp
  | x :: l, acc => by
    rw [List.foldl_cons, fold_appIf p f l, List.filter_cons]
    cases q : p x <;> simp [q]
theorem boolsW_map {α : Type} (p : α → Bool) : ∀ l : List α, boolsW (l.map fun x => .bl (p x)) = some (l.map p)
  | [] => rfl
  | x :: l => by
    rw [List.map_cons, List.map_cons, boolsW, boolsW_map p l]
    rfl
theorem anyW_map {α : Type} {m : Mem} (p : α → Bool) (l : List α) : anyW m [.lst (l.map fun x => .bl (p x))] = some (.bl (l.any p)) := by
  simp only [anyW, trkOf, boolsW_map, Option.map_some]
  congr 2
  rw [List.any_map]
  rfl
theorem allW_map {α : Type} {m : Mem} (p : α → Bool) (l : List α) : allW m [.lst (l.map fun x => .bl (p x))] = some (.bl (l.all p)) := by
  simp only [allW, trkOf, boolsW_map, Option.map_some]
  congr 2
  rw [List.all_map]
  rfl
end Dn

/-! Q2: expressions and tests put together, where nothing changes. -/
namespace Dn
section
variable {r : Rho} {m : Mem} {f g : DE} {c d : DT} {a b : Bool} {x y z : W}
theorem eOr_ok (h1 : f r m = .ok (.bl a) m) (h2 : a = false → g r m = .ok (.bl b) m) : eOr f g r m = .ok (.bl (a || b)) m := by
  unfold eOr
  rw [h1]
  cases a with
  | true => rfl
  | false => exact h2 rfl
theorem eAnd_ok (h1 : f r m = .ok (.bl a) m) (h2 : a = true → g r m = .ok (.bl b) m) : eAnd f g r m = .ok (.bl (a && b)) m := by
  unfold eAnd
  rw [h1]
  cases a with
  | false => rfl
  | true => exact h2 rfl
theorem eBin_ok {o : Mem → W → W → Option W} (h1 : f r m = .ok x m) (h2 : g r m = .ok y m) (h3 : o m x y = some z) : eBin o f g r m = .ok z m := by
  unfold eBin
  rw [h1]
  show ((g r m).bind fun b m2 => match o m2 x b with | some w => Dn.R.ok w m2 | none => .bad) = _
  rw [h2]
  show (match o m x y with | some w => Dn.R.ok w m | none => .bad) = _
  rw [h3]
theorem dTest_ok (h : f r m = .ok (.bl a) m) : dTest f r m = .ok a m := by
  unfold dTest
  rw [h]
  rfl
theorem dOr_ok (h1 : c r m = .ok a m) (h2 : a = false → d r m = .ok b m) : dOr c d r m = .ok (a || b) m := by
  unfold dOr
  rw [h1]
  cases a with
  | true => rfl
  | false => exact h2 rfl
theorem dAnd_ok (h1 : c r m = .ok a m) (h2 : a = true → d r m = .ok b m) : dAnd c d r m = .ok (a && b) m := by
  unfold dAnd
  rw [h1]
  cases a with
  | false => rfl
  | true => exact h2 rfl
theorem dNot_ok (h : c r m = .ok a m) : dNot c r m = .ok (!a) m := by
  unfold dNot
  rw [h]
  rfl
theorem sIf_ok {s t : DS} (h : c r m = .ok a m) : sIf c s t r m = if a = true then s r m else t r m := by
  unfold sIf
  rw [h]
  rfl
theorem sRet_ok (h : f r m = .ok x m) : sRet f r m = .ret x m := by
  unfold sRet
  rw [h]
  rfl
theorem sSet_ok {i : Nat} (h : f r m = .ok x m) : sSet i f r m = .next (r.set i (some x)) m := by
  unfold sSet
  rw [h]
  rfl
theorem seqN {s t : DS} {r' : Rho} {m' : Mem} (h : s r m = .next r' m') : sSeq s t r m = t r' m' := by
  unfold sSeq
  rw [h]
theorem seqR {s t : DS} {m' : Mem} (h : s r m = .ret x m') : sSeq s t r m = .ret x m' := by
  unfold sSeq
  rw [h]
theorem sExpr_ok (h : f r m = .ok x m) : sExpr f r m = .next r m := by
  unfold sExpr
  rw [h]
  rfl
end
end Dn

/-! Q3: repr of plain values: how long it is at most, when it is told. -/
namespace Dn
open PySem PySem.Spec PyProof.Rows L2
mutual
def shB : W → Nat
  | .non => 4
  | .bl _ => 5
  | .int i => ((PyData.int i).shown).length
  | .str x => (reprText x).length
  | .tup xs => shBs xs + 3
  | .lst xs => shBs xs + 3
  | .old xs => shBs xs + 3
  | .ref _ => 4
  | .raw _ => 4
def shBs : List W → Nat
  | [] => 0
  | w :: ws => shB w + 2 + shBs ws
end
mutual
theorem shown_le : ∀ w : W, ((toD w).shown).length ≤ shB w
  | .non => by
    show ((PyData.none).shown).length ≤ 4
    decide +kernel
  | .bl b => by cases b <;> decide +kernel
  | .int i => Nat.le_refl _
  | .str x => Nat.le_refl _
  | .tup xs => by
    show (tupleText (PyData.shownAll (toDs xs))).length ≤ shBs xs + 3
    have h1 := tupleText_len_le (PyData.shownAll (toDs xs))
    have h2 := showns_le xs
    omega
  | .lst xs => by
    show (listText (PyData.shownAll (toDs xs))).length ≤ shBs xs + 3
    have h1 := listText_len_le (PyData.shownAll (toDs xs))
    have h2 := showns_le xs
    omega
  | .old xs => by
    show (listText (PyData.shownAll (toDs xs))).length ≤ shBs xs + 3
    have h1 := listText_len_le (PyData.shownAll (toDs xs))
    have h2 := showns_le xs
    omega
  | .ref _ => by
    show ((PyData.none).shown).length ≤ 4
    decide +kernel
  | .raw _ => by
    show ((PyData.none).shown).length ≤ 4
    decide +kernel
theorem showns_le : ∀ ws : List W, ((PyData.shownAll (toDs ws)).map (·.length)).sum + 2 * (PyData.shownAll (toDs ws)).length ≤ shBs ws
  | [] => by simp [toDs, PyData.shownAll, shBs]
  | w :: ws => by
    have h1 := shown_le w
    have h2 := showns_le ws
    simp only [toDs, PyData.shownAll, shBs, List.map_cons, List.sum_cons, List.length_cons]
    omega
end
theorem shBs_map {α : Type} {f : α → W} {c : Nat} : ∀ {l : List α}, (∀ x, x ∈ l → shB (f x) ≤ c) → shBs (l.map f) ≤ l.length * (c + 2)
  | [], _ => by simp [shBs]
  | x :: l, h => by
    have h1 := h x (.head _)
    have h2 := shBs_map (l := l) fun y q => h y (.tail _ q)
    rw [List.map_cons, shBs, List.length_cons, Nat.succ_mul]
    omega
theorem reprW_ok {m : Mem} {w : W} (hr : rsv m w = w) (h1 : okW 60 w = true) (h2 : (toD w).showable = true) (h3 : shB w ≤ 16777216) : reprW m [w] = some (.str (toD w).shown) := by
  have h4 := shown_le w
  simp only [reprW, hr, h1, h2, decide_eq_true (Nat.le_trans h4 h3), Bool.and_self, if_true]
theorem neS_same {m : Mem} (x : Str) : neS m (.str x) (.str x) = some (.bl false) := by
  simp [neS]
theorem eqS_same {m : Mem} (x : Str) : eqS m (.str x) (.str x) = some (.bl true) := by
  simp [eqS]
theorem showable_all {α : Type} {f : α → W} : ∀ {l : List α}, (∀ x, x ∈ l → (toD (f x)).showable = true) → PyData.showableAll (toDs (l.map f)) = true
  | [], _ => rfl
  | x :: l, h => by
    rw [List.map_cons, toDs, PyData.showableAll, h x (.head _), showable_all fun y q => h y (.tail _ q)]
    rfl
end Dn

/-! Q4: further pieces put together, where nothing changes. -/
namespace Dn
open PySem PySem.Spec PyProof.Rows L2
section
variable {r : Rho} {m m' : Mem} {f g h : DE} {c d : DT} {t : DA} {a b : Bool} {x y z : W} {ws xs ys : List W}
theorem eNot_ok (h : f r m = .ok (.bl a) m) : eNot f r m = .ok (.bl (!a)) m := by
  unfold eNot
  rw [h]
  rfl
theorem eIf_ok (h : c r m = .ok a m) : eIf c f g r m = if a = true then f r m else g r m := by
  unfold eIf
  rw [h]
  rfl
theorem aCons_ok (h1 : f r m = .ok x m) (h2 : t r m = .ok ws m) : aCons f t r m = .ok (x :: ws) m := by
  unfold aCons
  rw [h1]
  show ((t r m).bind fun ws m2 => Dn.R.ok (x :: ws) m2) = _
  rw [h2]
  rfl
theorem aOne_ok (h1 : f r m = .ok x m) : aCons f aNil r m = .ok [x] m := aCons_ok h1 rfl
theorem aTwo_ok (h1 : f r m = .ok x m) (h2 : g r m = .ok y m) : aCons f (aCons g aNil) r m = .ok [x, y] m := aCons_ok h1 (aOne_ok h2)
theorem aThree_ok (h1 : f r m = .ok x m) (h2 : g r m = .ok y m) (h3 : h r m = .ok z m) : aCons f (aCons g (aCons h aNil)) r m = .ok [x, y, z] m := aCons_ok h1 (aTwo_ok h2 h3)
theorem eTup_ok (h : t r m = .ok ws m) (hl : ws.length ≤ 16777216) : eTup t r m = .ok (.tup ws) m := by
  unfold eTup
  rw [h]
  exact if_pos hl
theorem eLst_ok (h : t r m = .ok ws m) (hl : ws.length ≤ 16777216) : eLst t r m = .ok (.lst ws) m := by
  unfold eLst
  rw [h]
  exact if_pos hl
theorem eTup2_ok (h1 : f r m = .ok x m) (h2 : g r m = .ok y m) : eTup (aCons f (aCons g aNil)) r m = .ok (.tup [x, y]) m := eTup_ok (aTwo_ok h1 h2) (by show 2 ≤ 16777216; decide)
theorem eFn_ok {o : Mem → List W → Option W} (h : t r m = .ok ws m) (h2 : o m ws = some x) : eFn o t r m = .ok x m := by
  unfold eFn
  rw [h]
  show (match o m ws with | some w => Dn.R.ok w m | none => .bad) = _
  rw [h2]
theorem aFn_ok {o : Mem → List W → Option (List W)} (h : t r m = .ok ws m) (h2 : o m ws = some xs) : aFn o t r m = .ok xs m := by
  unfold aFn
  rw [h]
  show (match o m ws with | some w => Dn.R.ok w m | none => .bad) = _
  rw [h2]
theorem eCall_ok {n : Nat} {q : Fw} (h : t r m = .ok ws m) (hn : ws.length = n) (h2 : q ws m = .ok x m') : eCall n q t r m = .ok x m' := by
  unfold eCall
  rw [h]
  show (if ws.length = n then q ws m else .bad) = _
  rw [if_pos hn, h2]
theorem eFz_ok (h : t r m = .ok ws m') : eFz t r m = .ok (.lst ws) m' := by
  unfold eFz
  rw [h]
  rfl
theorem aComp_ok {s : DA} {tg : DG} {vs : List Nat} (h : s r m = .ok xs m) (h2 : compL tg c f vs xs r m = .ok ys m') : aComp s tg c f vs r m = .ok ys m' := by
  unfold aComp
  rw [h]
  exact h2
theorem iSeq_l (h : f r m = .ok (.lst xs) m) : iSeq f r m = .ok xs m := by
  unfold iSeq
  rw [h]
  rfl
theorem iSeq_t (h : f r m = .ok (.tup xs) m) : iSeq f r m = .ok xs m := by
  unfold iSeq
  rw [h]
  rfl
theorem sPar_ok {i j : Nat} (h : t r m = .ok [x, y] m') : sPar i j t r m = .next ((r.set i (some x)).set j (some y)) m' := by
  unfold sPar
  rw [h]
  rfl
theorem sPar3_ok {i j l : Nat} (h : t r m = .ok [x, y, z] m') : sPar3 i j l t r m = .next (((r.set i (some x)).set j (some y)).set l (some z)) m' := by
  unfold sPar3
  rw [h]
  rfl
theorem runD_ret {n : Nat} {s : DS} {w : W} (h : s (startW n ws) m = .ret w m') : runD n s ws m = .ok w m' := by
  unfold runD
  rw [h]
theorem intW_b (k : Bool) : intW m [.bl k] = some (.int (if k then 1 else 0)) := rfl
/-- [x] * int(b) -/
theorem mul_b (x : W) (k : Bool) : mulW m (.lst [x]) (.int (if k then 1 else 0)) = some (.lst (if k then [x] else [])) := by
  cases k <;> rfl
/-- a list's + -/
theorem addL_ok (h : xs.length + ys.length ≤ 16777216) : addW m (.lst xs) (.lst ys) = some (.lst (xs ++ ys)) := by
  show addL m (.lst xs) (.lst ys) = _
  simp only [addL, trkOf]
  exact if_pos h
end
end Dn

/-! Q5: repr of plain values is text of good signs, told by its leaves. -/
namespace Dn
open PySem PySem.Spec PyProof.Rows L2
theorem sOk_iff {x : Str} : PyData.strOk x = true ↔ ∀ c ∈ x.cps.toList, c < 0x110000 := by
  unfold PyData.strOk
  rw [Array.all_eq_true']
  simp only [decide_eq_true_eq, Array.mem_toList_iff]
theorem sOk_app {a b : Str} (ha : PyData.strOk a = true) (hb : PyData.strOk b = true) : PyData.strOk (a ++ b) = true := by
  rw [sOk_iff] at ha hb ⊢
  intro c hc
  rw [PyProof.Rows.mem_cps_append] at hc
  rcases hc with h | h
  · exact ha c h
  · exact hb c h
theorem sOk_from : ∀ (ts : List Str) (k : Nat) (acc : Str), PyData.strOk acc = true → (∀ t ∈ ts, PyData.strOk t = true) → PyData.strOk (textFrom k acc ts) = true
  | [], _, _, h, _ => h
  | t :: ts, k, acc, h, q => by
    show PyData.strOk (textFrom (k + 1) (acc ++ (if k > 0 then ", " else "" : String) ++ t) ts) = true
    refine sOk_from ts (k + 1) _ (sOk_app (sOk_app h ?_) (q t (.head _))) fun u hu => q u (.tail _ hu)
    split <;> decide +kernel
theorem sOk_join {ts : List Str} (q : ∀ t ∈ ts, PyData.strOk t = true) : PyData.strOk (Str.join ", " ts) = true := by
  rw [sOk_iff]
  intro c hc
  rw [PyProof.Rows.mem_join] at hc
  rcases hc with ⟨t, ht, h⟩ | ⟨_, h⟩
  · exact sOk_iff.mp (q t ht) c h
  · have e : ((", " : String) : Str).cps.toList = [44, 32] := by decide
    rw [e] at h
    simp only [List.mem_cons, List.mem_nil_iff, or_false] at h
    omega
mutual
def lvB : W → Bool
  | .int i => PyData.strOk (PyData.int i).shown
  | .str x => PyData.strOk (reprText x)
  | .tup xs => lvBs xs
  | .lst xs => lvBs xs
  | .old xs => lvBs xs
  | _ => true
def lvBs : List W → Bool
  | [] => true
  | w :: ws => lvB w && lvBs ws
end
mutual
theorem shown_ok : ∀ {w : W}, lvB w = true → PyData.strOk (toD w).shown = true
  | .non, _ => by decide +kernel
  | .bl b, _ => by cases b <;> decide +kernel
  | .int i, h => h
  | .str x, h => h
  | .tup xs, h => by
    show PyData.strOk (tupleText (PyData.shownAll (toDs xs))) = true
    unfold tupleText
    refine sOk_app (sOk_app (by decide +kernel) (sOk_join (showns_ok (by simpa [lvB] using h)))) ?_
    split <;> decide +kernel
  | .lst xs, h => by
    show PyData.strOk (listText (PyData.shownAll (toDs xs))) = true
    unfold listText
    exact sOk_app (sOk_from _ _ _ (by decide +kernel) (showns_ok (by simpa [lvB] using h))) (by decide +kernel)
  | .old xs, h => by
    show PyData.strOk (listText (PyData.shownAll (toDs xs))) = true
    unfold listText
    exact sOk_app (sOk_from _ _ _ (by decide +kernel) (showns_ok (by simpa [lvB] using h))) (by decide +kernel)
  | .ref _, _ => by
    show PyData.strOk (PyData.none).shown = true
    decide +kernel
  | .raw _, _ => by
    show PyData.strOk (PyData.none).shown = true
    decide +kernel
theorem showns_ok : ∀ {ws : List W}, lvBs ws = true → ∀ t ∈ PyData.shownAll (toDs ws), PyData.strOk t = true
  | [], _, t, ht => by
    rw [toDs, PyData.shownAll_nil] at ht
    cases ht
  | w :: ws, h, t, ht => by
    rw [toDs, PyData.shownAll_cons, List.mem_cons] at ht
    rw [lvBs, Bool.and_eq_true_iff] at h
    rcases ht with rfl | ht
    · exact shown_ok h.1
    · exact showns_ok h.2 t ht
end
theorem okW_shown {w : W} (h : lvB w = true) : okW 60 (.str (toD w).shown) = true := shown_ok h
/-- what can be shown, told by parts that are cheap to reckon -/
def rpB (w : W) : Bool := (match w with
  | .ref _ => false
  | _ => true) && (okW 60 w && ((toD w).showable && (decide (shB w ≤ 100000) && lvB w)))
theorem rpB_nr {w : W} (h : rpB w = true) (m : Mem) : rsv m w = w := by
  unfold rpB at h
  rw [Bool.and_eq_true_iff] at h
  cases w <;> first | rfl | cases h.1
theorem rpB_repr {w : W} (h : rpB w = true) (m : Mem) : reprW m [w] = some (.str (toD w).shown) := by
  have hn := rpB_nr h m
  unfold rpB at h
  simp only [Bool.and_eq_true_iff, decide_eq_true_eq] at h
  obtain ⟨_, h1, h2, h3, _⟩ := h
  exact reprW_ok hn h1 h2 (by omega)
theorem rpB_ok {w : W} (h : rpB w = true) : okW 60 (.str (toD w).shown) = true := by
  unfold rpB at h
  simp only [Bool.and_eq_true_iff] at h
  exact okW_shown h.2.2.2.2
end Dn

/-! M1: rooms, in plain words. -/
namespace Rm
open PySem PySem.Spec PyProof.Rows L2 Dn

inductive How where
  | here | out | lost | away
  deriving DecidableEq
inductive Bk where
  | asks | old | tells
  deriving DecidableEq
def How.s : How → Str
  | .here => "here"
  | .out => "out"
  | .lost => "lost"
  | .away => "away"
def Bk.s : Bk → Str
  | .asks => "asks"
  | .old => "old"
  | .tells => "tells"
structure Rule where
  k : Int
  t : Int
  line : Bool
  on : Bool
  bk : Bk
  told : Bool
  asks : Bool
  deriving DecidableEq
def askS (b : Bool) : Str := if b then "line" else "seen"
def fillS (b : Bool) : Str := if b then "on" else "none"
def letS (b : Bool) : Str := if b then "told" else "quiet"
def lostS (b : Bool) : Str := if b then "asks" else "claims"
def Rule.w (r : Rule) : W := .tup [.int r.k, .int r.t, .str (askS r.line), .str (fillS r.on), .str r.bk.s, .str (letS r.told), .str (lostS r.asks)]
structure Rule.Ok (r : Rule) : Prop where
  k1 : 1 ≤ r.k
  k3 : r.k ≤ 3
  t0 : 0 ≤ r.t
  tk : r.t ≤ r.k
structure Row where
  p : Int
  h : How
  ns : List Int
  deriving DecidableEq
abbrev Line := List Row
def Row.w (x : Row) : W := .tup [.int x.p, .str x.h.s, .tup (x.ns.map .int)]
def lineW (l : Line) : W := .tup (l.map Row.w)

/-! ### what people do -/
def known (r : Rule) (h : How) : Bool := match h with
  | .here => true
  | .out => r.line
  | .away => r.line
  | .lost => false
def nearest (r : Rule) (l : Line) (i : Nat) : List Int := ((((l.take i).filter fun x => known r x.h).map (·.p)).reverse).take r.k.toNat
def take1 (r : Rule) (l : Line) (spots : List Int) (x : Row × Nat) : Row := if (spots.contains (x.2 : Int) && decide (x.1.h = .here)) = true then ⟨x.1.p, x.1.h, nearest r l x.2⟩ else x.1
def renewed (r : Rule) (l : Line) (spots : List Int) : Line := l.zipIdx.map (take1 r l spots)
def asHow (l : Line) (i : Nat) (h : How) : Line := match l[i]? with
  | some x => l.take i ++ ⟨x.p, h, if h = .away then [] else x.ns⟩ :: l.drop (i + 1)
  | none => l
def struck (p : Int) (x : Row) : Row := if x.h = .here ∧ x.ns.contains p = true then ⟨x.p, x.h, x.ns.filter fun n => !(n == p)⟩ else x
def hits (l : Line) (p : Int) : List Int := (l.zipIdx.filter fun x => decide (x.1.h = .here) && x.1.ns.contains p).map fun x => (x.2 : Int)
def without (r : Rule) (l : Line) (p : Int) : Line :=
  renewed r ((l.filter fun x => !(x.p == p)).map (struck p)) (if r.on = true then hits (l.filter fun x => !(x.p == p)) p else [])
def forgetting (l : Line) : Line := if (l.any fun x => decide (x.h = .here)) = true then l else (l.filter fun x => !decide (x.h = .away)).map fun x => ⟨x.p, .lost, x.ns⟩
def bare (l : Line) : List Int := (l.zipIdx.filter fun x => x.1.ns.isEmpty).map fun x => (x.2 : Int)
def askedAgain (r : Rule) (l : Line) : Line := if r.asks = true then renewed r l (bare l) else l
def here (l : Line) : List Int := (l.filter fun x => decide (x.h = .here)).map (·.p)
def claims (r : Rule) (l : Line) : List Int := (l.filter fun x => decide (x.h = .here) && (decide ((x.ns.length : Int) ≤ r.t) && !(x.ns.any fun n => (here l).contains n))).map (·.p)

inductive Pw where
  | back | leave | lett | out | vanish
  deriving DecidableEq
def Pw.s : Pw → Str
  | .back => "back"
  | .leave => "leave"
  | .lett => "let"
  | .out => "out"
  | .vanish => "vanish"
inductive Ev where
  | come | door | pers (w : Pw) (p : Int)
  deriving DecidableEq
def Ev.w : Ev → W
  | .come => .tup [.str "come"]
  | .door => .tup [.str "door"]
  | .pers x p => .tup [.str x.s, .int p]
structure Room where
  line : Line
  came : Int
  served : List Int
  deriving DecidableEq
def howIs (l : Line) (p : Int) : Option How := ((l.filter fun x => x.p == p).map (·.h)).head?
def howW : Option How → W
  | some h => .str h.s
  | none => .non
def canBe (r : Rule) (R : Room) : Ev → Bool
  | .come => decide (R.came < 12)
  | .door => !(here R.line).isEmpty
  | .pers .back p => (decide (howIs R.line p = some .out) || decide (howIs R.line p = some .lost)) && (!(decide (howIs R.line p = some .lost) && decide (r.bk = .asks)) || decide (R.came < 12))
  | .pers x p => decide (howIs R.line p = some .here) && (!decide (x = .lett) || decide (R.came < 12))
def putIn (r : Rule) (R : Room) (i : Nat) : Room := ⟨renewed r (R.line.take i ++ ⟨R.came, .here, []⟩ :: R.line.drop i) [(i : Int)], R.came + 1, R.served⟩
def upTo (a b : Nat) : List Int := (List.range (b - a)).map fun i => ((a + i : Nat) : Int)
def renewFrom (r : Rule) (R : Room) (i : Nat) : Room := ⟨renewed r R.line (upTo i R.line.length), R.came, R.served⟩
def bringBack (r : Rule) (R : Room) (i : Nat) : Room :=
  if r.bk = .asks ∧ (R.line[i]?.map (·.h)) = some .lost then putIn r ⟨R.line.take i ++ R.line.drop (i + 1), R.came, R.served⟩ (R.line.length - 1)
  else match r.bk with
    | .tells => renewFrom r ⟨asHow R.line i .here, R.came, R.served⟩ i
    | .old => ⟨asHow R.line i .here, R.came, R.served⟩
    | .asks => ⟨renewed r (asHow R.line i .here) [(i : Int)], R.came, R.served⟩
def openDoor (r : Rule) (R : Room) : Room := match claims r (askedAgain r R.line) with
  | [p] => ⟨without r (askedAgain r R.line) p, R.came, R.served ++ [p]⟩
  | _ => ⟨askedAgain r R.line, R.came, R.served⟩
def spotOf (l : Line) (p : Int) : Nat := l.findIdx fun x => x.p == p
def doPers (r : Rule) (R : Room) (x : Pw) (p : Int) : Room := match x with
  | .lett => if r.told = true then renewFrom r (putIn r R (spotOf R.line p + 1)) (spotOf R.line p + 2) else putIn r R (spotOf R.line p + 1)
  | .leave => ⟨without r R.line p, R.came, R.served⟩
  | .back => bringBack r R (spotOf R.line p)
  | .out => ⟨asHow R.line (spotOf R.line p) .out, R.came, R.served⟩
  | .vanish => ⟨asHow R.line (spotOf R.line p) .away, R.came, R.served⟩
def doRaw (r : Rule) (R : Room) : Ev → Room
  | .come => putIn r R R.line.length
  | .door => openDoor r R
  | .pers x p => doPers r R x p
def doEv (r : Rule) (R : Room) (e : Ev) : Room := ⟨forgetting (doRaw r R e).line, (doRaw r R e).came, (doRaw r R e).served⟩
def room0 : Room := ⟨[], 0, []⟩
def behind (r : Rule) (es : List Ev) : Room := es.foldl (doEv r) room0
/-- each of a row can be -/
def isRow (r : Rule) (R : Room) : List Ev → Bool
  | [] => true
  | e :: es => canBe r R e && isRow r (doEv r R e) es
end Rm

/-! M2: words and lines as plain values. -/
namespace Rm
open PySem PySem.Spec PyProof.Rows L2 Dn
variable {m : Mem}
theorem start0 {n : Nat} : startW n [] = List.replicate n none := by simp [startW]
theorem start1 {n : Nat} {a : W} : startW (n + 1) [a] = some a :: List.replicate n none := rfl
theorem start2 {n : Nat} {a b : W} : startW (n + 2) [a, b] = some a :: some b :: List.replicate n none := by simp [startW]
theorem start3 {n : Nat} {a b c : W} : startW (n + 3) [a, b, c] = some a :: some b :: some c :: List.replicate n none := by simp [startW]
theorem start4 {n : Nat} {a b c d : W} : startW (n + 4) [a, b, c, d] = some a :: some b :: some c :: some d :: List.replicate n none := by simp [startW]
theorem start5 {n : Nat} {a b c d e : W} : startW (n + 5) [a, b, c, d, e] = some a :: some b :: some c :: some d :: some e :: List.replicate n none := by simp [startW]
theorem mulW_i {i j : Int} (a : -(2 ^ 64) < i) (b : i < 2 ^ 64) : mulW m (.int i) (.int j) = some (.int (i * j)) := by simp only [mulW, mulI, iOp]; exact if_pos (.inl ⟨a, b⟩)
theorem modW_i {i j : Int} (a : 0 < j) : modW m (.int i) (.int j) = some (.int (i % j)) := by simp only [modW, iOp]; exact if_pos a
theorem fdivW_i {i j : Int} (a : 0 < j) (b : j < 1073741824) : fdivW m (.int i) (.int j) = some (.int (i / j)) := by simp only [fdivW, iOp]; exact if_pos ⟨a, b⟩
theorem addW_i {i j : Int} : addW m (.int i) (.int j) = some (.int (i + j)) := rfl
theorem subW_i {i j : Int} : subW m (.int i) (.int j) = some (.int (i - j)) := rfl
theorem addI_i {i j : Int} : addI m (.int i) (.int j) = some (.int (i + j)) := rfl
theorem intW_i {i : Int} : intW m [.int i] = some (.int i) := rfl
theorem gtW_i {i j : Int} : gtW m (.int i) (.int j) = some (.bl (decide (j < i))) := rfl
theorem geW_i {i j : Int} : geW m (.int i) (.int j) = some (.bl (decide (j ≤ i))) := rfl
theorem ltW_i {i j : Int} : ltW m (.int i) (.int j) = some (.bl (decide (i < j))) := rfl
theorem leW_i {i j : Int} : leW m (.int i) (.int j) = some (.bl (decide (i ≤ j))) := rfl
theorem maxW_i {i j : Int} : maxW m [.int i, .int j] = some (.int (max i j)) := by
  simp only [maxW]
  congr 2
  by_cases h : j > i
  · rw [if_pos h, Int.max_eq_right (by omega)]
  · rw [if_neg h, Int.max_eq_left (by omega)]
theorem addW_l {xs ys : List W} (h : xs.length + ys.length ≤ 16777216) : addW m (.lst xs) (.lst ys) = some (.lst (xs ++ ys)) := by
  show addL m (.lst xs) (.lst ys) = _
  simp only [addL, trkOf]
  exact if_pos h
theorem addW_t {xs ys : List W} (h : xs.length + ys.length ≤ 16777216) : addW m (.tup xs) (.tup ys) = some (.tup (xs ++ ys)) := by
  show addT m (.tup xs) (.tup ys) = _
  simp only [addT]
  exact if_pos h
theorem tupleW_l {xs : List W} : tupleW m [.lst xs] = some (.tup xs) := rfl
theorem tupleW_t {xs : List W} : tupleW m [.tup xs] = some (.tup xs) := rfl
theorem tupleW_r {n : Nat} {xs : List W} (h : m[n]? = some (.lst xs)) : tupleW m [.ref n] = some (.tup xs) := by simp only [tupleW, seqOf, h, Option.map]
theorem lenW_t {xs : List W} : lenW m [.tup xs] = some (.int (xs.length : Nat)) := rfl
theorem lenW_l {xs : List W} : lenW m [.lst xs] = some (.int (xs.length : Nat)) := rfl
theorem lenW_r {n : Nat} {xs : List W} (h : m[n]? = some (.lst xs)) : lenW m [.ref n] = some (.int (xs.length : Nat)) := by simp only [lenW, h]
theorem ixM_t {xs : List W} {i : Int} : ixM m (.tup xs) (.int i) = atI xs i := rfl
theorem ixM_l {xs : List W} {i : Int} : ixM m (.lst xs) (.int i) = atI xs i := rfl
/-! ### words -/
theorem eq_how (h k : How) : eqM m (.str h.s) (.str k.s) = some (.bl (decide (h = k))) := by cases h <;> cases k <;> kernel_rfl
theorem ne_how (h k : How) : neM m (.str h.s) (.str k.s) = some (.bl (!decide (h = k))) := by cases h <;> cases k <;> kernel_rfl
theorem eq_bk (h k : Bk) : eqM m (.str h.s) (.str k.s) = some (.bl (decide (h = k))) := by cases h <;> cases k <;> kernel_rfl
theorem ne_bk (h k : Bk) : neM m (.str h.s) (.str k.s) = some (.bl (!decide (h = k))) := by cases h <;> cases k <;> kernel_rfl
theorem eq_pw (h k : Pw) : eqM m (.str h.s) (.str k.s) = some (.bl (decide (h = k))) := by cases h <;> cases k <;> kernel_rfl
theorem ne_pw (h k : Pw) : neM m (.str h.s) (.str k.s) = some (.bl (!decide (h = k))) := by cases h <;> cases k <;> kernel_rfl
theorem eq_line (b : Bool) : eqM m (.str (askS b)) (.str "line") = some (.bl b) := by cases b <;> kernel_rfl
theorem eq_on (b : Bool) : eqM m (.str (fillS b)) (.str "on") = some (.bl b) := by cases b <;> kernel_rfl
theorem eq_told (b : Bool) : eqM m (.str (letS b)) (.str "told") = some (.bl b) := by cases b <;> kernel_rfl
theorem eq_asks (b : Bool) : eqM m (.str (lostS b)) (.str "asks") = some (.bl b) := by cases b <;> kernel_rfl
theorem ne_asks (b : Bool) : neM m (.str (lostS b)) (.str "asks") = some (.bl (!b)) := by cases b <;> kernel_rfl
theorem eq_howW (h : Option How) (k : How) : eqM m (howW h) (.str k.s) = some (.bl (decide (h = some k))) := by
  cases h with
  | none => cases k <;> kernel_rfl
  | some h => cases h <;> cases k <;> kernel_rfl
theorem ne_howW (h : Option How) (k : How) : neM m (howW h) (.str k.s) = some (.bl (!decide (h = some k))) := by
  cases h with
  | none => cases k <;> kernel_rfl
  | some h => cases h <;> cases k <;> kernel_rfl
theorem in_howW (h : Option How) : inM false m (howW h) (.tup [.str How.out.s, .str How.lost.s]) = some (.bl (decide (h = some .out) || decide (h = some .lost))) := by
  cases h with
  | none => kernel_rfl
  | some h => cases h <;> kernel_rfl
theorem in_line (h : How) (r : Rule) (e : r.line = true) : inM false m (.str h.s) (.tup [.str How.here.s, .str How.out.s, .str How.away.s]) = some (.bl (known r h)) := by
  cases h <;> simp only [known, e] <;> kernel_rfl
theorem in_seen (h : How) (r : Rule) (e : r.line = false) : inM false m (.str h.s) (.tup [.str How.here.s]) = some (.bl (known r h)) := by
  cases h <;> simp only [known, e] <;> kernel_rfl
theorem isNon_how (h : Option How) : isNonW m (howW h) .non = some (.bl h.isNone) := by cases h <;> kernel_rfl
/-! ### rules, rows, lines -/
theorem rule0 (r : Rule) : ixM m r.w (.int 0) = some (.int r.k) := rfl
theorem rule1 (r : Rule) : ixM m r.w (.int 1) = some (.int r.t) := rfl
theorem rule2 (r : Rule) : ixM m r.w (.int 2) = some (.str (askS r.line)) := rfl
theorem rule3 (r : Rule) : ixM m r.w (.int 3) = some (.str (fillS r.on)) := rfl
theorem rule4 (r : Rule) : ixM m r.w (.int 4) = some (.str r.bk.s) := rfl
theorem rule5 (r : Rule) : ixM m r.w (.int 5) = some (.str (letS r.told)) := rfl
theorem rule6 (r : Rule) : ixM m r.w (.int 6) = some (.str (lostS r.asks)) := rfl
theorem g_rule (r : Rule) : gW r.w = true := by kernel_rfl
theorem g_row (x : Row) : gW x.w = true := by
  simp only [Row.w, gW_tup, gWs_cons, gW_int, gW_str, gWs_ints, gWs_nil, Bool.and_self]
theorem gs_rows (l : Line) : gWs (l.map Row.w) = true := gWs_map g_row l
theorem g_line (l : Line) : gW (lineW l) = true := by rw [lineW, gW_tup]; exact gs_rows l
theorem g_lineT (l : Line) : gW (.tup (l.map Row.w)) = true := g_line l
theorem g_intsT (l : List Int) : gW (.tup (l.map .int)) = true := by rw [gW_tup]; exact gWs_ints l
theorem g_intsL (l : List Int) : gW (.lst (l.map .int)) = true := by rw [gW_lst]; exact gWs_ints l
theorem strOk_how (h : How) : PyData.strOk h.s = true := by cases h <;> kernel_rfl
theorem ok_row (n : Nat) (x : Row) : okW (n + 2) x.w = true := by
  simp only [Row.w, okW_tup, okWs, okW, strOk_how, okWs_int, Bool.and_self]
theorem ok_lineT (n : Nat) (l : Line) : okW (n + 3) (.tup (l.map Row.w)) = true := by rw [okW_tup]; exact okWs_map (ok_row n) l
theorem ok_intsT (n : Nat) (l : List Int) : okW (n + 1) (.tup (l.map .int)) = true := by rw [okW_tup]; exact okWs_int n l
theorem ok_intsL (n : Nat) (l : List Int) : okW (n + 1) (.lst (l.map .int)) = true := by rw [okW_lst]; exact okWs_int n l
theorem eq_nilT (l : List Int) : eqM m (.tup (l.map .int)) (.tup []) = some (.bl l.isEmpty) := by
  rw [eqM_ok (ok_intsT 59 l) (by kernel_rfl), eqW, eqWs_nil_map]
theorem ne_nilL {α : Type} {f : α → W} (l : List α) (h : ∀ x, okW 59 (f x) = true) : neM m (.lst (l.map f)) (.lst []) = some (.bl (!l.isEmpty)) := by
  rw [neM_ok (by rw [okW_lst]; exact okWs_map h l) (by kernel_rfl), eqW, eqWs_nil_map]
theorem idx_ints : ∀ (l : List Int) (p : Int), p ∈ l → idxW m (.lst (l.map .int)) (.int p) = some (.int ((l.findIdx fun x => x == p : Nat) : Int)) := fun l p h => by
  have e : ∀ l : List Int, toVs (l.map .int) = some (l.map V.int) := fun l => by
    induction l with
    | nil => rfl
    | cons x l ih => simp only [List.map_cons, toVs, toV, ih]
  have f : ∀ l : List Int, p ∈ l → findV (.int p) (l.map V.int) = some (l.findIdx fun x => x == p) := fun l => by
    induction l with
    | nil => intro h; cases h
    | cons x l ih =>
      intro h
      rw [List.map_cons, findV, List.findIdx_cons]
      have q : eqV (.int x) (.int p) = (x == p) := rfl
      rw [q]
      cases c : x == p with
      | true => rfl
      | false =>
        have hp : p ∈ l := by
          rcases List.mem_cons.mp h with rfl | h
          · simp at c
          · exact h
        simp only [ih hp, Option.map, cond]
  simp only [idxW, trkOf, e, toV, f l h, Option.map]
theorem rg_ints (a b : Nat) : rgW (a : Int) (b : Int) = (upTo a b).map .int := by
  have e : ((b : Int) - (a : Int)).toNat = b - a := by omega
  simp only [rgW, upTo, List.map_map, e]
  refine List.map_congr_left fun i _ => ?_
  simp
end Rm

/-! M3: a room as an instance in the memory. -/
namespace Rm
open PySem PySem.Spec PyProof.Rows L2 Dn
def roomF (r : Rule) (R : Rm.Room) (k : Nat) : List (Str × W) := [("own_rule", r.w), ("line_now", .tup (R.line.map Row.w)), ("came_so_far", .int R.came), ("served_so_far", .ref k)]
/-- the memory with a room at n, its list of those who were served at n + 1 -/
def putR (m : Mem) (n : Nat) (r : Rule) (R : Rm.Room) : Mem := (m.set n (.ins 0 (roomF r R (n + 1)))).set (n + 1) (.lst (R.served.map .int))
section
variable {m : Mem} {n : Nat} {r : Rule}
theorem putR_len (R : Rm.Room) : (putR m n r R).length = m.length := by simp [putR]
theorem putR_get (hn : n + 1 < m.length) (R : Rm.Room) : (putR m n r R)[n]? = some (.ins 0 (roomF r R (n + 1))) := by
  unfold putR
  rw [List.getElem?_set_ne (by omega), List.getElem?_set_self (by omega)]
theorem putR_srv (hn : n + 1 < m.length) (R : Rm.Room) : (putR m n r R)[n + 1]? = some (.lst (R.served.map .int)) := by
  unfold putR
  rw [List.getElem?_set_self (by simpa using hn)]
theorem putR_put (R R' : Rm.Room) : putR (putR m n r R) n r R' = putR m n r R' := by
  unfold putR
  rw [List.set_comm _ _ (show n + 1 ≠ n by omega), List.set_set, List.set_set]
theorem ins_put (hn : n + 1 < m.length) (R : Rm.Room) : insOf 0 (putR m n r R) (.ref n) = some (n, roomF r R (n + 1)) := by
  simp only [insOf, putR_get hn, if_true]
theorem f_rule (hn : n + 1 < m.length) (R : Rm.Room) : fldOf 0 "own_rule" (putR m n r R) (.ref n) = some r.w := by
  simp only [fldOf, putR_get hn, if_true]
  rfl
theorem f_line (hn : n + 1 < m.length) (R : Rm.Room) : fldOf 0 "line_now" (putR m n r R) (.ref n) = some (.tup (R.line.map Row.w)) := by
  simp only [fldOf, putR_get hn, if_true]
  kernel_rfl
theorem f_came (hn : n + 1 < m.length) (R : Rm.Room) : fldOf 0 "came_so_far" (putR m n r R) (.ref n) = some (.int R.came) := by
  simp only [fldOf, putR_get hn, if_true]
  kernel_rfl
theorem f_served (hn : n + 1 < m.length) (R : Rm.Room) : fldOf 0 "served_so_far" (putR m n r R) (.ref n) = some (.ref (n + 1)) := by
  simp only [fldOf, putR_get hn, if_true]
  kernel_rfl
theorem four_lt : ((4 : Nat) < 1000) = True := eq_true (by decide)
theorem roomF_len (R : Rm.Room) (k : Nat) : (roomF r R k).length = 4 := rfl
theorem p_line (R : Rm.Room) (l : Line) (k : Nat) : putFW "line_now" (.tup (l.map Row.w)) (roomF r R k) = roomF r ⟨l, R.came, R.served⟩ k := by kernel_rfl
theorem p_came (R : Rm.Room) (c : Int) (k : Nat) : putFW "came_so_far" (.int c) (roomF r R k) = roomF r ⟨R.line, c, R.served⟩ k := by kernel_rfl
theorem set_line (R : Rm.Room) (l : Line) : (putR m n r R).set n (.ins 0 (putFW "line_now" (.tup (l.map Row.w)) (roomF r R (n + 1)))) = putR m n r ⟨l, R.came, R.served⟩ := by
  rw [p_line]
  unfold putR
  rw [List.set_comm _ _ (show n + 1 ≠ n by omega), List.set_set]
theorem set_came (R : Rm.Room) (c : Int) : (putR m n r R).set n (.ins 0 (putFW "came_so_far" (.int c) (roomF r R (n + 1)))) = putR m n r ⟨R.line, c, R.served⟩ := by
  rw [p_came]
  unfold putR
  rw [List.set_comm _ _ (show n + 1 ≠ n by omega), List.set_set]
theorem set_served (R : Rm.Room) (p : Int) : (putR m n r R).set (n + 1) (.lst (R.served.map .int ++ [.int p])) = putR m n r ⟨R.line, R.came, R.served ++ [p]⟩ := by
  unfold putR
  rw [List.set_set]
  simp only [List.map_append, List.map_cons, List.map_nil]
  rfl
theorem no_put_in (R : Rm.Room) (k : Nat) : (roomF r R k).lookup ("put_in" : Str) = none := by kernel_rfl
theorem no_renew_from (R : Rm.Room) (k : Nat) : (roomF r R k).lookup ("renew_from" : Str) = none := by kernel_rfl
theorem no_bring_back (R : Rm.Room) (k : Nat) : (roomF r R k).lookup ("bring_back" : Str) = none := by kernel_rfl
theorem no_open_door (R : Rm.Room) (k : Nat) : (roomF r R k).lookup ("open_door" : Str) = none := by kernel_rfl
theorem no_do_personal (R : Rm.Room) (k : Nat) : (roomF r R k).lookup ("do_personal" : Str) = none := by kernel_rfl
theorem no_do (R : Rm.Room) (k : Nat) : (roomF r R k).lookup ("do" : Str) = none := by kernel_rfl
theorem no_how_is (R : Rm.Room) (k : Nat) : (roomF r R k).lookup ("how_is" : Str) = none := by kernel_rfl
theorem no_are_here (R : Rm.Room) (k : Nat) : (roomF r R k).lookup ("are_here" : Str) = none := by kernel_rfl
theorem no_can_be (R : Rm.Room) (k : Nat) : (roomF r R k).lookup ("can_be" : Str) = none := by kernel_rfl
end
/-! ### lengths -/
theorem renewed_len (r : Rule) (l : Line) (s : List Int) : (renewed r l s).length = l.length := by simp [renewed]
theorem asHow_len (l : Line) (i : Nat) (h : How) : (asHow l i h).length = l.length := by
  unfold asHow
  split
  · rename_i x e
    have := (List.getElem?_eq_some_iff.mp e).1
    simp
    omega
  · rfl
theorem without_len (r : Rule) (l : Line) (p : Int) : (without r l p).length ≤ l.length := by
  unfold without
  rw [renewed_len, List.length_map]
  exact List.length_filter_le _ _
theorem forgetting_len (l : Line) : (forgetting l).length ≤ l.length := by
  unfold forgetting
  split
  · exact Nat.le_refl _
  · rw [List.length_map]; exact List.length_filter_le _ _
theorem asked_len (r : Rule) (l : Line) : (askedAgain r l).length = l.length := by
  unfold askedAgain
  split
  · exact renewed_len _ _ _
  · rfl
theorem putIn_len (r : Rule) (R : Rm.Room) (i : Nat) : (putIn r R i).line.length = R.line.length + 1 := by
  simp only [putIn, renewed_len, List.length_append, List.length_cons, List.length_take, List.length_drop]
  omega
theorem renewFrom_len (r : Rule) (R : Rm.Room) (i : Nat) : (renewFrom r R i).line.length = R.line.length := by simp only [renewFrom, renewed_len]
theorem bringBack_len (r : Rule) (R : Rm.Room) (i : Nat) : (bringBack r R i).line.length ≤ R.line.length + 1 := by
  unfold bringBack
  split
  · rw [putIn_len]
    simp only [List.length_append, List.length_take, List.length_drop]
    omega
  · split
    · rw [renewFrom_len, asHow_len]; omega
    · simp only [asHow_len]; omega
    · simp only [renewed_len, asHow_len]; omega
theorem doRaw_len (r : Rule) (R : Rm.Room) (e : Ev) : (doRaw r R e).line.length ≤ R.line.length + 1 := by
  unfold doRaw
  split
  · rw [putIn_len]; omega
  · unfold openDoor
    split
    · refine Nat.le_trans (without_len _ _ _) ?_
      rw [asked_len]; omega
    · simp only [asked_len]; omega
  · unfold doPers
    split
    · split
      · rw [renewFrom_len, putIn_len]; omega
      · rw [putIn_len]; omega
    · exact Nat.le_trans (without_len _ _ _) (Nat.le_succ _)
    · exact bringBack_len _ _ _
    · simp only [asHow_len]; omega
    · simp only [asHow_len]; omega
theorem doEv_len (r : Rule) (R : Rm.Room) (e : Ev) : (doEv r R e).line.length ≤ R.line.length + 1 :=
  Nat.le_trans (forgetting_len _) (doRaw_len r R e)
theorem doRaw_srv (r : Rule) (R : Rm.Room) (e : Ev) : (doRaw r R e).served.length ≤ R.served.length + 1 := by
  unfold doRaw
  split
  · simp [putIn]
  · unfold openDoor
    split <;> simp
  · unfold doPers
    split
    · split <;> simp [renewFrom, putIn]
    · simp
    · unfold bringBack
      split
      · simp [putIn]
      · split <;> simp [renewFrom]
    · simp
    · simp
theorem doEv_srv (r : Rule) (R : Rm.Room) (e : Ev) : (doEv r R e).served.length ≤ R.served.length + 1 := doRaw_srv r R e
end Rm

namespace L
open PySem PySem.Spec PyProof.Rows L2 Dn Rm
local macro_rules | `(tactic| walk_at "den") => `(tactic| simp (disch := omega) only [runD, start0, start1, start2, start3, sSeq, sSet, sRet, sExpr, sIf, sAsg, sSub, sFor, sPar, eVar, eC, eBin, eFn, eCall, eAnd, eOr, eNot, eIf, eTup, eLst, eIsi, eDget, eNeg, dTest, dAnd, dOr, dNot, dYes, aNil, aCons, aStar, Dn.R.bind, R.thenS, List.length_cons, List.length_nil, List.replicate, List.set, List.getElem?_cons_zero, List.getElem?_cons_succ, List.cons_append, List.nil_append, Nat.reduceAdd, Nat.reduceSub, iOp, if_pos, if_neg, Nat.zero_add, mulW_i, modW_i, fdivW_i, addW_i, intW_i, gtW_i, geW_i])
def mixI (c k : Int) : Int := ((c % 2147483647) * (48271 + 2 * k * k) + 69621 * k + 11) % 2147483647 * 69621 % 2147483629
theorem mixed_ok (c k : Int) (m : Mem) (h0 : 0 ≤ k) (h1 : k < 1000000) : r__law_mixed [.int c, .int k] m = .ok (.int (mixI c k)) m := by
  unfold r__law_mixed
  refine pw_g (m1 := []) rfl ?_ rfl
  unfold d__law_mixed s__law_mixed_0 s__law_mixed_1
  walk_at "den"
  rfl
theorem mixI_lt (c k : Int) : 0 ≤ mixI c k ∧ mixI c k < 2147483629 := by
  unfold mixI
  exact ⟨Int.emod_nonneg _ (by decide), Int.emod_lt_of_pos _ (by decide)⟩
/-- the law's own state of draws: ls what is left of the great cells, cs the cells, at the turn -/
abbrev kS (x : String) : Key := .inr (Str.ofString x)
def dSl (cs : List Int) (i : Int) (x : W) : List (Key × W) := [(kS "cells", .lst (cs.map .int)), (kS "lefts", .ref 0), (kS "at", .int i), (kS "room", x)]
def dS (cs : List Int) (i : Int) (x : W) : Cell := .dct (dSl cs i x)
theorem g_at (cs : List Int) (i : Int) (x : W) : valW (dSl cs i x) (.inr (Str.ofString "at")) = some (.int i) := rfl
theorem g_cells (cs : List Int) (i : Int) (x : W) : valW (dSl cs i x) (.inr (Str.ofString "cells")) = some (.lst (cs.map .int)) := rfl
theorem g_lefts (cs : List Int) (i : Int) (x : W) : valW (dSl cs i x) (.inr (Str.ofString "lefts")) = some (.ref 0) := rfl
theorem p_at (cs : List Int) (i j : Int) (x : W) : putW (dSl cs i x) (.inr (Str.ofString "at")) (.int j) = dSl cs j x := rfl
theorem dSl_len (cs : List Int) (i : Int) (x : W) : (dSl cs i x).length = 4 := rfl
theorem keyW_s (x : Str) : keyW (.str x) = some (.inr x) := rfl
theorem at_in (ls : List Int) (j : Int) (h0 : 0 ≤ j) (h1 : j < ls.length) : ∃ v, atI (ls.map W.int) j = some (.int v) := by
  obtain ⟨n, rfl⟩ : ∃ n : Nat, j = n := ⟨j.toNat, by omega⟩
  have h2 : n < ls.length := by omega
  refine ⟨ls[n], atI_nat ?_⟩
  rw [List.getElem?_map, List.getElem?_eq_getElem h2]
  rfl
theorem ixN_in (n : Nat) (j : Int) (h0 : 0 ≤ j) (h1 : j < n) : ixN n j = some j.toNat := by
  unfold ixN
  rw [if_pos h0, if_pos h1]
theorem okWs_ints (n : Nat) : ∀ ns : List Int, okWs n (ns.map .int) = true
  | [] => rfl
  | _ :: ns => by rw [List.map_cons, okWs, okWs_ints n ns]; rfl
theorem pow18 {m : Mem} : powW m (.int 10) (.int 18) = some (.int 1000000000000000000) := by
  simp only [powW, iOp]
  rw [if_pos (by decide)]
  rfl
theorem lefts_ok (r : Rho) (m : Mem) (h : r.length = 3) : ∀ ns : List Int, ∃ ls : List Int, ls.length = ns.length ∧
    compL (gN 2) dYes (eIf (dTest (eBin geW (eVar 2) (eBin powW (eC (W.int 10)) (eC (W.int 18))))) (eVar 2) (eC (W.int 0))) [2] (ns.map .int) r m = .ok (ls.map .int) m
  | [] => ⟨[], rfl, rfl⟩
  | n :: ns => by
    obtain ⟨ls, h1, h2⟩ := lefts_ok r m h ns
    match r, h with
    | [a, b, c], _ =>
      have e : compL (gN 2) dYes (eIf (dTest (eBin geW (eVar 2) (eBin powW (eC (W.int 10)) (eC (W.int 18))))) (eVar 2) (eC (W.int 0))) [2] ((n :: ns).map .int) [a, b, c] m
          = (R.ok (W.int (if 1000000000000000000 ≤ n then n else 0)) m).bind fun y m2 => (compL (gN 2) dYes (eIf (dTest (eBin geW (eVar 2) (eBin powW (eC (W.int 10)) (eC (W.int 18))))) (eVar 2) (eC (W.int 0))) [2] (ns.map .int) [a, b, c] m2).bind fun ys m3 => .ok (y :: ys) m3 := by
        rw [List.map_cons, compL]
        simp only [gN, dYes, wipeR, eIf, dTest, eBin, eVar, eC, List.set, List.getElem?_cons_zero, List.getElem?_cons_succ, Dn.R.bind, geW_i, pow18]
        by_cases hn : (1000000000000000000 : Int) ≤ n
        · simp only [hn, decide_true, if_true, Dn.R.bind]
        · simp only [hn, decide_false, Bool.false_eq_true, if_false, Dn.R.bind]
      rw [e]
      simp only [Dn.R.bind, h2]
      exact ⟨(if 1000000000000000000 ≤ n then n else 0) :: ls, by simp [h1], rfl⟩
theorem begin_ok (ns : List Int) (h : ns.length ≤ 63) : ∃ cs ls : List Int, 0 < cs.length ∧ cs.length ≤ 63 ∧ ls.length = cs.length ∧ r__law_begin [.old (ns.map .int)] [] = .ok (.ref 1) [.lst (ls.map .int), dS cs 0 (.int 0)] := by
  have fin : ∀ (cs : List Int) (r0 : Option W) (m : Mem), ∃ ls : List Int, ls.length = cs.length ∧ (eDict [(Str.ofString "cells", eVar 1), (Str.ofString "lefts", eNw (aComp (iSeq (eVar 1)) (gN 2) dYes (eIf (dTest (eBin geW (eVar 2) (eBin powW (eC (W.int 10)) (eC (W.int 18))))) (eVar 2) (eC (W.int 0))) [2])), (Str.ofString "at", eC (W.int 0)), (Str.ofString "room", eC (W.int 0))] [r0, some (.lst (cs.map .int)), none] [] = .ok (.ref 1) [.lst (ls.map .int), dS cs 0 (.int 0)]) := fun cs r0 m => by
    obtain ⟨ls, h1, h2⟩ := lefts_ok [r0, some (.lst (cs.map .int)), none] [] rfl cs
    refine ⟨ls, h1, ?_⟩
    simp only [eDict, pairsD, eVar, List.getElem?_cons_succ, List.getElem?_cons_zero, Dn.R.bind, eNw, aComp, iSeq, h2, eC, List.length_nil, List.nil_append]
    rfl
  cases ns with
  | nil =>
    obtain ⟨ls, h1, h2⟩ := fin [0] (some (.old [])) []
    refine ⟨[0], ls, by simp, by simp, h1, ?_⟩
    unfold r__law_begin d__law_begin s__law_begin_0 s__law_begin_1
    have e : neM [] (W.old (List.map W.int [])) (W.lst []) = some (.bl false) := rfl
    walk_at "den"
    simp only [e, Dn.R.bind, Bool.false_eq_true, if_false]
    have h2' : eDict _ [some (.old []), some (.lst [.int 0]), none] [] = _ := h2
    simp only [List.map_nil]
    rw [h2']
  | cons n ns =>
    obtain ⟨ls, h1, h2⟩ := fin (n :: ns) (some (.old ((n :: ns).map .int))) []
    refine ⟨n :: ns, ls, by simp, h, h1, ?_⟩
    unfold r__law_begin d__law_begin s__law_begin_0 s__law_begin_1
    have e : neM [] (W.old (List.map W.int (n :: ns))) (W.lst []) = some (.bl true) := by
      simp only [neM, rsv, okW, okWs_ints, okWs, Bool.and_self, if_true]
      rfl
    walk_at "den"
    simp only [e, Dn.R.bind, if_true, eFz, aFn, aCons, eVar, List.getElem?_cons_zero, aNil, listW, seqOf]
    rw [h2]
/-! ### a draw -/
theorem draw_ok (cs ls : List Int) (i k : Int) (x : W) (rest : Mem) (hc : 0 < cs.length) (hc2 : cs.length ≤ 63) (hl : ls.length = cs.length) (hi : 0 ≤ i) (hi2 : i < 900000) (hk : 0 < k) (hk2 : k < 1000000) :
    ∃ (v : Int) (ls' : List Int), 0 ≤ v ∧ v < k ∧ ls'.length = cs.length ∧ r__law_draw [.ref 1, .int k] (.lst (ls.map .int) :: dS cs i x :: rest) = .ok (.int v) (.lst (ls'.map .int) :: dS cs (i + 1) x :: rest) := by
  have hp0 := Int.emod_nonneg i (show ((cs.length : Nat) : Int) ≠ 0 by omega)
  have hp1 := Int.emod_lt_of_pos i (show (0 : Int) < ((cs.length : Nat) : Int) by omega)
  obtain ⟨left, e1⟩ := at_in ls (i % cs.length) hp0 (by omega)
  obtain ⟨cell, e2⟩ := at_in cs (i % cs.length) hp0 (by omega)
  have e3 := ixN_in ls.length (i % cs.length) hp0 (by omega)
  have m1 := fun c : Int => mixed_ok c i (.lst (ls.map .int) :: .dct (dSl cs (i + 1) x) :: rest) hi (by omega)
  have m2 := fun c : Int => mixed_ok c (40 + i) (.lst (ls.map .int) :: .dct (dSl cs (i + 1) x) :: rest) (by omega) (by omega)
  have m3 := fun c : Int => mixed_ok c (7 + i) (.lst (ls.map .int) :: .dct (dSl cs (i + 1) x) :: rest) (by omega) (by omega)
  have b1 := fun c k : Int => (mixI_lt c k).1
  have b2 := fun c k : Int => (mixI_lt c k).2
  have mm : ∀ a b : Int, mulW (.lst (ls.map .int) :: .dct (dSl cs (i + 1) x) :: rest) (.int (mixI a b)) (.int 2147483647) = some (.int (mixI a b * 2147483647)) := fun a b => mulW_i (by have := b1 a b; omega) (by have := b2 a b; omega)
  have hn : (cs.length : Int) ≠ 0 := by omega
  have md : ∀ m : Mem, modW m (.int i) (.int (cs.length : Nat)) = some (.int (i % cs.length)) := fun m => modW_i (by omega)
  by_cases hg : 0 < left
  · refine ⟨left % k, ls.set (i % cs.length).toNat (left / k), Int.emod_nonneg _ (by omega), Int.emod_lt_of_pos _ hk, by simp [hl], ?_⟩
    unfold r__law_draw d__law_draw s__law_draw_0 s__law_draw_1 s__law_draw_2 s__law_draw_3 s__law_draw_4 s__law_draw_5 s__law_draw_6 dS
    simp (disch := omega) only [runD, start2, sSeq, sSet, sRet, sIf, sNil, eVar, eC, eBin, eFn, eCall, eDget, dTest, aNil, aCons, Dn.R.bind, R.thenS, List.length_cons, List.length_nil, List.length_map, List.replicate, List.set, List.getElem?_cons_zero, List.getElem?_cons_succ, Nat.reduceAdd, Nat.zero_add, if_true, addW_i, intW_i, gtW_i, keyW_s, g_at, g_cells, g_lefts, p_at, sSub, setM, dSl_len, show (4 < 16777216) = True from by decide, lenW, seqOf, Option.map, md, ixM, e1, e2, hg, decide_true, fdivW_i, modW_i, e3]
    rw [List.map_set]
  · refine ⟨(mixI (mixI cell i) (40 + i) * 2147483647 + mixI (mixI (mixI cell i) (40 + i)) (7 + i)) / 64 % k, ls, Int.emod_nonneg _ (by omega), Int.emod_lt_of_pos _ hk, hl, ?_⟩
    · unfold r__law_draw d__law_draw s__law_draw_0 s__law_draw_1 s__law_draw_2 s__law_draw_3 s__law_draw_4 s__law_draw_5 s__law_draw_6 dS
      simp (disch := omega) only [runD, start2, sSeq, sSet, sRet, sIf, sNil, eVar, eC, eBin, eFn, eCall, eDget, dTest, aNil, aCons, Dn.R.bind, R.thenS, List.length_cons, List.length_nil, List.length_map, List.replicate, List.set, List.getElem?_cons_zero, List.getElem?_cons_succ, Nat.reduceAdd, Nat.zero_add, if_true, addW_i, intW_i, gtW_i, keyW_s, g_at, g_cells, g_lefts, p_at, sSub, setM, dSl_len, show (4 < 16777216) = True from by decide, lenW, seqOf, Option.map, md, ixM, e1, e2, hg, decide_false, Bool.false_eq_true, if_false, m1, m2, m3, mm, fdivW_i, modW_i]
end L

namespace L
open PySem PySem.Spec PyProof.Rows L2 Dn Rm
local macro_rules | `(tactic| wp_walk using $ts,*) => `(tactic| simp only [runD, start0, start1, start2, start3, start4, start5, sSeq, sSet, sRet, sExpr, sIf, sNil, sCont, sRetN, sPass, sBrk, sBad, sAsg, sSub, sFor, sPar, sAug, sPut, sPutA, eVar, eC, eBin, eFn, eCall, eAnd, eOr, eNot, eIf, eTup, eLst, eLstM, eIsi, eFz, eNw, aComp, iSeq, iEnumW, eFld, eMeth, eMake, eSl, oNone, oSome, eRev, eIdx, eChain, eApp, eFrz, dTest, dAnd, dOr, dNot, aNil, aCons, aStar, Dn.R.bind, R.thenS, List.length_cons, List.length_nil, List.length_map, List.replicate, List.set, List.getElem?_cons_zero, List.getElem?_cons_succ, List.cons_append, List.nil_append, Nat.reduceAdd, Nat.reduceSub, Nat.zero_add, if_true, if_false, Bool.false_eq_true, Bool.not_true, Bool.not_false, decide_true, decide_false, addW_i, subW_i, addI_i, intW_i, gtW_i, geW_i, ltW_i, leW_i, tupleW_l, tupleW_t, lenW_t, lenW_l, eqM_int, neM_int, inM_ints, inM_intsL, ixM_t, ixM_l, lstOf, seqOf, trkOf, wipeR, Nat.reduceLeDiff, rule0, rule1, rule2, rule3, rule4, rule5, rule6, gN, gT, gsCons, gsNil, Option.bind, GoesD, four_lt, and_self, Bool.and_true, Bool.true_and, Bool.and_false, Bool.false_and, Bool.or_true, Bool.true_or, Bool.or_false, Bool.false_or, $[$ts:term],*])
section
/-- the memory while something is drawn -/
def stM (cs ls : List Int) (i : Int) (rest : Mem) : Mem := .lst (ls.map .int) :: dS cs i (.int 0) :: rest
structure StOk (cs ls : List Int) (i : Int) : Prop where
  c0 : 0 < cs.length
  c63 : cs.length ≤ 63
  ll : ls.length = cs.length
  i0 : 0 ≤ i
theorem draw_st {cs ls : List Int} {i : Int} (h : StOk cs ls i) (hi : i < 800000) (k : Int) (hk : 0 < k) (hk2 : k < 1000000) (rest : Mem) :
    ∃ (v : Int) (ls' : List Int), 0 ≤ v ∧ v < k ∧ StOk cs ls' (i + 1) ∧ r__law_draw [.ref 1, .int k] (stM cs ls i rest) = .ok (.int v) (stM cs ls' (i + 1) rest) := by
  obtain ⟨v, l1, a1, b1, c1, e1⟩ := draw_ok cs ls i k (.int 0) rest h.c0 h.c63 h.ll h.i0 (by omega) hk hk2
  exact ⟨v, l1, a1, b1, ⟨h.c0, h.c63, c1, by have := h.i0; omega⟩, e1⟩
theorem two_of (a b : Str) (f : Bool → Str) (ht : f true = a) (hf : f false = b) (v : Int) (h0 : 0 ≤ v) (h1 : v < 2) : ∃ k : Bool, atI [W.str a, W.str b] v = some (.str (f k)) := by
  have : v = 0 ∨ v = 1 := by omega
  rcases this with rfl | rfl
  · exact ⟨true, by rw [ht]; exact atI_get (n := 0) rfl rfl⟩
  · exact ⟨false, by rw [hf]; exact atI_get (n := 1) rfl rfl⟩
theorem three_of (a b : Str) (f : Bool → Str) (hf : f false = a) (ht : f true = b) (v : Int) (h0 : 0 ≤ v) (h1 : v < 3) : ∃ k : Bool, atI [W.str a, W.str b, W.str b] v = some (.str (f k)) := by
  have : v = 0 ∨ v = 1 ∨ v = 2 := by omega
  rcases this with rfl | rfl | rfl
  · exact ⟨false, by rw [hf]; exact atI_get (n := 0) rfl rfl⟩
  · exact ⟨true, by rw [ht]; exact atI_get (n := 1) rfl rfl⟩
  · exact ⟨true, by rw [ht]; exact atI_get (n := 2) rfl rfl⟩
theorem back_of (v : Int) (h0 : 0 ≤ v) (h1 : v < 3) : ∃ k : Bk, atI [W.str "asks", W.str "old", W.str "tells"] v = some (.str k.s) := by
  have : v = 0 ∨ v = 1 ∨ v = 2 := by omega
  rcases this with rfl | rfl | rfl
  · exact ⟨.asks, atI_get (n := 0) rfl rfl⟩
  · exact ⟨.old, atI_get (n := 1) rfl rfl⟩
  · exact ⟨.tells, atI_get (n := 2) rfl rfl⟩
theorem up_range (n : Nat) : upFrom 0 n = (List.range n).map fun i => W.int (i : Nat) := by
  refine List.ext_getElem? fun i => ?_
  by_cases hi : i < n
  · rw [upFrom_get 0 _ i hi, List.getElem?_map, List.getElem?_range hi]
    simp
  · rw [List.getElem?_eq_none (by rw [upFrom_len]; omega), List.getElem?_eq_none (by simp; omega)]
theorem rng2_a : (-(2 ^ 62) ≤ (0 : Int) ∧ (0 : Int) < 2 ^ 62) := ⟨by omega, by omega⟩
theorem rng2_b (n : Nat) (hlen : n < 100000) : -(2 ^ 62) ≤ ((n : Nat) : Int) ∧ ((n : Nat) : Int) < 2 ^ 62 ∧ ((n : Nat) : Int) - 0 ≤ 16777216 := ⟨by omega, by omega, by omega⟩
theorem rng2_c (n : Nat) : (((n : Nat) : Int) - 0).toNat = n := by omega
theorem rng2_ok (n : Nat) (hlen : n < 100000) (m : Mem) (f g : DE) (r : Rho) (hf : f r m = .ok (.int 0) m) (hg : g r m = .ok (.int (n : Nat)) m) : iRng (aCons f (aCons g aNil)) r m = .ok ((List.range n).map fun k => W.int (k : Nat)) m := by
  simp only [iRng, aCons, aNil, hf, hg, Dn.R.bind]
  rw [if_pos ⟨rng2_a, rng2_b n hlen⟩, rng2_c, up_range]
theorem rng1_b (n : Nat) (hlen : n < 100000) : -(2 ^ 62) ≤ ((n : Nat) : Int) ∧ ((n : Nat) : Int) ≤ 16777216 := ⟨by omega, by omega⟩
theorem rng1_ok (n : Nat) (hlen : n < 100000) (m : Mem) (f : DE) (r : Rho) (hf : f r m = .ok (.int (n : Nat)) m) : iRng (aCons f aNil) r m = .ok ((List.range n).map fun k => W.int (k : Nat)) m := by
  simp only [iRng, aCons, aNil, hf, Dn.R.bind]
  rw [if_pos (rng1_b n hlen), Int.toNat_natCast, up_range]
theorem minW_i {m : Mem} {i j : Int} : minW m [.int i, .int j] = some (.int (min i j)) := by
  simp only [minW]
  first | rfl | (congr 2; omega) | (split <;> congr 2 <;> omega)
theorem lenW_o {m : Mem} {xs : List W} : lenW m [.old xs] = some (.int (xs.length : Nat)) := rfl
end
end L

/-! P31a: things that are no claims are refused. -/
namespace L
open PySem PySem.Spec PyProof.Rows L2 Dn Rm
local macro_rules | `(tactic| wp_walk using $ts,*) => `(tactic| simp only [runD, start0, start1, start2, start3, start4, start5, sSeq, sSet, sRet, sExpr, sIf, sNil, sCont, sRetN, sPass, sBrk, sBad, sAsg, sSub, sFor, sPar, sAug, sPut, sPutA, eVar, eC, eBin, eFn, eCall, eAnd, eOr, eNot, eIf, eTup, eLst, eLstM, eIsi, eFz, eNw, aComp, iSeq, iEnumW, eFld, eMeth, eMake, eSl, oNone, oSome, eRev, eIdx, eChain, eApp, eFrz, dTest, dAnd, dOr, dNot, aNil, aCons, aStar, Dn.R.bind, R.thenS, List.length_cons, List.length_nil, List.length_map, List.replicate, List.set, List.getElem?_cons_zero, List.getElem?_cons_succ, List.cons_append, List.nil_append, Nat.reduceAdd, Nat.reduceSub, Nat.zero_add, if_true, if_false, Bool.false_eq_true, Bool.not_true, Bool.not_false, decide_true, decide_false, addW_i, subW_i, addI_i, intW_i, gtW_i, geW_i, ltW_i, leW_i, tupleW_l, tupleW_t, lenW_t, lenW_l, eqM_int, neM_int, inM_ints, inM_intsL, ixM_t, ixM_l, lstOf, seqOf, trkOf, wipeR, Nat.reduceLeDiff, rule0, rule1, rule2, rule3, rule4, rule5, rule6, gN, gT, gsCons, gsNil, Option.bind, GoesD, four_lt, and_self, Bool.and_true, Bool.true_and, Bool.and_false, Bool.false_and, Bool.or_true, Bool.true_or, Bool.or_false, Bool.false_or, $[$ts:term],*])
section
variable {m : Mem}
theorem lof_ok {cs ls : List Int} {i : Int} (h : StOk cs ls i) (hi : i < 700000) (rest : Mem) (xs : List W) (hx : 0 < xs.length) (hx2 : xs.length < 1000) :
    ∃ (x : W) (ls' : List Int), x ∈ xs ∧ StOk cs ls' (i + 1) ∧ r__law_of [.ref 1, .lst xs] (stM cs ls i rest) = .ok x (stM cs ls' (i + 1) rest) := by
  obtain ⟨v, l1, a1, b1, h1, e1⟩ := draw_st h (by omega) ((xs.length : Nat) : Int) (by omega) (by omega) rest
  obtain ⟨n, rfl⟩ := Int.eq_ofNat_of_zero_le a1
  have hn : n < xs.length := by omega
  have ea : ∀ mm, ixM mm (.lst xs) (.int ((n : Nat) : Int)) = some (xs[n]) := fun _ => atI_get (n := n) rfl (List.getElem?_eq_getElem hn)
  refine ⟨xs[n], l1, List.getElem_mem hn, h1, ?_⟩
  unfold r__law_of d__law_of s__law_of_0
  simp only [runD, start2, sRet, eBin, eFn, aCons, aNil, eC, eVar, eCall, Dn.R.bind, R.thenS, List.length_cons, List.length_nil, List.replicate, List.getElem?_cons_zero, List.getElem?_cons_succ, Nat.reduceAdd, Nat.reduceLeDiff, if_true, lenW_l, e1, ea, Nat.zero_add, Nat.zero_le]
/-! ### the things -/
def isBadC (w : W) : Bool := match r_is_claim [w] [] with
  | .ok (.bl false) _ => true
  | _ => false
def oddsW : List W := match r__law_odds [] [] with
  | .ok (.lst l) _ => l
  | _ => []
theorem odds_ok : r__law_odds [] [] = .ok (.lst oddsW) [] := by kernel_rfl
theorem odds_all : oddsW.all (fun w => isBadC w && (gW w && rpB w)) = true := by kernel_rfl
/-- a thing that is no claim -/
structure Bad (w : W) : Prop where
  no : ∀ m : Mem, r_is_claim [w] m = .ok (.bl false) m
  g : gW w = true
  rp : ∀ m : Mem, reprW m [w] = some (.str (toD w).shown)
  ok : okW 60 (.str (toD w).shown) = true
  nr : ∀ m : Mem, rsv m w = w
theorem pw_any {g : Fw} {ws : List W} {w : W} (h : pw g ws [] = .ok w []) (m : Mem) : pw g ws m = .ok w m := by
  unfold pw at h ⊢
  split at h
  · rename_i hg
    rw [if_pos hg]
    cases q : g ws [] with
    | bad => rw [q] at h; cases h
    | exc x m1 =>
      rw [q] at h
      dsimp only at h
      split at h <;> cases h
    | ok v m1 =>
      rw [q] at h
      dsimp only at h ⊢
      split at h
      · cases h
        rfl
      · cases h
  · cases h
theorem bad_of {w : W} (h : w ∈ oddsW) : Bad w := by
  have q := List.all_eq_true.mp odds_all w h
  rw [Bool.and_eq_true_iff, Bool.and_eq_true_iff] at q
  obtain ⟨q1, q2, q3⟩ := q
  refine ⟨fun m => ?_, q2, rpB_repr q3, rpB_ok q3, rpB_nr q3⟩
  · unfold isBadC at q1
    split at q1
    · rename_i m0 e
      have e2 : m0 = [] := by
        unfold r_is_claim pw at e
        split at e
        · split at e
          · split at e
            · cases e; rfl
            · cases e
          · split at e <;> cases e
          · cases e
        · cases e
      subst e2
      exact pw_any e m
    · cases q1
theorem judged_bad {w p : W} (h : Bad w) (hp : gW p = true) : r_judged [w, p] m = .exc ⟨9, [("given", w)]⟩ m := by
  have e : runD 2 d_judged [w, p] [] = .exc ⟨9, [("given", w)]⟩ [] := by
    have q := h.no []
    unfold d_judged s_judged_0
    wp_walk using q, sRaise, List.zip, List.zipWith, List.reverse, List.reverseAux
  unfold r_judged pw
  rw [if_pos (by simp only [gWs, h.g, hp, Bool.and_self]), e]
  dsimp only
  simp only [frzF, frzW_g _ _ _ h.g]
  rfl
end
end L

/-! P31b: claims by hand; the law. -/
namespace L
open PySem PySem.Spec PyProof.Rows L2 Dn Rm
local macro_rules | `(tactic| wp_walk using $ts,*) => `(tactic| simp only [runD, start0, start1, start2, start3, start4, start5, sSeq, sSet, sRet, sExpr, sIf, sNil, sCont, sRetN, sPass, sBrk, sBad, sAsg, sSub, sFor, sPar, sAug, sPut, sPutA, eVar, eC, eBin, eFn, eCall, eAnd, eOr, eNot, eIf, eTup, eLst, eLstM, eIsi, eFz, eNw, aComp, iSeq, iEnumW, eFld, eMeth, eMake, eSl, oNone, oSome, eRev, eIdx, eChain, eApp, eFrz, dTest, dAnd, dOr, dNot, aNil, aCons, aStar, Dn.R.bind, R.thenS, List.length_cons, List.length_nil, List.length_map, List.replicate, List.set, List.getElem?_cons_zero, List.getElem?_cons_succ, List.cons_append, List.nil_append, Nat.reduceAdd, Nat.reduceSub, Nat.zero_add, if_true, if_false, Bool.false_eq_true, Bool.not_true, Bool.not_false, decide_true, decide_false, addW_i, subW_i, addI_i, intW_i, gtW_i, geW_i, ltW_i, leW_i, tupleW_l, tupleW_t, lenW_t, lenW_l, eqM_int, neM_int, inM_ints, inM_intsL, ixM_t, ixM_l, lstOf, seqOf, trkOf, wipeR, Nat.reduceLeDiff, rule0, rule1, rule2, rule3, rule4, rule5, rule6, gN, gT, gsCons, gsNil, Option.bind, GoesD, four_lt, and_self, Bool.and_true, Bool.true_and, Bool.and_false, Bool.false_and, Bool.or_true, Bool.true_or, Bool.or_false, Bool.false_or, $[$ts:term],*])
section
variable {m m1 : Mem} {fb : DE} {r : Rho}
theorem heard_good {w : W} (h : fb r m = .ok w m1) : eLam N__law_heard.length d__law_heard fb r m = .ok (.lst [.str "good", w]) m1 := by
  unfold eLam
  refine unR_of fun f => ?_
  have e : eCb f (fun m' => fb r m') [some (W.raw (V.ref f)), some .non, some .non, none] m = .ok w m1 := by
    unfold eCb
    simp only [List.getElem?_cons_zero, if_true, h]
  unfold d__law_heard
  wp_walk using startW, List.map_cons, List.map_nil, sTryV, e, isNonW
theorem heard_claim {w x : W} (h : fb r m = .exc ⟨9, [("given", w)]⟩ m1) (hr : ∀ M : Mem, reprW M [w] = some x) : eLam N__law_heard.length d__law_heard fb r m = .ok (.lst [.str "claim", x]) (m1 ++ [.exn 9 [("given", w)]]) := by
  unfold eLam
  refine unR_of fun f => ?_
  have e : eCb f (fun m' => fb r m') [some (W.raw (V.ref f)), some .non, some .non, none] m = .exc ⟨9, [("given", w)]⟩ m1 := by
    unfold eCb
    simp only [List.getElem?_cons_zero, if_true, h]
  have t1 : mtOf la_AskError_TooMany 9 = some true := rfl
  have t2 : mtOf l_BadClaim 9 = some true := rfl
  have t3 : cs_given.contains 9 = true := rfl
  have t4 : List.lookup ("given" : Str) [("given", w)] = some w := rfl
  unfold d__law_heard
  wp_walk using startW, List.map_cons, List.map_nil, sTryV, e, t1, Nat.reduceLT, isNonW, eIsX, exnOf_new, t2, eXk, t3, t4, hr
theorem heard_part {v : W} (h : fb r m = .exc ⟨5, [("part", v)]⟩ m1) : eLam N__law_heard.length d__law_heard fb r m = .ok (.lst [.str "paper", v]) (m1 ++ [.exn 5 [("part", v)]]) := by
  unfold eLam
  refine unR_of fun f => ?_
  have e : eCb f (fun m' => fb r m') [some (W.raw (V.ref f)), some .non, some .non, none] m = .exc ⟨5, [("part", v)]⟩ m1 := by
    unfold eCb
    simp only [List.getElem?_cons_zero, if_true, h]
  have t1 : mtOf la_AskError_TooMany 5 = some true := rfl
  have t2 : mtOf l_BadClaim 5 = some false := rfl
  have t5 : mtOf l_BadPaper 5 = some true := rfl
  have t3 : cs_part.contains 5 = true := rfl
  have t4 : List.lookup ("part" : Str) [("part", v)] = some v := rfl
  unfold d__law_heard
  wp_walk using startW, List.map_cons, List.map_nil, sTryV, e, t1, Nat.reduceLT, isNonW, eIsX, exnOf_new, t2, t5, eXk, t3, t4
end
end L

/-! P31c: claims by hand are judged. -/
namespace L
open PySem PySem.Spec PyProof.Rows L2 Dn Rm
local macro_rules | `(tactic| wp_walk using $ts,*) => `(tactic| simp only [runD, start0, start1, start2, start3, start4, start5, sSeq, sSet, sRet, sExpr, sIf, sNil, sCont, sRetN, sPass, sBrk, sBad, sAsg, sSub, sFor, sPar, sAug, sPut, sPutA, eVar, eC, eBin, eFn, eCall, eAnd, eOr, eNot, eIf, eTup, eLst, eLstM, eIsi, eFz, eNw, aComp, iSeq, iEnumW, eFld, eMeth, eMake, eSl, oNone, oSome, eRev, eIdx, eChain, eApp, eFrz, dTest, dAnd, dOr, dNot, aNil, aCons, aStar, Dn.R.bind, R.thenS, List.length_cons, List.length_nil, List.length_map, List.replicate, List.set, List.getElem?_cons_zero, List.getElem?_cons_succ, List.cons_append, List.nil_append, Nat.reduceAdd, Nat.reduceSub, Nat.zero_add, if_true, if_false, Bool.false_eq_true, Bool.not_true, Bool.not_false, decide_true, decide_false, addW_i, subW_i, addI_i, intW_i, gtW_i, geW_i, ltW_i, leW_i, tupleW_l, tupleW_t, lenW_t, lenW_l, eqM_int, neM_int, inM_ints, inM_intsL, ixM_t, ixM_l, lstOf, seqOf, trkOf, wipeR, Nat.reduceLeDiff, rule0, rule1, rule2, rule3, rule4, rule5, rule6, gN, gT, gsCons, gsNil, Option.bind, GoesD, four_lt, and_self, Bool.and_true, Bool.true_and, Bool.and_false, Bool.false_and, Bool.or_true, Bool.true_or, Bool.or_false, Bool.false_or, $[$ts:term],*])
section
variable {m m1 : Mem} {fb : DE} {r : Rho}
theorem pw_ok_any {g : Fw} {ws : List W} {w : W} {m0 : Mem} (h : pw g ws [] = .ok w m0) (m : Mem) : pw g ws m = .ok w m := by
  unfold pw at h ⊢
  split at h
  · rename_i hg
    rw [if_pos hg]
    cases q : g ws [] with
    | bad => rw [q] at h; cases h
    | exc x m1 =>
      rw [q] at h
      dsimp only at h
      split at h <;> cases h
    | ok v m1 =>
      rw [q] at h
      dsimp only at h ⊢
      split at h
      · cases h; rfl
      · cases h
  · cases h
theorem pw_exc_any {g : Fw} {ws : List W} {x : Exn} {m0 : Mem} (h : pw g ws [] = .exc x m0) (m : Mem) : pw g ws m = .exc x m := by
  unfold pw at h ⊢
  split at h
  · rename_i hg
    rw [if_pos hg]
    cases q : g ws [] with
    | bad => rw [q] at h; cases h
    | exc x m1 =>
      rw [q] at h
      dsimp only at h ⊢
      split at h
      · cases h; rfl
      · cases h
    | ok v m1 =>
      rw [q] at h
      dsimp only at h
      split at h <;> cases h
  · cases h
theorem seq_assoc (a b c : DS) : sSeq (sSeq a b) c = sSeq a (sSeq b c) := by
  funext r m
  unfold sSeq
  cases a r m <;> rfl
def handP : DS := (sSeq s__law_hand_right_0 (sSeq s__law_hand_right_1 (sSeq s__law_hand_right_2 (sSeq s__law_hand_right_3 (sSeq s__law_hand_right_4 (sSeq s__law_hand_right_5 (sSeq s__law_hand_right_6 (sSeq s__law_hand_right_7 (sSeq s__law_hand_right_8 (sSeq s__law_hand_right_9 (sSeq s__law_hand_right_10 (sSeq s__law_hand_right_11 (sSeq s__law_hand_right_12 (sSeq s__law_hand_right_13 (sSeq s__law_hand_right_14 (sSeq s__law_hand_right_15 (sSeq s__law_hand_right_16 (sSeq s__law_hand_right_17 (sSeq s__law_hand_right_18 (sSeq s__law_hand_right_19 (sSeq s__law_hand_right_20 (sSeq s__law_hand_right_21 (sSeq s__law_hand_right_22 (sSeq s__law_hand_right_23 (sSeq s__law_hand_right_24 (sSeq s__law_hand_right_25 (sSeq s__law_hand_right_26 s__law_hand_right_27)))))))))))))))))))))))))))
theorem d_hand : d__law_hand_right = sSeq handP s__law_hand_right_28 := by
  unfold d__law_hand_right handP
  simp only [seq_assoc]
def handR : Rho := match handP (startW 16 []) [] with
  | .next r _ => r
  | _ => []
def handM : Mem := match handP (startW 16 []) [] with
  | .next _ m => m
  | _ => []
def handN : Nat := match handR[3]? with
  | some (some (W.ref n)) => n
  | _ => 0
def rowsW : List W := match handM[handN]? with
  | some (Cell.lst l) => l
  | _ => []
theorem hand_start : handP (startW 16 []) [] = .next handR handM := by kernel_rfl
theorem hand_at : handR[3]? = some (some (.ref handN)) := by kernel_rfl
theorem hand_cell : handM[handN]? = some (.lst rowsW) := by kernel_rfl
theorem hand_len : handR.length = 16 := by
  have h : (handR.length == 16) = true := by kernel_rfl
  exact beq_iff_eq.mp h
def third (w : W) : W := match w with
  | .tup [_, _, d] => d
  | _ => .non
def dueB (w : W) : Bool := match w with
  | .tup [c, p, .lst [.str g, v]] => (match r_judged [c, p] [] with
    | .ok (.bl x) _ => (match v with
      | .bl y => x == y && g == "good"
      | _ => false)
    | .exc ⟨5, [("part", .str y)]⟩ _ => (match v with
      | .str z => y == z && g == "paper"
      | _ => false)
    | _ => false)
  | _ => false
theorem rows_a : (rowsW.take 18).all dueB = true := by kernel_rfl
theorem rows_b : ((rowsW.drop 18).take 1).all dueB = true := by kernel_rfl
theorem rows_c : ((rowsW.drop 18).drop 1).all dueB = true := by kernel_rfl
theorem rows_all : rowsW.all dueB = true := by
  rw [← List.take_append_drop 18 rowsW, List.all_append, rows_a, ← List.take_append_drop 1 (rowsW.drop 18), List.all_append, rows_b, rows_c]
  rfl
theorem rows_ok : okW 60 (.lst (rowsW.map third)) = true := by kernel_rfl
theorem row_ok {w : W} (h : dueB w = true) : ∃ c p, w = .tup [c, p, third w] ∧ ∀ (fb : DE) (r : Rho) (M : Mem), fb r M = r_judged [c, p] M → ∃ X, eLam N__law_heard.length d__law_heard fb r M = .ok (third w) (M ++ X) := by
  unfold dueB at h
  split at h
  · rename_i c p g v
    refine ⟨c, p, rfl, fun fb r M hf => ?_⟩
    split at h
    · rename_i x m0 e
      split at h
      · rename_i y
        rw [Bool.and_eq_true_iff, beq_iff_eq, beq_iff_eq] at h
        obtain ⟨rfl, rfl⟩ := h
        exact ⟨[], by rw [List.append_nil]; exact heard_good (hf.trans (pw_ok_any e M))⟩
      · cases h
    · rename_i y m0 e
      split at h
      · rename_i z
        rw [Bool.and_eq_true_iff, beq_iff_eq, beq_iff_eq] at h
        obtain ⟨rfl, rfl⟩ := h
        exact ⟨_, heard_part (hf.trans (pw_exc_any e M))⟩
      · cases h
    · cases h
  · cases h
theorem comp_rows : ∀ (L : List W) (r : Rho) (M : Mem), L.all dueB = true → r.length = 16 → ∃ X, compL (gT (gsCons (gN 12) (gsCons (gN 13) (gsCons (gN 14) gsNil)))) dYes (eLam N__law_heard.length d__law_heard (eCall 2 r_judged (aCons (eVar 12) (aCons (eVar 13) aNil)))) [12, 13, 14] L r M = .ok (L.map third) (M ++ X)
  | [], r, M, _, _ => ⟨[], by rw [List.append_nil]; rfl⟩
  | w :: L, r, M, h, hr => by
    rw [List.all_cons, Bool.and_eq_true_iff] at h
    obtain ⟨c, p, hw, hf⟩ := row_ok h.1
    have g0 : gT (gsCons (gN 12) (gsCons (gN 13) (gsCons (gN 14) gsNil))) w (wipeR r [12, 13, 14]) = some ((((wipeR r [12, 13, 14]).set 12 (some c)).set 13 (some p)).set 14 (some (third w))) := by
      generalize third w = t at hw
      subst hw
      rfl
    have q : eCall 2 r_judged (aCons (eVar 12) (aCons (eVar 13) aNil)) ((((wipeR r [12, 13, 14]).set 12 (some c)).set 13 (some p)).set 14 (some (third w))) M = r_judged [c, p] M := by
      have e12 : ((((wipeR r [12, 13, 14]).set 12 (some c)).set 13 (some p)).set 14 (some (third w)))[12]? = some (some c) := by simp [wipeR, hr]
      have e13 : ((((wipeR r [12, 13, 14]).set 12 (some c)).set 13 (some p)).set 14 (some (third w)))[13]? = some (some p) := by simp [wipeR, hr]
      simp only [eCall, aCons, aNil, eVar, e12, e13, Dn.R.bind, List.length_cons, List.length_nil, Nat.zero_add, Nat.reduceAdd, if_true]
    obtain ⟨X1, e1⟩ := hf _ _ M q
    obtain ⟨X2, e2⟩ := comp_rows L r (M ++ X1) h.2 hr
    refine ⟨X1 ++ X2, ?_⟩
    simp only [compL, g0, dYes, e1, e2, Dn.R.bind, List.map_cons, List.append_assoc]
theorem comp_thirds : ∀ (L : List W) (r : Rho) (M : Mem), L.all dueB = true → r.length = 16 → compL (gN 15) dYes (eBin ixM (eVar 15) (eC (.int 2))) [15] L r M = .ok (L.map third) M
  | [], r, M, _, _ => rfl
  | w :: L, r, M, h, hr => by
    rw [List.all_cons, Bool.and_eq_true_iff] at h
    obtain ⟨c, p, hw, _⟩ := row_ok h.1
    have e15 : ((wipeR r [15]).set 15 (some w))[15]? = some (some w) := by simp [wipeR, hr]
    have ix : ixM M w (.int 2) = some (third w) := by
      generalize third w = t at hw
      subst hw
      exact atI_get (n := 2) rfl rfl
    have q : eBin ixM (eVar 15) (eC (.int 2)) ((wipeR r [15]).set 15 (some w)) M = .ok (third w) M := by
      simp only [eBin, eVar, e15, eC, Dn.R.bind, ix]
    have e2 := comp_thirds L r M h.2 hr
    simp only [compL, gN, dYes, q, e2, Dn.R.bind, List.map_cons]
theorem hand_ok (m : Mem) : r__law_hand_right [] m = .ok (.bl true) m := by
  have hlt : handN < handM.length := (List.getElem?_eq_some_iff.mp hand_cell).1
  obtain ⟨X, e1⟩ := comp_rows rowsW handR (handM.set handN (.fz rowsW)) rows_all hand_len
  have a1 : eFrz 3 handR handM = .ok (.lst rowsW) (handM.set handN (.fz rowsW)) := by simp only [eFrz, hand_at, hand_cell]
  have c2 : (handM.set handN (.fz rowsW) ++ X)[handN]? = some (.fz rowsW) := by
    rw [List.getElem?_append_left (by rw [List.length_set]; exact hlt), List.getElem?_set_self hlt]
  have a2 : eFrz 3 handR (handM.set handN (.fz rowsW) ++ X) = .ok (.lst rowsW) (handM.set handN (.fz rowsW) ++ X) := by simp only [eFrz, hand_at, c2]
  have e2 := comp_thirds rowsW handR (handM.set handN (.fz rowsW) ++ X) rows_all hand_len
  have s : s__law_hand_right_28 handR handM = .ret (.bl true) (handM.set handN (.fz rowsW) ++ X) := by
    unfold s__law_hand_right_28
    simp only [sRet, eBin, eFz, aComp, iSeq, a1, e1, a2, e2, Dn.R.bind, eqM_same rows_ok, R.thenS]
  have e : runD 16 d__law_hand_right [] [] = .ok (.bl true) (handM.set handN (.fz rowsW) ++ X) := by
    unfold runD
    rw [d_hand, seqN hand_start, s]
  exact pw_ok rfl e rfl
end
end L

/-! P31d: the law of claims refused. -/
namespace L
open PySem PySem.Spec PyProof.Rows L2 Dn Rm
local macro_rules | `(tactic| wp_walk using $ts,*) => `(tactic| simp only [runD, start0, start1, start2, start3, start4, start5, sSeq, sSet, sRet, sExpr, sIf, sNil, sCont, sRetN, sPass, sBrk, sBad, sAsg, sSub, sFor, sPar, sAug, sPut, sPutA, eVar, eC, eBin, eFn, eCall, eAnd, eOr, eNot, eIf, eTup, eLst, eLstM, eIsi, eFz, eNw, aComp, iSeq, iEnumW, eFld, eMeth, eMake, eSl, oNone, oSome, eRev, eIdx, eChain, eApp, eFrz, dTest, dAnd, dOr, dNot, aNil, aCons, aStar, Dn.R.bind, R.thenS, List.length_cons, List.length_nil, List.length_map, List.replicate, List.set, List.getElem?_cons_zero, List.getElem?_cons_succ, List.cons_append, List.nil_append, Nat.reduceAdd, Nat.reduceSub, Nat.zero_add, if_true, if_false, Bool.false_eq_true, Bool.not_true, Bool.not_false, decide_true, decide_false, addW_i, subW_i, addI_i, intW_i, gtW_i, geW_i, ltW_i, leW_i, tupleW_l, tupleW_t, lenW_t, lenW_l, eqM_int, neM_int, inM_ints, inM_intsL, ixM_t, ixM_l, lstOf, seqOf, trkOf, wipeR, Nat.reduceLeDiff, rule0, rule1, rule2, rule3, rule4, rule5, rule6, gN, gT, gsCons, gsNil, Option.bind, GoesD, four_lt, and_self, Bool.and_true, Bool.true_and, Bool.and_false, Bool.false_and, Bool.or_true, Bool.true_or, Bool.or_false, Bool.false_or, $[$ts:term],*])
section
def papersW : List W := [.non, .tup [.str "kept"], .tup [.str "same"], .tup [], .tup [.str "broken", .tup []]]
theorem papers_g {p : W} (h : p ∈ papersW) : gW p = true := by
  simp only [papersW, List.mem_cons, List.mem_nil_iff, or_false] at h
  rcases h with rfl | rfl | rfl | rfl | rfl <;> rfl
theorem odds_len : oddsW.length < 100 := by
  have h : decide (oddsW.length < 100) = true := by kernel_rfl
  exact of_decide_eq_true h
theorem turn_ok {cs ls : List Int} {i : Int} (h : StOk cs ls i) (hi : i < 700000) (rest : Mem) {w : W} (hw : Bad w) (x0 x3 x4 : Option W) :
    ∃ ls' rest' b3 b4, StOk cs ls' (i + 1) ∧ b_law_0 [x0, some (.ref 1), some w, x3, x4] (stM cs ls i rest) = .next [x0, some (.ref 1), some w, b3, b4] (stM cs ls' (i + 1) rest') := by
  obtain ⟨p, l1, hp, h1, e1⟩ := lof_ok h hi rest papersW (by decide) (by decide)
  have hp' := papers_g hp
  refine ⟨l1, rest ++ [.exn 9 [("given", w)]], some p, some (.str (toD w).shown), h1, ?_⟩
  have j := judged_bad (m := stM cs l1 (i + 1) rest) hw hp'
  have q : eLam 4 d__law_heard (eCall 2 r_judged (aCons (eVar 2) (aCons (eVar 3) aNil))) [x0, some (.ref 1), some w, some p, some (.str (toD w).shown)] (stM cs l1 (i + 1) rest) = .ok (.lst [.str "claim", .str (toD w).shown]) (stM cs l1 (i + 1) (rest ++ [.exn 9 [("given", w)]])) := by
    have c : eCall 2 r_judged (aCons (eVar 2) (aCons (eVar 3) aNil)) [x0, some (.ref 1), some w, some p, some (.str (toD w).shown)] (stM cs l1 (i + 1) rest) = .exc ⟨9, [("given", w)]⟩ (stM cs l1 (i + 1) rest) := by
      simp only [eCall, aCons, aNil, eVar, List.getElem?_cons_zero, List.getElem?_cons_succ, Dn.R.bind, List.length_cons, List.length_nil, Nat.zero_add, Nat.reduceAdd, if_true, j]
    exact heard_claim c hw.rp
  have okl : okW 60 (.lst [.str "claim", .str (toD w).shown]) = true := by
    have ok := hw.ok
    simp only [okW, okWs] at ok ⊢
    rw [ok]
    kernel_rfl
  have n1 : ∀ M : Mem, neM M (.lst [.str "claim", .str (toD w).shown]) (.lst [.str "claim", .str (toD w).shown]) = some (.bl false) := fun M => neM_same okl
  have n2 : ∀ M : Mem, neS M (.str (toD w).shown) (.str (toD w).shown) = some (.bl false) := fun M => neS_same _
  have rp := hw.rp
  unfold papersW at e1
  unfold b_law_0
  wp_walk using e1, rp, q, n1, n2
theorem law_ok : LawOk (fun _ => 0) 63 r_law := fun ns h => by
  obtain ⟨cs, ls, hc, hc2, hl, e0⟩ := begin_ok ns h
  have st0 : StOk cs ls 0 := ⟨hc, hc2, hl, by decide⟩
  have e0' : r__law_begin [.old (ns.map .int)] [] = .ok (.ref 1) (stM cs ls 0 []) := e0
  obtain ⟨r', m', e1, ls', i', rest', a3, a4, a2, q1, q2, q3, q4⟩ := loop_pre (t := gN 2) (body := b_law_0) (fun w : W => w)
    (fun pre r1 m1 => ∃ ls' i' rest' a3 a4 a2, StOk cs ls' i' ∧ i' ≤ (pre.length : Int) ∧ r1 = [some (.old (ns.map .int)), some (.ref 1), a2, a3, a4] ∧ m1 = stM cs ls' i' rest')
    oddsW [some (.old (ns.map .int)), some (.ref 1), none, none, none] (stM cs ls 0 [])
    ⟨ls, 0, [], none, none, none, st0, by simp, rfl, rfl⟩
    (fun pre x post r1 m1 hx ⟨ls', i', rest', a3, a4, a2, q1, q2, q3, q4⟩ => by
      subst q3 q4
      have hp : pre.length < 100 := by
        have h1 := congrArg List.length hx
        have h2 := odds_len
        simp at h1
        omega
      have hm : x ∈ oddsW := by rw [hx]; simp
      obtain ⟨l1, rest1, b3, b4, s1, e1⟩ := turn_ok q1 (by omega) rest' (bad_of hm) (some (.old (ns.map .int))) a3 a4
      have g0 : gN 2 x [some (.old (ns.map .int)), some (.ref 1), a2, a3, a4] = some [some (.old (ns.map .int)), some (.ref 1), some x, a3, a4] := rfl
      unfold Steps
      rw [g0]
      show GoesD (b_law_0 _ _) _
      rw [e1]
      refine ⟨l1, i' + 1, rest1, b3, b4, _, s1, ?_, rfl, rfl⟩
      simp
      omega)
  subst q3 q4
  refine ⟨stM cs ls' i' rest', ?_⟩
  have s0 : s_law_0 [some (.old (ns.map .int)), none, none, none, none] [] = .next [some (.old (ns.map .int)), some (.ref 1), none, none, none] (stM cs ls 0 []) := by
    unfold s_law_0
    wp_walk using e0'
  have o : ∀ M : Mem, r__law_odds [] M = .ok (.lst oddsW) M := fun M => pw_ok_any odds_ok M
  have s1 : s_law_1 [some (.old (ns.map .int)), some (.ref 1), none, none, none] (stM cs ls 0 []) = .next [some (.old (ns.map .int)), some (.ref 1), a2, a3, a4] (stM cs ls' i' rest') := by
    unfold s_law_1
    have src : iSeq (eCall 0 r__law_odds aNil) [some (.old (ns.map .int)), some (.ref 1), none, none, none] (stM cs ls 0 []) = .ok (oddsW.map fun w => w) (stM cs ls 0 []) := by
      rw [List.map_id']
      simp only [iSeq, eCall, aNil, Dn.R.bind, List.length_nil, if_true, o]
    rw [sFor, src]
    exact e1
  have s2 : s_law_2 [some (.old (ns.map .int)), some (.ref 1), a2, a3, a4] (stM cs ls' i' rest') = .ret (.bl true) (stM cs ls' i' rest') := sRet_ok (eCall_ok (t := aNil) rfl rfl (hand_ok _))
  unfold r_law d_law
  rw [runD, start1]
  simp only [List.replicate]
  rw [seqN s0, seqN s1, s2]
end
end L

open PySem PySem.W PySem.Calls PyProof.Rows
theorem PySem.Challenge.cw_asklast_k31_claims_refused_holds : PySem.Challenge.rw_asklast_k31_claims_refused.Holds := by
  w_on; o_law
  refine HandSHeadRun.head_any (r := OpenLaw.row PySem.Challenge.rw_asklast_k31_claims_refused) (q := view (OpenLaw.row PySem.Challenge.rw_asklast_k31_claims_refused).prog [112]) (H := L.hk) (ob := L.ob) (M := 8000) (loose := L.nms) (d := HandSHeadRun.topDef (OpenLaw.row PySem.Challenge.rw_asklast_k31_claims_refused).prog 112) (kwd := []) L.ob_eq
    (by kernel_rfl) (fun s => by kernel_rfl) L.run (by kernel_rfl) (by kernel_rfl) (by kernel_rfl) (by rfl) (by first | assumption | decide +kernel) (by decide +kernel) ⟨rfl, rfl, rfl, rfl, rfl, by decide +kernel⟩ ?hw ?hc
  case hw => w_witness2
  case hc =>
    refine Dn.walkWT (l := PySem.Challenge.rw_asklast_k31_claims_refused) (k := 14) (x := "_law_script") (cl := L.cl) (tf := L.tfl) rfl (by kernel_rfl) ⟨⟨rfl, by decide, by decide⟩, rfl⟩ L.law_ok L.cl_tf (fun _ _ _ => trivial) ?F
    intro w mg fa h Y G hmg0
    obtain ⟨K, KX, c, tA⟩ := Y
    have hmg : mg ("law" : PySem.Str) = some (.ref fa) := by
      have e : (HandSHeadRun.topDef (OpenLaw.row PySem.Challenge.rw_asklast_k31_claims_refused).prog 112).name = ("law" : PySem.Str) := by kernel_rfl
      rw [← e]
      exact hmg0
    obtain ⟨fd, hb, hF⟩ := L.facts (P := (PySem.Challenge.rw_asklast_k31_claims_refused).prog) (w := w) KX G hmg c rfl (by kernel_rfl)
    exact ⟨K, fd, KX, tA, hb, hF⟩
