import PyProof.Rows.All
import Wide.All
import OpenK.AllK
import Wide.FinOn
import HandS.ForMost
import HandS.ForExc
import HandS.CallSlots
import HandS.Lambda
import HandS.Nested
import HandS.TupAny
import HandS.Deep
import HandS.Star
import HandS.Style
import HandS.Defaults
import HandS.IsInst
import HandS.Zip
import KE.GoesMore
import HandS.TupLe
import HandS.Head0
import HandS.Head1
import HandS.Head2
import HandS.HeadEnd
import HandS.HeadHook1
import HandS.HeadHook2
import HandS.TupMul
import HandS.Conv
import KE.SortData
import HandS.SortRule
import HandS.NoneIn
import PyProof.ReprRoads
import PyProof.CallFns
import PyProof.Rows.FactsT3
import KE.DataMinMax
import HandS.SortKw
import HandS.HeadHook3
import HandS.ExcInit
import HandS.ExcField
import HandS.TryMany
import KE.KExcSuper
import KE.DataMinKey
import HandS.FltList
import HandS.Flow
import HandS.ExcIs
import KE.KExcIs
import HandS.RaiseMore
import KE.KTryMore
import HandS.HeadHook4
import HandS.NestedK
import KE.KDflt
import HandS.SetKeys
import HandS.SetFor
import HandS.ReplaceLit
import HandS.Comp
import HandS.Exc
import HandS.Text
import PyProof.Rows.StrStep
import HandS.Property
import KE.SortKeyHeap
import KE.KSortKey
import KE.KExcInit
import PySem.Challenge.RW_asklast_k33_errors_by_hand
set_option Elab.async false
set_option linter.all false
set_option maxRecDepth 100000
set_option maxHeartbeats 4000000
namespace Dn
open PySem PySem.Spec PyProof.Rows L2
/-- a value as plain data: tuples and settled lists by their items; what may change by its number in the memory -/
inductive W where
  | non | bl (b : Bool) | int (i : Int) | str (x : Str)
  | tup (xs : List W) | lst (xs : List W) | old (xs : List W) | ref (n : Nat) | raw (v : V)
/-- an object of the memory: a list that may change, one that is settled, a dict, an instance of the class c -/
inductive Cell where
  | lst (xs : List W) | fz (xs : List W) | dct (kvs : List (Key × W)) | ins (c : Nat) (fs : List (Str × W))
  /-- a caught exception of the class c; a dict whose keys are tuples -/
  | exn (c : Nat) (fs : List (Str × W)) | dtt (kvs : List (List Key × W))
abbrev Mem := List Cell
structure Exn where
  cls : Nat
  fs : List (Str × W)
/-- how a run ends: a value, an error, or nothing is told -/
inductive R (α : Type) where
  | ok (a : α) (m : Mem) | exc (x : Exn) (m : Mem) | bad
abbrev Rho := List (Option W)
/-- how a statement ends -/
inductive RS where
  | next (r : Rho) (m : Mem) | brk (r : Rho) (m : Mem) | cont (r : Rho) (m : Mem) | ret (w : W) (m : Mem) | exc (x : Exn) (r : Rho) (m : Mem) | bad
abbrev DS := Rho → Mem → RS
/-- Z: lists that are settled; hold: what a loop of ours holds as it is; phi: where the memory's objects stand -/
structure Zn where
  Z : Addr → Prop
  hold : Addr → Prop
  phi : List Addr
def KList (K : PySem.W.Frag) (a : Addr) (xs : List V) : Prop :=
  ∃ (o : Obj) (its : Array Value) (n : Nat), K.lookup a = some o ∧ o.cls = .type "list" ∧ o.dict = none ∧ o.data = .seq its n ∧ its.size ≤ sizeLine ∧ Vals xs its.toList
/-- a list of the outside: the script, a module's own -/
def OldL (K : PySem.W.Frag) (H : Hp) (a : Addr) (xs : List V) : Prop := (∃ o, H a = some (.frz o (.lst xs))) ∨ KList K a xs
mutual
def RW (K : PySem.W.Frag) (z : Zn) (H : Hp) : W → V → Prop
  | .non, v => v = .non
  | .bl b, v => v = .bl b
  | .int i, v => v = .int i
  | .str x, v => v = .str x
  | .tup ws, v => ∃ a vs, v = .ref a ∧ SqT K H a vs ∧ RWs K z H ws vs
  | .lst ws, v => ∃ a vs, v = .ref a ∧ (z.Z a ∧ H a = some (.lst vs)) ∧ RWs K z H ws vs
  | .old ws, v => ∃ a vs, v = .ref a ∧ OldL K H a vs ∧ RWs K z H ws vs
  | .ref n, v => ∃ a, z.phi[n]? = some a ∧ v = .ref a
  | .raw u, v => v = u
def RWs (K : PySem.W.Frag) (z : Zn) (H : Hp) : List W → List V → Prop
  | [], vs => vs = []
  | w :: ws, vs => ∃ v r, vs = v :: r ∧ RW K z H w v ∧ RWs K z H ws r
end
/-- the heap goes on: tuples and settled lists stay, places stay -/
structure Ext0 (z : Zn) (H : Hp) (z' : Zn) (H' : Hp) : Prop where
  tups : ∀ a xs, H a = some (.tup xs) → H' a = some (.tup xs)
  frzs : ∀ a o u, H a = some (.frz o u) → H' a = some (.frz o u)
  zs : ∀ a, z.Z a → z'.Z a ∧ H' a = H a
  ph : ∀ (n : Nat) a, z.phi[n]? = some a → z'.phi[n]? = some a
  xts : ∀ a p, H a = some (.ext p) → H' a = some (.ext p)
/-- .. and what is held stays -/
structure Ext (z : Zn) (H : Hp) (z' : Zn) (H' : Hp) : Prop where
  e0 : Ext0 z H z' H'
  hs : ∀ a, z.hold a → z'.hold a ∧ H' a = H a
theorem Ext0.refl (z : Zn) (H : Hp) : Ext0 z H z H := ⟨fun _ _ h => h, fun _ _ _ h => h, fun _ h => ⟨h, rfl⟩, fun _ _ h => h, fun _ _ h => h⟩
theorem Ext0.trans {z z1 z2 : Zn} {H H1 H2 : Hp} (a : Ext0 z H z1 H1) (b : Ext0 z1 H1 z2 H2) : Ext0 z H z2 H2 :=
  ⟨fun c xs h => b.tups c xs (a.tups c xs h), fun c o u h => b.frzs c o u (a.frzs c o u h),
   fun c h => ⟨(b.zs c (a.zs c h).1).1, (b.zs c (a.zs c h).1).2.trans (a.zs c h).2⟩,
   fun n c h => b.ph n c (a.ph n c h), fun c p h => b.xts c p (a.xts c p h)⟩
theorem Ext.refl (z : Zn) (H : Hp) : Ext z H z H := ⟨Ext0.refl z H, fun _ h => ⟨h, rfl⟩⟩
theorem Ext.trans {z z1 z2 : Zn} {H H1 H2 : Hp} (a : Ext z H z1 H1) (b : Ext z1 H1 z2 H2) : Ext z H z2 H2 :=
  ⟨a.e0.trans b.e0, fun c h => ⟨(b.hs c (a.hs c h).1).1, (b.hs c (a.hs c h).1).2.trans (a.hs c h).2⟩⟩
section
variable {K : PySem.W.Frag} {z z' : Zn} {H H' : Hp}
theorem Ext0.sqT (e : Ext0 z H z' H') {a : Addr} {xs : List V} (h : SqT K H a xs) : SqT K H' a xs := by
  rcases h with (h | ⟨o, h⟩) | h
  · exact .inl (.inl (e.tups _ _ h))
  · exact .inl (.inr ⟨o, e.frzs _ _ _ h⟩)
  · exact .inr h
theorem Ext0.oldL (e : Ext0 z H z' H') {a : Addr} {xs : List V} (h : OldL K H a xs) : OldL K H' a xs := by
  rcases h with ⟨o, h⟩ | h
  · exact .inl ⟨o, e.frzs _ _ _ h⟩
  · exact .inr h
mutual
theorem RW.ext0 (e : Ext0 z H z' H') : ∀ {w : W} {v : V}, RW K z H w v → RW K z' H' w v
  | .non, _, h => h
  | .bl _, _, h => h
  | .int _, _, h => h
  | .str _, _, h => h
  | .tup ws, _, ⟨a, vs, h1, h2, h3⟩ => ⟨a, vs, h1, e.sqT h2, RWs.ext0 e h3⟩
  | .lst ws, _, ⟨a, vs, h1, h2, h3⟩ => ⟨a, vs, h1, ⟨(e.zs a h2.1).1, (e.zs a h2.1).2.trans h2.2⟩, RWs.ext0 e h3⟩
  | .old ws, _, ⟨a, vs, h1, h2, h3⟩ => ⟨a, vs, h1, e.oldL h2, RWs.ext0 e h3⟩
  | .ref n, _, ⟨a, h1, h2⟩ => ⟨a, e.ph n a h1, h2⟩
  | .raw _, _, h => h
theorem RWs.ext0 (e : Ext0 z H z' H') : ∀ {ws : List W} {vs : List V}, RWs K z H ws vs → RWs K z' H' ws vs
  | [], _, h => h
  | _ :: _, _, ⟨v, r, h1, h2, h3⟩ => ⟨v, r, h1, RW.ext0 e h2, RWs.ext0 e h3⟩
end
theorem RW.ext (e : Ext z H z' H') {w : W} {v : V} (h : RW K z H w v) : RW K z' H' w v := h.ext0 e.e0
theorem RWs.ext (e : Ext z H z' H') {ws : List W} {vs : List V} (h : RWs K z H ws vs) : RWs K z' H' ws vs := h.ext0 e.e0
theorem RWs.length : ∀ {ws : List W} {vs : List V}, RWs K z H ws vs → vs.length = ws.length
  | [], _, h => by cases h; rfl
  | _ :: _, _, ⟨v, r, h1, h2, h3⟩ => by subst h1; simp [RWs.length h3]
theorem RWs.get : ∀ {ws : List W} {vs : List V} {i : Nat} {w : W}, RWs K z H ws vs → ws[i]? = some w → ∃ v, vs[i]? = some v ∧ RW K z H w v
  | [], _, _, _, _, e => by simp at e
  | _ :: _, _, 0, _, ⟨v, r, h1, h2, _⟩, e => by subst h1; simp at e; subst e; exact ⟨v, rfl, h2⟩
  | _ :: ws, _, i + 1, _, ⟨v, r, h1, _, h3⟩, e => by
    subst h1
    obtain ⟨u, q1, q2⟩ := RWs.get (i := i) h3 (by simpa using e)
    exact ⟨u, by simpa using q1, q2⟩
end
/-- fields, dicts: the same names, the values related -/
def RFs (K : PySem.W.Frag) (z : Zn) (H : Hp) {α : Type} : List (α × W) → List (α × V) → Prop
  | [], vs => vs = []
  | (k, w) :: ws, vs => ∃ v r, vs = (k, v) :: r ∧ RW K z H w v ∧ RFs K z H ws r
section
variable {K : PySem.W.Frag} {z z' : Zn} {H H' : Hp} {α : Type}
theorem RFs.ext0 (e : Ext0 z H z' H') : ∀ {ws : List (α × W)} {vs : List (α × V)}, RFs K z H ws vs → RFs K z' H' ws vs
  | [], _, h => h
  | (k, w) :: _, _, ⟨v, r, h1, h2, h3⟩ => ⟨v, r, h1, h2.ext0 e, RFs.ext0 e h3⟩
theorem RFs.ext (e : Ext z H z' H') {ws : List (α × W)} {vs : List (α × V)} (h : RFs K z H ws vs) : RFs K z' H' ws vs := h.ext0 e.e0
theorem RFs.length : ∀ {ws : List (α × W)} {vs : List (α × V)}, RFs K z H ws vs → vs.length = ws.length
  | [], _, h => by cases h; rfl
  | (k, w) :: _, _, ⟨v, r, h1, h2, h3⟩ => by subst h1; simp [RFs.length h3]
theorem RFs.lookup [BEq α] {k : α} : ∀ {ws : List (α × W)} {vs : List (α × V)} {w : W}, RFs K z H ws vs → ws.lookup k = some w → ∃ v, vs.lookup k = some v ∧ RW K z H w v
  | [], _, _, _, e => by simp at e
  | (j, w) :: _, _, w', ⟨v, r, h1, h2, h3⟩, e => by
    subst h1
    rw [List.lookup_cons] at e ⊢
    cases q : k == j with
    | true => rw [q] at e; simp at e; subst e; exact ⟨v, rfl, h2⟩
    | false => rw [q] at e; exact RFs.lookup h3 (by simpa using e)
end
/-- the classes by number, the tables of code objects and the names in them, what else is known as the heap goes on -/
structure Clz where
  at_ : Nat → Addr
  T : List (Addr × (Nat → Nat → Str))
  G : Zn → Hp → Prop
  gx : ∀ {z : Zn} {H : Hp} {z' : Zn} {H' : Hp}, Ext0 z H z' H' → G z H → G z' H'
instance : CoeFun Clz (fun _ => Nat → Addr) := ⟨Clz.at_⟩
instance : Coe Clz (Nat → Addr) := ⟨Clz.at_⟩
abbrev Clz.of (f : Nat → Addr) : Clz := ⟨f, [], fun _ _ => True, fun _ h => h⟩
/-- with more that is known -/
abbrev Clz.and (cl : Clz) (G : Zn → Hp → Prop) (gx : ∀ {z : Zn} {H : Hp} {z' : Zn} {H' : Hp}, Ext0 z H z' H' → G z H → G z' H') : Clz := ⟨cl.at_, cl.T, fun z H => cl.G z H ∧ G z H, fun e h => ⟨cl.gx e h.1, gx e h.2⟩⟩
def NX (o : HO) : Prop := (∀ fs, o ≠ .xd fs) ∧ ∀ ps, o ≠ .tbl ps
/-- a thing that is there -/
def hereO (a : Addr) : HO := .ext fun h => ∃ o, h.get? a = some o
def CellOk (K : PySem.W.Frag) (cl : Clz) (z : Zn) (H : Hp) (a : Addr) : Cell → Prop
  | .lst ws => ¬ z.Z a ∧ ¬ z.hold a ∧ ∃ vs, H a = some (.lst vs) ∧ RWs K z H ws vs
  | .fz ws => z.Z a ∧ ∃ vs, H a = some (.lst vs) ∧ RWs K z H ws vs
  | .dct kvs => ¬ z.hold a ∧ ∃ vs, H a = some (.dK vs) ∧ RFs K z H kvs vs
  | .ins c fs => ¬ z.hold a ∧ ∃ dx vs, H a = some (.ins (cl c) dx vs) ∧ RFs K z H fs vs
  | .exn c fs => ¬ z.hold a ∧ ∃ (oe od : Obj) (d : Addr) (us : Array Value) (vs : List (Str × V)), H a = some (.frz oe (hereO a)) ∧ (oe.cls = .ref (cl c) ∧ oe.dict = some d ∧ oe.data = .fields us) ∧ H d = some (.frz od (.xd vs)) ∧ RFs K z H fs vs
  | .dtt kvs => ¬ z.hold a ∧ ∃ vs, H a = some (.dT vs) ∧ RFs K z H kvs vs
theorem CellOk.thereX {K : PySem.W.Frag} {cl : Clz} {z : Zn} {H : Hp} {a : Addr} {c : Cell} (h : CellOk K cl z H a c) : ∃ o, H a = some o ∧ NX o := by
  cases c with
  | lst ws => obtain ⟨_, _, vs, e, _⟩ := h; exact ⟨_, e, ⟨fun _ q => (by cases q), fun _ q => (by cases q)⟩⟩
  | fz ws => obtain ⟨_, vs, e, _⟩ := h; exact ⟨_, e, ⟨fun _ q => (by cases q), fun _ q => (by cases q)⟩⟩
  | dct kvs => obtain ⟨_, vs, e, _⟩ := h; exact ⟨_, e, ⟨fun _ q => (by cases q), fun _ q => (by cases q)⟩⟩
  | ins c fs => obtain ⟨_, dx, vs, e, _⟩ := h; exact ⟨_, e, ⟨fun _ q => (by cases q), fun _ q => (by cases q)⟩⟩
  | exn c fs => obtain ⟨_, oe, od, d, us, vs, e, _⟩ := h; exact ⟨_, e, ⟨fun _ q => (by cases q), fun _ q => (by cases q)⟩⟩
  | dtt kvs => obtain ⟨_, vs, e, _⟩ := h; exact ⟨_, e, ⟨fun _ q => (by cases q), fun _ q => (by cases q)⟩⟩
theorem CellOk.there {K : PySem.W.Frag} {cl : Clz} {z : Zn} {H : Hp} {a : Addr} {c : Cell} (h : CellOk K cl z H a c) : ∃ o, H a = some o := by
  cases c with
  | lst ws => obtain ⟨_, _, vs, e, _⟩ := h; exact ⟨_, e⟩
  | fz ws => obtain ⟨_, vs, e, _⟩ := h; exact ⟨_, e⟩
  | dct kvs => obtain ⟨_, vs, e, _⟩ := h; exact ⟨_, e⟩
  | ins c fs => obtain ⟨_, dx, vs, e, _⟩ := h; exact ⟨_, e⟩
  | exn c fs => obtain ⟨_, oe, od, d, us, vs, e, _⟩ := h; exact ⟨_, e⟩
  | dtt kvs => obtain ⟨_, vs, e, _⟩ := h; exact ⟨_, e⟩
structure MemOk (K : PySem.W.Frag) (cl : Clz) (z : Zn) (m : Mem) (H : Hp) : Prop where
  len : z.phi.length = m.length
  nd : z.phi.Nodup
  sep : ∀ a, z.Z a → ¬ z.hold a
  lz : ∀ a, z.Z a → ∃ xs, H a = some (.lst xs)
  lh : ∀ a, z.hold a → ∃ o, H a = some o ∧ NX o
  cells : ∀ (n : Nat) a c, z.phi[n]? = some a → m[n]? = some c → CellOk K cl z H a c
  tb : NdefX.TabsN cl.T H
  gh : cl.G z H
def SlotsOk (K : PySem.W.Frag) (z : Zn) (H : Hp) (r : Rho) (s : L2.St) : Prop :=
  r.length = s.length ∧ ∀ (i : Nat) w, r[i]? = some (some w) → ∃ v, s[i]? = some (some v) ∧ RW K z H w v
structure Rel (K : PySem.W.Frag) (cl : Clz) (z : Zn) (r : Rho) (m : Mem) (s : L2.St) (H : Hp) : Prop where
  slots : SlotsOk K z H r s
  mem : MemOk K cl z m H
section
variable {K : PySem.W.Frag} {cl : Clz} {z z' : Zn} {H H' : Hp} {m : Mem} {r : Rho} {s : L2.St} {p : Addr} {o : HO}
theorem SlotsOk.ext0 (e : Ext0 z H z' H') (h : SlotsOk K z H r s) : SlotsOk K z' H' r s :=
  ⟨h.1, fun i w q => let ⟨v, q1, q2⟩ := h.2 i w q; ⟨v, q1, q2.ext0 e⟩⟩
theorem SlotsOk.ext (e : Ext z H z' H') (h : SlotsOk K z H r s) : SlotsOk K z' H' r s := h.ext0 e.e0
/-- all that is tracked stays -/
theorem MemOk.extS (M : MemOk K cl z m H) (hs : Same H H') : Ext z H z H' :=
  ⟨⟨fun a xs e => hs _ _ e, fun a ob u e => hs _ _ e, fun a q => ⟨q, by obtain ⟨xs, e⟩ := M.lz a q; rw [e]; exact hs _ _ e⟩, fun _ _ q => q, fun a p e => hs _ _ e⟩, fun a q => ⟨q, by obtain ⟨xs, e, _⟩ := M.lh a q; rw [e]; exact hs _ _ e⟩⟩
theorem CellOk.same {a : Addr} {c : Cell} (e : Ext z H z H') (hs : Same H H') (h : CellOk K cl z H a c) : CellOk K cl z H' a c := by
  cases c with
  | lst ws => obtain ⟨n1, n2, vs, q, r⟩ := h; exact ⟨n1, n2, vs, hs _ _ q, r.ext e⟩
  | fz ws => obtain ⟨n1, vs, q, r⟩ := h; exact ⟨n1, vs, hs _ _ q, r.ext e⟩
  | dct kvs => obtain ⟨n, vs, q, r⟩ := h; exact ⟨n, vs, hs _ _ q, r.ext e⟩
  | ins c fs => obtain ⟨n, dx, vs, q, r⟩ := h; exact ⟨n, dx, vs, hs _ _ q, r.ext e⟩
  | exn c fs => obtain ⟨n, oe, od, d, us, vs, q, q2, q3, r⟩ := h; exact ⟨n, oe, od, d, us, vs, hs _ _ q, q2, hs _ _ q3, r.ext e⟩
  | dtt kvs => obtain ⟨n, vs, q, r⟩ := h; exact ⟨n, vs, hs _ _ q, r.ext e⟩
theorem MemOk.same (M : MemOk K cl z m H) (hs : Same H H') : MemOk K cl z m H' :=
  ⟨M.len, M.nd, M.sep, fun a q => let ⟨xs, e⟩ := M.lz a q; ⟨xs, hs _ _ e⟩, fun a q => let ⟨xs, e, n⟩ := M.lh a q; ⟨xs, hs _ _ e, n⟩,
   fun n a c h1 h2 => (M.cells n a c h1 h2).same (M.extS hs) hs, M.tb.ext hs, cl.gx (M.extS hs).e0 M.gh⟩
theorem Rel.same (h : Rel K cl z r m s H) (hs : Same H H') : Rel K cl z r m s H' := ⟨h.slots.ext (h.mem.extS hs), h.mem.same hs⟩
theorem Rel.after (h : Rel K cl z r m s H) {m' : Mem} (e : Ext z H z' H') (M : MemOk K cl z' m' H') : Rel K cl z' r m' s H' := ⟨h.slots.ext e, M⟩
/-- a new list is settled -/
abbrev Zn.fz (z : Zn) (p : Addr) : Zn := { z with Z := fun a => a = p ∨ z.Z a }
/-- .. is held, no longer held -/
abbrev Zn.hd (z : Zn) (p : Addr) : Zn := { z with hold := fun a => a = p ∨ z.hold a }
theorem CellOk.ext2 {a : Addr} {c : Cell} (e : Ext0 z H z' H') (hz : z'.Z a ↔ z.Z a) (hh : z'.hold a → z.hold a) (hs : H' a = H a) (h : CellOk K cl z H a c) : CellOk K cl z' H' a c := by
  cases c with
  | lst ws => obtain ⟨n1, n2, vs, q, r⟩ := h; exact ⟨fun x => n1 (hz.mp x), fun x => n2 (hh x), vs, hs.trans q, r.ext0 e⟩
  | fz ws => obtain ⟨n1, vs, q, r⟩ := h; exact ⟨hz.mpr n1, vs, hs.trans q, r.ext0 e⟩
  | dct kvs => obtain ⟨n, vs, q, r⟩ := h; exact ⟨fun x => n (hh x), vs, hs.trans q, r.ext0 e⟩
  | ins c fs => obtain ⟨n, dx, vs, q, r⟩ := h; exact ⟨fun x => n (hh x), dx, vs, hs.trans q, r.ext0 e⟩
  | exn c fs => obtain ⟨n, oe, od, d, us, vs, q, q2, q3, r⟩ := h; exact ⟨fun x => n (hh x), oe, od, d, us, vs, hs.trans q, q2, e.frzs _ _ _ q3, r.ext0 e⟩
  | dtt kvs => obtain ⟨n, vs, q, r⟩ := h; exact ⟨fun x => n (hh x), vs, hs.trans q, r.ext0 e⟩
end
end Dn
namespace Dn
open PySem PySem.Spec PyProof.Rows L2
/-- an error in the air -/
def XnOk (K : PySem.W.Frag) (cl : Clz) (z : Zn) (H : Hp) (x : Exn) (c : Value) (d : Option Addr) : Prop :=
  c = .ref (cl x.cls) ∧ ∃ dd fs, d = some dd ∧ H dd = some (.xd fs) ∧ RFs K z H x.fs fs
/-- what is the same for all parts of a body: the written part, the classes by number, the wish about errors -/
structure Gx where
  K : PySem.W.Frag
  cl : Clz
  Wx : WX
def Post {α β : Type} (g : Gx) (rel : Zn → Hp → α → β → Prop) (z : Zn) (H : Hp) (r : Rho) (s : L2.St) (q : R α) (Q : β → Hp → Prop) : Prop :=
  match q with
  | .ok a m => ∀ z' b H', Ext z H z' H' → Rel g.K g.cl z' r m s H' → rel z' H' a b → Q b H'
  | .exc x m => ∀ z' H' c d, Ext z H z' H' → Rel g.K g.cl z' r m s H' → XnOk g.K g.cl z' H' x c d → g.Wx c d s H'
  | .bad => False
section
variable {α β γ δ : Type} {g : Gx} {rel : Zn → Hp → α → β → Prop} {rel2 : Zn → Hp → γ → δ → Prop} {z z1 : Zn} {H H1 : Hp} {r : Rho} {s : L2.St} {Q : δ → Hp → Prop} {Q1 : β → Hp → Prop}
/-- the value is told: nothing happens -/
theorem Post.ret {a : γ} {b : δ} {m : Mem} (h : Post g rel2 z H r s (.ok a m) Q) (R : Rel g.K g.cl z r m s H) (q : rel2 z H a b) : Q b H := h z b H (Ext.refl _ _) R q
end
section
variable {X : Cx} {cl : Clz} {Wx : WX} {e a b : Expr} {pos : Pos}
abbrev gx (X : Cx) (cl : Clz) (Wx : WX) : Gx := ⟨X.K, cl, Wx⟩
def OpW (K : PySem.W.Frag) (cl : Clz) (o : Mem → W → W → Option W) (r : R2) : Prop := ∀ (z : Zn) (m : Mem) (H : Hp) (a b : W) (x y : V) (w : W) (Q : VK), MemOk K cl z m H → RW K z H a x → RW K z H b y → o m a b = some w →
  (∀ z' v H', Ext z H z' H' → MemOk K cl z' m H' → RW K z' H' w v → Q v H') → r x y H Q
theorem OpW.or {K : PySem.W.Frag} {o : Mem → W → W → Option W} {o1 o2 : Mem → W → W → Option W} {r1 r2 : R2} (h1 : OpW K cl o1 r1) (h2 : OpW K cl o2 r2) (h : ∀ m a b w, o m a b = some w → o1 m a b = some w ∨ o2 m a b = some w) :
    OpW K cl o (fun x y H Q => r1 x y H Q ∨ r2 x y H Q) := fun z m H a b x y w Q M ra rb e k => (h m a b w e).elim (fun e => .inl (h1 z m H a b x y w Q M ra rb e k)) fun e => .inr (h2 z m H a b x y w Q M ra rb e k)
theorem MemOk.at {K : PySem.W.Frag} {z : Zn} {m : Mem} {H : Hp} {n : Nat} {a : Addr} (M : MemOk K cl z m H) (h : z.phi[n]? = some a) : ∃ c, m[n]? = some c ∧ CellOk K cl z H a c := by
  have hn : n < m.length := by rw [← M.len]; exact (List.getElem?_eq_some_iff.mp h).1
  exact ⟨m[n], List.getElem?_eq_getElem hn, M.cells n a _ h (List.getElem?_eq_getElem hn)⟩
end
end Dn
namespace Dn
open PySem PySem.Spec PyProof.Rows L2
def PostS (g : Gx) (z : Zn) (H : Hp) (q : RS) (D : Ends) : Prop :=
  match q with
  | .next r m => ∀ z' s' H', Ext z H z' H' → Rel g.K g.cl z' r m s' H' → D.nx s' H'
  | .brk r m => ∀ z' s' H', Ext z H z' H' → Rel g.K g.cl z' r m s' H' → D.bk s' H'
  | .cont r m => ∀ z' s' H', Ext z H z' H' → Rel g.K g.cl z' r m s' H' → D.ct s' H'
  | .ret w m => ∀ z' v H', Ext z H z' H' → MemOk g.K g.cl z' m H' → RW g.K z' H' w v → D.rt v H'
  | .exc x r m => ∀ z' s' H' c d, Ext z H z' H' → Rel g.K g.cl z' r m s' H' → XnOk g.K g.cl z' H' x c d → g.Wx c d s' H'
  | .bad => False
section
variable {α β : Type} {g : Gx} {rel : Zn → Hp → α → β → Prop} {z z1 : Zn} {H H1 : Hp} {r : Rho} {s : L2.St} {D : Ends} {Q1 : β → Hp → Prop}
theorem PostS.next {m : Mem} (h : PostS g z H (.next r m) D) (R : Rel g.K g.cl z r m s H) : D.nx s H := h z s H (Ext.refl _ _) R
end
section
variable {X : Cx} {cl : Clz} {Wx : WX} {e a b : Expr} {pos : Pos} {st : Stmt}
abbrev DG := W → Rho → Option Rho
/-- the slots but those in js are as they were -/
def Agree (js : List Nat) (s s' : L2.St) : Prop := s'.length = s.length ∧ ∀ i : Nat, i ∉ js → s'[i]? = s[i]?
theorem Agree.refl (js : List Nat) (s : L2.St) : Agree js s s := ⟨rfl, fun _ _ => rfl⟩
theorem Agree.trans {js ks : List Nat} {s s1 s2 : L2.St} (a : Agree js s s1) (b : Agree ks s1 s2) : Agree (js ++ ks) s s2 :=
  ⟨b.1.trans a.1, fun i h => (b.2 i fun q => h (List.mem_append_right _ q)).trans (a.2 i fun q => h (List.mem_append_left _ q))⟩
theorem _root_.L2.PI.or {tg : Expr} {t t' : TI} (h : PI X tg e t) (h' : PI X tg e t') : PI X tg e (fun s H Rr => t s H Rr ∨ t' s H Rr) := ⟨fun pins sh s H Rr I q => q.elim (fun q => h.run pins sh s H Rr I q) fun q => h'.run pins sh s H Rr I q⟩
def loop (t : DG) (body : DS) : List W → Rho → Mem → RS
  | [], r, m => .next r m
  | w :: ws, r, m => match t w r with
    | none => .bad
    | some r1 => match body r1 m with
      | .next r2 m2 => loop t body ws r2 m2
      | .cont r2 m2 => loop t body ws r2 m2
      | .brk r2 m2 => .next r2 m2
      | .ret u m2 => .ret u m2
      | .exc x r2 m2 => .exc x r2 m2
      | .bad => .bad
end
end Dn
namespace Dn
open PySem PySem.Spec PyProof.Rows L2
def PostF (K : PySem.W.Frag) (cl : Clz) (z : Zn) (H : Hp) (q : R W) (Q : VK) (E : XK) : Prop :=
  match q with
  | .ok w m => ∀ z' v H', Ext z H z' H' → MemOk K cl z' m H' → RW K z' H' w v → Q v H'
  | .exc x m => ∀ z' H' c d, Ext z H z' H' → MemOk K cl z' m H' → XnOk K cl z' H' x c d → E c d H'
  | .bad => False
section
variable {P : Program} {w : World} {K : PySem.W.Frag} {mg : Str → Option Value} {base : Heap} {cl : Clz} {x qual : Str} {params : Arguments} {body : List Stmt} {scope : Scope} {kws : List (Str × V)} {f : Addr} {fd : FuncData}
end
section
variable {X : Cx} {cl : Clz} {Wx : WX} {e a b : Expr} {pos : Pos}
theorem PostF.of {K : PySem.W.Frag} {z : Zn} {H : Hp} {r : Rho} {s : L2.St} {q : R W} {Q : VK} {m : Mem} (R : Rel K cl z r m s H) (h : Post ⟨K, cl, Wx⟩ (RW K) z H r s q Q) : PostF K cl z H q Q (WE Wx s) := by
  cases q with
  | ok w m1 => exact fun z' v H' e M rw' => h z' v H' e (R.after e M) rw'
  | exc x m1 => exact fun z' H' c d e M xn => h z' H' c d e (R.after e M) xn
  | bad => exact h
/-- hold what is no one's -/
theorem MemOk.hold {K : PySem.W.Frag} {z : Zn} {m : Mem} {H : Hp} {p : Addr} {o : HO} (M : MemOk K cl z m H) (e : H p = some o) (n1 : ¬ z.Z p) (n3 : p ∉ z.phi) (nx : NX o := by exact ⟨fun _ q => (by cases q), fun _ q => (by cases q)⟩) : MemOk K cl (z.hd p) m H ∧ Ext z H (z.hd p) H := by
  have e0 : Ext z H (z.hd p) H := ⟨⟨fun _ _ h => h, fun _ _ _ h => h, fun _ h => ⟨h, rfl⟩, fun _ _ h => h, fun _ _ h => h⟩, fun _ h => ⟨.inr h, rfl⟩⟩
  refine ⟨⟨M.len, M.nd, ?_, M.lz, ?_, fun n a c h1 h2 => ?_, M.tb, cl.gx e0.e0 M.gh⟩, e0⟩
  · rintro a hz (q | q)
    · subst q; exact n1 hz
    · exact M.sep a hz q
  · rintro a (q | q)
    · subst q; exact ⟨_, e, nx⟩
    · exact M.lh a q
  · refine (M.cells n a c h1 h2).ext2 e0.e0 Iff.rfl ?_ rfl
    rintro (q | q)
    · exact absurd (q ▸ List.mem_of_getElem? h1) n3
    · exact q
end
end Dn
namespace Dn
open PySem PySem.Spec PyProof.Rows L2
section
variable {X : Cx} {cl : Clz} {Wx : WX} {e a b : Expr} {pos : Pos}
section
variable {o : Mem → List W → Option W} {oN : Mem → List W → Option (List W)} {rr : List V → Hp → VK → Prop} {id T : String} {x : Str} {p : Pos} {es : List Expr} {t : DA}
end
section
variable {K : PySem.W.Frag}
theorem RWs.one {z : Zn} {H : Hp} {w : W} {vs : List V} (h : RWs K z H [w] vs) : ∃ v, vs = [v] ∧ RW K z H w v := by
  obtain ⟨v, r, e1, e2, e3⟩ := h
  cases e3
  exact ⟨v, e1, e2⟩
end
inductive Ty where
  | non | bl | int | str | tup | lst | dct
def Ty.name : Ty → String
  | .non => "NoneType"
  | .bl => "bool"
  | .int => "int"
  | .str => "str"
  | .tup => "tuple"
  | .lst => "list"
  | .dct => "dict"
def Ty.sub : Ty → Ty → Bool
  | .non, .non => true
  | .bl, .bl => true
  | .bl, .int => true
  | .int, .int => true
  | .str, .str => true
  | .tup, .tup => true
  | .lst, .lst => true
  | .dct, .dct => true
  | _, _ => false
end
end Dn
namespace Dn
open PySem PySem.Spec PyProof.Rows L2
section
variable {K : PySem.W.Frag} {cl : Clz} {z : Zn} {m : Mem} {H : Hp}
end
section
variable {X : Cx} {cl : Clz} {Wx : WX} {e a b o : Expr} {pos : Pos}
section
variable {K : PySem.W.Frag} {z : Zn} {H : Hp}
end
theorem PSet.or {t t' : TSet} (h : PSet X t) (h' : PSet X t') : PSet X (fun o i v H Q => t o i v H Q ∨ t' o i v H Q) := fun pins s σ H o i v ov iv u Q I ro ri rv q => q.elim (fun q => h pins s σ H o i v ov iv u Q I ro ri rv q) fun q => h' pins s σ H o i v ov iv u Q I ro ri rv q
end
end Dn
namespace Dn
open PySem PySem.Spec PyProof.Rows L2
def obsE (fa : List He.Fa) (fn : List He.DefD) (ex : PySem.W.Frag → Bool) (K : PySem.W.Frag) : He.AlD × Bool := (He.obsD fa fn K, ex K)
/-- one test of several -/
def allB (bs : List Bool) : Bool := bs.all id
end Dn
namespace Dn
open PySem PySem.Spec PyProof.Rows L2
end Dn
namespace Dn
open PySem PySem.Spec PyProof.Rows L2
def clsItem (s : Stmt) (j : Nat) : Stmt := match s with
  | .ClassDef _ _ _ b _ _ _ _ _ _ _ => b.getD j (.Pass ⟨0, 0, 0, 0⟩)
  | _ => .Pass ⟨0, 0, 0, 0⟩
end Dn
namespace Dn
open PySem PySem.Spec PyProof.Rows L2
section
variable {K : PySem.W.Frag} {cl : Clz} {z z' : Zn} {H H' : Hp} {m : Mem}
/-- the callee's view: all of the memory is held -/
abbrev Zn.own (z : Zn) : Zn := { Z := z.Z, hold := fun a => z.hold a ∨ a ∈ z.phi ∧ ¬ z.Z a, phi := [] }
theorem MemOk.own (M : MemOk K cl z m H) (ht : ∀ z H, cl.G z H) : MemOk K cl z.own [] H := by
  refine ⟨rfl, List.nodup_nil, ?_, M.lz, ?_, ?_, M.tb, ht _ _⟩
  · rintro a q (h | ⟨_, h⟩)
    · exact M.sep a q h
    · exact h q
  · rintro a (h | ⟨h, _⟩)
    · exact M.lh a h
    · obtain ⟨n, e⟩ := List.getElem?_of_mem h
      obtain ⟨c, _, hc⟩ := M.at e
      exact hc.thereX
  · intro n a c h
    simp at h
end
end Dn
namespace Dn
open PySem PySem.Spec PyProof.Rows L2
section
variable {X : Cx} {cl : Clz} {Wx : WX} {a b : Expr} {pos p : Pos} {x : Str} {tbl : List (Str × Option W)}
end
abbrev AlET : Type := (He.AlD × Bool) × List (Option (List (Option (Str × Int))))
abbrev TabS : Type := Str × List Str
def obsET (fa : List He.Fa) (fn : List He.DefD) (ex : PySem.W.Frag → Bool) (ts : List TabS) (K : PySem.W.Frag) : AlET := (obsE fa fn ex K, ts.map fun t => He.dicW K (He.ga K t.1))
structure SaysET (fa : List He.Fa) (fn : List He.DefD) (ex : PySem.W.Frag → Bool) (ts : List TabS) (w : World) (K : PySem.W.Frag) : Prop where
  d : He.SaysD fa fn K
  e : ex K = true
  t : (ts.map fun t => He.dicW K (He.ga K t.1)) = ts.map fun t => some (He.keysIn w.params t.2)
theorem saysET_of {fa : List He.Fa} {fn : List He.DefD} {ex : PySem.W.Frag → Bool} {ts : List TabS} {w : World} {K : PySem.W.Frag} (e : obsET fa fn ex ts K = ((He.valD fn, true), ts.map fun t => some (He.keysIn w.params t.2))) : SaysET fa fn ex ts w K := by
  unfold obsET obsE at e
  have e1 := Prod.mk.inj e
  have e2 := Prod.mk.inj e1.1
  exact ⟨e2.1, e2.2, e1.2⟩
end Dn
namespace Dn
open PySem PySem.Spec PyProof.Rows L2 NdefX
/-- what the written part says of such a class and its __init__ -/
structure XCls (P : Program) (K : PySem.W.Frag) (C f : Addr) (fd : FuncData) (F : NF) : Prop where
  ox : OexC K C
  fdE : ∃ kV doc pm ct, ∃ an : Option Addr, fd = PySem.W.fnX F.name F.qual F.params F.body F.scope F.cl .none kV doc pm an (.ref F.c) ct
  lk : ∃ oc od osl, K.lookup f = some (⟨oc, od, .func fd, osl⟩ : Obj)
  code : PySem.W.codeIn K (.ref F.c) F.qual = true
  file : ∃ (ccl : Value) (cdd : Option Addr) (vs : Array Value) (ccs : Array (Option Value)) (file : Str) (tf : Tok), K.lookup F.c = some (⟨ccl, cdd, .fields vs, ccs⟩ : Obj) ∧ vs[2]? = some (.str file tf) ∧ ((P.main.file : Str) == file) = true
  cell : ∃ (cc : Addr) (cl : Value) (cld : Option Addr) (csl : Array (Option Value)), F.cl = [(("__class__" : Str), cc)] ∧ K.lookup cc = some (⟨cl, cld, .cell (some (.ref C)), csl⟩ : Obj)
  clsD : ∃ cd, PySem.W.clsIn K C = some cd
  mro : PySem.W.mroIn K C (.ref C) = some true
  opq : PySem.W.nsIn K cStatics "thirdparty.any" = some none
  sup : PySem.W.ks_superIn K C C "__init__" = some (some (.builtin "ValueError.__init__"))
  sub : PySem.W.subIn K (.ref C) (.type "ValueError") = some true
  itI : PySem.W.findIn K (.ref C) "__init__" = some (some (.ref f))
  tyI : PySem.W.typeIn K (.ref f) = some (.type "function")
section
variable {P : Program} {w : World} {K : PySem.W.Frag} {mg : Str → Option Value} {base : Heap} {N ps : List Str} {F : NF} {f C a : Addr} {fd : FuncData} {A : Around} {outer : List Env} {s : Shared} {H : Hp} {E : XK}
end
end Dn
namespace Dn
open PySem PySem.Spec PyProof.Rows L2 NdefX
def oexB (K : PySem.W.Frag) (C : Addr) : Bool := (match K.lookup C with
  | some ⟨.type t, _, .cls cd, sl⟩ => (match cd.mro, sl.toList with
    | .ref C' :: bm, [_, _, _, _, some (.builtin n), _] => decide (t = "type") && (decide (C' = C) && (decide (n = "ValueError.__new__") && (!cd.hasDel && (cd.hasDict && PySem.HandSPX.refsVE bm))))
    | _, _ => false)
  | _ => false) && (decide (PySem.W.findIn K (.ref C) "__setattr__" = some (some (.builtin "object.__setattr__"))) && (decide (PySem.W.subIn K (.ref C) (.type "BaseException") = some true) && (decide (PySem.W.typeIn K (.ref C) = some (.type "type")) && PySem.W.keepIn K (.ref C))))
theorem oexB_ok {K : PySem.W.Frag} {C : Addr} (h : oexB K C = true) : OexC K C := by
  unfold oexB at h
  rw [Bool.and_eq_true_iff, Bool.and_eq_true_iff, Bool.and_eq_true_iff, Bool.and_eq_true_iff] at h
  obtain ⟨h1, h2, h3, h4, h5⟩ := h
  refine ⟨?_, of_decide_eq_true h2, of_decide_eq_true h3, of_decide_eq_true h4, h5⟩
  split at h1
  · rename_i t dd cd sl ho
    split at h1
    · rename_i C' bm k0 k1 k2 k3 n k5 hm hs
      simp only [Bool.and_eq_true, decide_eq_true_eq, Bool.not_eq_true'] at h1
      obtain ⟨rfl, rfl, rfl, hdel, hd, hre⟩ := h1
      obtain ⟨nm, bs, mro, ns, qn, hdd, sn, sub, ab, col, del⟩ := cd
      dsimp only at hm hdel hd
      subst hm hdel hd
      have hsl : sl = #[k0, k1, k2, k3, some (.builtin "ValueError.__new__"), k5] := by
        obtain ⟨l⟩ := sl
        simp only at hs
        rw [hs]
      subst hsl
      exact ⟨nm, qn, ns, bs, bm, sn, sub, ab, col, dd, k0, k1, k2, k3, k5, ho, hre⟩
    · cases h1
  · cases h1
/-- where the code of such an __init__ stands, where its cell does -/
def xcode (K : PySem.W.Frag) (f : Addr) : Addr := match K.lookup f with
  | some ⟨_, _, .func fd, _⟩ => (match fd.code with
    | .ref c => c
    | _ => 0)
  | _ => 0
def xcell (K : PySem.W.Frag) (f : Addr) : Addr := match K.lookup f with
  | some ⟨_, _, .func fd, _⟩ => (match fd.closure with
    | [(_, c)] => c
    | _ => 0)
  | _ => 0
/-- one such class: its name, its __init__ as it is written -/
structure XD where
  name : Str
  qual : Str
  params : Arguments
  body : List Stmt
  scope : Scope
def XD.C (K : PySem.W.Frag) (d : XD) : Addr := He.ga K d.name
def XD.f (K : PySem.W.Frag) (d : XD) : Addr := He.ma K (He.ga K d.name) "__init__"
def XD.nf (K : PySem.W.Frag) (d : XD) : NF := ⟨"__init__", d.qual, d.params, d.body, d.scope, [("__class__", xcell K (d.f K))], xcode K (d.f K)⟩
abbrev XW : Type := Option (Str × Str × Arguments × FuncBody × Scope × Addr × Addr)
def XD.w (K : PySem.W.Frag) (d : XD) : XW := match K.lookup (d.f K) with
  | some ⟨_, _, .func fd, _⟩ => some (fd.name, fd.qualname, fd.params, fd.body, fd.scope, fd.globals, fd.builtins)
  | _ => none
def XD.val (d : XD) : XW := some ("__init__", d.qual, d.params, .stmts d.body, d.scope, mainGlobals, builtinsNs)
def XD.ok (file : Str) (K : PySem.W.Frag) (d : XD) : Bool := oexB K (d.C K) && ((match K.lookup (d.f K) with
  | some ⟨_, _, .func fd, _⟩ => (match fd.closure, fd.code with
    | [(y, c)], .ref a => (decide (y = ("__class__" : Str)) && decide (fd.defaults = .none)) && ((match K.lookup c with
      | some ⟨_, _, .cell (some (.ref D)), _⟩ => decide (D = d.C K)
      | _ => false) && (PySem.W.codeIn K (.ref a) d.qual && (match K.lookup a with
        | some ⟨_, _, .fields vs, _⟩ => (match ((vs[2]? : Option Value)) with
          | some (Value.str x _) => decide (x = file)
          | _ => false)
        | _ => false)))
    | _, _ => false)
  | _ => false) && ((PySem.W.clsIn K (d.C K)).isSome && (decide (PySem.W.mroIn K (d.C K) (.ref (d.C K)) = some true) && (decide (PySem.W.nsIn K cStatics "thirdparty.any" = some none) && (decide (PySem.W.ks_superIn K (d.C K) (d.C K) "__init__" = some (some (.builtin "ValueError.__init__"))) && (decide (PySem.W.subIn K (.ref (d.C K)) (.type "ValueError") = some true) && (decide (PySem.W.findIn K (.ref (d.C K)) "__init__" = some (some (.ref (d.f K)))) && decide (PySem.W.typeIn K (.ref (d.f K)) = some (.type "function")))))))))
theorem XD.cls {P : Program} {K : PySem.W.Frag} {d : XD} (e : d.w K = d.val) (c : d.ok P.main.file K = true) : ∃ fd, XCls P K (d.C K) (d.f K) fd (d.nf K) := by
  unfold XD.ok at c
  simp only [Bool.and_eq_true, decide_eq_true_eq] at c
  obtain ⟨c1, c2, c3, c4, c5, c6, c7, c8, c9⟩ := c
  unfold XD.w at e
  cases q : K.lookup (d.f K) with
  | none => rw [q] at c2; cases c2
  | some o =>
    obtain ⟨oc, od, dt, osl⟩ := o
    rw [q] at c2 e
    cases dt with
    | func fd =>
      have e := Option.some.inj e
      dsimp only at c2
      split at c2
      · rename_i y cc a hcl hco
        simp only [Bool.and_eq_true, decide_eq_true_eq] at c2
        obtain ⟨⟨rfl, cdf⟩, c21, c22, c23⟩ := c2
        have hxc : xcode K (d.f K) = a := by
          unfold xcode
          rw [q]
          dsimp only
          rw [hco]
        have hxl : xcell K (d.f K) = cc := by
          unfold xcell
          rw [q]
          dsimp only
          rw [hcl]
        refine ⟨fd, oexB_ok c1, ?_, ⟨oc, od, osl, q⟩, ?_, ?_, ?_, Option.isSome_iff_exists.mp c3, c4, c5, c6, c7, c8, c9⟩
        · obtain ⟨n, qn, pr, bd, sc, gl, cl, dv, kv, dc, pm, an, co, ct, bl⟩ := fd
          dsimp only at e hcl hco cdf
          injection e with e1 e
          injection e with e2 e
          injection e with e3 e
          injection e with e4 e
          injection e with e5 e
          injection e with e6 e7
          subst e1 e2 e3 e4 e5 e6 e7 hcl hco
          refine ⟨kv, dc, pm, ct, an, ?_⟩
          simp only [XD.nf, hxc, hxl, cdf]
        · simp only [XD.nf, hxc]
          exact c22
        · simp only [XD.nf, hxc]
          split at c23
          · rename_i ccl cdd vs ccs hk
            split at c23
            · rename_i x tf hv
              have : x = P.main.file := of_decide_eq_true c23
              subst this
              exact ⟨ccl, cdd, vs, ccs, _, tf, hk, hv, beq_self_eq_true _⟩
            · cases c23
          · cases c23
        · simp only [XD.nf, hxl]
          split at c21
          · rename_i cl cld D csl hk
            have : D = d.C K := of_decide_eq_true c21
            subst this
            exact ⟨cc, cl, cld, csl, rfl, hk⟩
          · cases c21
      · cases c2
    | _ => cases c2
end Dn
namespace Dn
open PySem PySem.Spec PyProof.Rows L2 NdefX
section
variable {P : Program} {w : World} {K : PySem.W.Frag} {mg : Str → Option Value} {base : Heap} {F : NF} {f C : Addr} {fd : FuncData}
end
section
variable {K : PySem.W.Frag} {z : Zn} {H : Hp}
end
section
variable {X : Cx} {cl : Clz} {Wx : WX} {e : Expr} {es : List Expr} {p pos pos' : Pos} {x : Str}
end
abbrev AlEX : Type := AlET × List XW
def obsEX (fa : List He.Fa) (fn : List He.DefD) (ex : PySem.W.Frag → Bool) (ts : List TabS) (xs : List XD) (K : PySem.W.Frag) : AlEX := (obsET fa fn ex ts K, xs.map fun d => d.w K)
structure SaysEX (fa : List He.Fa) (fn : List He.DefD) (ex : PySem.W.Frag → Bool) (ts : List TabS) (xs : List XD) (w : World) (K : PySem.W.Frag) : Prop extends SaysET fa fn ex ts w K where
  x : (xs.map fun d => d.w K) = xs.map XD.val
theorem saysEX_of {fa : List He.Fa} {fn : List He.DefD} {ex : PySem.W.Frag → Bool} {ts : List TabS} {xs : List XD} {w : World} {K : PySem.W.Frag} (e : obsEX fa fn ex ts xs K = (((He.valD fn, true), ts.map fun t => some (He.keysIn w.params t.2)), xs.map XD.val)) : SaysEX fa fn ex ts xs w K := by
  unfold obsEX at e
  have e1 := Prod.mk.inj e
  exact ⟨saysET_of e1.1, e1.2⟩
end Dn
namespace Dn
open PySem PySem.Spec PyProof.Rows L2
def mtB (K : PySem.W.Frag) (cl : Nat → Addr) (c : Nat) (l : List (Nat × Bool)) : Bool := l.all fun q => decide (PySem.W.exmOne K (.ref (cl q.1)) (.ref (cl c)) = some q.2)
section
variable {X : Cx} {cl : Clz} {Wx : WX} {body suite : List Stmt} {b₀ : Stmt} {np pos pos' : Pos} {x : Str} {c : Nat}
end
end Dn
namespace Dn
open PySem PySem.Spec PyProof.Rows L2
def KeptS (s s' : Shared) : Prop := (∀ b o, s.heap.get? b = some o → s'.heap.get? b = some o) ∧ s'.gens = s.gens ∧ s'.drawn = s.drawn ∧ s'.os = s.os
theorem KeptS.same {s s' : Shared} (h : KeptS s s') : s' = { s with heap := s'.heap, toks := s'.toks } := by
  obtain ⟨_, h2, h3, h4⟩ := h
  cases s'
  simp only at h2 h3 h4
  subst h2 h3 h4
  rfl
section
variable {X : Cx} {cl : Clz} {Wx : WX} {a : Expr} {pos p kp kpos : Pos}
end
end Dn
namespace Dn
open PySem PySem.W PySem.Calls PyProof.Rows HandSHeadRun
/-- the top ends in a state of which P holds -/
def EndsAt (r : OpenRow) (M : Nat) (w : World) (P : SharedT → Prop) : Prop := ∀ os : OsState, ∃ s, endF (stepQ (denQ tabQ) r.prog w) M r.prog w os = some s ∧ P s
theorem EndsAt.and {r : OpenRow} {M : Nat} {w : World} {P Q : SharedT → Prop} (a : EndsAt r M w P) (b : EndsAt r M w Q) : EndsAt r M w fun s => P s ∧ Q s := fun os => by
  obtain ⟨s, e, p⟩ := a os
  obtain ⟨s', e', q⟩ := b os
  rw [e] at e'
  cases e'
  exact ⟨s, e, p, q⟩
/-- one look at the end -/
def LookEq {α : Type} (r : OpenRow) (M : Nat) (f : SharedT → α) (v : α) (w : World) : Prop := ∀ os : OsState, (endF (stepQ (denQ tabQ) r.prog w) M r.prog w os).map f = some v
theorem EndsAt.of_look {α : Type} {r : OpenRow} {M : Nat} {f : SharedT → α} {v : α} {w : World} (h : LookEq r M f v w) : EndsAt r M w fun s => f s = v := fun os => by
  obtain ⟨s, e, q⟩ := Option.map_eq_some_iff.mp (h os)
  exact ⟨s, e, q⟩
/-- the looks of the run but the hook's -/
noncomputable def runLook (r : OpenRow) (q : Program) (loose : List PySem.Str) (w : World) (s : SharedT) := (looksF r.prog (boot_heap w.params) s.abs, seenQ q loose (importedModules r.prog.main.body) (fun s => xlAt q [] s && recOk r.toRowW.records s) s.abs)
theorem runEq_of {r : OpenRow} {q : Program} {H : Hook} {ob : SharedT → H.α} {M : Nat} {loose : List PySem.Str} {w : World} (a : LookEq r M (runLook r q loose w) (true, openGood q loose) w) (b : EndsAt r M w fun s => ob s = H.val w) : RunEq r q H ob M loose w := fun os => by
  obtain ⟨s, e, h1, h2⟩ := (EndsAt.of_look a).and b os
  have h3 := Prod.mk.inj h1
  rw [e, Option.map_some]
  exact congrArg some (Prod.ext h3.1 (Prod.ext h3.2 h2))
end Dn
namespace Dn
open PySem PySem.Spec PyProof.Rows L2
section
variable {X : Cx} {cl : Clz} {Wx : WX} {a b : Expr} {pos : Pos}
end
end Dn
namespace Dn
open PySem PySem.Spec PyProof.Rows L2
/-- the new ones of some addresses, and the marks with them -/
def marks : List Addr → Nat → List Addr → Nat × List Addr
  | [], seen, acc => (seen, acc)
  | a :: as, seen, acc => match Nat.beq (Nat.land (Nat.shiftRight seen a) 1) 1 with
    | true => marks as seen acc
    | false => marks as (Nat.lor seen (Nat.shiftLeft 1 a)) (a :: acc)
/-- n rounds: the marks, all that was come to, the last round's -/
def rounds (g : Addr → Option Obj) : Nat → Nat → List Addr → List Addr → List Addr
  | 0, _, acc, _ => acc
  | n + 1, seen, acc, fr => match marks (fr.flatMap fun a => match g a with
    | some o => He.refsD o
    | none => []) seen [] with
    | (seen', new) => rounds g n seen' (acc ++ new) new
def asY (g : Addr → Option Obj) (n : Nat) : List Addr := cStatics :: rounds g n (Nat.shiftLeft 1 mainGlobals) [mainGlobals] [mainGlobals]
end Dn
namespace Dn
open PySem PySem.Spec PyProof.Rows L2
section
variable {X : Cx} {x n y : Str} {c : Value} {i j : Nat} {body : List Stmt} {np p1 p2 p3 pos pos' : Pos} {tb : WX → TS} {Wout : WX}
/-- the heap behind the catch -/
def caught (H : Hp) (a d : Addr) (oe od : Obj) (fs : List (Str × V)) : Hp := upd (upd H a (.frz oe (hereO a))) d (.frz od (.xd fs))
end
end Dn
namespace Dn
open PySem PySem.Spec PyProof.Rows L2
def excB (K : PySem.W.Frag) (D : Addr) : Bool := decide (PySem.W.findIn K (.ref D) "__getattribute__" = some (some (.builtin "BaseException.__getattribute__"))) && (decide (PySem.W.findIn K (.ref D) "__getattr__" = some none) && (decide (PySem.W.subIn K (.ref D) (.type "BaseException") = some true) && (PySem.W.hasDictIn K D && (decide (PySem.W.findIn K (.ref D) "__class__" = some (some (.builtin "object.__class__"))) &&
  (decide (PySem.W.specialIn K (.builtin "object.__class__") "__get__" = some (some (.builtin "getset_descriptor.__get__"))) && (decide (PySem.W.takesIn K (.builtin "object.__class__") = some true) && decide (PySem.W.mroIn K D (.type "object") = some true)))))))
def isXB (K : PySem.W.Frag) (cl : Nat → Addr) (cv : Value) (l : List (Nat × Bool)) : Bool := l.all fun q => excB K (cl q.1) && decide (PySem.W.kitOne K (.ref (cl q.1)) cv = some q.2)
def xkB (K : PySem.W.Frag) (cl : Nat → Addr) (cs : List Nat) (x : Str) : Bool := cs.all fun c => xfB K (cl c) && decide (PySem.W.findIn K (.ref (cl c)) x = some none)
section
variable {X : Cx} {cl : Clz} {Wx : WX} {e : Expr} {pos : Pos}
end
end Dn
namespace Dn
open PySem PySem.Spec PyProof.Rows L2
def isXTB (K : PySem.W.Frag) (at_ : Nat → Addr) (cs : List Nat) (l : List (Nat × Bool)) : Bool := l.all fun q => excB K (at_ q.1) && decide (PySem.W.kitAny K (.ref (at_ q.1)) (cs.map fun c => Value.ref (at_ c)) = some q.2)
section
variable {X : Cx} {cl : Clz} {Wx : WX} {body : List Stmt} {n y x1 x2 x3 x4 : Str} {q1 q2 q3 q4 tpos p1 p2 p3 pos pos' : Pos} {kk c1 c2 c3 c4 i j : Nat} {tt : Expr} {ex : Value → Option Bool}
end
section
variable {X : Cx} {cl : Clz} {Wx : WX} {e : Expr} {pos : Pos}
end
section
variable {X : Cx} {cl : Clz} {Wx : WX} {a : Expr} {p apos cpos : Pos} {x : Str} {tbl : List (Str × Option W)}
end
end Dn
namespace Dn
open PySem PySem.Spec PyProof.Rows L2 LamX
section
variable {K : PySem.W.Frag} {cl : Clz} {z z' : Zn} {H H' : Hp} {m : Mem} {G : Zn → Hp → Prop} {gx0 : ∀ {z : Zn} {H : Hp} {z' : Zn} {H' : Hp}, Ext0 z H z' H' → G z H → G z' H'}
theorem CellOk.more {a : Addr} {c : Cell} (h : CellOk K cl z H a c) : CellOk K (cl.and G gx0) z H a c := by
  cases c <;> exact h
theorem MemOk.more (M : MemOk K cl z m H) (g : G z H) : MemOk K (cl.and G gx0) z m H := ⟨M.len, M.nd, M.sep, M.lz, M.lh, fun n a c h1 h2 => (M.cells n a c h1 h2).more, M.tb, M.gh, g⟩
end
section
variable {X : Cx} {cl : Clz} {pins : List (Addr × Obj)} {σ : L2.St} {H : Hp} {s : Shared}
variable {Wx : WX}
end
end Dn
namespace Dn
open PySem PySem.Spec PyProof.Rows L2 LamX
/-- the lambda's names: its parameter y, captured ones, globals -/
structure LamD (sc scope : Scope) (y : Str) : Prop where
  kd : scope.kind = .function
  nco : scope.isCoroutine = false
  ngen : scope.isGenerator = false
  mine : ∀ z ∈ scope.names, z.2 ≠ .cell ∧ (z.2 = .local → z.1 = y)
  par : scope.names.lookup y = some .local
  cap : ∀ z ∈ scope.names, z.2 = .free → sc.names.lookup z.1 = some .cell ∨ sc.names.lookup z.1 = some .free
section
variable {X : Cx} {pins : List (Addr × Obj)} {σ : L2.St} {H HZ : Hp} {s s1 : Shared} {y : Str}
theorem LamD.cells {scope : Scope} (L : LamD X.env.scope scope y) (ok : X.Ok) : ∀ z ∈ scope.names, z.2 = .free → ∃ c, X.env.cells.lookup z.1 = some c := fun z hz e => ok.has _ (L.cap z hz e)
end
end Dn
namespace Dn
open PySem PySem.Spec PyProof.Rows L2
section
variable {α β : Type} {M : Model} {A : Around} {s : Shared}
end
section
variable {X : Cx} {cl : Clz} {Wx : WX} {st : Stmt} {rest : List Stmt} {t u : TS}
end
section
variable {X : Cx} {cl : Clz} {Wx : WX} {o e f : Expr} {es : List Expr} {te to : TE} {ta : TA} {apos pos : Pos}
theorem PAT.of (h : PA X es ta) : PAT X es ta := fun pos pins s σ H Q _ I q => h.run pos pins s σ H Q I q
variable {st : Stmt} {rest : List Stmt} {z : Expr}
end
end Dn
namespace Dn
open PySem PySem.Spec PyProof.Rows L2
section
variable {X : Cx} {cl : Clz} {Wx : WX} {o e : Expr} {pos p : Pos}
end
structure PD where
  cls : Str
  prop : Str
  qual : Str
  params : Arguments
  body : List Stmt
  scope : Scope
def PD.p (K : PySem.W.Frag) (d : PD) : Addr := He.ma K (He.ga K d.cls) d.prop
def gtr (K : PySem.W.Frag) (p : Addr) : Addr := match PySem.W.recIn K p "property" with
  | some (.ref g :: _) => g
  | _ => 0
def PD.w (K : PySem.W.Frag) (d : PD) : He.FnW := match K.lookup (gtr K (d.p K)) with
  | some ⟨_, _, .func fd, _⟩ => some (fd.name, fd.qualname, fd.params, fd.body, fd.scope, fd.globals, fd.closure, fd.builtins)
  | _ => none
def PD.val (d : PD) : He.FnW := some (d.prop, d.qual, d.params, .stmts d.body, d.scope, mainGlobals, [], builtinsNs)
def isGet (K : PySem.W.Frag) (p : Addr) : Bool := match PySem.W.recIn K p "property" with
  | some (.ref _ :: _) => true
  | _ => false
def PD.ok (K : PySem.W.Frag) (d : PD) : Bool := (decide (PySem.W.findIn K (.ref (He.ga K d.cls)) d.prop = some (some (.ref (d.p K)))) && (decide (PySem.W.specialIn K (.ref (d.p K)) "__get__" = some (some (.builtin "property.__get__"))) &&
  (decide (PySem.W.takesIn K (.ref (d.p K)) = some true) && isGet K (d.p K)))) && (PySem.W.keepIn K (.ref (gtr K (d.p K))) && (match K.lookup (gtr K (d.p K)) with
    | some ⟨_, _, .func fd, _⟩ => PySem.W.codeIn K fd.code d.qual && (He.dflB K fd.defaults [] && He.kwdB K fd.kwdefaults [])
    | _ => false))
theorem PD.is {K : PySem.W.Frag} {d : PD} (e : d.w K = d.val) (c : d.ok K = true) : PropOf K (He.ga K d.cls) d.prop (d.p K) (gtr K (d.p K)) ∧ ∃ fd, FunD K d.prop d.qual d.params d.body d.scope [] [] (gtr K (d.p K)) fd := by
  unfold PD.ok at c
  rw [Bool.and_eq_true_iff, Bool.and_eq_true_iff, Bool.and_eq_true_iff, Bool.and_eq_true_iff, Bool.and_eq_true_iff, decide_eq_true_eq, decide_eq_true_eq, decide_eq_true_eq] at c
  obtain ⟨⟨c1, c2, c3, c4⟩, c5, c6⟩ := c
  refine ⟨⟨c1, c2, c3, ?_⟩, ?_⟩
  · unfold isGet at c4
    unfold gtr
    split at c4
    · rename_i g rest q
      exact ⟨rest, q⟩
    · cases c4
  · unfold PD.w at e
    cases q : K.lookup (gtr K (d.p K)) with
    | none => rw [q] at c6; cases c6
    | some o =>
      obtain ⟨oc, od, dt, osl⟩ := o
      rw [q] at c6 e
      cases dt with
      | func fd =>
        dsimp only at c6 e
        unfold PD.val at e
        obtain ⟨n, qn, pr, bd, sc, gl, cl, dv, kv, dc, pm, an, co, ct, bl⟩ := fd
        simp only [Option.some.injEq, Prod.mk.injEq] at e
        obtain ⟨e1, e2, e3, e4, e5, e6, e7, e8⟩ := e
        rw [Bool.and_eq_true_iff, Bool.and_eq_true_iff] at c6
        dsimp only at c6
        subst e1 e2 e3 e4 e5 e6 e7 e8
        exact ⟨_, ⟨oc, od, dv, kv, dc, pm, an, co, ct, osl, rfl, q, c6.1, He.dflB_ok c6.2.1, He.kwdB_ok c6.2.2⟩, c5⟩
      | _ => cases c6
end Dn
namespace Dn
open PySem PySem.Spec PyProof.Rows L2
abbrev keyD (p : Str × Int) : PyData := .tuple [.str p.1, .int p.2]
/-- a pair that begins so -/
def FstIs (h : Heap) (v : Value) (p : Str × Int) : Prop := ∃ a k u as, v = .ref a ∧ IsTup h a #[k, u] ∧ Reads h k (keyD p) as
theorem FstIs.keeps {h h' : Heap} {v : Value} {p : Str × Int} (x : FstIs h v p) (k : ∀ b o, h.get? b = some o → h'.get? b = some o) : FstIs h' v p := by
  obtain ⟨a, kk, u, as, e, t, r⟩ := x
  exact ⟨a, kk, u, as, e, t.keeps k, PyProof.Rows.Reads.keeps k r⟩
section
variable {prog : Program} {w : World} {A : Around} {s : Shared}
end
section
variable {K : PySem.W.Frag} {cl : Clz}
end
end Dn
namespace Dn
open PySem PySem.Spec PyProof.Rows L2 NdefX
/-- the built-in base B, its __init__, its mro; nB: the nearest class that has a __new__ (of KeyError it is LookupError) -/
structure XB where
  B : String
  nw : String
  ini : String
  bm : List Value
  nB : String
/-- what is asked of an __init__ -/
structure IniF (B ini : String) : Prop where
  star : (B != "*") = true
  kind : builtinKind ini = some .slot
  row : Manifest.signature? ini = some ⟨.positional, "*", B, .self, [⟨"args", .varPos, false⟩]⟩
  slot : Slot B "__init__" ini
  entry : entryFor table ini = some Builtin.«BaseException.__init__»
theorem IniF.of {B nw ini : String} (F : PySem.ExcCallFacts B nw ini) : IniF B ini := ⟨F.noStar, F.initKind, F.initRow, F.init, F.initEntry⟩
structure XB.Ok (b : XB) : Prop where
  new : ∃ (ini : String) (nm : List Value), PySem.ExcBaseFacts b.nB b.nw ini nm
  hB : b.bm.contains (.type b.nB) = true
  hA : b.bm.contains (.type "AttributeError") = false
  hN : b.bm.contains (.type "NameError") = false
  init : IniF b.B b.ini
  store : PySem.StoreFacts b.B b.bm "object.__setattr__" "object"
  kxs : PySem.W.KxsFacts b.B b.ini
abbrev xbO : XB := ⟨"OverflowError", "OverflowError.__new__", "OverflowError.__init__", [.type "OverflowError", .type "ArithmeticError", .type "Exception", .type "BaseException", .type "object"], "OverflowError"⟩
section
open PySem.HandSPX Builtin Builtin.ObjectAttr
variable {M : Model} {A : Around} {E : Value → Shared → Prop} {h : Heap} {g : Array GenState} {d : Drawn} {t : Nat} {os : OsState} {nm q : Str} {C N : Addr} {bs bm nbm : List Value} {hdct : Bool} {sn : List Str} {sub : List Value} {ab : Bool} {col : Option Bool} {dd : Option Addr} {k0 k1 k2 k3 k5 : Option Value} {B newId initId : String}
variable {prog : Program} {w : World} {R : Result → Shared → Prop}
end
section
open Builtin Builtin.ObjectAttr PySem.W PySem.F
variable {prog : Program} {w : World} {A : Around} {E : Value → Shared → Prop} {R : Result → Shared → Prop} {hp : Heap} {g : Array GenState} {d : Drawn} {t : Nat} {os : OsState} {b : XB}
end
section
open Builtin Builtin.ObjectAttr PySem.W PySem.F
variable {prog : Program} {w : World} {A : Around} {E : Value → Shared → Prop} {R : Result → Shared → Prop} {hp : Heap} {g : Array GenState} {d : Drawn} {t : Nat} {os : OsState} {b : XB}
end
section
variable {X : Cx} {pins : List (Addr × Obj)} {σ : L2.St} {H : Hp} {s : Shared} {a C dx : Addr} {f : Str} {y : V} {u : Value} {fs : List (Str × V)} {Q : Unit → Shared → Prop} {E : Value → Shared → Prop} {A : Around} {b : XB}
end
section
variable {X : Cx} {o e : Expr} {es : List Expr} {to te : TE} {ta : TA} {f : Str} {p p' p1 p2 pos : Pos}
end
section
variable {P : Program} {w : World} {K : PySem.W.Frag} {mg : Str → Option Value} {base : Heap} {N ps : List Str} {F : NF} {f C a : Addr} {fd : FuncData} {A : Around} {outer : List Env} {s : Shared} {H : Hp} {E : XK}
end
end Dn
namespace Dn
open PySem PySem.Spec PyProof.Rows L2 NdefX
def oexGB (b : XB) (K : PySem.W.Frag) (C : Addr) : Bool := (match K.lookup C with
  | some ⟨.type t, _, .cls cd, sl⟩ => (match cd.mro, sl.toList with
    | .ref C' :: bm, [_, _, _, _, some (.builtin n), _] => decide (t = "type") && (decide (C' = C) && (decide (n = b.nw) && (!cd.hasDel && (cd.hasDict && PySem.W.excTail b.bm bm))))
    | _, _ => false)
  | _ => false) && (decide (PySem.W.findIn K (.ref C) "__setattr__" = some (some (.builtin "object.__setattr__"))) && (decide (PySem.W.subIn K (.ref C) (.type "BaseException") = some true) && (decide (PySem.W.typeIn K (.ref C) = some (.type "type")) && PySem.W.keepIn K (.ref C))))
def XD.okG (b : XB) (file : Str) (K : PySem.W.Frag) (d : XD) : Bool := oexGB b K (d.C K) && ((match K.lookup (d.f K) with
  | some ⟨_, _, .func fd, _⟩ => (match fd.closure, fd.code with
    | [(y, c)], .ref a => (decide (y = ("__class__" : Str)) && decide (fd.defaults = .none)) && ((match K.lookup c with
      | some ⟨_, _, .cell (some (.ref D)), _⟩ => decide (D = d.C K)
      | _ => false) && (PySem.W.codeIn K (.ref a) d.qual && (match K.lookup a with
        | some ⟨_, _, .fields vs, _⟩ => (match ((vs[2]? : Option Value)) with
          | some (Value.str x _) => decide (x = file)
          | _ => false)
        | _ => false)))
    | _, _ => false)
  | _ => false) && ((PySem.W.clsIn K (d.C K)).isSome && (decide (PySem.W.mroIn K (d.C K) (.ref (d.C K)) = some true) && (decide (PySem.W.nsIn K cStatics "thirdparty.any" = some none) && (decide (PySem.W.ks_superIn K (d.C K) (d.C K) "__init__" = some (some (.builtin b.ini))) && (decide (PySem.W.subIn K (.ref (d.C K)) (.type b.B) = some true) && (decide (PySem.W.findIn K (.ref (d.C K)) "__init__" = some (some (.ref (d.f K)))) && decide (PySem.W.typeIn K (.ref (d.f K)) = some (.type "function")))))))))
section
variable {P : Program} {w : World} {K : PySem.W.Frag} {mg : Str → Option Value} {base : Heap} {F : NF} {f C : Addr} {fd : FuncData}
end
section
variable {X : Cx} {cl : Clz} {Wx : WX} {e : Expr} {es : List Expr} {p pos pos' : Pos} {x : Str}
end
end Dn
namespace Dn
open PySem PySem.Spec PyProof.Rows L2 NdefX
section
open PySem PySem.F
end
abbrev xbK : XB := ⟨"KeyError", "LookupError.__new__", "KeyError.__init__", [.type "KeyError", .type "LookupError", .type "Exception", .type "BaseException", .type "object"], "LookupError"⟩
abbrev xbV : XB := ⟨"ValueError", "ValueError.__new__", "ValueError.__init__", [.type "ValueError", .type "Exception", .type "BaseException", .type "object"], "ValueError"⟩
section
variable {P : Program} {w : World} {K : PySem.W.Frag} {mg : Str → Option Value} {base : Heap} {F : NF} {f C : Addr} {fd : FuncData}
end
section
variable {X : Cx} {pins : List (Addr × Obj)} {σ : L2.St} {H : Hp} {s : Shared}
end
section
variable {X : Cx} {e : Expr} {es : List Expr} {ta : TA} {p pos : Pos}
end
section
variable {X : Cx} {cl : Clz} {Wx : WX} {e : Expr} {es : List Expr} {p pos : Pos} {x : Str}
end
end Dn
namespace Dn
open PySem PySem.Spec PyProof.Rows L2 NdefX
def sysB (K : PySem.W.Frag) : Bool := match K.lookup sysModules with
  | some o => !(o.cls == .type "list")
  | none => false
section
variable {X : Cx} {pins : List (Addr × Obj)} {σ : L2.St} {H : Hp} {s : Shared}
end
section
variable {K : PySem.W.Frag} {cl : Clz}
end
def asYS (g : Addr → Option Obj) (n : Nat) : List Addr := sysModules :: asY g n
def obsESG (n : Nat) (fa : List He.Fa) (fn : List He.DefD) (ex : PySem.W.Frag → Bool) (ts : List TabS) (xs : List XD) (g : Addr → Option Obj) : AlEX := obsEX fa fn ex ts xs (He.frG g (asYS g n))
def hookES (n : Nat) (fa : List He.Fa) (fn : List He.DefD) (ex : PySem.W.Frag → Bool) (ts : List TabS) (xs : List XD) : PySem.W.Hook where
  α := AlEX
  obs := fun s => obsESG n fa fn ex ts xs s.heap.get?
  val := fun w => (((He.valD fn, true), ts.map fun (t : TabS) => some (He.keysIn w.params t.2)), xs.map XD.val)
  says := fun w h => ∃ K : PySem.W.Frag, K.In h ∧ SaysEX fa fn ex ts xs w K
  of := fun w s e => ⟨He.frG s.heap.get? (asYS s.heap.get? n), He.frG_in, saysEX_of (w := w) e⟩
  keeps := fun _ _ _ ⟨K, hK, c⟩ k => ⟨K, PySem.W.Frag.In.keeps hK k, c⟩
theorem obsESG_eq {n : Nat} {fa : List He.Fa} {fn : List He.DefD} {ex : PySem.W.Frag → Bool} {ts : List TabS} {xs : List XD} {g : Addr → Option Obj} {s : Shared} (h : ∀ a, g a = s.heap.get? a) : obsESG n fa fn ex ts xs g = (hookES n fa fn ex ts xs).obs s := by
  have e : g = s.heap.get? := funext h
  rw [e] <;> rfl
end Dn
namespace L
open PySem PySem.Spec PyProof.Rows L2 Dn
def top (i : Nat) : Stmt := PySem.Challenge.pw_asklast_k33_errors_by_hand.main.body.getD i (.Pass ⟨0, 0, 0, 0⟩)
def clf (K : PySem.W.Frag) : Nat → Addr
  | 0 => He.ga K "AskError"
  | 1 => He.ga K "BadRule"
  | 2 => He.ga K "BadText"
  | 3 => He.ga K "BadEvents"
  | 4 => He.ga K "BadJournal"
  | 5 => He.ga K "BadPeople"
  | 6 => He.ga K "BadPaper"
  | 7 => He.ga K "BadPerson"
  | 8 => He.ga K "BadPromise"
  | 9 => He.ga K "BadMay"
  | 10 => He.ga K "BadAbsent"
  | 11 => He.ga K "BadWhat"
  | 12 => He.ga K "BadEvent"
  | 13 => He.ga K "BadWord"
  | 14 => He.ga K "BadClaim"
  | 15 => He.ga K "Broken"
  | 16 => He.ga K "Parts"
  | 17 => He.ga K "TooMany"
  | 18 => He.ga K "Missing"
  | _ => 0
abbrev cl (K : PySem.W.Frag) : Clz := Clz.of (clf K)
abbrev st__law_mixed : Stmt := top 21
abbrev st__law_begin : Stmt := top 22
abbrev st__law_draw : Stmt := top 23
abbrev st__law_things : Stmt := top 24
abbrev st__law_all_are : Stmt := top 25
abbrev st__law_fields_right : Stmt := top 26
abbrev st__law_made : Stmt := top 27
abbrev st__law_kinds_of : Stmt := top 28
abbrev st__law_classes_right : Stmt := top 29
abbrev st_law : Stmt := top 30
/-- what stands behind the top -/
abbrev st_x_BadRule : Stmt := clsItem (top 2) 0
def xd_BadRule : XD := ⟨"BadRule", "BadRule.__init__", defArgs st_x_BadRule, defBody st_x_BadRule, defScope st_x_BadRule⟩
abbrev st_x_BadText : Stmt := clsItem (top 3) 0
def xd_BadText : XD := ⟨"BadText", "BadText.__init__", defArgs st_x_BadText, defBody st_x_BadText, defScope st_x_BadText⟩
abbrev st_x_BadEvents : Stmt := clsItem (top 4) 0
def xd_BadEvents : XD := ⟨"BadEvents", "BadEvents.__init__", defArgs st_x_BadEvents, defBody st_x_BadEvents, defScope st_x_BadEvents⟩
abbrev st_x_BadJournal : Stmt := clsItem (top 5) 0
def xd_BadJournal : XD := ⟨"BadJournal", "BadJournal.__init__", defArgs st_x_BadJournal, defBody st_x_BadJournal, defScope st_x_BadJournal⟩
abbrev st_x_BadPeople : Stmt := clsItem (top 6) 0
def xd_BadPeople : XD := ⟨"BadPeople", "BadPeople.__init__", defArgs st_x_BadPeople, defBody st_x_BadPeople, defScope st_x_BadPeople⟩
abbrev st_x_BadPaper : Stmt := clsItem (top 7) 0
def xd_BadPaper : XD := ⟨"BadPaper", "BadPaper.__init__", defArgs st_x_BadPaper, defBody st_x_BadPaper, defScope st_x_BadPaper⟩
abbrev st_x_BadPerson : Stmt := clsItem (top 8) 0
def xd_BadPerson : XD := ⟨"BadPerson", "BadPerson.__init__", defArgs st_x_BadPerson, defBody st_x_BadPerson, defScope st_x_BadPerson⟩
abbrev st_x_BadPromise : Stmt := clsItem (top 9) 0
def xd_BadPromise : XD := ⟨"BadPromise", "BadPromise.__init__", defArgs st_x_BadPromise, defBody st_x_BadPromise, defScope st_x_BadPromise⟩
abbrev st_x_BadMay : Stmt := clsItem (top 10) 0
def xd_BadMay : XD := ⟨"BadMay", "BadMay.__init__", defArgs st_x_BadMay, defBody st_x_BadMay, defScope st_x_BadMay⟩
abbrev st_x_BadAbsent : Stmt := clsItem (top 11) 0
def xd_BadAbsent : XD := ⟨"BadAbsent", "BadAbsent.__init__", defArgs st_x_BadAbsent, defBody st_x_BadAbsent, defScope st_x_BadAbsent⟩
abbrev st_x_BadWhat : Stmt := clsItem (top 12) 0
def xd_BadWhat : XD := ⟨"BadWhat", "BadWhat.__init__", defArgs st_x_BadWhat, defBody st_x_BadWhat, defScope st_x_BadWhat⟩
abbrev st_x_BadEvent : Stmt := clsItem (top 13) 0
def xd_BadEvent : XD := ⟨"BadEvent", "BadEvent.__init__", defArgs st_x_BadEvent, defBody st_x_BadEvent, defScope st_x_BadEvent⟩
abbrev st_x_BadWord : Stmt := clsItem (top 14) 0
def xd_BadWord : XD := ⟨"BadWord", "BadWord.__init__", defArgs st_x_BadWord, defBody st_x_BadWord, defScope st_x_BadWord⟩
abbrev st_x_BadClaim : Stmt := clsItem (top 15) 0
def xd_BadClaim : XD := ⟨"BadClaim", "BadClaim.__init__", defArgs st_x_BadClaim, defBody st_x_BadClaim, defScope st_x_BadClaim⟩
abbrev st_x_Broken : Stmt := clsItem (top 16) 0
def xd_Broken : XD := ⟨"Broken", "Broken.__init__", defArgs st_x_Broken, defBody st_x_Broken, defScope st_x_Broken⟩
abbrev st_x_Parts : Stmt := clsItem (top 17) 0
def xd_Parts : XD := ⟨"Parts", "Parts.__init__", defArgs st_x_Parts, defBody st_x_Parts, defScope st_x_Parts⟩
abbrev st_x_TooMany : Stmt := clsItem (top 18) 0
def xd_TooMany : XD := ⟨"TooMany", "TooMany.__init__", defArgs st_x_TooMany, defBody st_x_TooMany, defScope st_x_TooMany⟩
abbrev st_x_Missing : Stmt := clsItem (top 19) 0
def xd_Missing : XD := ⟨"Missing", "Missing.__init__", defArgs st_x_Missing, defBody st_x_Missing, defScope st_x_Missing⟩
def l_AskError : List (Nat × Bool) := [(1, true), (2, true), (3, true), (4, true), (5, true), (6, true), (7, true), (8, true), (9, true), (10, true), (11, true), (12, true), (13, true), (14, true), (15, true), (16, true), (17, false), (18, false)]
def l_BadRule : List (Nat × Bool) := [(1, true), (2, false), (3, false), (4, false), (5, false), (6, false), (7, false), (8, false), (9, false), (10, false), (11, false), (12, false), (13, false), (14, false), (15, false), (16, false), (17, false), (18, false)]
def l_BadText : List (Nat × Bool) := [(1, false), (2, true), (3, false), (4, false), (5, false), (6, false), (7, false), (8, false), (9, false), (10, false), (11, false), (12, false), (13, false), (14, false), (15, false), (16, false), (17, false), (18, false)]
def l_BadEvents : List (Nat × Bool) := [(1, false), (2, false), (3, true), (4, false), (5, false), (6, false), (7, false), (8, false), (9, false), (10, false), (11, false), (12, false), (13, false), (14, false), (15, false), (16, false), (17, false), (18, false)]
def l_BadJournal : List (Nat × Bool) := [(1, false), (2, false), (3, false), (4, true), (5, false), (6, false), (7, false), (8, false), (9, false), (10, false), (11, false), (12, false), (13, false), (14, false), (15, false), (16, false), (17, false), (18, false)]
def l_BadPeople : List (Nat × Bool) := [(1, false), (2, false), (3, false), (4, false), (5, true), (6, false), (7, false), (8, false), (9, false), (10, false), (11, false), (12, false), (13, false), (14, false), (15, false), (16, false), (17, false), (18, false)]
def l_BadPaper : List (Nat × Bool) := [(1, false), (2, false), (3, false), (4, false), (5, false), (6, true), (7, false), (8, false), (9, false), (10, false), (11, false), (12, false), (13, false), (14, false), (15, false), (16, false), (17, false), (18, false)]
def l_BadPerson : List (Nat × Bool) := [(1, false), (2, false), (3, false), (4, false), (5, false), (6, false), (7, true), (8, false), (9, false), (10, false), (11, false), (12, false), (13, false), (14, false), (15, false), (16, false), (17, false), (18, false)]
def l_BadPromise : List (Nat × Bool) := [(1, false), (2, false), (3, false), (4, false), (5, false), (6, false), (7, false), (8, true), (9, false), (10, false), (11, false), (12, false), (13, false), (14, false), (15, false), (16, false), (17, false), (18, false)]
def l_BadMay : List (Nat × Bool) := [(1, false), (2, false), (3, false), (4, false), (5, false), (6, false), (7, false), (8, false), (9, true), (10, false), (11, false), (12, false), (13, false), (14, false), (15, false), (16, false), (17, false), (18, false)]
def l_BadAbsent : List (Nat × Bool) := [(1, false), (2, false), (3, false), (4, false), (5, false), (6, false), (7, false), (8, false), (9, false), (10, true), (11, false), (12, false), (13, false), (14, false), (15, false), (16, false), (17, false), (18, false)]
def l_BadWhat : List (Nat × Bool) := [(1, false), (2, false), (3, false), (4, false), (5, false), (6, false), (7, false), (8, false), (9, false), (10, false), (11, true), (12, false), (13, false), (14, false), (15, false), (16, false), (17, false), (18, false)]
def l_BadEvent : List (Nat × Bool) := [(1, false), (2, false), (3, false), (4, false), (5, false), (6, false), (7, false), (8, false), (9, false), (10, false), (11, false), (12, true), (13, false), (14, false), (15, false), (16, false), (17, false), (18, false)]
def l_BadWord : List (Nat × Bool) := [(1, false), (2, false), (3, false), (4, false), (5, false), (6, false), (7, false), (8, false), (9, false), (10, false), (11, false), (12, false), (13, true), (14, false), (15, false), (16, false), (17, false), (18, false)]
def l_BadClaim : List (Nat × Bool) := [(1, false), (2, false), (3, false), (4, false), (5, false), (6, false), (7, false), (8, false), (9, false), (10, false), (11, false), (12, false), (13, false), (14, true), (15, false), (16, false), (17, false), (18, false)]
def l_Broken : List (Nat × Bool) := [(1, false), (2, false), (3, false), (4, false), (5, false), (6, false), (7, false), (8, false), (9, false), (10, false), (11, false), (12, false), (13, false), (14, false), (15, true), (16, false), (17, false), (18, false)]
def l_Parts : List (Nat × Bool) := [(1, false), (2, false), (3, false), (4, false), (5, false), (6, false), (7, false), (8, false), (9, false), (10, false), (11, false), (12, false), (13, false), (14, false), (15, false), (16, true), (17, false), (18, false)]
def lt_AskError_Missing : List (Nat × Bool) := [(1, true), (2, true), (3, true), (4, true), (5, true), (6, true), (7, true), (8, true), (9, true), (10, true), (11, true), (12, true), (13, true), (14, true), (15, true), (16, true), (17, false), (18, true)]
def lt_AskError_TooMany : List (Nat × Bool) := [(1, true), (2, true), (3, true), (4, true), (5, true), (6, true), (7, true), (8, true), (9, true), (10, true), (11, true), (12, true), (13, true), (14, true), (15, true), (16, true), (17, true), (18, false)]
def lt_TooMany_Missing : List (Nat × Bool) := [(1, false), (2, false), (3, false), (4, false), (5, false), (6, false), (7, false), (8, false), (9, false), (10, false), (11, false), (12, false), (13, false), (14, false), (15, false), (16, false), (17, true), (18, true)]
def lb_KeyError : List (Nat × Bool) := [(1, false), (2, false), (3, false), (4, false), (5, false), (6, false), (7, false), (8, false), (9, false), (10, false), (11, false), (12, false), (13, false), (14, false), (15, false), (16, false), (17, false), (18, true)]
def lb_OverflowError : List (Nat × Bool) := [(1, false), (2, false), (3, false), (4, false), (5, false), (6, false), (7, false), (8, false), (9, false), (10, false), (11, false), (12, false), (13, false), (14, false), (15, false), (16, false), (17, true), (18, false)]
def lb_ValueError : List (Nat × Bool) := [(1, true), (2, true), (3, true), (4, true), (5, true), (6, true), (7, true), (8, true), (9, true), (10, true), (11, true), (12, true), (13, true), (14, true), (15, true), (16, true), (17, false), (18, false)]
def cs_given : List Nat := [7, 8, 9, 10, 11, 12, 13, 14, 15, 16, 18]
def cs_line : List Nat := [2]
def cs_most : List Nat := [17]
def cs_number : List Nat := [3, 4, 5]
def cs_part : List Nat := [6]
def cs_place : List Nat := [1, 2]
def fa : List He.Fa := [.glo "_law_mixed", .glo "_law_begin", .glo "_law_draw", .glo "_law_things", .glo "_law_all_are", .glo "_law_fields_right", .glo "_law_made", .glo "_law_kinds_of", .glo "_law_classes_right", .glo "law", .free "KeyError", .free "OverflowError", .free "ValueError", .free "enumerate", .free "int", .free "isinstance", .free "len", .free "list", .free "range", .free "repr", .free "super", .glo "AskError", .glo "BadRule", .glo "BadText", .glo "BadEvents", .glo "BadJournal", .glo "BadPeople", .glo "BadPaper", .glo "BadPerson", .glo "BadPromise", .glo "BadMay", .glo "BadAbsent", .glo "BadWhat", .glo "BadEvent", .glo "BadWord", .glo "BadClaim", .glo "Broken", .glo "Parts", .glo "TooMany", .glo "Missing"]
def dd__law_mixed : He.DefD := ⟨("_law_mixed", none), "_law_mixed", "_law_mixed", defArgs st__law_mixed, defBody st__law_mixed, defScope st__law_mixed, [], []⟩
def dd__law_begin : He.DefD := ⟨("_law_begin", none), "_law_begin", "_law_begin", defArgs st__law_begin, defBody st__law_begin, defScope st__law_begin, [], []⟩
def dd__law_draw : He.DefD := ⟨("_law_draw", none), "_law_draw", "_law_draw", defArgs st__law_draw, defBody st__law_draw, defScope st__law_draw, [], []⟩
def dd__law_things : He.DefD := ⟨("_law_things", none), "_law_things", "_law_things", defArgs st__law_things, defBody st__law_things, defScope st__law_things, [], []⟩
def dd__law_all_are : He.DefD := ⟨("_law_all_are", none), "_law_all_are", "_law_all_are", defArgs st__law_all_are, defBody st__law_all_are, defScope st__law_all_are, [], []⟩
def dd__law_fields_right : He.DefD := ⟨("_law_fields_right", none), "_law_fields_right", "_law_fields_right", defArgs st__law_fields_right, defBody st__law_fields_right, defScope st__law_fields_right, [], []⟩
def dd__law_made : He.DefD := ⟨("_law_made", none), "_law_made", "_law_made", defArgs st__law_made, defBody st__law_made, defScope st__law_made, [], []⟩
def dd__law_kinds_of : He.DefD := ⟨("_law_kinds_of", none), "_law_kinds_of", "_law_kinds_of", defArgs st__law_kinds_of, defBody st__law_kinds_of, defScope st__law_kinds_of, [], []⟩
def dd__law_classes_right : He.DefD := ⟨("_law_classes_right", none), "_law_classes_right", "_law_classes_right", defArgs st__law_classes_right, defBody st__law_classes_right, defScope st__law_classes_right, [], []⟩
def dd_law : He.DefD := ⟨("law", none), "law", "law", defArgs st_law, defBody st_law, defScope st_law, [], []⟩
def fn : List He.DefD := [dd__law_mixed, dd__law_begin, dd__law_draw, dd__law_things, dd__law_all_are, dd__law_fields_right, dd__law_made, dd__law_kinds_of, dd__law_classes_right, dd_law]
def fileS : Str := PySem.Challenge.pw_asklast_k33_errors_by_hand.main.file
def ex0 (K : PySem.W.Frag) : List Bool := [XD.okG xbV fileS K xd_BadRule, decide (PySem.W.findIn K (.ref (cl K 1)) "place" = some none), XD.okG xbV fileS K xd_BadText, decide (PySem.W.findIn K (.ref (cl K 2)) "line" = some none), decide (PySem.W.findIn K (.ref (cl K 2)) "place" = some none), XD.okG xbV fileS K xd_BadEvents, decide (PySem.W.findIn K (.ref (cl K 3)) "number" = some none), XD.okG xbV fileS K xd_BadJournal, decide (PySem.W.findIn K (.ref (cl K 4)) "number" = some none), XD.okG xbV fileS K xd_BadPeople, decide (PySem.W.findIn K (.ref (cl K 5)) "number" = some none), XD.okG xbV fileS K xd_BadPaper]
def ex1 (K : PySem.W.Frag) : List Bool := [decide (PySem.W.findIn K (.ref (cl K 6)) "part" = some none), XD.okG xbV fileS K xd_BadPerson, decide (PySem.W.findIn K (.ref (cl K 7)) "given" = some none), XD.okG xbV fileS K xd_BadPromise, decide (PySem.W.findIn K (.ref (cl K 8)) "given" = some none), XD.okG xbV fileS K xd_BadMay, decide (PySem.W.findIn K (.ref (cl K 9)) "given" = some none), XD.okG xbV fileS K xd_BadAbsent, decide (PySem.W.findIn K (.ref (cl K 10)) "given" = some none), XD.okG xbV fileS K xd_BadWhat, decide (PySem.W.findIn K (.ref (cl K 11)) "given" = some none), XD.okG xbV fileS K xd_BadEvent]
def ex2 (K : PySem.W.Frag) : List Bool := [decide (PySem.W.findIn K (.ref (cl K 12)) "given" = some none), XD.okG xbV fileS K xd_BadWord, decide (PySem.W.findIn K (.ref (cl K 13)) "given" = some none), XD.okG xbV fileS K xd_BadClaim, decide (PySem.W.findIn K (.ref (cl K 14)) "given" = some none), XD.okG xbV fileS K xd_Broken, decide (PySem.W.findIn K (.ref (cl K 15)) "given" = some none), XD.okG xbV fileS K xd_Parts, decide (PySem.W.findIn K (.ref (cl K 16)) "given" = some none), XD.okG xbO fileS K xd_TooMany, decide (PySem.W.findIn K (.ref (cl K 17)) "most" = some none), XD.okG xbK fileS K xd_Missing]
def ex3 (K : PySem.W.Frag) : List Bool := [decide (PySem.W.findIn K (.ref (cl K 18)) "given" = some none), mtB K (cl K) 0 l_AskError, mtB K (cl K) 1 l_BadRule, mtB K (cl K) 2 l_BadText, mtB K (cl K) 3 l_BadEvents, mtB K (cl K) 4 l_BadJournal, mtB K (cl K) 5 l_BadPeople, mtB K (cl K) 6 l_BadPaper, mtB K (cl K) 7 l_BadPerson, mtB K (cl K) 8 l_BadPromise, mtB K (cl K) 9 l_BadMay, mtB K (cl K) 10 l_BadAbsent]
def ex4 (K : PySem.W.Frag) : List Bool := [mtB K (cl K) 11 l_BadWhat, mtB K (cl K) 12 l_BadEvent, mtB K (cl K) 13 l_BadWord, mtB K (cl K) 14 l_BadClaim, mtB K (cl K) 15 l_Broken, mtB K (cl K) 16 l_Parts, isXB K (cl K) (.ref (cl K 0)) l_AskError, isXB K (cl K) (.ref (cl K 1)) l_BadRule, isXB K (cl K) (.ref (cl K 2)) l_BadText, isXB K (cl K) (.ref (cl K 3)) l_BadEvents, isXB K (cl K) (.ref (cl K 4)) l_BadJournal, isXB K (cl K) (.ref (cl K 5)) l_BadPeople]
def ex5 (K : PySem.W.Frag) : List Bool := [isXB K (cl K) (.ref (cl K 6)) l_BadPaper, isXB K (cl K) (.ref (cl K 7)) l_BadPerson, isXB K (cl K) (.ref (cl K 8)) l_BadPromise, isXB K (cl K) (.ref (cl K 9)) l_BadMay, isXB K (cl K) (.ref (cl K 10)) l_BadAbsent, isXB K (cl K) (.ref (cl K 11)) l_BadWhat, isXB K (cl K) (.ref (cl K 12)) l_BadEvent, isXB K (cl K) (.ref (cl K 13)) l_BadWord, isXB K (cl K) (.ref (cl K 14)) l_BadClaim, isXB K (cl K) (.ref (cl K 15)) l_Broken, isXB K (cl K) (.ref (cl K 16)) l_Parts, isXB K (cl K) (.type "KeyError") lb_KeyError]
def ex6 (K : PySem.W.Frag) : List Bool := [isXB K (cl K) (.type "OverflowError") lb_OverflowError, isXB K (cl K) (.type "ValueError") lb_ValueError, sysB K, xkB K (cl K) cs_given "given", xkB K (cl K) cs_line "line", xkB K (cl K) cs_most "most", xkB K (cl K) cs_number "number", xkB K (cl K) cs_part "part", xkB K (cl K) cs_place "place", isXTB K (cl K) [0, 18] lt_AskError_Missing, isXTB K (cl K) [0, 17] lt_AskError_TooMany, isXTB K (cl K) [17, 18] lt_TooMany_Missing]
def ex (K : PySem.W.Frag) : Bool := allB [XD.okG xbV fileS K xd_BadRule, decide (PySem.W.findIn K (.ref (cl K 1)) "place" = some none), XD.okG xbV fileS K xd_BadText, decide (PySem.W.findIn K (.ref (cl K 2)) "line" = some none), decide (PySem.W.findIn K (.ref (cl K 2)) "place" = some none), XD.okG xbV fileS K xd_BadEvents, decide (PySem.W.findIn K (.ref (cl K 3)) "number" = some none), XD.okG xbV fileS K xd_BadJournal, decide (PySem.W.findIn K (.ref (cl K 4)) "number" = some none), XD.okG xbV fileS K xd_BadPeople, decide (PySem.W.findIn K (.ref (cl K 5)) "number" = some none), XD.okG xbV fileS K xd_BadPaper, decide (PySem.W.findIn K (.ref (cl K 6)) "part" = some none), XD.okG xbV fileS K xd_BadPerson, decide (PySem.W.findIn K (.ref (cl K 7)) "given" = some none), XD.okG xbV fileS K xd_BadPromise, decide (PySem.W.findIn K (.ref (cl K 8)) "given" = some none), XD.okG xbV fileS K xd_BadMay, decide (PySem.W.findIn K (.ref (cl K 9)) "given" = some none), XD.okG xbV fileS K xd_BadAbsent, decide (PySem.W.findIn K (.ref (cl K 10)) "given" = some none), XD.okG xbV fileS K xd_BadWhat, decide (PySem.W.findIn K (.ref (cl K 11)) "given" = some none), XD.okG xbV fileS K xd_BadEvent, decide (PySem.W.findIn K (.ref (cl K 12)) "given" = some none), XD.okG xbV fileS K xd_BadWord, decide (PySem.W.findIn K (.ref (cl K 13)) "given" = some none), XD.okG xbV fileS K xd_BadClaim, decide (PySem.W.findIn K (.ref (cl K 14)) "given" = some none), XD.okG xbV fileS K xd_Broken, decide (PySem.W.findIn K (.ref (cl K 15)) "given" = some none), XD.okG xbV fileS K xd_Parts, decide (PySem.W.findIn K (.ref (cl K 16)) "given" = some none), XD.okG xbO fileS K xd_TooMany, decide (PySem.W.findIn K (.ref (cl K 17)) "most" = some none), XD.okG xbK fileS K xd_Missing, decide (PySem.W.findIn K (.ref (cl K 18)) "given" = some none), mtB K (cl K) 0 l_AskError, mtB K (cl K) 1 l_BadRule, mtB K (cl K) 2 l_BadText, mtB K (cl K) 3 l_BadEvents, mtB K (cl K) 4 l_BadJournal, mtB K (cl K) 5 l_BadPeople, mtB K (cl K) 6 l_BadPaper, mtB K (cl K) 7 l_BadPerson, mtB K (cl K) 8 l_BadPromise, mtB K (cl K) 9 l_BadMay, mtB K (cl K) 10 l_BadAbsent, mtB K (cl K) 11 l_BadWhat, mtB K (cl K) 12 l_BadEvent, mtB K (cl K) 13 l_BadWord, mtB K (cl K) 14 l_BadClaim, mtB K (cl K) 15 l_Broken, mtB K (cl K) 16 l_Parts, isXB K (cl K) (.ref (cl K 0)) l_AskError, isXB K (cl K) (.ref (cl K 1)) l_BadRule, isXB K (cl K) (.ref (cl K 2)) l_BadText, isXB K (cl K) (.ref (cl K 3)) l_BadEvents, isXB K (cl K) (.ref (cl K 4)) l_BadJournal, isXB K (cl K) (.ref (cl K 5)) l_BadPeople, isXB K (cl K) (.ref (cl K 6)) l_BadPaper, isXB K (cl K) (.ref (cl K 7)) l_BadPerson, isXB K (cl K) (.ref (cl K 8)) l_BadPromise, isXB K (cl K) (.ref (cl K 9)) l_BadMay, isXB K (cl K) (.ref (cl K 10)) l_BadAbsent, isXB K (cl K) (.ref (cl K 11)) l_BadWhat, isXB K (cl K) (.ref (cl K 12)) l_BadEvent, isXB K (cl K) (.ref (cl K 13)) l_BadWord, isXB K (cl K) (.ref (cl K 14)) l_BadClaim, isXB K (cl K) (.ref (cl K 15)) l_Broken, isXB K (cl K) (.ref (cl K 16)) l_Parts, isXB K (cl K) (.type "KeyError") lb_KeyError, isXB K (cl K) (.type "OverflowError") lb_OverflowError, isXB K (cl K) (.type "ValueError") lb_ValueError, sysB K, xkB K (cl K) cs_given "given", xkB K (cl K) cs_line "line", xkB K (cl K) cs_most "most", xkB K (cl K) cs_number "number", xkB K (cl K) cs_part "part", xkB K (cl K) cs_place "place", isXTB K (cl K) [0, 18] lt_AskError_Missing, isXTB K (cl K) [0, 17] lt_AskError_TooMany, isXTB K (cl K) [17, 18] lt_TooMany_Missing]
def xl : List XD := [xd_BadRule, xd_BadText, xd_BadEvents, xd_BadJournal, xd_BadPeople, xd_BadPaper, xd_BadPerson, xd_BadPromise, xd_BadMay, xd_BadAbsent, xd_BadWhat, xd_BadEvent, xd_BadWord, xd_BadClaim, xd_Broken, xd_Parts, xd_TooMany, xd_Missing]
def tb : List TabS := []
abbrev Rw : PySem.W.OpenRow := PySem.W.OpenLaw.row PySem.Challenge.rw_asklast_k33_errors_by_hand
abbrev hk : PySem.W.Hook := hookES 4 fa fn ex tb xl
def ob (s : PySem.W.SharedT) : AlEX := obsESG 4 fa fn ex tb xl (HandSHeadRun.getT s)
theorem ob_eq (s : PySem.W.SharedT) : ob s = hk.obs s.abs := obsESG_eq (HandSHeadRun.getT_eq s)
def kk (s : PySem.W.SharedT) : PySem.W.Frag := He.frG (HandSHeadRun.getT s) (asY (HandSHeadRun.getT s) 4)
def nm0 : List Str := ["AskError", "BadRule", "BadText", "BadEvents", "BadJournal", "BadPeople", "BadPaper", "BadPerson", "BadPromise", "BadMay", "BadAbsent", "BadWhat", "BadEvent", "BadWord", "BadClaim", "Broken", "Parts", "TooMany", "Missing", "_law_mixed", "_law_begin", "_law_draw", "_law_things", "_law_all_are", "_law_fields_right", "_law_made", "_law_kinds_of", "_law_classes_right"]
def nms : List Str := nm0
def fa0 : List He.Fa := [.glo "_law_mixed", .glo "_law_begin", .glo "_law_draw", .glo "_law_things", .glo "_law_all_are", .glo "_law_fields_right", .glo "_law_made", .glo "_law_kinds_of", .glo "_law_classes_right", .glo "law", .free "KeyError", .free "OverflowError", .free "ValueError", .free "enumerate", .free "int", .free "isinstance", .free "len", .free "list", .free "range", .free "repr", .free "super", .glo "AskError", .glo "BadRule", .glo "BadText", .glo "BadEvents", .glo "BadJournal", .glo "BadPeople", .glo "BadPaper", .glo "BadPerson", .glo "BadPromise", .glo "BadMay", .glo "BadAbsent", .glo "BadWhat", .glo "BadEvent", .glo "BadWord", .glo "BadClaim", .glo "Broken", .glo "Parts", .glo "TooMany", .glo "Missing"]
def fn0 : List He.DefD := [dd__law_mixed, dd__law_begin, dd__law_draw, dd__law_things, dd__law_all_are, dd__law_fields_right, dd__law_made, dd__law_kinds_of, dd__law_classes_right, dd_law]
theorem rl_f (w : World) : LookEq Rw 8000 (runLook Rw (PySem.W.view Rw.prog [30]) nms (w.withFollow "special-get-raises" false)) (true, PySem.W.openGood (PySem.W.view Rw.prog [30]) nms) (w.withFollow "special-get-raises" false) := by
  intro os
  kernel_rfl
theorem rl_t (w : World) : LookEq Rw 8000 (runLook Rw (PySem.W.view Rw.prog [30]) nms (w.withFollow "special-get-raises" true)) (true, PySem.W.openGood (PySem.W.view Rw.prog [30]) nms) (w.withFollow "special-get-raises" true) := by
  intro os
  kernel_rfl
theorem rl (w : World) : LookEq Rw 8000 (runLook Rw (PySem.W.view Rw.prog [30]) nms w) (true, PySem.W.openGood (PySem.W.view Rw.prog [30]) nms) w :=
  PySem.W.byRow2 (P := fun w => LookEq Rw 8000 (runLook Rw (PySem.W.view Rw.prog [30]) nms w) (true, PySem.W.openGood (PySem.W.view Rw.prog [30]) nms) w) "special-get-raises" rl_f rl_t w
theorem rall_f (w : World) : LookEq Rw 8000 ob (hk.val (w.withFollow "special-get-raises" false)) (w.withFollow "special-get-raises" false) := by
  intro os
  kernel_rfl
theorem rall_t (w : World) : LookEq Rw 8000 ob (hk.val (w.withFollow "special-get-raises" true)) (w.withFollow "special-get-raises" true) := by
  intro os
  kernel_rfl
theorem rall (w : World) : LookEq Rw 8000 ob (hk.val w) w :=
  PySem.W.byRow2 (P := fun w => LookEq Rw 8000 ob (hk.val w) w) "special-get-raises" rall_f rall_t w
theorem run (w : World) : HandSHeadRun.RunEq Rw (PySem.W.view Rw.prog [30]) hk ob 8000 nms w := runEq_of (rl w) (EndsAt.of_look (rall w))
end L
namespace Dn
open PySem PySem.Spec PyProof.Rows L2
def R.bind {α β : Type} (r : R α) (k : α → Mem → R β) : R β :=
  match r with
  | .ok a m => k a m
  | .exc x m => .exc x m
  | .bad => .bad
abbrev DE := Rho → Mem → R W
abbrev DT := Rho → Mem → R Bool
abbrev DA := Rho → Mem → R (List W)
theorem OldL.sq {K : PySem.W.Frag} {H : Hp} {a : Addr} {xs : List V} (h : OldL K H a xs) : SqL K H a xs := by
  rcases h with h | h
  · exact .inl (.inr h)
  · exact .inr h
section
variable {K : PySem.W.Frag} {z z' : Zn} {H H' : Hp}
theorem RWs.cons {w : W} {v : V} {ws : List W} {vs : List V} (h : RW K z H w v) (t : RWs K z H ws vs) : RWs K z H (w :: ws) (v :: vs) := ⟨v, vs, rfl, h, t⟩
theorem RWs.nil : RWs K z H [] [] := rfl
theorem RWs.append : ∀ {ws us : List W} {vs xs : List V}, RWs K z H ws vs → RWs K z H us xs → RWs K z H (ws ++ us) (vs ++ xs)
  | [], _, _, _, h, t => by cases h; exact t
  | _ :: _, _, _, _, ⟨v, r, h1, h2, h3⟩, t => by subst h1; exact ⟨v, _, rfl, h2, RWs.append h3 t⟩
theorem RWs.take : ∀ {ws : List W} {vs : List V} (n : Nat), RWs K z H ws vs → RWs K z H (ws.take n) (vs.take n)
  | [], _, n, h => by cases h; simp [RWs]
  | _ :: _, _, 0, _ => by simp [RWs]
  | _ :: _, _, n + 1, ⟨v, r, h1, h2, h3⟩ => by subst h1; exact ⟨v, _, rfl, h2, RWs.take n h3⟩
theorem RWs.drop : ∀ {ws : List W} {vs : List V} (n : Nat), RWs K z H ws vs → RWs K z H (ws.drop n) (vs.drop n)
  | [], _, n, h => by cases h; simp [RWs]
  | _ :: _, _, 0, h => h
  | _ :: _, _, n + 1, ⟨v, r, h1, h2, h3⟩ => by subst h1; exact RWs.drop n h3
theorem RWs.reverse : ∀ {ws : List W} {vs : List V}, RWs K z H ws vs → RWs K z H ws.reverse vs.reverse
  | [], _, h => by cases h; simp [RWs]
  | _ :: _, _, ⟨v, r, h1, h2, h3⟩ => by
    subst h1
    rw [List.reverse_cons, List.reverse_cons]
    exact (RWs.reverse h3).append (.cons h2 .nil)
theorem RWs.set {w : W} {v : V} (hw : RW K z H w v) : ∀ {ws : List W} {vs : List V} (n : Nat), RWs K z H ws vs → RWs K z H (ws.set n w) (vs.set n v)
  | [], _, n, h => by cases h; simp [RWs]
  | _ :: _, _, 0, ⟨u, r, h1, h2, h3⟩ => by subst h1; exact ⟨v, _, rfl, hw, h3⟩
  | _ :: _, _, n + 1, ⟨u, r, h1, h2, h3⟩ => by subst h1; exact ⟨u, _, rfl, h2, RWs.set hw n h3⟩
end
section
variable {K : PySem.W.Frag} {z z' : Zn} {H H' : Hp} {α : Type}
end
theorem tabs_keep {T : List (Addr × (Nat → Nat → Str))} {H H' : Hp} (h : NdefX.TabsN T H) (k : ∀ b ps, H b = some (.tbl ps) → H' b = some (.tbl ps)) (kx : ∀ b p, H b = some (.ext p) → H' b = some (.ext p)) : NdefX.TabsN T H' := fun p hp => by
  obtain ⟨ps, h1, h2, h3⟩ := h p hp
  refine ⟨ps, k _ _ h1, h2, fun pos cv hc => ?_⟩
  obtain ⟨c, e1, e2⟩ := h3 pos cv hc
  exact ⟨c, e1, kx _ _ e2⟩
section
variable {K : PySem.W.Frag} {cl : Clz} {z z' : Zn} {H H' : Hp} {m : Mem} {r : Rho} {s : L2.St} {p : Addr} {o : HO}
theorem SlotsOk.set {i : Nat} {w : W} {v : V} (h : SlotsOk K z H r s) (q : RW K z H w v) : SlotsOk K z H (r.set i (some w)) (s.set i (some v)) := by
  refine ⟨by simp [h.1], fun j u e => ?_⟩
  by_cases hj : i = j
  · subst hj
    rw [List.getElem?_set] at e ⊢
    rw [if_pos rfl] at e ⊢
    split at e
    · rename_i hl
      rw [if_pos (by rw [← h.1]; exact hl)]
      cases e
      exact ⟨v, rfl, q⟩
    · cases e
  · rw [List.getElem?_set_ne hj] at e ⊢
    exact h.2 j u e
theorem MemOk.z_ne (M : MemOk K cl z m H) (hp : H p = none) : ¬ z.Z p := fun q => by obtain ⟨xs, e⟩ := M.lz p q; rw [hp] at e; cases e
theorem MemOk.h_ne (M : MemOk K cl z m H) (hp : H p = none) : ¬ z.hold p := fun q => by obtain ⟨xs, e, _⟩ := M.lh p q; rw [hp] at e; cases e
theorem MemOk.p_ne (M : MemOk K cl z m H) (hp : H p = none) : p ∉ z.phi := fun q => by
  obtain ⟨n, hn, e⟩ := List.getElem_of_mem q
  have hm : n < m.length := by rw [← M.len]; exact hn
  obtain ⟨u, e2⟩ := (M.cells n p m[n] (by rw [List.getElem?_eq_getElem hn, e]) (List.getElem?_eq_getElem hm)).there
  rw [hp] at e2; cases e2
theorem upd_same_of (hp : H p = none) : Same H (upd H p o) := fun b u e => by rw [upd_ne (ne_of_none e hp)]; exact e
/-- a new object is laid into the memory -/
abbrev Zn.lay (z : Zn) (p : Addr) : Zn := { z with phi := z.phi ++ [p] }
/-- settle a list that is no one's -/
theorem MemOk.settle {xs : List V} (M : MemOk K cl z m H) (hp : H p = some (.lst xs)) (n1 : ¬ z.hold p) (n2 : p ∉ z.phi) : Ext z H (z.fz p) H ∧ MemOk K cl (z.fz p) m H := by
  have e : Ext z H (z.fz p) H := ⟨⟨fun _ _ h => h, fun _ _ _ h => h, fun _ h => ⟨.inr h, rfl⟩, fun _ _ h => h, fun _ _ h => h⟩, fun _ h => ⟨h, rfl⟩⟩
  refine ⟨e, M.len, M.nd, ?_, ?_, M.lh, fun n a c h1 h2 => ?_, M.tb, cl.gx e.e0 M.gh⟩
  · rintro a (rfl | q)
    · exact n1
    · exact M.sep a q
  · rintro a (rfl | q)
    · exact ⟨_, hp⟩
    · exact M.lz a q
  · have hne : a ≠ p := fun q => n2 (q ▸ List.mem_of_getElem? h1)
    refine (M.cells n a c h1 h2).ext2 e.e0 ⟨?_, .inr⟩ (fun x => x) rfl
    rintro (q | q)
    · exact absurd q hne
    · exact q
/-- lay an object that is no one's into the memory -/
theorem MemOk.lay {c : Cell} (M : MemOk K cl z m H) (n1 : ¬ z.Z p) (n2 : p ∉ z.phi) (hc : CellOk K cl (z.lay p) H p c) : Ext z H (z.lay p) H ∧ MemOk K cl (z.lay p) (m ++ [c]) H := by
  have e : Ext z H (z.lay p) H := ⟨⟨fun _ _ h => h, fun _ _ _ h => h, fun _ h => ⟨h, rfl⟩, fun n a h => by
    have hl := (List.getElem?_eq_some_iff.mp h).1
    show (z.phi ++ [p])[n]? = some a
    rw [List.getElem?_append_left hl]
    exact h, fun _ _ h => h⟩, fun _ h => ⟨h, rfl⟩⟩
  refine ⟨e, by simp [M.len], ?_, M.sep, M.lz, M.lh, fun n a c' h1 h2 => ?_, M.tb, cl.gx e.e0 M.gh⟩
  · show (z.phi ++ [p]).Nodup
    rw [List.nodup_append]
    refine ⟨M.nd, by simp, fun a ha b hb => ?_⟩
    simp at hb
    subst hb
    exact fun q => n2 (q ▸ ha)
  · have h1 : (z.phi ++ [p])[n]? = some a := h1
    by_cases hn : n < z.phi.length
    · rw [List.getElem?_append_left hn] at h1
      rw [List.getElem?_append_left (by rw [← M.len]; exact hn)] at h2
      exact (M.cells n a c' h1 h2).ext2 e.e0 Iff.rfl (fun x => x) rfl
    · have hn' : z.phi.length ≤ n := Nat.le_of_not_lt hn
      rw [List.getElem?_append_right hn'] at h1
      rw [List.getElem?_append_right (by rw [← M.len]; exact hn')] at h2
      have hk : n - z.phi.length = 0 := by
        have := (List.getElem?_eq_some_iff.mp h1).1
        simp at this
        omega
      rw [hk] at h1
      rw [← M.len, hk] at h2
      simp at h1 h2
      subst h1 h2
      exact hc
end
end Dn
namespace Dn
open PySem PySem.Spec PyProof.Rows L2
def tG {α β : Type} (g : Gx) (rel : Zn → Hp → α → β → Prop) (f : Rho → Mem → R α) : L2.St → Hp → (β → Hp → Prop) → Prop :=
  fun s H Q => ∃ r m z, Rel g.K g.cl z r m s H ∧ Post g rel z H r s (f r m) Q
abbrev relB : Zn → Hp → Bool → Bool → Prop := fun _ _ a b => a = b
def tE (g : Gx) (f : DE) : TE := tG g (RW g.K) f
def tT (g : Gx) (f : DT) : TT := tG g relB f
def tA (g : Gx) (f : DA) : TA := tG g (RWs g.K) f
section
variable {α β γ δ : Type} {g : Gx} {rel : Zn → Hp → α → β → Prop} {rel2 : Zn → Hp → γ → δ → Prop} {z z1 : Zn} {H H1 : Hp} {r : Rho} {s : L2.St} {Q : δ → Hp → Prop} {Q1 : β → Hp → Prop}
theorem Post.mono {q : R γ} (e : Ext z H z1 H1) (h : Post g rel2 z H r s q Q) : Post g rel2 z1 H1 r s q Q := by
  cases q with
  | ok a m => exact fun z' b H' e' => h z' b H' (e.trans e')
  | exc x m => exact fun z' H' c d e' => h z' H' c d (e.trans e')
  | bad => exact h
theorem Post.bind {q : R α} {k : α → Mem → R γ} (h : Post g rel2 z H r s (q.bind k) Q)
    (hk : ∀ z1 a m1 b H1, Ext z H z1 H1 → Rel g.K g.cl z1 r m1 s H1 → rel z1 H1 a b → Post g rel2 z1 H1 r s (k a m1) Q → Q1 b H1) : Post g rel z H r s q Q1 := by
  cases q with
  | ok a m => exact fun z' b H' e R q => hk z' a m b H' e R q (Post.mono e h)
  | exc x m => exact h
  | bad => exact h
end
section
variable {X : Cx} {cl : Clz} {Wx : WX} {e a b : Expr} {pos : Pos}
theorem _root_.L2.PE.imp {t t' : TE} (h : PE X e t) (hi : ∀ s H Q, t' s H Q → t s H Q) : PE X e t' := ⟨fun pins sh s H Q I q => h.run pins sh s H Q I (hi _ _ _ q)⟩
theorem _root_.L2.PT.imp {t t' : TT} (h : PT X e t) (hi : ∀ s H Q, t' s H Q → t s H Q) : PT X e t' := ⟨fun pins sh s H Q I q => h.run pins sh s H Q I (hi _ _ _ q)⟩
theorem _root_.L2.PA.imp {es : List Expr} {t t' : TA} (h : PA X es t) (hi : ∀ s H Q, t' s H Q → t s H Q) : PA X es t' := ⟨fun po pins sh s H Q I q => h.run po pins sh s H Q I (hi _ _ _ q)⟩
def eVar (i : Nat) : DE := fun r m => match r[i]? with
  | some (some w) => .ok w m
  | _ => .bad
def eC (w : W) : DE := fun _ m => .ok w m
theorem se_v (i : Nat) {x : Str} (h : PE X (.Name x pos) (tVar i)) : PE X (.Name x pos) (tE (gx X cl Wx) (eVar i)) := by
  refine h.imp fun s H Q ⟨r, m, z, R, P⟩ => ?_
  unfold eVar at P
  split at P
  · rename_i w e
    obtain ⟨v, e1, q⟩ := R.slots.2 i w e
    exact ⟨v, e1, P.ret R q⟩
  · exact P.elim
theorem se_c {v : V} {w : W} (h : PE X e (tC v)) (hw : ∀ z H, RW X.K z H w v) : PE X e (tE (gx X cl Wx) (eC w)) :=
  h.imp fun s H Q ⟨r, m, z, R, P⟩ => P.ret R (hw z H)
theorem sv (i : Nat) {x : Str} (hN : X.N[i]? = some x := by rfl) (hv : Vis X.env.scope x := by first | exact Or.inl rfl | exact Or.inr (Or.inl rfl) | exact Or.inr (Or.inr rfl)) (hd : (x == ("__debug__" : Str)) = false := by decide)
    (hcd : (x == ("__classdict__" : Str)) = false := by decide) : PE X (.Name x pos) (tE (gx X cl Wx) (eVar i)) := se_v i (pe_var hN hv hd hcd)
theorem se_int {i : Int} {j : Nat} : PE X (.Constant (.int i) j pos) (tE (gx X cl Wx) (eC (.int i))) := se_c pe_int fun _ _ => rfl
theorem se_bl {i : Bool} {j : Nat} : PE X (.Constant (.bool i) j pos) (tE (gx X cl Wx) (eC (.bl i))) := se_c pe_bl fun _ _ => rfl
theorem se_str {i : Str} {j : Nat} : PE X (.Constant (.str i) j pos) (tE (gx X cl Wx) (eC (.str i))) := se_c pe_str fun _ _ => rfl
theorem se_non {j : Nat} : PE X (.Constant .none j pos) (tE (gx X cl Wx) (eC .non)) := se_c pe_non fun _ _ => rfl
def eBin (o : Mem → W → W → Option W) (fa fb : DE) : DE := fun r m => (fa r m).bind fun a m1 => (fb r m1).bind fun b m2 => match o m2 a b with
  | some w => .ok w m2
  | none => .bad
theorem tE_bin {o : Mem → W → W → Option W} {rr : R2} {fa fb : DE} {s : L2.St} {H : Hp} {Q : VK} {g : Gx} (hw : OpW g.K g.cl o rr) (h : tE g (eBin o fa fb) s H Q) : tOp rr (tE g fa) (tE g fb) s H Q := by
  obtain ⟨r, m, z, R, P⟩ := h
  refine ⟨r, m, z, R, P.bind fun z1 a m1 x H1 E1 R1 r1 P1 => ?_⟩
  refine ⟨r, m1, z1, R1, P1.bind fun z2 b m2 y H2 E2 R2 r2 P2 => ?_⟩
  cases q : o m2 a b with
  | none => rw [q] at P2; exact P2.elim
  | some w =>
    rw [q] at P2
    exact hw z2 m2 H2 a b x y w Q R2.mem (RW.ext E2 r1) r2 q fun z' v H' e M rw' => P2 z' v H' e (R2.after e M) rw'
theorem se_op {op : Operator} {o : Mem → W → W → Option W} {rr : R2} {fa fb : DE} (ho : OpR X (binaryOp op) rr) (hw : OpW X.K cl o rr) (ha : PE X a (tE (gx X cl Wx) fa)) (hb : PE X b (tE (gx X cl Wx) fb)) :
    PE X (.BinOp a op b pos) (tE (gx X cl Wx) (eBin o fa fb)) := (pe_op ho ha hb).imp fun s H Q h => tE_bin (g := gx X cl Wx) hw h
theorem se_cmp {op : CmpOp} {o : Mem → W → W → Option W} {rr : R2} {fa fb : DE} (ho : OpR X (compareOp op) rr) (hw : OpW X.K cl o rr) (ha : PE X a (tE (gx X cl Wx) fa)) (hb : PE X b (tE (gx X cl Wx) fb)) (hm : behindInMarks op b = false) :
    PE X (.Compare a [op] [b] pos) (tE (gx X cl Wx) (eBin o fa fb)) := (pe_cmpR ho ha hb hm).imp fun s H Q h => tE_bin (g := gx X cl Wx) hw h
theorem se_ix {o : Mem → W → W → Option W} {rr : R2} {fa fb : DE} (ho : IxR X rr) (hw : OpW X.K cl o rr) (ha : PE X a (tE (gx X cl Wx) fa)) (hb : PE X b (tE (gx X cl Wx) fb)) (hs : PlainIx b := by exact fun _ _ => rfl) :
    PE X (.Subscript a b pos) (tE (gx X cl Wx) (eBin o fa fb)) := (pe_ix ho ha hb hs).imp fun s H Q h => tE_bin (g := gx X cl Wx) hw h
/-- a value as a test: a bool -/
def dTest (f : DE) : DT := fun r m => (f r m).bind fun w m1 => match w with
  | .bl b => .ok b m1
  | _ => .bad
theorem tT_test {f : DE} {s : L2.St} {H : Hp} {Q : Bool → Hp → Prop} {g : Gx} (h : tT g (dTest f) s H Q) : tTest (tE g f) s H Q := by
  obtain ⟨r, m, z, R, P⟩ := h
  refine ⟨r, m, z, R, P.bind fun z1 a m1 x H1 E1 R1 r1 P1 => ?_⟩
  cases a with
  | bl k =>
    have r1 : x = .bl k := r1
    exact ⟨k, r1, Post.ret (b := k) P1 R1 rfl⟩
  | _ => exact P1.elim
theorem st_cmp {op : CmpOp} {o : Mem → W → W → Option W} {rr : R2} {fa fb : DE} (ho : OpR X (compareOp op) rr) (hw : OpW X.K cl o rr) (ha : PE X a (tE (gx X cl Wx) fa)) (hb : PE X b (tE (gx X cl Wx) fb)) (hm : behindInMarks op b = false) :
    PT X (.Compare a [op] [b] pos) (tT (gx X cl Wx) (dTest (eBin o fa fb))) := (pt_cmpR ho ha hb hm).imp fun s H Q h => by
  have h' := tT_test h
  unfold tTest at h' ⊢
  exact tE_bin (g := gx X cl Wx) hw h'
/-- an expression whose value is a bool, as a test -/
theorem st_val {f : DE} (h : PE X e (tE (gx X cl Wx) f)) (he : ∀ whole, isTrue e X.env whole = (do let v ← whole; standAt e.pos; holding [v] (truthy v)) := by intro _; rfl) : PT X e (tT (gx X cl Wx) (dTest f)) :=
  (pt_val h he).imp fun s H Q h => tT_test h
def dAnd (f h : DT) : DT := fun r m => (f r m).bind fun c m1 => if c = true then h r m1 else .ok false m1
def dOr (f h : DT) : DT := fun r m => (f r m).bind fun c m1 => if c = true then .ok true m1 else h r m1
def dNot (f : DT) : DT := fun r m => (f r m).bind fun c m1 => .ok (!c) m1
theorem sw_or1 {f : DT} (h : PT X a (tT (gx X cl Wx) f)) : PW X (.BoolOp .Or [a] pos) (tT (gx X cl Wx) f) := pw_or1 h
theorem _root_.L2.PW.imp {t t' : TT} (h : PW X e t) (hi : ∀ s H Q, t' s H Q → t s H Q) : PW X e t' := ⟨fun wh pins sh s H Q I q => h.run wh pins sh s H Q I (hi _ _ _ q)⟩
theorem sw_or {f h : DT} {rest : List Expr} (ha : PT X a (tT (gx X cl Wx) f)) (hb : PW X (.BoolOp .Or (b :: rest) pos) (tT (gx X cl Wx) h)) : PW X (.BoolOp .Or (a :: b :: rest) pos) (tT (gx X cl Wx) (dOr f h)) :=
  (pw_or ha hb).imp fun s H Q ⟨r, m, z, R, P⟩ => by
    refine ⟨r, m, z, R, P.bind fun z1 c m1 d H1 E1 R1 r1 P1 => ?_⟩
    have r1 : c = d := r1
    subst r1
    cases c with
    | false => exact ⟨r, m1, z1, R1, P1⟩
    | true => exact Post.ret (b := true) P1 R1 rfl
theorem st_not {f : DT} (ha : PT X a (tT (gx X cl Wx) f)) : PT X (.UnaryOp .Not a pos) (tT (gx X cl Wx) (dNot f)) :=
  (pt_not ha).imp fun s H Q ⟨r, m, z, R, P⟩ => by
    refine ⟨r, m, z, R, P.bind fun z1 c m1 d H1 E1 R1 r1 P1 => ?_⟩
    have r1 : c = d := r1
    subst r1
    exact Post.ret (b := !c) P1 R1 rfl
/-- as values -/
def eAnd (f h : DE) : DE := fun r m => (f r m).bind fun w m1 => match w with
  | .bl true => h r m1
  | .bl false => .ok (.bl false) m1
  | _ => .bad
def eOr (f h : DE) : DE := fun r m => (f r m).bind fun w m1 => match w with
  | .bl false => h r m1
  | .bl true => .ok (.bl true) m1
  | _ => .bad
def eNot (f : DE) : DE := fun r m => (f r m).bind fun w m1 => match w with
  | .bl b => .ok (.bl (!b)) m1
  | _ => .bad
theorem se_and {f h : DE} {rest : List Expr} (ha : PE X a (tE (gx X cl Wx) f)) (hb : PE X (.BoolOp .And (b :: rest) pos) (tE (gx X cl Wx) h)) : PE X (.BoolOp .And (a :: b :: rest) pos) (tE (gx X cl Wx) (eAnd f h)) :=
  (pe_and ha hb).imp fun s H Q ⟨r, m, z, R, P⟩ => by
    refine ⟨r, m, z, R, P.bind fun z1 c m1 d H1 E1 R1 r1 P1 => ?_⟩
    cases c with
    | bl k =>
      have r1 : d = .bl k := r1
      refine ⟨k, r1, ?_⟩
      cases k with
      | true => exact ⟨r, m1, z1, R1, P1⟩
      | false => exact Post.ret (b := V.bl false) P1 R1 rfl
    | _ => exact P1.elim
theorem se_one {op : BoolOp} {f : DE} (h : PE X a (tE (gx X cl Wx) f)) : PE X (.BoolOp op [a] pos) (tE (gx X cl Wx) f) := pe_one h
theorem se_not {f : DE} (ha : PE X a (tE (gx X cl Wx) f)) : PE X (.UnaryOp .Not a pos) (tE (gx X cl Wx) (eNot f)) :=
  (pe_not ha).imp fun s H Q ⟨r, m, z, R, P⟩ => by
    refine ⟨r, m, z, R, P.bind fun z1 c m1 d H1 E1 R1 r1 P1 => ?_⟩
    cases c with
    | bl k =>
      have r1 : d = .bl k := r1
      exact ⟨k, r1, Post.ret (b := V.bl (!k)) P1 R1 rfl⟩
    | _ => exact P1.elim
def eIf (c : DT) (f h : DE) : DE := fun r m => (c r m).bind fun k m1 => if k = true then f r m1 else h r m1
theorem se_if {c : Expr} {fc : DT} {f h : DE} (hc : PT X c (tT (gx X cl Wx) fc)) (ha : PE X a (tE (gx X cl Wx) f)) (hb : PE X b (tE (gx X cl Wx) h)) : PE X (.IfExp c a b pos) (tE (gx X cl Wx) (eIf fc f h)) :=
  (pe_ifExp hc ha hb).imp fun s H Q ⟨r, m, z, R, P⟩ => by
    refine ⟨r, m, z, R, P.bind fun z1 c m1 d H1 E1 R1 r1 P1 => ?_⟩
    have r1 : c = d := r1
    subst r1
    cases c with
    | true => exact ⟨r, m1, z1, R1, P1⟩
    | false => exact ⟨r, m1, z1, R1, P1⟩
def aNil : DA := fun _ m => .ok [] m
def aCons (f : DE) (t : DA) : DA := fun r m => (f r m).bind fun w m1 => (t r m1).bind fun ws m2 => .ok (w :: ws) m2
theorem sa_nil : PA X [] (tA (gx X cl Wx) aNil) := pa_nil.imp fun s H Q ⟨r, m, z, R, P⟩ => Post.ret (b := ([] : List V)) P R rfl
theorem sa_cons {es : List Expr} {f : DE} {t : DA} (h : PE X e (tE (gx X cl Wx) f)) (ht : PA X es (tA (gx X cl Wx) t)) (hs : starEach (e :: es) X.env = (false, eval e X.env) :: starEach es X.env := by rfl) : PA X (e :: es) (tA (gx X cl Wx) (aCons f t)) :=
  (pa_cons h ht hs).imp fun s H Q ⟨r, m, z, R, P⟩ => by
    refine ⟨r, m, z, R, P.bind fun z1 w m1 x H1 E1 R1 r1 P1 => ?_⟩
    refine ⟨r, m1, z1, R1, P1.bind fun z2 ws m2 xs H2 E2 R2 r2 P2 => ?_⟩
    exact Post.ret (b := x :: xs) P2 R2 (RWs.cons (RW.ext E2 r1) r2)
/-- the items of a list or a tuple -/
def seqOf (m : Mem) : W → Option (List W)
  | .tup xs => some xs
  | .lst xs => some xs
  | .old xs => some xs
  | .ref n => match m[n]? with
    | some (.lst xs) => some xs
    | some (.fz xs) => some xs
    | _ => none
  | _ => none
/-- .. of a list -/
def lstOf (m : Mem) : W → Option (List W)
  | .lst xs => some xs
  | .old xs => some xs
  | .ref n => match m[n]? with
    | some (.lst xs) => some xs
    | some (.fz xs) => some xs
    | _ => none
  | _ => none
theorem lst_at {K : PySem.W.Frag} {z : Zn} {m : Mem} {H : Hp} {w : W} {v : V} {xs : List W} (M : MemOk K cl z m H) (h : RW K z H w v) (e : lstOf m w = some xs) : ∃ a vs, v = .ref a ∧ SqL K H a vs ∧ RWs K z H xs vs := by
  cases w with
  | lst ys =>
    obtain ⟨a, vs, h1, h2, h3⟩ := h
    have e : ys = xs := by simpa [lstOf] using e
    subst e
    exact ⟨a, vs, h1, SqL.of h2.2, h3⟩
  | old ys =>
    obtain ⟨a, vs, h1, h2, h3⟩ := h
    have e : ys = xs := by simpa [lstOf] using e
    subst e
    exact ⟨a, vs, h1, h2.sq, h3⟩
  | ref n =>
    obtain ⟨a, h1, h2⟩ := h
    obtain ⟨c, e1, hc⟩ := M.at h1
    simp only [lstOf, e1] at e
    cases c with
    | lst ys =>
      obtain ⟨_, _, vs, q, rr⟩ := hc
      have e : ys = xs := by simpa using e
      subst e
      exact ⟨a, vs, h2, SqL.of q, rr⟩
    | fz ys =>
      obtain ⟨_, vs, q, rr⟩ := hc
      have e : ys = xs := by simpa using e
      subst e
      exact ⟨a, vs, h2, SqL.of q, rr⟩
    | _ => simp at e
  | _ => simp [lstOf] at e
theorem seq_at {K : PySem.W.Frag} {z : Zn} {m : Mem} {H : Hp} {w : W} {v : V} {xs : List W} (M : MemOk K cl z m H) (h : RW K z H w v) (e : seqOf m w = some xs) : ∃ a vs, v = .ref a ∧ (SqL K H a vs ∨ SqT K H a vs) ∧ RWs K z H xs vs := by
  cases w with
  | tup ys =>
    obtain ⟨a, vs, h1, h2, h3⟩ := h
    have e : ys = xs := by simpa [seqOf] using e
    subst e
    exact ⟨a, vs, h1, .inr h2, h3⟩
  | lst ys =>
    obtain ⟨a, vs, h1, h2, h3⟩ := lst_at M h (xs := xs) (by simpa [seqOf, lstOf] using e)
    exact ⟨a, vs, h1, .inl h2, h3⟩
  | old ys =>
    obtain ⟨a, vs, h1, h2, h3⟩ := lst_at M h (xs := xs) (by simpa [seqOf, lstOf] using e)
    exact ⟨a, vs, h1, .inl h2, h3⟩
  | ref n =>
    obtain ⟨a, vs, h1, h2, h3⟩ := lst_at M h (xs := xs) (by unfold lstOf; unfold seqOf at e; exact e)
    exact ⟨a, vs, h1, .inl h2, h3⟩
  | _ => simp [seqOf] at e
/-- .. of a list that is tracked: no module's, not the script -/
def trkOf (m : Mem) : W → Option (List W)
  | .lst xs => some xs
  | .ref n => match m[n]? with
    | some (.lst xs) => some xs
    | some (.fz xs) => some xs
    | _ => none
  | _ => none
theorem trk_at {K : PySem.W.Frag} {z : Zn} {m : Mem} {H : Hp} {w : W} {v : V} {xs : List W} (M : MemOk K cl z m H) (h : RW K z H w v) (e : trkOf m w = some xs) : ∃ a vs, v = .ref a ∧ H a = some (.lst vs) ∧ RWs K z H xs vs := by
  cases w with
  | lst ys =>
    obtain ⟨a, vs, h1, h2, h3⟩ := h
    have e : ys = xs := by simpa [trkOf] using e
    subst e
    exact ⟨a, vs, h1, h2.2, h3⟩
  | ref n =>
    obtain ⟨a, h1, h2⟩ := h
    obtain ⟨c, e1, hc⟩ := M.at h1
    simp only [trkOf, e1] at e
    cases c with
    | lst ys =>
      obtain ⟨_, _, vs, q, rr⟩ := hc
      have e : ys = xs := by simpa using e
      subst e
      exact ⟨a, vs, h2, q, rr⟩
    | fz ys =>
      obtain ⟨_, vs, q, rr⟩ := hc
      have e : ys = xs := by simpa using e
      subst e
      exact ⟨a, vs, h2, q, rr⟩
    | _ => simp at e
  | _ => simp [trkOf] at e
/-- *e, .. -/
def aStar (f : DE) (t : DA) : DA := fun r m => (f r m).bind fun w m1 => match seqOf m1 w with
  | some xs => (t r m1).bind fun ws m2 => .ok (xs ++ ws) m2
  | none => .bad
/-- a new tuple -/
theorem new_tup {K : PySem.W.Frag} {z : Zn} {m : Mem} {H : Hp} {p : Addr} {ws : List W} {vs : List V} (M : MemOk K cl z m H) (hp : H p = none) (h : RWs K z H ws vs) : Ext z H z (upd H p (.tup vs)) ∧ MemOk K cl z m (upd H p (.tup vs)) ∧ RW K z (upd H p (.tup vs)) (.tup ws) (.ref p) := by
  have hs := upd_same_of (o := .tup vs) hp
  exact ⟨M.extS hs, M.same hs, p, vs, rfl, SqT.of upd_same, RWs.ext (M.extS hs) h⟩
/-- a new list that is settled at once -/
theorem new_lst {K : PySem.W.Frag} {z : Zn} {m : Mem} {H : Hp} {p : Addr} {ws : List W} {vs : List V} (M : MemOk K cl z m H) (hp : H p = none) (h : RWs K z H ws vs) : Ext z H (z.fz p) (upd H p (.lst vs)) ∧ MemOk K cl (z.fz p) m (upd H p (.lst vs)) ∧ RW K (z.fz p) (upd H p (.lst vs)) (.lst ws) (.ref p) := by
  have hs := upd_same_of (o := .lst vs) hp
  have e := M.extS hs
  obtain ⟨e2, M2⟩ := (M.same hs).settle (p := p) upd_same (M.h_ne hp) (M.p_ne hp)
  exact ⟨e.trans e2, M2, p, vs, rfl, ⟨.inl rfl, upd_same⟩, RWs.ext (e.trans e2) h⟩
def eTup (t : DA) : DE := fun r m => (t r m).bind fun ws m1 => if ws.length ≤ 16777216 then .ok (.tup ws) m1 else .bad
def eLst (t : DA) : DE := fun r m => (t r m).bind fun ws m1 => if ws.length ≤ 16777216 then .ok (.lst ws) m1 else .bad
theorem sl_le {n : Nat} (h : n ≤ 16777216) : n ≤ sizeLine := by rw [sizeLine_eq]; exact h
theorem se_tup {es : List Expr} {x1} {t : DA} (h : PA X es (tA (gx X cl Wx) t)) : PE X (.Tuple es x1 pos) (tE (gx X cl Wx) (eTup t)) :=
  (pe_tup h).imp fun s H Q ⟨r, m, z, R, P⟩ => by
    refine ⟨r, m, z, R, P.bind fun z1 ws m1 vs H1 E1 R1 r1 P1 => ?_⟩
    split at P1
    · rename_i hl
      refine ⟨by rw [RWs.length r1]; exact sl_le hl, fun p hp => ?_⟩
      obtain ⟨e, M, q⟩ := new_tup (cl := cl) R1.mem hp r1
      exact P1 _ _ _ e (R1.after e M) q
    · exact P1.elim
theorem se_lst {es : List Expr} {t : DA} (h : PA X es (tA (gx X cl Wx) t)) : PE X (.List es pos) (tE (gx X cl Wx) (eLst t)) :=
  (pe_lst h).imp fun s H Q ⟨r, m, z, R, P⟩ => by
    refine ⟨r, m, z, R, P.bind fun z1 ws m1 vs H1 E1 R1 r1 P1 => ?_⟩
    split at P1
    · rename_i hl
      refine ⟨by rw [RWs.length r1]; exact sl_le hl, fun p hp => ?_⟩
      obtain ⟨e, M, q⟩ := new_lst (cl := cl) R1.mem hp r1
      exact P1 _ _ _ e (R1.after e M) q
    · exact P1.elim
/-- a new list that may change -/
theorem new_ref {K : PySem.W.Frag} {z : Zn} {m : Mem} {H : Hp} {p : Addr} {ws : List W} {vs : List V} (M : MemOk K cl z m H) (hp : H p = none) (h : RWs K z H ws vs) : Ext z H (z.lay p) (upd H p (.lst vs)) ∧ MemOk K cl (z.lay p) (m ++ [.lst ws]) (upd H p (.lst vs)) ∧ RW K (z.lay p) (upd H p (.lst vs)) (.ref m.length) (.ref p) := by
  have hs := upd_same_of (o := .lst vs) hp
  have e := M.extS hs
  have e2 : Ext z (upd H p (.lst vs)) (z.lay p) (upd H p (.lst vs)) := ⟨⟨fun _ _ h => h, fun _ _ _ h => h, fun _ h => ⟨h, rfl⟩, fun n a h => by
    have hl := (List.getElem?_eq_some_iff.mp h).1
    show (z.phi ++ [p])[n]? = some a
    rw [List.getElem?_append_left hl]
    exact h, fun _ _ h => h⟩, fun _ h => ⟨h, rfl⟩⟩
  obtain ⟨e3, M2⟩ := (M.same hs).lay (p := p) (c := .lst ws) (M.z_ne hp) (M.p_ne hp) ⟨M.z_ne hp, M.h_ne hp, vs, upd_same, RWs.ext (e.trans e2) h⟩
  refine ⟨e.trans e2, M2, p, ?_, rfl⟩
  show (z.phi ++ [p])[m.length]? = some p
  rw [← M.len]
  simp
def eLstM (t : DA) : DE := fun r m => (t r m).bind fun ws m1 => if ws.length ≤ 16777216 then .ok (.ref m1.length) (m1 ++ [.lst ws]) else .bad
theorem se_lstM {es : List Expr} {t : DA} (h : PA X es (tA (gx X cl Wx) t)) : PE X (.List es pos) (tE (gx X cl Wx) (eLstM t)) :=
  (pe_lst h).imp fun s H Q ⟨r, m, z, R, P⟩ => by
    refine ⟨r, m, z, R, P.bind fun z1 ws m1 vs H1 E1 R1 r1 P1 => ?_⟩
    split at P1
    · rename_i hl
      refine ⟨by rw [RWs.length r1]; exact sl_le hl, fun p hp => ?_⟩
      obtain ⟨e, M, q⟩ := new_ref (cl := cl) R1.mem hp r1
      exact P1 _ _ _ e (R1.after e M) q
    · exact P1.elim
end
end Dn
namespace Dn
open PySem PySem.Spec PyProof.Rows L2
section
variable {K : PySem.W.Frag} {cl : Clz} {X : Cx}
def iOp (f : Int → Int → Option W) : Mem → W → W → Option W
  | _, .int i, .int j => f i j
  | _, _, _ => none
theorem opw_int {f : Int → Int → Option W} {C : Int → Int → Prop} {h : Int → Int → V} (hf : ∀ i j w, f i j = some w → C i j ∧ ∀ z H, RW K z H w (h i j)) : OpW K cl (iOp f) (rI C h) := by
  intro z m H a b x y w Q M ra rb e k
  cases a with
  | int i =>
    cases b with
    | int j =>
      obtain ⟨c, q⟩ := hf i j w e
      exact ⟨i, j, ra, rb, c, k z _ H (Ext.refl _ _) M (q z H)⟩
    | _ => simp [iOp] at e
  | _ => simp [iOp] at e
theorem opw_int0 {f : Int → Int → Option W} {h : Int → Int → V} (hf : ∀ i j w, f i j = some w → ∀ z H, RW K z H w (h i j)) : OpW K cl (iOp f) (rI0 h) := by
  intro z m H a b x y w Q M ra rb e k
  cases a with
  | int i =>
    cases b with
    | int j => exact ⟨i, j, ra, rb, k z _ H (Ext.refl _ _) M (hf i j w e z H)⟩
    | _ => simp [iOp] at e
  | _ => simp [iOp] at e
def subW : Mem → W → W → Option W := iOp fun i j => some (.int (i - j))
def fdivW : Mem → W → W → Option W := iOp fun i j => if 0 < j ∧ j < 1073741824 then some (.int (i / j)) else none
def modW : Mem → W → W → Option W := iOp fun i j => if 0 < j then some (.int (i % j)) else none
def powW : Mem → W → W → Option W := iOp fun i j => if 0 ≤ j ∧ j ≤ 1000000 ∧ i.natAbs < 2 ^ 64 then some (.int (i ^ j.toNat)) else none
def ltW : Mem → W → W → Option W := iOp fun i j => some (.bl (decide (i < j)))
def leW : Mem → W → W → Option W := iOp fun i j => some (.bl (decide (i ≤ j)))
def gtW : Mem → W → W → Option W := iOp fun i j => some (.bl (decide (j < i)))
def geW : Mem → W → W → Option W := iOp fun i j => some (.bl (decide (j ≤ i)))
theorem w_fdiv : OpW K cl fdivW (rI CDiv fun i j => .int (i / j)) := opw_int fun i j w e => by
  split at e
  · rename_i c; cases e; exact ⟨c, fun _ _ => rfl⟩
  · cases e
theorem w_mod : OpW K cl modW (rI (fun _ j => 0 < j) fun i j => .int (i % j)) := opw_int fun i j w e => by
  split at e
  · rename_i c; cases e; exact ⟨c, fun _ _ => rfl⟩
  · cases e
theorem w_pow : OpW K cl powW (rI CPow fun i j => .int (i ^ j.toNat)) := opw_int fun i j w e => by
  split at e
  · rename_i c; cases e; exact ⟨c, fun _ _ => rfl⟩
  · cases e
theorem w_gt : OpW K cl gtW (rI0 fun i j => .bl (decide (j < i))) := opw_int0 fun i j w e z H => by cases e; rfl
theorem w_ge : OpW K cl geW (rI0 fun i j => .bl (decide (j ≤ i))) := opw_int0 fun i j w e z H => by cases e; rfl
def addS : Mem → W → W → Option W
  | _, .str x, .str y => if x.length + y.length ≤ 16777216 then some (.str (x ++ y)) else none
  | _, _, _ => none
def addT : Mem → W → W → Option W
  | _, .tup xs, .tup ys => if xs.length + ys.length ≤ 16777216 then some (.tup (xs ++ ys)) else none
  | _, _, _ => none
def addL : Mem → W → W → Option W := fun m a b => match trkOf m a, trkOf m b with
  | some xs, some ys => if xs.length + ys.length ≤ 16777216 then some (.lst (xs ++ ys)) else none
  | _, _ => none
theorem w_addS : OpW K cl addS (fun x y H Q => ∃ i j, x = .str i ∧ y = .str j ∧ i.length + j.length ≤ sizeLine ∧ Q (.str (i ++ j)) H) := by
  intro z m H a b x y w Q M ra rb e k
  cases a with
  | str i =>
    cases b with
    | str j =>
      simp only [addS] at e
      split at e
      · rename_i c; cases e; exact ⟨i, j, ra, rb, sl_le c, k z _ H (Ext.refl _ _) M rfl⟩
      · cases e
    | _ => simp [addS] at e
  | _ => simp [addS] at e
theorem RWs.nil_iff {z : Zn} {H : Hp} {ws : List W} {vs : List V} (h : RWs K z H ws vs) : vs = [] ↔ ws = [] := by
  have := h.length
  constructor
  · intro q; subst q; exact List.length_eq_zero_iff.mp this.symm
  · intro q; subst q; exact List.length_eq_zero_iff.mp this
theorem w_addT : OpW K cl addT (rCatA K) := by
  intro z m H a b x y w Q M ra rb e k
  cases a with
  | tup xs =>
    cases b with
    | tup ys =>
      simp only [addT] at e
      split at e
      · rename_i c
        cases e
        obtain ⟨p, vs, e1, e2, e3⟩ := ra
        obtain ⟨q, us, f1, f2, f3⟩ := rb
        refine ⟨p, q, vs, us, e1, f1, e2, f2, ?_, fun hn => ?_, fun _ hn => ?_, fun _ _ l hl => ?_⟩
        · rw [e3.length, f3.length]; exact sl_le c
        · have hx : xs = [] := e3.nil_iff.mp hn
          subst hx
          exact k z _ H (Ext.refl _ _) M ⟨q, us, rfl, f2, f3⟩
        · have hx : ys = [] := f3.nil_iff.mp hn
          subst hx
          rw [List.append_nil] at k
          exact k z _ H (Ext.refl _ _) M ⟨p, vs, rfl, e2, e3⟩
        · obtain ⟨t1, t2, t3⟩ := new_tup (cl := cl) M hl (e3.append f3)
          exact k _ _ _ t1 t2 t3
      · cases e
    | _ => simp [addT] at e
  | _ => simp [addT] at e
theorem w_addL : OpW K cl addL rCat := by
  intro z m H a b x y w Q M ra rb e k
  unfold addL at e
  split at e
  · rename_i xs ys e1 e2
    split at e
    · rename_i c
      cases e
      obtain ⟨p, vs, a1, a2, a3⟩ := trk_at M ra e1
      obtain ⟨q, us, b1, b2, b3⟩ := trk_at M rb e2
      refine ⟨p, q, vs, us, a1, b1, a2, b2, by rw [a3.length, b3.length]; exact sl_le c, fun l hl => ?_⟩
      obtain ⟨t1, t2, t3⟩ := new_lst (cl := cl) M hl (a3.append b3)
      exact k _ _ _ t1 t2 t3
    · cases e
  · cases e
def addI : Mem → W → W → Option W := iOp fun i j => some (.int (i + j))
theorem w_addI : OpW K cl addI (rI0 fun i j => .int (i + j)) := opw_int0 fun i j w e z H => by cases e; rfl
def addW (m : Mem) (a b : W) : Option W := match a, b with
  | .int i, .int j => some (.int (i + j))
  | .str x, .str y => addS m (.str x) (.str y)
  | .tup x, .tup y => addT m (.tup x) (.tup y)
  | a, b => addL m a b
abbrev rAddW (K : PySem.W.Frag) : R2 := fun x y H Q => (rI0 fun i j => .int (i + j)) x y H Q ∨ (fun x y H Q => (fun x y H Q => ∃ i j, x = V.str i ∧ y = V.str j ∧ i.length + j.length ≤ sizeLine ∧ Q (V.str (i ++ j)) H) x y H Q ∨ (fun x y H Q => rCatA K x y H Q ∨ rCat x y H Q) x y H Q) x y H Q
theorem o_add : OpR X (binaryOp .Add) (rAddW X.K) := op_add.or (op_add_str.or (op_catA.or op_cat))
theorem w_add : OpW K cl addW (rAddW K) := by
  refine OpW.or (o1 := addI) (o2 := fun m a b => match a, b with
    | .str x, .str y => addS m (.str x) (.str y)
    | .tup x, .tup y => addT m (.tup x) (.tup y)
    | a, b => addL m a b) w_addI (OpW.or (o1 := addS) (o2 := fun m a b => match a, b with
    | .tup x, .tup y => addT m (.tup x) (.tup y)
    | a, b => addL m a b) w_addS (OpW.or (o1 := addT) (o2 := addL) w_addT w_addL ?_) ?_) ?_
  · intro m a b w e
    split at e
    · exact .inl e
    · exact .inr e
  · intro m a b w e
    split at e
    · exact .inl e
    · exact .inr e
    · exact .inr (by rename_i h1 h2; split <;> first | exact e | (rename_i h; exact absurd rfl (h2 _ _ rfl)))
  · intro m a b w e
    unfold addW at e
    split at e
    · exact .inl e
    · exact .inr e
    · exact .inr e
    · refine .inr ?_
      rename_i h1 h2 h3
      split
      · exact absurd rfl (h2 _ _ rfl)
      · exact absurd rfl (h3 _ _ rfl)
      · exact e
def mulI : Mem → W → W → Option W := iOp fun i j => if (-(2 ^ 64) < i ∧ i < 2 ^ 64) ∨ (-(2 ^ 64) < j ∧ j < 2 ^ 64) then some (.int (i * j)) else none
theorem w_mulI : OpW K cl mulI (rI CMul fun i j => .int (i * j)) := opw_int fun i j w e => by
  split at e
  · rename_i c; cases e; exact ⟨c, fun _ _ => rfl⟩
  · cases e
def mulL : Mem → W → W → Option W := fun m a b => match trkOf m a, b with
  | some xs, .int k => if -(2 ^ 63) ≤ k ∧ k < 2 ^ 63 ∧ xs.length * k.toNat ≤ 16777216 then some (.lst (List.replicate k.toNat xs).flatten) else none
  | _, _ => none
theorem RWs.rep {z : Zn} {H : Hp} {ws : List W} {vs : List V} (h : RWs K z H ws vs) : ∀ k : Nat, RWs K z H (List.replicate k ws).flatten (List.replicate k vs).flatten
  | 0 => rfl
  | k + 1 => by
    rw [List.replicate_succ, List.replicate_succ, List.flatten_cons, List.flatten_cons]
    exact h.append (RWs.rep h k)
theorem w_mulL : OpW K cl mulL rRep := by
  intro z m H a b x y w Q M ra rb e k
  unfold mulL at e
  split at e
  · rename_i xs j e1
    split at e
    · rename_i c
      cases e
      obtain ⟨p, vs, a1, a2, a3⟩ := trk_at M ra e1
      refine ⟨p, j, vs, a1, rb, a2, c.1, c.2.1, by rw [a3.length]; exact sl_le c.2.2, fun l hl => ?_⟩
      obtain ⟨t1, t2, t3⟩ := new_lst (cl := cl) M hl (a3.rep j.toNat)
      exact k _ _ _ t1 t2 t3
    · cases e
  · cases e
def mulW (m : Mem) (a b : W) : Option W := match a, b with
  | .int i, .int j => mulI m (.int i) (.int j)
  | a, b => mulL m a b
theorem o_mul : OpR X (binaryOp .Mult) (fun x y H Q => (rI CMul fun i j => .int (i * j)) x y H Q ∨ rRep x y H Q) := op_mul.or op_rep
theorem w_mul : OpW K cl mulW (fun x y H Q => (rI CMul fun i j => .int (i * j)) x y H Q ∨ rRep x y H Q) := by
  refine OpW.or (o1 := mulI) (o2 := mulL) w_mulI w_mulL ?_
  intro m a b w e
  unfold mulW at e
  split at e
  · exact .inl e
  · exact .inr e
mutual
def okW (n : Nat) : W → Bool
  | .non => true
  | .bl _ => true
  | .int _ => true
  | .str x => PyData.strOk x
  | .tup xs => match n with
    | 0 => false
    | k + 1 => okWs k xs
  | .lst xs => match n with
    | 0 => false
    | k + 1 => okWs k xs
  | .old xs => match n with
    | 0 => false
    | k + 1 => okWs k xs
  | .ref _ => false
  | .raw _ => false
def okWs (n : Nat) : List W → Bool
  | [] => true
  | w :: ws => okW n w && okWs n ws
end
mutual
def toD : W → PyData
  | .non => .none
  | .bl b => .bool b
  | .int i => .int i
  | .str x => .str x
  | .tup xs => .tuple (toDs xs)
  | .lst xs => .list (toDs xs)
  | .old xs => .list (toDs xs)
  | .ref _ => .none
  | .raw _ => .none
def toDs : List W → List PyData
  | [] => []
  | w :: ws => toD w :: toDs ws
end
mutual
def eqW : W → W → Bool
  | .non, .non => true
  | .bl a, .bl b => a == b
  | .bl a, .int j => (if a then 1 else 0) == j
  | .int i, .bl b => i == (if b then 1 else 0)
  | .int i, .int j => i == j
  | .str x, .str y => x == y
  | .tup xs, .tup ys => eqWs xs ys
  | .lst xs, .lst ys => eqWs xs ys
  | .lst xs, .old ys => eqWs xs ys
  | .old xs, .lst ys => eqWs xs ys
  | .old xs, .old ys => eqWs xs ys
  | _, _ => false
def eqWs : List W → List W → Bool
  | [], [] => true
  | x :: xs, y :: ys => eqW x y && eqWs xs ys
  | _, _ => false
end
mutual
theorem okW_lay : ∀ (n : Nat) (w : W), okW n w = true → (toD w).canLay0 = true ∧ (toD w).depth ≤ n
  | n, .non, _ => ⟨rfl, Nat.zero_le _⟩
  | n, .bl _, _ => ⟨rfl, Nat.zero_le _⟩
  | n, .int _, _ => ⟨rfl, Nat.zero_le _⟩
  | n, .str x, h => ⟨by simpa [toD, PyData.canLay0, okW] using h, by simp [toD, PyData.depth]⟩
  | 0, .tup xs, h => by simp [okW] at h
  | n + 1, .tup xs, h => by
    obtain ⟨h1, h2⟩ := okWs_lay n xs (by simpa [okW] using h)
    exact ⟨by simpa [toD, PyData.canLay0] using h1, by simpa [toD, PyData.depth] using h2⟩
  | 0, .lst xs, h => by simp [okW] at h
  | n + 1, .lst xs, h => by
    obtain ⟨h1, h2⟩ := okWs_lay n xs (by simpa [okW] using h)
    exact ⟨by simpa [toD, PyData.canLay0] using h1, by simpa [toD, PyData.depth] using h2⟩
  | 0, .old xs, h => by simp [okW] at h
  | n + 1, .old xs, h => by
    obtain ⟨h1, h2⟩ := okWs_lay n xs (by simpa [okW] using h)
    exact ⟨by simpa [toD, PyData.canLay0] using h1, by simpa [toD, PyData.depth] using h2⟩
  | n, .ref _, h => by simp [okW] at h
  | n, .raw _, h => by simp [okW] at h
theorem okWs_lay : ∀ (n : Nat) (ws : List W), okWs n ws = true → PyData.canLayAll0 (toDs ws) = true ∧ PyData.depthAll (toDs ws) ≤ n
  | n, [], _ => ⟨rfl, Nat.zero_le _⟩
  | n, w :: ws, h => by
    rw [okWs, Bool.and_eq_true_iff] at h
    obtain ⟨h1, h2⟩ := okW_lay n w h.1
    obtain ⟨h3, h4⟩ := okWs_lay n ws h.2
    exact ⟨by simp [toDs, PyData.canLayAll0, h1, h3], by simp only [toDs, PyData.depthAll]; omega⟩
end
theorem okW_shaped {n : Nat} {w : W} (h : okW n w = true) (hn : n ≤ 64) : SeqAt.shaped (toD w) = true := by
  obtain ⟨h1, h2⟩ := okW_lay n w h
  unfold SeqAt.shaped
  rw [h1, Bool.true_and]
  exact decide_eq_true (Nat.le_trans h2 hn)
mutual
theorem eqv_toD : ∀ (n k : Nat) (a b : W), okW n a = true → okW k b = true → PyData.eqv (toD a) (toD b) = eqW a b
  | n, k, .non, b, ha, hb => by cases b <;> first | rfl | simp [okW] at hb
  | n, k, .bl x, b, ha, hb => by cases b <;> first | rfl | simp [okW] at hb
  | n, k, .int x, b, ha, hb => by cases b <;> first | rfl | simp [okW] at hb
  | n, k, .str x, b, ha, hb => by cases b <;> first | rfl | simp [okW] at hb
  | 0, k, .tup xs, b, ha, hb => by simp [okW] at ha
  | n + 1, k, .tup xs, b, ha, hb => by
    cases b with
    | tup ys =>
      cases k with
      | zero => simp [okW] at hb
      | succ k =>
        simp only [toD, PyData.eqv, eqW]
        exact eqv_toDs n k xs ys (by simpa [okW] using ha) (by simpa [okW] using hb)
    | ref _ => simp [okW] at hb
    | raw _ => simp [okW] at hb
    | _ => rfl
  | 0, k, .lst xs, b, ha, hb => by simp [okW] at ha
  | n + 1, k, .lst xs, b, ha, hb => by
    cases b with
    | lst ys =>
      cases k with
      | zero => simp [okW] at hb
      | succ k =>
        simp only [toD, PyData.eqv, eqW]
        exact eqv_toDs n k xs ys (by simpa [okW] using ha) (by simpa [okW] using hb)
    | old ys =>
      cases k with
      | zero => simp [okW] at hb
      | succ k =>
        simp only [toD, PyData.eqv, eqW]
        exact eqv_toDs n k xs ys (by simpa [okW] using ha) (by simpa [okW] using hb)
    | ref _ => simp [okW] at hb
    | raw _ => simp [okW] at hb
    | _ => rfl
  | 0, k, .old xs, b, ha, hb => by simp [okW] at ha
  | n + 1, k, .old xs, b, ha, hb => by
    cases b with
    | lst ys =>
      cases k with
      | zero => simp [okW] at hb
      | succ k =>
        simp only [toD, PyData.eqv, eqW]
        exact eqv_toDs n k xs ys (by simpa [okW] using ha) (by simpa [okW] using hb)
    | old ys =>
      cases k with
      | zero => simp [okW] at hb
      | succ k =>
        simp only [toD, PyData.eqv, eqW]
        exact eqv_toDs n k xs ys (by simpa [okW] using ha) (by simpa [okW] using hb)
    | ref _ => simp [okW] at hb
    | raw _ => simp [okW] at hb
    | _ => rfl
  | n, k, .ref _, b, ha, hb => by simp [okW] at ha
  | n, k, .raw _, b, ha, hb => by simp [okW] at ha
theorem eqv_toDs : ∀ (n k : Nat) (as bs : List W), okWs n as = true → okWs k bs = true → PyData.eqvAll (toDs as) (toDs bs) = eqWs as bs
  | n, k, [], [], _, _ => rfl
  | n, k, [], _ :: _, _, _ => rfl
  | n, k, _ :: _, [], _, _ => rfl
  | n, k, a :: as, b :: bs, ha, hb => by
    rw [okWs, Bool.and_eq_true_iff] at ha hb
    simp only [toDs, PyData.eqvAll, eqWs]
    rw [eqv_toD n k a b ha.1 hb.1, eqv_toDs n k as bs ha.2 hb.2]
end
mutual
theorem dp_of {z : Zn} {H : Hp} : ∀ {n : Nat} {w : W} {v : V}, okW n w = true → RW K z H w v → Dp K H v (toD w)
  | _, .non, _, _, h => by cases h; exact .non
  | _, .bl _, _, _, h => by cases h; exact .bl _
  | _, .int _, _, _, h => by cases h; exact .int _
  | _, .str _, _, _, h => by cases h; exact .str _
  | 0, .tup ws, _, ho, _ => by simp [okW] at ho
  | n + 1, .tup ws, _, ho, ⟨a, vs, h1, h2, h3⟩ => by subst h1; exact .tup h2 (dps_of (n := n) (by simpa [okW] using ho) h3)
  | 0, .lst ws, _, ho, _ => by simp [okW] at ho
  | n + 1, .lst ws, _, ho, ⟨a, vs, h1, h2, h3⟩ => by subst h1; exact .lst (SqL.of h2.2) (dps_of (n := n) (by simpa [okW] using ho) h3)
  | 0, .old ws, _, ho, _ => by simp [okW] at ho
  | n + 1, .old ws, _, ho, ⟨a, vs, h1, h2, h3⟩ => by subst h1; exact .lst h2.sq (dps_of (n := n) (by simpa [okW] using ho) h3)
  | _, .ref _, _, ho, _ => by simp [okW] at ho
  | _, .raw _, _, ho, _ => by simp [okW] at ho
theorem dps_of {z : Zn} {H : Hp} : ∀ {n : Nat} {ws : List W} {vs : List V}, okWs n ws = true → RWs K z H ws vs → DpAll K H vs (toDs ws)
  | _, [], _, _, h => by cases h; exact .nil
  | _, _ :: _, _, ho, ⟨v, r, h1, h2, h3⟩ => by
    subst h1
    rw [okWs, Bool.and_eq_true_iff] at ho
    exact .cons (dp_of ho.1 h2) (dps_of ho.2 h3)
end
/-- a list that may change, as it is now -/
def rsv (m : Mem) : W → W
  | .ref n => match m[n]? with
    | some (.lst xs) => .lst xs
    | some (.fz xs) => .lst xs
    | _ => .ref n
  | w => w
theorem dp_rsv {z : Zn} {m : Mem} {H : Hp} {n : Nat} {w : W} {v : V} (M : MemOk K cl z m H) (ho : okW n (rsv m w) = true) (h : RW K z H w v) : Dp K H v (toD (rsv m w)) := by
  cases w with
  | ref i =>
    obtain ⟨a, h1, h2⟩ := h
    obtain ⟨c, e1, hc⟩ := M.at h1
    subst h2
    simp only [rsv, e1] at ho ⊢
    cases c with
    | lst ys =>
      obtain ⟨_, _, vs, q, rr⟩ := hc
      cases n with
      | zero => simp [okW] at ho
      | succ n => exact .lst (SqL.of q) (dps_of (n := n) (by simpa [okW] using ho) rr)
    | fz ys =>
      obtain ⟨_, vs, q, rr⟩ := hc
      cases n with
      | zero => simp [okW] at ho
      | succ n => exact .lst (SqL.of q) (dps_of (n := n) (by simpa [okW] using ho) rr)
    | _ => simp [okW] at ho
  | _ => exact dp_of ho h
def eqM (m : Mem) (a b : W) : Option W := if okW 60 (rsv m a) && okW 60 (rsv m b) then some (.bl (eqW (rsv m a) (rsv m b))) else none
def neM (m : Mem) (a b : W) : Option W := if okW 60 (rsv m a) && okW 60 (rsv m b) then some (.bl (!eqW (rsv m a) (rsv m b))) else none
theorem w_eq : OpW K cl eqM (rEqD K) := by
  intro z m H a b x y w Q M ra rb e k
  unfold eqM at e
  split at e
  · rename_i c
    rw [Bool.and_eq_true_iff] at c
    cases e
    refine ⟨_, _, dp_rsv M c.1 ra, dp_rsv M c.2 rb, okW_shaped c.1 (by decide), okW_shaped c.2 (by decide), ?_⟩
    rw [eqv_toD _ _ _ _ c.1 c.2]
    exact k z _ H (Ext.refl _ _) M rfl
  · cases e
theorem w_ne : OpW K cl neM (rNeD K) := by
  intro z m H a b x y w Q M ra rb e k
  unfold neM at e
  split at e
  · rename_i c
    rw [Bool.and_eq_true_iff] at c
    cases e
    refine ⟨_, _, dp_rsv M c.1 ra, dp_rsv M c.2 rb, okW_shaped c.1 (by decide), okW_shaped c.2 (by decide), ?_⟩
    rw [eqv_toD _ _ _ _ c.1 c.2]
    exact k z _ H (Ext.refl _ _) M rfl
  · cases e
def anyEq (a : W) : List W → Bool
  | [] => false
  | y :: ys => eqW y a || anyEq a ys
def inM (neg : Bool) (m : Mem) (a b : W) : Option W := match seqOf m b with
  | some ys => if okW 60 (rsv m a) && okWs 60 ys then some (.bl (if neg then !anyEq (rsv m a) ys else anyEq (rsv m a) ys)) else none
  | none => none
def ixM (m : Mem) (a b : W) : Option W := match seqOf m a, b with
  | some xs, .int i => atI xs i
  | _, _ => none
theorem atI_rel {z : Zn} {H : Hp} {ws : List W} {vs : List V} {i : Int} {w : W} (h : RWs K z H ws vs) (e : atI ws i = some w) : ∃ v, atI vs i = some v ∧ RW K z H w v := by
  unfold atI at e ⊢
  rw [h.length]
  cases q : ixN ws.length i with
  | none => rw [q] at e; cases e
  | some j =>
    rw [q] at e
    obtain ⟨v, e1, e2⟩ := h.get (i := j) (w := w) (by simpa using e)
    exact ⟨v, by simpa using e1, e2⟩
theorem w_ix : OpW K cl ixM (rIx K) := by
  intro z m H a b x y w Q M ra rb e k
  unfold ixM at e
  split at e
  · rename_i xs i q
    obtain ⟨p, vs, e1, e2, e3⟩ := seq_at M ra q
    obtain ⟨v, f1, f2⟩ := atI_rel e3 e
    rcases e2 with e2 | e2
    · exact .inl ⟨p, vs, i, v, e1, rb, e2, f1, k z _ H (Ext.refl _ _) M f2⟩
    · exact .inr (.inl ⟨p, vs, i, v, e1, rb, e2, f1, k z _ H (Ext.refl _ _) M f2⟩)
  · cases e
end
end Dn
namespace Dn
open PySem PySem.Spec PyProof.Rows L2
def tS (g : Gx) (f : DS) : TS := fun D s H => ∃ r m z, Rel g.K g.cl z r m s H ∧ PostS g z H (f r m) D
def R.thenS {α : Type} (q : R α) (r : Rho) (k : α → Mem → RS) : RS :=
  match q with
  | .ok a m => k a m
  | .exc x m => .exc x r m
  | .bad => .bad
section
variable {α β : Type} {g : Gx} {rel : Zn → Hp → α → β → Prop} {z z1 : Zn} {H H1 : Hp} {r : Rho} {s : L2.St} {D : Ends} {Q1 : β → Hp → Prop}
theorem PostS.mono {q : RS} (e : Ext z H z1 H1) (h : PostS g z H q D) : PostS g z1 H1 q D := by
  cases q with
  | next r m => exact fun z' s' H' e' => h z' s' H' (e.trans e')
  | brk r m => exact fun z' s' H' e' => h z' s' H' (e.trans e')
  | cont r m => exact fun z' s' H' e' => h z' s' H' (e.trans e')
  | ret w m => exact fun z' v H' e' => h z' v H' (e.trans e')
  | exc x r m => exact fun z' s' H' c d e' => h z' s' H' c d (e.trans e')
  | bad => exact h
theorem PostS.bind {q : R α} {k : α → Mem → RS} (h : PostS g z H (q.thenS r k) D)
    (hk : ∀ z1 a m1 b H1, Ext z H z1 H1 → Rel g.K g.cl z1 r m1 s H1 → rel z1 H1 a b → PostS g z1 H1 (k a m1) D → Q1 b H1) : Post g rel z H r s q Q1 := by
  cases q with
  | ok a m => exact fun z' b H' e R q => hk z' a m b H' e R q (PostS.mono e h)
  | exc x m => exact fun z' H' c d e R q => h z' s H' c d e R q
  | bad => exact h
end
section
variable {X : Cx} {cl : Clz} {Wx : WX} {e a b : Expr} {pos : Pos} {st : Stmt}
theorem _root_.L2.PS.imp {t t' : TS} (h : PS X st t) (hi : ∀ D s H, t' D s H → t D s H) : PS X st t' := ⟨fun pins sh s H D I q => h.run pins sh s H D I (hi _ _ _ q)⟩
theorem _root_.L2.PSs.imp {sts : List Stmt} {t t' : TS} (h : PSs X sts t) (hi : ∀ D s H, t' D s H → t D s H) : PSs X sts t' := ⟨fun pins sh s H D I q => h.run pins sh s H D I (hi _ _ _ q)⟩
def sNil : DS := fun r m => .next r m
def sSeq (f h : DS) : DS := fun r m => match f r m with
  | .next r1 m1 => h r1 m1
  | q => q
theorem ss_nil : PSs X [] (tS (gx X cl Wx) sNil) := pss_nil.imp fun D s H ⟨r, m, z, R, P⟩ => P.next R
theorem ss_cons {rest : List Stmt} {f h : DS} (h1 : PS X st (tS (gx X cl Wx) f)) (h2 : PSs X rest (tS (gx X cl Wx) h)) : PSs X (st :: rest) (tS (gx X cl Wx) (sSeq f h)) :=
  (pss_cons h1 h2).imp fun D s H ⟨r, m, z, R, P⟩ => by
    refine ⟨r, m, z, R, ?_⟩
    unfold sSeq at P
    cases q : f r m with
    | next r1 m1 =>
      rw [q] at P
      exact fun z' s' H' e R' => ⟨r1, m1, z', R', PostS.mono e P⟩
    | brk r1 m1 => rw [q] at P; exact P
    | cont r1 m1 => rw [q] at P; exact P
    | ret w m1 => rw [q] at P; exact P
    | exc x r1 m1 => rw [q] at P; exact P
    | bad => rw [q] at P; exact P
theorem ss_one {f : DS} (h1 : PS X st (tS (gx X cl Wx) f)) : PSs X [st] (tS (gx X cl Wx) f) := pss_one h1
def sPass : DS := fun r m => .next r m
def sBrk : DS := fun r m => .brk r m
def sCont : DS := fun r m => .cont r m
def sExpr (f : DE) : DS := fun r m => (f r m).thenS r fun _ m1 => .next r m1
theorem ss_expr {f : DE} (he : PE X e (tE (gx X cl Wx) f)) (hs : swapsWith e none pos.line X.env = pure false := by rfl) : PS X (.Expr e pos) (tS (gx X cl Wx) (sExpr f)) :=
  (ps_expr he hs).imp fun D s H ⟨r, m, z, R, P⟩ => ⟨r, m, z, R, P.bind fun z1 w m1 v H1 E1 R1 r1 P1 => P1.next R1⟩
def sRet (f : DE) : DS := fun r m => (f r m).thenS r fun w m1 => .ret w m1
theorem ss_ret {f : DE} (he : PE X e (tE (gx X cl Wx) f)) : PS X (.Return (some e) pos) (tS (gx X cl Wx) (sRet f)) :=
  (ps_ret he).imp fun D s H ⟨r, m, z, R, P⟩ => ⟨r, m, z, R, P.bind fun z1 w m1 v H1 E1 R1 r1 P1 => P1 z1 v H1 (Ext.refl _ _) R1.mem r1⟩
def sRetN : DS := fun _ m => .ret .non m
def sIf (c : DT) (f h : DS) : DS := fun r m => (c r m).thenS r fun k m1 => if k = true then f r m1 else h r m1
theorem ss_if {c : Expr} {xs ys : List Stmt} {fc : DT} {f h : DS} (hc : PT X c (tT (gx X cl Wx) fc)) (ha : PSs X xs (tS (gx X cl Wx) f)) (hb : PSs X ys (tS (gx X cl Wx) h)) : PS X (.If c xs ys pos) (tS (gx X cl Wx) (sIf fc f h)) :=
  (ps_if hc ha hb).imp fun D s H ⟨r, m, z, R, P⟩ => by
    refine ⟨r, m, z, R, P.bind (rel := relB) fun z1 k m1 d H1 E1 R1 r1 P1 => ?_⟩
    have r1 : k = d := r1
    subst r1
    cases k with
    | true => exact ⟨r, m1, z1, R1, P1⟩
    | false => exact ⟨r, m1, z1, R1, P1⟩
theorem Agree.set (i : Nat) (s : L2.St) (v : Option V) : Agree [i] s (s.set i v) := ⟨by simp, fun j h => List.getElem?_set_ne (by intro q; exact h (by simp [q]))⟩
def tGt (K : PySem.W.Frag) (cl : Clz) (js : List Nat) (f : DG) : TG := fun v s H Q => ∃ w r m z, Rel K cl z r m s H ∧ RW K z H w v ∧ match f w r with
  | some r' => ∀ s', Rel K cl z r' m s' H → Agree js s s' → Q s' H
  | none => False
def tGts (K : PySem.W.Frag) (cl : Clz) (js : List Nat) (f : List W → Rho → Option Rho) : TGs := fun vs s H Q => ∃ ws r m z, Rel K cl z r m s H ∧ RWs K z H ws vs ∧ match f ws r with
  | some r' => ∀ s', Rel K cl z r' m s' H → Agree js s s' → Q s' H
  | none => False
def gN (i : Nat) : DG := fun w r => some (r.set i (some w))
def gsNil : List W → Rho → Option Rho := fun ws r => match ws with
  | [] => some r
  | _ => none
def gsCons (f : DG) (t : List W → Rho → Option Rho) : List W → Rho → Option Rho := fun ws r => match ws with
  | w :: ws => (f w r).bind fun r1 => t ws r1
  | [] => none
def gT (t : List W → Rho → Option Rho) : DG := fun w r => match w with
  | .tup ws => t ws r
  | _ => none
theorem _root_.L2.PG.imp {tg : Expr} {t t' : TG} (h : PG X tg t) (hi : ∀ v s H Q, t' v s H Q → t v s H Q) : PG X tg t' := ⟨fun pins sh s H v u Q I rv q => h.run pins sh s H v u Q I rv (hi _ _ _ _ q)⟩
theorem _root_.L2.PGs.imp {tg : List Expr} {t t' : TGs} (h : PGs X tg t) (hi : ∀ v s H Q, t' v s H Q → t v s H Q) : PGs X tg t' := ⟨fun pins sh s H v u Q I rv q => h.run pins sh s H v u Q I rv (hi _ _ _ _ q)⟩
theorem sg_name {i : Nat} {x : Str} (h : PG X (.Name x pos) (gName i)) : PG X (.Name x pos) (tGt X.K cl [i] (gN i)) :=
  h.imp fun v s H Q ⟨w, r, m, z, R, q, k⟩ => k _ ⟨R.slots.set q, R.mem⟩ (Agree.set i s _)
theorem sgs_nil : PGs X [] (tGts X.K cl [] gsNil) := pgs_nil.imp fun vs s H Q ⟨ws, r, m, z, R, q, k⟩ => by
  cases ws with
  | nil => exact ⟨q, k s R (Agree.refl _ _)⟩
  | cons w ws => exact k.elim
theorem sgs_cons {es : List Expr} {js ks : List Nat} {f : DG} {t : List W → Rho → Option Rho} (h1 : PG X e (tGt X.K cl js f)) (h2 : PGs X es (tGts X.K cl ks t))
    (hs : (assignEach (e :: es) X.env).map (·.2) = assign e X.env :: (assignEach es X.env).map (·.2) := by rfl) : PGs X (e :: es) (tGts X.K cl (js ++ ks) (gsCons f t)) :=
  (pgs_cons h1 h2 hs).imp fun vs s H Q ⟨ws, r, m, z, R, q, k⟩ => by
    cases ws with
    | nil => exact k.elim
    | cons w ws =>
      obtain ⟨v, vr, e1, q1, q2⟩ := q
      refine ⟨v, vr, e1, w, r, m, z, R, q1, ?_⟩
      simp only [gsCons] at k
      cases e2 : f w r with
      | none => rw [e2] at k; exact k.elim
      | some r1 =>
        rw [e2] at k
        refine fun s' R' a1 => ⟨ws, r1, m, z, R', q2, ?_⟩
        simp only [Option.bind] at k
        cases e3 : t ws r1 with
        | none => rw [e3] at k; exact k
        | some r2 => rw [e3] at k; exact fun s2 R2 a2 => k s2 R2 (a1.trans a2)
theorem sg_tup {es : List Expr} {x1 : Nat} {js : List Nat} {t : List W → Rho → Option Rho} {n : Nat} (hc : X.calm = true) (h : PGs X es (tGts X.K cl js t)) (ht : ∀ ws r r', t ws r = some r' → ws.length = n)
    (hn : (assignEach es X.env).length = n := by rfl) (hst : (assignEach es X.env).findIdx? (·.1) = none := by rfl) : PG X (.Tuple es x1 pos) (tGt X.K cl js (gT t)) :=
  (pg_tup hc h hn hst).imp fun v s H Q ⟨w, r, m, z, R, q, k⟩ => by
    cases w with
    | tup ws =>
      obtain ⟨p, vs, e1, e2, e3⟩ := q
      refine ⟨p, vs, e1, e2, ?_, ws, r, m, z, R, e3, k⟩
      simp only [gT] at k
      cases e4 : t ws r with
      | none => rw [e4] at k; exact k.elim
      | some r' => rw [e3.length]; exact ht ws r r' e4
    | _ => exact k.elim
theorem gsNil_len : ∀ ws r r', gsNil ws r = some r' → ws.length = 0 := fun ws r r' h => by
  cases ws with
  | nil => rfl
  | cons w ws => cases h
theorem gsCons_len {f : DG} {t : List W → Rho → Option Rho} {n : Nat} (ht : ∀ ws r r', t ws r = some r' → ws.length = n) : ∀ ws r r', gsCons f t ws r = some r' → ws.length = n + 1 := fun ws r r' h => by
  cases ws with
  | nil => cases h
  | cons w ws =>
    simp only [gsCons] at h
    cases e : f w r with
    | none => rw [e] at h; cases h
    | some r1 => rw [e] at h; rw [List.length_cons, ht ws r1 r' h]
/-- x = e; a, b, .. = e -/
def sAsg (f : DE) (t : DG) : DS := fun r m => (f r m).thenS r fun w m1 => match t w r with
  | some r' => .next r' m1
  | none => .bad
theorem ss_asg {tg : Expr} {js : List Nat} {f : DE} {t : DG} (he : PE X e (tE (gx X cl Wx) f)) (hg : PG X tg (tGt X.K cl js t)) (hs : swapsWithSole [tg] e pos.line X.env = pure false := by rfl) (hw : swappedStores [tg] e X.env = pure none := by rfl)
    (h1 : (assignEach [tg] X.env).map (·.2) = [assign tg X.env] := by rfl) : PS X (.Assign [tg] e pos) (tS (gx X cl Wx) (sAsg f t)) :=
  (ps_asg he hg hs hw h1).imp fun D s H ⟨r, m, z, R, P⟩ => ⟨r, m, z, R, P.bind fun z1 w m1 v H1 E1 R1 r1 P1 => by
    refine ⟨w, r, m1, z1, R1, r1, ?_⟩
    cases e2 : t w r with
    | none => rw [e2] at P1; exact P1
    | some r' => rw [e2] at P1; exact fun s' R' _ => P1 z1 s' H1 (Ext.refl _ _) R'⟩
def sSet (i : Nat) (f : DE) : DS := fun r m => (f r m).thenS r fun w m1 => .next (r.set i (some w)) m1
theorem ss_set {i : Nat} {x : Str} {f : DE} {pos' : Pos} (hN : X.N.Nodup) (hi : X.N[i]? = some x) (hx : Loc X.env.scope x) (he : PE X e (tE (gx X cl Wx) f)) (hs : swapsWith e (some (.Name x pos')) pos.line X.env = pure false := by rfl) (hf : X.fn x = true ∨ X.env.scope.names.lookup x = some .local := by first | exact .inl rfl | exact .inr rfl | assumption) :
    PS X (.Assign [.Name x pos'] e pos) (tS (gx X cl Wx) (sSet i f)) :=
  (ps_set hN hi hx he hs hf).imp fun D s H ⟨r, m, z, R, P⟩ => ⟨r, m, z, R, P.bind fun z1 w m1 v H1 E1 R1 r1 P1 => P1 z1 _ H1 (Ext.refl _ _) ⟨R1.slots.set r1, R1.mem⟩⟩
/-- a, b = x, y by names -/
def sPar (i j : Nat) (t : DA) : DS := fun r m => (t r m).thenS r fun ws m1 => match ws with
  | [u, w] => .next ((r.set i (some u)).set j (some w)) m1
  | _ => .bad
theorem ss_par {i j : Nat} {x y : Str} {t : DA} {px py pt : Pos} {kt k2 pt2} (hc : X.calm = true) (hN : X.N.Nodup) (hi : X.N[i]? = some x) (hj : X.N[j]? = some y) (hij : i ≠ j)
    (hx : X.env.scope.names.lookup x = some .local) (hy : X.env.scope.names.lookup y = some .local) (ha : PA X [a, b] (tA (gx X cl Wx) t))
    (hw : swappedStores [.Tuple [.Name x px, .Name y py] kt pt] (.Tuple [a, b] k2 pt2) X.env = pure (some [x, y]))
    (hs : swapsWithSole [.Tuple [.Name x px, .Name y py] kt pt] (.Tuple [a, b] k2 pt2) pos.line X.env = pure false := by rfl) :
    PS X (.Assign [.Tuple [.Name x px, .Name y py] kt pt] (.Tuple [a, b] k2 pt2) pos) (tS (gx X cl Wx) (sPar i j t)) :=
  (ps_par hc hN hi hj hij hx hy ha hw hs).imp fun D s H ⟨r, m, z, R, P⟩ => ⟨r, m, z, R, P.bind (rel := RWs X.K) fun z1 ws m1 vs H1 E1 R1 r1 P1 => by
    split at P1
    · rename_i u w
      obtain ⟨v, vr, e1, q1, v2, vr2, e2, q2, e3⟩ := r1
      subst e1 e2 e3
      exact ⟨v, v2, rfl, P1 z1 _ H1 (Ext.refl _ _) ⟨(R1.slots.set q1).set q2, R1.mem⟩⟩
    · exact P1.elim⟩
/-- x op= e -/
def sAug (i : Nat) (o : Mem → W → W → Option W) (f : DE) : DS := fun r m => match r[i]? with
  | some (some a) => (f r m).thenS r fun b m1 => match o m1 a b with
    | some w => .next (r.set i (some w)) m1
    | none => .bad
  | _ => .bad
/-- J tells ws, item by item, as long as the heap goes on -/
def Walks (K : PySem.W.Frag) (z : Zn) (H : Hp) (ws : List W) (J : It) : Prop := ws.length ≤ sizeLine ∧ ∀ z2 H2, Ext0 z H z2 H2 → ∀ i : Nat, (i = ws.length → J.stop i H2) ∧
  ∀ w, ws[i]? = some w → J.go i H2 ∧ ∀ x H3, J.yld i H2 x H3 → Same H2 H3 ∧ ∀ z3, Ext0 z2 H2 z3 H3 → RW K z3 H3 w x
def tI (g : Gx) (f : DA) : TI := fun s H Rr => tG g (Walks g.K) f s H Rr
theorem _root_.L2.PI.imp {tg : Expr} {t t' : TI} (h : PI X tg e t) (hi : ∀ s H Rr, t' s H Rr → t s H Rr) : PI X tg e t' := ⟨fun pins sh s H Rr I q => h.run pins sh s H Rr I (hi _ _ _ q)⟩
/-- the items of a tuple or a settled list -/
def iSeq (f : DE) : DA := fun r m => (f r m).bind fun w m1 => match w with
  | .tup xs => .ok xs m1
  | .lst xs => .ok xs m1
  | .old xs => .ok xs m1
  | _ => .bad
theorem walks_t {K : PySem.W.Frag} {z : Zn} {H : Hp} {ws : List W} {vs : List V} {p : Addr} (hl : vs.length ≤ sizeLine) (h : SqT K H p vs) (q : RWs K z H ws vs) : Walks K z H ws (Itt K p) := ⟨by rw [← q.length]; exact hl, fun z2 H2 e i => by
  have h2 := e.sqT h
  have q2 := RWs.ext0 e q
  refine ⟨fun hi => ⟨vs, h2, by rw [q.length]; exact Nat.le_of_eq hi.symm⟩, fun w hw => ?_⟩
  obtain ⟨v, e1, e2⟩ := q2.get hw
  refine ⟨⟨vs, v, h2, e1⟩, fun x H3 y => ?_⟩
  obtain ⟨y1, y2⟩ := y
  subst y1
  refine ⟨Same.refl _, fun z3 e3 => ?_⟩
  have := y2 vs h2
  rw [e1] at this
  cases this
  exact e2.ext0 e3⟩
theorem walks_l {K : PySem.W.Frag} {z : Zn} {H : Hp} {ws : List W} {vs : List V} {p : Addr} (hl : vs.length ≤ sizeLine) (h : ∀ z2 H2, Ext0 z H z2 H2 → SqL K H2 p vs) (q : RWs K z H ws vs) : Walks K z H ws (Itl K p) := ⟨by rw [← q.length]; exact hl, fun z2 H2 e i => by
  have h2 := h z2 H2 e
  have q2 := RWs.ext0 e q
  refine ⟨fun hi => ⟨vs, h2, by rw [q.length]; exact Nat.le_of_eq hi.symm⟩, fun w hw => ?_⟩
  obtain ⟨v, e1, e2⟩ := q2.get hw
  refine ⟨⟨vs, v, h2, e1⟩, fun x H3 y => ?_⟩
  obtain ⟨y1, y2⟩ := y
  subst y1
  refine ⟨Same.refl _, fun z3 e3 => ?_⟩
  have := y2 vs h2
  rw [e1] at this
  cases this
  exact e2.ext0 e3⟩
theorem pi_inv {tg : Expr} {t : TI} (h : PI X tg e t) : PI X tg e (fun s H Rr => t s H fun J H' => (∃ pins s2, Inv X pins s H' s2) → Rr J H') := ⟨fun pins sh s H Rr I q =>
  thn (h.run pins sh s H _ I q) fun v s1 h1 => thn h1 fun itv s2 ⟨it, fp, tn, J, H', e, I2, T, st, f2, k⟩ => ⟨it, fp, tn, J, H', e, I2, T, st, f2, k ⟨_, _, I2⟩⟩⟩
theorem si_seq {tg : Expr} {f : DE} (h : PE X e (tE (gx X cl Wx) f)) : PI X tg e (tI (gx X cl Wx) (iSeq f)) := by
  refine ⟨fun pins sh s H Rr I h0 => ?_⟩
  obtain ⟨r, m, z, R, P⟩ := h0
  cases q : f r m with
  | ok w m1 =>
    unfold iSeq at P
    rw [q] at P
    cases w with
    | tup ws =>
      refine (pi_inv (pi_tup (tg := tg) h)).run pins sh s H Rr I ⟨r, m, z, R, ?_⟩
      rw [q]
      intro z' b H' e1 R1 ⟨p, vs, a1, a2, a3⟩
      exact ⟨p, a1, ⟨vs, a2⟩, fun ⟨_, _, I1⟩ => P z' _ H' e1 R1 (walks_t (let ⟨_, _, _, hz⟩ := I1.tuple a2; hz) a2 a3)⟩
    | lst ws =>
      refine (pi_inv (pi_list (tg := tg) h)).run pins sh s H Rr I ⟨r, m, z, R, ?_⟩
      rw [q]
      intro z' b H' e1 R1 ⟨p, vs, a1, a2, a3⟩
      exact ⟨p, a1, ⟨vs, SqL.of a2.2⟩, fun ⟨_, _, I1⟩ => P z' _ H' e1 R1 (walks_l (let ⟨_, _, _, hz⟩ := I1.list (SqL.of a2.2); hz) (fun z2 H2 e2 => SqL.of ((e2.zs p a2.1).2.trans a2.2)) a3)⟩
    | old ws =>
      refine (pi_inv (pi_list (tg := tg) h)).run pins sh s H Rr I ⟨r, m, z, R, ?_⟩
      rw [q]
      intro z' b H' e1 R1 ⟨p, vs, a1, a2, a3⟩
      exact ⟨p, a1, ⟨vs, a2.sq⟩, fun ⟨_, _, I1⟩ => P z' _ H' e1 R1 (walks_l (let ⟨_, _, _, hz⟩ := I1.list a2.sq; hz) (fun z2 H2 e2 => (e2.oldL a2).sq) a3)⟩
    | _ => exact P.elim
  | exc x m1 =>
    unfold iSeq at P
    rw [q] at P
    refine (pi_tup (tg := tg) h).run pins sh s H Rr I ⟨r, m, z, R, ?_⟩
    rw [q]
    exact P
  | bad =>
    unfold iSeq at P
    rw [q] at P
    exact P.elim
/-- lo, lo + 1, .. -/
def upFrom (lo : Int) : Nat → List W
  | 0 => []
  | n + 1 => .int lo :: upFrom (lo + 1) n
theorem upFrom_len : ∀ (lo : Int) (n : Nat), (upFrom lo n).length = n
  | _, 0 => rfl
  | lo, n + 1 => by rw [upFrom, List.length_cons, upFrom_len]
theorem upFrom_get : ∀ (lo : Int) (n i : Nat), i < n → (upFrom lo n)[i]? = some (.int (lo + i))
  | _, 0, _, h => absurd h (Nat.not_lt_zero _)
  | lo, n + 1, 0, _ => by simp [upFrom]
  | lo, n + 1, i + 1, h => by
    rw [upFrom, List.getElem?_cons_succ, upFrom_get (lo + 1) n i (Nat.lt_of_succ_lt_succ h)]
    congr 2
    omega
theorem walks_r {K : PySem.W.Frag} {z : Zn} {H : Hp} {lo : Int} {n : Nat} (hn : n ≤ 16777216) : Walks K z H (upFrom lo n) (Itr lo n) := ⟨by rw [upFrom_len]; exact sl_le hn, fun z2 H2 e i => by
  refine ⟨fun hi => by rw [upFrom_len] at hi; exact Nat.le_of_eq hi.symm, fun w hw => ?_⟩
  have hi : i < n := by
    have := (List.getElem?_eq_some_iff.mp hw).1
    rw [upFrom_len] at this
    exact this
  rw [upFrom_get lo n i hi] at hw
  cases hw
  refine ⟨hi, fun x H3 y => ?_⟩
  obtain ⟨y1, y2⟩ := y
  subst y1 y2
  exact ⟨Same.refl _, fun z3 e3 => rfl⟩⟩
def iRng (t : DA) : DA := fun r m => (t r m).bind fun ws m1 => match ws with
  | [.int j] => if -(2 ^ 62) ≤ j ∧ j ≤ 16777216 then .ok (upFrom 0 j.toNat) m1 else .bad
  | [.int i, .int j] => if (-(2 ^ 62) ≤ i ∧ i < 2 ^ 62) ∧ -(2 ^ 62) ≤ j ∧ j < 2 ^ 62 ∧ j - i ≤ 16777216 then .ok (upFrom i (j - i).toNat) m1 else .bad
  | _ => .bad
theorem si_rng1 {tg : Expr} {t : DA} {p : Pos} (hm : X.mg "range" = none) (ha : PA X [a] (tA (gx X cl Wx) t)) (hl : ∀ r m ws m1, t r m = .ok ws m1 → ws.length = 1) (hg : Gl X "range" := by rfl) (hs : starEach [a] X.env = [(false, eval a X.env)] := by rfl) : PI X tg (.Call (.Name "range" p) [a] [] pos) (tI (gx X cl Wx) (iRng t)) :=
  (pi_range1 hg hm ha hs).imp fun s H Rr ⟨r, m, z, R, P⟩ => ⟨r, m, z, R, by
    unfold iRng at P
    cases q : t r m with
    | ok ws m1 =>
      rw [q] at P
      intro z' vs H' e1 R1 r1
      have P := Post.mono (g := gx X cl Wx) e1 P
      have hl1 := hl r m ws m1 q
      cases ws with
      | nil => cases hl1
      | cons w ws =>
        cases ws with
        | cons _ _ => cases hl1
        | nil =>
          obtain ⟨v, vr, f1, f2, f3⟩ := r1
          subst f1 f3
          cases w with
          | int j =>
            simp only [Dn.R.bind] at P
            split at P
            · rename_i c
              exact ⟨j, by rw [show v = .int j from f2], c.1, by omega, P z' _ H' (Ext.refl _ _) R1 (walks_r (by omega))⟩
            · exact P.elim
          | _ => exact P.elim
    | exc x m1 => rw [q] at P; exact P
    | bad => rw [q] at P; exact P⟩
theorem a1_len {f : DE} : ∀ r m ws m1, aCons f aNil r m = .ok ws m1 → ws.length = 1 := fun r m ws m1 h => by
  unfold aCons aNil at h
  cases q : f r m with
  | ok w m2 => rw [q] at h; simp only [Dn.R.bind] at h; cases h; rfl
  | exc x m2 => rw [q] at h; cases h
  | bad => rw [q] at h; cases h
def sFor (src : DA) (t : DG) (body : DS) : DS := fun r m => (src r m).thenS r fun ws m1 => loop t body ws r m1
theorem ss_for {tg iter : Expr} {js : List Nat} {body : List Stmt} {src : DA} {t : DG} {fb : DS} (hp : PassesOwn (model X.prog X.w) X.A X.env X.xe) (hc : X.calm = true) (hi : PI X tg iter (tI (gx X cl Wx) src)) (hg : PG X tg (tGt X.K cl js t)) (hb : PSs X body (tS (gx X cl Wx) fb))
    (hs : ∀ x, foldedSetIterable iter X.env x = pure x := by intro _; rfl) : PS X (.For tg iter body [] pos) (tS (gx X cl Wx) (sFor src t fb)) :=
  (ps_for hp hc hi hg hb hs).imp fun D s H ⟨r, m, z, R, P⟩ => ⟨r, m, z, R, P.bind (rel := Walks X.K) fun z1 ws m1 J H1 E1 R1 r1 P1 => by
    refine ⟨fun i k s' H' => ∃ r' m' z', k = ws.length - i ∧ i ≤ ws.length ∧ Rel X.K cl z' r' m' s' H' ∧ Ext z1 H1 z' H' ∧ PostS (gx X cl Wx) z' H' (loop t fb (ws.drop i) r' m') D, ⟨ws.length, r, m1, z1, by simp, Nat.zero_le _, R1, Ext.refl _ _, by simpa using P1⟩, ?_⟩
    rintro i k s2 H2 ⟨r2, m2, z2, rfl, hi2, R2, E2, P2⟩
    obtain ⟨hstop, hgo⟩ := r1.2 z2 H2 E2.e0 i
    by_cases hlt : i < ws.length
    · obtain ⟨g1, g2⟩ := hgo ws[i] (List.getElem?_eq_getElem hlt)
      rw [List.drop_eq_getElem_cons hlt] at P2
      simp only [loop] at P2
      refine .inr ⟨g1, fun s' H' => ∃ r' m' z', Rel X.K cl z' r' m' s' H' ∧ Ext z1 H1 z' H' ∧ PostS (gx X cl Wx) z' H' (loop t fb (ws.drop (i + 1)) r' m') D, fun s' H' ⟨r', m', z', a1, a2, a3⟩ => ⟨ws.length - (i + 1), by omega, r', m', z', rfl, hlt, a1, a2, a3⟩, fun x H3 y => ?_⟩
      obtain ⟨sm, q3⟩ := g2 x H3 y
      have E3 := R2.mem.extS sm
      have R3 := R2.same sm
      have P3 := PostS.mono E3 P2
      refine ⟨ws[i], r2, m2, z2, R3, q3 z2 E3.e0, ?_⟩
      cases q4 : t ws[i] r2 with
      | none => rw [q4] at P3; exact P3
      | some r4 =>
        rw [q4] at P3
        refine fun s4 R4 _ => ⟨r4, m2, z2, R4, ?_⟩
        simp only at P3
        cases q5 : fb r4 m2 with
        | next r5 m5 =>
          rw [q5] at P3
          exact fun z' s' H' e5 R5 => ⟨r5, m5, z', R5, (E2.trans E3).trans e5, PostS.mono e5 P3⟩
        | cont r5 m5 =>
          rw [q5] at P3
          exact fun z' s' H' e5 R5 => ⟨r5, m5, z', R5, (E2.trans E3).trans e5, PostS.mono e5 P3⟩
        | brk r5 m5 => rw [q5] at P3; exact P3
        | ret u m5 => rw [q5] at P3; exact P3
        | exc x r5 m5 => rw [q5] at P3; exact P3
        | bad => rw [q5] at P3; exact P3
    · have hi3 : ws.length ≤ i := Nat.le_of_not_lt hlt
      refine .inl ⟨hstop (Nat.le_antisymm hi2 hi3), ?_⟩
      rw [List.drop_eq_nil_of_le hi3] at P2
      exact P2.next R2⟩
end
end Dn
namespace Dn
open PySem PySem.Spec PyProof.Rows L2
abbrev Fw := List W → Mem → R W
/-- a def's promise: of n arguments it does what g tells -/
def spOf (K : PySem.W.Frag) (cl : Clz) (n : Nat) (g : Fw) : Sp := fun vs H Q E => ∃ ws m z, ws.length = n ∧ MemOk K cl z m H ∧ RWs K z H ws vs ∧ PostF K cl z H (g ws m) Q E
def startW (n : Nat) (ws : List W) : Rho := ws.map some ++ List.replicate (n - ws.length) none
/-- a body run from its arguments; n slots in all -/
def runD (n : Nat) (d : DS) : Fw := fun ws m => match d (startW n ws) m with
  | .ret w m1 => .ok w m1
  | .next _ m1 => .ok .non m1
  | .exc x _ m1 => .exc x m1
  | _ => .bad
theorem start_ok {K : PySem.W.Frag} {z : Zn} {H : Hp} {N : List Str} {ws : List W} {vs : List V} (h : RWs K z H ws vs) : SlotsOk K z H (startW N.length ws) (L2.start N vs) := by
  refine ⟨by unfold startW L2.start; simp [h.length], fun i w e => ?_⟩
  unfold startW at e
  unfold L2.start
  by_cases hi : i < ws.length
  · rw [List.getElem?_append_left (by simpa using hi)] at e
    rw [List.getElem?_append_left (by rw [List.length_map, h.length]; exact hi)]
    rw [List.getElem?_map] at e ⊢
    cases q : ws[i]? with
    | none => rw [q] at e; cases e
    | some u =>
      rw [q] at e
      simp at e
      subst e
      obtain ⟨v, q1, q2⟩ := h.get q
      exact ⟨v, by rw [q1]; rfl, q2⟩
  · rw [List.getElem?_append_right (by simpa using Nat.le_of_not_lt hi)] at e
    rw [List.getElem?_replicate] at e
    split at e <;> cases e
structure RoomG (k : Nat) (A : Around) : Prop extends Room k A where
  g : A.guards = some []
theorem RoomG.mono {j k : Nat} {A : Around} (r : RoomG k A) (h : j ≤ k) : RoomG j A := ⟨r.toRoom.mono h, r.g⟩
theorem RoomG.deeper {k : Nat} {A : Around} (r : RoomG (k + 1) A) (env : Env) : RoomG k (A.deeper env) := ⟨r.toRoom.deeper env, r.g⟩
theorem RoomG.make {k : Nat} {A : Around} (r : RoomG (k + 1) A) (C : Addr) (us : List Value) (kw : List (Str × Value)) : RoomG k (A.under (.builtin "type.__call__" ⟨.ref C :: us, kw⟩)) := by
  refine ⟨r.toRoom.make C us kw, ?_⟩
  have e : (Code.builtin "type.__call__" ⟨Value.ref C :: us, kw⟩).guards = [] := by first | rfl | simp [Code.guards, Code.isGuard, guardIds]
  show pushGuards (Code.builtin "type.__call__" ⟨Value.ref C :: us, kw⟩).guards A.guards = some []
  rw [e]
  exact r.g
structure FnG (P : Program) (w : World) (K : PySem.W.Frag) (mg : Str → Option Value) (base : Heap) (k : Nat) (f : Addr) (fd : FuncData) (ps : List Str) (sp : Sp) : Prop where
  len : ∀ vs H Q E, sp vs H Q E → vs.length = ps.length
  run : ∀ (A : Around) (outer : List Env) (s : Shared) (H : Hp) (args : Args) (us : List Value) (vs : List V) (Q : VK) (E : XK), RoomG k A → Env0 P w K mg base A outer s H → BindsTo s fd args (ps.zip us) → Vals vs us → sp vs H Q E →
    codeAny (model P w) A (.call (.ref f) args) (CR (L2.CX P w) outer P w H s Q E) s
/-- the callee runs -/
theorem run_fnG {X : Cx} {k : Nat} {f : Addr} {fd : FuncData} {ps : List Str} {sp : Sp} {E : XK} {pins : List (Addr × Obj)} {σ : L2.St} {H : Hp} {s : Shared} {Q : VK} {us : List Value} {vs : List V} (F : FnG X.prog X.w X.K X.mg X.base k f fd ps sp) (hr : RoomG k X.A) (hb : Binds X.K fd ps [])
    (hx : PassesAt (L2.CX X.prog X.w) X σ E) (I : Inv X pins σ H s) (r : Vals vs us) (h : sp vs H Q E) : wpAny (model X.prog X.w) X.A (call (.ref f) us) (EP X pins σ Q) X.xe s := by
  have hl : us.length = ps.length := r.length.symm.trans (F.len vs H Q E h)
  have b := hb s us I.kIn (by simpa using hl)
  rw [List.append_nil] at b
  refine wpAny_call (codeAny_mono (F.run _ _ _ _ _ _ _ _ _ hr I.env0 b r h) fun rr s' hq => ?_)
  match rr, hq with
  | .error e, hq => exact hx pins H s e s' I hq
  | .ok (.ret u), hq => exact I.after hq
  | .ok .next, hq => exact hq.elim
  | .ok .brk, hq => exact hq.elim
  | .ok .cont, hq => exact hq.elim
section
variable {P : Program} {w : World} {K : PySem.W.Frag} {mg : Str → Option Value} {base : Heap} {cl : Clz} {x qual : Str} {params : Arguments} {body : List Stmt} {scope : Scope} {kws : List (Str × V)} {f : Addr} {fd : FuncData}
theorem fn_ok {N ps : List Str} {k n : Nat} {d : DS} (F : FunD K x qual params body scope [] kws f fd) (S : FnScope N ps scope) (hn : ps.length = n)
    (hb : ∀ (cdv : Value) (A : Around) (outer : List Env) (s : Shared) (H : Hp) (E : XK), RoomG k (A.deeper (envOfC qual scope s.heap.objs.size f cdv)) →
      PSs (cxOf (L2.CX P w) P w K mg base N qual scope f cdv A outer s H E) body (tS (gx (cxOf (L2.CX P w) P w K mg base N qual scope f cdv A outer s H E) cl (fun c d _ H => E c d H)) d)) :
    FnG P w K mg base (k + 1) f fd ps (spOf K cl n (runD N.length d)) := by
  have len : ∀ vs H Q E, spOf K cl n (runD N.length d) vs H Q E → vs.length = ps.length := fun vs H Q E ⟨ws, m, z, hl, M, rw', p⟩ => by rw [rw'.length, hl, hn]
  obtain ⟨oc, od, dV, kV, doc, pm, an, cdv, ct, osl, rfl, lk, hcd, _, _⟩ := F.ex
  refine ⟨len, fun A outer s H args us vs Q E hr e0 hbi rv hsp => ?_⟩
  have KX : K.In s.heap := e0.mod.kin.keeps fun b o e => (e0.bs b o e).1
  have hlim : s.heap.NoLimit := e0.mod.nolimit.keeps fun b o e => (e0.bs b o e).1
  refine codeAny_call_function hr.depth (KX _ _ lk) rfl S.co S.gen rfl (PySem.W.codeRec_of KX hcd) (hbi _ _ _ _ ?_)
  refine wpAny_newFunctionEnv_cells S.kind (fun y hy => (S.par y.1 (List.of_mem_zip hy).1).imp id fun q => ⟨q, PySem.W.cellsFrom_some _ _ _ (.inl q)⟩) fun env he s1 x => ?_
  subst he
  refine ⟨hlim.keeps x.toInCall.keep, codeAny_func ?_⟩
  have I := inv_start (E := E) (CX := L2.CX P w) S hr.hd e0 (len vs H Q E hsp) rv x
  obtain ⟨ws, m, z, hl, M, rw', p⟩ := hsp
  have hq : tS ⟨K, cl, fun c d _ H => E c d H⟩ d { nx := fun _ H' => Q .non H', rt := Q } (L2.start N vs) H := by
    refine ⟨startW N.length ws, m, z, ⟨start_ok rw', M⟩, ?_⟩
    show PostS ⟨K, cl, fun c d _ H => E c d H⟩ z H (d (startW N.length ws) m) _
    unfold runD at p
    cases q : d (startW N.length ws) m with
    | next r m1 => rw [q] at p; exact fun z' s' H' e R' => p z' .non H' e R'.mem rfl
    | ret u m1 => rw [q] at p; exact p
    | exc x r m1 => rw [q] at p; exact fun z' s' H' c d e R' => p z' H' c d e R'.mem
    | brk r m1 => rw [q] at p; exact p.elim
    | cont r m1 => rw [q] at p; exact p.elim
    | bad => rw [q] at p; exact p.elim
  refine wpAny_mono ((hb cdv A outer s H E (hr.deeper _)).run [] s1 (L2.start N vs) H _ I hq) (fun fl s' hs => ?_) fun e s' hs => hs
  match fl, hs with
  | .ret u, ⟨v, σ', H', J, rv', q⟩ => exact ⟨v, H', J.os, J.bare, J.base, J.hok, rv', q⟩
  | .next, ⟨σ', H', J, q⟩ => exact ⟨.non, H', J.os, J.bare, J.base, J.hok, rfl, q⟩
  | .brk, ⟨_, _, _, q⟩ => exact q.elim
  | .cont, ⟨_, _, _, q⟩ => exact q.elim
end
section
variable {X : Cx} {cl : Clz} {Wx : WX} {e a b : Expr} {pos : Pos}
/-- f(e, ..) -/
def eCall (n : Nat) (g : Fw) (t : DA) : DE := fun r m => (t r m).bind fun ws m1 => if ws.length = n then g ws m1 else .bad
theorem se_call {k n : Nat} {f : Addr} {fd : FuncData} {ps : List Str} {g : Fw} {x : Str} {p : Pos} {es : List Expr} {t : DA} (F : FnG X.prog X.w X.K X.mg X.base k f fd ps (spOf X.K cl n g)) (hr : RoomG k X.A) (hm : X.mg x = some (.ref f)) (hk : PySem.W.keepIn X.K (.ref f) = true) (hb : Binds X.K fd ps []) (tk : Takes X Wx)
    (ha : PA X (e :: es) (tA (gx X cl Wx) t)) (hg : Gl X x := by rfl) (hdb : (x == ("__debug__" : Str)) = false := by decide) (he : starEach (e :: es) X.env = (false, eval e X.env) :: starEach es X.env := by rfl) (hpl : (backTo pos (starEach es X.env)).any (·.1) = false := by rfl) :
    PE X (.Call (.Name x p) (e :: es) [] pos) (tE (gx X cl Wx) (eCall n g t)) := by
  refine ⟨fun pins sh s H Q I ⟨r, m, z, R, P⟩ => wpAny_Call_Name_kw (ld_glob I hg hm ?_ hdb)⟩
  have hq : tA (gx X cl Wx) t s H fun vs H1 => spOf X.K cl n g vs H1 Q (WE Wx s) := by
    refine ⟨r, m, z, R, P.bind fun z1 ws m1 vs H1 E1 R1 r1 P1 => ?_⟩
    split at P1
    · rename_i hl
      exact ⟨ws, m1, z1, hl, R1.mem, r1, PostF.of R1 P1⟩
    · exact P1.elim
  exact PySem.W.callWith_K (h₀ := X.base) I.ok.mod.kin hk (thn (ha.run pos pins sh s H _ I hq) fun us s1 ⟨vs, H1, I1, rv, q⟩ => ⟨I1.kIn, run_fnG F hr hb (passAt tk s) I1 rv q⟩) he hpl
theorem se_call0 {k : Nat} {f : Addr} {fd : FuncData} {ps : List Str} {g : Fw} {x : Str} {p : Pos} (F : FnG X.prog X.w X.K X.mg X.base k f fd ps (spOf X.K cl 0 g)) (hr : RoomG k X.A) (hm : X.mg x = some (.ref f)) (hk : PySem.W.keepIn X.K (.ref f) = true) (hb : Binds X.K fd ps []) (tk : Takes X Wx)
    (hg : Gl X x := by rfl) (hdb : (x == ("__debug__" : Str)) = false := by decide) : PE X (.Call (.Name x p) [] [] pos) (tE (gx X cl Wx) (eCall 0 g aNil)) := by
  refine ⟨fun pins sh s H Q I ⟨r, m, z, R, P⟩ => wpAny_Call_Name_kw (ld_glob I hg hm ?_ hdb)⟩
  exact PySem.W.callWith_K0 I.kIn hk (run_fnG (us := []) F hr hb (passAt tk s) I .nil ⟨[], m, z, rfl, R.mem, rfl, PostF.of R P⟩)
def relNew (K : PySem.W.Frag) (z : Zn) (H : Hp) (ws : List W) (v : V) : Prop := ∃ p vs, v = .ref p ∧ H p = some (.lst vs) ∧ RWs K z H ws vs ∧ ¬ z.Z p ∧ ¬ z.hold p ∧ p ∉ z.phi
def tN (g : Gx) (f : DA) : TE := tG g (relNew g.K) f
/-- settled at once -/
def eFz (f : DA) : DE := fun r m => (f r m).bind fun ws m1 => .ok (.lst ws) m1
theorem se_fz {f : DA} (h : PE X e (tN (gx X cl Wx) f)) : PE X e (tE (gx X cl Wx) (eFz f)) := h.imp fun s H Q ⟨r, m, z, R, P⟩ => by
  refine ⟨r, m, z, R, P.bind fun z1 ws m1 v H1 E1 R1 r1 P1 => ?_⟩
  obtain ⟨p, vs, e1, e2, e3, n1, n2, n3⟩ := r1
  subst e1
  obtain ⟨e4, M⟩ := R1.mem.settle e2 n2 n3
  exact P1 _ _ _ e4 (R1.after e4 M) ⟨p, vs, rfl, ⟨.inl rfl, e2⟩, RWs.ext e4 e3⟩
/-- one that may change -/
def eNw (f : DA) : DE := fun r m => (f r m).bind fun ws m1 => .ok (.ref m1.length) (m1 ++ [.lst ws])
theorem lay_lst {K : PySem.W.Frag} {z : Zn} {m : Mem} {H : Hp} {p : Addr} {ws : List W} {vs : List V} (M : MemOk K cl z m H) (e2 : H p = some (.lst vs)) (e3 : RWs K z H ws vs) (n1 : ¬ z.Z p) (n2 : ¬ z.hold p) (n3 : p ∉ z.phi) :
    Ext z H (z.lay p) H ∧ MemOk K cl (z.lay p) (m ++ [.lst ws]) H ∧ RW K (z.lay p) H (.ref m.length) (.ref p) := by
  have e4 : Ext z H (z.lay p) H := ⟨⟨fun _ _ h => h, fun _ _ _ h => h, fun _ h => ⟨h, rfl⟩, fun n a h => by
    have hl := (List.getElem?_eq_some_iff.mp h).1
    show (z.phi ++ [p])[n]? = some a
    rw [List.getElem?_append_left hl]
    exact h, fun _ _ h => h⟩, fun _ h => ⟨h, rfl⟩⟩
  obtain ⟨e5, M2⟩ := M.lay (p := p) (c := .lst ws) n1 n3 ⟨n1, n2, vs, e2, RWs.ext e4 e3⟩
  refine ⟨e4, M2, p, ?_, rfl⟩
  show (z.phi ++ [p])[m.length]? = some p
  rw [← M.len]
  simp
theorem se_nw {f : DA} (h : PE X e (tN (gx X cl Wx) f)) : PE X e (tE (gx X cl Wx) (eNw f)) := h.imp fun s H Q ⟨r, m, z, R, P⟩ => by
  refine ⟨r, m, z, R, P.bind fun z1 ws m1 v H1 E1 R1 r1 P1 => ?_⟩
  obtain ⟨p, vs, e1, e2, e3, n1, n2, n3⟩ := r1
  subst e1
  obtain ⟨e4, M, q⟩ := lay_lst (cl := cl) R1.mem e2 e3 n1 n2 n3
  exact P1 _ _ _ e4 (R1.after e4 M) q
/-- what is new in the heap -/
theorem new_rel {K : PySem.W.Frag} {z : Zn} {m : Mem} {H : Hp} {p : Addr} {ws : List W} {vs : List V} (M : MemOk K cl z m H) (hp : H p = none) (h : RWs K z H ws vs) : Ext z H z (upd H p (.lst vs)) ∧ MemOk K cl z m (upd H p (.lst vs)) ∧ relNew K z (upd H p (.lst vs)) ws (.ref p) := by
  have hs := upd_same_of (o := .lst vs) hp
  exact ⟨M.extS hs, M.same hs, p, vs, rfl, upd_same, RWs.ext (M.extS hs) h, M.z_ne hp, M.h_ne hp, M.p_ne hp⟩
def wipeR (r : Rho) : List Nat → Rho
  | [] => r
  | v :: vs => (wipeR r vs).set v none
theorem set_none {K : PySem.W.Frag} {z : Zn} {H : Hp} {r : Rho} {s : L2.St} (h : SlotsOk K z H r s) (i : Nat) : SlotsOk K z H (r.set i none) (s.set i none) := by
  refine ⟨by simp [h.1], fun j u e => ?_⟩
  by_cases hj : i = j
  · subst hj
    rw [List.getElem?_set, if_pos rfl] at e
    split at e <;> cases e
  · rw [List.getElem?_set_ne hj] at e ⊢
    exact h.2 j u e
theorem wipe_ok {K : PySem.W.Frag} {z : Zn} {H : Hp} {r : Rho} {s : L2.St} (h : SlotsOk K z H r s) : ∀ vs : List Nat, SlotsOk K z H (wipeR r vs) (wipe s vs)
  | [] => h
  | v :: vs => by unfold wipeR wipe; exact set_none (wipe_ok h vs) v
theorem wipe_get (s : L2.St) (i : Nat) : ∀ vs : List Nat, (wipe s vs)[i]? = if i ∈ vs ∧ i < s.length then some none else s[i]?
  | [] => by simp [wipe]
  | v :: vs => by
    unfold wipe
    rw [List.getElem?_set, wipe_length, wipe_get s i vs]
    by_cases h : v = i
    · subst h
      by_cases hl : v < s.length
      · simp [hl]
      · simp [hl]
    · have h' : i ≠ v := fun q => h q.symm
      simp [h, h']
theorem wipe_agree {js vs : List Nat} {s s2 : L2.St} (h : Agree js (wipe s vs) s2) (hj : ∀ i ∈ js, i ∈ vs) : wipe s2 vs = wipe s vs := by
  have hl : s2.length = s.length := by rw [h.1, wipe_length]
  refine List.ext_getElem? fun i => ?_
  rw [wipe_get, wipe_get, hl]
  by_cases hi : i ∈ vs ∧ i < s.length
  · rw [if_pos hi, if_pos hi]
  · rw [if_neg hi, if_neg hi]
    by_cases hv : i ∈ vs
    · have hge : s.length ≤ i := Nat.le_of_not_lt fun q => hi ⟨hv, q⟩
      rw [List.getElem?_eq_none hge, List.getElem?_eq_none (by rw [hl]; exact hge)]
    · rw [h.2 i fun q => hv (hj i q), wipe_get, if_neg fun q => hv q.1]
def dYes : DT := fun _ m => .ok true m
def compL (t : DG) (c : DT) (f : DE) (vs : List Nat) : List W → Rho → Mem → R (List W)
  | [], _, m => .ok [] m
  | w :: ws, r, m => match t w (wipeR r vs) with
    | none => .bad
    | some r1 => match c r1 m with
      | .ok true m1 => match f r1 m1 with
        | .ok y m2 => (compL t c f vs ws r m2).bind fun ys m3 => .ok (y :: ys) m3
        | _ => .bad
      | .ok false m1 => compL t c f vs ws r m1
      | _ => .bad
def aComp (src : DA) (t : DG) (c : DT) (f : DE) (vs : List Nat) : DA := fun r m => (src r m).bind fun ws m1 => compL t c f vs ws r m1
abbrev noW : WX := fun _ _ _ _ => False
theorem stc_nil : PTs X [] (tT (gx X cl noW) dYes) := ⟨fun pins sh s H Q I ⟨r, m, z, R, P⟩ => pts_nil.run pins sh s H Q I (Post.ret (b := true) P R rfl)⟩
/-- .. is held no longer, and has grown -/
abbrev Zn.un (z : Zn) (p : Addr) : Zn := { z with hold := fun a => a ≠ p ∧ z.hold a }
theorem MemOk.unhold {K : PySem.W.Frag} {z : Zn} {m : Mem} {H : Hp} {p : Addr} {o o' : HO} (M : MemOk K cl z m H) (hh : z.hold p) (e : H p = some o) (t1 : ∀ us, o ≠ .tup us := by intro _ h; cases h) (t2 : ∀ ob u, o ≠ .frz ob u := by intro _ _ h; cases h) (t3 : ∀ f, o ≠ .ext f := by intro _ h; cases h) :
    MemOk K cl (z.un p) m (upd H p o') ∧ Ext0 z H (z.un p) (upd H p o') ∧ ¬ z.Z p ∧ p ∉ z.phi := by
  have nz : ¬ z.Z p := fun q => M.sep p q hh
  have ne : ∀ {a : Addr}, z.Z a → a ≠ p := fun q z' => nz (z' ▸ q)
  have e0 : Ext0 z H (z.un p) (upd H p o') := ⟨fun a us q => by rw [upd_ne (ne_of q e fun z' => t1 us z'.symm)]; exact q, fun a ob u q => by rw [upd_ne (ne_of q e fun z' => t2 ob u z'.symm)]; exact q, fun a q => ⟨q, upd_ne (ne q)⟩, fun _ _ q => q, fun a f q => by rw [upd_ne (ne_of q e fun z' => t3 f z'.symm)]; exact q⟩
  have cne : ∀ (n : Nat) a c, z.phi[n]? = some a → m[n]? = some c → a ≠ p := fun n a c h1 h2 q => by
    subst q
    have hc := M.cells n a c h1 h2
    cases c with
    | lst ws => exact hc.2.1 hh
    | fz ws => exact nz hc.1
    | dct kvs => exact hc.1 hh
    | ins c fs => exact hc.1 hh
    | exn c fs => exact hc.1 hh
    | dtt kvs => exact hc.1 hh
  have t4 : ∀ ps, o ≠ .tbl ps := by
    obtain ⟨o2, q1, q2⟩ := M.lh p hh
    rw [e] at q1
    cases q1
    exact q2.2
  refine ⟨⟨M.len, M.nd, fun a q h => M.sep a q h.2, fun a q => ?_, fun a q => ?_, fun n a c h1 h2 => ?_, tabs_keep M.tb (fun b ps q => by rw [upd_ne (ne_of q e fun z' => t4 ps z'.symm)]; exact q) e0.xts, cl.gx e0 M.gh⟩, e0, nz, fun q => ?_⟩
  · rw [upd_ne (ne q)]; exact M.lz a q
  · rw [upd_ne q.1]; exact M.lh a q.2
  · exact (M.cells n a c h1 h2).ext2 e0 Iff.rfl (fun q => q.2) (upd_ne (cne n a c h1 h2))
  · obtain ⟨n, hn, e1⟩ := List.getElem_of_mem q
    have hm : n < m.length := by rw [← M.len]; exact hn
    exact cne n p m[n] (by rw [List.getElem?_eq_getElem hn, e1]) (List.getElem?_eq_getElem hm) rfl
theorem tLc_of {g : Gx} {src : DA} {t : DG} {js vs : List Nat} {c : DT} {f : DE} {s : L2.St} {H : Hp} {Q : VK} (hj : ∀ i ∈ js, i ∈ vs) (h : tN g (aComp src t c f vs) s H Q) :
    tLc (tI g src) (tGt g.K g.cl js t) (tT ⟨g.K, g.cl, noW⟩ c) (tE ⟨g.K, g.cl, noW⟩ f) vs s H Q := by
  obtain ⟨r, m, z, R, P⟩ := h
  refine ⟨r, m, z, R, P.bind (rel := Walks g.K) fun z1 ws m1 J H1 E1 R1 r1 P1 D hD => ?_⟩
  have nz := R1.mem.z_ne hD
  have nh := R1.mem.h_ne hD
  have np := R1.mem.p_ne hD
  have hs1 := upd_same_of (o := .lst []) hD
  refine ⟨fun i k H' => ∃ m' z' as acc, k = ws.length - i ∧ i ≤ ws.length ∧ as.length ≤ i ∧ Rel g.K g.cl z' r m' s H' ∧ Ext z1 H1 z' H' ∧ (¬ z'.Z D ∧ ¬ z'.hold D ∧ D ∉ z'.phi) ∧ H' D = some (.lst acc) ∧ RWs g.K z' H' as acc ∧
    Post g (relNew g.K) z' H' r s ((compL t c f vs (ws.drop i) r m').bind fun ys m3 => .ok (as ++ ys) m3) Q, ⟨ws.length, m1, z1, [], [], by simp, Nat.zero_le _, Nat.zero_le _, R1.same hs1, R1.mem.extS hs1, ⟨nz, nh, np⟩, upd_same, rfl, ?_⟩, ?_⟩
  · refine Post.mono (R1.mem.extS hs1) ?_
    have e : ((compL t c f vs (ws.drop 0) r m1).bind fun ys m3 => .ok ([] ++ ys) m3) = compL t c f vs ws r m1 := by
      rw [List.drop_zero]
      cases compL t c f vs ws r m1 <;> rfl
    rw [e]
    exact P1
  · rintro i k H2 ⟨m2, z2, as, acc, rfl, hi2, hla, R2, E2, ⟨y1, y2, y3⟩, hD2, ra, P2⟩
    obtain ⟨hstop, hgo⟩ := r1.2 z2 H2 E2.e0 i
    by_cases hlt : i < ws.length
    · obtain ⟨g1, g2⟩ := hgo ws[i] (List.getElem?_eq_getElem hlt)
      rw [List.drop_eq_getElem_cons hlt] at P2
      refine .inr ⟨g1, fun H' => ∃ m' z' as acc, as.length ≤ i + 1 ∧ Rel g.K g.cl z' r m' s H' ∧ Ext z1 H1 z' H' ∧ (¬ z'.Z D ∧ ¬ z'.hold D ∧ D ∉ z'.phi) ∧ H' D = some (.lst acc) ∧ RWs g.K z' H' as acc ∧
        Post g (relNew g.K) z' H' r s ((compL t c f vs (ws.drop (i + 1)) r m').bind fun ys m3 => .ok (as ++ ys) m3) Q, fun H' ⟨m', z', as', acc', a0, a1, a2, a3, a4, a5, a6⟩ => ⟨ws.length - (i + 1), by omega, m', z', as', acc', rfl, hlt, a0, a1, a2, a3, a4, a5, a6⟩, fun x H3 y => ?_⟩
      obtain ⟨sm, q3⟩ := g2 x H3 y
      have E3 := R2.mem.extS sm
      have R3 := R2.same sm
      have hD3 : H3 D = some (.lst acc) := sm _ _ hD2
      obtain ⟨M4, E4⟩ := R3.mem.hold hD3 y1 y3
      have R4 : Rel g.K g.cl (z2.hd D) (wipeR r vs) m2 (wipe s vs) H3 := ⟨wipe_ok (R3.slots.ext E4) vs, M4⟩
      refine ⟨ws[i], wipeR r vs, m2, z2.hd D, R4, (q3 z2 E3.e0).ext E4, ?_⟩
      simp only [compL] at P2
      cases q4 : t ws[i] (wipeR r vs) with
      | none => rw [q4] at P2; exact P2.elim
      | some r4 =>
        rw [q4] at P2
        simp only at P2
        refine fun s4 R4' ag => ⟨wipe_agree ag hj, r4, m2, z2.hd D, R4', ?_⟩
        -- what is known behind the turn
        have back : ∀ {z5 : Zn} {H5 : Hp} {m5 : Mem} {r5 : Rho} {s5 : L2.St}, Ext (z2.hd D) H3 z5 H5 → Rel g.K g.cl z5 r5 m5 s5 H5 → ∀ (acc' : List V) (as' : List W), as'.length ≤ i + 1 → RWs g.K z5 H5 as' acc' →
            Post g (relNew g.K) z2 H2 r s ((compL t c f vs (ws.drop (i + 1)) r m5).bind fun ys m3 => .ok (as' ++ ys) m3) Q →
            ∃ m' z' as acc, as.length ≤ i + 1 ∧ Rel g.K g.cl z' r m' s (upd H5 D (.lst acc')) ∧ Ext z1 H1 z' (upd H5 D (.lst acc')) ∧ (¬ z'.Z D ∧ ¬ z'.hold D ∧ D ∉ z'.phi) ∧ upd H5 D (.lst acc') D = some (.lst acc) ∧ RWs g.K z' (upd H5 D (.lst acc')) as acc ∧
              Post g (relNew g.K) z' (upd H5 D (.lst acc')) r s ((compL t c f vs (ws.drop (i + 1)) r m').bind fun ys m3 => .ok (as ++ ys) m3) Q := by
          intro z5 H5 m5 r5 s5 e5 R5 acc' as' hla' ra' P5
          have hh5 : z5.hold D := (e5.hs D (.inl rfl)).1
          have hx5 : H5 D = some (.lst acc) := (e5.hs D (.inl rfl)).2.trans hD3
          obtain ⟨M6, e6, n6, p6⟩ := R5.mem.unhold (o' := .lst acc') hh5 hx5
          have e25 : Ext z2 H2 z5 H5 := (E3.trans E4).trans e5
          have hne : ∀ a, z2.hold a → a ≠ D := fun a ha q => by rw [q] at ha; exact y2 ha
          have e26 : Ext z2 H2 (z5.un D) (upd H5 D (.lst acc')) := ⟨e25.e0.trans e6, fun a ha => ⟨⟨hne a ha, (e25.hs a ha).1⟩, by rw [upd_ne (hne a ha)]; exact (e25.hs a ha).2⟩⟩
          exact ⟨m5, z5.un D, as', acc', hla', ⟨R2.slots.ext e26, M6⟩, E2.trans e26, ⟨n6, fun q => q.1 rfl, p6⟩, upd_same, RWs.ext0 e6 ra', Post.mono e26 P5⟩
        cases q5 : c r4 m2 with
        | ok b m5 =>
          rw [q5] at P2
          intro z5 b' H5 e5 R5 rb
          have rb : b = b' := rb
          subst rb
          have hx5 : H5 D = some (.lst acc) := (e5.hs D (.inl rfl)).2.trans hD3
          have ra5 : RWs g.K z5 H5 as acc := RWs.ext ((E3.trans E4).trans e5) ra
          cases b with
          | true =>
            simp only at P2
            rw [if_pos rfl]
            refine ⟨r4, m5, z5, R5, ?_⟩
            cases q6 : f r4 m5 with
            | ok yv m6 =>
              rw [q6] at P2
              intro z6 v H6 e6 R6 rv
              refine ⟨acc, (e6.hs D (e5.hs D (.inl rfl)).1).2.trans hx5, ?_, ?_⟩
              · have := ra.length
                have h2 := r1.1
                omega
              · refine back (e5.trans e6) R6 (acc ++ [v]) (as ++ [yv]) (by simp; omega) ((RWs.ext e6 ra5).append (.cons rv .nil)) ?_
                have e7 : ((compL t c f vs (ws.drop (i + 1)) r m6).bind fun ys m3 => .ok (as ++ [yv] ++ ys) m3) = (((compL t c f vs (ws.drop (i + 1)) r m6).bind fun ys m3 => .ok (yv :: ys) m3).bind fun ys m3 => .ok (as ++ ys) m3) := by
                  cases compL t c f vs (ws.drop (i + 1)) r m6 <;> simp [Dn.R.bind]
                rw [e7]
                exact P2
            | exc x m6 => rw [q6] at P2; exact P2.elim
            | bad => rw [q6] at P2; exact P2.elim
          | false =>
            simp only at P2
            rw [if_neg Bool.false_ne_true]
            have hb := back e5 R5 acc as (by omega) ra5 P2
            have hid : upd H5 D (.lst acc) = H5 := by
              funext a
              by_cases ha : a = D
              · rw [ha, upd_same, hx5]
              · exact upd_ne ha
            rw [hid] at hb
            exact hb
        | exc x m5 => rw [q5] at P2; exact P2.elim
        | bad => rw [q5] at P2; exact P2.elim
    · have hi3 : ws.length ≤ i := Nat.le_of_not_lt hlt
      refine .inl ⟨hstop (Nat.le_antisymm hi2 hi3), ?_⟩
      rw [List.drop_eq_nil_of_le hi3] at P2
      have P2 : Post g (relNew g.K) z2 H2 r s (.ok (as ++ []) m2) Q := P2
      rw [List.append_nil] at P2
      exact Post.ret P2 R2 ⟨D, acc, rfl, hD2, ra, y1, y2, y3⟩
end
end Dn
namespace Dn
open PySem PySem.Spec PyProof.Rows L2
section
variable {X : Cx} {cl : Clz} {Wx : WX} {e a b : Expr} {pos : Pos}
theorem se_lc {elt tg iter : Expr} {ifs : List Expr} {scope : Scope} {own : List (Str × Nat)} {js : List Nat} {src : DA} {t : DG} {c : DT} {f : DE} (hc : X.calm = true) (hN : X.N.Nodup) (hi : PI X tg iter (tI (gx X cl Wx) src)) (ok : BlkOk X.N X.env.scope scope own) (hj : ∀ i ∈ js, i ∈ own.map (·.2))
    (hg : ∀ (s : Shared) (H : Hp) (C : Addr) (cs : List (Str × Addr)) (fp : List Addr), PG (X.blk s H scope (compEnvC scope cs C X.env) fp) tg (tGt X.K cl js t))
    (ht : ∀ (s : Shared) (H : Hp) (C : Addr) (cs : List (Str × Addr)) (fp : List Addr), PTs (X.blk s H scope (compEnvC scope cs C X.env) fp) ifs (tT (gx (X.blk s H scope (compEnvC scope cs C X.env) fp) cl noW) c))
    (he : ∀ (s : Shared) (H : Hp) (C : Addr) (cs : List (Str × Addr)) (fp : List Addr), PE (X.blk s H scope (compEnvC scope cs C X.env) fp) elt (tE (gx (X.blk s H scope (compEnvC scope cs C X.env) fp) cl noW) f)) (hs : ∀ x, foldedSetIterable iter X.env x = pure x := by intro _; rfl) :
    PE X (.ListComp elt [⟨tg, iter, ifs, 0⟩] scope pos) (tN (gx X cl Wx) (aComp src t c f (own.map (·.2)))) :=
  (pe_lc (own := own) hc hN hi ok hg ht he hs).imp fun s H Q h => tLc_of (g := gx X cl Wx) hj h
def ClW (K : PySem.W.Frag) (cl : Clz) (o : Mem → List W → Option W) (r : List V → Hp → VK → Prop) : Prop := ∀ (z : Zn) (m : Mem) (H : Hp) (ws : List W) (vs : List V) (w : W) (Q : VK), MemOk K cl z m H → RWs K z H ws vs → o m ws = some w →
  (∀ z' v H', Ext z H z' H' → MemOk K cl z' m H' → RW K z' H' w v → Q v H') → r vs H Q
def ClN (K : PySem.W.Frag) (cl : Clz) (o : Mem → List W → Option (List W)) (r : List V → Hp → VK → Prop) : Prop := ∀ (z : Zn) (m : Mem) (H : Hp) (ws : List W) (vs : List V) (us : List W) (Q : VK), MemOk K cl z m H → RWs K z H ws vs → o m ws = some us →
  (∀ z' v H', Ext z H z' H' → MemOk K cl z' m H' → relNew K z' H' us v → Q v H') → r vs H Q
def eFn (o : Mem → List W → Option W) (t : DA) : DE := fun r m => (t r m).bind fun ws m1 => match o m1 ws with
  | some w => .ok w m1
  | none => .bad
def aFn (o : Mem → List W → Option (List W)) (t : DA) : DA := fun r m => (t r m).bind fun ws m1 => match o m1 ws with
  | some us => .ok us m1
  | none => .bad
theorem tE_fn {g : Gx} {o : Mem → List W → Option W} {rr : List V → Hp → VK → Prop} {t : DA} {s : L2.St} {H : Hp} {Q : VK} (hw : ClW g.K g.cl o rr) (h : tE g (eFn o t) s H Q) : tA g t s H fun vs H1 => rr vs H1 Q := by
  obtain ⟨r, m, z, R, P⟩ := h
  refine ⟨r, m, z, R, P.bind fun z1 ws m1 vs H1 E1 R1 r1 P1 => ?_⟩
  cases q : o m1 ws with
  | none => rw [q] at P1; exact P1.elim
  | some w => rw [q] at P1; exact hw z1 m1 H1 ws vs w Q R1.mem r1 q fun z' v H' e M rw' => P1 z' v H' e (R1.after e M) rw'
theorem tN_fn {g : Gx} {o : Mem → List W → Option (List W)} {rr : List V → Hp → VK → Prop} {t : DA} {s : L2.St} {H : Hp} {Q : VK} (hw : ClN g.K g.cl o rr) (h : tN g (aFn o t) s H Q) : tA g t s H fun vs H1 => rr vs H1 Q := by
  obtain ⟨r, m, z, R, P⟩ := h
  refine ⟨r, m, z, R, P.bind fun z1 ws m1 vs H1 E1 R1 r1 P1 => ?_⟩
  cases q : o m1 ws with
  | none => rw [q] at P1; exact P1.elim
  | some us => rw [q] at P1; exact hw z1 m1 H1 ws vs us Q R1.mem r1 q fun z' v H' e M rw' => P1 z' v H' e (R1.after e M) rw'
section
variable {o : Mem → List W → Option W} {oN : Mem → List W → Option (List W)} {rr : List V → Hp → VK → Prop} {id T : String} {x : Str} {p : Pos} {es : List Expr} {t : DA}
theorem se_cb (hc : CallR X (.builtin id) rr) (hw : ClW X.K cl o rr) (hm : X.mg x = none) (hv : bootBuiltins x = some (.builtin id)) (ha : PA X (e :: es) (tA (gx X cl Wx) t)) (hg : Gl X x := by rfl) (hn : x ≠ "__name__" := by decide) (hdb : (x == ("__debug__" : Str)) = false := by decide)
    (he : starEach (e :: es) X.env = (false, eval e X.env) :: starEach es X.env := by rfl) (hpl : (backTo pos (starEach es X.env)).any (·.1) = false := by rfl) : PE X (.Call (.Name x p) (e :: es) [] pos) (tE (gx X cl Wx) (eFn o t)) :=
  (pe_callB hc hg hm hv ha hn hdb he hpl).imp fun s H Q h => tE_fn (g := gx X cl Wx) hw h
theorem se_ct (hc : CallR X (.type T) rr) (hw : ClW X.K cl o rr) (hm : X.mg x = none) (hv : bootBuiltins x = some (.type T)) (ha : PA X (e :: es) (tA (gx X cl Wx) t)) (hg : Gl X x := by rfl) (hn : x ≠ "__name__" := by decide) (hdb : (x == ("__debug__" : Str)) = false := by decide)
    (he : starEach (e :: es) X.env = (false, eval e X.env) :: starEach es X.env := by rfl) (hpl : (backTo pos (starEach es X.env)).any (·.1) = false := by rfl) : PE X (.Call (.Name x p) (e :: es) [] pos) (tE (gx X cl Wx) (eFn o t)) :=
  (pe_callTy hc hg hm hv ha hn hdb he hpl).imp fun s H Q h => tE_fn (g := gx X cl Wx) hw h
theorem sn_ct (hc : CallR X (.type T) rr) (hw : ClN X.K cl oN rr) (hm : X.mg x = none) (hv : bootBuiltins x = some (.type T)) (ha : PA X (e :: es) (tA (gx X cl Wx) t)) (hg : Gl X x := by rfl) (hn : x ≠ "__name__" := by decide) (hdb : (x == ("__debug__" : Str)) = false := by decide)
    (he : starEach (e :: es) X.env = (false, eval e X.env) :: starEach es X.env := by rfl) (hpl : (backTo pos (starEach es X.env)).any (·.1) = false := by rfl) : PE X (.Call (.Name x p) (e :: es) [] pos) (tN (gx X cl Wx) (aFn oN t)) :=
  (pe_callTy hc hg hm hv ha hn hdb he hpl).imp fun s H Q h => tN_fn (g := gx X cl Wx) hw h
end
section
variable {K : PySem.W.Frag}
theorem RWs.two {z : Zn} {H : Hp} {w u : W} {vs : List V} (h : RWs K z H [w, u] vs) : ∃ v x, vs = [v, x] ∧ RW K z H w v ∧ RW K z H u x := by
  obtain ⟨v, r, e1, e2, h2⟩ := h
  obtain ⟨x, f1, f2⟩ := h2.one
  subst f1
  exact ⟨v, x, e1, e2, f2⟩
def lenW (m : Mem) : List W → Option W
  | [.str x] => if x.length ≤ 16777216 then some (.int x.length) else none
  | [.ref n] => match m[n]? with
    | some (.lst xs) => some (.int xs.length)
    | some (.fz xs) => some (.int xs.length)
    | _ => none
  | [w] => (seqOf m w).map fun xs => .int xs.length
  | _ => none
abbrev rLenW (K : PySem.W.Frag) : List V → Hp → VK → Prop := fun xs H Q => (∃ p ys, xs = [V.ref p] ∧ (SqL K H p ys ∨ SqT K H p ys) ∧ Q (.int ys.length) H) ∨ (∃ z, xs = [V.str z] ∧ z.length ≤ sizeLine ∧ Q (.int z.length) H)
theorem c_len : CallR X (.builtin "len") (rLenW X.K) := call_len_seq.or call_len_str
theorem w_len : ClW K cl lenW (rLenW K) := by
  intro z m H ws vs w Q M rws e k
  match ws, e, rws with
  | [u], e, rws =>
    obtain ⟨v, e1, e2⟩ := rws.one
    subst e1
    have seqs : ∀ {xs : List W}, seqOf m u = some xs → w = .int xs.length → rLenW K [v] H Q := fun {xs} q ew => by
      obtain ⟨p, us, f1, f2, f3⟩ := seq_at M e2 q
      subst f1
      refine .inl ⟨p, us, rfl, f2, ?_⟩
      rw [f3.length]
      exact k z _ H (Ext.refl _ _) M (by rw [ew]; rfl)
    cases u with
    | str x =>
      simp only [lenW] at e
      split at e
      · rename_i c
        cases e
        have e2 : v = .str x := e2
        subst e2
        exact .inr ⟨x, rfl, sl_le c, k z _ H (Ext.refl _ _) M rfl⟩
      · cases e
    | ref n =>
      simp only [lenW] at e
      cases q : m[n]? with
      | none => rw [q] at e; cases e
      | some c =>
        rw [q] at e
        cases c with
        | lst xs => exact seqs (xs := xs) (by simp [seqOf, q]) (by simpa using e.symm)
        | fz xs => exact seqs (xs := xs) (by simp [seqOf, q]) (by simpa using e.symm)
        | _ => cases e
    | tup xs => exact seqs (xs := xs) rfl (by simpa [lenW, seqOf] using e.symm)
    | lst xs => exact seqs (xs := xs) rfl (by simpa [lenW, seqOf] using e.symm)
    | old xs => exact seqs (xs := xs) rfl (by simpa [lenW, seqOf] using e.symm)
    | non => simp [lenW, seqOf] at e
    | bl _ => simp [lenW, seqOf] at e
    | int _ => simp [lenW, seqOf] at e
    | raw _ => simp [lenW, seqOf] at e
  | [], e, _ => cases e
  | _ :: _ :: _, e, _ => simp [lenW] at e
def tupleW (m : Mem) : List W → Option W
  | [w] => (seqOf m w).map .tup
  | _ => none
def listW (m : Mem) : List W → Option (List W)
  | [w] => seqOf m w
  | _ => none
theorem w_list : ClN K cl listW (fun xs H Q => ∃ p ys, xs = [V.ref p] ∧ (SqL K H p ys ∨ SqT K H p ys) ∧ ∀ l, H l = none → Q (.ref l) (upd H l (.lst ys))) := by
  intro z m H ws vs us Q M rws e k
  match ws, e, rws with
  | [u], e, rws =>
    obtain ⟨v, e1, e2⟩ := rws.one
    subst e1
    obtain ⟨p, us, f1, f2, f3⟩ := seq_at M e2 e
    subst f1
    refine ⟨p, us, rfl, f2, fun l hl => ?_⟩
    obtain ⟨t1, t2, t3⟩ := new_rel (cl := cl) M hl f3
    exact k _ _ _ t1 t2 t3
  | [], e, _ => cases e
  | _ :: _ :: _, e, _ => simp [listW] at e
def intW (_ : Mem) : List W → Option W
  | [.int i] => some (.int i)
  | [.bl b] => some (.int (if b then 1 else 0))
  | _ => none
theorem w_int : ClW K cl intW (fun xs H Q => (∃ i, xs = [V.int i] ∧ Q (.int i) H) ∨ ∃ k, xs = [V.bl k] ∧ Q (.int (if k then 1 else 0)) H) := by
  intro z m H ws vs w Q M rws e k
  match ws, e, rws with
  | [.int i], e, rws =>
    obtain ⟨v, e1, e2⟩ := rws.one
    have e2 : v = .int i := e2
    subst e1 e2
    cases e
    exact .inl ⟨i, rfl, k z _ H (Ext.refl _ _) M rfl⟩
  | [.bl b], e, rws =>
    obtain ⟨v, e1, e2⟩ := rws.one
    have e2 : v = .bl b := e2
    subst e1 e2
    cases e
    exact .inr ⟨b, rfl, k z _ H (Ext.refl _ _) M rfl⟩
end
def tyW (m : Mem) : W → Option Ty
  | .non => some .non
  | .bl _ => some .bl
  | .int _ => some .int
  | .str _ => some .str
  | .tup _ => some .tup
  | .lst _ => some .lst
  | .old _ => some .lst
  | .ref n => match m[n]? with
    | some (.lst _) => some .lst
    | some (.fz _) => some .lst
    | some (.dct _) => some .dct
    | _ => none
  | .raw _ => none
def eIsi (T : Ty) (f : DE) : DE := fun r m => (f r m).bind fun w m1 => match tyW m1 w with
  | some t => .ok (.bl (t.sub T)) m1
  | none => .bad
def cutW (xs : List W) (lo hi : Option Int) : List W := (xs.drop (HT.sIx xs.length 0 lo)).take (HT.sIx xs.length xs.length hi - HT.sIx xs.length 0 lo)
abbrev DO := Rho → Mem → R (Option Int)
def oNone : DO := fun _ m => .ok none m
def oSome (f : DE) : DO := fun r m => (f r m).bind fun w m1 => match w with
  | .int i => .ok (some i) m1
  | _ => .bad
theorem _root_.L2.PO.imp {oe : Option Expr} {t t' : TO} (h : PO X oe t) (hi : ∀ s H Q, t' s H Q → t s H Q) : PO X oe t' := ⟨fun pins sh s H Q I q => h.run pins sh s H Q I (hi _ _ _ q)⟩
def eSl (f : DE) (lo hi : DO) : DE := fun r m => (f r m).bind fun w m1 => (lo r m1).bind fun l m2 => (hi r m2).bind fun u m3 => match w with
  | .tup xs => .ok (.tup (cutW xs l u)) m3
  | .str x => if x.length ≤ 16777216 then .ok (.str (cutS x l u)) m3 else .bad
  | w => match lstOf m3 w with
    | some xs => .ok (.lst (cutW xs l u)) m3
    | none => .bad
/-- xs[::-1] of a list -/
def eRev (f : DE) : DE := fun r m => (f r m).bind fun w m1 => match lstOf m1 w with
  | some xs => .ok (.lst xs.reverse) m1
  | none => .bad
/-- - e -/
def eNeg (f : DE) : DE := fun r m => (f r m).bind fun w m1 => match w with
  | .int i => .ok (.int (-i)) m1
  | _ => .bad
theorem se_neg {f : DE} (h : PE X e (tE (gx X cl Wx) f)) : PE X (.UnaryOp .USub e pos) (tE (gx X cl Wx) (eNeg f)) :=
  (pe_un un_neg h).imp fun s H Q ⟨r, m, z, R, P⟩ => by
    refine ⟨r, m, z, R, P.bind fun z1 w m1 v H1 E1 R1 r1 P1 => ?_⟩
    cases w with
    | int i => exact ⟨i, r1, Post.ret (b := V.int (-i)) P1 R1 rfl⟩
    | _ => exact P1.elim
end
end Dn
namespace Dn
open PySem PySem.Spec PyProof.Rows L2
def Cell.mut : Cell → Bool
  | .fz _ => false
  | .exn _ _ => false
  | _ => true
section
variable {K : PySem.W.Frag} {cl : Clz} {z : Zn} {m : Mem} {H : Hp}
theorem nodup_ixA {l : List Addr} {i j : Nat} {x : Addr} (hN : l.Nodup) (a : l[i]? = some x) (b : l[j]? = some x) : i = j := by
  obtain ⟨h1, e1⟩ := List.getElem?_eq_some_iff.mp a
  obtain ⟨h2, e2⟩ := List.getElem?_eq_some_iff.mp b
  exact (List.getElem_inj hN).mp (e1.trans e2.symm)
/-- an object of the memory is written -/
theorem MemOk.write {n : Nat} {a : Addr} {c c' : Cell} {o' : HO} (M : MemOk K cl z m H) (hp : z.phi[n]? = some a) (hc : m[n]? = some c) (hm : c.mut = true) (new : Ext z H z (upd H a o') → CellOk K cl z (upd H a o') a c') :
    Ext z H z (upd H a o') ∧ MemOk K cl z (m.set n c') (upd H a o') := by
  have hcell := M.cells n a c hp hc
  have nz : ¬ z.Z a := fun q => by
    cases c with
    | lst ws => exact hcell.1 q
    | fz ws => cases hm
    | dct kvs => obtain ⟨_, vs, e, _⟩ := hcell; obtain ⟨xs, e2⟩ := M.lz a q; rw [e] at e2; cases e2
    | ins c fs => obtain ⟨_, dx, vs, e, _⟩ := hcell; obtain ⟨xs, e2⟩ := M.lz a q; rw [e] at e2; cases e2
    | exn c fs => cases hm
    | dtt _ => obtain ⟨_, vs, e, _⟩ := hcell; obtain ⟨xs, e2⟩ := M.lz a q; rw [e] at e2; cases e2
  have nh : ¬ z.hold a := fun q => by
    cases c with
    | lst ws => exact hcell.2.1 q
    | fz ws => cases hm
    | dct kvs => exact hcell.1 q
    | ins c fs => exact hcell.1 q
    | exn c fs => cases hm
    | dtt _ => exact hcell.1 q
  have nt : ∀ b us, H b = some (.tup us) → b ≠ a := fun b us e q => by
    subst q
    cases c with
    | lst ws => obtain ⟨_, _, vs, e2, _⟩ := hcell; rw [e] at e2; cases e2
    | fz ws => cases hm
    | dct kvs => obtain ⟨_, vs, e2, _⟩ := hcell; rw [e] at e2; cases e2
    | ins c fs => obtain ⟨_, dx, vs, e2, _⟩ := hcell; rw [e] at e2; cases e2
    | exn c fs => cases hm
    | dtt _ => obtain ⟨_, vs, e2, _⟩ := hcell; rw [e] at e2; cases e2
  have nf : ∀ b ob u, H b = some (.frz ob u) → b ≠ a := fun b ob u e q => by
    subst q
    cases c with
    | lst ws => obtain ⟨_, _, vs, e2, _⟩ := hcell; rw [e] at e2; cases e2
    | fz ws => cases hm
    | dct kvs => obtain ⟨_, vs, e2, _⟩ := hcell; rw [e] at e2; cases e2
    | ins c fs => obtain ⟨_, dx, vs, e2, _⟩ := hcell; rw [e] at e2; cases e2
    | exn c fs => cases hm
    | dtt _ => obtain ⟨_, vs, e2, _⟩ := hcell; rw [e] at e2; cases e2
  have no : ∀ o, H a = some o → (∀ f, o ≠ .ext f) ∧ ∀ ps, o ≠ .tbl ps := fun o e => by
    cases c with
    | lst ws => obtain ⟨_, _, vs, e2, _⟩ := hcell; rw [e] at e2; cases e2; exact ⟨fun _ q => (by cases q), fun _ q => (by cases q)⟩
    | fz ws => cases hm
    | dct kvs => obtain ⟨_, vs, e2, _⟩ := hcell; rw [e] at e2; cases e2; exact ⟨fun _ q => (by cases q), fun _ q => (by cases q)⟩
    | ins c fs => obtain ⟨_, dx, vs, e2, _⟩ := hcell; rw [e] at e2; cases e2; exact ⟨fun _ q => (by cases q), fun _ q => (by cases q)⟩
    | exn c fs => cases hm
    | dtt _ => obtain ⟨_, vs, e2, _⟩ := hcell; rw [e] at e2; cases e2; exact ⟨fun _ q => (by cases q), fun _ q => (by cases q)⟩
  have nx : ∀ b f, H b = some (.ext f) → b ≠ a := fun b f e q => by subst q; exact (no _ e).1 f rfl
  have nb : ∀ b ps, H b = some (.tbl ps) → b ≠ a := fun b ps e q => by subst q; exact (no _ e).2 ps rfl
  have ez : ∀ b, z.Z b → b ≠ a := fun b q e => nz (e ▸ q)
  have eh : ∀ b, z.hold b → b ≠ a := fun b q e => nh (e ▸ q)
  have ex : Ext z H z (upd H a o') := ⟨⟨fun b us e => by rw [upd_ne (nt b us e)]; exact e, fun b ob u e => by rw [upd_ne (nf b ob u e)]; exact e, fun b q => ⟨q, upd_ne (ez b q)⟩, fun _ _ q => q, fun b f e => by rw [upd_ne (nx b f e)]; exact e⟩, fun b q => ⟨q, upd_ne (eh b q)⟩⟩
  refine ⟨ex, by simp [M.len], M.nd, M.sep, fun b q => by rw [upd_ne (ez b q)]; exact M.lz b q, fun b q => by rw [upd_ne (eh b q)]; exact M.lh b q, fun k b d h1 h2 => ?_, tabs_keep M.tb (fun b ps q => by rw [upd_ne (nb b ps q)]; exact q) ex.e0.xts, cl.gx ex.e0 M.gh⟩
  by_cases hk : n = k
  · subst hk
    rw [hp] at h1
    cases h1
    rw [List.getElem?_set_self (List.getElem?_eq_some_iff.mp hc).1] at h2
    cases h2
    exact new ex
  · rw [List.getElem?_set_ne hk] at h2
    have hne : b ≠ a := fun q => by
      subst q
      exact hk (nodup_ixA M.nd hp h1)
    exact (M.cells k b d h1 h2).ext2 ex.e0 Iff.rfl (fun x => x) (upd_ne hne)
end
section
variable {X : Cx} {cl : Clz} {Wx : WX} {e a b o : Expr} {pos : Pos}
/-- a name whose list is settled from here on -/
def eFrz (i : Nat) : DE := fun r m => match r[i]? with
  | some (some (.ref n)) => match m[n]? with
    | some (.lst ws) => .ok (.lst ws) (m.set n (.fz ws))
    | some (.fz ws) => .ok (.lst ws) m
    | _ => .bad
  | some (some (.lst ws)) => .ok (.lst ws) m
  | _ => .bad
/-- xs.append(e) -/
def eApp (fo fe : DE) : DE := fun r m => (fo r m).bind fun w m1 => match w with
  | .ref n => match m1[n]? with
    | some (.lst _) => (fe r m1).bind fun y m2 => match m2[n]? with
      | some (.lst xs) => if xs.length < 16777216 then .ok .non (m2.set n (.lst (xs ++ [y]))) else .bad
      | _ => .bad
    | _ => .bad
  | _ => .bad
theorem sl_lt {n : Nat} (h : n < 16777216) : n < sizeLine := by rw [sizeLine_eq]; exact h
theorem se_app {fo fe : DE} {apos : Pos} (ho : PE X o (tE (gx X cl Wx) fo)) (he : PE X e (tE (gx X cl Wx) fe))
    (hbase : attributeBase o "append" X.env (eval o X.env) = eval o X.env := by rfl)
    (hfew : ((backTo pos (starEach [e] X.env)).all (fun x => !x.1) && (backToKw pos (keywordEach [] X.env)).all (fun x => x.1.isSome)
      && decide ([e].length + ([] : List Keyword).length + (if ([] : List Keyword).isEmpty then 0 else 1) < 30)) = true := by rfl)
    (hline : (apos.endLine == pos.line) = true := by rfl) (hs : starEach [e] X.env = (false, eval e X.env) :: starEach [] X.env := by rfl) (hplain : (backTo pos (starEach [] X.env)).any (·.1) = false := by rfl) :
    PE X (.Call (.Attribute o "append" apos) [e] [] pos) (tE (gx X cl Wx) (eApp fo fe)) :=
  (pe_bm PySem.F.plainAttrs_list PySem.F.slot_list_append PySem.F.type_list_append mt_append ho (pa_cons he pa_nil hs) hbase hfew hline hs hplain).imp fun s H Q ⟨r, m, z, R, P⟩ => by
    refine ⟨r, m, z, R, P.bind fun z1 w m1 v H1 E1 R1 r1 P1 => ?_⟩
    cases w with
    | ref n =>
      obtain ⟨p, q1, q2⟩ := r1
      subst q2
      simp only at P1
      split at P1
      · rename_i ys e1
        obtain ⟨_, _, vs, h1, _⟩ := R1.mem.cells n p _ q1 e1
        refine ⟨.inl ⟨rfl, vs, SqL.of h1⟩, r, m1, z1, R1, P1.bind fun z2 y m2 v2 H2 E2 R2 r2 P2 => ?_⟩
        have q3 := E2.e0.ph n p q1
        split at P2
        · rename_i xs e2
          split at P2
          · rename_i hl
            obtain ⟨n1, n2, us, h2, h3⟩ := R2.mem.cells n p _ q3 e2
            refine ⟨p, us, v2, rfl, rfl, h2, by rw [h3.length]; exact sl_lt hl, ?_⟩
            obtain ⟨ex, M⟩ := R2.mem.write (c' := .lst (xs ++ [y])) (o' := .lst (us ++ [v2])) q3 e2 rfl fun ex => ⟨n1, n2, _, upd_same, (RWs.ext ex h3).append (.cons (r2.ext ex) .nil)⟩
            exact P2 _ _ _ ex (R2.after ex M) rfl
          · exact P2.elim
        · exact P2.elim
      · exact P1.elim
    | _ => exact P1.elim
def keyW : W → Option Key
  | .int i => some (.inl i)
  | .str x => some (.inr x)
  | _ => none
theorem key_rel {K : PySem.W.Frag} {z : Zn} {H : Hp} {w : W} {v : V} {k : Key} (h : RW K z H w v) (e : keyW w = some k) : v = kV k := by
  cases w with
  | int i => cases e; exact h
  | str x => cases e; exact h
  | _ => cases e
def valW (kvs : List (Key × W)) (k : Key) : Option W := match kvs with
  | [] => none
  | (j, w) :: r => if j = k then some w else valW r k
def hasW (kvs : List (Key × W)) (k : Key) : Bool := match kvs with
  | [] => false
  | (j, _) :: r => decide (j = k) || hasW r k
def setW (kvs : List (Key × W)) (k : Key) (w : W) : List (Key × W) := match kvs with
  | [] => []
  | (j, u) :: r => (if j = k then (j, w) else (j, u)) :: setW r k w
def putW (kvs : List (Key × W)) (k : Key) (w : W) : List (Key × W) := if hasW kvs k = true then setW kvs k w else kvs ++ [(k, w)]
section
variable {K : PySem.W.Frag} {z : Zn} {H : Hp}
theorem valW_some {k : Key} : ∀ {kvs : List (Key × W)} {vs : List (Key × V)} {w : W}, RFs K z H kvs vs → valW kvs k = some w → ∃ v, valV vs k = some v ∧ RW K z H w v
  | [], _, _, _, e => by cases e
  | (j, u) :: r, _, w, ⟨v, vr, h1, h2, h3⟩, e => by
    subst h1
    simp only [valW] at e
    by_cases hj : j = k
    · rw [if_pos hj] at e; cases e; exact ⟨v, valV_pos hj, h2⟩
    · rw [if_neg hj] at e
      obtain ⟨v', a1, a2⟩ := valW_some h3 e
      exact ⟨v', by rw [valV_neg hj]; exact a1, a2⟩
theorem RFs.append {α : Type} : ∀ {as bs : List (α × W)} {us vs : List (α × V)}, RFs K z H as us → RFs K z H bs vs → RFs K z H (as ++ bs) (us ++ vs)
  | [], _, _, _, h, t => by cases h; exact t
  | (k, w) :: _, _, _, _, ⟨v, r, h1, h2, h3⟩, t => by subst h1; exact ⟨v, _, rfl, h2, RFs.append h3 t⟩
theorem hasW_any {k : Key} : ∀ {kvs : List (Key × W)} {vs : List (Key × V)}, RFs K z H kvs vs → (vs.any fun kv => decide (kv.1 = k)) = hasW kvs k
  | [], _, h => by cases h; rfl
  | (j, w) :: _, _, ⟨v, r, h1, h2, h3⟩ => by
    subst h1
    simp only [List.any_cons, hasW]
    rw [hasW_any h3]
theorem setW_rel {k : Key} {w : W} {v : V} (hw : RW K z H w v) : ∀ {kvs : List (Key × W)} {vs : List (Key × V)}, RFs K z H kvs vs → RFs K z H (setW kvs k w) (vs.map fun kv => if kv.1 = k then (kv.1, v) else kv)
  | [], _, h => by cases h; rfl
  | (j, u) :: _, _, ⟨x, r, h1, h2, h3⟩ => by
    subst h1
    simp only [setW, List.map_cons]
    by_cases hj : j = k
    · rw [if_pos hj, if_pos hj]; exact ⟨v, _, rfl, hw, setW_rel hw h3⟩
    · rw [if_neg hj, if_neg hj]; exact ⟨x, _, rfl, h2, setW_rel hw h3⟩
theorem putW_rel {k : Key} {w : W} {v : V} {kvs : List (Key × W)} {vs : List (Key × V)} (hw : RW K z H w v) (h : RFs K z H kvs vs) : RFs K z H (putW kvs k w) (putK vs k v) := by
  unfold putW putK
  rw [hasW_any h]
  split
  · exact setW_rel hw h
  · exact h.append ⟨v, [], rfl, hw, rfl⟩
end
def eDget (fo fi : DE) : DE := fun r m => (fo r m).bind fun w m1 => (fi r m1).bind fun k m2 => match w with
  | .ref n => match m2[n]?, keyW k with
    | some (.dct kvs), some key => match valW kvs key with
      | some u => .ok u m2
      | none => .bad
    | _, _ => .bad
  | _ => .bad
theorem se_dget {fo fi : DE} {i : Expr} (hu : X.A.units + 1 < cLine) (ho : PE X o (tE (gx X cl Wx) fo)) (hi : PE X i (tE (gx X cl Wx) fi)) (hs : NoSl i := by exact fun _ _ => rfl) : PE X (.Subscript o i pos) (tE (gx X cl Wx) (eDget fo fi)) :=
  (pe_dget hu ho hi hs).imp fun s H Q ⟨r, m, z, R, P⟩ => by
    refine ⟨r, m, z, R, P.bind fun z1 w m1 v H1 E1 R1 r1 P1 => ?_⟩
    refine ⟨r, m1, z1, R1, P1.bind fun z2 k m2 y H2 E2 R2 r2 P2 => ?_⟩
    cases w with
    | ref n =>
      obtain ⟨p, q1, q2⟩ := RW.ext E2 r1
      subst q2
      simp only at P2
      split at P2
      · rename_i kvs key e1 e2
        split at P2
        · rename_i u e3
          obtain ⟨_, vs, h1, h2⟩ := R2.mem.cells n p _ q1 e1
          obtain ⟨x, g1, g2⟩ := valW_some h2 e3
          have hy := key_rel r2 e2
          subst hy
          exact ⟨p, x, rfl, by rw [← g1]; exact DGet.k h1, P2 z2 x H2 (Ext.refl _ _) R2 g2⟩
        · exact P2.elim
      · exact P2.elim
    | _ => exact P2.elim
/-- o[i] = e, of a list or a dict -/
def setM (m : Mem) (o i v : W) : Option Mem := match o with
  | .ref n => match m[n]? with
    | some (.lst xs) => match i with
      | .int k => (ixN xs.length k).map fun j => m.set n (.lst (xs.set j v))
      | _ => none
    | some (.dct kvs) => match keyW i with
      | some key => if kvs.length < 16777216 then some (m.set n (.dct (putW kvs key v))) else none
      | none => none
    | _ => none
  | _ => none
def rSetD : V → V → V → Hp → (Hp → Prop) → Prop := fun o i v H Q => ∃ a H', o = .ref a ∧ DPut H a i v H' ∧ Q H'
theorem set_dict (hu : X.A.units + 1 < cLine) : PSet X rSetD := by
  intro pins s σ H o i v ov iv u Q I ro ri rv h
  obtain ⟨a, H', ex, g, q⟩ := h
  subst ex
  obtain rfl : ov = Value.ref a := ro
  exact d_setItem hu I g ri rv fun s4 I4 => ⟨H', I4, q⟩
def sSub (fo fi fv : DE) : DS := fun r m => (fv r m).thenS r fun v m1 => (fo r m1).thenS r fun w m2 => (fi r m2).thenS r fun i m3 => match setM m3 w i v with
  | some m4 => .next r m4
  | none => .bad
theorem ss_sub {fo fi fv : DE} {i : Expr} {p2 : Pos} (hu : X.A.units + 1 < cLine) (hv : PE X e (tE (gx X cl Wx) fv)) (ho : PE X o (tE (gx X cl Wx) fo)) (hi : PE X i (tE (gx X cl Wx) fi))
    (ha : ∀ v, assign (.Subscript o i p2) X.env v = (do
      let ov ← holding [v] (eval o X.env)
      let iv ← holding [v, ov] (eval i X.env)
      standAt p2
      holding [v, ov, iv] (setItem ov iv v)
      release [v, ov, iv] []) := by intro _; rfl)
    (hs : swapsWithSole [.Subscript o i p2] e pos.line X.env = pure false := by rfl) (hw : swappedStores [.Subscript o i p2] e X.env = pure none := by rfl)
    (h1 : (assignEach [.Subscript o i p2] X.env).map (·.2) = [assign (.Subscript o i p2) X.env] := by rfl) : PS X (.Assign [.Subscript o i p2] e pos) (tS (gx X cl Wx) (sSub fo fi fv)) :=
  (ps_asg hv (pg_sub ho hi (PSet.or set_list (set_dict hu)) ha) hs hw h1).imp fun D s H ⟨r, m, z, R, P⟩ => ⟨r, m, z, R, P.bind fun z1 v m1 x H1 E1 R1 r1 P1 => by
    refine ⟨r, m1, z1, R1, P1.bind fun z2 w m2 y H2 E2 R2 r2 P2 => ?_⟩
    refine ⟨r, m2, z2, R2, P2.bind fun z3 k m3 u H3 E3 R3 r3 P3 => ?_⟩
    have r1 : RW X.K z3 H3 v x := (RW.ext E2 r1).ext E3
    cases w with
    | ref n =>
      obtain ⟨p, q1, q2⟩ := RW.ext E3 r2
      subst q2
      simp only [setM] at P3
      cases q : m3[n]? with
      | none => rw [q] at P3; exact P3.elim
      | some c =>
        rw [q] at P3
        cases c with
        | lst xs =>
          cases k with
          | int j =>
            have r3 : u = .int j := r3
            subst r3
            simp only at P3
            cases q4 : ixN xs.length j with
            | none => rw [q4] at P3; exact P3.elim
            | some l =>
              rw [q4] at P3
              obtain ⟨n1, n2, us, h2, h3⟩ := R3.mem.cells n p _ q1 q
              refine .inl ⟨p, us, j, l, rfl, rfl, h2, by rw [h3.length]; exact q4, ?_⟩
              obtain ⟨ex, M⟩ := R3.mem.write (c' := .lst (xs.set l v)) (o' := .lst (us.set l x)) q1 q rfl fun ex => ⟨n1, n2, _, upd_same, RWs.set (r1.ext ex) l (RWs.ext ex h3)⟩
              exact P3 _ _ _ ex (R3.after ex M)
          | _ => exact P3.elim
        | dct kvs =>
          simp only at P3
          cases q4 : keyW k with
          | none => rw [q4] at P3; exact P3.elim
          | some key =>
            rw [q4] at P3
            simp only at P3
            by_cases hl : kvs.length < 16777216
            · rw [if_pos hl] at P3
              obtain ⟨n2, us, h2, h3⟩ := R3.mem.cells n p _ q1 q
              have hy := key_rel r3 q4
              subst hy
              refine .inr ⟨p, _, rfl, DPut.k h2 (by rw [h3.length]; exact sl_lt hl), ?_⟩
              obtain ⟨ex, M⟩ := R3.mem.write (c' := .dct (putW kvs key v)) (o' := .dK (putK us key x)) q1 q rfl fun ex => ⟨n2, _, upd_same, putW_rel (r1.ext ex) (RFs.ext ex h3)⟩
              exact P3 _ _ _ ex (R3.after ex M)
            · rw [if_neg hl] at P3; exact P3.elim
        | fz xs => exact P3.elim
        | _ => exact P3.elim
    | _ => exact P3.elim⟩
/-- {"k": e, ..} -/
def pairsD : List (Str × DE) → Rho → Mem → R (List (Key × W))
  | [], _, m => .ok [] m
  | (k, f) :: t, r, m => (f r m).bind fun w m1 => (pairsD t r m1).bind fun ws m2 => .ok ((.inr k, w) :: ws) m2
def relP (K : PySem.W.Frag) (z : Zn) (H : Hp) (kws : List (Key × W)) (ps : List (V × V)) : Prop := ∃ vs : List (Key × V), RFs K z H kws vs ∧ ps = vs.map fun kv => (kV kv.1, kv.2)
theorem pairs_of {g : Gx} {s : L2.St} {r : Rho} : ∀ {fs : List (Str × DE)} {m : Mem} {z : Zn} {H : Hp} {Q : List (V × V) → Hp → Prop}, Rel g.K g.cl z r m s H → Post g (relP g.K) z H r s (pairsD fs r m) Q → tPairs (fs.map fun kf => (tC (.str kf.1), tE g kf.2)) s H Q
  | [], m, z, H, Q, R, P => Post.ret (b := ([] : List (V × V))) P R ⟨[], rfl, rfl⟩
  | (k, f) :: t, m, z, H, Q, R, P => by
    refine ⟨r, m, z, R, P.bind fun z1 w m1 v H1 E1 R1 r1 P1 => ?_⟩
    refine pairs_of (fs := t) R1 (P1.bind fun z2 ws m2 ps H2 E2 R2 r2 P2 => ?_)
    obtain ⟨vs, a1, a2⟩ := r2
    exact Post.ret (b := (V.str k, v) :: ps) P2 R2 ⟨(.inr k, v) :: vs, ⟨v, vs, rfl, RW.ext E2 r1, a1⟩, by rw [a2]; rfl⟩
def mergeW (kvs more : List (Key × W)) : List (Key × W) := match more with
  | [] => kvs
  | (k, w) :: r => mergeW (putW kvs k w) r
theorem mergeW_rel {K : PySem.W.Frag} {z : Zn} {H : Hp} : ∀ {more kvs : List (Key × W)} {mv vs : List (Key × V)}, RFs K z H more mv → RFs K z H kvs vs → RFs K z H (mergeW kvs more) (mergeK vs mv)
  | [], _, _, _, h, t => by cases h; exact t
  | (k, w) :: _, _, _, _, ⟨v, r, h1, h2, h3⟩, t => by
    subst h1
    show RFs K z H (mergeW (putW _ k w) _) (mergeK (putK _ k v) r)
    exact mergeW_rel h3 (putW_rel h2 t)
def eDict (fs : List (Str × DE)) : DE := fun r m => (pairsD fs r m).bind fun kws m1 => if kws.length ≤ 15 then .ok (.ref m1.length) (m1 ++ [.dct (mergeW [] kws)]) else .bad
theorem se_dict {keys : List (Option Expr)} {values : List Expr} {fs : List (Str × DE)} (h : PPs X pos keys values (fs.map fun kf => (tC (.str kf.1), tE (gx X cl Wx) kf.2))) (hall : keys.all (·.isSome) = true := by rfl) (hl : keys.length = values.length := by rfl) (h0 : keys ≠ [] := by intro h; cases h)
    (h15 : keys.length ≤ 15 := by decide) : PE X (.Dict keys values pos) (tE (gx X cl Wx) (eDict fs)) :=
  (pe_disp h hall hl h0 h15).imp fun s H Q ⟨r, m, z, R, P⟩ p hp => by
    have hs := upd_same_of (o := .dK []) hp
    have R1 := R.same hs
    have E1 := R.mem.extS hs
    have nz := R.mem.z_ne hp
    have nh := R.mem.h_ne hp
    have np := R.mem.p_ne hp
    obtain ⟨M2, E2⟩ := R1.mem.hold (p := p) upd_same nz np
    have R2 := R1.after E2 M2
    unfold eDict at P
    refine pairs_of (g := gx X cl Wx) R2 ?_
    cases q : pairsD fs r m with
    | ok kws m1 =>
      rw [q] at P
      intro z3 ps H3 E3 R3 ⟨vs, a1, a2⟩
      have hh : z3.hold p := (E3.hs p (.inl rfl)).1
      have hp3 : H3 p = some (.dK []) := (E3.hs p (.inl rfl)).2.trans upd_same
      simp only [Dn.R.bind] at P
      split at P
      · rename_i c
        refine ⟨hp3, vs, a2, by rw [a1.length]; exact c, ?_⟩
        obtain ⟨M4, e4, n4, p4⟩ := R3.mem.unhold (o' := .dK (mergeK [] vs)) hh hp3
        have e14 : Ext z H (z3.un p) (upd H3 p (.dK (mergeK [] vs))) := by
          have e3 : Ext z H z3 H3 := (E1.trans E2).trans E3
          refine ⟨e3.e0.trans e4, fun b hb => ?_⟩
          have hne : b ≠ p := fun q => nh (q ▸ hb)
          exact ⟨⟨hne, (e3.hs b hb).1⟩, by rw [upd_ne hne]; exact (e3.hs b hb).2⟩
        have e5 : Ext (z3.un p) (upd H3 p (.dK (mergeK [] vs))) ((z3.un p).lay p) (upd H3 p (.dK (mergeK [] vs))) := ⟨⟨fun _ _ h => h, fun _ _ _ h => h, fun _ h => ⟨h, rfl⟩, fun n a h => by
          have hl := (List.getElem?_eq_some_iff.mp h).1
          show (z3.phi ++ [p])[n]? = some a
          rw [List.getElem?_append_left hl]
          exact h, fun _ _ h => h⟩, fun _ h => ⟨h, rfl⟩⟩
        obtain ⟨e6, M6⟩ := M4.lay (p := p) (c := .dct (mergeW [] kws)) n4 p4 ⟨fun q => q.1 rfl, _, upd_same, (mergeW_rel (kvs := []) (vs := []) (a1.ext0 e4) rfl).ext e5⟩
        refine P _ _ _ (e14.trans e5) ((R.after e14 M4).after e5 M6) ⟨p, ?_, rfl⟩
        show (z3.phi ++ [p])[m1.length]? = some p
        have hlen : z3.phi.length = m1.length := R3.mem.len
        rw [← hlen]
        simp
      · exact P.elim
    | exc x m1 => rw [q] at P; exact fun z' H' c d e R q => P z' H' c d ((E1.trans E2).trans e) R q
    | bad => rw [q] at P; exact P
def eChain (o1 o2 : Mem → W → W → Option W) (fa fb fc : DE) : DE := fun r m => (fa r m).bind fun a m1 => (fb r m1).bind fun b m2 => match o1 m2 a b with
  | some (.bl true) => (fc r m2).bind fun c m3 => match o2 m3 b c with
    | some w => .ok w m3
    | none => .bad
  | some (.bl false) => .ok (.bl false) m2
  | _ => .bad
def isNonW (_ : Mem) (a b : W) : Option W := match b with
  | .non => match a with
    | .non => some (.bl true)
    | .raw _ => none
    | _ => some (.bl false)
  | _ => none
end
end Dn
namespace Dn
open PySem PySem.Spec PyProof.Rows L2
open PySem.Sem (wp)
open PySem.AutoSeq1 (wpAny_loadPart')
theorem meets_enumerate_newT (l : Addr) (items : Array Value) (n : Nat) (dct : Option Addr) (sl : Array (Option Value)) :
    Meets (Builtin.«enumerate.__new__» ⟨[.type "enumerate", .ref l], []⟩) (fun _ R s => s.heap.get? l = some { cls := .type "tuple", dict := dct, data := .seq items n, slots := sl } ∧
      R (.ok (.ret (.ref (s.heap.push { cls := .type "tuple_iterator", data := .fields #[.ref l, .int 0 0] }).objs.size)))
        { s with heap := (s.heap.push { cls := .type "tuple_iterator", data := .fields #[.ref l, .int 0 0] }).push { cls := .type "enumerate", data := .fields #[.none, .bool false, .ref s.heap.objs.size, rawInt 0, .none, .none] } }) :=
  .of_wp fun prog w A R s h => by
    obtain ⟨hp, g, d, tk, os⟩ := s; obtain ⟨hl, h⟩ := h
    have hsub := sub_enumerate
    have hL : Heap.IsTuple (Shared.heap ⟨hp, g, d, tk, os⟩) l items := ⟨_, hl, rfl, n, rfl⟩
    wp_walk using wpAny_loadPart' hl
    refine wpAny_stack_any fun st => wpAny_pure ?_
    split
    · rename_i c _ _ _ _ _
      cases (c == Value.type "enumerate")
      · wp_walk using wpAny_loadPart' hl, wpAny_pyIter_tuple hL
        exact ⟨_, rfl, h⟩
      · wp_walk using wpAny_loadPart' hl, wpAny_pyIter_tuple hL
        exact ⟨_, rfl, h⟩
    · wp_walk using wpAny_loadPart' hl, wpAny_pyIter_tuple hL
      exact ⟨_, rfl, h⟩
section
variable {prog : Program} {w : World} {A : Around} {E : Value → Shared → Prop} {s : Shared}
theorem call_enumerate_tuple {l : Addr} {items : Array Value} {Q : Value → Shared → Prop} (hL : s.heap.IsTuple l items)
    (h : ∀ h', IsEnum h' (s.heap.objs.size + 1) s.heap.objs.size 0 .none → h'.IsTupleIter s.heap.objs.size l 0 → h'.objs.size = s.heap.objs.size + 2 →
      (∀ b o, s.heap.get? b = some o → h'.get? b = some o) → Q (.ref (s.heap.objs.size + 1)) { s with heap := h' }) :
    wpAny (model prog w) A (call (.type "enumerate") [.ref l]) Q E s := by
  obtain ⟨⟨c, dct, dt, sl⟩, hl, hc, n, hd⟩ := hL
  replace hc : c = .type "tuple" := hc
  replace hd : dt = .seq items n := hd
  subst hc hd
  refine callType_new F.called_enumerate (by decide) (F.typeCall_enumerate_1 _) (F.newCall_enumerate_1 _) (fun obj => F.args_object_init_2 obj _) F.entry_enumerate_new
    (meets_enumerate_newT l items n dct sl) ⟨hl, ?_⟩
  have hz : (s.heap.push { cls := .type "tuple_iterator", data := .fields #[.ref l, .int 0 0] }).objs.size = s.heap.objs.size + 1 := Heap.size_push ..
  show _ ∧ _
  rw [hz]
  have he : IsEnum ((s.heap.push { cls := .type "tuple_iterator", data := .fields #[.ref l, .int 0 0] }).push
      { cls := .type "enumerate", data := .fields #[.none, .bool false, .ref s.heap.objs.size, rawInt 0, .none, .none] }) (s.heap.objs.size + 1) s.heap.objs.size 0 .none := by
    have := Heap.get?_push_size (s.heap.push { cls := .type "tuple_iterator", data := .fields #[.ref l, .int 0 0] })
      (o := { cls := .type "enumerate", data := .fields #[.none, .bool false, .ref s.heap.objs.size, rawInt 0, .none, .none] }) rfl
    rw [hz] at this; exact this
  refine ⟨⟨_, he, rfl⟩, h _ he ⟨_, Heap.get?_push_of_some _ (Heap.get?_push_size _ rfl), rfl, rfl⟩ (by rw [Heap.size_push, hz]) fun b o x => Heap.get?_push_of_some _ (Heap.get?_push_of_some _ x)⟩
end
/-- the tuple at a, each item in a new pair -/
def IteT (K : PySem.W.Frag) (a : Addr) : It :=
  ⟨fun i H => ∃ (xs : List V) (x : V), SqT K H a xs ∧ xs[i]? = some x, fun i H v H' => ∃ T x, v = .ref T ∧ H T = none ∧ H' = upd H T (.tup [.int (i : Nat), x]) ∧ ∀ xs, SqT K H a xs → xs[i]? = some x, fun i H => ∃ xs : List V, SqT K H a xs ∧ xs.length = i⟩
theorem turn_enumT {P : Program} {w : World} {K : PySem.W.Frag} {elts : List Expr} {kk : Nat} {tpos : Pos} (a e it : Addr) (hai : a ≠ it) (hae : a ≠ e) :
    Turn P w K (.Tuple elts kk tpos) (IteT K a) [e, it] e (fun i h => (∃ old, IsEnum h e it ((i : Nat) : Int) old) ∧ h.IsTupleIter it a i ∧ e ≠ it) where
  mem := by simp
  obj := fun i h st b hb => by
    obtain ⟨⟨old, he⟩, ⟨o, ho, hc, hd⟩, _⟩ := st
    have e' : b = e ∨ b = it := by simpa using hb
    rcases e' with z | z
    · rw [z]; exact ⟨_, he, fun v q => nomatch q⟩
    · rw [z]; exact ⟨o, ho, fun v q => by rw [hd] at q; cases q⟩
  keep := fun i h h' st k => let ⟨⟨old, he⟩, hi, hne⟩ := st; ⟨⟨old, k e (by simp) _ he⟩, hi.at fun o q => k it (by simp) o q, hne⟩
  item := by
    intro X hP hw hK hc i pins s σ H E I hf st hg
    subst hP hw hK
    obtain ⟨⟨old, he⟩, hit, hne⟩ := st
    obtain ⟨xs, x, hq, hx⟩ := hg
    obtain ⟨its, rv, p, hz⟩ := I.tuple hq
    obtain ⟨u, hu, ru⟩ := rv.get hx
    have hel : e < s.heap.objs.size := Heap.lt_size he
    have hil : it < s.heap.objs.size := by obtain ⟨_, q, _⟩ := hit; exact Heap.lt_size q
    have hlt : i < its.toArray.size := by
      rw [List.size_toArray]
      exact (List.getElem?_eq_some_iff.mp hu).1
    refine wpAny_pyNext_enum_itemD (Draws.tuple (A := X.A.in1) (I.ok.hd hc) it a hai its.toArray) he ⟨hit, p⟩ hlt hne (by simp; exact ⟨hne, fun q => hae q.symm⟩) fun y h' tk hy ho hit' hT hsz hk => ?_
    have hy : y = u := by
      have h1 : its.toArray[i]? = some y := hy
      have h2 : its.toArray[i]? = some u := by simpa using hu
      rw [h2] at h1
      exact (Option.some.inj h1).symm
    subst hy
    refine ⟨_, rfl, wpAny_letOwnedTupleGo_enum (s := { s with heap := h', toks := tk + 1 }) ho fun h'' he' sb => ?_⟩
    have hT2 : h''.get? s.heap.objs.size = some { cls := .type "tuple", data := .seq #[.int i tk, y] } := (sb.2 _ (Nat.ne_of_gt hel)).trans hT
    have new : ObjOk X.prog X.w (upd H s.heap.objs.size (.tup [.int (i : Nat), x])) h'' s.heap.objs.size (.tup [.int (i : Nat), x]) :=
      ⟨by show 2 ≤ sizeLine; decide, [.int i tk, y], .cons ⟨_, rfl⟩ (.cons ru .nil), ⟨_, hT2, rfl, _, rfl⟩⟩
    have I1 : Inv X pins σ (upd H s.heap.objs.size (.tup [.int (i : Nat), x])) { s with heap := h'', toks := tk + 1 } :=
      I.turnedNew (ch := [e, it]) (fun b ob hb q => (sb.2 b (fun z => hb (by simp [z]))).trans (hk b ob (fun z => hb (by simp [z])) (fun z => hb (by simp [z])) q)) hf (Nat.le_refl _) new
    refine ⟨.ref s.heap.objs.size, _, I1, rfl, ⟨_, x, rfl, I.hok.fresh (Nat.le_refl _), rfl, fun ys hy => by rw [I.tuple_inj hy hq]; exact hx⟩, ⟨⟨y, ?_⟩, hit'.1.at fun o q => (sb.2 it (Ne.symm hne)).trans q, hne⟩, fun b hb => ?_⟩
    · have e1 : ((i + 1 : Nat) : Int) = (i : Int) + 1 := by omega
      rw [e1]; exact he'
    · have hb' : b < s.heap.objs.size := by
        have e' : b = e ∨ b = it := by simpa using hb
        rcases e' with z | z
        · rw [z]; exact hel
        · rw [z]; exact hil
      rw [upd_ne (Nat.ne_of_lt hb')]
      exact (hf b hb).1
  done := by
    intro X hP hw hK hc i pins s σ H E I hf st hg
    subst hP hw hK
    obtain ⟨⟨old, he⟩, hit, hne⟩ := st
    obtain ⟨xs, hq, hx⟩ := hg
    obtain ⟨its, rv, p, hz⟩ := I.tuple hq
    obtain ⟨f0, f1, f2, f3, f4, f5⟩ := hf it (by simp)
    have hl := rv.length
    have hs : its.toArray.size = i := by rw [List.size_toArray]; omega
    exact wpAny_pyNext_enum_endD (Draws.tuple (A := X.A.in1) (I.ok.hd hc) it a hai its.toArray) he (by rw [hs]; exact ⟨hit, p⟩) fun h' eb => ⟨rfl, I.turned (t' := s.toks) (fun b o hb q => eb b o hb q) f0 f1 f3 f4 f5⟩
  self := fun A i s Q E st h => let ⟨⟨_, he⟩, _⟩ := st; wpAny_pyIter_enum he h
def iEnumT (K : PySem.W.Frag) (ta : TA) : TI := fun σ H R => ta σ H fun vs H1 => ∃ a xs, vs = [.ref a] ∧ SqT K H1 a xs ∧ R (IteT K a) H1
theorem pi_enumT {X : Cx} {e : Expr} {ta : TA} {p pos tpos : Pos} {elts : List Expr} {kk : Nat} (hg : Gl X "enumerate") (hm : X.mg "enumerate" = none) (ha : PA X [e] ta) (hs : starEach [e] X.env = [(false, eval e X.env)] := by rfl) :
    PI X (.Tuple elts kk tpos) (.Call (.Name "enumerate" p) [e] [] pos) (iEnumT X.K ta) := by
  refine ⟨fun pins s σ H R I h => ?_⟩
  refine Call_ (ld_blt I hg hm boot_enumerate (PyProof.Rows.callWith_type1 (thn (ha.run pos pins s σ H _ I h) fun us s1 ⟨vs, H1, I1, r1, q1⟩ => ?_) hs rfl))
  obtain ⟨a, xs, ex, hq, q⟩ := q1
  subst ex
  cases r1 with
  | cons r rr =>
    cases rr
    cases r
    obtain ⟨its, rv, p', hz⟩ := I1.tuple hq
    have hlt : a < s1.heap.objs.size := p'.lt
    refine call_enumerate_tuple p' fun h' he hit hsz hk => wpAny_pyIter_enum he ?_
    have I2 : Inv X pins σ H1 { s1 with heap := h' } := I1.kept (t' := s1.toks) hk
    refine ⟨s1.heap.objs.size + 1, [s1.heap.objs.size + 1, s1.heap.objs.size], _, _, H1, rfl, I2, turn_enumT a (s1.heap.objs.size + 1) s1.heap.objs.size (Nat.ne_of_lt hlt) (Nat.ne_of_lt (Nat.lt_succ_of_lt hlt)), ⟨⟨.none, he⟩, hit, Nat.succ_ne_self _⟩, fun b hb => ?_, q⟩
    have e' : b = s1.heap.objs.size + 1 ∨ b = s1.heap.objs.size := by simpa using hb
    have hle : s1.heap.objs.size ≤ b := by
      rcases e' with z | z
      · rw [z]; exact Nat.le_add_right _ _
      · rw [z]; exact Nat.le_refl _
    exact I1.fpOk hle (I1.hok.fresh hle)
section
variable {X : Cx} {cl : Clz} {Wx : WX} {e a b : Expr} {pos : Pos}
/-- enumerate(e) -/
def numbered (i : Nat) : List W → List W
  | [] => []
  | w :: ws => .tup [.int (i : Nat), w] :: numbered (i + 1) ws
theorem numbered_len : ∀ (i : Nat) (ws : List W), (numbered i ws).length = ws.length
  | _, [] => rfl
  | i, _ :: ws => by rw [numbered, List.length_cons, List.length_cons, numbered_len]
theorem numbered_get : ∀ (j i : Nat) (ws : List W) (w : W), (numbered j ws)[i]? = some w → ∃ u, ws[i]? = some u ∧ w = .tup [.int ((j + i : Nat) : Int), u]
  | _, _, [], _, h => by simp [numbered] at h
  | j, 0, u :: ws, w, h => by simp [numbered] at h; exact ⟨u, rfl, by simpa using h.symm⟩
  | j, i + 1, u :: ws, w, h => by
    rw [numbered, List.getElem?_cons_succ] at h
    obtain ⟨v, h1, h2⟩ := numbered_get (j + 1) i ws w h
    exact ⟨v, by simpa using h1, by rw [h2]; congr 3; omega⟩
def iEnumW (f : DE) : DA := fun r m => (f r m).bind fun w m1 => match w with
  | .tup xs => .ok (numbered 0 xs) m1
  | .lst xs => .ok (numbered 0 xs) m1
  | .old xs => .ok (numbered 0 xs) m1
  | _ => .bad
theorem walks_eT {K : PySem.W.Frag} {z : Zn} {H : Hp} {ws : List W} {vs : List V} {p : Addr} (hl : vs.length ≤ sizeLine) (h : SqT K H p vs) (q : RWs K z H ws vs) : Walks K z H (numbered 0 ws) (IteT K p) := ⟨by rw [numbered_len, ← q.length]; exact hl, fun z2 H2 e i => by
  have h2 := e.sqT h
  have q2 := RWs.ext0 e q
  rw [numbered_len]
  refine ⟨fun hi => ⟨vs, h2, by rw [q.length]; exact hi.symm⟩, fun w hw => ?_⟩
  obtain ⟨u, e1, e2⟩ := numbered_get 0 i ws w hw
  obtain ⟨v, e3, e4⟩ := q2.get e1
  refine ⟨⟨vs, v, h2, e3⟩, fun x H3 y => ?_⟩
  obtain ⟨T, x', y1, y2, y3, y4⟩ := y
  subst y1 y3
  have hv := y4 vs h2
  rw [e3] at hv
  cases hv
  refine ⟨upd_same_of y2, fun z3 e5 => ?_⟩
  rw [e2]
  refine ⟨T, _, rfl, SqT.of upd_same, ⟨_, _, rfl, ?_, _, _, rfl, e4.ext0 e5, rfl⟩⟩
  show V.int _ = V.int _
  congr 1
  omega⟩
theorem walks_eL {K : PySem.W.Frag} {z : Zn} {H : Hp} {ws : List W} {vs : List V} {p : Addr} (hl : vs.length ≤ sizeLine) (h : ∀ z2 H2, Ext0 z H z2 H2 → SqL K H2 p vs) (q : RWs K z H ws vs) : Walks K z H (numbered 0 ws) (Ite K p) := ⟨by rw [numbered_len, ← q.length]; exact hl, fun z2 H2 e i => by
  have h2 := h z2 H2 e
  have q2 := RWs.ext0 e q
  rw [numbered_len]
  refine ⟨fun hi => ⟨vs, h2, by rw [q.length]; exact Nat.le_of_eq hi.symm⟩, fun w hw => ?_⟩
  obtain ⟨u, e1, e2⟩ := numbered_get 0 i ws w hw
  obtain ⟨v, e3, e4⟩ := q2.get e1
  refine ⟨⟨vs, v, h2, e3⟩, fun x H3 y => ?_⟩
  obtain ⟨T, x', y1, y2, y3, y4⟩ := y
  subst y1 y3
  have hv := y4 vs h2
  rw [e3] at hv
  cases hv
  refine ⟨upd_same_of y2, fun z3 e5 => ?_⟩
  rw [e2]
  refine ⟨T, _, rfl, SqT.of upd_same, ⟨_, _, rfl, ?_, _, _, rfl, e4.ext0 e5, rfl⟩⟩
  show V.int _ = V.int _
  congr 1
  omega⟩
theorem si_enum {elts : List Expr} {kk : Nat} {tpos p : Pos} {f : DE} (hm : X.mg "enumerate" = none) (h : PE X e (tE (gx X cl Wx) f)) (hg : Gl X "enumerate" := by rfl) (hs : starEach [e] X.env = (false, eval e X.env) :: starEach [] X.env := by rfl) :
    PI X (.Tuple elts kk tpos) (.Call (.Name "enumerate" p) [e] [] pos) (tI (gx X cl Wx) (iEnumW f)) := by
  have hs' : starEach [e] X.env = [(false, eval e X.env)] := hs
  refine ⟨fun pins sh s H Rr I h0 => ?_⟩
  obtain ⟨r, m, z, R, P⟩ := h0
  cases q : f r m with
  | ok w m1 =>
    unfold iEnumW at P
    rw [q] at P
    cases w with
    | tup ws =>
      refine (pi_inv (pi_enumT hg hm (pa_cons h pa_nil hs) hs')).run pins sh s H Rr I ⟨r, m, z, R, ?_⟩
      rw [q]
      intro z' b H' e1 R1 ⟨p, vs, a1, a2, a3⟩
      exact ⟨p, vs, by rw [a1], a2, fun ⟨_, _, I1⟩ => P z' _ H' e1 R1 (walks_eT (let ⟨_, _, _, hz⟩ := I1.tuple a2; hz) a2 a3)⟩
    | lst ws =>
      refine (pi_inv (pi_enum hg hm (pa_cons h pa_nil hs) hs')).run pins sh s H Rr I ⟨r, m, z, R, ?_⟩
      rw [q]
      intro z' b H' e1 R1 ⟨p, vs, a1, a2, a3⟩
      exact ⟨p, vs, by rw [a1], SqL.of a2.2, fun ⟨_, _, I1⟩ => P z' _ H' e1 R1 (walks_eL (let ⟨_, _, _, hz⟩ := I1.list (SqL.of a2.2); hz) (fun z2 H2 e2 => SqL.of ((e2.zs p a2.1).2.trans a2.2)) a3)⟩
    | old ws =>
      refine (pi_inv (pi_enum hg hm (pa_cons h pa_nil hs) hs')).run pins sh s H Rr I ⟨r, m, z, R, ?_⟩
      rw [q]
      intro z' b H' e1 R1 ⟨p, vs, a1, a2, a3⟩
      exact ⟨p, vs, by rw [a1], a2.sq, fun ⟨_, _, I1⟩ => P z' _ H' e1 R1 (walks_eL (let ⟨_, _, _, hz⟩ := I1.list a2.sq; hz) (fun z2 H2 e2 => (e2.oldL a2).sq) a3)⟩
    | _ => exact P.elim
  | exc x m1 =>
    unfold iEnumW at P
    rw [q] at P
    refine (pi_enumT hg hm (pa_cons h pa_nil hs) hs').run pins sh s H Rr I ⟨r, m, z, R, ?_⟩
    rw [q]
    exact P
  | bad =>
    unfold iEnumW at P
    rw [q] at P
    exact P.elim
end
end Dn
namespace Dn
open PySem PySem.Spec PyProof.Rows L2
section
variable {t t1 : DG} {c c1 : DT} {src1 : DA} {f : DE} {vs vs1 : List Nat}
end
section
variable {g : Gx} {src : DA} {t t1 : DG} {js js1 vs vs1 : List Nat} {c c1 : DT} {src1 : DA} {f : DE} {s : L2.St} {H : Hp} {Q : VK}
end
end Dn
namespace Dn
open PySem PySem.Spec PyProof.Rows L2
section
variable {X : Cx} {cl : Clz} {Wx : WX} {e a b : Expr} {pos : Pos}
end
end Dn
namespace Dn
open PySem PySem.Spec PyProof.Rows L2
end Dn
namespace Dn
open PySem PySem.Spec PyProof.Rows L2
structure FT (K : PySem.W.Frag) (mg : Str → Option Value) (x : Str) (st : Stmt) (ps : List Str) (fd : FuncData) : Prop where
  F : FunD K x x (defArgs st) (defBody st) (defScope st) [] [] (He.ga K x) fd
  g : mg x = some (.ref (He.ga K x))
  b : Binds K fd ps []
theorem hu65 {A : Around} {k : Nat} (hr : RoomG k A) : A.units + 65 < cLine := by have := hr.un; omega
theorem allB_at {bs : List Bool} (h : allB bs = true) (i : Nat) {b : Bool} (hb : bs[i]? = some b) : b = true := by
  have := List.all_eq_true.mp h b (List.mem_of_getElem? hb)
  exact this
/-- the law told as a run over plain values gives True for every script -/
def LawOk (cl : Nat → Addr) (n : Nat) (g : Fw) : Prop := ∀ ns : List Int, ns.length ≤ n → ∃ m, g [.old (ns.map .int)] [] = .ok (.bl true) m
theorem rws_ints {K : PySem.W.Frag} {z : Zn} {H : Hp} : ∀ ns : List Int, RWs K z H (ns.map .int) (ns.map V.int)
  | [] => rfl
  | n :: ns => ⟨_, _, rfl, rfl, rws_ints ns⟩
theorem law_end {K : PySem.W.Frag} {cl : Clz} {n : Nat} {g : Fw} (h : LawOk (fun _ => 0) n g) {H : Hp} {a : Addr} {ns : List Int} (hl : ns.length ≤ n) (hT : NdefX.TabsN cl.T H) (hG : ∀ z H, cl.G z H) (hS : OldL K H a (ns.map V.int)) : spOf K cl 1 g [.ref a] H (fun v _ => v = .bl true) fun _ _ _ => False := by
  obtain ⟨m, e⟩ := h ns hl
  refine ⟨[.old (ns.map .int)], [], ⟨fun _ => False, fun _ => False, []⟩, rfl, ⟨rfl, .nil, fun _ q => q.elim, fun _ q => q.elim, fun _ q => q.elim, fun n a c q => by simp at q, hT, hG _ _⟩, ⟨.ref a, [], rfl, ⟨a, ns.map V.int, rfl, hS, rws_ints ns⟩, rfl⟩, ?_⟩
  rw [e]
  exact fun z' v H' _ _ q => q
end Dn
namespace Dn
open PySem PySem.Spec PyProof.Rows L2
/-- what is never come to -/
def sBad : DS := fun _ _ => .bad
end Dn
namespace Dn
open PySem PySem.Spec PyProof.Rows L2
theorem hu1 {A : Around} {k : Nat} (hr : RoomG k A) : A.units + 1 < cLine := by have := hr.un; omega
section
variable {P : Program} {w : World} {K : PySem.W.Frag} {mg mb : Str → Option Value} {k : Nat} {fa a : Addr} {fd : FuncData} {x : Str} {g : Fw} {cl : Clz} {s₁ : Shared} {vs : List Value} {ns : List Int}
/-- an abstract heap that tracks the script and nothing else, or nothing at all -/
structure Script (P : Program) (w : World) (K : PySem.W.Frag) (a : Addr) (ns : List Int) (s : Shared) (H : Hp) : Prop where
  only : Only H
  seq : SqL K H a (ns.map V.int)
  hok : HOk P w H s.heap
  at_ : ∀ b, H b ≠ none → b = a
  no : H a ≠ none → K.lookup a = none
theorem script_at (KX : K.In s₁.heap) (ha : s₁.heap.get? a = some { cls := .type "list", data := .seq vs.toArray }) (hi : IntsAre vs ns) (hl : ns.length ≤ sizeLine) : ∃ H, Script P w K a ns s₁ H := by
  have rv := vals_ints hi
  have lv := hi.length
  cases hk : K.lookup a with
  | some o =>
    have e := KX a o hk
    rw [ha] at e
    cases e
    exact ⟨fun _ => none, fun _ => .inl rfl, .inr ⟨_, vs.toArray, _, hk, rfl, rfl, rfl, by rw [List.size_toArray, lv]; exact hl, by simpa using rv⟩, fun b u q => (nomatch q), fun b q => absurd rfl q, fun q => absurd rfl q⟩
  | none =>
    refine ⟨fun b => if b = a then some (.frz { cls := .type "list", data := .seq vs.toArray } (.lst (ns.map V.int))) else none, fun b => ?_, .inl (.inr ⟨_, if_pos rfl⟩), fun b u q => ?_, fun b q => ?_, fun _ => hk⟩
    · by_cases hb : b = a
      · exact .inr ⟨_, _, if_pos hb⟩
      · exact .inl (if_neg hb)
    · by_cases hb : b = a
      · simp only [hb, if_true] at q
        cases q
        subst hb
        exact ⟨ha, by simpa using hl, vs, _, rv, ha⟩
      · simp only [hb, if_false] at q
        cases q
    · by_cases hb : b = a
      · exact hb
      · exact absurd (if_neg hb) q
theorem lawG (KX : K.In s₁.heap) (hns : s₁.heap.Ns mainGlobals mg) (hb : s₁.heap.Ns builtinsNs mb) (hbb : ∀ x : Str, x ≠ "__name__" → mb x = bootBuiltins x) (hlim : s₁.heap.NoLimit) (hg : s₁.gens = #[])
    (ha : s₁.heap.get? a = some { cls := .type "list", data := .seq vs.toArray }) (hi : IntsAre vs ns) (h63 : ns.length ≤ 63) (hr : RoomG k callerA) (hl : LawOk (fun _ => 0) 63 g) (hT : cl.T = []) (hG : ∀ z H, cl.G z H)
    (F : ∀ base : Heap, K.In base → base.Ns mainGlobals mg → FnG P w K mg base k fa fd [x] (spOf K cl 1 g)) (hbind : ∀ (s : Shared) (u : Value), BindsTo s fd ⟨[u], []⟩ [(x, u)]) :
    codeAny (model P w) callerA (.call (.ref fa) ⟨[.ref a], []⟩) (fun r s' => r = .ok (.ret (.bool true)) ∧ OldK s₁.heap s'.heap ∧ s'.os = s₁.os ∧ AllBare s'.gens) s₁ := by
  obtain ⟨H, S⟩ := script_at (P := P) (w := w) KX ha hi (Nat.le_trans h63 (by decide))
  have free : ∀ {b : Addr} {o : Obj} {es : Array DictEntry} {ep : Nat}, s₁.heap.get? b = some o → o.data = .dict es ep → H b = none := fun {b o es ep} e d => by
    cases q : H b with
    | none => rfl
    | some u =>
      have hba := S.at_ b (by rw [q]; exact Option.some_ne_none _)
      subst hba
      rw [ha] at e
      cases e
      cases d
  have ns_ok : ∀ {b : Addr} {m : Str → Option Value}, s₁.heap.Ns b m → (hidT s₁.heap H).Ns b m := fun ⟨o, es, ep, e, d, r⟩ => ⟨o, es, ep, hidT_get e (free e d), d, r⟩
  have kb : K.In (hidT s₁.heap H) := fun b o e => hidT_get (KX b o e) (by
    cases q : H b with
    | none => rfl
    | some u =>
      have hne : H b ≠ none := by rw [q]; exact Option.some_ne_none _
      have hba := S.at_ b hne
      subst hba
      rw [S.no hne] at e
      cases e)
  have hM : Mod K mg (hidT s₁.heap H) := ⟨kb, ns_ok hns, ⟨mb, ns_ok hb, hbb⟩, let ⟨mc, h1, h2⟩ := hlim; ⟨mc, ns_ok h1, h2⟩⟩
  have e0 : Env0 P w K mg (hidT s₁.heap H) callerA [] s₁ H := ⟨rfl, hM, fun b o e => of_hidT e, Nat.le_of_eq (hidT_size _ _), trivial, fun b q => (nomatch q), S.hok, .of_eq hg⟩
  have hS : OldL K H a (ns.map V.int) := by
    rcases S.seq with (hS | ⟨o, hS⟩) | hS
    · rcases S.only a with z | ⟨o, xs, z⟩
      · rw [hS] at z; cases z
      · rw [hS] at z; cases z
    · exact .inl ⟨o, hS⟩
    · exact .inr hS
  have hsp := law_end (K := K) (cl := cl) hl h63 (by rw [hT]; exact fun _ q => nomatch q) hG hS
  refine codeAny_mono ((F _ kb (ns_ok hns)).run callerA [] s₁ H ⟨[.ref a], []⟩ [.ref a] [.ref a] _ _ hr e0 (hbind s₁ (.ref a)) (.cons rfl .nil) hsp) fun r s' h => ?_
  match r, h with
  | .error e, h =>
    obtain ⟨_, _, _, _, _, _, _, _, _, _, _, _, q⟩ := h
    exact q.elim
  | .ok .next, h => exact h.elim
  | .ok .brk, h => exact h.elim
  | .ok .cont, h => exact h.elim
  | .ok (.ret u), ⟨v, H', os, bare, un, hok', rv, q⟩ =>
    have q' : v = .bl true := q
    subst q'
    have ru : u = Value.bool true := rv
    subst ru
    refine ⟨rfl, OldK.of_keep fun b o e => ?_, os, bare⟩
    rcases S.only b with q | ⟨ob, xs, q⟩
    · exact un.keep b o e q (fun z => nomatch z) (fun z => nomatch z)
    · have h1 := (S.hok b _ q).1
      rw [e] at h1
      rw [Option.some.inj h1]
      exact (hok' b _ (un.frzs b ob _ q)).1
end
/-- the law's end, where what is raised is told over the world -/
theorem walkW {l : PySem.W.OpenLaw} {k : Nat} {q : Program} {loose : List Str} {XP : (Str → Option Value) → Heap → Prop} {YP : World → Heap → Prop} {d : DefRec} {x : Str} {g : Fw} {cl : PySem.W.Frag → Nat → Addr}
    (hm : l.most = some 63) (hd : d.params.defaults = []) (hr : RoomG k callerA) (hl : LawOk (fun _ => 0) 63 g)
    (F : ∀ (w : World) (mg : Str → Option Value) (fa : Addr) (h : Heap), YP w h → h.Ns mainGlobals mg → mg d.name = some (.ref fa) →
      ∃ (K : PySem.W.Frag) (fd : FuncData), K.In h ∧ (∀ (s : Shared) (u : Value), BindsTo s fd ⟨[u], []⟩ [(x, u)]) ∧ ∀ base : Heap, K.In base → base.Ns mainGlobals mg → FnG l.prog w K mg base k fa fd [x] (spOf K (Clz.of (cl K)) 1 g)) :
    PySem.W.WalkO q loose XP YP l.row.toRowW d [] (fun f vs => PySem.call f vs) := by
  refine Att.attach_call hm hd fun w s₀ s₁ mg mb fa o pm cd doc a vs ns G Y ho hd' hcd hmg hobj hints hlen hg => ?_
  obtain ⟨K, fd, KX, hb, hF⟩ := F w mg fa _ Y G.T.g hmg
  exact lawG KX G.T.g G.T.b G.T.builtins G.T.nolimit hg hobj hints hlen hr hl rfl (fun _ _ => trivial) hF hb
end Dn
namespace Dn
open PySem PySem.Spec PyProof.Rows L2
def fldOf (c : Nat) (f : Str) (m : Mem) (w : W) : Option W := match w with
  | .ref n => match m[n]? with
    | some (.ins c' fs) => if c' = c then fs.lookup f else none
    | _ => none
  | _ => none
def insOf (c : Nat) (m : Mem) (w : W) : Option (Nat × List (Str × W)) := match w with
  | .ref n => match m[n]? with
    | some (.ins c' fs) => if c' = c then some (n, fs) else none
    | _ => none
  | _ => none
section
variable {K : PySem.W.Frag} {cl : Clz} {z : Zn} {m : Mem} {H : Hp}
def putFW (f : Str) (v : W) : List (Str × W) → List (Str × W)
  | [] => [(f, v)]
  | (g, x) :: r => if g = f then (g, v) :: r else (g, x) :: putFW f v r
end
section
variable {X : Cx} {cl : Clz} {Wx : WX} {e a o : Expr} {pos : Pos}
def eFld (c : Nat) (f : Str) (fa : DE) : DE := fun r m => (fa r m).bind fun w m1 => match fldOf c f m1 w with
  | some u => .ok u m1
  | none => .bad
/-- o.f = e -/
def sPut (c : Nat) (f : Str) (fo fv : DE) : DS := fun r m => (fv r m).thenS r fun y m1 => (fo r m1).thenS r fun w m2 => match insOf c m2 w with
  | some (n, fs) => if fs.length < 1000 then .next r (m2.set n (.ins c (putFW f y fs))) else .bad
  | none => .bad
/-- o.f op= e -/
def sPutA (c : Nat) (f : Str) (op : Mem → W → W → Option W) (fo fv : DE) : DS := fun r m => (fo r m).thenS r fun w m1 => match fldOf c f m1 w with
  | none => .bad
  | some x => (fv r m1).thenS r fun y m2 => match op m2 x y with
    | none => .bad
    | some u => match insOf c m2 w with
      | some (n, fs) => if fs.length < 1000 then .next r (m2.set n (.ins c (putFW f u fs))) else .bad
      | none => .bad
def eMeth (c : Nat) (mn : Str) (n : Nat) (g : Fw) (fo : DE) (t : DA) : DE := fun r m => (fo r m).bind fun w m1 => match insOf c m1 w with
  | some (_, fs) => match fs.lookup mn with
    | none => (t r m1).bind fun ws m2 => if ws.length + 1 = n then g (w :: ws) m2 else .bad
    | some _ => .bad
  | none => .bad
def eMake (c n : Nat) (g : Fw) (t : DA) : DE := fun r m => (t r m).bind fun ws m1 => if ws.length + 1 = n then (g (.ref m1.length :: ws) (m1 ++ [.ins c []])).bind fun u m2 => match u with
    | .non => .ok (.ref m1.length) m2
    | _ => .bad
  else .bad
end
end Dn
namespace Dn
open PySem PySem.Spec PyProof.Rows L2
section
variable {X : Cx} {K : PySem.W.Frag} {cl : Clz}
def boolsW : List W → Option (List Bool)
  | [] => some []
  | .bl b :: ws => (boolsW ws).map (b :: ·)
  | _ => none
def anyW (m : Mem) : List W → Option W
  | [w] => match trkOf m w with
    | some ws => (boolsW ws).map fun bs => .bl (bs.any id)
    | none => none
  | _ => none
def allW (m : Mem) : List W → Option W
  | [w] => match trkOf m w with
    | some ws => (boolsW ws).map fun bs => .bl (bs.all id)
    | none => none
  | _ => none
def maxW (_ : Mem) : List W → Option W
  | [.int i, .int j] => some (.int (if j > i then j else i))
  | _ => none
def minW (_ : Mem) : List W → Option W
  | [.int i, .int j] => some (.int (if j < i then j else i))
  | _ => none
end
end Dn
namespace Dn
open PySem PySem.Spec PyProof.Rows L2
section
variable {X : Cx} {K : PySem.W.Frag} {cl : Clz} {Wx : WX} {a b e o : Expr} {pos : Pos}
def rgW (a b : Int) : List W := (List.range (b - a).toNat).map fun i => W.int (a + (i : Nat))
def toV : W → Option V
  | .non => some .non
  | .bl b => some (.bl b)
  | .int i => some (.int i)
  | .str x => some (.str x)
  | _ => none
def toVs : List W → Option (List V)
  | [] => some []
  | w :: ws => match toV w, toVs ws with
    | some v, some vs => some (v :: vs)
    | _, _ => none
def findV (y : V) : List V → Option Nat
  | [] => none
  | x :: xs => match eqV x y with
    | true => some 0
    | false => (findV y xs).map (· + 1)
def idxW (m : Mem) (w y : W) : Option W := match trkOf m w with
  | some ws => match toVs ws, toV y with
    | some us, some u => (findV u us).map fun j => .int (j : Nat)
    | _, _ => none
  | none => none
def eIdx (fo fe : DE) : DE := fun r m => (fo r m).bind fun w m1 => match trkOf m1 w with
  | some _ => (fe r m1).bind fun y m2 => match idxW m2 w y with
    | some u => .ok u m2
    | none => .bad
  | none => .bad
end
end Dn
namespace Dn
open PySem PySem.Spec PyProof.Rows L2
end Dn
namespace Dn
open PySem PySem.Spec PyProof.Rows L2
mutual
def gW : W → Bool
  | .non => true
  | .bl _ => true
  | .int _ => true
  | .str _ => true
  | .tup xs => gWs xs
  | .lst xs => gWs xs
  | .old xs => gWs xs
  | .ref _ => false
  | .raw _ => true
def gWs : List W → Bool
  | [] => true
  | w :: ws => gW w && gWs ws
end
mutual
/-- what is told, with what f tells in the place of the memory's objects -/
def frzA (f : Nat → Option W) : W → Option W
  | .non => some .non
  | .bl b => some (.bl b)
  | .int i => some (.int i)
  | .str x => some (.str x)
  | .tup xs => (frzAs f xs).map .tup
  | .lst xs => (frzAs f xs).map .lst
  | .old xs => (frzAs f xs).map .old
  | .ref n => f n
  | .raw v => some (.raw v)
def frzAs (f : Nat → Option W) : List W → Option (List W)
  | [] => some []
  | w :: ws => match frzA f w with
    | some w' => (frzAs f ws).map fun r => w' :: r
    | none => none
end
/-- the lists of the memory settled -/
def frzR (m : Mem) : Nat → Nat → Option W
  | 0, _ => none
  | k + 1, n => match m[n]? with
    | some (.lst xs) => (frzAs (frzR m k) xs).map .lst
    | some (.fz xs) => (frzAs (frzR m k) xs).map .lst
    | _ => none
def frzW (m : Mem) (k : Nat) (w : W) : Option W := frzA (frzR m k) w
def frzF (m : Mem) (k : Nat) : List (Str × W) → Option (List (Str × W))
  | [] => some []
  | (x, w) :: r => match frzW m k w with
    | some w' => (frzF m k r).map fun q => (x, w') :: q
    | none => none
/-- of plain data alone, by a memory of its own -/
def pw (g : Fw) : Fw := fun ws m => if gWs ws = true then match g ws [] with
    | .ok w m1 => match frzW m1 6 w with
      | some w' => .ok w' m
      | none => .bad
    | .exc x m1 => match frzF m1 6 x.fs with
      | some fs => .exc ⟨x.cls, fs⟩ m
      | none => .bad
    | .bad => .bad
  else .bad
section
variable {K : PySem.W.Frag} {cl : Clz} {z z' : Zn} {H H' : Hp} {m : Mem}
mutual
theorem RW.ground (hz : ∀ a, z.Z a → z'.Z a) : ∀ {w : W} {v : V}, gW w = true → RW K z H w v → RW K z' H w v
  | .non, _, _, h => h
  | .bl _, _, _, h => h
  | .int _, _, _, h => h
  | .str _, _, _, h => h
  | .tup ws, _, g, ⟨a, vs, h1, h2, h3⟩ => ⟨a, vs, h1, h2, RWs.ground hz (by simpa [gW] using g) h3⟩
  | .lst ws, _, g, ⟨a, vs, h1, h2, h3⟩ => ⟨a, vs, h1, ⟨hz a h2.1, h2.2⟩, RWs.ground hz (by simpa [gW] using g) h3⟩
  | .old ws, _, g, ⟨a, vs, h1, h2, h3⟩ => ⟨a, vs, h1, h2, RWs.ground hz (by simpa [gW] using g) h3⟩
  | .ref n, _, g, _ => by simp [gW] at g
  | .raw _, _, _, h => h
theorem RWs.ground (hz : ∀ a, z.Z a → z'.Z a) : ∀ {ws : List W} {vs : List V}, gWs ws = true → RWs K z H ws vs → RWs K z' H ws vs
  | [], _, _, h => h
  | _ :: _, _, g, ⟨v, r, h1, h2, h3⟩ => by
    rw [gWs, Bool.and_eq_true_iff] at g
    exact ⟨v, r, h1, RW.ground hz g.1 h2, RWs.ground hz g.2 h3⟩
end
theorem frzAs_some {f : Nat → Option W} {xs : List W} {c : List W → W} {w : W} (h : (frzAs f xs).map c = some w) : ∃ ys, frzAs f xs = some ys ∧ c ys = w := by
  cases q : frzAs f xs with
  | none => rw [q] at h; cases h
  | some ys => rw [q] at h; cases h; exact ⟨ys, rfl, rfl⟩
mutual
theorem RW.frA {f : Nat → Option W} (hz : ∀ a, z.Z a → z'.Z a) (hf : ∀ n u v, f n = some u → RW K z H (.ref n) v → RW K z' H u v) : ∀ {w u : W} {v : V}, frzA f w = some u → RW K z H w v → RW K z' H u v
  | .non, _, _, e, h => by simp [frzA] at e; subst e; exact h
  | .bl _, _, _, e, h => by simp [frzA] at e; subst e; exact h
  | .int _, _, _, e, h => by simp [frzA] at e; subst e; exact h
  | .str _, _, _, e, h => by simp [frzA] at e; subst e; exact h
  | .tup ws, _, _, e, ⟨a, vs, h1, h2, h3⟩ => by
    rw [frzA] at e
    obtain ⟨ys, e1, e2⟩ := frzAs_some e
    subst e2
    exact ⟨a, vs, h1, h2, RWs.frA hz hf e1 h3⟩
  | .lst ws, _, _, e, ⟨a, vs, h1, h2, h3⟩ => by
    rw [frzA] at e
    obtain ⟨ys, e1, e2⟩ := frzAs_some e
    subst e2
    exact ⟨a, vs, h1, ⟨hz a h2.1, h2.2⟩, RWs.frA hz hf e1 h3⟩
  | .old ws, _, _, e, ⟨a, vs, h1, h2, h3⟩ => by
    rw [frzA] at e
    obtain ⟨ys, e1, e2⟩ := frzAs_some e
    subst e2
    exact ⟨a, vs, h1, h2, RWs.frA hz hf e1 h3⟩
  | .ref n, _, _, e, h => hf n _ _ (by rw [frzA] at e; exact e) h
  | .raw _, _, _, e, h => by simp [frzA] at e; subst e; exact h
theorem RWs.frA {f : Nat → Option W} (hz : ∀ a, z.Z a → z'.Z a) (hf : ∀ n u v, f n = some u → RW K z H (.ref n) v → RW K z' H u v) : ∀ {ws us : List W} {vs : List V}, frzAs f ws = some us → RWs K z H ws vs → RWs K z' H us vs
  | [], _, _, e, h => by simp [frzAs] at e; subst e; exact h
  | w :: ws, _, _, e, ⟨v, r, h1, h2, h3⟩ => by
    rw [frzAs] at e
    split at e
    · rename_i w' e1
      cases q : frzAs f ws with
      | none => rw [q] at e; cases e
      | some ys =>
        rw [q] at e
        simp at e
        subst e
        exact ⟨v, r, h1, RW.frA hz hf e1 h2, RWs.frA hz hf q h3⟩
    · cases e
end
theorem RW.frR (M : MemOk K cl z m H) (hz : ∀ a, z.Z a → z'.Z a) (hp : ∀ a xs, a ∈ z.phi → H a = some (.lst xs) → z'.Z a) : ∀ (k n : Nat) (u : W) (v : V), frzR m k n = some u → RW K z H (.ref n) v → RW K z' H u v
  | 0, _, _, _, e, _ => by simp [frzR] at e
  | k + 1, n, u, v, e, ⟨a, h1, h2⟩ => by
    obtain ⟨c, q1, q2⟩ := M.at h1
    have ha : a ∈ z.phi := List.mem_of_getElem? h1
    cases c with
    | lst ws =>
      simp only [frzR, q1] at e
      obtain ⟨ys, e1, e2⟩ := frzAs_some e
      subst e2
      obtain ⟨_, _, vs, q3, q4⟩ := q2
      exact ⟨a, vs, h2, ⟨hp a vs ha q3, q3⟩, RWs.frA hz (RW.frR M hz hp k) e1 q4⟩
    | fz ws =>
      simp only [frzR, q1] at e
      obtain ⟨ys, e1, e2⟩ := frzAs_some e
      subst e2
      obtain ⟨_, vs, q3, q4⟩ := q2
      exact ⟨a, vs, h2, ⟨hp a vs ha q3, q3⟩, RWs.frA hz (RW.frR M hz hp k) e1 q4⟩
    | dct _ => simp [frzR, q1] at e
    | ins _ _ => simp [frzR, q1] at e
    | exn c fs => simp [frzR, q1] at e
    | dtt _ => simp [frzR, q1] at e
theorem RW.frozen (M : MemOk K cl z m H) (hz : ∀ a, z.Z a → z'.Z a) (hp : ∀ a xs, a ∈ z.phi → H a = some (.lst xs) → z'.Z a) (k : Nat) {w u : W} {v : V} (e : frzW m k w = some u) (h : RW K z H w v) : RW K z' H u v := RW.frA hz (RW.frR M hz hp k) e h
theorem RFs.frozen (M : MemOk K cl z m H) (hz : ∀ a, z.Z a → z'.Z a) (hp : ∀ a xs, a ∈ z.phi → H a = some (.lst xs) → z'.Z a) (k : Nat) : ∀ {ws us : List (Str × W)} {vs : List (Str × V)}, frzF m k ws = some us → RFs K z H ws vs → RFs K z' H us vs
  | [], _, _, e, h => by simp [frzF] at e; subst e; exact h
  | (x, w) :: ws, _, _, e, ⟨v, r, h1, h2, h3⟩ => by
    simp only [frzF] at e
    split at e
    · rename_i w' e1
      cases q : frzF m k ws with
      | none => rw [q] at e; cases e
      | some ys =>
        rw [q] at e
        simp at e
        subst e
        exact ⟨v, r, h1, RW.frozen M hz hp k e1 h2, RFs.frozen M hz hp k q h3⟩
    · cases e
/-- the caller's again: what the callee's memory has of lists is settled -/
abbrev Zn.out (z z' : Zn) (H' : Hp) : Zn := { Z := fun a => z'.Z a ∨ a ∈ z'.phi ∧ ∃ xs, H' a = some (.lst xs), hold := z.hold, phi := z.phi }
theorem CellOk.nohold {a : Addr} {c : Cell} (M : MemOk K cl z m H) (h : CellOk K cl z H a c) : ¬ z.hold a := by
  cases c with
  | lst ws => exact h.2.1
  | fz ws => exact M.sep a h.1
  | dct kvs => exact h.1
  | ins c fs => exact h.1
  | exn c fs => exact h.1
  | dtt kvs => exact h.1
theorem MemOk.back {m' : Mem} (M : MemOk K cl z m H) (e : Ext z.own H z' H') (M' : MemOk K cl z' m' H') : Ext z H (z.out z' H') H' ∧ MemOk K cl (z.out z' H') m H' := by
  have np : ∀ a, a ∈ z'.phi → ¬ z'.hold a := fun a h => by
    obtain ⟨n, e1⟩ := List.getElem?_of_mem h
    obtain ⟨c, _, hc⟩ := M'.at e1
    exact hc.nohold M'
  have e0 : Ext0 z H (z.out z' H') H' := ⟨e.e0.tups, e.e0.frzs, fun a q => ⟨.inl (e.e0.zs a q).1, (e.e0.zs a q).2⟩, fun _ _ h => h, e.e0.xts⟩
  have ex : Ext z H (z.out z' H') H' := ⟨e0, fun a q => ⟨q, (e.hs a (.inl q)).2⟩⟩
  refine ⟨ex, M.len, M.nd, ?_, ?_, ?_, ?_, M'.tb, cl.gx e0 M.gh⟩
  · rintro a (q | ⟨q, _⟩) h
    · exact M'.sep a q (e.hs a (.inl h)).1
    · exact np a q (e.hs a (.inl h)).1
  · rintro a (q | ⟨_, q⟩)
    · exact M'.lz a q
    · exact q
  · intro a q
    rw [(e.hs a (.inl q)).2]
    exact M.lh a q
  · intro n a c h1 h2
    have hc := M.cells n a c h1 h2
    have ha : a ∈ z.phi := List.mem_of_getElem? h1
    by_cases hz : z.Z a
    · refine hc.ext2 e0 ⟨fun _ => hz, fun _ => .inl (e.e0.zs a hz).1⟩ (fun q => q) (e.e0.zs a hz).2
    · have hh := e.hs a (.inr ⟨ha, hz⟩)
      refine hc.ext2 e0 ⟨?_, fun q => absurd q hz⟩ (fun q => q) hh.2
      rintro (q | ⟨q, _⟩)
      · exact absurd hh.1 (M'.sep a q)
      · exact absurd hh.1 (np a q)
theorem spOf_pw {n : Nat} {g : Fw} {vs : List V} {Q : VK} {E : XK} (ht : ∀ z H, cl.G z H) (h : spOf K cl n (pw g) vs H Q E) : spOf K cl n g vs H Q E := by
  obtain ⟨ws, m, z, hl, M, rw', p⟩ := h
  unfold pw at p
  split at p
  · rename_i hg
    refine ⟨ws, [], z.own, hl, M.own ht, RWs.ground (z := z) (z' := z.own) (fun a q => q) hg rw', ?_⟩
    cases q : g ws [] with
    | bad => rw [q] at p; exact p
    | ok w m1 =>
      rw [q] at p
      simp only at p
      intro z' v H' e M' r
      split at p
      · rename_i w' e1
        obtain ⟨ex, M2⟩ := M.back e M'
        exact p _ v H' ex M2 (RW.frozen (z' := z.out z' H') M' (fun a q => .inl q) (fun a xs q1 q2 => .inr ⟨q1, xs, q2⟩) 6 e1 r)
      · exact p.elim
    | exc x m1 =>
      rw [q] at p
      simp only at p
      intro z' H' c d e M' r
      split at p
      · rename_i fs e1
        obtain ⟨ex, M2⟩ := M.back e M'
        obtain ⟨r1, dd, fs', r2, r3, r4⟩ := r
        exact p _ H' c d ex M2 ⟨r1, dd, fs', r2, r3, RFs.frozen (z' := z.out z' H') M' (fun a q => .inl q) (fun a xs q1 q2 => .inr ⟨q1, xs, q2⟩) 6 e1 r4⟩
      · exact p.elim
  · exact p.elim
theorem fn_pw {P : Program} {w : World} {mg : Str → Option Value} {base : Heap} {k n : Nat} {f : Addr} {fd : FuncData} {ps : List Str} {g : Fw} (F : FnG P w K mg base k f fd ps (spOf K cl n g)) (ht : ∀ z H, cl.G z H := by intro _ _; trivial) : FnG P w K mg base k f fd ps (spOf K cl n (pw g)) :=
  ⟨fun vs H Q E h => F.len vs H Q E (spOf_pw ht h), fun A outer s H args us vs Q E hr e0 hb rv h => F.run A outer s H args us vs Q E hr e0 hb rv (spOf_pw ht h)⟩
end
theorem pw_ok {g : Fw} {ws : List W} {m m1 : Mem} {w w' : W} (h1 : gWs ws = true) (h2 : g ws [] = .ok w m1) (h3 : frzW m1 6 w = some w') : pw g ws m = .ok w' m := by
  unfold pw
  rw [if_pos h1, h2]
  simp only [h3]
end Dn
namespace Dn
open PySem PySem.Spec PyProof.Rows L2
section
variable {α : Type} (le : α → α → Bool)
end
section
variable {K : PySem.W.Frag} {cl : Clz}
end
end Dn
namespace Dn
open PySem PySem.Spec PyProof.Rows L2
section
variable {X : Cx} {cl : Clz} {Wx : WX} {e o : Expr} {pos : Pos}
def PostM (g : Gx) (z : Zn) (H : Hp) (q : RS) (Q : L2.St → Hp → Prop) : Prop := match q with
  | .next r m => ∀ z' s' H', Ext z H z' H' → Rel g.K g.cl z' r m s' H' → Q s' H'
  | _ => False
theorem PostM.mono {g : Gx} {z z1 : Zn} {H H1 : Hp} {q : RS} {Q : L2.St → Hp → Prop} (e : Ext z H z1 H1) (h : PostM g z H q Q) : PostM g z1 H1 q Q := by
  cases q with
  | next r m => exact fun z' s' H' e' => h z' s' H' (e.trans e')
  | _ => exact h
theorem pg_any {es : List Expr} {k : Nat} {t : TGs} {n : Nat} (hc : X.calm = true) (h : PGs X es t)
    (hn : (assignEach es X.env).length = n := by rfl) (hst : (assignEach es X.env).findIdx? (·.1) = none := by rfl) : PG X (.Tuple es k pos) (fun v s H Q => gTup X.K n t v s H Q ∨ gUnl X.K n t v s H Q) :=
  ⟨fun pins sh s H v u Q I rv q => q.elim (fun q => (pg_tup hc h hn hst).run pins sh s H v u Q I rv q) fun q => (pg_unl hc h hn hst).run pins sh s H v u Q I rv q⟩
end
end Dn
namespace Dn
open PySem PySem.Spec PyProof.Rows L2
section
variable {K : PySem.W.Frag} {cl : Clz}
end
end Dn
namespace Dn
open PySem PySem.Spec PyProof.Rows L2
section
variable {K : PySem.W.Frag} {cl : Clz}
def eqS (_ : Mem) (a b : W) : Option W := match a, b with
  | .str x, .str y => some (.bl (x == y))
  | _, _ => none
theorem w_eqS : OpW K cl eqS rEq := by
  intro z m H a b x y w Q M ra rb e k
  unfold eqS at e
  split at e
  · rename_i s t
    cases e
    have ra : x = .str s := ra
    have rb : y = .str t := rb
    subst ra rb
    exact ⟨rfl, k z _ H (Ext.refl _ _) M (by rw [dec_str]; rfl)⟩
  · cases e
end
end Dn
namespace Dn
open PySem PySem.Spec PyProof.Rows L2
section
variable {X : Cx} {cl : Clz} {Wx : WX} {a b : Expr} {pos p kpos : Pos}
end
end Dn
namespace Dn
open PySem PySem.Spec PyProof.Rows L2
theorem mem_of_lookup {α β : Type} [BEq α] [LawfulBEq α] {k : α} {v : β} : ∀ {l : List (α × β)}, l.lookup k = some v → (k, v) ∈ l
  | [], h => by cases h
  | (a, b) :: l, h => by
    rw [List.lookup_cons] at h
    cases q : k == a with
    | true =>
      rw [q] at h
      cases h
      rw [eq_of_beq q]
      exact .head _
    | false =>
      rw [q] at h
      exact .tail _ (mem_of_lookup h)
section
variable {X : Cx} {cl : Clz} {Wx : WX} {a b : Expr} {pos p : Pos} {x : Str} {tbl : List (Str × Option W)}
end
end Dn
namespace Dn
open PySem PySem.Spec PyProof.Rows L2 NdefX
section
variable {P : Program} {w : World} {K : PySem.W.Frag} {mg : Str → Option Value} {base : Heap} {N ps : List Str} {F : NF} {f C a : Addr} {fd : FuncData} {A : Around} {outer : List Env} {s : Shared} {H : Hp} {E : XK}
theorem XCls.binds (T : XCls P K C f fd F) (h : ∀ (kV doc pm : Value) (an : Option Addr) (cl : List (Str × Addr)) (c ct : Value) (us : List Value), us.length = ps.length → bindArgs (PySem.W.fnX F.name F.qual F.params F.body F.scope cl .none kV doc pm an c ct) ⟨us, []⟩ = pure (ps.zip us)) : Binds K fd ps [] := by
  obtain ⟨kV, doc, pm, ct, an, rfl⟩ := T.fdE
  exact .all (h kV doc pm an F.cl (.ref F.c) ct)
end
end Dn
namespace Dn
open PySem PySem.Spec PyProof.Rows L2 NdefX
end Dn
namespace Dn
open PySem PySem.Spec PyProof.Rows L2 NdefX
/-- what such an __init__ leaves: the fields by name, the last one first -/
def spX (C : Addr) (fs : List Str) : Sp := fun vs H Q _ => vs.length = fs.length + 1 ∧ ∃ a ws, vs = .ref a :: ws ∧ H a = some (exo a C none) ∧ ∀ dx, H dx = none → dx ≠ a → Q .non (upd (upd H dx (exd dx (fs.zip ws).reverse)) a (exo a C (some dx)))
section
variable {P : Program} {w : World} {K : PySem.W.Frag} {mg : Str → Option Value} {base : Heap} {F : NF} {f C : Addr} {fd : FuncData}
end
section
variable {K : PySem.W.Frag} {z : Zn} {H : Hp}
theorem RFs.app {α : Type} : ∀ {a b : List (α × W)} {c d : List (α × V)}, RFs K z H a c → RFs K z H b d → RFs K z H (a ++ b) (c ++ d)
  | [], _, _, _, h, t => by cases h; exact t
  | (_, _) :: _, _, _, _, ⟨v, r, h1, h2, h3⟩, t => by subst h1; exact ⟨v, _, rfl, h2, RFs.app h3 t⟩
theorem RFs.rev {α : Type} : ∀ {a : List (α × W)} {c : List (α × V)}, RFs K z H a c → RFs K z H a.reverse c.reverse
  | [], _, h => by cases h; rfl
  | (k, w) :: _, _, ⟨v, r, h1, h2, h3⟩ => by
    subst h1
    rw [List.reverse_cons, List.reverse_cons]
    exact (RFs.rev h3).app ⟨v, [], rfl, h2, rfl⟩
theorem RFs.zip {α : Type} : ∀ {fs : List α} {ws : List W} {vs : List V}, RWs K z H ws vs → RFs K z H (fs.zip ws) (fs.zip vs)
  | [], _, _, _ => by simp [RFs]
  | _ :: _, [], _, h => by cases h; simp [RFs]
  | f :: fs, w :: ws, _, ⟨v, r, h1, h2, h3⟩ => by
    subst h1
    exact ⟨v, fs.zip r, rfl, h2, RFs.zip h3⟩
end
section
variable {X : Cx} {cl : Clz} {Wx : WX} {e : Expr} {es : List Expr} {p pos pos' : Pos} {x : Str}
end
theorem SaysEX.xat {fa : List He.Fa} {fn : List He.DefD} {ex : PySem.W.Frag → Bool} {ts : List TabS} {xs : List XD} {w : World} {K : PySem.W.Frag} (c : SaysEX fa fn ex ts xs w K) (i : Nat) {d : XD} (h : xs[i]? = some d := by rfl) : d.w K = d.val := by
  have e2 : (xs.map fun d => d.w K)[i]? = (xs.map XD.val)[i]? := by rw [c.x]
  rw [List.getElem?_map, List.getElem?_map, h] at e2
  exact Option.some.inj e2
end Dn
namespace Dn
open PySem PySem.Spec PyProof.Rows L2
/-- of some classes (by number) whether an except clause takes their errors -/
def mtOf (l : List (Nat × Bool)) (i : Nat) : Option Bool := l.lookup i
def Mt (K : PySem.W.Frag) (cl : Nat → Addr) (c : Nat) (l : List (Nat × Bool)) : Prop := ∀ i b, mtOf l i = some b → PySem.W.exmOne K (.ref (cl i)) (.ref (cl c)) = some b
theorem mtB_ok {K : PySem.W.Frag} {cl : Nat → Addr} {c : Nat} {l : List (Nat × Bool)} (h : mtB K cl c l = true) : Mt K cl c l := fun i b e => of_decide_eq_true (List.all_eq_true.mp h (i, b) (mem_of_lookup e))
section
variable {X : Cx} {cl : Clz} {Wx : WX} {body suite : List Stmt} {b₀ : Stmt} {np pos pos' : Pos} {x : Str} {c : Nat}
end
end Dn
namespace Dn
open PySem PySem.Spec PyProof.Rows L2
section
variable {X : Cx} {cl : Clz} {Wx : WX} {a : Expr} {pos p kp kpos : Pos}
end
end Dn
namespace Dn
open PySem PySem.W PySem.Calls PyProof.Rows HandSHeadRun
theorem EndsAt.imp {r : OpenRow} {M : Nat} {w : World} {P Q : SharedT → Prop} (a : EndsAt r M w P) (h : ∀ s, P s → Q s) : EndsAt r M w Q := fun os => by
  obtain ⟨s, e, p⟩ := a os
  exact ⟨s, e, h s p⟩
end Dn
namespace Dn
open PySem PySem.Spec PyProof.Rows L2
theorem RWs.isEmpty {K : PySem.W.Frag} {z : Zn} {H : Hp} {ws : List W} {vs : List V} (h : RWs K z H ws vs) : vs.isEmpty = ws.isEmpty := by
  have := h.length
  cases vs <;> cases ws <;> simp at this <;> rfl
section
variable {X : Cx} {cl : Clz} {Wx : WX} {a b : Expr} {pos : Pos}
end
end Dn
namespace Dn
open PySem PySem.Spec PyProof.Rows L2
end Dn
namespace Dn
open PySem PySem.Spec PyProof.Rows L2
end Dn
namespace Dn
open PySem PySem.Spec PyProof.Rows L2
end Dn
namespace Dn
open PySem PySem.Spec PyProof.Rows L2
section
variable {X : Cx} {x n y : Str} {c : Value} {i j : Nat} {body : List Stmt} {np p1 p2 p3 pos pos' : Pos} {tb : WX → TS} {Wout : WX}
end
end Dn
namespace Dn
open PySem PySem.Spec PyProof.Rows L2
section
variable {K : PySem.W.Frag} {cl : Clz}
theorem caught_ok {z : Zn} {H : Hp} {m : Mem} {a d : Addr} {oe od : Obj} {c : Nat} {fs : List (Str × W)} {vs : List (Str × V)} {us : Array Value} (M : MemOk K cl z m H) (na : H a = none) (hd : H d = some (.xd vs)) (h1 : oe.cls = .ref (cl c)) (h2 : oe.dict = some d) (h3 : oe.data = .fields us) (hf : RFs K z H fs vs) :
    Ext z H (z.lay a) (caught H a d oe od vs) ∧ MemOk K cl (z.lay a) (m ++ [.exn c fs]) (caught H a d oe od vs) ∧ (z.lay a).phi[m.length]? = some a := by
  have hda : d ≠ a := fun q => by rw [q, na] at hd; cases hd
  have atA : caught H a d oe od vs a = some (.frz oe (hereO a)) := by unfold caught; rw [upd_ne (Ne.symm hda), upd_same]
  have atD : caught H a d oe od vs d = some (.frz od (.xd vs)) := by unfold caught; rw [upd_same]
  have other : ∀ b, b ≠ a → b ≠ d → caught H a d oe od vs b = H b := fun b q1 q2 => by unfold caught; rw [upd_ne q2, upd_ne q1]
  have keep : ∀ b u, H b = some u → (∀ gs, u ≠ .xd gs) → caught H a d oe od vs b = some u := fun b u e n => by
    rw [other b (fun q => by rw [q, na] at e; cases e) (fun q => by rw [q, hd] at e; exact absurd (Option.some.inj e).symm (n vs))]
    exact e
  have hph : ∀ (n : Nat) b, z.phi[n]? = some b → (z.lay a).phi[n]? = some b := fun n b h => by
    have hl := (List.getElem?_eq_some_iff.mp h).1
    show (z.phi ++ [a])[n]? = some b
    rw [List.getElem?_append_left hl]
    exact h
  have e0 : Ext0 z H (z.lay a) (caught H a d oe od vs) := ⟨fun b xs e => keep b _ e (fun _ q => by cases q), fun b o u e => keep b _ e (fun _ q => by cases q), fun b q => ⟨q, by
    obtain ⟨xs, e⟩ := M.lz b q
    rw [keep b _ e (fun _ q => by cases q), e]⟩, hph, fun b p e => keep b _ e (fun _ q => by cases q)⟩
  have e : Ext z H (z.lay a) (caught H a d oe od vs) := ⟨e0, fun b q => ⟨q, by
    obtain ⟨o, e, n⟩ := M.lh b q
    rw [keep b _ e n.1, e]⟩⟩
  have atP : (z.lay a).phi[m.length]? = some a := by
    show (z.phi ++ [a])[m.length]? = some a
    rw [← M.len]
    simp
  have np := M.p_ne na
  refine ⟨e, ⟨by simp [M.len], ?_, M.sep, fun b q => ?_, fun b q => ?_, fun n b c' p1 p2 => ?_, tabs_keep M.tb (fun b ps q => keep b _ q (fun _ q => by cases q)) e0.xts, cl.gx e0 M.gh⟩, atP⟩
  · show (z.phi ++ [a]).Nodup
    rw [List.nodup_append]
    exact ⟨M.nd, by simp, fun x hx y hy q => np (by rw [List.mem_singleton.mp hy] at q; rw [← q]; exact hx)⟩
  · obtain ⟨xs, q2⟩ := M.lz b q
    exact ⟨xs, keep b _ q2 (fun _ q => by cases q)⟩
  · obtain ⟨o, q2, q3⟩ := M.lh b q
    exact ⟨o, keep b _ q2 q3.1, q3⟩
  · by_cases hn : n < m.length
    · have p1' : z.phi[n]? = some b := by
        have p1 : (z.phi ++ [a])[n]? = some b := p1
        rw [List.getElem?_append_left (by rw [M.len]; exact hn)] at p1
        exact p1
      rw [List.getElem?_append_left hn] at p2
      have hc := M.cells n b c' p1' p2
      have hb : caught H a d oe od vs b = H b := by
        obtain ⟨o, q1, q2⟩ := hc.thereX
        rw [keep b _ q1 q2.1, q1]
      exact hc.ext2 e0 Iff.rfl (fun q => q) hb
    · have hl : n < (m ++ [Cell.exn c fs]).length := (List.getElem?_eq_some_iff.mp p2).1
      have hn2 : n = m.length := by
        rw [List.length_append, List.length_singleton] at hl
        omega
      subst hn2
      rw [atP] at p1
      cases p1
      rw [List.getElem?_append_right (Nat.le_refl _), Nat.sub_self] at p2
      cases p2
      exact ⟨M.h_ne na, oe, od, d, us, vs, atA, ⟨h1, h2, h3⟩, atD, hf.ext0 e0⟩
end
section
variable {X : Cx} {cl : Clz} {Wx : WX} {body : List Stmt} {np p1 p2 p3 pos pos' : Pos} {x n y : Str} {c i j : Nat}
end
end Dn
namespace Dn
open PySem PySem.Spec PyProof.Rows L2
/-- a caught exception at a, of the class D, with its fields -/
structure Kept (H : Hp) (a D : Addr) (vs : List (Str × V)) : Prop where
  ex : ∃ (oe od : Obj) (d : Addr) (us : Array Value), H a = some (.frz oe (hereO a)) ∧ oe.cls = .ref D ∧ oe.dict = some d ∧ oe.data = .fields us ∧ H d = some (.frz od (.xd vs))
theorem Kept.inst {X : Cx} {pins : List (Addr × Obj)} {σ : L2.St} {H : Hp} {s : Shared} {a D : Addr} {vs : List (Str × V)} (k : Kept H a D vs) (I : Inv X pins σ H s) : ∃ oe od, PySem.W.InstAt s.heap a oe D (some od) ∧ ∀ f v, vs.lookup f = some v → ∃ u, PySem.W.lookIn f od = some (some u) ∧ RelV v u := by
  obtain ⟨oe, od, d, us, h1, h2, h3, h4, h5⟩ := k.ex
  obtain ⟨ha, _⟩ := (show ObjOk X.prog X.w H s.heap a (.frz oe (hereO a)) from I.hok a _ h1)
  obtain ⟨hd, mA, hns, hr⟩ := (show ObjOk X.prog X.w H s.heap d (.frz od (.xd vs)) from I.hok d _ h5)
  obtain ⟨od2, ho, hl⟩ := lookIn_ns hns
  refine ⟨oe, od2, ⟨ha, h2, by unfold PySem.W.notCls; rw [h4] <;> rfl, by rw [h3]; exact ho⟩, fun f v e => ?_⟩
  obtain ⟨u, hu, ru⟩ := RelO.some_of (v := v) (o := mA f) (by rw [← e]; exact hr f)
  exact ⟨u, by rw [hl, hu], ru⟩
theorem excB_ok {K : PySem.W.Frag} {D : Addr} (h : excB K D = true) : ExcC K D := by
  unfold excB at h
  simp only [Bool.and_eq_true, decide_eq_true_eq] at h
  obtain ⟨h1, h2, h3, h4, h5, h6, h7, h8⟩ := h
  exact ⟨h1, h2, h3, h4, h5, h6, h7, h8⟩
/-- isinstance(y, c), c a value that stands for the class cv -/
def rIsKe (K : PySem.W.Frag) : List V → Hp → VK → Prop := fun xs H Q => ∃ (a D : Addr) (vs : List (Str × V)) (c : V) (cv : Value) (b : Bool), xs = [.ref a, c] ∧ Kept H a D vs ∧ ExcC K D ∧ (∀ u, RelV c u → u = cv) ∧ PySem.W.kitOne K (.ref D) cv = some b ∧ Q (.bl b) H
theorem call_isKe {X : Cx} : CallR X (.builtin "isinstance") (rIsKe X.K) := by
  intro pins s σ H xs us Q I r h
  obtain ⟨a, D, vs, c, cv, b, rfl, k, C, hcv, e, q⟩ := h
  obtain ⟨u1, u2, rfl, r1, r2⟩ := vals2 r
  cases (show u1 = Value.ref a from r1)
  have := hcv _ r2
  subst this
  obtain ⟨oe, od, J, _⟩ := k.inst I
  obtain ⟨cd, hcd, _⟩ := PySem.W.any_some C.hd
  exact PySem.W.kia_one (PySem.W.kitx_exc (by rw [hcd]; rfl) C.hg C.hk C.hs C.ha C.hn C.ht C.hm) I.kIn J e (fun z => nomatch z) fun tk => ⟨.bl b, H, I.tok tk, rfl, q⟩
/-- y.f -/
def tXk (K : PySem.W.Frag) (f : Str) (te : TE) : TE := fun σ H Q => te σ H fun x H1 => ∃ (a D : Addr) (vs : List (Str × V)) (v : V), x = .ref a ∧ Kept H1 a D vs ∧ XfC K D ∧ PySem.W.findIn K (.ref D) f = some none ∧ vs.lookup f = some v ∧ Q v H1
theorem pe_xk {X : Cx} {e : Expr} {te : TE} {pos : Pos} {n : Str} (he : PE X e te) (hb : attributeBase e n X.env (eval e X.env) = eval e X.env := by rfl) : PE X (.Attribute e n pos) (tXk X.K n te) := by
  refine ⟨fun pins s σ H Q I h => ?_⟩
  refine attr_of hb (thn (he.run pins s σ H _ I h) fun u s1 hh => ?_)
  obtain ⟨x, H1, I1, rx, a, D, vs, v, ex, k, T, hno, l, q⟩ := hh
  subst ex
  obtain rfl : u = Value.ref a := rx
  obtain ⟨oe, od, J, hl⟩ := k.inst I1
  obtain ⟨u, hu, ru⟩ := hl n v l
  exact HandSPX.exc_get I1.kIn J T.ga T.gg T.exC (PySem.W.findObj_own T.hdC hno rfl hu) (handed_of ru) ⟨v, H1, I1.tok _, ru, q⟩
/-- the number of a caught one's class, its fields -/
def exnOf (m : Mem) (w : W) : Option (Nat × List (Str × W)) := match w with
  | .ref n => match m[n]? with
    | some (.exn c fs) => some (c, fs)
    | _ => none
  | _ => none
def eIsX (l : List (Nat × Bool)) (f : DE) : DE := fun r m => (f r m).bind fun w m1 => match exnOf m1 w with
  | some (c, _) => match mtOf l c with
    | some b => .ok (.bl b) m1
    | none => .bad
  | none => .bad
def eXk (cs : List Nat) (x : Str) (f : DE) : DE := fun r m => (f r m).bind fun w m1 => match exnOf m1 w with
  | some (c, fs) => if cs.contains c = true then match fs.lookup x with
      | some u => .ok u m1
      | none => .bad
    else .bad
  | none => .bad
def IsX (K : PySem.W.Frag) (cl : Nat → Addr) (cv : Value) (l : List (Nat × Bool)) : Prop := ∀ i b, mtOf l i = some b → ExcC K (cl i) ∧ PySem.W.kitOne K (.ref (cl i)) cv = some b
theorem isXB_ok {K : PySem.W.Frag} {cl : Nat → Addr} {cv : Value} {l : List (Nat × Bool)} (h : isXB K cl cv l = true) : IsX K cl cv l := fun i b e => by
  have h2 := List.all_eq_true.mp h (i, b) (mem_of_lookup e)
  rw [Bool.and_eq_true_iff, decide_eq_true_eq] at h2
  exact ⟨excB_ok h2.1, h2.2⟩
def XkS (K : PySem.W.Frag) (cl : Nat → Addr) (cs : List Nat) (x : Str) : Prop := ∀ c, cs.contains c = true → XfC K (cl c) ∧ PySem.W.findIn K (.ref (cl c)) x = some none
theorem xkB_ok {K : PySem.W.Frag} {cl : Nat → Addr} {cs : List Nat} {x : Str} (h : xkB K cl cs x = true) : XkS K cl cs x := fun c e => by
  have h2 := List.all_eq_true.mp h c (by simpa using e)
  rw [Bool.and_eq_true_iff, decide_eq_true_eq] at h2
  exact ⟨xfB_ok h2.1, h2.2⟩
section
variable {X : Cx} {cl : Clz} {Wx : WX} {e : Expr} {pos : Pos}
theorem exn_at {K : PySem.W.Frag} {z : Zn} {m : Mem} {H : Hp} {w : W} {v : V} {c : Nat} {fs : List (Str × W)} (M : MemOk K cl z m H) (h : RW K z H w v) (e : exnOf m w = some (c, fs)) : ∃ a vs, v = .ref a ∧ Kept H a (cl c) vs ∧ RFs K z H fs vs := by
  cases w with
  | ref n =>
    obtain ⟨a, h1, h2⟩ := h
    obtain ⟨cc, e1, hc⟩ := M.at h1
    simp only [exnOf, e1] at e
    cases cc with
    | exn c' fs' =>
      cases e
      obtain ⟨_, oe, od, d, us, vs, q1, ⟨q2, q3, q4⟩, q5, q6⟩ := hc
      exact ⟨a, vs, h2, ⟨oe, od, d, us, q1, q2, q3, q4, q5⟩, q6⟩
    | _ => cases e
  | _ => cases e
theorem se_isx {l : List (Nat × Bool)} {f : DE} {x : Str} {c : Nat} {p p2 : Pos} (hm : X.mg "isinstance" = none) (hx : X.mg x = some (.ref (cl c))) (hl : IsX X.K cl (.ref (cl c)) l) (h : PE X e (tE (gx X cl Wx) f)) (hg : Gl X "isinstance" := by rfl) (hg2 : Gl X x := by rfl) (hdb2 : (x == ("__debug__" : Str)) = false := by decide)
    (he1 : starEach [e, .Name x p2] X.env = (false, eval e X.env) :: starEach [.Name x p2] X.env := by rfl) (he2 : starEach [.Name x p2] X.env = (false, eval (.Name x p2) X.env) :: starEach [] X.env := by rfl) (hpl : (backTo pos (starEach [.Name x p2] X.env)).any (·.1) = false := by rfl) :
    PE X (.Call (.Name "isinstance" p) [e, .Name x p2] [] pos) (tE (gx X cl Wx) (eIsX l f)) :=
  (pe_callB call_isKe hg hm (by decide +kernel) (pa_cons h (pa_cons (pe_glob (v := .ref (cl c)) hg2 hx rfl hdb2) pa_nil he2) he1) (by decide) (by decide) he1 hpl).imp fun s H Q ⟨r, m, z, R, P⟩ => by
    refine ⟨r, m, z, R, P.bind fun z1 w m1 v H1 E1 R1 r1 P1 => ?_⟩
    cases q : exnOf m1 w with
    | none => rw [q] at P1; exact P1.elim
    | some cf =>
      obtain ⟨k, fs⟩ := cf
      rw [q] at P1
      dsimp only at P1
      cases q2 : mtOf l k with
      | none => rw [q2] at P1; exact P1.elim
      | some b =>
        rw [q2] at P1
        obtain ⟨a, vs, rfl, hk, hf⟩ := exn_at R1.mem r1 q
        obtain ⟨g1, g2⟩ := hl _ _ q2
        exact ⟨a, cl k, vs, .ref (cl c), .ref (cl c), b, rfl, hk, g1, fun u hu => hu, g2, Post.ret (b := V.bl b) P1 R1 rfl⟩
theorem se_xk {cs : List Nat} {x : Str} {f : DE} (hs : XkS X.K cl cs x) (h : PE X e (tE (gx X cl Wx) f)) (hb : attributeBase e x X.env (eval e X.env) = eval e X.env := by rfl) : PE X (.Attribute e x pos) (tE (gx X cl Wx) (eXk cs x f)) :=
  (pe_xk h hb).imp fun s H Q ⟨r, m, z, R, P⟩ => by
    refine ⟨r, m, z, R, P.bind fun z1 w m1 v H1 E1 R1 r1 P1 => ?_⟩
    cases q : exnOf m1 w with
    | none => rw [q] at P1; exact P1.elim
    | some cf =>
      obtain ⟨k, fs⟩ := cf
      rw [q] at P1
      dsimp only at P1
      split at P1
      · rename_i hc
        cases q2 : fs.lookup x with
        | none => rw [q2] at P1; exact P1.elim
        | some u =>
          rw [q2] at P1
          obtain ⟨a, vs, rfl, hk, hf⟩ := exn_at R1.mem r1 q
          obtain ⟨g1, g2⟩ := hs _ hc
          obtain ⟨v, v1, v2⟩ := hf.lookup q2
          exact ⟨a, cl k, vs, v, rfl, hk, g1, g2, v1, Post.ret (b := v) P1 R1 v2⟩
      · exact P1.elim
end
end Dn
namespace Dn
open PySem PySem.Spec PyProof.Rows L2
section
variable {X : Cx} {cl : Clz} {Wx : WX} {a b : Expr} {p p2 pos pos2 : Pos}
end
end Dn
namespace Dn
open PySem PySem.Spec PyProof.Rows L2
section
variable {X : Cx} {cl : Clz} {Wx : WX} {a b : Expr} {pos : Pos}
def aAddL (f h : DE) : DA := fun r m => (f r m).bind fun x m1 => (h r m1).bind fun y m2 => match trkOf m2 x, trkOf m2 y with
  | some xs, some ys => if xs.length + ys.length ≤ 16777216 then .ok (xs ++ ys) m2 else .bad
  | _, _ => .bad
theorem sn_addL {f h : DE} (ha : PE X a (tE (gx X cl Wx) f)) (hb : PE X b (tE (gx X cl Wx) h)) : PE X (.BinOp a .Add b pos) (tN (gx X cl Wx) (aAddL f h)) :=
  (pe_op op_cat ha hb).imp fun s H Q ⟨r, m, z, R, P⟩ => by
    refine ⟨r, m, z, R, P.bind fun z1 w m1 v H1 E1 R1 r1 P1 => ?_⟩
    refine ⟨r, m1, z1, R1, P1.bind fun z2 u m2 v2 H2 E2 R2 r2 P2 => ?_⟩
    cases q1 : trkOf m2 w with
    | none => rw [q1] at P2; exact P2.elim
    | some xs =>
      rw [q1] at P2
      cases q2 : trkOf m2 u with
      | none => rw [q2] at P2; exact P2.elim
      | some ys =>
        rw [q2] at P2
        dsimp only at P2
        split at P2
        · rename_i c
          obtain ⟨p, vs, a1, a2, a3⟩ := trk_at R2.mem (r1.ext E2) q1
          obtain ⟨q, us, b1, b2, b3⟩ := trk_at R2.mem r2 q2
          refine ⟨p, q, vs, us, a1, b1, a2, b2, by rw [a3.length, b3.length]; exact sl_le c, fun l hl => ?_⟩
          obtain ⟨e, M, g⟩ := new_rel (cl := cl) R2.mem hl (a3.append b3)
          exact P2 _ _ _ e (R2.after e M) g
        · exact P2.elim
end
end Dn
namespace Dn
open PySem PySem.Spec PyProof.Rows L2 HT
section
variable {prog : Program} {w : World} {A : Around} {E : Value → Shared → Prop} {s : Shared}
end
section
variable {X : Cx}
end
section
variable {X : Cx} {cl : Clz} {Wx : WX} {e : Expr} {pos : Pos}
end
end Dn
namespace Dn
open PySem PySem.Spec PyProof.Rows L2
section
variable {K : PySem.W.Frag} {cl : Clz}
end
section
variable {X : Cx} {cl : Clz} {Wx : WX} {o e : Expr} {apos pos : Pos}
/-- a settled list (or a tuple) taken apart, as a target -/
def gTL (t : List W → Rho → Option Rho) : DG := fun w r => match w with
  | .lst ws => t ws r
  | .tup ws => t ws r
  | _ => none
theorem sg_unl {es : List Expr} {x1 : Nat} {js : List Nat} {t : List W → Rho → Option Rho} {n : Nat} (hc : X.calm = true) (h : PGs X es (tGts X.K cl js t)) (ht : ∀ ws r r', t ws r = some r' → ws.length = n)
    (hn : (assignEach es X.env).length = n := by rfl) (hst : (assignEach es X.env).findIdx? (·.1) = none := by rfl) : PG X (.Tuple es x1 pos) (tGt X.K cl js (gTL t)) :=
  (pg_any hc h hn hst).imp fun v s H Q ⟨w, r, m, z, R, q, k⟩ => by
    cases w with
    | tup ws =>
      obtain ⟨p, vs, e1, e2, e3⟩ := q
      refine .inl ⟨p, vs, e1, e2, ?_, ws, r, m, z, R, e3, k⟩
      simp only [gTL] at k
      cases e4 : t ws r with
      | none => rw [e4] at k; exact k.elim
      | some r' => rw [e3.length]; exact ht ws r r' e4
    | lst ws =>
      obtain ⟨p, vs, e1, e2, e3⟩ := lst_at (xs := ws) R.mem q rfl
      refine .inr ⟨p, vs, e1, e2, ?_, ws, r, m, z, R, e3, k⟩
      simp only [gTL] at k
      cases e4 : t ws r with
      | none => rw [e4] at k; exact k.elim
      | some r' => rw [e3.length]; exact ht ws r r' e4
    | _ => exact k.elim
end
end Dn
namespace Dn
open PySem PySem.Spec PyProof.Rows L2
section
variable {X : Cx} {x1 x2 x3 x4 : Str} {c1 c2 c3 c4 : Value} {q1 q2 q3 q4 tpos : Pos} {kk : Nat} {cls : Value} {b : Bool}
abbrev gTup (h : Heap) (cs : List Value) : Heap := h.push { cls := .type "tuple", data := .seq cs.toArray }
end
section
variable {X : Cx} {n y : Str} {tt : Expr} {ex : Value → Option Bool} {i j : Nat} {body : List Stmt} {p1 p2 p3 pos pos' : Pos} {tb : WX → TS} {Wout : WX}
end
end Dn
namespace Dn
open PySem PySem.Spec PyProof.Rows L2
def IsXT (K : PySem.W.Frag) (at_ : Nat → Addr) (cs : List Nat) (l : List (Nat × Bool)) : Prop := ∀ i b, mtOf l i = some b → ExcC K (at_ i) ∧ PySem.W.kitAny K (.ref (at_ i)) (cs.map fun c => Value.ref (at_ c)) = some b
theorem isXTB_ok {K : PySem.W.Frag} {at_ : Nat → Addr} {cs : List Nat} {l : List (Nat × Bool)} (h : isXTB K at_ cs l = true) : IsXT K at_ cs l := fun i b e => by
  have h2 := List.all_eq_true.mp h (i, b) (mem_of_lookup e)
  rw [Bool.and_eq_true_iff, decide_eq_true_eq] at h2
  exact ⟨excB_ok h2.1, h2.2⟩
section
variable {X : Cx} {cl : Clz} {Wx : WX} {body : List Stmt} {n y x1 x2 x3 x4 : Str} {q1 q2 q3 q4 tpos p1 p2 p3 pos pos' : Pos} {kk c1 c2 c3 c4 i j : Nat} {tt : Expr} {ex : Value → Option Bool}
end
/-- .. the tuple that was just laid -/
def rIsKT (K : PySem.W.Frag) : List V → Hp → VK → Prop := fun xs H Q => ∃ (a D tp : Addr) (vs : List (Str × V)) (ds : List Addr) (b : Bool), xs = [.ref a, .ref tp] ∧ H tp = some (.tup (ds.map V.ref)) ∧ Kept H a D vs ∧ ExcC K D ∧ PySem.W.kitAny K (.ref D) (ds.map Value.ref) = some b ∧ Q (.bl b) H
theorem refs_of : ∀ {ds : List Addr} {us : List Value}, Vals (ds.map V.ref) us → us = ds.map Value.ref
  | [], _, .nil => rfl
  | _ :: _, _, .cons r t => by
    have h1 := refs_of t
    subst h1
    exact congrArg (· :: _) r
theorem call_isKT {X : Cx} : CallR X (.builtin "isinstance") (rIsKT X.K) := by
  intro pins s σ H xs us Q I r h
  obtain ⟨a, D, tp, vs, ds, b, rfl, hT, k, C, e, q⟩ := h
  obtain ⟨u1, u2, rfl, r1, r2⟩ := vals2 r
  cases (show u1 = Value.ref a from r1)
  cases (show u2 = Value.ref tp from r2)
  obtain ⟨oe, od, J, _⟩ := k.inst I
  obtain ⟨cd, hcd, _⟩ := PySem.W.any_some C.hd
  obtain ⟨_, its, rv, o, h1, h2, nn, h3⟩ := (show ObjOk X.prog X.w H s.heap tp (.tup (ds.map V.ref)) from I.hok tp _ hT)
  have e3 := refs_of rv
  subst e3
  obtain ⟨oc, odd, dt, sl⟩ := o
  simp only at h2 h3
  subst h2 h3
  exact PySem.W.kia_tup (PySem.W.kitx_exc (by rw [hcd]; rfl) C.hg C.hk C.hs C.ha C.hn C.ht C.hm) I.kIn J h1 e (fun z => nomatch z) fun tk => ⟨.bl b, H, I.tok _, rfl, q⟩
section
variable {X : Cx} {cl : Clz} {Wx : WX} {e : Expr} {pos : Pos}
theorem pa_cls {es : List Expr} {x : Str} {c : Addr} {p : Pos} {ds : List Addr} {t : TA} (hm : X.mg x = some (.ref c)) (hg : Gl X x) (hd : (x == ("__debug__" : Str)) = false) (h : PA X es (fun σ H Q => Q (ds.map V.ref) H)) (hs : starEach (.Name x p :: es) X.env = (false, eval (.Name x p) X.env) :: starEach es X.env) :
    PA X (.Name x p :: es) (fun σ H Q => Q ((c :: ds).map V.ref) H) := (pa_cons (pe_glob (v := .ref c) hg hm rfl hd) h hs).imp fun s H Q q => q
theorem se_isxT {l : List (Nat × Bool)} {f : DE} {cs : List Nat} {es : List Expr} {p tpos : Pos} {kk : Nat} (hm : X.mg "isinstance" = none) (ht : PA X es (fun σ H Q => Q ((cs.map cl.at_).map V.ref) H)) (hl : IsXT X.K cl cs l) (h : PE X e (tE (gx X cl Wx) f)) (hcs : cs.length ≤ 16 := by decide) (hg : Gl X "isinstance" := by rfl)
    (he1 : starEach [e, .Tuple es kk tpos] X.env = (false, eval e X.env) :: starEach [.Tuple es kk tpos] X.env := by rfl) (he2 : starEach [.Tuple es kk tpos] X.env = (false, eval (.Tuple es kk tpos) X.env) :: starEach [] X.env := by rfl) (hpl : (backTo pos (starEach [.Tuple es kk tpos] X.env)).any (·.1) = false := by rfl) :
    PE X (.Call (.Name "isinstance" p) [e, .Tuple es kk tpos] [] pos) (tE (gx X cl Wx) (eIsX l f)) :=
  (pe_callB call_isKT hg hm (by decide +kernel) (pa_cons h (pa_cons (pe_tup ht) pa_nil he2) he1) (by decide) (by decide) he1 hpl).imp fun s H Q ⟨r, m, z, R, P⟩ => by
    refine ⟨r, m, z, R, P.bind fun z1 w m1 v H1 E1 R1 r1 P1 => ?_⟩
    refine ⟨by rw [List.length_map, List.length_map, sizeLine_eq]; omega, fun tp htp => ?_⟩
    have sm := upd_same_of (o := .tup ((cs.map cl.at_).map V.ref)) htp
    cases q : exnOf m1 w with
    | none => rw [q] at P1; exact P1.elim
    | some cf =>
      obtain ⟨k, fs⟩ := cf
      rw [q] at P1
      dsimp only at P1
      cases q2 : mtOf l k with
      | none => rw [q2] at P1; exact P1.elim
      | some b =>
        rw [q2] at P1
        obtain ⟨a, vs, rfl, ⟨oe, od, d, us, k1, k2, k3, k4, k5⟩, hf⟩ := exn_at R1.mem r1 q
        obtain ⟨g1, g2⟩ := hl _ _ q2
        refine ⟨a, cl k, tp, vs, cs.map cl.at_, b, rfl, upd_same, ⟨oe, od, d, us, sm _ _ k1, k2, k3, k4, sm _ _ k5⟩, g1, ?_, ?_⟩
        · rw [List.map_map]; exact g2
        · exact P1 z1 (.bl b) _ (R1.mem.extS sm) (R1.same sm) rfl
end
section
variable {X : Cx} {cl : Clz} {Wx : WX} {a : Expr} {p apos cpos : Pos} {x : Str} {tbl : List (Str × Option W)}
end
end Dn
namespace Dn
open PySem PySem.Spec PyProof.Rows L2 LamX
section
variable {K : PySem.W.Frag} {cl : Clz} {z z' : Zn} {H H' : Hp} {m : Mem} {G : Zn → Hp → Prop} {gx0 : ∀ {z : Zn} {H : Hp} {z' : Zn} {H' : Hp}, Ext0 z H z' H' → G z H → G z' H'}
end
section
variable {X : Cx} {cl : Clz} {pins : List (Addr × Obj)} {σ : L2.St} {H : Hp} {s : Shared}
variable {Wx : WX}
end
end Dn
namespace Dn
open PySem PySem.Spec PyProof.Rows L2 LamX
section
variable {P : Program} {w : World} {K : PySem.W.Frag} {mg : Str → Option Value} {base : Heap} {cl : Clz} {x qual : Str} {params : Arguments} {body : List Stmt} {scope : Scope} {kws : List (Str × V)} {fd : FuncData} {p : He.Defn}
end
section
variable {P : Program} {w : World} {K : PySem.W.Frag} {mg mb : Str → Option Value} {k : Nat} {fa a : Addr} {fd : FuncData} {x : Str} {g : Fw} {cl : Clz} {s₁ : Shared} {vs : List Value} {ns : List Int} {ts : List Addr}
end
end Dn
namespace Dn
open PySem PySem.Spec PyProof.Rows L2
end Dn
namespace Dn
end Dn
namespace Dn
open PySem PySem.Spec PyProof.Rows L2 LamX
section
variable {X : Cx} {pins : List (Addr × Obj)} {σ : L2.St} {H HZ : Hp} {s s1 : Shared} {y : Str}
end
end Dn
namespace Dn
open PySem PySem.Spec PyProof.Rows L2 LamX
section
variable {X : Cx} {cl : Clz} {pins : List (Addr × Obj)} {σ : L2.St} {H : Hp} {s : Shared}
variable {Wx : WX}
end
end Dn
namespace Dn
open PySem PySem.Spec PyProof.Rows L2
section
variable {X : Cx} {cl : Clz} {Wx : WX} {o e f : Expr} {pos apos cpos : Pos} {fo fi fd : DE}
end
end Dn
namespace Dn
open PySem PySem.Spec PyProof.Rows L2
section
variable {K : PySem.W.Frag}
end
section
variable {X : Cx}
end
section
variable {X : Cx} {cl : Clz} {Wx : WX} {o e : Expr} {apos pos : Pos}
end
end Dn
namespace Dn
open PySem PySem.Spec PyProof.Rows L2
section
variable {α β : Type} {M : Model} {A : Around} {s : Shared}
end
section
variable {X : Cx} {cl : Clz} {Wx : WX} {st : Stmt} {rest : List Stmt} {t u : TS}
theorem PSsT.imp {t' : TS} (h : PSsT X rest t) (hi : ∀ D s H, t' D s H → t D s H) : PSsT X rest t' := fun pins s σ H D h0 I q => h pins s σ H D h0 I (hi D σ H q)
end
section
variable {X : Cx} {cl : Clz} {Wx : WX} {o e f : Expr} {es : List Expr} {te to : TE} {ta : TA} {apos pos : Pos}
theorem PET.imp {t' : TE} (h : PET X e te) (hi : ∀ s H Q, t' s H Q → te s H Q) : PET X e t' := fun pins s σ H Q h0 I q => h pins s σ H Q h0 I (hi σ H Q q)
theorem PAT.imp {t' : TA} (h : PAT X es ta) (hi : ∀ s H Q, t' s H Q → ta s H Q) : PAT X es t' := fun pos pins s σ H Q h0 I q => h pos pins s σ H Q h0 I (hi σ H Q q)
variable {st : Stmt} {rest : List Stmt} {z : Expr}
end
end Dn
namespace Dn
open PySem PySem.Spec PyProof.Rows L2
section
variable {X : Cx} {W : WX}
end
end Dn
namespace Dn
open PySem PySem.Spec PyProof.Rows L2
section
variable {X : Cx} {W : WX}
end
end Dn
namespace Dn
open PySem PySem.Spec PyProof.Rows L2
section
variable {X : Cx} {cl : Clz} {Wx : WX}
end
end Dn
namespace Dn
open PySem PySem.Spec PyProof.Rows L2 HT
open PySem.Builtin PySem.Builtin.Str
section
variable {X : Cx}
end
section
variable {K : PySem.W.Frag} {cl : Clz}
end
section
variable {X : Cx} {cl : Clz} {Wx : WX} {e : Expr} {pos : Pos}
end
end Dn
namespace Dn
open PySem PySem.Spec PyProof.Rows L2
theorem RoomG.in1 {k : Nat} {A : Around} (r : RoomG (k + 1) A) : RoomG k A.in1 := ⟨r.toRoom.in1, r.g⟩
section
variable {X : Cx} {cl : Clz} {Wx : WX} {o e : Expr} {pos p : Pos}
end
end Dn
namespace Dn
open PySem PySem.Spec PyProof.Rows L2 LamX
section
variable {prog : Program} {w : World} {A : Around} {s : Shared}
end
section
variable {X : Cx} {cl : Clz} {Wx : WX} {σ : L2.St} {H : Hp} {s : Shared} {pins : List (Addr × Obj)}
end
end Dn
namespace Dn
open PySem PySem.Spec PyProof.Rows L2
section
variable {prog : Program} {w : World} {A : Around} {s : Shared}
end
section
variable {K : PySem.W.Frag} {cl : Clz}
end
end Dn
namespace Dn
open PySem PySem.Spec PyProof.Rows L2
section
variable {X : Cx} {cl : Clz} {Wx : WX} {o e : Expr} {p pos apos cpos : Pos} {fo fi : DE}
end
end Dn
namespace Dn
open PySem PySem.Spec PyProof.Rows L2
end Dn
namespace Dn
open PySem PySem.Spec PyProof.Rows L2 NdefX
theorem xbO_ok : XB.Ok xbO := ⟨⟨_, _, PySem.F.excBase_OverflowError⟩, by decide +kernel, by decide +kernel, by decide +kernel, .of PySem.F.excBase_OverflowError.toExcCallFacts, PySem.F.store_OverflowError, PySem.W.kxs_OverflowError⟩
section
open PySem.HandSPX Builtin Builtin.ObjectAttr
variable {M : Model} {A : Around} {E : Value → Shared → Prop} {h : Heap} {g : Array GenState} {d : Drawn} {t : Nat} {os : OsState} {nm q : Str} {C N : Addr} {bs bm nbm : List Value} {hdct : Bool} {sn : List Str} {sub : List Value} {ab : Bool} {col : Option Bool} {dd : Option Addr} {k0 k1 k2 k3 k5 : Option Value} {B newId initId : String}
theorem newG_check (F : PySem.ExcBaseFacts B newId initId nbm) (hB : bm.contains (.type B) = true) {us : List Value} {Q : Unit → Shared → Prop} (hC : h.get? C = some (excClassObj nm q C N bs bm hdct sn sub ab col dd k0 k1 k2 k3 k5 newId)) (hq : Q () ⟨h, g, d, t, os⟩) :
    wpAny M A (checkBuiltinCall newId ⟨.ref C :: us, []⟩) Q E ⟨h, g, d, t, os⟩ := by
  have c1 : (Value.ref C :: bm).contains (.type B) = true := by simp only [List.contains_cons, hB, Bool.or_true]
  have c2 := F.noStar; simp only [checkBuiltinCall, F.newKind, F.newSplit, F.newRow]; (repeat (first | refine wpAny_loadPart_at hC ?_ | (refine wpAny_isSubtype_exc hC ?_; rw [c1]) | refine wpAny_staticBase_exc hC ?_ | refine wpAny_madeBy_exc hC ?_ | simp only [bne_self_eq_false, Bool.false_eq_true, if_false] | wp_step)); exact hq
variable {prog : Program} {w : World} {R : Result → Shared → Prop}
theorem newG_run (F : PySem.ExcBaseFacts B newId initId nbm) (hB : bm.contains (.type B) = true) (hA : bm.contains (.type "AttributeError") = false) (hN : bm.contains (.type "NameError") = false) {us : List Value} (hC : h.get? C = some (excClassObj nm q C N bs bm hdct sn sub ab col dd k0 k1 k2 k3 k5 newId))
    (hq : R (.ok (.ret (.ref (h.objs.size + 1)))) ⟨(h.push (PySem.W.kdv_tup us)).push (excO C h.objs.size), g, d, t, os⟩) (hl : us.length ≤ sizeLine) : codeAny (model prog w) A (.builtin newId ⟨.ref C :: us, []⟩) R ⟨h, g, d, t, os⟩ := by
  have c1 : (Value.ref C :: bm).contains (.type B) = true := by simp only [List.contains_cons, hB, Bool.or_true]
  have c2 : (Value.ref C :: bm).contains (.type "AttributeError") = false := by simp only [List.contains_cons, hA]; rfl
  have c3 : (Value.ref C :: bm).contains (.type "NameError") = false := by simp only [List.contains_cons, hN]; rfl
  have c0 := F.ends; refine codeAny_builtinAt F.entry ?_; unfold Builtin.«BaseException.__new__»; refine PySem.wpAt_bind ?_
  show PySem.wpAt _ _ _ (stack >>= _) _ _ _; refine PySem.wpAt_bind (PySem.wpAt_stack fun p below => PySem.wpAt_of_wpAny ?_); wp_walk; refine PySem.wpAt_of_wpAny ?_; rw [F.owner]
  (repeat (first | with_reducible refine wpAny_madeHere_exc F.canon hC ?_ | with_reducible refine wpAny_loadPart_at hC ?_ | (with_reducible refine wpAny_isSubtype_exc hC ?_; first | rw [c1] | rw [c2] | rw [c3]) | wp_step)); show R _ _; rw [Heap.size_push]; exact hq
theorem newG_type (F : PySem.ExcBaseFacts B newId initId nbm) (hB : bm.contains (.type B) = true) (hA : bm.contains (.type "AttributeError") = false) (hN : bm.contains (.type "NameError") = false) {us : List Value} {fI : Addr} {Q : Fin → Shared → Prop} (hC : h.get? C = some (excClassObj nm q C N bs bm hdct sn sub ab col dd k0 k1 k2 k3 k5 newId))
    (hi : PySem.W.Looks (model prog w) h (typeLookup (.ref C) "__init__") (some (.ref fI))) (hb : ∀ self, PySem.W.Looks (model prog w) h (bindSpecial (.ref fI) self) (.ref fI, [self])) (hl : us.length ≤ sizeLine)
    (hq : codeAny (model prog w) A (.call (.ref fI) ⟨.ref (h.objs.size + 1) :: us, []⟩) (fun r s' => match r with | .ok (.ret v) => v = .none ∧ Q (.done (.ret (.ref (h.objs.size + 1)))) s' | .ok _ => False | .error e => E e s') ⟨(h.push (PySem.W.kdv_tup us)).push (excO C h.objs.size), g, d, t, os⟩) :
    wpAny (model prog w) A (Builtin.«type.__call__» ⟨.ref C :: us, []⟩) Q E ⟨h, g, d, t, os⟩ := by
  (repeat (first | with_reducible refine wpAny_loadPart_at hC ?_ | with_reducible refine wpAny_madeBy_exc hC ?_ | wp_step)); refine codeAny_call_builtin_code (Code.quiet_builtin _ F.quiet) (newG_check F hB hC ?_); refine newG_run F hB hA hN hC ?_ hl
  show wpAny _ _ _ _ _ _
  have k : ∀ b o, h.get? b = some o → ((h.push (PySem.W.kdv_tup us)).push (excO C h.objs.size)).get? b = some o := fun b o e => Heap.get?_push_of_some _ (Heap.get?_push_of_some _ e)
  have c1 := k _ _ hC
  have c2 : ((h.push (PySem.W.kdv_tup us)).push (excO C h.objs.size)).get? (h.objs.size + 1) = some (excO C h.objs.size) := by heap_get
  have c3 : (Value.ref C :: bm).contains (.ref C) = true := by simp
  have i1 := hi.keeps k
  have b1 := (hb (.ref (h.objs.size + 1))).keeps k
  unfold isInstance; (repeat (first | with_reducible refine wpAny_loadPart_at c2 ?_ | (with_reducible refine wpAny_isSubtype_exc c1 ?_; rw [c3]) | wp_step)); show wpAny _ _ (typeLookup (.ref C) _) _ _ _; refine i1.at ?_
  refine wpAny_holding (wpAny_bind (b1.at ?_)); refine wpAny_bind (wpAny_call (codeAny_mono hq fun r s' z => ?_))
  rcases r with e | (v | _ | _ | _) <;> first | exact z | exact z.elim | (obtain ⟨z0, z⟩ := z; subst z0; first | exact wpAny_pure (wpAny_pure z) | (wp_walk; exact z))
theorem newG_call (F : PySem.ExcBaseFacts B newId initId nbm) (hB : bm.contains (.type B) = true) (hA : bm.contains (.type "AttributeError") = false) (hN : bm.contains (.type "NameError") = false) {us : List Value} {fI : Addr} (hC : h.get? C = some (excClassObj nm q C N bs bm hdct sn sub ab col dd k0 k1 k2 k3 k5 newId))
    (hi : PySem.W.Looks (model prog w) h (typeLookup (.ref C) "__init__") (some (.ref fI))) (hb : ∀ self, PySem.W.Looks (model prog w) h (bindSpecial (.ref fI) self) (.ref fI, [self])) (hl : us.length ≤ sizeLine)
    (hq : codeAny (model prog w) (A.under (.builtin "type.__call__" ⟨.ref C :: us, []⟩)) (.call (.ref fI) ⟨.ref (h.objs.size + 1) :: us, []⟩) (PySem.W.InitBack (h.objs.size + 1) R) ⟨(h.push (PySem.W.kdv_tup us)).push (excO C h.objs.size), g, d, t, os⟩) :
    codeAny (model prog w) A (.call (.ref C) ⟨us, []⟩) R ⟨h, g, d, t, os⟩ := by
  have f1 := tc_lookup; have f2 := tc_bind (.ref C); have hTy : (⟨h, g, d, t, os⟩ : Shared).TypeIs (.ref C) "type" := ⟨_, hC, rfl⟩
  refine codeAny_of_tree ?_; show wpAny _ _ (callAny (.ref C) _) _ _ _; (repeat (any_goals (first | assumption | with_reducible refine wpAny_loadPart_at hC ?_ | wp_step))); refine ⟨rfl, ?_⟩
  refine codeAny_call_builtin_at (Code.quiet_builtin _ (by decide +kernel)) entry_typeCall (wpAny_check_type_call_sub hC (newG_type F hB hA hN hC hi hb hl ?_)); refine codeAny_mono hq fun r s' z => ?_; rcases r with e | (v | _ | _ | _) <;> exact z
/-- its __init__, bound -/
theorem iniG_check (F : IniF B initId) {e : Addr} {oe : Obj} {us : List Value} {Q : Unit → Shared → Prop} (hC : h.get? C = some (excClassObj nm q C N bs bm hdct sn sub ab col dd k0 k1 k2 k3 k5 newId)) (he : h.get? e = some oe) (hc : oe.cls = .ref C) (hq : Q () ⟨h, g, d, t, os⟩) : wpAny M A (checkBoundCall initId ⟨.ref e :: us, []⟩) Q E ⟨h, g, d, t, os⟩ := by
  have hshort := F.star; simp only [checkBoundCall, F.kind, F.row]; (repeat (first | (with_reducible refine wpAny_loadPart_at he ?_; rw [hc]) | with_reducible refine wpAny_loadPart_at hC ?_ | wp_step)); refine wpAny_onRaise ?_
  rw [show ∀ (a b : String) (n : Nat), Bind.check ⟨.positional, "*", B, .self, [⟨"args", .varPos, false⟩]⟩ a b n (List.map (fun x => x.fst) ({ pos := Value.ref e :: us } : Args).kw) = pure () from fun a b n => check_star_args _ _ _ _ _ _]; exact wpAny_pure hq
end
theorem XB.Ok.tail {b : XB} (B : XB.Ok b) {bm : List Value} (h : PySem.W.excTail b.bm bm = true) : bm.contains (.type b.nB) = true ∧ bm.contains (.type "AttributeError") = false ∧ bm.contains (.type "NameError") = false :=
  ⟨(PySem.W.excTail_contains _ bm h).trans B.hB, (PySem.W.excTail_contains _ bm h).trans B.hA, (PySem.W.excTail_contains _ bm h).trans B.hN⟩
/-- what the written part says of the class -/
structure OexG (b : XB) (K : PySem.W.Frag) (C : Addr) : Prop where
  cls : ∃ nm q N bs bm sn sub ab col dd k0 k1 k2 k3 k5, K.lookup C = some (excClassObj nm q C N bs bm true sn sub ab col dd k0 k1 k2 k3 k5 b.nw) ∧ PySem.W.excTail b.bm bm = true
  sa : PySem.W.findIn K (.ref C) "__setattr__" = some (some (.builtin "object.__setattr__"))
  exC : PySem.W.subIn K (.ref C) (.type "BaseException") = some true
  tyC : PySem.W.typeIn K (.ref C) = some (.type "type")
  kC : PySem.W.keepIn K (.ref C) = true
section
open Builtin Builtin.ObjectAttr PySem.W PySem.F
variable {prog : Program} {w : World} {A : Around} {E : Value → Shared → Prop} {R : Result → Shared → Prop} {hp : Heap} {g : Array GenState} {d : Drawn} {t : Nat} {os : OsState} {b : XB}
theorem over_of {K : Frag} {C : Addr} {cd : ClassData} {bm bmB : List Value} (hcd : clsIn K C = some cd) (hm : cd.mro = .ref C :: bm) (ht : excTail bmB bm = true) : excOver K C bmB = true := by
  unfold excOver
  rw [hcd, Option.any_some, hm]
  simp [ht]
theorem osaG_new {K : Frag} {name : Str} {tk : Tok} {v : Value} {x C : Addr} {fv : Array Value} {cd : ClassData} {bm : List Value} (B : XB.Ok b)
    (X : K.In hp) (hx : hp.get? x = some { cls := .ref C, data := .fields fv }) (hcd : clsIn K C = some cd) (hm : cd.mro = .ref C :: bm) (ht : excTail b.bm bm = true) (hh : cd.hasDict = true) (ha : findIn K (.ref C) name = some none)
    (hq : ∀ h' tk' dx, (∀ b o, b ≠ x → hp.get? b = some o → h'.get? b = some o) → hp.objs.size ≤ dx → dx ≠ x → h'.get? x = some { cls := .ref C, dict := some dx, data := .fields fv } →
      h'.Ns1 dx (fun y => if y = name then some v else none) → R (.ok (.ret .none)) ⟨h', g, d, tk', os⟩) :
    codeAny (model prog w) A (.call (.builtin "object.__setattr__") ⟨[.ref x, .str name tk, v], []⟩) R ⟨hp, g, d, t, os⟩ := by
  have hxs : x ≠ hp.objs.size := Nat.ne_of_lt (Heap.lt_size hx)
  have hcls : Looks (model prog w) hp (classData C) cd := looks_clsIn X hcd
  refine osa_openX (od := none) (r := none) B.store X ⟨hx, rfl, rfl, trivial⟩ (over_of hcd hm ht) (by unfold takerIn; rw [ha]; rfl) fun bb => ?_
  obtain ⟨nm, bs, mro, ns, qn, hd, sn, sb, ab, col, del⟩ := cd
  dsimp only at hh
  subst hh
  show wpAny _ _ (storeInOwnDict (.ref x) (.ref C) (.str name tk) name v bb) _ _ _
  unfold storeInOwnDict ownDictForStores
  repeat (first | with_reducible refine PySem.HandSPX.store_in_new ?_ ?_ | with_reducible refine wpAny_loadPart_at hx ?_ | with_reducible refine hcls.at ?_ | wp_step)
  · exact ⟨_, #[], _, (Heap.get?_update_ne _ _ _ _ hxs.symm).trans (Heap.get?_push_at rfl rfl), rfl, fun e he => absurd he (by simp), fun _ => rfl⟩
  · intro h' tk' hn' hs
    have hx₁ : (hp.push { cls := .type "dict", data := .dict #[] }).get? x = some { cls := .ref C, data := .fields fv } := Heap.get?_push_of_some _ hx
    refine hq h' tk' hp.objs.size (fun b o hb ho => ?_) (Nat.le_refl _) hxs.symm ?_ hn'
    · exact (hs.2 b (Nat.ne_of_lt (Heap.lt_size ho))).trans ((Heap.get?_update_ne _ _ _ _ hb).trans (Heap.get?_push_of_some _ ho))
    · exact (hs.2 x hxs).trans (Heap.get?_update_self _ hx₁ rfl)
end
section
open Builtin Builtin.ObjectAttr PySem.W PySem.F
variable {prog : Program} {w : World} {A : Around} {E : Value → Shared → Prop} {R : Result → Shared → Prop} {hp : Heap} {g : Array GenState} {d : Drawn} {t : Nat} {os : OsState} {b : XB}
theorem osaG_old {K : Frag} {name : Str} {tk : Tok} {v : Value} {x C dx : Addr} {fv : Array Value} {cd : ClassData} {m0 : Str → Option Value} {nl : List Str} {bm : List Value} (B : XB.Ok b)
    (X : K.In hp) (hx : hp.get? x = some { cls := .ref C, dict := some dx, data := .fields fv }) (hns : hp.Ns1 dx m0) (hw : Within m0 nl) (hz : nl.length ≤ 1000) (hcd : clsIn K C = some cd) (hm : cd.mro = .ref C :: bm) (ht : excTail b.bm bm = true) (hh : cd.hasDict = true)
    (ha : findIn K (.ref C) name = some none)
    (hq : ∀ h' tk', (∀ b o, b ≠ dx → hp.get? b = some o → h'.get? b = some o) → h'.Ns1 dx (fun y => if y = name then some v else m0 y) → R (.ok (.ret .none)) ⟨h', g, d, tk', os⟩) :
    codeAny (model prog w) A (.call (.builtin "object.__setattr__") ⟨[.ref x, .str name tk, v], []⟩) R ⟨hp, g, d, t, os⟩ := by
  obtain ⟨oD, esD, epD, hoD, hdD, _⟩ := hns.count hw
  have hcls : Looks (model prog w) hp (classData C) cd := looks_clsIn X hcd
  refine osa_openX (od := some oD) (r := none) B.store X ⟨hx, rfl, rfl, hoD⟩ (over_of hcd hm ht) (by unfold takerIn; rw [ha]; rfl) fun bb => ?_
  obtain ⟨nm, bs, mro, ns, qn, hd, sn, sb, ab, col, del⟩ := cd
  dsimp only at hh
  subst hh
  show wpAny _ _ (storeInOwnDict (.ref x) (.ref C) (.str name tk) name v bb) _ _ _
  unfold storeInOwnDict Builtin.ObjectAttr.ownDictForStores
  repeat (first | with_reducible refine PySem.OEX.store_in_old hns hw hz ?_ | with_reducible refine wpAny_loadPart_at hx ?_ | with_reducible refine hcls.at ?_ | wp_step)
  intro h' tk' hn' hs
  exact hq h' tk' (fun b o hb ho => (hs.2 b hb).trans ho) hn'
end
section
variable {X : Cx} {pins : List (Addr × Obj)} {σ : L2.St} {H : Hp} {s : Shared} {a C dx : Addr} {f : Str} {y : V} {u : Value} {fs : List (Str × V)} {Q : Unit → Shared → Prop} {E : Value → Shared → Prop} {A : Around} {b : XB}
theorem ostG_new (B : XB.Ok b) (T : OexG b X.K C) (I : Inv X pins σ H s) (e : H a = some (exo a C none)) (hno : PySem.W.findIn X.K (.ref C) f = some none) (ry : RelV y u)
    (h : ∀ dx s', H dx = none → dx ≠ a → Inv X pins σ (upd (upd H dx (exd dx [(f, y)])) a (exo a C (some dx))) s' → Q () s') : wpAny (model X.prog X.w) A (setAttr (.ref a) f u) Q E s := by
  obtain ⟨nm, q, N, bs, bm, sn, sub, ab, col, dd, k0, k1, k2, k3, k5, hC, hbm⟩ := T.cls
  have hcl : PySem.W.clsIn X.K C = some { name := nm, bases := bs, mro := .ref C :: bm, ns := N, qualname := q, hasDict := true, slotNames := sn, subclasses := sub, abstract := ab, collection := col, hasDel := false } := by unfold PySem.W.clsIn; rw [hC] <;> rfl
  obtain ⟨t1, ho⟩ := exo_at I.hok e
  obtain ⟨hp, g, d, t, os⟩ := s
  refine PySem.W.set_plain I.kIn (ox := { cls := .ref C, dict := none, data := .fields #[.ref t1, .none, .none, .none, .bool false, .none] }) (od := none) ⟨ho, rfl, rfl, trivial⟩ T.sa ?_
  refine osaG_new B I.kIn ho hcl rfl hbm rfl hno (fun h' tk' dx k dn dne hx hn => ?_)
  have hnd : H dx = none := I.hok.fresh dn
  have nd : ∀ {b : Addr} {o : Obj}, hp.get? b = some o → b ≠ dx := fun {b o} q => Nat.ne_of_lt (Nat.lt_of_lt_of_le (Heap.lt_size q) dn)
  have na : ∀ {b : Addr}, H b = none → b ≠ a := fun {b} n z => by
    rw [z, e] at n
    cases n
  have Un1 : Un X.fs [] H (upd (upd H dx (exd dx [(f, y)])) a (exo a C (some dx))) hp h' := {
    keep := fun b o q n _ _ => k b o (na n) q
    slot := fun b o q n _ _ => ⟨o.slots, k b o (na n) q⟩
    free := fun b o q n _ => by rw [upd_ne (na n), upd_ne (nd q)]; exact n
    there := fun b o q _ => by
      by_cases hb : b = a
      · exact ⟨_, by rw [hb]; exact hx⟩
      · exact ⟨o, k b o hb q⟩
    tups := fun b xs q => by rw [upd_ne (at_ne e q exo_tup), upd_ne (ne_of_none q hnd)]; exact q
    frzs := fun b o v q => by rw [upd_ne (at_ne e q exo_frz), upd_ne (ne_of_none q hnd)]; exact q
    tbls := fun b ps q => ⟨#[], by rw [upd_ne (at_ne e q exo_tbl), upd_ne (ne_of_none q hnd), q]; simp⟩ }
  refine h dx _ hnd dne (I.un (t' := tk') Un1 fun b o q => ?_)
  by_cases hb : b = a
  · subst hb
    rw [upd_same] at q
    cases q
    exact exo_ok hx
  · rw [upd_ne hb] at q
    by_cases hd : b = dx
    · subst hd
      rw [upd_same] at q
      cases q
      exact exd_ok hn (relO_put (fs := []) ry fun g => True.intro)
    · rw [upd_ne hd] at q
      exact (I.hok b o q).stay (fun c v hc z => k c v (by
          rcases hc with hc | hc
          · rw [hc]
            exact hb
          · exact at_ne e hc exo_own) z)
        (fun c hc => by rw [upd_ne (at_ne e hc exo_own), upd_ne (ne_of_none hc hnd)]; exact hc) (fun c xs hc => by rw [upd_ne (at_ne e hc exo_tup), upd_ne (ne_of_none hc hnd)]; exact hc)
/-- self.f = y, a further one -/
theorem ostG_old (B : XB.Ok b) (T : OexG b X.K C) (I : Inv X pins σ H s) (e : H a = some (exo a C (some dx))) (ed : H dx = some (exd dx fs)) (hl : fs.length ≤ 900) (hno : PySem.W.findIn X.K (.ref C) f = some none) (ry : RelV y u)
    (h : ∀ s', Inv X pins σ (upd H dx (exd dx ((f, y) :: fs))) s' → Q () s') : wpAny (model X.prog X.w) A (setAttr (.ref a) f u) Q E s := by
  obtain ⟨nm, q, N, bs, bm, sn, sub, ab, col, dd, k0, k1, k2, k3, k5, hC, hbm⟩ := T.cls
  have hcl : PySem.W.clsIn X.K C = some { name := nm, bases := bs, mro := .ref C :: bm, ns := N, qualname := q, hasDict := true, slotNames := sn, subclasses := sub, abstract := ab, collection := col, hasDel := false } := by unfold PySem.W.clsIn; rw [hC] <;> rfl
  obtain ⟨t1, ho⟩ := exo_at I.hok e
  obtain ⟨mA, hns, rel⟩ := exd_at I.hok ed
  have hw := within_of rel
  obtain ⟨hp, g, d, t, os⟩ := s
  obtain ⟨oD, _, _, hoD, _, _⟩ := hns.count hw
  refine PySem.W.set_plain I.kIn (ox := { cls := .ref C, dict := some dx, data := .fields #[.ref t1, .none, .none, .none, .bool false, .none] }) (od := some oD) ⟨ho, rfl, rfl, hoD⟩ T.sa ?_
  refine osaG_old B I.kIn ho hns hw (by rw [List.length_map]; omega) hcl rfl hbm rfl hno (fun h' tk' k hn => ?_)
  have hd : ∃ o, h'.get? dx = some o := by
    obtain ⟨o, _, _, e', _⟩ := hn
    exact ⟨o, e'⟩
  exact h _ (I.write (t' := tk') (x := dx) (e := dx) (o := exd dx ((f, y) :: fs)) (by rw [ed]; exact True.intro) (.inl rfl) k hd (exd_ok hn (relO_put ry rel)))
end
/-- self.f = e -/
def tOstG (b : XB) (K : PySem.W.Frag) (f : Str) (to te : TE) : TS := fun D σ H => te σ H fun y H1 => to σ H1 fun x H2 => ∃ a C : Addr, x = .ref a ∧ OexG b K C ∧ PySem.W.findIn K (.ref C) f = some none ∧
  ((H2 a = some (exo a C none) ∧ ∀ dx, H2 dx = none → dx ≠ a → D.nx σ (upd (upd H2 dx (exd dx [(f, y)])) a (exo a C (some dx)))) ∨
    ∃ (dx : Addr) (fs : List (Str × V)), H2 a = some (exo a C (some dx)) ∧ H2 dx = some (exd dx fs) ∧ fs.length ≤ 900 ∧ D.nx σ (upd H2 dx (exd dx ((f, y) :: fs))))
section
variable {X : Cx} {o e : Expr} {es : List Expr} {to te : TE} {ta : TA} {f : Str} {p p' p1 p2 pos : Pos}
theorem ps_ostG {b : XB} (B : XB.Ok b) (ho : PE X o to) (he : PE X e te) (hs : swapsWith e (some (.Attribute o f p')) pos.line X.env = pure false := by rfl) : PS X (.Assign [.Attribute o f p'] e pos) (tOstG b X.K f to te) := by
  refine ⟨fun pins s σ H D I h => ?_⟩
  refine plainObj_wpAny_Assign_Attribute (thn (he.run pins s σ H _ I h) fun v s1 ⟨y, H1, I1, r1, q1⟩ => thn (ho.run pins s1 σ H1 _ I1 q1) fun u s2 ⟨x, H2, I2, r2, a, C, ex, T, hno, q⟩ => ?_) hs
  subst ex
  obtain rfl : u = Value.ref a := r2
  rcases q with ⟨ea, q⟩ | ⟨dx, fs, ea, ed, hl, q⟩
  · exact ostG_new B T I2 ea hno r1 fun dx s' n ne J => ⟨σ, _, J, q dx n ne⟩
  · exact ostG_old B T I2 ea ed hl hno r1 fun s' J => ⟨σ, _, J, q⟩
end
/-- what the written part says of such a class and its __init__ -/
structure XClsG (b : XB) (P : Program) (K : PySem.W.Frag) (C f : Addr) (fd : FuncData) (F : NF) : Prop where
  ox : OexG b K C
  fdE : ∃ kV doc pm ct, ∃ an : Option Addr, fd = PySem.W.fnX F.name F.qual F.params F.body F.scope F.cl .none kV doc pm an (.ref F.c) ct
  lk : ∃ oc od osl, K.lookup f = some (⟨oc, od, .func fd, osl⟩ : Obj)
  code : PySem.W.codeIn K (.ref F.c) F.qual = true
  file : ∃ (ccl : Value) (cdd : Option Addr) (vs : Array Value) (ccs : Array (Option Value)) (file : Str) (tf : Tok), K.lookup F.c = some (⟨ccl, cdd, .fields vs, ccs⟩ : Obj) ∧ vs[2]? = some (.str file tf) ∧ ((P.main.file : Str) == file) = true
  cell : ∃ (cc : Addr) (cl : Value) (cld : Option Addr) (csl : Array (Option Value)), F.cl = [(("__class__" : Str), cc)] ∧ K.lookup cc = some (⟨cl, cld, .cell (some (.ref C)), csl⟩ : Obj)
  clsD : ∃ cd, PySem.W.clsIn K C = some cd
  mro : PySem.W.mroIn K C (.ref C) = some true
  opq : PySem.W.nsIn K cStatics "thirdparty.any" = some none
  sup : PySem.W.ks_superIn K C C "__init__" = some (some (.builtin b.ini))
  sub : PySem.W.subIn K (.ref C) (.type b.B) = some true
  itI : PySem.W.findIn K (.ref C) "__init__" = some (some (.ref f))
  tyI : PySem.W.typeIn K (.ref f) = some (.type "function")
section
variable {P : Program} {w : World} {K : PySem.W.Frag} {mg : Str → Option Value} {base : Heap} {N ps : List Str} {F : NF} {f C a : Addr} {fd : FuncData} {A : Around} {outer : List Env} {s : Shared} {H : Hp} {E : XK}
theorem XClsG.binds {b : XB} (T : XClsG b P K C f fd F) (h : ∀ (kV doc pm : Value) (an : Option Addr) (cl : List (Str × Addr)) (c ct : Value) (us : List Value), us.length = ps.length → bindArgs (PySem.W.fnX F.name F.qual F.params F.body F.scope cl .none kV doc pm an c ct) ⟨us, []⟩ = pure (ps.zip us)) : Binds K fd ps [] := by
  obtain ⟨kV, doc, pm, ct, an, rfl⟩ := T.fdE
  exact .all (h kV doc pm an F.cl (.ref F.c) ct)
/-- super().__init__(text), then the rest -/
theorem xsuperG {b : XB} (B : XB.Ok b) (T : XClsG b P K C f fd F) (S : NScope N ps ["__class__"] F.scope) {slf : Str} {ar : Arg} (hp : (F.params.posonlyargs ++ F.params.args).head? = some ar) (har : ar.arg = slf) (hN : N[0]? = some slf) (hsl : F.scope.names.lookup slf = some .local)
    (hks : F.scope.names.lookup ("super" : Str) = some .globalImplicit) (htop : (P.main.scope.names.lookup ("super" : Str)).isSome = false) (hsup : mg ("super" : Str) = none)
    {pins : List (Addr × Obj)} {σ : L2.St} {H1 : Hp} {s1 : Shared} (I : Inv (ncx (L2.CX P w) P w K mg base N F f A outer s H E) pins σ H1 s1) (h0 : σ[0]? = some (some (.ref a))) (ea : H1 a = some (exo a C none))
    {p0 p1 p2 p3 p4 p5 : Pos} {txt : Str} {j : Nat} {rest : List Stmt} {Q : Flow → Shared → Prop} {Ex : Value → Shared → Prop}
    (hq : ∀ s', Inv (ncx (L2.CX P w) P w K mg base N F f A outer s H E) pins σ H1 s' → PySem.wpAt (model P w) (A.deeper (envF F f s.heap.objs.size)) (.func F.body (envF F f s.heap.objs.size)) (execs rest (envF F f s.heap.objs.size)) Q Ex s') {pl : Sem Bool}
    (he : eval (.Call (.Attribute (.Call (.Name "super" p0) [] [] p1) "__init__" p2) [.Constant (.str txt) j p3] [] p4) (envF F f s.heap.objs.size) = (do
      let ov ← attributeBase (.Call (.Name "super" p0) [] [] p1) "__init__" (envF F f s.heap.objs.size) (eval (.Call (.Name "super" p0) [] [] p1) (envF F f s.heap.objs.size))
      standAt p2.atName
      let (fv, first) ← holding [ov] (getMethod ov "__init__" pl)
      callWith p4 fv first (backTo p4 (starEach [.Constant (.str txt) j p3] (envF F f s.heap.objs.size))) []))
    (hi : interactive (envF F f s.heap.objs.size) = false) (hs : swapsWith (.Call (.Attribute (.Call (.Name "super" p0) [] [] p1) "__init__" p2) [.Constant (.str txt) j p3] [] p4) none p5.line (envF F f s.heap.objs.size) = pure false) :
    PySem.wpAt (model P w) (A.deeper (envF F f s.heap.objs.size)) (.func F.body (envF F f s.heap.objs.size)) (execs (.Expr (.Call (.Attribute (.Call (.Name "super" p0) [] [] p1) "__init__" p2) [.Constant (.str txt) j p3] [] p4) p5 :: rest) (envF F f s.heap.objs.size)) Q Ex s1 := by
  have KX : K.In s1.heap := I.kIn
  obtain ⟨kV, doc, pm, ct, an, hfd⟩ := T.fdE
  obtain ⟨oc, od, osl, hlk⟩ := T.lk
  obtain ⟨ccl, cdd, vs, ccs, file, tf, hcode, hvs, hfile⟩ := T.file
  obtain ⟨cc, cl0, cld, csl, hcl, hcell⟩ := T.cell
  obtain ⟨cd, hcd⟩ := T.clsD
  obtain ⟨t1, ho⟩ := exo_at I.hok ea
  have hk : F.scope.kind = .function := S.kind
  have hkc : F.scope.names.lookup ("__class__" : Str) = some .free := S.frk _ (.head _)
  obtain ⟨oD, hD1, hD2⟩ : ∃ oD : Obj, K.lookup C = some oD ∧ oD.data = .cls cd := by
    unfold PySem.W.clsIn at hcd
    split at hcd
    · rename_i c d cd' sl ho
      cases hcd
      exact ⟨_, ho, rfl⟩
    · cases hcd
  have hIA : PySem.W.InstAt s1.heap a { cls := .ref C, dict := none, data := .fields #[.ref t1, .none, .none, .none, .bool false, .none] } C none := ⟨ho, rfl, rfl, trivial⟩
  have hne : a ≠ C := PySem.W.ks_ne KX hIA hcd
  refine PySem.ks_wpAt_execs_cons (PySem.ks_wpAt_Expr_any (PySem.ks_wpAt_MethodCall (pl := pl) ?_ he) hi hs)
  refine PySem.ks_wpAt_super_base (env := envF F f s.heap.objs.size) hks hkc (by decide) rfl (KX _ _ hlk) rfl (by rw [hfd]; exact hp) rfl (KX _ _ hcode) rfl hvs hfile htop ?_
  obtain ⟨mb, b1, b2⟩ := I.mod.blt
  refine PySem.W.ks_loadName_global hk hks (Calls.loadGlobal_builtin (env := envF F f s.heap.objs.size) (I.mod.glob.keeps I.bk) hsup (b1.keeps I.bk) ((b2 "super" (by decide)).trans (show bootBuiltins "super" = some (.type "super") by decide +kernel)) ⟨rfl, ?_⟩)
  refine wpAny_loadName_free hk hkc (show F.cl.lookup ("__class__" : Str) = some cc by rw [hcl]; rfl) ⟨_, KX _ _ hcell, rfl⟩ ?_
  obtain ⟨m, hn, hl⟩ := I.loc
  obtain ⟨u, ru, l⟩ := hl 0 slf (.ref a) hN h0 (.inl hsl)
  obtain rfl : u = Value.ref a := ru
  have hv : m slf = some (.ref a) := by
    rcases l with ⟨_, hm⟩ | ⟨hk2, _⟩
    · exact hm
    · have e : (ncx (L2.CX P w) P w K mg base N F f A outer s H E).env.kindOf slf = some .local := hsl
      rcases hk2 with hk2 | hk2 <;> (rw [e] at hk2; cases hk2)
  rw [har]
  refine wpAny_loadName_local hk hsl hn hv ?_
  obtain ⟨hh, g, d, t, os⟩ := s1
  refine PySem.ks_wpAny_isType_cls (KX _ _ hD1) hD2 ⟨rfl, ?_⟩
  refine PySem.ks_wpAny_call_super (KX _ _ hD1) hD2 ho rfl (fun c e => by cases e) (PySem.W.looks_mroIn KX T.mro) (fun h' e' k' => ?_)
  have I1 := I.kept (h' := h') (t' := t) k'
  have KX1 : K.In h' := I1.kIn
  have hm : PySem.W.alongIn K "__init__" ((cd.mro.dropWhile (· != .ref C)).drop 1) = some (some (.builtin b.ini)) := by
    have := T.sup
    unfold PySem.W.ks_superIn at this
    rw [hcd] at this
    exact this
  have hI1 : PySem.W.InstAt h' a { cls := .ref C, dict := none, data := .fields #[.ref t1, .none, .none, .none, .bool false, .none] } C none := ⟨k' _ _ ho, rfl, rfl, trivial⟩
  refine PySem.W.kxs_getMethod B.kxs e' (PySem.W.looks_opaque KX1 T.opq) (l₀ := cd.mro) (fun A Q E s k q => wpAny_bind ((PySem.W.looks_clsIn KX1 hcd) A _ E s k (wpAny_pure q))) rfl KX1 hm (hI1.type.andThen (PySem.W.looks_subIn KX1 T.sub)) hne (by decide) ?_
  have k2 : ∀ bb o, h'.get? bb = some o → (h'.push (PySem.W.kxs_mw b.ini a)).get? bb = some o := fun b o e => Heap.get?_push_of_some _ e
  have I2 := I1.kept (h' := h'.push (PySem.W.kxs_mw b.ini a)) (t' := t + 1) k2
  have hu : (h'.push (PySem.W.kxs_mw b.ini a)).get? h'.objs.size = some (PySem.W.kxs_mw b.ini a) := Heap.get?_push_at rfl rfl
  have ho2 : (h'.push (PySem.W.kxs_mw b.ini a)).get? a = some ({ cls := .ref C, dict := none, data := .fields #[.ref t1, .none, .none, .none, .bool false, .none] } : Obj) := k2 _ _ (k' _ _ ho)
  obtain ⟨nm, q, Nn, bs, bm, sn, sub, ab, col, dd, k0, k1, k3, k4, k5, hC, hbm⟩ := T.ox.cls
  show wpAny _ _ (callWith p4 (.ref h'.objs.size) [] ((false, eval (.Constant (.str txt) j p3) (envF F f s.heap.objs.size)) :: backTo p4 (starEach [] (envF F f s.heap.objs.size))) []) _ _ _
  refine PySem.W.kxs_callWith (i := b.ini) (x := a) rfl (Calls.evalArgs_plain (Calls.spliced_cons (Calls.Constant_str ?_)))
  refine wpAny_pure ⟨hu, ?_⟩
  refine wpAny_call (codeAny_of_tree ?_)
  show wpAny _ _ (callAny (.ref h'.objs.size) ⟨[Value.str txt (t + 1)], []⟩) _ _ _
  simp only [callAny]
  refine wpAny_bind (wpAny_load hu ?_)
  simp only [PySem.W.kxs_mw, show (Value.type "method-wrapper" == Value.type "method" || Value.type "method-wrapper" == Value.type "builtin_function_or_method" || Value.type "method-wrapper" == Value.type "method-wrapper") = true by decide, if_true]
  refine PySem.W.KFB.if_so (by decide) ?_
  refine wpAny_bind (iniG_check B.init (I2.kIn _ _ hC) ho2 rfl ?_)
  refine wpAny_bind (wpAny_pure (wpAny_pure ?_))
  refine ⟨plainId_quiet B.init.slot.plain _, codeAny_builtin B.init.entry ?_⟩
  refine PySem.W.exc_init_tree (cls := .ref C) (t0 := t1) (dv := none) (c2 := .none) (c3 := .none) (b4 := .bool false) ho2 (by show 1 ≤ sizeLine; rw [sizeLine_eq]; decide) fun h3 k6 e6 _ => ?_
  have J := (I2.tok (t + 1 + 1)).write (h' := h3) (t' := t + 1 + 1) (x := a) (e := a) (o := exo a C none) (by rw [ea]; exact True.intro) (.inl rfl) k6 ⟨_, e6⟩ (exo_ok e6)
  have eu : upd H1 a (exo a C none) = H1 := by
    funext b
    by_cases hb : b = a
    · rw [hb, upd_same, ea]
    · rw [upd_ne hb]
  rw [eu] at J
  exact hq _ J
/-- such an __init__, its body behind super().__init__(text) by its rules -/
theorem xinitG {b : XB} (B : XB.Ok b) {k : Nat} {rest : List Stmt} {tr : TS} {sp : Sp} {p0 p1 p2 p3 p4 p5 : Pos} {txt : Str} {j : Nat} (T : XClsG b P K C f fd F) (S : NScope N ps ["__class__"] F.scope) {slf : Str} {ar : Arg} (hp : (F.params.posonlyargs ++ F.params.args).head? = some ar) (har : ar.arg = slf) (hN : N[0]? = some slf) (hsl : F.scope.names.lookup slf = some .local)
    (hks : F.scope.names.lookup ("super" : Str) = some .globalImplicit) (htop : (P.main.scope.names.lookup ("super" : Str)).isSome = false) (hsup : mg ("super" : Str) = none)
    (hbody : F.body = .Expr (.Call (.Attribute (.Call (.Name "super" p0) [] [] p1) "__init__" p2) [.Constant (.str txt) j p3] [] p4) p5 :: rest)
    (hrest : ∀ (A : Around) (outer : List Env) (s : Shared) (H : Hp) (E : XK), PSs (ncx (L2.CX P w) P w K mg base N F f A outer s H E) rest tr)
    (hsp : ∀ vs H Q E, sp vs H Q E → vs.length = ps.length ∧ ∃ a ws, vs = .ref a :: ws ∧ H a = some (exo a C none) ∧ tr { nx := fun _ H' => Q .non H', rt := Q } (startF N vs [some (.ref C)]) H)
    {pl : Addr → Sem Bool}
    (he : ∀ L : Addr, eval (.Call (.Attribute (.Call (.Name "super" p0) [] [] p1) "__init__" p2) [.Constant (.str txt) j p3] [] p4) (envF F f L) = (do
      let ov ← attributeBase (.Call (.Name "super" p0) [] [] p1) "__init__" (envF F f L) (eval (.Call (.Name "super" p0) [] [] p1) (envF F f L))
      standAt p2.atName
      let (fv, first) ← holding [ov] (getMethod ov "__init__" (pl L))
      callWith p4 fv first (backTo p4 (starEach [.Constant (.str txt) j p3] (envF F f L))) []))
    (hi : ∀ L : Addr, interactive (envF F f L) = false) (hs : ∀ L : Addr, swapsWith (.Call (.Attribute (.Call (.Name "super" p0) [] [] p1) "__init__" p2) [.Constant (.str txt) j p3] [] p4) none p5.line (envF F f L) = pure false) :
    FnOk P w K mg base (L2.CX P w) (k + 1) f fd ps sp := by
  refine ⟨fun vs H Q E q => (hsp vs H Q E q).1, fun A outer s H args us vs Q E hr e0 hbi rv q => ?_⟩
  obtain ⟨hl, a, ws, ev, ea, htr⟩ := hsp vs H Q E q
  have KX : K.In s.heap := e0.mod.kin.keeps fun b o e => (e0.bs b o e).1
  have lim : s.heap.NoLimit := e0.mod.nolimit.keeps fun b o e => (e0.bs b o e).1
  obtain ⟨kV, doc, pm, ct, an, hfd⟩ := T.fdE
  obtain ⟨oc, od, osl, hlk⟩ := T.lk
  obtain ⟨cc, cl0, cld, csl, hcl, hcell⟩ := T.cell
  subst hfd
  have hC : CellsAt F.cl ["__class__"] [some (.ref C)] s.heap H := by
    have hbc := e0.bs cc _ (e0.mod.kin _ _ hcell)
    refine ⟨rfl, fun y c e => ?_, fun x y c e1 e2 => ?_, fun i y e => ?_⟩
    · rw [hcl, List.lookup_cons] at e
      split at e
      · cases e
        exact ⟨hbc.2, _, _, hbc.1, rfl⟩
      · cases e
    · rw [hcl, List.lookup_cons] at e1 e2
      split at e1
      · rename_i q1
        split at e2
        · rename_i q2
          exact (eq_of_beq q1).trans (eq_of_beq q2).symm
        · cases e2
      · cases e1
    · cases i with
      | zero =>
        cases e
        refine ⟨cc, by rw [hcl]; rfl, fun v e => ?_⟩
        cases e
        exact ⟨.ref C, rfl, _, hbc.1, rfl⟩
      | succ i => cases e
  refine PySem.ks_codeAny_call_defAt (body := F.body) (binds := ps.zip us) hr.depth (KX _ _ hlk) rfl lim (PySem.W.codeRec_of KX T.code) rfl hbi S.nocell (fun ⟨n, _⟩ hy => S.par n (List.of_mem_zip hy).1) (fun h₁ hns kp => ?_) S.co S.gen S.kind
  show PySem.wpAt (model P w) (A.deeper (envF F f s.heap.objs.size)) (.func F.body (envF F f s.heap.objs.size)) (execs F.body (envF F f s.heap.objs.size)) _ _ _
  have I : Inv (ncx (L2.CX P w) P w K mg base N F f A outer s H E) [] (startF N vs [some (.ref C)]) H { s with heap := h₁, toks := s.toks + (ps.zip us).length } := inv_startN S hr.hd e0 hl rv hC hns kp
  rw [hbody]
  have key := xsuperG B (A := A) (outer := outer) (s := s) (H := H) (E := E) (w := w) (rest := rest) (Q := fun fl s' => CR (L2.CX P w) outer P w H s Q E (.ok (.ret (match fl with | .ret v => v | _ => .none))) s') (Ex := (ncx (L2.CX P w) P w K mg base N F f A outer s H E).xe) T S hp har hN hsl hks htop hsup I (by rw [ev]; rfl) ea (fun s' J => ?_) (he _) (hi _) (hs _)
  · rw [hbody] at key
    exact key
  · refine PySem.wpAt_of_wpAny (wpAny_mono ((hrest A outer s H E).run [] s' _ H _ J htr) (fun fl s' hs => ?_) fun e s' hs => hs)
    have fin : ∀ {σ' : L2.St} {H' : Hp} {v : V} {u : Value}, Inv (ncx (L2.CX P w) P w K mg base N F f A outer s H E) [] σ' H' s' → L2.RelV v u → Q v H' → CE outer P w H s Q u s' :=
      fun {σ' H' v u} J rv q => ⟨v, H', J.os, J.bare, J.base, J.hok, rv, q⟩
    cases fl with
    | ret u =>
      obtain ⟨v, σ', H', J, rv, q⟩ := hs
      exact fin J rv q
    | next =>
      obtain ⟨σ', H', J, q⟩ := hs
      exact fin (v := V.non) (u := Value.none) J rfl q
    | brk =>
      obtain ⟨_, _, _, q⟩ := hs
      exact False.elim q
    | cont =>
      obtain ⟨_, _, _, q⟩ := hs
      exact False.elim q
end
end Dn
namespace Dn
open PySem PySem.Spec PyProof.Rows L2 NdefX
theorem oexGB_ok {b : XB} {K : PySem.W.Frag} {C : Addr} (h : oexGB b K C = true) : OexG b K C := by
  unfold oexGB at h
  rw [Bool.and_eq_true_iff, Bool.and_eq_true_iff, Bool.and_eq_true_iff, Bool.and_eq_true_iff] at h
  obtain ⟨h1, h2, h3, h4, h5⟩ := h
  refine ⟨?_, of_decide_eq_true h2, of_decide_eq_true h3, of_decide_eq_true h4, h5⟩
  split at h1
  · rename_i t dd cd sl ho
    split at h1
    · rename_i C' bm k0 k1 k2 k3 n k5 hm hs
      simp only [Bool.and_eq_true, decide_eq_true_eq, Bool.not_eq_true'] at h1
      obtain ⟨rfl, rfl, rfl, hdel, hd, hre⟩ := h1
      obtain ⟨nm, bs, mro, ns, qn, hdd, sn, sub, ab, col, del⟩ := cd
      dsimp only at hm hdel hd
      subst hm hdel hd
      have hsl : sl = #[k0, k1, k2, k3, some (.builtin b.nw), k5] := by
        obtain ⟨l⟩ := sl
        simp only at hs
        rw [hs]
      subst hsl
      exact ⟨nm, qn, ns, bs, bm, sn, sub, ab, col, dd, k0, k1, k2, k3, k5, ho, hre⟩
    · cases h1
  · cases h1
theorem XD.clsG {b : XB} {P : Program} {K : PySem.W.Frag} {d : XD} (e : d.w K = d.val) (c : d.okG b P.main.file K = true) : ∃ fd, XClsG b P K (d.C K) (d.f K) fd (d.nf K) := by
  unfold XD.okG at c
  simp only [Bool.and_eq_true, decide_eq_true_eq] at c
  obtain ⟨c1, c2, c3, c4, c5, c6, c7, c8, c9⟩ := c
  unfold XD.w at e
  cases q : K.lookup (d.f K) with
  | none => rw [q] at c2; cases c2
  | some o =>
    obtain ⟨oc, od, dt, osl⟩ := o
    rw [q] at c2 e
    cases dt with
    | func fd =>
      have e := Option.some.inj e
      dsimp only at c2
      split at c2
      · rename_i y cc a hcl hco
        simp only [Bool.and_eq_true, decide_eq_true_eq] at c2
        obtain ⟨⟨rfl, cdf⟩, c21, c22, c23⟩ := c2
        have hxc : xcode K (d.f K) = a := by
          unfold xcode
          rw [q]
          dsimp only
          rw [hco]
        have hxl : xcell K (d.f K) = cc := by
          unfold xcell
          rw [q]
          dsimp only
          rw [hcl]
        refine ⟨fd, oexGB_ok c1, ?_, ⟨oc, od, osl, q⟩, ?_, ?_, ?_, Option.isSome_iff_exists.mp c3, c4, c5, c6, c7, c8, c9⟩
        · obtain ⟨n, qn, pr, bd, sc, gl, cl, dv, kv, dc, pm, an, co, ct, bl⟩ := fd
          dsimp only at e hcl hco cdf
          injection e with e1 e
          injection e with e2 e
          injection e with e3 e
          injection e with e4 e
          injection e with e5 e
          injection e with e6 e7
          subst e1 e2 e3 e4 e5 e6 e7 hcl hco
          refine ⟨kv, dc, pm, ct, an, ?_⟩
          simp only [XD.nf, hxc, hxl, cdf]
        · simp only [XD.nf, hxc]
          exact c22
        · simp only [XD.nf, hxc]
          split at c23
          · rename_i ccl cdd vs ccs hk
            split at c23
            · rename_i x tf hv
              have : x = P.main.file := of_decide_eq_true c23
              subst this
              exact ⟨ccl, cdd, vs, ccs, _, tf, hk, hv, beq_self_eq_true _⟩
            · cases c23
          · cases c23
        · simp only [XD.nf, hxl]
          split at c21
          · rename_i cl cld D csl hk
            have : D = d.C K := of_decide_eq_true c21
            subst this
            exact ⟨cc, cl, cld, csl, rfl, hk⟩
          · cases c21
      · cases c2
    | _ => cases c2
section
variable {P : Program} {w : World} {K : PySem.W.Frag} {mg : Str → Option Value} {base : Heap} {F : NF} {f C : Addr} {fd : FuncData}
/-- one field -/
theorem x1_okG {b : XB} (B : XB.Ok b) {k : Nat} {n1 : Str} {p0 p1 p2 p3 p4 p5 q1 q2 q3 q4 : Pos} {txt : Str} {j : Nat} (T : XClsG b P K C f fd F) (S : NScope ["self", n1, "__class__"] ["self", n1] ["__class__"] F.scope) {ar : Arg} (hp : (F.params.posonlyargs ++ F.params.args).head? = some ar) (har : ar.arg = "self")
    (hks : F.scope.names.lookup ("super" : Str) = some .globalImplicit) (htop : (P.main.scope.names.lookup ("super" : Str)).isSome = false) (hsup : mg ("super" : Str) = none)
    (hbody : F.body = [.Expr (.Call (.Attribute (.Call (.Name "super" p0) [] [] p1) "__init__" p2) [.Constant (.str txt) j p3] [] p4) p5, .Assign [.Attribute (.Name "self" q2) n1 q1] (.Name n1 q3) q4])
    (hno : PySem.W.findIn K (.ref C) n1 = some none) (hd : (n1 == ("__debug__" : Str)) = false) (hcd : (n1 == ("__classdict__" : Str)) = false) {pl : Addr → Sem Bool}
    (he : ∀ L : Addr, eval (.Call (.Attribute (.Call (.Name "super" p0) [] [] p1) "__init__" p2) [.Constant (.str txt) j p3] [] p4) (envF F f L) = (do
      let ov ← attributeBase (.Call (.Name "super" p0) [] [] p1) "__init__" (envF F f L) (eval (.Call (.Name "super" p0) [] [] p1) (envF F f L))
      standAt p2.atName
      let (fv, first) ← holding [ov] (getMethod ov "__init__" (pl L))
      callWith p4 fv first (backTo p4 (starEach [.Constant (.str txt) j p3] (envF F f L))) []))
    (hi : ∀ L : Addr, interactive (envF F f L) = false) (hs : ∀ L : Addr, swapsWith (.Call (.Attribute (.Call (.Name "super" p0) [] [] p1) "__init__" p2) [.Constant (.str txt) j p3] [] p4) none p5.line (envF F f L) = pure false)
    (hs2 : ∀ L : Addr, swapsWith (.Name n1 q3) (some (.Attribute (.Name "self" q2) n1 q1)) q4.line (envF F f L) = pure false) :
    FnOk P w K mg base (L2.CX P w) (k + 1) f fd ["self", n1] (spX C [n1]) := by
  have hself : F.scope.names.lookup ("self" : Str) = some .local := S.par _ (.head _)
  have hn1 : F.scope.names.lookup n1 = some .local := S.par _ (.tail _ (.head _))
  refine xinitG B (tr := tOstG b K n1 (tVar 0) (tVar 1)) T S hp har rfl hself hks htop hsup hbody (fun A outer s H E => pss_one (ps_ostG B (pe_var (i := 0) (x := "self") rfl (.inl hself)) (pe_var (i := 1) (x := n1) rfl (.inl hn1) hd hcd) (hs2 _))) ?_ he hi hs
  rintro vs H Q E ⟨hl, a, ws, rfl, ea, q⟩
  match ws, hl, q with
  | [y], _, q => exact ⟨rfl, a, [y], rfl, ea, y, rfl, .ref a, rfl, a, C, rfl, T.ox, hno, .inl ⟨ea, fun dx h1 h2 => q dx h1 h2⟩⟩
end
section
variable {X : Cx} {cl : Clz} {Wx : WX} {e : Expr} {es : List Expr} {p pos pos' : Pos} {x : Str}
end
end Dn
namespace Dn
open PySem PySem.Spec PyProof.Rows L2 NdefX
section
open PySem PySem.F
theorem kerr_slot : Slot "KeyError" "__init__" "KeyError.__init__" := .of (owner := "KeyError") (n := "__init__") (by rw [typeLookup_type, builtinLookup_eq_fast]; kernel_rfl) (by decide +kernel) (by decide +kernel) (by decide +kernel) (by first | exact .inl (by decide +kernel) | exact .inr (by decide +kernel)) (by rw [isSubtype_type]; kernel_rfl)
theorem kerr_ini : IniF "KeyError" "KeyError.__init__" := ⟨by decide +kernel, by kernel_rfl, by kernel_rfl, kerr_slot, entryFor_alias (id' := "BaseException.__init__") (by rw [fastTable_eq_tree]; kernel_rfl) (by first | rfl | decide +kernel) (by decide +kernel) (by rw [fastTable_eq_tree]; kernel_rfl)⟩
theorem kerr_store : StoreFacts "KeyError" [.type "KeyError", .type "LookupError", .type "Exception", .type "BaseException", .type "object"] "object.__setattr__" "object" := { mro := (by kernel_rfl), slot := .of (owner := "object") (n := "__setattr__") (by rw [typeLookup_type, builtinLookup_eq_fast]; kernel_rfl) (by decide +kernel) (by decide +kernel) (by decide +kernel) (by first | exact .inl (by decide +kernel) | exact .inr (by decide +kernel)) (by rw [isSubtype_type]; kernel_rfl), entry := PySem.F.entry_object_sa, kind := (by decide +kernel), split := (by decide +kernel), hasOwner := (by decide +kernel), args := fun a b c => (by unfold argsOk; kernel_rfl), passes := fun self => (by kernel_rfl) }
theorem kerr_kxs : PySem.W.KxsFacts "KeyError" "KeyError.__init__" := ⟨by show builtinType _ = _; rw [builtinType_eq_fast]; kernel_rfl, by first | rfl | kernel_rfl⟩
end
theorem xbK_ok : XB.Ok xbK := ⟨⟨_, _, PySem.F.excBase_LookupError⟩, by decide +kernel, by decide +kernel, by decide +kernel, kerr_ini, kerr_store, kerr_kxs⟩
theorem xbV_ok : XB.Ok xbV := ⟨⟨_, _, PySem.F.excBase_ValueError⟩, by decide +kernel, by decide +kernel, by decide +kernel, .of PySem.F.excBase_ValueError.toExcCallFacts, PySem.F.store_ValueError, PySem.W.kxs_ValueError⟩
section
variable {P : Program} {w : World} {K : PySem.W.Frag} {mg : Str → Option Value} {base : Heap} {F : NF} {f C : Addr} {fd : FuncData}
/-- two fields -/
theorem x2_okG {b : XB} (B : XB.Ok b) {k : Nat} {n1 n2 : Str} {p0 p1 p2 p3 p4 p5 q1 q2 q3 q4 q5 q6 q7 q8 : Pos} {txt : Str} {j : Nat} (T : XClsG b P K C f fd F) (S : NScope ["self", n1, n2, "__class__"] ["self", n1, n2] ["__class__"] F.scope) {ar : Arg} (hp : (F.params.posonlyargs ++ F.params.args).head? = some ar) (har : ar.arg = "self")
    (hks : F.scope.names.lookup ("super" : Str) = some .globalImplicit) (htop : (P.main.scope.names.lookup ("super" : Str)).isSome = false) (hsup : mg ("super" : Str) = none)
    (hbody : F.body = [.Expr (.Call (.Attribute (.Call (.Name "super" p0) [] [] p1) "__init__" p2) [.Constant (.str txt) j p3] [] p4) p5, .Assign [.Attribute (.Name "self" q2) n1 q1] (.Name n1 q3) q4, .Assign [.Attribute (.Name "self" q6) n2 q5] (.Name n2 q7) q8])
    (hno : PySem.W.findIn K (.ref C) n1 = some none) (hno2 : PySem.W.findIn K (.ref C) n2 = some none) (hd : (n1 == ("__debug__" : Str)) = false) (hcd : (n1 == ("__classdict__" : Str)) = false) (hd2 : (n2 == ("__debug__" : Str)) = false) (hcd2 : (n2 == ("__classdict__" : Str)) = false) {pl : Addr → Sem Bool}
    (he : ∀ L : Addr, eval (.Call (.Attribute (.Call (.Name "super" p0) [] [] p1) "__init__" p2) [.Constant (.str txt) j p3] [] p4) (envF F f L) = (do
      let ov ← attributeBase (.Call (.Name "super" p0) [] [] p1) "__init__" (envF F f L) (eval (.Call (.Name "super" p0) [] [] p1) (envF F f L))
      standAt p2.atName
      let (fv, first) ← holding [ov] (getMethod ov "__init__" (pl L))
      callWith p4 fv first (backTo p4 (starEach [.Constant (.str txt) j p3] (envF F f L))) []))
    (hi : ∀ L : Addr, interactive (envF F f L) = false) (hs : ∀ L : Addr, swapsWith (.Call (.Attribute (.Call (.Name "super" p0) [] [] p1) "__init__" p2) [.Constant (.str txt) j p3] [] p4) none p5.line (envF F f L) = pure false)
    (hs2 : ∀ L : Addr, swapsWith (.Name n1 q3) (some (.Attribute (.Name "self" q2) n1 q1)) q4.line (envF F f L) = pure false)
    (hs3 : ∀ L : Addr, swapsWith (.Name n2 q7) (some (.Attribute (.Name "self" q6) n2 q5)) q8.line (envF F f L) = pure false) :
    FnOk P w K mg base (L2.CX P w) (k + 1) f fd ["self", n1, n2] (spX C [n1, n2]) := by
  have hself : F.scope.names.lookup ("self" : Str) = some .local := S.par _ (.head _)
  have hn1 : F.scope.names.lookup n1 = some .local := S.par _ (.tail _ (.head _))
  have hn2 : F.scope.names.lookup n2 = some .local := S.par _ (.tail _ (.tail _ (.head _)))
  refine xinitG B (tr := tSeq (tOstG b K n1 (tVar 0) (tVar 1)) (tOstG b K n2 (tVar 0) (tVar 2))) T S hp har rfl hself hks htop hsup hbody (fun A outer s H E => pss_cons (ps_ostG B (pe_var (i := 0) (x := "self") rfl (.inl hself)) (pe_var (i := 1) (x := n1) rfl (.inl hn1) hd hcd) (hs2 _)) (pss_one (ps_ostG B (pe_var (i := 0) (x := "self") rfl (.inl hself)) (pe_var (i := 2) (x := n2) rfl (.inl hn2) hd2 hcd2) (hs3 _)))) ?_ he hi hs
  rintro vs H Q E ⟨hl, a, ws, rfl, ea, q⟩
  match ws, hl, q with
  | [y, y2], _, q =>
    refine ⟨rfl, a, [y, y2], rfl, ea, y, rfl, .ref a, rfl, a, C, rfl, T.ox, hno, .inl ⟨ea, fun dx h1 h2 => ?_⟩⟩
    refine ⟨y2, rfl, .ref a, rfl, a, C, rfl, T.ox, hno2, .inr ⟨dx, [(n1, y)], upd_same, by rw [upd_ne h2, upd_same], by show 1 ≤ 900; decide, ?_⟩⟩
    have e : upd (upd (upd H dx (exd dx [(n1, y)])) a (exo a C (some dx))) dx (exd dx [(n2, y2), (n1, y)]) = upd (upd H dx (exd dx [(n2, y2), (n1, y)])) a (exo a C (some dx)) := by
      funext b
      by_cases hb : b = dx
      · subst hb
        rw [upd_same, upd_ne h2, upd_same]
      · rw [upd_ne hb]
        by_cases hb2 : b = a
        · subst hb2
          rw [upd_same, upd_same]
        · rw [upd_ne hb2, upd_ne hb2, upd_ne hb, upd_ne hb]
    rw [e]
    exact q dx h1 h2
end
section
variable {X : Cx} {pins : List (Addr × Obj)} {σ : L2.St} {H : Hp} {s : Shared}
/-- an error that was made stands as one that is kept -/
theorem inv_kept {a C d : Addr} {fs : List (Str × V)} (I : Inv X pins σ H s) (ea : H a = some (exo a C (some d))) (ed : H d = some (exd d fs)) (hne : d ≠ a) :
    ∃ oe od us, oe.cls = .ref C ∧ oe.dict = some d ∧ oe.data = .fields us ∧ Inv X pins σ (upd (upd H a (.frz oe (hereO a))) d (.frz od (.xd fs))) s := by
  obtain ⟨t1, ho⟩ := exo_at I.hok ea
  obtain ⟨mA, hns, rel⟩ := exd_at I.hok ed
  obtain ⟨od, es, ep, hod, hr⟩ := id hns
  refine ⟨({ cls := .ref C, dict := some d, data := .fields #[.ref t1, .none, .none, .none, .bool false, .none] } : Obj), od, #[.ref t1, .none, .none, .none, .bool false, .none], rfl, rfl, rfl, ?_⟩
  have sa : ∀ {b : Addr} {u : HO}, H b = some u → (∀ φ, u ≠ .ext φ) → upd (upd H a (.frz ({ cls := .ref C, dict := some d, data := .fields #[.ref t1, .none, .none, .none, .bool false, .none] } : Obj) (hereO a))) d (.frz od (.xd fs)) b = some u := fun {b u} e n => by
    have h1 : b ≠ d := fun z => by rw [z, ed] at e; exact n _ (Option.some.inj e).symm
    have h2 : b ≠ a := fun z => by rw [z, ea] at e; exact n _ (Option.some.inj e).symm
    rw [upd_ne h1, upd_ne h2]
    exact e
  refine I.un (t' := s.toks) (h' := s.heap) ⟨fun b o q _ _ _ => q, fun b o q _ _ _ => ⟨o.slots, q⟩, fun b o q n _ => ?_, fun b o q _ => ⟨o, q⟩, fun b xs q => sa q (fun _ z => nomatch z), fun b o u q => sa q (fun _ z => nomatch z), fun b ps q => ⟨#[], by rw [sa q (fun _ z => nomatch z)]; simp⟩⟩ fun b u q => ?_
  · rw [upd_ne (fun z => by rw [z, ed] at n; cases n), upd_ne (fun z => by rw [z, ea] at n; cases n)]
    exact n
  · by_cases hb : b = d
    · subst hb
      rw [upd_same] at q
      cases q
      exact ⟨hod, mA, hns, rel⟩
    · rw [upd_ne hb] at q
      by_cases hb2 : b = a
      · subst hb2
        rw [upd_same] at q
        cases q
        exact ⟨ho, ⟨_, ho⟩, ⟨_, ho⟩, fun h1 h2 ⟨o, e⟩ k => ⟨o, k o e⟩⟩
      · rw [upd_ne hb2] at q
        exact (I.hok b u q).stay (fun _ _ _ z => z) (fun c hc => sa hc (fun _ z => nomatch z)) fun c xs hc => sa hc (fun _ z => nomatch z)
end
/-- what is there when X(e, ..) has been made: the error and its dict, both new -/
def tMkV (C : Addr) (sp : Sp) (ta : TA) : TE := fun σ H Q => ta σ H fun vs H1 => vs.length ≤ 1000 ∧ ∀ a, H1 a = none → sp (.ref a :: vs) (upd H1 a (exo a C none))
  (fun v H2 => v = .non ∧ ∃ (d : Addr) (fs : List (Str × V)), d ≠ a ∧ H2 a = some (exo a C (some d)) ∧ H2 d = some (exd d fs) ∧
    ∀ (oe od : Obj) us, oe.cls = .ref C → oe.dict = some d → oe.data = .fields us → Q (.ref a) (upd (upd H2 a (.frz oe (hereO a))) d (.frz od (.xd fs)))) (fun _ _ _ => False)
section
variable {X : Cx} {e : Expr} {es : List Expr} {ta : TA} {p pos : Pos}
theorem pe_mkV {b : XB} (B : XB.Ok b) {CX : CXT} {x : Str} {C fI : Addr} {k : Nat} {fd : FuncData} {ps : List Str} {sp : Sp} (T : OexG b X.K C) (iC : PySem.W.findIn X.K (.ref C) "__init__" = some (some (.ref fI))) (tI : PySem.W.typeIn X.K (.ref fI) = some (.type "function"))
    (F1 : FnOk X.prog X.w X.K X.mg X.base CX k fI fd ps sp) (hr : Room (k + 1) X.A) (hb : Binds X.K fd ps []) (hx : Passes CX X (fun _ _ _ => False)) (hg : Gl X x) (hm : X.mg x = some (.ref C)) (ha : PA X (e :: es) ta)
    (hdb : (x == ("__debug__" : Str)) = false) (he : starEach (e :: es) X.env = (false, eval e X.env) :: starEach es X.env) (hpl : (backTo pos (starEach es X.env)).any (·.1) = false) :
    PE X (.Call (.Name x p) (e :: es) [] pos) (tMkV C sp ta) := by
  refine ⟨fun pins s σ H Q I h => ?_⟩
  obtain ⟨nm, q, N, bs, bm, sn, sub, ab, col, dd, k0, k1, k2, k3, k5, hC, hbm⟩ := T.cls
  refine wpAny_Call_Name_kw (ld_glob I hg hm ?_ hdb)
  refine PySem.W.callWith_K (h₀ := X.base) I.ok.mod.kin T.kC (thn (ha.run pos pins s σ H _ I h) fun us s1 ⟨vs, H1, I1, r1, hz, q1⟩ => ⟨I1.kIn, ?_⟩) he hpl
  show wpAny _ _ (call (.ref C) us) _ _ _
  obtain ⟨hp, g, dr, tk, os⟩ := s1
  have hsz : hp.objs.size ≤ hp.objs.size + 1 := Nat.le_succ _
  have hq := q1 (hp.objs.size + 1) (I1.hok.fresh hsz)
  have I2 : Inv X pins σ (upd H1 (hp.objs.size + 1) (exo (hp.objs.size + 1) C none)) ⟨(hp.push (PySem.W.kdv_tup us)).push (PySem.HandSPX.excO C hp.objs.size), g, dr, tk, os⟩ :=
    I1.laid (t' := tk) (a := hp.objs.size + 1) (o := exo (hp.objs.size + 1) C none) (h' := (hp.push (PySem.W.kdv_tup us)).push (PySem.HandSPX.excO C hp.objs.size)) (fun b o e => Heap.get?_push_of_some _ (Heap.get?_push_of_some _ e)) hsz (exo_ok (by heap_get))
  have r2 : Vals (V.ref (hp.objs.size + 1) :: vs) (Value.ref (hp.objs.size + 1) :: us) := .cons rfl r1
  have hl : (Value.ref (hp.objs.size + 1) :: us).length = ps.length := by
    have e := r2.length
    rw [F1.len _ _ _ _ hq] at e
    exact e.symm
  have hus : us.length ≤ sizeLine := by
    rw [← Paired.length r1, sizeLine_eq]
    omega
  have hbi := hb ⟨(hp.push (PySem.W.kdv_tup us)).push (PySem.HandSPX.excO C hp.objs.size), g, dr, tk, os⟩ (Value.ref (hp.objs.size + 1) :: us) I2.kIn (by rw [List.append_nil]; exact hl)
  rw [List.append_nil] at hbi
  obtain ⟨_, _, nF⟩ := B.new
  obtain ⟨n1, n2, n3⟩ := B.tail hbm
  refine wpAny_call (newG_call nF n1 n2 n3 (I1.kIn _ _ hC) (PySem.W.looks_findIn I1.kIn iC) (fun self => PySem.W.bind_fn I1.kIn self tI) hus
    (codeAny_mono (F1.run _ X.stack _ _ ⟨Value.ref (hp.objs.size + 1) :: us, []⟩ (Value.ref (hp.objs.size + 1) :: us) _ _ (fun _ _ _ => False) (hr.make C us []) (I2.env0.make C us []) hbi r2 hq) fun r s' hq' => ?_))
  cases r with
  | error er => exact hx pins σ _ _ er s' I2 hq'
  | ok fl => cases fl with
    | ret u =>
      obtain ⟨v, H2, I3, rv, ev, d, fs, hne, ea, ed, q2⟩ := I2.after hq'
      subst ev
      obtain ⟨oe, od, us', h1, h2, h3, J⟩ := inv_kept I3 ea ed hne
      have J' : Inv X pins σ (upd (upd H2 (hp.objs.size + 1) (.frz oe (hereO (hp.objs.size + 1)))) d (.frz od (.xd fs))) s' := J
      exact ⟨rv, ⟨V.ref (hp.objs.size + 1), _, J', rfl, q2 oe od us' h1 h2 h3⟩⟩
    | next => exact hq'.elim
    | brk => exact hq'.elim
    | cont => exact hq'.elim
end
def eMkX (c : Nat) (fs : List Str) (t : DA) : DE := fun r m => (t r m).bind fun ws m1 => if ws.length = fs.length ∧ ws.length ≤ 1000 then .ok (.ref m1.length) (m1 ++ [.exn c (fs.zip ws).reverse]) else .bad
section
variable {X : Cx} {cl : Clz} {Wx : WX} {e : Expr} {es : List Expr} {p pos : Pos} {x : Str}
theorem se_mkX {b : XB} (B : XB.Ok b) {c k : Nat} {fs ps : List Str} {fI : Addr} {fd : FuncData} {F : NF} {t : DA} (T : XClsG b X.prog X.K (cl c) fI fd F) (F1 : FnOk X.prog X.w X.K X.mg X.base (L2.CX X.prog X.w) k fI fd ps (spX (cl c) fs)) (hr : Room (k + 1) X.A) (hb : Binds X.K fd ps []) (tk : Takes X Wx)
    (hm : X.mg x = some (.ref (cl c))) (ha : PA X (e :: es) (tA (gx X cl Wx) t)) (hg : Gl X x := by rfl) (hdb : (x == ("__debug__" : Str)) = false := by decide) (he : starEach (e :: es) X.env = (false, eval e X.env) :: starEach es X.env := by rfl) (hpl : (backTo pos (starEach es X.env)).any (·.1) = false := by rfl) :
    PE X (.Call (.Name x p) (e :: es) [] pos) (tE (gx X cl Wx) (eMkX c fs t)) :=
  (pe_mkV B T.ox T.itI T.tyI F1 hr hb (passes_call tk fun _ _ _ _ h => h.elim) hg hm ha hdb he hpl).imp fun s H Q ⟨r, m, z, R, P⟩ => by
    refine ⟨r, m, z, R, P.bind fun z1 ws m1 vs H1 E1 R1 r1 P1 => ?_⟩
    dsimp only at P1
    split at P1
    · rename_i hl
      have hvl : vs.length = ws.length := RWs.length r1
      refine ⟨by rw [hvl]; exact hl.2, fun a hna => ⟨by rw [List.length_cons, hvl, hl.1], a, vs, rfl, upd_same, fun dx hdx hne => ⟨rfl, dx, (fs.zip vs).reverse, hne, upd_same, by rw [upd_ne hne, upd_same], fun oe od us g1 g2 g3 => ?_⟩⟩⟩
      have hdx1 : H1 dx = none := by rw [upd_ne hne] at hdx; exact hdx
      have e : upd (upd (upd (upd (upd H1 a (exo a (cl c) none)) dx (exd dx (fs.zip vs).reverse)) a (exo a (cl c) (some dx))) a (.frz oe (hereO a))) dx (.frz od (.xd (fs.zip vs).reverse)) = caught (upd H1 dx (.xd (fs.zip vs).reverse)) a dx oe od (fs.zip vs).reverse := by
        unfold caught
        funext b
        by_cases h1 : b = dx
        · rw [h1, upd_same, upd_same]
        · rw [upd_ne h1, upd_ne h1]
          by_cases h2 : b = a
          · rw [h2, upd_same, upd_same]
          · rw [upd_ne h2, upd_ne h2, upd_ne h2, upd_ne h1, upd_ne h2, upd_ne h1]
      rw [e]
      have hs := upd_same_of (H := H1) (o := .xd (fs.zip vs).reverse) hdx1
      have E2 := R1.mem.extS hs
      have R2 := R1.same hs
      obtain ⟨E3, M3, at3⟩ := caught_ok (oe := oe) (od := od) (c := c) (a := a) R2.mem (by rw [upd_ne (Ne.symm hne)]; exact hna) upd_same g1 g2 g3 (RFs.ext E2 (RFs.zip r1).rev)
      exact P1 _ _ _ (E2.trans E3) (R2.after E3 M3) ⟨a, at3, rfl⟩
    · exact P1.elim
/-- isinstance(y, T), T a built-in class -/
theorem se_isxB {l : List (Nat × Bool)} {f : DE} {tn : String} {p p2 : Pos} (hm : X.mg "isinstance" = none) (hm2 : X.mg tn = none) (hv : bootBuiltins tn = some (.type tn)) (hl : IsX X.K cl (.type tn) l) (h : PE X e (tE (gx X cl Wx) f)) (hg : Gl X "isinstance" := by rfl) (hg2 : Gl X tn := by rfl)
    (hn2 : (tn : Str) ≠ "__name__" := by decide) (hdb2 : ((tn : Str) == ("__debug__" : Str)) = false := by decide)
    (he1 : starEach [e, .Name tn p2] X.env = (false, eval e X.env) :: starEach [.Name tn p2] X.env := by rfl) (he2 : starEach [.Name tn p2] X.env = (false, eval (.Name tn p2) X.env) :: starEach [] X.env := by rfl) (hpl : (backTo pos (starEach [.Name tn p2] X.env)).any (·.1) = false := by rfl) :
    PE X (.Call (.Name "isinstance" p) [e, .Name tn p2] [] pos) (tE (gx X cl Wx) (eIsX l f)) :=
  (pe_callB call_isKe hg hm (by decide +kernel) (pa_cons h (pa_cons (pe_bltn (v := .ty tn) hg2 hm2 hv rfl hn2 hdb2) pa_nil he2) he1) (by decide) (by decide) he1 hpl).imp fun s H Q ⟨r, m, z, R, P⟩ => by
    refine ⟨r, m, z, R, P.bind fun z1 w m1 v H1 E1 R1 r1 P1 => ?_⟩
    cases q : exnOf m1 w with
    | none => rw [q] at P1; exact P1.elim
    | some cf =>
      obtain ⟨k, fs⟩ := cf
      rw [q] at P1
      dsimp only at P1
      cases q2 : mtOf l k with
      | none => rw [q2] at P1; exact P1.elim
      | some b =>
        rw [q2] at P1
        obtain ⟨a, vs, rfl, hk, hf⟩ := exn_at R1.mem r1 q
        obtain ⟨g1, g2⟩ := hl _ _ q2
        exact ⟨a, cl k, vs, .ty tn, .type tn, b, rfl, hk, g1, fun u hu => hu, g2, Post.ret (b := V.bl b) P1 R1 rfl⟩
end
end Dn
namespace Dn
open PySem PySem.Spec PyProof.Rows L2 NdefX
/-- sys.modules stands at its place, no list -/
structure SysM (K : PySem.W.Frag) : Prop where
  is : ∃ o, K.lookup sysModules = some o ∧ o.cls ≠ .type "list"
theorem sysB_ok {K : PySem.W.Frag} (h : sysB K = true) : SysM K := by
  unfold sysB at h
  split at h
  · rename_i o e
    exact ⟨o, e, fun q => by rw [q] at h; simp at h⟩
  · cases h
def keyP : Key → PyData
  | .inl i => .int i
  | .inr x => .str x
/-- what stands by itself -/
def Lf (v : V) (d : PyData) : Prop := (v = .non ∧ d = .none) ∨ (∃ b, v = .bl b ∧ d = .bool b) ∨ (∃ i, v = .int i ∧ d = .int i) ∨ ∃ x, v = .str x ∧ d = .str x
/-- v shows d, n levels deep -/
def Dx (K : PySem.W.Frag) (H : Hp) : Nat → V → PyData → Prop
  | 0, v, d => Lf v d
  | n + 1, v, d => Lf v d ∨ (∃ a xs ds, v = .ref a ∧ d = .list ds ∧ SqL K H a xs ∧ Paired (Dx K H n) xs ds) ∨ (∃ a xs ds, v = .ref a ∧ d = .tuple ds ∧ SqT K H a xs ∧ Paired (Dx K H n) xs ds) ∨
    ∃ (a : Addr) (kvs : List (Key × V)) (ds : List PyData), v = .ref a ∧ d = .dict ((kvs.map fun p => keyP p.1).zip ds) ∧ H a = some (.dK kvs) ∧ Paired (Dx K H n) (kvs.map (·.2)) ds
section
variable {X : Cx} {pins : List (Addr × Obj)} {σ : L2.St} {H : Hp} {s : Shared}
theorem lf_reads {h : Heap} {v : V} {d : PyData} {u : Value} (q : Lf v d) (r : RelV v u) : ∃ as, Reads h u d as ∧ sysModules ∉ as := by
  rcases q with ⟨rfl, rfl⟩ | ⟨b, rfl, rfl⟩ | ⟨i, rfl, rfl⟩ | ⟨x, rfl, rfl⟩
  · cases r
    exact ⟨_, .none, by simp⟩
  · cases r
    exact ⟨_, .bool b, by simp⟩
  · obtain ⟨t, rfl⟩ := r
    exact ⟨_, .int i t, by simp⟩
  · obtain ⟨t, rfl⟩ := r
    exact ⟨_, .str x t, by simp⟩
theorem all_reads {h : Heap} {D : V → PyData → Prop} (ih : ∀ v d u, D v d → RelV v u → ∃ as, Reads h u d as ∧ sysModules ∉ as) : ∀ {vs : List V} {ds : List PyData} {us : List Value}, Paired D vs ds → Vals vs us → ∃ as, ReadsAll h us ds as ∧ sysModules ∉ as
  | _, _, _, .nil, .nil => ⟨_, .nil, by simp⟩
  | _, _, _, .cons a t, .cons r rt => by
    obtain ⟨as, h1, h2⟩ := ih _ _ _ a r
    obtain ⟨bs, h3, h4⟩ := all_reads ih t rt
    exact ⟨_, .cons h1 h3, by simp [h2, h4]⟩
theorem key_reads {h : Heap} {k : Key} {u : Value} (q : keyIs k u = true) : Reads h u (keyP k) [] := by
  rcases keyIs_shape q with ⟨i, t, rfl, rfl⟩ | ⟨x, t, rfl, rfl⟩
  · exact .int i t
  · exact .str x t
theorem kvs_reads {P : Program} {w : World} {h : Heap} {D : V → PyData → Prop} (ih : ∀ v d u, D v d → RelV v u → ∃ as, Reads h u d as ∧ sysModules ∉ as) : ∀ {kvs : List (Key × V)} {vs : List (Key × Value)} {es : List DictEntry} {ds : List PyData}, KV kvs vs → Pairs (mixKind P w) es vs → Paired D (kvs.map (·.2)) ds →
    ∃ bs, ReadsAll h (es.map (·.key)) (((kvs.map fun p => keyP p.1).zip ds).map (·.1)) [] ∧ ReadsAll h (es.map (·.val)) (((kvs.map fun p => keyP p.1).zip ds).map (·.2)) bs ∧ sysModules ∉ bs
  | [], _, _, _, .nil, .nil, .nil => ⟨[], .nil, .nil, by simp⟩
  | (k, v) :: kvs, (k', u) :: vs, e :: es, d :: ds, .cons r1 t1, .cons r2 e2 t2, .cons r3 t3 => by
    obtain ⟨e1, rv⟩ := r1
    dsimp only at e1 rv r2 e2
    subst e1
    obtain ⟨as, h1, h2⟩ := ih _ _ _ r3 rv
    obtain ⟨bs, g1, g2, g3⟩ := kvs_reads ih t1 t2 t3
    have g0 := ReadsAll.cons (key_reads (h := h) r2) g1
    rw [List.nil_append] at g0
    refine ⟨as ++ bs, g0, ?_, by simp [h2, g3]⟩
    have g4 : ReadsAll h (e.val :: es.map (·.val)) (d :: ((kvs.map fun p => keyP p.1).zip ds).map (·.2)) (as ++ bs) := .cons (by rw [e2]; exact h1) g2
    exact g4
theorem dx_reads (S : SysM X.K) (I : Inv X pins σ H s) : ∀ (n : Nat) (v : V) (d : PyData) (u : Value), Dx X.K H n v d → RelV v u → ∃ as, Reads s.heap u d as ∧ sysModules ∉ as := by
  intro n
  induction n with
  | zero => exact fun v d u h r => lf_reads h r
  | succ n ih =>
    intro v d u h r
    rcases h with h | ⟨a, xs, ds, rfl, rfl, hs, hp⟩ | ⟨a, xs, ds, rfl, rfl, hs, hp⟩ | ⟨a, kvs, ds, rfl, rfl, ha, hp⟩
    · exact lf_reads h r
    · cases r
      obtain ⟨its, rv, ⟨o, m, ho, hc, _, hd⟩, _⟩ := I.list hs
      obtain ⟨as, h1, h2⟩ := all_reads ih hp rv
      refine ⟨_, Reads.list ho hc hd h1, ?_⟩
      rw [List.mem_cons]
      rintro (q | q)
      · obtain ⟨o', e1, e2⟩ := S.is
        rw [← q, I.kIn _ _ e1] at ho
        exact e2 ((Option.some.inj ho).symm ▸ hc)
      · exact h2 q
    · cases r
      obtain ⟨its, rv, ⟨o, ho, hc, m, hd⟩, _⟩ := I.tuple hs
      obtain ⟨as, h1, h2⟩ := all_reads ih hp rv
      exact ⟨_, Reads.tuple ho hc hd h1, h2⟩
    · cases r
      obtain ⟨_, hs, vs, rk, o, es, ep, h1, h2, h3, _, h4, _⟩ := (show ObjOk X.prog X.w H s.heap a (.dK kvs) from I.hok a _ ha)
      obtain ⟨bs, g1, g2, g3⟩ := kvs_reads ih rk h4 hp
      refine ⟨_, Reads.dict h1 h2.1 h3 g1 g2, ?_⟩
      have ne : a ≠ sysModules := fun q => by rw [q] at hs; simp at hs
      simp [g3, Ne.symm ne]
end
def rReprX (K : PySem.W.Frag) : List V → Hp → VK → Prop := fun vs H Q => ∃ v d, vs = [v] ∧ Dx K H 20 v d ∧ d.depth ≤ 60 ∧ d.showable = true ∧ d.shown.length ≤ sizeLine ∧ Q (.str d.shown) H
theorem cr_reprX {X : Cx} (S : SysM X.K) (hu : X.A.units + 65 < cLine) (hg : X.A.guards = some []) : CallR X (.builtin "repr") (rReprX X.K) := by
  intro pins s σ H vs us Q I r h
  obtain ⟨v, d, rfl, hD, hdp, hsh, hsz, q⟩ := h
  obtain ⟨u, rfl, ru⟩ := vals1 r
  obtain ⟨as, rd, hno⟩ := dx_reads S I 20 v d u hD ru
  cases rd with
  | none =>
    simp only [PyData.shown] at q
    exact PySem.P.repr_of_none ⟨.str _, H, I.tok _, ⟨_, rfl⟩, q⟩
  | bool b =>
    simp only [PyData.shown] at q
    exact PySem.P.repr_of_bool ⟨.str _, H, I.tok _, ⟨_, rfl⟩, q⟩
  | int i t =>
    simp only [PyData.shown] at q
    exact PySem.P.repr_of_int (by simpa [PyData.showable] using hsh) ⟨.str _, H, I.tok _, ⟨_, rfl⟩, q⟩
  | str x t =>
    simp only [PyData.shown] at q hsz
    exact PySem.P.repr_of_str ⟨.str _, H, I.tok _, ⟨_, rfl⟩, q⟩ hsz
  | list h1 h2 h3 h4 => exact repr_of_reads' (.list h1 h2 h3 h4) hsh (fun _ => hno) hg (by omega) (fun _ _ e => e) (fun h' u tk hk => ⟨.str _, H, I.kept hk, ⟨_, rfl⟩, q⟩) hsz
  | tuple h1 h2 h3 h4 => exact repr_of_reads' (.tuple h1 h2 h3 h4) hsh (fun _ => hno) hg (by omega) (fun _ _ e => e) (fun h' u tk hk => ⟨.str _, H, I.kept hk, ⟨_, rfl⟩, q⟩) hsz
  | dict h1 h2 h3 h4 h5 => exact repr_of_reads' (.dict h1 h2 h3 h4 h5) hsh (fun _ => hno) hg (by omega) (fun _ _ e => e) (fun h' u tk hk => ⟨.str _, H, I.kept hk, ⟨_, rfl⟩, q⟩) hsz
def allO {α : Type} : List (Option α) → Option (List α)
  | [] => some []
  | none :: _ => none
  | some a :: r => match allO r with
    | some l => some (a :: l)
    | none => none
def rdX (m : Mem) : Nat → W → Option PyData
  | _, .non => some .none
  | _, .bl b => some (.bool b)
  | _, .int i => some (.int i)
  | _, .str x => some (.str x)
  | n + 1, .tup xs => (allO (xs.map (rdX m n))).map .tuple
  | n + 1, .lst xs => (allO (xs.map (rdX m n))).map .list
  | n + 1, .old xs => (allO (xs.map (rdX m n))).map .list
  | n + 1, .ref k => match m[k]? with
    | some (.lst xs) => (allO (xs.map (rdX m n))).map .list
    | some (.fz xs) => (allO (xs.map (rdX m n))).map .list
    | some (.dct kvs) => (allO (kvs.map fun p => rdX m n p.2)).map fun ds => .dict ((kvs.map fun p => keyP p.1).zip ds)
    | _ => none
  | _, _ => none
theorem allO_ok {α β : Type} {f : α → Option β} : ∀ {l : List α} {ds : List β}, allO (l.map f) = some ds → Paired (fun a d => f a = some d) l ds
  | [], ds, h => by cases h; exact .nil
  | a :: l, ds, h => by
    rw [List.map_cons] at h
    cases q : f a with
    | none => rw [q] at h; cases h
    | some d =>
      rw [q] at h
      simp only [allO] at h
      cases q2 : allO (l.map f) with
      | none => rw [q2] at h; cases h
      | some r =>
        rw [q2] at h
        cases h
        exact .cons q (allO_ok q2)
theorem pr_all {K : PySem.W.Frag} {z : Zn} {H : Hp} {D : V → PyData → Prop} {f : W → Option PyData} (ih : ∀ w d v, f w = some d → RW K z H w v → D v d) : ∀ {ws : List W} {vs : List V} {ds : List PyData}, Paired (fun a d => f a = some d) ws ds → RWs K z H ws vs → Paired D vs ds
  | _, _, _, .nil, h => by cases h; exact .nil
  | _, _, _, .cons a t, ⟨v, r, h1, h2, h3⟩ => by subst h1; exact .cons (ih _ _ _ a h2) (pr_all ih t h3)
theorem pr_kvs {K : PySem.W.Frag} {z : Zn} {H : Hp} {D : V → PyData → Prop} {f : W → Option PyData} (ih : ∀ w d v, f w = some d → RW K z H w v → D v d) : ∀ {ws : List (Key × W)} {vs : List (Key × V)} {ds : List PyData}, Paired (fun (a : Key × W) d => f a.2 = some d) ws ds → RFs K z H ws vs → Paired D (vs.map (·.2)) ds ∧ (vs.map fun p => keyP p.1) = ws.map fun p => keyP p.1
  | _, _, _, .nil, h => by cases h; exact ⟨.nil, rfl⟩
  | (k, w) :: ws, _, _, .cons a t, ⟨v, r, h1, h2, h3⟩ => by
    subst h1
    obtain ⟨g1, g2⟩ := pr_kvs ih t h3
    exact ⟨.cons (ih _ _ _ a h2) g1, by simp only [List.map_cons, g2]⟩
section
variable {K : PySem.W.Frag} {cl : Clz}
theorem rdX_ok {z : Zn} {m : Mem} {H : Hp} (M : MemOk K cl z m H) : ∀ (n : Nat) (w : W) (d : PyData) (v : V), rdX m n w = some d → RW K z H w v → Dx K H n v d := by
  intro n
  induction n with
  | zero =>
    intro w d v h r
    cases w with
    | non => cases h; exact .inl ⟨r, rfl⟩
    | bl b => cases h; exact .inr (.inl ⟨b, r, rfl⟩)
    | int i => cases h; exact .inr (.inr (.inl ⟨i, r, rfl⟩))
    | str x => cases h; exact .inr (.inr (.inr ⟨x, r, rfl⟩))
    | _ => cases h
  | succ n ih =>
    intro w d v h r
    have ih' : ∀ w d v, rdX m n w = some d → RW K z H w v → Dx K H n v d := ih
    cases w with
    | non => cases h; exact .inl (.inl ⟨r, rfl⟩)
    | bl b => cases h; exact .inl (.inr (.inl ⟨b, r, rfl⟩))
    | int i => cases h; exact .inl (.inr (.inr (.inl ⟨i, r, rfl⟩)))
    | str x => cases h; exact .inl (.inr (.inr (.inr ⟨x, r, rfl⟩)))
    | tup xs =>
      simp only [rdX, Option.map_eq_some_iff] at h
      obtain ⟨ds, h1, rfl⟩ := h
      obtain ⟨a, vs, rfl, hs, hr⟩ := r
      exact .inr (.inr (.inl ⟨a, vs, ds, rfl, rfl, hs, pr_all ih' (allO_ok h1) hr⟩))
    | lst xs =>
      simp only [rdX, Option.map_eq_some_iff] at h
      obtain ⟨ds, h1, rfl⟩ := h
      obtain ⟨a, vs, rfl, hs, hr⟩ := r
      exact .inr (.inl ⟨a, vs, ds, rfl, rfl, SqL.of hs.2, pr_all ih' (allO_ok h1) hr⟩)
    | old xs =>
      simp only [rdX, Option.map_eq_some_iff] at h
      obtain ⟨ds, h1, rfl⟩ := h
      obtain ⟨a, vs, rfl, hs, hr⟩ := r
      exact .inr (.inl ⟨a, vs, ds, rfl, rfl, hs.sq, pr_all ih' (allO_ok h1) hr⟩)
    | ref k =>
      obtain ⟨a, hk, rfl⟩ := r
      simp only [rdX] at h
      split at h
      · rename_i xs e
        simp only [Option.map_eq_some_iff] at h
        obtain ⟨ds, h1, rfl⟩ := h
        obtain ⟨_, _, vs, hs, hr⟩ := M.cells k a _ hk e
        exact .inr (.inl ⟨a, vs, ds, rfl, rfl, SqL.of hs, pr_all ih' (allO_ok h1) hr⟩)
      · rename_i xs e
        simp only [Option.map_eq_some_iff] at h
        obtain ⟨ds, h1, rfl⟩ := h
        obtain ⟨_, vs, hs, hr⟩ := M.cells k a _ hk e
        exact .inr (.inl ⟨a, vs, ds, rfl, rfl, SqL.of hs, pr_all ih' (allO_ok h1) hr⟩)
      · rename_i kvs e
        simp only [Option.map_eq_some_iff] at h
        obtain ⟨ds, h1, rfl⟩ := h
        obtain ⟨_, vs, hs, hr⟩ := M.cells k a _ hk e
        obtain ⟨g1, g2⟩ := pr_kvs (f := rdX m n) ih' (allO_ok (f := fun p : Key × W => rdX m n p.2) h1) hr
        exact .inr (.inr (.inr ⟨a, vs, ds, rfl, by rw [g2], hs, g1⟩))
      · cases h
    | raw u => cases h
def reprX (m : Mem) : List W → Option W
  | [w] => match rdX m 20 w with
    | some d => if (decide (d.depth ≤ 60) && d.showable && decide (d.shown.length ≤ 16777216)) = true then some (.str d.shown) else none
    | none => none
  | _ => none
theorem w_reprX : ClW K cl reprX (rReprX K) := by
  intro z m H ws vs w Q M rws e k
  match ws, e, rws with
  | [u], e, rws =>
    obtain ⟨v, e1, e2⟩ := rws.one
    subst e1
    simp only [reprX] at e
    split at e
    · rename_i d hd
      split at e
      · rename_i hb
        cases e
        rw [Bool.and_eq_true_iff, Bool.and_eq_true_iff, decide_eq_true_eq, decide_eq_true_eq] at hb
        obtain ⟨⟨h1, h2⟩, h3⟩ := hb
        exact ⟨v, d, rfl, rdX_ok M 20 u d v hd e2, h1, h2, by rw [sizeLine_eq]; exact h3, k z _ H (Ext.refl _ _) M rfl⟩
      · cases e
    · cases e
  | [], e, _ => cases e
  | _ :: _ :: _, e, _ => cases e
end
end Dn
namespace L
open PySem PySem.Spec PyProof.Rows L2 Dn
abbrev N__law_mixed : List Str := ["_law_cell", "_law_k"]
def s__law_mixed_0 : DS := (sSet 0 (eBin modW (eFn intW (aCons (eVar 0) aNil)) (eC (.int 2147483647))))
def s__law_mixed_1 : DS := (sRet (eBin modW (eBin mulW (eBin modW (eBin addW (eBin addW (eBin mulW (eVar 0) (eBin addW (eC (.int 48271)) (eBin mulW (eBin mulW (eC (.int 2)) (eVar 1)) (eVar 1)))) (eBin mulW (eC (.int 69621)) (eVar 1))) (eC (.int 11))) (eC (.int 2147483647))) (eC (.int 69621))) (eC (.int 2147483629))))
def d__law_mixed : DS := (sSeq s__law_mixed_0 s__law_mixed_1)
def r__law_mixed : Fw := pw (runD 2 d__law_mixed)
abbrev N__law_begin : List Str := ["_law_script", "_law_cells", "_law_cell"]
def s__law_begin_0 : DS := (sSet 1 (eIf (dTest (eBin neM (eVar 0) (eLst aNil))) (eFz (aFn listW (aCons (eVar 0) aNil))) (eLst (aCons (eC (.int 0)) aNil))))
def s__law_begin_1 : DS := (sRet (eDict [("cells", (eVar 1)), ("lefts", (eNw (aComp (iSeq (eVar 1)) (gN 2) dYes (eIf (dTest (eBin geW (eVar 2) (eBin powW (eC (.int 10)) (eC (.int 18))))) (eVar 2) (eC (.int 0))) [2]))), ("at", (eC (.int 0))), ("room", (eC (.int 0)))]))
def d__law_begin : DS := (sSeq s__law_begin_0 s__law_begin_1)
def r__law_begin : Fw := runD 3 d__law_begin
abbrev N__law_draw : List Str := ["_law_state", "_law_many", "_law_at", "_law_place", "_law_left", "_law_number"]
def s__law_draw_0 : DS := (sSet 2 (eDget (eVar 0) (eC (.str "at"))))
def s__law_draw_1 : DS := (sSub (eVar 0) (eC (.str "at")) (eBin addW (eVar 2) (eC (.int 1))))
def s__law_draw_2 : DS := (sSet 3 (eBin modW (eFn intW (aCons (eVar 2) aNil)) (eFn lenW (aCons (eDget (eVar 0) (eC (.str "cells"))) aNil))))
def s__law_draw_3 : DS := (sSet 4 (eBin ixM (eDget (eVar 0) (eC (.str "lefts"))) (eVar 3)))
def s__law_draw_4 : DS := (sIf (dTest (eBin gtW (eVar 4) (eC (.int 0)))) (sSeq (sSub (eDget (eVar 0) (eC (.str "lefts"))) (eVar 3) (eBin fdivW (eVar 4) (eVar 1)))
    (sRet (eBin modW (eFn intW (aCons (eVar 4) aNil)) (eVar 1)))) sNil)
def s__law_draw_5 : DS := (sSet 5 (eCall 2 r__law_mixed (aCons (eCall 2 r__law_mixed (aCons (eBin ixM (eDget (eVar 0) (eC (.str "cells"))) (eVar 3)) (aCons (eVar 2) aNil))) (aCons (eBin addW (eC (.int 40)) (eVar 2)) aNil))))
def s__law_draw_6 : DS := (sRet (eBin modW (eBin fdivW (eFn intW (aCons (eBin addW (eBin mulW (eVar 5) (eC (.int 2147483647))) (eCall 2 r__law_mixed (aCons (eVar 5) (aCons (eBin addW (eC (.int 7)) (eVar 2)) aNil)))) aNil)) (eC (.int 64))) (eVar 1)))
def d__law_draw : DS := (sSeq s__law_draw_0 (sSeq s__law_draw_1 (sSeq s__law_draw_2 (sSeq s__law_draw_3 (sSeq s__law_draw_4 (sSeq s__law_draw_5 s__law_draw_6))))))
def r__law_draw : Fw := runD 6 d__law_draw
abbrev N__law_things : List Str := ["_law_state", "_law_some", "_law_k"]
def s__law_things_0 : DS := (sSet 1 (eLst (aCons (eC .non) (aCons (eC (.bl true)) (aCons (eC (.int 0)) (aCons (eNeg (eC (.int 7))) (aCons (eC (.str "text")) (aCons (eTup aNil) (aCons (eTup (aCons (eC (.int 1)) (aCons (eC (.str "a")) aNil))) (aCons (eLst (aCons (eC (.int 2)) (aCons (eLst (aCons (eC (.int 3)) aNil)) aNil))) (aCons (eDict [("k", (eC (.int 4)))]) (aCons (eBin powW (eC (.int 10)) (eC (.int 20))) aNil))))))))))))
def s__law_things_1 : DS := (sRet (eFz (aComp (iRng (aCons (eC (.int 2)) aNil)) (gN 2) dYes (eBin ixM (eVar 1) (eCall 2 r__law_draw (aCons (eVar 0) (aCons (eFn lenW (aCons (eVar 1) aNil)) aNil)))) [2])))
def d__law_things : DS := (sSeq s__law_things_0 s__law_things_1)
def r__law_things : Fw := runD 3 d__law_things
abbrev N__law_all_are : List Str := ["_law_found", "_law_thing"]
def s__law_all_are_0 : DS := (sRet (eBin eqS (eFn reprX (aCons (eVar 0) aNil)) (eFn reprX (aCons (eBin mulW (eLst (aCons (eVar 1) aNil)) (eFn lenW (aCons (eVar 0) aNil))) aNil))))
def d__law_all_are : DS := s__law_all_are_0
def r__law_all_are : Fw := runD 2 d__law_all_are
abbrev N__law_fields_right : List Str := ["_law_thing", "_law_other", "_law_rows", "_law_text", "_law_one"]
def s__law_fields_right_0 : DS := (sSet 2 (eLst (aCons (eMkX 3 ["number"] (aCons (eVar 0) aNil)) (aCons (eMkX 4 ["number"] (aCons (eVar 0) aNil)) (aCons (eMkX 5 ["number"] (aCons (eVar 0) aNil)) aNil)))))
def s__law_fields_right_1 : DS := (sIf (dNot (dTest (eCall 2 r__law_all_are (aCons (eBin addW (eLst (aCons (eXk cs_place "place" (eMkX 1 ["place"] (aCons (eVar 0) aNil))) aNil)) (eFz (aComp (iSeq (eVar 2)) (gN 4) dYes (eXk cs_number "number" (eVar 4)) [4]))) (aCons (eVar 0) aNil))))) (sRet (eC (.bl false))) sNil)
def s__law_fields_right_2 : DS := (sIf (dNot (dTest (eCall 2 r__law_all_are (aCons (eLst (aCons (eXk cs_part "part" (eMkX 6 ["part"] (aCons (eVar 0) aNil))) (aCons (eXk cs_most "most" (eMkX 17 ["most"] (aCons (eVar 0) aNil))) aNil))) (aCons (eVar 0) aNil))))) (sRet (eC (.bl false))) sNil)
def s__law_fields_right_3 : DS := (sSet 2 (eLst (aCons (eMkX 7 ["given"] (aCons (eVar 0) aNil)) (aCons (eMkX 8 ["given"] (aCons (eVar 0) aNil)) (aCons (eMkX 9 ["given"] (aCons (eVar 0) aNil)) (aCons (eMkX 10 ["given"] (aCons (eVar 0) aNil)) (aCons (eMkX 11 ["given"] (aCons (eVar 0) aNil)) (aCons (eMkX 12 ["given"] (aCons (eVar 0) aNil)) aNil))))))))
def s__law_fields_right_4 : DS := (sSet 2 (eBin addW (eVar 2) (eLst (aCons (eMkX 13 ["given"] (aCons (eVar 0) aNil)) (aCons (eMkX 14 ["given"] (aCons (eVar 0) aNil)) (aCons (eMkX 15 ["given"] (aCons (eVar 0) aNil)) (aCons (eMkX 16 ["given"] (aCons (eVar 0) aNil)) (aCons (eMkX 18 ["given"] (aCons (eVar 0) aNil)) aNil))))))))
def s__law_fields_right_5 : DS := (sIf (dNot (dTest (eCall 2 r__law_all_are (aCons (eFz (aComp (iSeq (eVar 2)) (gN 4) dYes (eXk cs_given "given" (eVar 4)) [4])) (aCons (eVar 0) aNil))))) (sRet (eC (.bl false))) sNil)
def s__law_fields_right_6 : DS := (sSet 3 (eMkX 2 ["line", "place"] (aCons (eVar 0) (aCons (eVar 1) aNil))))
def s__law_fields_right_7 : DS := (sRet (eBin eqS (eFn reprX (aCons (eTup (aCons (eXk cs_line "line" (eVar 3)) (aCons (eXk cs_place "place" (eVar 3)) aNil))) aNil)) (eFn reprX (aCons (eTup (aCons (eVar 0) (aCons (eVar 1) aNil))) aNil))))
def d__law_fields_right : DS := (sSeq s__law_fields_right_0 (sSeq s__law_fields_right_1 (sSeq s__law_fields_right_2 (sSeq s__law_fields_right_3 (sSeq s__law_fields_right_4 (sSeq s__law_fields_right_5 (sSeq s__law_fields_right_6 s__law_fields_right_7)))))))
def r__law_fields_right : Fw := runD 5 d__law_fields_right
abbrev N__law_made : List Str := ["_law_rows"]
def s__law_made_0 : DS := (sSet 0 (eLst (aCons (eMkX 1 ["place"] (aCons (eC (.int 0)) aNil)) (aCons (eMkX 3 ["number"] (aCons (eC (.int 0)) aNil)) (aCons (eMkX 4 ["number"] (aCons (eC (.int 0)) aNil)) (aCons (eMkX 5 ["number"] (aCons (eC (.int 0)) aNil)) (aCons (eMkX 6 ["part"] (aCons (eC (.str "form")) aNil)) (aCons (eMkX 7 ["given"] (aCons (eC (.int 0)) aNil)) (aCons (eMkX 8 ["given"] (aCons (eC (.int 0)) aNil)) aNil)))))))))
def s__law_made_1 : DS := (sSet 0 (eBin addW (eVar 0) (eLst (aCons (eMkX 9 ["given"] (aCons (eC (.int 0)) aNil)) (aCons (eMkX 10 ["given"] (aCons (eC (.int 0)) aNil)) (aCons (eMkX 11 ["given"] (aCons (eC (.int 0)) aNil)) (aCons (eMkX 12 ["given"] (aCons (eC (.int 0)) aNil)) (aCons (eMkX 13 ["given"] (aCons (eC (.int 0)) aNil)) (aCons (eMkX 14 ["given"] (aCons (eC (.int 0)) aNil)) (aCons (eMkX 15 ["given"] (aCons (eC (.int 0)) aNil)) (aCons (eMkX 16 ["given"] (aCons (eC (.int 0)) aNil)) aNil)))))))))))
def s__law_made_2 : DS := (sRet (eBin addW (eVar 0) (eLst (aCons (eMkX 2 ["line", "place"] (aCons (eC (.int 0)) (aCons (eC (.int 0)) aNil))) aNil))))
def d__law_made : DS := (sSeq s__law_made_0 (sSeq s__law_made_1 s__law_made_2))
def r__law_made : Fw := runD 1 d__law_made
abbrev N__law_kinds_of : List Str := ["_law_one", "_law_rows"]
def s__law_kinds_of_0 : DS := (sSet 1 (eLstM (aCons (eIsX l_BadRule (eVar 0)) (aCons (eIsX l_BadEvents (eVar 0)) (aCons (eIsX l_BadJournal (eVar 0)) aNil)))))
def s__law_kinds_of_1 : DS := (sSet 1 (eNw (aAddL (eVar 1) (eLst (aCons (eIsX l_BadPeople (eVar 0)) (aCons (eIsX l_BadPaper (eVar 0)) (aCons (eIsX l_BadPerson (eVar 0)) aNil)))))))
def s__law_kinds_of_2 : DS := (sExpr (eApp (eVar 1) (eIsX l_BadPromise (eVar 0))))
def s__law_kinds_of_3 : DS := (sSet 1 (eNw (aAddL (eVar 1) (eLst (aCons (eIsX l_BadMay (eVar 0)) (aCons (eIsX l_BadAbsent (eVar 0)) (aCons (eIsX l_BadWhat (eVar 0)) aNil)))))))
def s__law_kinds_of_4 : DS := (sSet 1 (eNw (aAddL (eVar 1) (eLst (aCons (eIsX l_BadEvent (eVar 0)) (aCons (eIsX l_BadWord (eVar 0)) (aCons (eIsX l_BadClaim (eVar 0)) aNil)))))))
def s__law_kinds_of_5 : DS := (sRet (eBin addW (eVar 1) (eLst (aCons (eIsX l_Broken (eVar 0)) (aCons (eIsX l_Parts (eVar 0)) (aCons (eIsX l_BadText (eVar 0)) aNil))))))
def d__law_kinds_of : DS := (sSeq s__law_kinds_of_0 (sSeq s__law_kinds_of_1 (sSeq s__law_kinds_of_2 (sSeq s__law_kinds_of_3 (sSeq s__law_kinds_of_4 s__law_kinds_of_5)))))
def r__law_kinds_of : Fw := runD 2 d__law_kinds_of
abbrev N__law_classes_right : List Str := ["_law_k", "_law_one", "_law_many", "_law_missing", "_law_j"]
def b__law_classes_right_0 : DS := (sSeq (sIf (dOr (dNot (dTest (eIsX l_AskError (eVar 1)))) (dOr (dNot (dTest (eIsX lb_ValueError (eVar 1)))) (dTest (eIsX lt_TooMany_Missing (eVar 1))))) (sRet (eC (.bl false))) sNil)
    (sIf (dTest (eBin neM (eCall 1 r__law_kinds_of (aCons (eVar 1) aNil)) (eFz (aComp (iRng (aCons (eC (.int 16)) aNil)) (gN 4) dYes (eBin eqM (eVar 4) (eVar 0)) [4])))) (sRet (eC (.bl false))) sNil))
def s__law_classes_right_0 : DS := (sFor (iEnumW (eCall 0 r__law_made aNil)) (gT (gsCons (gN 0) (gsCons (gN 1) gsNil))) b__law_classes_right_0)
def s__law_classes_right_1 : DS := (sPar 2 3 (aCons (eMkX 17 ["most"] (aCons (eC (.int 20000)) aNil)) (aCons (eMkX 18 ["given"] (aCons (eC (.str "x")) aNil)) aNil)))
def s__law_classes_right_2 : DS := (sIf (dOr (dNot (dTest (eIsX lb_OverflowError (eVar 2)))) (dTest (eIsX lt_AskError_Missing (eVar 2)))) (sRet (eC (.bl false))) sNil)
def s__law_classes_right_3 : DS := (sRet (eAnd (eIsX lb_KeyError (eVar 3)) (eNot (eIsX lt_AskError_TooMany (eVar 3)))))
def d__law_classes_right : DS := (sSeq s__law_classes_right_0 (sSeq s__law_classes_right_1 (sSeq s__law_classes_right_2 s__law_classes_right_3)))
def r__law_classes_right : Fw := pw (runD 5 d__law_classes_right)
abbrev N_law : List Str := ["_law_script", "_law_state", "_law_turn", "_law_thing", "_law_other"]
def s_law_0 : DS := (sSet 1 (eCall 1 r__law_begin (aCons (eVar 0) aNil)))
def b_law_0 : DS := (sSeq (sAsg (eCall 1 r__law_things (aCons (eVar 1) aNil)) (gTL (gsCons (gN 3) (gsCons (gN 4) gsNil))))
    (sIf (dNot (dTest (eCall 2 r__law_fields_right (aCons (eVar 3) (aCons (eVar 4) aNil))))) (sRet (eC (.bl false))) sNil))
def s_law_1 : DS := (sFor (iRng (aCons (eC (.int 4)) aNil)) (gN 2) b_law_0)
def s_law_2 : DS := (sRet (eCall 0 r__law_classes_right aNil))
def d_law : DS := (sSeq s_law_0 (sSeq s_law_1 s_law_2))
def r_law : Fw := runD 5 d_law
structure Txt (P : Program) (w : World) (K : PySem.W.Frag) (mg : Str → Option Value) where
  htop : (P.main.scope.names.lookup ("super" : Str)).isSome = false
  gx_AskError : mg "AskError" = some (.ref (cl K 0))
  gx_BadRule : mg "BadRule" = some (.ref (cl K 1))
  gx_BadText : mg "BadText" = some (.ref (cl K 2))
  gx_BadEvents : mg "BadEvents" = some (.ref (cl K 3))
  gx_BadJournal : mg "BadJournal" = some (.ref (cl K 4))
  gx_BadPeople : mg "BadPeople" = some (.ref (cl K 5))
  gx_BadPaper : mg "BadPaper" = some (.ref (cl K 6))
  gx_BadPerson : mg "BadPerson" = some (.ref (cl K 7))
  gx_BadPromise : mg "BadPromise" = some (.ref (cl K 8))
  gx_BadMay : mg "BadMay" = some (.ref (cl K 9))
  gx_BadAbsent : mg "BadAbsent" = some (.ref (cl K 10))
  gx_BadWhat : mg "BadWhat" = some (.ref (cl K 11))
  gx_BadEvent : mg "BadEvent" = some (.ref (cl K 12))
  gx_BadWord : mg "BadWord" = some (.ref (cl K 13))
  gx_BadClaim : mg "BadClaim" = some (.ref (cl K 14))
  gx_Broken : mg "Broken" = some (.ref (cl K 15))
  gx_Parts : mg "Parts" = some (.ref (cl K 16))
  gx_TooMany : mg "TooMany" = some (.ref (cl K 17))
  gx_Missing : mg "Missing" = some (.ref (cl K 18))
  fdx_BadRule : FuncData
  x_BadRule : XClsG xbV P K (cl K 1) (XD.f K xd_BadRule) fdx_BadRule (XD.nf K xd_BadRule)
  xb_BadRule : Binds K fdx_BadRule ["self", "place"] []
  nf_BadRule_place : PySem.W.findIn K (.ref (cl K 1)) "place" = some none
  fdx_BadText : FuncData
  x_BadText : XClsG xbV P K (cl K 2) (XD.f K xd_BadText) fdx_BadText (XD.nf K xd_BadText)
  xb_BadText : Binds K fdx_BadText ["self", "line", "place"] []
  nf_BadText_line : PySem.W.findIn K (.ref (cl K 2)) "line" = some none
  nf_BadText_place : PySem.W.findIn K (.ref (cl K 2)) "place" = some none
  fdx_BadEvents : FuncData
  x_BadEvents : XClsG xbV P K (cl K 3) (XD.f K xd_BadEvents) fdx_BadEvents (XD.nf K xd_BadEvents)
  xb_BadEvents : Binds K fdx_BadEvents ["self", "number"] []
  nf_BadEvents_number : PySem.W.findIn K (.ref (cl K 3)) "number" = some none
  fdx_BadJournal : FuncData
  x_BadJournal : XClsG xbV P K (cl K 4) (XD.f K xd_BadJournal) fdx_BadJournal (XD.nf K xd_BadJournal)
  xb_BadJournal : Binds K fdx_BadJournal ["self", "number"] []
  nf_BadJournal_number : PySem.W.findIn K (.ref (cl K 4)) "number" = some none
  fdx_BadPeople : FuncData
  x_BadPeople : XClsG xbV P K (cl K 5) (XD.f K xd_BadPeople) fdx_BadPeople (XD.nf K xd_BadPeople)
  xb_BadPeople : Binds K fdx_BadPeople ["self", "number"] []
  nf_BadPeople_number : PySem.W.findIn K (.ref (cl K 5)) "number" = some none
  fdx_BadPaper : FuncData
  x_BadPaper : XClsG xbV P K (cl K 6) (XD.f K xd_BadPaper) fdx_BadPaper (XD.nf K xd_BadPaper)
  xb_BadPaper : Binds K fdx_BadPaper ["self", "part"] []
  nf_BadPaper_part : PySem.W.findIn K (.ref (cl K 6)) "part" = some none
  fdx_BadPerson : FuncData
  x_BadPerson : XClsG xbV P K (cl K 7) (XD.f K xd_BadPerson) fdx_BadPerson (XD.nf K xd_BadPerson)
  xb_BadPerson : Binds K fdx_BadPerson ["self", "given"] []
  nf_BadPerson_given : PySem.W.findIn K (.ref (cl K 7)) "given" = some none
  fdx_BadPromise : FuncData
  x_BadPromise : XClsG xbV P K (cl K 8) (XD.f K xd_BadPromise) fdx_BadPromise (XD.nf K xd_BadPromise)
  xb_BadPromise : Binds K fdx_BadPromise ["self", "given"] []
  nf_BadPromise_given : PySem.W.findIn K (.ref (cl K 8)) "given" = some none
  fdx_BadMay : FuncData
  x_BadMay : XClsG xbV P K (cl K 9) (XD.f K xd_BadMay) fdx_BadMay (XD.nf K xd_BadMay)
  xb_BadMay : Binds K fdx_BadMay ["self", "given"] []
  nf_BadMay_given : PySem.W.findIn K (.ref (cl K 9)) "given" = some none
  fdx_BadAbsent : FuncData
  x_BadAbsent : XClsG xbV P K (cl K 10) (XD.f K xd_BadAbsent) fdx_BadAbsent (XD.nf K xd_BadAbsent)
  xb_BadAbsent : Binds K fdx_BadAbsent ["self", "given"] []
  nf_BadAbsent_given : PySem.W.findIn K (.ref (cl K 10)) "given" = some none
  fdx_BadWhat : FuncData
  x_BadWhat : XClsG xbV P K (cl K 11) (XD.f K xd_BadWhat) fdx_BadWhat (XD.nf K xd_BadWhat)
  xb_BadWhat : Binds K fdx_BadWhat ["self", "given"] []
  nf_BadWhat_given : PySem.W.findIn K (.ref (cl K 11)) "given" = some none
  fdx_BadEvent : FuncData
  x_BadEvent : XClsG xbV P K (cl K 12) (XD.f K xd_BadEvent) fdx_BadEvent (XD.nf K xd_BadEvent)
  xb_BadEvent : Binds K fdx_BadEvent ["self", "given"] []
  nf_BadEvent_given : PySem.W.findIn K (.ref (cl K 12)) "given" = some none
  fdx_BadWord : FuncData
  x_BadWord : XClsG xbV P K (cl K 13) (XD.f K xd_BadWord) fdx_BadWord (XD.nf K xd_BadWord)
  xb_BadWord : Binds K fdx_BadWord ["self", "given"] []
  nf_BadWord_given : PySem.W.findIn K (.ref (cl K 13)) "given" = some none
  fdx_BadClaim : FuncData
  x_BadClaim : XClsG xbV P K (cl K 14) (XD.f K xd_BadClaim) fdx_BadClaim (XD.nf K xd_BadClaim)
  xb_BadClaim : Binds K fdx_BadClaim ["self", "given"] []
  nf_BadClaim_given : PySem.W.findIn K (.ref (cl K 14)) "given" = some none
  fdx_Broken : FuncData
  x_Broken : XClsG xbV P K (cl K 15) (XD.f K xd_Broken) fdx_Broken (XD.nf K xd_Broken)
  xb_Broken : Binds K fdx_Broken ["self", "given"] []
  nf_Broken_given : PySem.W.findIn K (.ref (cl K 15)) "given" = some none
  fdx_Parts : FuncData
  x_Parts : XClsG xbV P K (cl K 16) (XD.f K xd_Parts) fdx_Parts (XD.nf K xd_Parts)
  xb_Parts : Binds K fdx_Parts ["self", "given"] []
  nf_Parts_given : PySem.W.findIn K (.ref (cl K 16)) "given" = some none
  fdx_TooMany : FuncData
  x_TooMany : XClsG xbO P K (cl K 17) (XD.f K xd_TooMany) fdx_TooMany (XD.nf K xd_TooMany)
  xb_TooMany : Binds K fdx_TooMany ["self", "most"] []
  nf_TooMany_most : PySem.W.findIn K (.ref (cl K 17)) "most" = some none
  fdx_Missing : FuncData
  x_Missing : XClsG xbK P K (cl K 18) (XD.f K xd_Missing) fdx_Missing (XD.nf K xd_Missing)
  xb_Missing : Binds K fdx_Missing ["self", "given"] []
  nf_Missing_given : PySem.W.findIn K (.ref (cl K 18)) "given" = some none
  mt_AskError : Mt K (cl K) 0 l_AskError
  mt_BadRule : Mt K (cl K) 1 l_BadRule
  mt_BadText : Mt K (cl K) 2 l_BadText
  mt_BadEvents : Mt K (cl K) 3 l_BadEvents
  mt_BadJournal : Mt K (cl K) 4 l_BadJournal
  mt_BadPeople : Mt K (cl K) 5 l_BadPeople
  mt_BadPaper : Mt K (cl K) 6 l_BadPaper
  mt_BadPerson : Mt K (cl K) 7 l_BadPerson
  mt_BadPromise : Mt K (cl K) 8 l_BadPromise
  mt_BadMay : Mt K (cl K) 9 l_BadMay
  mt_BadAbsent : Mt K (cl K) 10 l_BadAbsent
  mt_BadWhat : Mt K (cl K) 11 l_BadWhat
  mt_BadEvent : Mt K (cl K) 12 l_BadEvent
  mt_BadWord : Mt K (cl K) 13 l_BadWord
  mt_BadClaim : Mt K (cl K) 14 l_BadClaim
  mt_Broken : Mt K (cl K) 15 l_Broken
  mt_Parts : Mt K (cl K) 16 l_Parts
  is_AskError : IsX K (cl K) (.ref (cl K 0)) l_AskError
  is_BadRule : IsX K (cl K) (.ref (cl K 1)) l_BadRule
  is_BadText : IsX K (cl K) (.ref (cl K 2)) l_BadText
  is_BadEvents : IsX K (cl K) (.ref (cl K 3)) l_BadEvents
  is_BadJournal : IsX K (cl K) (.ref (cl K 4)) l_BadJournal
  is_BadPeople : IsX K (cl K) (.ref (cl K 5)) l_BadPeople
  is_BadPaper : IsX K (cl K) (.ref (cl K 6)) l_BadPaper
  is_BadPerson : IsX K (cl K) (.ref (cl K 7)) l_BadPerson
  is_BadPromise : IsX K (cl K) (.ref (cl K 8)) l_BadPromise
  is_BadMay : IsX K (cl K) (.ref (cl K 9)) l_BadMay
  is_BadAbsent : IsX K (cl K) (.ref (cl K 10)) l_BadAbsent
  is_BadWhat : IsX K (cl K) (.ref (cl K 11)) l_BadWhat
  is_BadEvent : IsX K (cl K) (.ref (cl K 12)) l_BadEvent
  is_BadWord : IsX K (cl K) (.ref (cl K 13)) l_BadWord
  is_BadClaim : IsX K (cl K) (.ref (cl K 14)) l_BadClaim
  is_Broken : IsX K (cl K) (.ref (cl K 15)) l_Broken
  is_Parts : IsX K (cl K) (.ref (cl K 16)) l_Parts
  ib_KeyError : IsX K (cl K) (.type "KeyError") lb_KeyError
  ib_OverflowError : IsX K (cl K) (.type "OverflowError") lb_OverflowError
  ib_ValueError : IsX K (cl K) (.type "ValueError") lb_ValueError
  sm : SysM K
  xk_given : XkS K (cl K) cs_given "given"
  xk_line : XkS K (cl K) cs_line "line"
  xk_most : XkS K (cl K) cs_most "most"
  xk_number : XkS K (cl K) cs_number "number"
  xk_part : XkS K (cl K) cs_part "part"
  xk_place : XkS K (cl K) cs_place "place"
  ist_AskError_Missing : IsXT K (cl K) [0, 18] lt_AskError_Missing
  ist_AskError_TooMany : IsXT K (cl K) [0, 17] lt_AskError_TooMany
  ist_TooMany_Missing : IsXT K (cl K) [17, 18] lt_TooMany_Missing
  m_KeyError : mg "KeyError" = none
  m_OverflowError : mg "OverflowError" = none
  m_ValueError : mg "ValueError" = none
  m_enumerate : mg "enumerate" = none
  m_int : mg "int" = none
  m_isinstance : mg "isinstance" = none
  m_len : mg "len" = none
  m_list : mg "list" = none
  m_range : mg "range" = none
  m_repr : mg "repr" = none
  m_super : mg "super" = none
  fd__law_mixed : FuncData
  f__law_mixed : FT K mg "_law_mixed" st__law_mixed ["_law_cell", "_law_k"] fd__law_mixed
  fd__law_begin : FuncData
  f__law_begin : FT K mg "_law_begin" st__law_begin ["_law_script"] fd__law_begin
  fd__law_draw : FuncData
  f__law_draw : FT K mg "_law_draw" st__law_draw ["_law_state", "_law_many"] fd__law_draw
  fd__law_things : FuncData
  f__law_things : FT K mg "_law_things" st__law_things ["_law_state"] fd__law_things
  fd__law_all_are : FuncData
  f__law_all_are : FT K mg "_law_all_are" st__law_all_are ["_law_found", "_law_thing"] fd__law_all_are
  fd__law_fields_right : FuncData
  f__law_fields_right : FT K mg "_law_fields_right" st__law_fields_right ["_law_thing", "_law_other"] fd__law_fields_right
  fd__law_made : FuncData
  f__law_made : FT K mg "_law_made" st__law_made [] fd__law_made
  fd__law_kinds_of : FuncData
  f__law_kinds_of : FT K mg "_law_kinds_of" st__law_kinds_of ["_law_one"] fd__law_kinds_of
  fd__law_classes_right : FuncData
  f__law_classes_right : FT K mg "_law_classes_right" st__law_classes_right [] fd__law_classes_right
  fd_law : FuncData
  f_law : FT K mg "law" st_law ["_law_script"] fd_law
section
variable {P : Program} {w : World} {K : PySem.W.Frag} {mg : Str → Option Value} {base : Heap}
theorem ok_x_BadRule (T : Txt P w K mg) : FnOk P w K mg base (L2.CX P w) 1 (XD.f K xd_BadRule) T.fdx_BadRule ["self", "place"] (spX (cl K 1) ["place"]) :=
  x1_okG xbV_ok (k := 0) T.x_BadRule (show NdefX.NScope _ _ _ (defScope st_x_BadRule) from NdefX.nscope_by (by decide +kernel)) rfl rfl rfl T.htop T.m_super rfl T.nf_BadRule_place (by decide) (by decide) (fun _ => rfl) (fun _ => rfl) (fun _ => rfl) (fun _ => rfl)
theorem ok_x_BadText (T : Txt P w K mg) : FnOk P w K mg base (L2.CX P w) 1 (XD.f K xd_BadText) T.fdx_BadText ["self", "line", "place"] (spX (cl K 2) ["line", "place"]) :=
  x2_okG xbV_ok (k := 0) T.x_BadText (show NdefX.NScope _ _ _ (defScope st_x_BadText) from NdefX.nscope_by (by decide +kernel)) rfl rfl rfl T.htop T.m_super rfl T.nf_BadText_line T.nf_BadText_place (by decide) (by decide) (by decide) (by decide) (fun _ => rfl) (fun _ => rfl) (fun _ => rfl) (fun _ => rfl) (fun _ => rfl)
theorem ok_x_BadEvents (T : Txt P w K mg) : FnOk P w K mg base (L2.CX P w) 1 (XD.f K xd_BadEvents) T.fdx_BadEvents ["self", "number"] (spX (cl K 3) ["number"]) :=
  x1_okG xbV_ok (k := 0) T.x_BadEvents (show NdefX.NScope _ _ _ (defScope st_x_BadEvents) from NdefX.nscope_by (by decide +kernel)) rfl rfl rfl T.htop T.m_super rfl T.nf_BadEvents_number (by decide) (by decide) (fun _ => rfl) (fun _ => rfl) (fun _ => rfl) (fun _ => rfl)
theorem ok_x_BadJournal (T : Txt P w K mg) : FnOk P w K mg base (L2.CX P w) 1 (XD.f K xd_BadJournal) T.fdx_BadJournal ["self", "number"] (spX (cl K 4) ["number"]) :=
  x1_okG xbV_ok (k := 0) T.x_BadJournal (show NdefX.NScope _ _ _ (defScope st_x_BadJournal) from NdefX.nscope_by (by decide +kernel)) rfl rfl rfl T.htop T.m_super rfl T.nf_BadJournal_number (by decide) (by decide) (fun _ => rfl) (fun _ => rfl) (fun _ => rfl) (fun _ => rfl)
theorem ok_x_BadPeople (T : Txt P w K mg) : FnOk P w K mg base (L2.CX P w) 1 (XD.f K xd_BadPeople) T.fdx_BadPeople ["self", "number"] (spX (cl K 5) ["number"]) :=
  x1_okG xbV_ok (k := 0) T.x_BadPeople (show NdefX.NScope _ _ _ (defScope st_x_BadPeople) from NdefX.nscope_by (by decide +kernel)) rfl rfl rfl T.htop T.m_super rfl T.nf_BadPeople_number (by decide) (by decide) (fun _ => rfl) (fun _ => rfl) (fun _ => rfl) (fun _ => rfl)
theorem ok_x_BadPaper (T : Txt P w K mg) : FnOk P w K mg base (L2.CX P w) 1 (XD.f K xd_BadPaper) T.fdx_BadPaper ["self", "part"] (spX (cl K 6) ["part"]) :=
  x1_okG xbV_ok (k := 0) T.x_BadPaper (show NdefX.NScope _ _ _ (defScope st_x_BadPaper) from NdefX.nscope_by (by decide +kernel)) rfl rfl rfl T.htop T.m_super rfl T.nf_BadPaper_part (by decide) (by decide) (fun _ => rfl) (fun _ => rfl) (fun _ => rfl) (fun _ => rfl)
theorem ok_x_BadPerson (T : Txt P w K mg) : FnOk P w K mg base (L2.CX P w) 1 (XD.f K xd_BadPerson) T.fdx_BadPerson ["self", "given"] (spX (cl K 7) ["given"]) :=
  x1_okG xbV_ok (k := 0) T.x_BadPerson (show NdefX.NScope _ _ _ (defScope st_x_BadPerson) from NdefX.nscope_by (by decide +kernel)) rfl rfl rfl T.htop T.m_super rfl T.nf_BadPerson_given (by decide) (by decide) (fun _ => rfl) (fun _ => rfl) (fun _ => rfl) (fun _ => rfl)
theorem ok_x_BadPromise (T : Txt P w K mg) : FnOk P w K mg base (L2.CX P w) 1 (XD.f K xd_BadPromise) T.fdx_BadPromise ["self", "given"] (spX (cl K 8) ["given"]) :=
  x1_okG xbV_ok (k := 0) T.x_BadPromise (show NdefX.NScope _ _ _ (defScope st_x_BadPromise) from NdefX.nscope_by (by decide +kernel)) rfl rfl rfl T.htop T.m_super rfl T.nf_BadPromise_given (by decide) (by decide) (fun _ => rfl) (fun _ => rfl) (fun _ => rfl) (fun _ => rfl)
theorem ok_x_BadMay (T : Txt P w K mg) : FnOk P w K mg base (L2.CX P w) 1 (XD.f K xd_BadMay) T.fdx_BadMay ["self", "given"] (spX (cl K 9) ["given"]) :=
  x1_okG xbV_ok (k := 0) T.x_BadMay (show NdefX.NScope _ _ _ (defScope st_x_BadMay) from NdefX.nscope_by (by decide +kernel)) rfl rfl rfl T.htop T.m_super rfl T.nf_BadMay_given (by decide) (by decide) (fun _ => rfl) (fun _ => rfl) (fun _ => rfl) (fun _ => rfl)
theorem ok_x_BadAbsent (T : Txt P w K mg) : FnOk P w K mg base (L2.CX P w) 1 (XD.f K xd_BadAbsent) T.fdx_BadAbsent ["self", "given"] (spX (cl K 10) ["given"]) :=
  x1_okG xbV_ok (k := 0) T.x_BadAbsent (show NdefX.NScope _ _ _ (defScope st_x_BadAbsent) from NdefX.nscope_by (by decide +kernel)) rfl rfl rfl T.htop T.m_super rfl T.nf_BadAbsent_given (by decide) (by decide) (fun _ => rfl) (fun _ => rfl) (fun _ => rfl) (fun _ => rfl)
theorem ok_x_BadWhat (T : Txt P w K mg) : FnOk P w K mg base (L2.CX P w) 1 (XD.f K xd_BadWhat) T.fdx_BadWhat ["self", "given"] (spX (cl K 11) ["given"]) :=
  x1_okG xbV_ok (k := 0) T.x_BadWhat (show NdefX.NScope _ _ _ (defScope st_x_BadWhat) from NdefX.nscope_by (by decide +kernel)) rfl rfl rfl T.htop T.m_super rfl T.nf_BadWhat_given (by decide) (by decide) (fun _ => rfl) (fun _ => rfl) (fun _ => rfl) (fun _ => rfl)
theorem ok_x_BadEvent (T : Txt P w K mg) : FnOk P w K mg base (L2.CX P w) 1 (XD.f K xd_BadEvent) T.fdx_BadEvent ["self", "given"] (spX (cl K 12) ["given"]) :=
  x1_okG xbV_ok (k := 0) T.x_BadEvent (show NdefX.NScope _ _ _ (defScope st_x_BadEvent) from NdefX.nscope_by (by decide +kernel)) rfl rfl rfl T.htop T.m_super rfl T.nf_BadEvent_given (by decide) (by decide) (fun _ => rfl) (fun _ => rfl) (fun _ => rfl) (fun _ => rfl)
theorem ok_x_BadWord (T : Txt P w K mg) : FnOk P w K mg base (L2.CX P w) 1 (XD.f K xd_BadWord) T.fdx_BadWord ["self", "given"] (spX (cl K 13) ["given"]) :=
  x1_okG xbV_ok (k := 0) T.x_BadWord (show NdefX.NScope _ _ _ (defScope st_x_BadWord) from NdefX.nscope_by (by decide +kernel)) rfl rfl rfl T.htop T.m_super rfl T.nf_BadWord_given (by decide) (by decide) (fun _ => rfl) (fun _ => rfl) (fun _ => rfl) (fun _ => rfl)
theorem ok_x_BadClaim (T : Txt P w K mg) : FnOk P w K mg base (L2.CX P w) 1 (XD.f K xd_BadClaim) T.fdx_BadClaim ["self", "given"] (spX (cl K 14) ["given"]) :=
  x1_okG xbV_ok (k := 0) T.x_BadClaim (show NdefX.NScope _ _ _ (defScope st_x_BadClaim) from NdefX.nscope_by (by decide +kernel)) rfl rfl rfl T.htop T.m_super rfl T.nf_BadClaim_given (by decide) (by decide) (fun _ => rfl) (fun _ => rfl) (fun _ => rfl) (fun _ => rfl)
theorem ok_x_Broken (T : Txt P w K mg) : FnOk P w K mg base (L2.CX P w) 1 (XD.f K xd_Broken) T.fdx_Broken ["self", "given"] (spX (cl K 15) ["given"]) :=
  x1_okG xbV_ok (k := 0) T.x_Broken (show NdefX.NScope _ _ _ (defScope st_x_Broken) from NdefX.nscope_by (by decide +kernel)) rfl rfl rfl T.htop T.m_super rfl T.nf_Broken_given (by decide) (by decide) (fun _ => rfl) (fun _ => rfl) (fun _ => rfl) (fun _ => rfl)
theorem ok_x_Parts (T : Txt P w K mg) : FnOk P w K mg base (L2.CX P w) 1 (XD.f K xd_Parts) T.fdx_Parts ["self", "given"] (spX (cl K 16) ["given"]) :=
  x1_okG xbV_ok (k := 0) T.x_Parts (show NdefX.NScope _ _ _ (defScope st_x_Parts) from NdefX.nscope_by (by decide +kernel)) rfl rfl rfl T.htop T.m_super rfl T.nf_Parts_given (by decide) (by decide) (fun _ => rfl) (fun _ => rfl) (fun _ => rfl) (fun _ => rfl)
theorem ok_x_TooMany (T : Txt P w K mg) : FnOk P w K mg base (L2.CX P w) 1 (XD.f K xd_TooMany) T.fdx_TooMany ["self", "most"] (spX (cl K 17) ["most"]) :=
  x1_okG xbO_ok (k := 0) T.x_TooMany (show NdefX.NScope _ _ _ (defScope st_x_TooMany) from NdefX.nscope_by (by decide +kernel)) rfl rfl rfl T.htop T.m_super rfl T.nf_TooMany_most (by decide) (by decide) (fun _ => rfl) (fun _ => rfl) (fun _ => rfl) (fun _ => rfl)
theorem ok_x_Missing (T : Txt P w K mg) : FnOk P w K mg base (L2.CX P w) 1 (XD.f K xd_Missing) T.fdx_Missing ["self", "given"] (spX (cl K 18) ["given"]) :=
  x1_okG xbK_ok (k := 0) T.x_Missing (show NdefX.NScope _ _ _ (defScope st_x_Missing) from NdefX.nscope_by (by decide +kernel)) rfl rfl rfl T.htop T.m_super rfl T.nf_Missing_given (by decide) (by decide) (fun _ => rfl) (fun _ => rfl) (fun _ => rfl) (fun _ => rfl)
theorem sc__law_mixed : FnScope N__law_mixed ["_law_cell", "_law_k"] (defScope st__law_mixed) := ⟨rfl, rfl, rfl, by decide +kernel, rfl, by decide +kernel, by decide +kernel⟩
theorem ok__law_mixed (T : Txt P w K mg) : FnG P w K mg base 1 (He.ga K "_law_mixed") T.fd__law_mixed ["_law_cell", "_law_k"] (spOf K (cl K) 2 r__law_mixed) := by
  refine fn_pw (fn_ok (N := N__law_mixed) (d := d__law_mixed) T.f__law_mixed.F sc__law_mixed rfl fun cdv A outer s H E hr => ?_)
  have tk := takes_of (X := cxOf (L2.CX P w) P w K mg base N__law_mixed "_law_mixed" (defScope st__law_mixed) (He.ga K "_law_mixed") cdv A outer s H E) (E := E) rfl rfl rfl rfl
  exact (ss_cons (ss_set (i := 0) sc__law_mixed.nd rfl (by first | exact Or.inl rfl | exact Or.inr rfl) (se_op op_mod w_mod (se_ct call_int1 w_int T.m_int (by decide +kernel) (sa_cons (sv 0) sa_nil)) se_int))
    (ss_one (ss_ret (se_op op_mod w_mod (se_op o_mul w_mul (se_op op_mod w_mod (se_op o_add w_add (se_op o_add w_add (se_op o_mul w_mul (sv 0) (se_op o_add w_add se_int (se_op o_mul w_mul (se_op o_mul w_mul se_int (sv 1)) (sv 1)))) (se_op o_mul w_mul se_int (sv 1))) se_int) se_int) se_int) se_int))))
theorem sc__law_begin : FnScope N__law_begin ["_law_script"] (defScope st__law_begin) := ⟨rfl, rfl, rfl, by decide +kernel, rfl, by decide +kernel, by decide +kernel⟩
theorem ok__law_begin (T : Txt P w K mg) : FnG P w K mg base 1 (He.ga K "_law_begin") T.fd__law_begin ["_law_script"] (spOf K (cl K) 1 r__law_begin) := by
  refine fn_ok (N := N__law_begin) (d := d__law_begin) T.f__law_begin.F sc__law_begin rfl fun cdv A outer s H E hr => ?_
  have tk := takes_of (X := cxOf (L2.CX P w) P w K mg base N__law_begin "_law_begin" (defScope st__law_begin) (He.ga K "_law_begin") cdv A outer s H E) (E := E) rfl rfl rfl rfl
  exact (ss_cons (ss_set (i := 1) sc__law_begin.nd rfl (by first | exact Or.inl rfl | exact Or.inr rfl) (se_if (st_cmp (op_neD hr.units) w_ne (sv 0) (se_lst sa_nil) rfl) (se_fz (sn_ct call_list_of w_list T.m_list (by decide +kernel) (sa_cons (sv 0) sa_nil))) (se_lst (sa_cons se_int sa_nil))))
    (ss_one (ss_ret (se_dict (fs := [("cells", (eVar 1)), ("lefts", (eNw (aComp (iSeq (eVar 1)) (gN 2) dYes (eIf (dTest (eBin geW (eVar 2) (eBin powW (eC (.int 10)) (eC (.int 18))))) (eVar 2) (eC (.int 0))) [2]))), ("at", (eC (.int 0))), ("room", (eC (.int 0)))]) (pps_cons pe_str (sv 1) (pps_cons pe_str (se_nw (se_lc (own := [("_law_cell", 2)]) rfl sc__law_begin.nd (si_seq (sv 1)) (blkOk_by (N := N__law_begin) (sc := defScope st__law_begin) (by decide +kernel)) (by decide) (fun _ _ _ _ _ => (sg_name (pg_name (i := 2) sc__law_begin.nd rfl (by first | exact Or.inl rfl | exact Or.inr rfl)))) (fun _ _ _ _ _ => stc_nil) (fun _ _ _ _ _ => (se_if (st_cmp op_ge w_ge (sv 2) (se_op op_pow w_pow se_int se_int) rfl) (sv 2) se_int)))) (pps_cons pe_str se_int (pps_cons pe_str se_int pps_nil))))))))
theorem sc__law_draw : FnScope N__law_draw ["_law_state", "_law_many"] (defScope st__law_draw) := ⟨rfl, rfl, rfl, by decide +kernel, rfl, by decide +kernel, by decide +kernel⟩
theorem ok__law_draw (T : Txt P w K mg) : FnG P w K mg base 2 (He.ga K "_law_draw") T.fd__law_draw ["_law_state", "_law_many"] (spOf K (cl K) 2 r__law_draw) := by
  refine fn_ok (N := N__law_draw) (d := d__law_draw) T.f__law_draw.F sc__law_draw rfl fun cdv A outer s H E hr => ?_
  have tk := takes_of (X := cxOf (L2.CX P w) P w K mg base N__law_draw "_law_draw" (defScope st__law_draw) (He.ga K "_law_draw") cdv A outer s H E) (E := E) rfl rfl rfl rfl
  exact (ss_cons (ss_set (i := 2) sc__law_draw.nd rfl (by first | exact Or.inl rfl | exact Or.inr rfl) (se_dget (hu1 hr) (sv 0) se_str))
    (ss_cons (ss_sub (hu1 hr) (se_op o_add w_add (sv 2) se_int) (sv 0) se_str)
    (ss_cons (ss_set (i := 3) sc__law_draw.nd rfl (by first | exact Or.inl rfl | exact Or.inr rfl) (se_op op_mod w_mod (se_ct call_int1 w_int T.m_int (by decide +kernel) (sa_cons (sv 2) sa_nil)) (se_cb c_len w_len T.m_len boot_len (sa_cons (se_dget (hu1 hr) (sv 0) se_str) sa_nil))))
    (ss_cons (ss_set (i := 4) sc__law_draw.nd rfl (by first | exact Or.inl rfl | exact Or.inr rfl) (se_ix ix_seq w_ix (se_dget (hu1 hr) (sv 0) se_str) (sv 3)))
    (ss_cons (ss_if (st_cmp op_gt w_gt (sv 4) se_int rfl) (ss_cons (ss_sub (hu1 hr) (se_op op_fdiv w_fdiv (sv 4) (sv 1)) (se_dget (hu1 hr) (sv 0) se_str) (sv 3))
    (ss_one (ss_ret (se_op op_mod w_mod (se_ct call_int1 w_int T.m_int (by decide +kernel) (sa_cons (sv 4) sa_nil)) (sv 1))))) ss_nil)
    (ss_cons (ss_set (i := 5) sc__law_draw.nd rfl (by first | exact Or.inl rfl | exact Or.inr rfl) (se_call (ok__law_mixed T) (hr.mono (by decide)) T.f__law_mixed.g T.f__law_mixed.F.kp T.f__law_mixed.b tk (sa_cons (se_call (ok__law_mixed T) (hr.mono (by decide)) T.f__law_mixed.g T.f__law_mixed.F.kp T.f__law_mixed.b tk (sa_cons (se_ix ix_seq w_ix (se_dget (hu1 hr) (sv 0) se_str) (sv 3)) (sa_cons (sv 2) sa_nil))) (sa_cons (se_op o_add w_add se_int (sv 2)) sa_nil))))
    (ss_one (ss_ret (se_op op_mod w_mod (se_op op_fdiv w_fdiv (se_ct call_int1 w_int T.m_int (by decide +kernel) (sa_cons (se_op o_add w_add (se_op o_mul w_mul (sv 5) se_int) (se_call (ok__law_mixed T) (hr.mono (by decide)) T.f__law_mixed.g T.f__law_mixed.F.kp T.f__law_mixed.b tk (sa_cons (sv 5) (sa_cons (se_op o_add w_add se_int (sv 2)) sa_nil)))) sa_nil)) se_int) (sv 1))))))))))
theorem sc__law_things : FnScope N__law_things ["_law_state"] (defScope st__law_things) := ⟨rfl, rfl, rfl, by decide +kernel, rfl, by decide +kernel, by decide +kernel⟩
theorem ok__law_things (T : Txt P w K mg) : FnG P w K mg base 3 (He.ga K "_law_things") T.fd__law_things ["_law_state"] (spOf K (cl K) 1 r__law_things) := by
  refine fn_ok (N := N__law_things) (d := d__law_things) T.f__law_things.F sc__law_things rfl fun cdv A outer s H E hr => ?_
  have tk := takes_of (X := cxOf (L2.CX P w) P w K mg base N__law_things "_law_things" (defScope st__law_things) (He.ga K "_law_things") cdv A outer s H E) (E := E) rfl rfl rfl rfl
  exact (ss_cons (ss_set (i := 1) sc__law_things.nd rfl (by first | exact Or.inl rfl | exact Or.inr rfl) (se_lst (sa_cons se_non (sa_cons se_bl (sa_cons se_int (sa_cons (se_neg se_int) (sa_cons se_str (sa_cons (se_tup sa_nil) (sa_cons (se_tup (sa_cons se_int (sa_cons se_str sa_nil))) (sa_cons (se_lst (sa_cons se_int (sa_cons (se_lst (sa_cons se_int sa_nil)) sa_nil))) (sa_cons (se_dict (fs := [("k", (eC (.int 4)))]) (pps_cons pe_str se_int pps_nil)) (sa_cons (se_op op_pow w_pow se_int se_int) sa_nil))))))))))))
    (ss_one (ss_ret (se_fz (se_lc (own := [("_law_k", 2)]) rfl sc__law_things.nd (si_rng1 T.m_range (sa_cons se_int sa_nil) a1_len) (blkOk_by (N := N__law_things) (sc := defScope st__law_things) (by decide +kernel)) (by decide) (fun _ _ _ _ _ => (sg_name (pg_name (i := 2) sc__law_things.nd rfl (by first | exact Or.inl rfl | exact Or.inr rfl)))) (fun _ _ _ _ _ => stc_nil) (fun _ _ _ _ _ => (se_ix ix_seq w_ix (sv 1) (se_call (ok__law_draw T) (hr.mono (by decide)) T.f__law_draw.g T.f__law_draw.F.kp T.f__law_draw.b takes0 (sa_cons (sv 0) (sa_cons (se_cb c_len w_len T.m_len boot_len (sa_cons (sv 1) sa_nil)) sa_nil))))))))))
theorem sc__law_all_are : FnScope N__law_all_are ["_law_found", "_law_thing"] (defScope st__law_all_are) := ⟨rfl, rfl, rfl, by decide +kernel, rfl, by decide +kernel, by decide +kernel⟩
theorem ok__law_all_are (T : Txt P w K mg) : FnG P w K mg base 1 (He.ga K "_law_all_are") T.fd__law_all_are ["_law_found", "_law_thing"] (spOf K (cl K) 2 r__law_all_are) := by
  refine fn_ok (N := N__law_all_are) (d := d__law_all_are) T.f__law_all_are.F sc__law_all_are rfl fun cdv A outer s H E hr => ?_
  have tk := takes_of (X := cxOf (L2.CX P w) P w K mg base N__law_all_are "_law_all_are" (defScope st__law_all_are) (He.ga K "_law_all_are") cdv A outer s H E) (E := E) rfl rfl rfl rfl
  exact (ss_one (ss_ret (se_cmp op_eq w_eqS (se_cb (cr_reprX T.sm (hu65 hr) hr.g) w_reprX T.m_repr (by decide +kernel) (sa_cons (sv 0) sa_nil)) (se_cb (cr_reprX T.sm (hu65 hr) hr.g) w_reprX T.m_repr (by decide +kernel) (sa_cons (se_op o_mul w_mul (se_lst (sa_cons (sv 1) sa_nil)) (se_cb c_len w_len T.m_len boot_len (sa_cons (sv 0) sa_nil))) sa_nil)) rfl)))
theorem sc__law_fields_right : FnScope N__law_fields_right ["_law_thing", "_law_other"] (defScope st__law_fields_right) := ⟨rfl, rfl, rfl, by decide +kernel, rfl, by decide +kernel, by decide +kernel⟩
theorem ok__law_fields_right (T : Txt P w K mg) : FnG P w K mg base 3 (He.ga K "_law_fields_right") T.fd__law_fields_right ["_law_thing", "_law_other"] (spOf K (cl K) 2 r__law_fields_right) := by
  refine fn_ok (N := N__law_fields_right) (d := d__law_fields_right) T.f__law_fields_right.F sc__law_fields_right rfl fun cdv A outer s H E hr => ?_
  have tk := takes_of (X := cxOf (L2.CX P w) P w K mg base N__law_fields_right "_law_fields_right" (defScope st__law_fields_right) (He.ga K "_law_fields_right") cdv A outer s H E) (E := E) rfl rfl rfl rfl
  exact (ss_cons (ss_set (i := 2) sc__law_fields_right.nd rfl (by first | exact Or.inl rfl | exact Or.inr rfl) (se_lst (sa_cons (se_mkX xbV_ok (c := 3) T.x_BadEvents (ok_x_BadEvents T) (hr.toRoom.mono (by decide)) T.xb_BadEvents tk T.gx_BadEvents (sa_cons (sv 0) sa_nil)) (sa_cons (se_mkX xbV_ok (c := 4) T.x_BadJournal (ok_x_BadJournal T) (hr.toRoom.mono (by decide)) T.xb_BadJournal tk T.gx_BadJournal (sa_cons (sv 0) sa_nil)) (sa_cons (se_mkX xbV_ok (c := 5) T.x_BadPeople (ok_x_BadPeople T) (hr.toRoom.mono (by decide)) T.xb_BadPeople tk T.gx_BadPeople (sa_cons (sv 0) sa_nil)) sa_nil)))))
    (ss_cons (ss_if (st_not (st_val (se_call (ok__law_all_are T) (hr.mono (by decide)) T.f__law_all_are.g T.f__law_all_are.F.kp T.f__law_all_are.b tk (sa_cons (se_op o_add w_add (se_lst (sa_cons (se_xk T.xk_place (se_mkX xbV_ok (c := 1) T.x_BadRule (ok_x_BadRule T) (hr.toRoom.mono (by decide)) T.xb_BadRule tk T.gx_BadRule (sa_cons (sv 0) sa_nil))) sa_nil)) (se_fz (se_lc (own := [("_law_one", 4)]) rfl sc__law_fields_right.nd (si_seq (sv 2)) (blkOk_by (N := N__law_fields_right) (sc := defScope st__law_fields_right) (by decide +kernel)) (by decide) (fun _ _ _ _ _ => (sg_name (pg_name (i := 4) sc__law_fields_right.nd rfl (by first | exact Or.inl rfl | exact Or.inr rfl)))) (fun _ _ _ _ _ => stc_nil) (fun _ _ _ _ _ => (se_xk T.xk_number (sv 4)))))) (sa_cons (sv 0) sa_nil))))) (ss_one (ss_ret se_bl)) ss_nil)
    (ss_cons (ss_if (st_not (st_val (se_call (ok__law_all_are T) (hr.mono (by decide)) T.f__law_all_are.g T.f__law_all_are.F.kp T.f__law_all_are.b tk (sa_cons (se_lst (sa_cons (se_xk T.xk_part (se_mkX xbV_ok (c := 6) T.x_BadPaper (ok_x_BadPaper T) (hr.toRoom.mono (by decide)) T.xb_BadPaper tk T.gx_BadPaper (sa_cons (sv 0) sa_nil))) (sa_cons (se_xk T.xk_most (se_mkX xbO_ok (c := 17) T.x_TooMany (ok_x_TooMany T) (hr.toRoom.mono (by decide)) T.xb_TooMany tk T.gx_TooMany (sa_cons (sv 0) sa_nil))) sa_nil))) (sa_cons (sv 0) sa_nil))))) (ss_one (ss_ret se_bl)) ss_nil)
    (ss_cons (ss_set (i := 2) sc__law_fields_right.nd rfl (by first | exact Or.inl rfl | exact Or.inr rfl) (se_lst (sa_cons (se_mkX xbV_ok (c := 7) T.x_BadPerson (ok_x_BadPerson T) (hr.toRoom.mono (by decide)) T.xb_BadPerson tk T.gx_BadPerson (sa_cons (sv 0) sa_nil)) (sa_cons (se_mkX xbV_ok (c := 8) T.x_BadPromise (ok_x_BadPromise T) (hr.toRoom.mono (by decide)) T.xb_BadPromise tk T.gx_BadPromise (sa_cons (sv 0) sa_nil)) (sa_cons (se_mkX xbV_ok (c := 9) T.x_BadMay (ok_x_BadMay T) (hr.toRoom.mono (by decide)) T.xb_BadMay tk T.gx_BadMay (sa_cons (sv 0) sa_nil)) (sa_cons (se_mkX xbV_ok (c := 10) T.x_BadAbsent (ok_x_BadAbsent T) (hr.toRoom.mono (by decide)) T.xb_BadAbsent tk T.gx_BadAbsent (sa_cons (sv 0) sa_nil)) (sa_cons (se_mkX xbV_ok (c := 11) T.x_BadWhat (ok_x_BadWhat T) (hr.toRoom.mono (by decide)) T.xb_BadWhat tk T.gx_BadWhat (sa_cons (sv 0) sa_nil)) (sa_cons (se_mkX xbV_ok (c := 12) T.x_BadEvent (ok_x_BadEvent T) (hr.toRoom.mono (by decide)) T.xb_BadEvent tk T.gx_BadEvent (sa_cons (sv 0) sa_nil)) sa_nil))))))))
    (ss_cons (ss_set (i := 2) sc__law_fields_right.nd rfl (by first | exact Or.inl rfl | exact Or.inr rfl) (se_op o_add w_add (sv 2) (se_lst (sa_cons (se_mkX xbV_ok (c := 13) T.x_BadWord (ok_x_BadWord T) (hr.toRoom.mono (by decide)) T.xb_BadWord tk T.gx_BadWord (sa_cons (sv 0) sa_nil)) (sa_cons (se_mkX xbV_ok (c := 14) T.x_BadClaim (ok_x_BadClaim T) (hr.toRoom.mono (by decide)) T.xb_BadClaim tk T.gx_BadClaim (sa_cons (sv 0) sa_nil)) (sa_cons (se_mkX xbV_ok (c := 15) T.x_Broken (ok_x_Broken T) (hr.toRoom.mono (by decide)) T.xb_Broken tk T.gx_Broken (sa_cons (sv 0) sa_nil)) (sa_cons (se_mkX xbV_ok (c := 16) T.x_Parts (ok_x_Parts T) (hr.toRoom.mono (by decide)) T.xb_Parts tk T.gx_Parts (sa_cons (sv 0) sa_nil)) (sa_cons (se_mkX xbK_ok (c := 18) T.x_Missing (ok_x_Missing T) (hr.toRoom.mono (by decide)) T.xb_Missing tk T.gx_Missing (sa_cons (sv 0) sa_nil)) sa_nil))))))))
    (ss_cons (ss_if (st_not (st_val (se_call (ok__law_all_are T) (hr.mono (by decide)) T.f__law_all_are.g T.f__law_all_are.F.kp T.f__law_all_are.b tk (sa_cons (se_fz (se_lc (own := [("_law_one", 4)]) rfl sc__law_fields_right.nd (si_seq (sv 2)) (blkOk_by (N := N__law_fields_right) (sc := defScope st__law_fields_right) (by decide +kernel)) (by decide) (fun _ _ _ _ _ => (sg_name (pg_name (i := 4) sc__law_fields_right.nd rfl (by first | exact Or.inl rfl | exact Or.inr rfl)))) (fun _ _ _ _ _ => stc_nil) (fun _ _ _ _ _ => (se_xk T.xk_given (sv 4))))) (sa_cons (sv 0) sa_nil))))) (ss_one (ss_ret se_bl)) ss_nil)
    (ss_cons (ss_set (i := 3) sc__law_fields_right.nd rfl (by first | exact Or.inl rfl | exact Or.inr rfl) (se_mkX xbV_ok (c := 2) T.x_BadText (ok_x_BadText T) (hr.toRoom.mono (by decide)) T.xb_BadText tk T.gx_BadText (sa_cons (sv 0) (sa_cons (sv 1) sa_nil))))
    (ss_one (ss_ret (se_cmp op_eq w_eqS (se_cb (cr_reprX T.sm (hu65 hr) hr.g) w_reprX T.m_repr (by decide +kernel) (sa_cons (se_tup (sa_cons (se_xk T.xk_line (sv 3)) (sa_cons (se_xk T.xk_place (sv 3)) sa_nil))) sa_nil)) (se_cb (cr_reprX T.sm (hu65 hr) hr.g) w_reprX T.m_repr (by decide +kernel) (sa_cons (se_tup (sa_cons (sv 0) (sa_cons (sv 1) sa_nil))) sa_nil)) rfl))))))))))
theorem sc__law_made : FnScope N__law_made [] (defScope st__law_made) := ⟨rfl, rfl, rfl, by decide +kernel, rfl, by decide +kernel, by decide +kernel⟩
theorem ok__law_made (T : Txt P w K mg) : FnG P w K mg base 3 (He.ga K "_law_made") T.fd__law_made [] (spOf K (cl K) 0 r__law_made) := by
  refine fn_ok (N := N__law_made) (d := d__law_made) T.f__law_made.F sc__law_made rfl fun cdv A outer s H E hr => ?_
  have tk := takes_of (X := cxOf (L2.CX P w) P w K mg base N__law_made "_law_made" (defScope st__law_made) (He.ga K "_law_made") cdv A outer s H E) (E := E) rfl rfl rfl rfl
  exact (ss_cons (ss_set (i := 0) sc__law_made.nd rfl (by first | exact Or.inl rfl | exact Or.inr rfl) (se_lst (sa_cons (se_mkX xbV_ok (c := 1) T.x_BadRule (ok_x_BadRule T) (hr.toRoom.mono (by decide)) T.xb_BadRule tk T.gx_BadRule (sa_cons se_int sa_nil)) (sa_cons (se_mkX xbV_ok (c := 3) T.x_BadEvents (ok_x_BadEvents T) (hr.toRoom.mono (by decide)) T.xb_BadEvents tk T.gx_BadEvents (sa_cons se_int sa_nil)) (sa_cons (se_mkX xbV_ok (c := 4) T.x_BadJournal (ok_x_BadJournal T) (hr.toRoom.mono (by decide)) T.xb_BadJournal tk T.gx_BadJournal (sa_cons se_int sa_nil)) (sa_cons (se_mkX xbV_ok (c := 5) T.x_BadPeople (ok_x_BadPeople T) (hr.toRoom.mono (by decide)) T.xb_BadPeople tk T.gx_BadPeople (sa_cons se_int sa_nil)) (sa_cons (se_mkX xbV_ok (c := 6) T.x_BadPaper (ok_x_BadPaper T) (hr.toRoom.mono (by decide)) T.xb_BadPaper tk T.gx_BadPaper (sa_cons se_str sa_nil)) (sa_cons (se_mkX xbV_ok (c := 7) T.x_BadPerson (ok_x_BadPerson T) (hr.toRoom.mono (by decide)) T.xb_BadPerson tk T.gx_BadPerson (sa_cons se_int sa_nil)) (sa_cons (se_mkX xbV_ok (c := 8) T.x_BadPromise (ok_x_BadPromise T) (hr.toRoom.mono (by decide)) T.xb_BadPromise tk T.gx_BadPromise (sa_cons se_int sa_nil)) sa_nil)))))))))
    (ss_cons (ss_set (i := 0) sc__law_made.nd rfl (by first | exact Or.inl rfl | exact Or.inr rfl) (se_op o_add w_add (sv 0) (se_lst (sa_cons (se_mkX xbV_ok (c := 9) T.x_BadMay (ok_x_BadMay T) (hr.toRoom.mono (by decide)) T.xb_BadMay tk T.gx_BadMay (sa_cons se_int sa_nil)) (sa_cons (se_mkX xbV_ok (c := 10) T.x_BadAbsent (ok_x_BadAbsent T) (hr.toRoom.mono (by decide)) T.xb_BadAbsent tk T.gx_BadAbsent (sa_cons se_int sa_nil)) (sa_cons (se_mkX xbV_ok (c := 11) T.x_BadWhat (ok_x_BadWhat T) (hr.toRoom.mono (by decide)) T.xb_BadWhat tk T.gx_BadWhat (sa_cons se_int sa_nil)) (sa_cons (se_mkX xbV_ok (c := 12) T.x_BadEvent (ok_x_BadEvent T) (hr.toRoom.mono (by decide)) T.xb_BadEvent tk T.gx_BadEvent (sa_cons se_int sa_nil)) (sa_cons (se_mkX xbV_ok (c := 13) T.x_BadWord (ok_x_BadWord T) (hr.toRoom.mono (by decide)) T.xb_BadWord tk T.gx_BadWord (sa_cons se_int sa_nil)) (sa_cons (se_mkX xbV_ok (c := 14) T.x_BadClaim (ok_x_BadClaim T) (hr.toRoom.mono (by decide)) T.xb_BadClaim tk T.gx_BadClaim (sa_cons se_int sa_nil)) (sa_cons (se_mkX xbV_ok (c := 15) T.x_Broken (ok_x_Broken T) (hr.toRoom.mono (by decide)) T.xb_Broken tk T.gx_Broken (sa_cons se_int sa_nil)) (sa_cons (se_mkX xbV_ok (c := 16) T.x_Parts (ok_x_Parts T) (hr.toRoom.mono (by decide)) T.xb_Parts tk T.gx_Parts (sa_cons se_int sa_nil)) sa_nil)))))))))))
    (ss_one (ss_ret (se_op o_add w_add (sv 0) (se_lst (sa_cons (se_mkX xbV_ok (c := 2) T.x_BadText (ok_x_BadText T) (hr.toRoom.mono (by decide)) T.xb_BadText tk T.gx_BadText (sa_cons se_int (sa_cons se_int sa_nil))) sa_nil)))))))
theorem sc__law_kinds_of : FnScope N__law_kinds_of ["_law_one"] (defScope st__law_kinds_of) := ⟨rfl, rfl, rfl, by decide +kernel, rfl, by decide +kernel, by decide +kernel⟩
theorem ok__law_kinds_of (T : Txt P w K mg) : FnG P w K mg base 1 (He.ga K "_law_kinds_of") T.fd__law_kinds_of ["_law_one"] (spOf K (cl K) 1 r__law_kinds_of) := by
  refine fn_ok (N := N__law_kinds_of) (d := d__law_kinds_of) T.f__law_kinds_of.F sc__law_kinds_of rfl fun cdv A outer s H E hr => ?_
  have tk := takes_of (X := cxOf (L2.CX P w) P w K mg base N__law_kinds_of "_law_kinds_of" (defScope st__law_kinds_of) (He.ga K "_law_kinds_of") cdv A outer s H E) (E := E) rfl rfl rfl rfl
  exact (ss_cons (ss_set (i := 1) sc__law_kinds_of.nd rfl (by first | exact Or.inl rfl | exact Or.inr rfl) (se_lstM (sa_cons (se_isx (c := 1) (l := l_BadRule) T.m_isinstance T.gx_BadRule T.is_BadRule (sv 0)) (sa_cons (se_isx (c := 3) (l := l_BadEvents) T.m_isinstance T.gx_BadEvents T.is_BadEvents (sv 0)) (sa_cons (se_isx (c := 4) (l := l_BadJournal) T.m_isinstance T.gx_BadJournal T.is_BadJournal (sv 0)) sa_nil)))))
    (ss_cons (ss_set (i := 1) sc__law_kinds_of.nd rfl (by first | exact Or.inl rfl | exact Or.inr rfl) (se_nw (sn_addL (sv 1) (se_lst (sa_cons (se_isx (c := 5) (l := l_BadPeople) T.m_isinstance T.gx_BadPeople T.is_BadPeople (sv 0)) (sa_cons (se_isx (c := 6) (l := l_BadPaper) T.m_isinstance T.gx_BadPaper T.is_BadPaper (sv 0)) (sa_cons (se_isx (c := 7) (l := l_BadPerson) T.m_isinstance T.gx_BadPerson T.is_BadPerson (sv 0)) sa_nil)))))))
    (ss_cons (ss_expr (se_app (sv 1) (se_isx (c := 8) (l := l_BadPromise) T.m_isinstance T.gx_BadPromise T.is_BadPromise (sv 0))))
    (ss_cons (ss_set (i := 1) sc__law_kinds_of.nd rfl (by first | exact Or.inl rfl | exact Or.inr rfl) (se_nw (sn_addL (sv 1) (se_lst (sa_cons (se_isx (c := 9) (l := l_BadMay) T.m_isinstance T.gx_BadMay T.is_BadMay (sv 0)) (sa_cons (se_isx (c := 10) (l := l_BadAbsent) T.m_isinstance T.gx_BadAbsent T.is_BadAbsent (sv 0)) (sa_cons (se_isx (c := 11) (l := l_BadWhat) T.m_isinstance T.gx_BadWhat T.is_BadWhat (sv 0)) sa_nil)))))))
    (ss_cons (ss_set (i := 1) sc__law_kinds_of.nd rfl (by first | exact Or.inl rfl | exact Or.inr rfl) (se_nw (sn_addL (sv 1) (se_lst (sa_cons (se_isx (c := 12) (l := l_BadEvent) T.m_isinstance T.gx_BadEvent T.is_BadEvent (sv 0)) (sa_cons (se_isx (c := 13) (l := l_BadWord) T.m_isinstance T.gx_BadWord T.is_BadWord (sv 0)) (sa_cons (se_isx (c := 14) (l := l_BadClaim) T.m_isinstance T.gx_BadClaim T.is_BadClaim (sv 0)) sa_nil)))))))
    (ss_one (ss_ret (se_op o_add w_add (sv 1) (se_lst (sa_cons (se_isx (c := 15) (l := l_Broken) T.m_isinstance T.gx_Broken T.is_Broken (sv 0)) (sa_cons (se_isx (c := 16) (l := l_Parts) T.m_isinstance T.gx_Parts T.is_Parts (sv 0)) (sa_cons (se_isx (c := 2) (l := l_BadText) T.m_isinstance T.gx_BadText T.is_BadText (sv 0)) sa_nil))))))))))))
theorem sc__law_classes_right : FnScope N__law_classes_right [] (defScope st__law_classes_right) := ⟨rfl, rfl, rfl, by decide +kernel, rfl, by decide +kernel, by decide +kernel⟩
theorem ok__law_classes_right (T : Txt P w K mg) : FnG P w K mg base 4 (He.ga K "_law_classes_right") T.fd__law_classes_right [] (spOf K (cl K) 0 r__law_classes_right) := by
  refine fn_pw (fn_ok (N := N__law_classes_right) (d := d__law_classes_right) T.f__law_classes_right.F sc__law_classes_right rfl fun cdv A outer s H E hr => ?_)
  have tk := takes_of (X := cxOf (L2.CX P w) P w K mg base N__law_classes_right "_law_classes_right" (defScope st__law_classes_right) (He.ga K "_law_classes_right") cdv A outer s H E) (E := E) rfl rfl rfl rfl
  exact (ss_cons (ss_for (passes_of rfl) rfl (si_enum T.m_enumerate (se_call0 (ok__law_made T) (hr.mono (by decide)) T.f__law_made.g T.f__law_made.F.kp T.f__law_made.b tk)) (sg_tup rfl (sgs_cons (sg_name (pg_name (i := 0) sc__law_classes_right.nd rfl (by first | exact Or.inl rfl | exact Or.inr rfl))) (sgs_cons (sg_name (pg_name (i := 1) sc__law_classes_right.nd rfl (by first | exact Or.inl rfl | exact Or.inr rfl))) sgs_nil)) (gsCons_len (gsCons_len gsNil_len))) (ss_cons (ss_if (PW.pt (sw_or (st_not (st_val (se_isx (c := 0) (l := l_AskError) T.m_isinstance T.gx_AskError T.is_AskError (sv 1)))) (sw_or (st_not (st_val (se_isxB (l := lb_ValueError) (tn := "ValueError") T.m_isinstance T.m_ValueError (by decide +kernel) T.ib_ValueError (sv 1)))) (sw_or1 (st_val (se_isxT (l := lt_TooMany_Missing) (cs := [17, 18]) T.m_isinstance (pa_cls (c := cl K 17) (t := fun _ _ _ => True) T.gx_TooMany rfl rfl (pa_cls (c := cl K 18) (t := fun _ _ _ => True) T.gx_Missing rfl rfl (pa_nil.imp fun _ _ _ q => q) rfl) rfl) T.ist_TooMany_Missing (sv 1))))))) (ss_one (ss_ret se_bl)) ss_nil)
    (ss_one (ss_if (st_cmp (op_neD hr.units) w_ne (se_call (ok__law_kinds_of T) (hr.mono (by decide)) T.f__law_kinds_of.g T.f__law_kinds_of.F.kp T.f__law_kinds_of.b tk (sa_cons (sv 1) sa_nil)) (se_fz (se_lc (own := [("_law_j", 4)]) rfl sc__law_classes_right.nd (si_rng1 T.m_range (sa_cons se_int sa_nil) a1_len) (blkOk_by (N := N__law_classes_right) (sc := defScope st__law_classes_right) (by decide +kernel)) (by decide) (fun _ _ _ _ _ => (sg_name (pg_name (i := 4) sc__law_classes_right.nd rfl (by first | exact Or.inl rfl | exact Or.inr rfl)))) (fun _ _ _ _ _ => stc_nil) (fun _ _ _ _ _ => (se_cmp (op_eqD hr.units) w_eq (sv 4) (sv 0) rfl)))) rfl) (ss_one (ss_ret se_bl)) ss_nil))))
    (ss_cons (ss_par (i := 2) (j := 3) rfl sc__law_classes_right.nd rfl rfl (by decide) rfl rfl (sa_cons (se_mkX xbO_ok (c := 17) T.x_TooMany (ok_x_TooMany T) (hr.toRoom.mono (by decide)) T.xb_TooMany tk T.gx_TooMany (sa_cons se_int sa_nil)) (sa_cons (se_mkX xbK_ok (c := 18) T.x_Missing (ok_x_Missing T) (hr.toRoom.mono (by decide)) T.xb_Missing tk T.gx_Missing (sa_cons se_str sa_nil)) sa_nil)) rfl)
    (ss_cons (ss_if (PW.pt (sw_or (st_not (st_val (se_isxB (l := lb_OverflowError) (tn := "OverflowError") T.m_isinstance T.m_OverflowError (by decide +kernel) T.ib_OverflowError (sv 2)))) (sw_or1 (st_val (se_isxT (l := lt_AskError_Missing) (cs := [0, 18]) T.m_isinstance (pa_cls (c := cl K 0) (t := fun _ _ _ => True) T.gx_AskError rfl rfl (pa_cls (c := cl K 18) (t := fun _ _ _ => True) T.gx_Missing rfl rfl (pa_nil.imp fun _ _ _ q => q) rfl) rfl) T.ist_AskError_Missing (sv 2)))))) (ss_one (ss_ret se_bl)) ss_nil)
    (ss_one (ss_ret (se_and (se_isxB (l := lb_KeyError) (tn := "KeyError") T.m_isinstance T.m_KeyError (by decide +kernel) T.ib_KeyError (sv 3)) (se_one (se_not (se_isxT (l := lt_AskError_TooMany) (cs := [0, 17]) T.m_isinstance (pa_cls (c := cl K 0) (t := fun _ _ _ => True) T.gx_AskError rfl rfl (pa_cls (c := cl K 17) (t := fun _ _ _ => True) T.gx_TooMany rfl rfl (pa_nil.imp fun _ _ _ q => q) rfl) rfl) T.ist_AskError_TooMany (sv 3))))))))))
theorem sc_law : FnScope N_law ["_law_script"] (defScope st_law) := ⟨rfl, rfl, rfl, by decide +kernel, rfl, by decide +kernel, by decide +kernel⟩
theorem ok_law (T : Txt P w K mg) : FnG P w K mg base 5 (He.ga K "law") T.fd_law ["_law_script"] (spOf K (cl K) 1 r_law) := by
  refine fn_ok (N := N_law) (d := d_law) T.f_law.F sc_law rfl fun cdv A outer s H E hr => ?_
  have tk := takes_of (X := cxOf (L2.CX P w) P w K mg base N_law "law" (defScope st_law) (He.ga K "law") cdv A outer s H E) (E := E) rfl rfl rfl rfl
  exact (ss_cons (ss_set (i := 1) sc_law.nd rfl (by first | exact Or.inl rfl | exact Or.inr rfl) (se_call (ok__law_begin T) (hr.mono (by decide)) T.f__law_begin.g T.f__law_begin.F.kp T.f__law_begin.b tk (sa_cons (sv 0) sa_nil)))
    (ss_cons (ss_for (passes_of rfl) rfl (si_rng1 T.m_range (sa_cons se_int sa_nil) a1_len) (sg_name (pg_name (i := 2) sc_law.nd rfl (by first | exact Or.inl rfl | exact Or.inr rfl))) (ss_cons (ss_asg (se_call (ok__law_things T) (hr.mono (by decide)) T.f__law_things.g T.f__law_things.F.kp T.f__law_things.b tk (sa_cons (sv 1) sa_nil)) (sg_unl rfl (sgs_cons (sg_name (pg_name (i := 3) sc_law.nd rfl (by first | exact Or.inl rfl | exact Or.inr rfl))) (sgs_cons (sg_name (pg_name (i := 4) sc_law.nd rfl (by first | exact Or.inl rfl | exact Or.inr rfl))) sgs_nil)) (gsCons_len (gsCons_len gsNil_len))))
    (ss_one (ss_if (st_not (st_val (se_call (ok__law_fields_right T) (hr.mono (by decide)) T.f__law_fields_right.g T.f__law_fields_right.F.kp T.f__law_fields_right.b tk (sa_cons (sv 3) (sa_cons (sv 4) sa_nil))))) (ss_one (ss_ret se_bl)) ss_nil))))
    (ss_one (ss_ret (se_call0 (ok__law_classes_right T) (hr.mono (by decide)) T.f__law_classes_right.g T.f__law_classes_right.F.kp T.f__law_classes_right.b tk)))))
end
theorem facts {P : Program} {w : World} {K : PySem.W.Frag} {h : Heap} {mg : Str → Option Value} {f : Addr} (X : K.In h) (G : h.Ns mainGlobals mg) (hfa : mg ("law" : Str) = some (.ref f)) (c : SaysEX fa fn ex tb xl w K) (hfile : P.main.file = fileS) (htop : (P.main.scope.names.lookup ("super" : Str)).isSome = false) :
    ∃ fd : FuncData, (∀ (s : Shared) (v : Value), BindsTo s fd ⟨[v], []⟩ [("_law_script", v)]) ∧ ∀ base : Heap, K.In base → base.Ns mainGlobals mg → FnG P w K mg base 5 f fd ["_law_script"] (spOf K (cl K) 1 r_law) := by
  obtain ⟨fd__law_mixed, F__law_mixed⟩ := c.d.def_ 0 (d := dd__law_mixed) rfl
  have g__law_mixed := He.glo_ok X G (c.d.fact 0 (f := .glo "_law_mixed") rfl)
  have b__law_mixed := FunD.bindsN (ps := ["_law_cell", "_law_k"]) F__law_mixed fun _ _ _ _ _ _ us hl => match us, hl with | [_, _], _ => rfl
  obtain ⟨fd__law_begin, F__law_begin⟩ := c.d.def_ 1 (d := dd__law_begin) rfl
  have g__law_begin := He.glo_ok X G (c.d.fact 1 (f := .glo "_law_begin") rfl)
  have b__law_begin := FunD.bindsN (ps := ["_law_script"]) F__law_begin fun _ _ _ _ _ _ us hl => match us, hl with | [_], _ => rfl
  obtain ⟨fd__law_draw, F__law_draw⟩ := c.d.def_ 2 (d := dd__law_draw) rfl
  have g__law_draw := He.glo_ok X G (c.d.fact 2 (f := .glo "_law_draw") rfl)
  have b__law_draw := FunD.bindsN (ps := ["_law_state", "_law_many"]) F__law_draw fun _ _ _ _ _ _ us hl => match us, hl with | [_, _], _ => rfl
  obtain ⟨fd__law_things, F__law_things⟩ := c.d.def_ 3 (d := dd__law_things) rfl
  have g__law_things := He.glo_ok X G (c.d.fact 3 (f := .glo "_law_things") rfl)
  have b__law_things := FunD.bindsN (ps := ["_law_state"]) F__law_things fun _ _ _ _ _ _ us hl => match us, hl with | [_], _ => rfl
  obtain ⟨fd__law_all_are, F__law_all_are⟩ := c.d.def_ 4 (d := dd__law_all_are) rfl
  have g__law_all_are := He.glo_ok X G (c.d.fact 4 (f := .glo "_law_all_are") rfl)
  have b__law_all_are := FunD.bindsN (ps := ["_law_found", "_law_thing"]) F__law_all_are fun _ _ _ _ _ _ us hl => match us, hl with | [_, _], _ => rfl
  obtain ⟨fd__law_fields_right, F__law_fields_right⟩ := c.d.def_ 5 (d := dd__law_fields_right) rfl
  have g__law_fields_right := He.glo_ok X G (c.d.fact 5 (f := .glo "_law_fields_right") rfl)
  have b__law_fields_right := FunD.bindsN (ps := ["_law_thing", "_law_other"]) F__law_fields_right fun _ _ _ _ _ _ us hl => match us, hl with | [_, _], _ => rfl
  obtain ⟨fd__law_made, F__law_made⟩ := c.d.def_ 6 (d := dd__law_made) rfl
  have g__law_made := He.glo_ok X G (c.d.fact 6 (f := .glo "_law_made") rfl)
  have b__law_made := FunD.bindsN (ps := []) F__law_made fun _ _ _ _ _ _ us hl => match us, hl with | [], _ => rfl
  obtain ⟨fd__law_kinds_of, F__law_kinds_of⟩ := c.d.def_ 7 (d := dd__law_kinds_of) rfl
  have g__law_kinds_of := He.glo_ok X G (c.d.fact 7 (f := .glo "_law_kinds_of") rfl)
  have b__law_kinds_of := FunD.bindsN (ps := ["_law_one"]) F__law_kinds_of fun _ _ _ _ _ _ us hl => match us, hl with | [_], _ => rfl
  obtain ⟨fd__law_classes_right, F__law_classes_right⟩ := c.d.def_ 8 (d := dd__law_classes_right) rfl
  have g__law_classes_right := He.glo_ok X G (c.d.fact 8 (f := .glo "_law_classes_right") rfl)
  have b__law_classes_right := FunD.bindsN (ps := []) F__law_classes_right fun _ _ _ _ _ _ us hl => match us, hl with | [], _ => rfl
  obtain ⟨fd_law, F_law⟩ := c.d.def_ 9 (d := dd_law) rfl
  have g_law := He.glo_ok X G (c.d.fact 9 (f := .glo "law") rfl)
  have b_law := FunD.bindsN (ps := ["_law_script"]) F_law fun _ _ _ _ _ _ us hl => match us, hl with | [_], _ => rfl
  obtain ⟨fdx_BadRule, X_BadRule⟩ := XD.clsG (P := P) (c.xat 0 (d := xd_BadRule) rfl) (by rw [hfile]; exact allB_at c.e 0 rfl)
  obtain ⟨fdx_BadText, X_BadText⟩ := XD.clsG (P := P) (c.xat 1 (d := xd_BadText) rfl) (by rw [hfile]; exact allB_at c.e 2 rfl)
  obtain ⟨fdx_BadEvents, X_BadEvents⟩ := XD.clsG (P := P) (c.xat 2 (d := xd_BadEvents) rfl) (by rw [hfile]; exact allB_at c.e 5 rfl)
  obtain ⟨fdx_BadJournal, X_BadJournal⟩ := XD.clsG (P := P) (c.xat 3 (d := xd_BadJournal) rfl) (by rw [hfile]; exact allB_at c.e 7 rfl)
  obtain ⟨fdx_BadPeople, X_BadPeople⟩ := XD.clsG (P := P) (c.xat 4 (d := xd_BadPeople) rfl) (by rw [hfile]; exact allB_at c.e 9 rfl)
  obtain ⟨fdx_BadPaper, X_BadPaper⟩ := XD.clsG (P := P) (c.xat 5 (d := xd_BadPaper) rfl) (by rw [hfile]; exact allB_at c.e 11 rfl)
  obtain ⟨fdx_BadPerson, X_BadPerson⟩ := XD.clsG (P := P) (c.xat 6 (d := xd_BadPerson) rfl) (by rw [hfile]; exact allB_at c.e 13 rfl)
  obtain ⟨fdx_BadPromise, X_BadPromise⟩ := XD.clsG (P := P) (c.xat 7 (d := xd_BadPromise) rfl) (by rw [hfile]; exact allB_at c.e 15 rfl)
  obtain ⟨fdx_BadMay, X_BadMay⟩ := XD.clsG (P := P) (c.xat 8 (d := xd_BadMay) rfl) (by rw [hfile]; exact allB_at c.e 17 rfl)
  obtain ⟨fdx_BadAbsent, X_BadAbsent⟩ := XD.clsG (P := P) (c.xat 9 (d := xd_BadAbsent) rfl) (by rw [hfile]; exact allB_at c.e 19 rfl)
  obtain ⟨fdx_BadWhat, X_BadWhat⟩ := XD.clsG (P := P) (c.xat 10 (d := xd_BadWhat) rfl) (by rw [hfile]; exact allB_at c.e 21 rfl)
  obtain ⟨fdx_BadEvent, X_BadEvent⟩ := XD.clsG (P := P) (c.xat 11 (d := xd_BadEvent) rfl) (by rw [hfile]; exact allB_at c.e 23 rfl)
  obtain ⟨fdx_BadWord, X_BadWord⟩ := XD.clsG (P := P) (c.xat 12 (d := xd_BadWord) rfl) (by rw [hfile]; exact allB_at c.e 25 rfl)
  obtain ⟨fdx_BadClaim, X_BadClaim⟩ := XD.clsG (P := P) (c.xat 13 (d := xd_BadClaim) rfl) (by rw [hfile]; exact allB_at c.e 27 rfl)
  obtain ⟨fdx_Broken, X_Broken⟩ := XD.clsG (P := P) (c.xat 14 (d := xd_Broken) rfl) (by rw [hfile]; exact allB_at c.e 29 rfl)
  obtain ⟨fdx_Parts, X_Parts⟩ := XD.clsG (P := P) (c.xat 15 (d := xd_Parts) rfl) (by rw [hfile]; exact allB_at c.e 31 rfl)
  obtain ⟨fdx_TooMany, X_TooMany⟩ := XD.clsG (P := P) (c.xat 16 (d := xd_TooMany) rfl) (by rw [hfile]; exact allB_at c.e 33 rfl)
  obtain ⟨fdx_Missing, X_Missing⟩ := XD.clsG (P := P) (c.xat 17 (d := xd_Missing) rfl) (by rw [hfile]; exact allB_at c.e 35 rfl)
  let T : Txt P w K mg := {
    m_KeyError := He.free_ok X G (c.d.fact 10 (f := .free "KeyError") rfl)
    m_OverflowError := He.free_ok X G (c.d.fact 11 (f := .free "OverflowError") rfl)
    m_ValueError := He.free_ok X G (c.d.fact 12 (f := .free "ValueError") rfl)
    m_enumerate := He.free_ok X G (c.d.fact 13 (f := .free "enumerate") rfl)
    m_int := He.free_ok X G (c.d.fact 14 (f := .free "int") rfl)
    m_isinstance := He.free_ok X G (c.d.fact 15 (f := .free "isinstance") rfl)
    m_len := He.free_ok X G (c.d.fact 16 (f := .free "len") rfl)
    m_list := He.free_ok X G (c.d.fact 17 (f := .free "list") rfl)
    m_range := He.free_ok X G (c.d.fact 18 (f := .free "range") rfl)
    m_repr := He.free_ok X G (c.d.fact 19 (f := .free "repr") rfl)
    m_super := He.free_ok X G (c.d.fact 20 (f := .free "super") rfl)
    htop := htop
    gx_AskError := He.glo_ok X G (c.d.fact 21 (f := .glo "AskError") rfl)
    gx_BadRule := He.glo_ok X G (c.d.fact 22 (f := .glo "BadRule") rfl)
    gx_BadText := He.glo_ok X G (c.d.fact 23 (f := .glo "BadText") rfl)
    gx_BadEvents := He.glo_ok X G (c.d.fact 24 (f := .glo "BadEvents") rfl)
    gx_BadJournal := He.glo_ok X G (c.d.fact 25 (f := .glo "BadJournal") rfl)
    gx_BadPeople := He.glo_ok X G (c.d.fact 26 (f := .glo "BadPeople") rfl)
    gx_BadPaper := He.glo_ok X G (c.d.fact 27 (f := .glo "BadPaper") rfl)
    gx_BadPerson := He.glo_ok X G (c.d.fact 28 (f := .glo "BadPerson") rfl)
    gx_BadPromise := He.glo_ok X G (c.d.fact 29 (f := .glo "BadPromise") rfl)
    gx_BadMay := He.glo_ok X G (c.d.fact 30 (f := .glo "BadMay") rfl)
    gx_BadAbsent := He.glo_ok X G (c.d.fact 31 (f := .glo "BadAbsent") rfl)
    gx_BadWhat := He.glo_ok X G (c.d.fact 32 (f := .glo "BadWhat") rfl)
    gx_BadEvent := He.glo_ok X G (c.d.fact 33 (f := .glo "BadEvent") rfl)
    gx_BadWord := He.glo_ok X G (c.d.fact 34 (f := .glo "BadWord") rfl)
    gx_BadClaim := He.glo_ok X G (c.d.fact 35 (f := .glo "BadClaim") rfl)
    gx_Broken := He.glo_ok X G (c.d.fact 36 (f := .glo "Broken") rfl)
    gx_Parts := He.glo_ok X G (c.d.fact 37 (f := .glo "Parts") rfl)
    gx_TooMany := He.glo_ok X G (c.d.fact 38 (f := .glo "TooMany") rfl)
    gx_Missing := He.glo_ok X G (c.d.fact 39 (f := .glo "Missing") rfl)
    fdx_BadRule := fdx_BadRule
    x_BadRule := X_BadRule
    xb_BadRule := X_BadRule.binds fun _ _ _ _ _ _ _ us hl => match us, hl with | [_, _], _ => rfl
    nf_BadRule_place := of_decide_eq_true (allB_at c.e 1 rfl)
    fdx_BadText := fdx_BadText
    x_BadText := X_BadText
    xb_BadText := X_BadText.binds fun _ _ _ _ _ _ _ us hl => match us, hl with | [_, _, _], _ => rfl
    nf_BadText_line := of_decide_eq_true (allB_at c.e 3 rfl)
    nf_BadText_place := of_decide_eq_true (allB_at c.e 4 rfl)
    fdx_BadEvents := fdx_BadEvents
    x_BadEvents := X_BadEvents
    xb_BadEvents := X_BadEvents.binds fun _ _ _ _ _ _ _ us hl => match us, hl with | [_, _], _ => rfl
    nf_BadEvents_number := of_decide_eq_true (allB_at c.e 6 rfl)
    fdx_BadJournal := fdx_BadJournal
    x_BadJournal := X_BadJournal
    xb_BadJournal := X_BadJournal.binds fun _ _ _ _ _ _ _ us hl => match us, hl with | [_, _], _ => rfl
    nf_BadJournal_number := of_decide_eq_true (allB_at c.e 8 rfl)
    fdx_BadPeople := fdx_BadPeople
    x_BadPeople := X_BadPeople
    xb_BadPeople := X_BadPeople.binds fun _ _ _ _ _ _ _ us hl => match us, hl with | [_, _], _ => rfl
    nf_BadPeople_number := of_decide_eq_true (allB_at c.e 10 rfl)
    fdx_BadPaper := fdx_BadPaper
    x_BadPaper := X_BadPaper
    xb_BadPaper := X_BadPaper.binds fun _ _ _ _ _ _ _ us hl => match us, hl with | [_, _], _ => rfl
    nf_BadPaper_part := of_decide_eq_true (allB_at c.e 12 rfl)
    fdx_BadPerson := fdx_BadPerson
    x_BadPerson := X_BadPerson
    xb_BadPerson := X_BadPerson.binds fun _ _ _ _ _ _ _ us hl => match us, hl with | [_, _], _ => rfl
    nf_BadPerson_given := of_decide_eq_true (allB_at c.e 14 rfl)
    fdx_BadPromise := fdx_BadPromise
    x_BadPromise := X_BadPromise
    xb_BadPromise := X_BadPromise.binds fun _ _ _ _ _ _ _ us hl => match us, hl with | [_, _], _ => rfl
    nf_BadPromise_given := of_decide_eq_true (allB_at c.e 16 rfl)
    fdx_BadMay := fdx_BadMay
    x_BadMay := X_BadMay
    xb_BadMay := X_BadMay.binds fun _ _ _ _ _ _ _ us hl => match us, hl with | [_, _], _ => rfl
    nf_BadMay_given := of_decide_eq_true (allB_at c.e 18 rfl)
    fdx_BadAbsent := fdx_BadAbsent
    x_BadAbsent := X_BadAbsent
    xb_BadAbsent := X_BadAbsent.binds fun _ _ _ _ _ _ _ us hl => match us, hl with | [_, _], _ => rfl
    nf_BadAbsent_given := of_decide_eq_true (allB_at c.e 20 rfl)
    fdx_BadWhat := fdx_BadWhat
    x_BadWhat := X_BadWhat
    xb_BadWhat := X_BadWhat.binds fun _ _ _ _ _ _ _ us hl => match us, hl with | [_, _], _ => rfl
    nf_BadWhat_given := of_decide_eq_true (allB_at c.e 22 rfl)
    fdx_BadEvent := fdx_BadEvent
    x_BadEvent := X_BadEvent
    xb_BadEvent := X_BadEvent.binds fun _ _ _ _ _ _ _ us hl => match us, hl with | [_, _], _ => rfl
    nf_BadEvent_given := of_decide_eq_true (allB_at c.e 24 rfl)
    fdx_BadWord := fdx_BadWord
    x_BadWord := X_BadWord
    xb_BadWord := X_BadWord.binds fun _ _ _ _ _ _ _ us hl => match us, hl with | [_, _], _ => rfl
    nf_BadWord_given := of_decide_eq_true (allB_at c.e 26 rfl)
    fdx_BadClaim := fdx_BadClaim
    x_BadClaim := X_BadClaim
    xb_BadClaim := X_BadClaim.binds fun _ _ _ _ _ _ _ us hl => match us, hl with | [_, _], _ => rfl
    nf_BadClaim_given := of_decide_eq_true (allB_at c.e 28 rfl)
    fdx_Broken := fdx_Broken
    x_Broken := X_Broken
    xb_Broken := X_Broken.binds fun _ _ _ _ _ _ _ us hl => match us, hl with | [_, _], _ => rfl
    nf_Broken_given := of_decide_eq_true (allB_at c.e 30 rfl)
    fdx_Parts := fdx_Parts
    x_Parts := X_Parts
    xb_Parts := X_Parts.binds fun _ _ _ _ _ _ _ us hl => match us, hl with | [_, _], _ => rfl
    nf_Parts_given := of_decide_eq_true (allB_at c.e 32 rfl)
    fdx_TooMany := fdx_TooMany
    x_TooMany := X_TooMany
    xb_TooMany := X_TooMany.binds fun _ _ _ _ _ _ _ us hl => match us, hl with | [_, _], _ => rfl
    nf_TooMany_most := of_decide_eq_true (allB_at c.e 34 rfl)
    fdx_Missing := fdx_Missing
    x_Missing := X_Missing
    xb_Missing := X_Missing.binds fun _ _ _ _ _ _ _ us hl => match us, hl with | [_, _], _ => rfl
    nf_Missing_given := of_decide_eq_true (allB_at c.e 36 rfl)
    mt_AskError := mtB_ok (allB_at c.e 37 rfl)
    mt_BadRule := mtB_ok (allB_at c.e 38 rfl)
    mt_BadText := mtB_ok (allB_at c.e 39 rfl)
    mt_BadEvents := mtB_ok (allB_at c.e 40 rfl)
    mt_BadJournal := mtB_ok (allB_at c.e 41 rfl)
    mt_BadPeople := mtB_ok (allB_at c.e 42 rfl)
    mt_BadPaper := mtB_ok (allB_at c.e 43 rfl)
    mt_BadPerson := mtB_ok (allB_at c.e 44 rfl)
    mt_BadPromise := mtB_ok (allB_at c.e 45 rfl)
    mt_BadMay := mtB_ok (allB_at c.e 46 rfl)
    mt_BadAbsent := mtB_ok (allB_at c.e 47 rfl)
    mt_BadWhat := mtB_ok (allB_at c.e 48 rfl)
    mt_BadEvent := mtB_ok (allB_at c.e 49 rfl)
    mt_BadWord := mtB_ok (allB_at c.e 50 rfl)
    mt_BadClaim := mtB_ok (allB_at c.e 51 rfl)
    mt_Broken := mtB_ok (allB_at c.e 52 rfl)
    mt_Parts := mtB_ok (allB_at c.e 53 rfl)
    is_AskError := isXB_ok (allB_at c.e 54 rfl)
    is_BadRule := isXB_ok (allB_at c.e 55 rfl)
    is_BadText := isXB_ok (allB_at c.e 56 rfl)
    is_BadEvents := isXB_ok (allB_at c.e 57 rfl)
    is_BadJournal := isXB_ok (allB_at c.e 58 rfl)
    is_BadPeople := isXB_ok (allB_at c.e 59 rfl)
    is_BadPaper := isXB_ok (allB_at c.e 60 rfl)
    is_BadPerson := isXB_ok (allB_at c.e 61 rfl)
    is_BadPromise := isXB_ok (allB_at c.e 62 rfl)
    is_BadMay := isXB_ok (allB_at c.e 63 rfl)
    is_BadAbsent := isXB_ok (allB_at c.e 64 rfl)
    is_BadWhat := isXB_ok (allB_at c.e 65 rfl)
    is_BadEvent := isXB_ok (allB_at c.e 66 rfl)
    is_BadWord := isXB_ok (allB_at c.e 67 rfl)
    is_BadClaim := isXB_ok (allB_at c.e 68 rfl)
    is_Broken := isXB_ok (allB_at c.e 69 rfl)
    is_Parts := isXB_ok (allB_at c.e 70 rfl)
    ist_AskError_Missing := isXTB_ok (allB_at c.e 81 rfl)
    ist_AskError_TooMany := isXTB_ok (allB_at c.e 82 rfl)
    ist_TooMany_Missing := isXTB_ok (allB_at c.e 83 rfl)
    ib_KeyError := isXB_ok (allB_at c.e 71 rfl)
    ib_OverflowError := isXB_ok (allB_at c.e 72 rfl)
    ib_ValueError := isXB_ok (allB_at c.e 73 rfl)
    sm := sysB_ok (allB_at c.e 74 rfl)
    xk_given := xkB_ok (allB_at c.e 75 rfl)
    xk_line := xkB_ok (allB_at c.e 76 rfl)
    xk_most := xkB_ok (allB_at c.e 77 rfl)
    xk_number := xkB_ok (allB_at c.e 78 rfl)
    xk_part := xkB_ok (allB_at c.e 79 rfl)
    xk_place := xkB_ok (allB_at c.e 80 rfl)
    fd__law_mixed := fd__law_mixed
    f__law_mixed := ⟨F__law_mixed, g__law_mixed, b__law_mixed⟩
    fd__law_begin := fd__law_begin
    f__law_begin := ⟨F__law_begin, g__law_begin, b__law_begin⟩
    fd__law_draw := fd__law_draw
    f__law_draw := ⟨F__law_draw, g__law_draw, b__law_draw⟩
    fd__law_things := fd__law_things
    f__law_things := ⟨F__law_things, g__law_things, b__law_things⟩
    fd__law_all_are := fd__law_all_are
    f__law_all_are := ⟨F__law_all_are, g__law_all_are, b__law_all_are⟩
    fd__law_fields_right := fd__law_fields_right
    f__law_fields_right := ⟨F__law_fields_right, g__law_fields_right, b__law_fields_right⟩
    fd__law_made := fd__law_made
    f__law_made := ⟨F__law_made, g__law_made, b__law_made⟩
    fd__law_kinds_of := fd__law_kinds_of
    f__law_kinds_of := ⟨F__law_kinds_of, g__law_kinds_of, b__law_kinds_of⟩
    fd__law_classes_right := fd__law_classes_right
    f__law_classes_right := ⟨F__law_classes_right, g__law_classes_right, b__law_classes_right⟩
    fd_law := fd_law
    f_law := ⟨F_law, g_law, b_law⟩ }
  have e := hfa.symm.trans g_law
  cases e
  have b := FunD.bindsA (ps := ["_law_script"]) F_law fun _ _ _ _ _ _ us hl => match us, hl with | [_], _ => rfl
  exact ⟨fd_law, fun s v => b s [v] rfl, fun base _ _ => ok_law T⟩
end L
/-! Q1: plain lemmas over denotations. -/
namespace Dn
open PySem PySem.Spec PyProof.Rows L2
/-! ### ground data, settling -/
mutual
theorem frzA_g (f : Nat → Option W) : ∀ w : W, gW w = true → frzA f w = some w
  | .non, _ => by simp [frzA]
  | .bl _, _ => by simp [frzA]
  | .int _, _ => by simp [frzA]
  | .str _, _ => by simp [frzA]
  | .tup xs, h => by
    rw [gW] at h
    simp [frzA, frzAs_g f xs h]
  | .lst xs, h => by
    rw [gW] at h
    simp [frzA, frzAs_g f xs h]
  | .old xs, h => by
    rw [gW] at h
    simp [frzA, frzAs_g f xs h]
  | .ref n, h => by simp [gW] at h
  | .raw _, _ => by simp [frzA]
theorem frzAs_g (f : Nat → Option W) : ∀ ws : List W, gWs ws = true → frzAs f ws = some ws
  | [], _ => by simp [frzAs]
  | w :: ws, h => by
    rw [gWs, Bool.and_eq_true_iff] at h
    simp [frzAs, frzA_g f w h.1, frzAs_g f ws h.2]
end
theorem frzW_g (m : Mem) (k : Nat) (w : W) (h : gW w = true) : frzW m k w = some w := frzA_g _ w h
theorem frzW_lst0 {m : Mem} {k n : Nat} {xs : List W} (h : m[n]? = some (.lst xs)) (g : gWs xs = true) : frzW m (k + 1) (.ref n) = some (.lst xs) := by
  rw [frzW, frzA]
  simp only [frzR, h, frzAs_g _ xs g, Option.map_some]
theorem pw_g {g : Fw} {ws : List W} {m m1 : Mem} {w : W} (h1 : gWs ws = true) (h2 : g ws [] = .ok w m1) (h3 : gW w = true) : pw g ws m = .ok w m := pw_ok h1 h2 (frzW_g m1 6 w h3)
theorem gWs_map {α : Type} {f : α → W} (h : ∀ x, gW (f x) = true) : ∀ l : List α, gWs (l.map f) = true
  | [] => rfl
  | x :: l => by rw [List.map_cons, gWs, h x, gWs_map h l]; rfl
theorem gWs_ints (l : List Int) : gWs (l.map .int) = true := gWs_map (fun _ => rfl) l
theorem gW_tup (xs : List W) : gW (.tup xs) = gWs xs := by rw [gW]
theorem gW_lst (xs : List W) : gW (.lst xs) = gWs xs := by rw [gW]
theorem gWs_cons (x : W) (xs : List W) : gWs (x :: xs) = (gW x && gWs xs) := by rw [gWs]
theorem gWs_nil : gWs [] = true := rfl
theorem gW_int (i : Int) : gW (.int i) = true := rfl
theorem gW_str (x : Str) : gW (.str x) = true := rfl
theorem gW_bl (b : Bool) : gW (.bl b) = true := rfl
theorem gW_non : gW .non = true := rfl
theorem gWs_append : ∀ xs ys : List W, gWs (xs ++ ys) = (gWs xs && gWs ys)
  | [], ys => by simp [gWs]
  | x :: xs, ys => by rw [List.cons_append, gWs, gWs_append xs ys, gWs, Bool.and_assoc]
/-! ### data that can be compared -/
theorem okWs_map {α : Type} {f : α → W} {n : Nat} (h : ∀ x, okW n (f x) = true) : ∀ l : List α, okWs n (l.map f) = true
  | [] => rfl
  | x :: l => by rw [List.map_cons, okWs, h x, okWs_map h l]; rfl
theorem okWs_int (n : Nat) (l : List Int) : okWs n (l.map .int) = true := okWs_map (fun _ => rfl) l
theorem okW_tup (n : Nat) (xs : List W) : okW (n + 1) (.tup xs) = okWs n xs := by rw [okW]
theorem okW_lst (n : Nat) (xs : List W) : okW (n + 1) (.lst xs) = okWs n xs := by rw [okW]
theorem okWs_append (n : Nat) : ∀ xs ys : List W, okWs n (xs ++ ys) = (okWs n xs && okWs n ys)
  | [], ys => by simp [okWs]
  | x :: xs, ys => by rw [List.cons_append, okWs, okWs_append n xs ys, okWs, Bool.and_assoc]
mutual
theorem eqW_refl : ∀ (n : Nat) (w : W), okW n w = true → eqW w w = true
  | _, .non, _ => rfl
  | _, .bl b, _ => by cases b <;> rfl
  | _, .int i, _ => by simp [eqW]
  | _, .str x, _ => by simp [eqW]
  | 0, .tup xs, h => by simp [okW] at h
  | n + 1, .tup xs, h => by rw [okW] at h; rw [eqW]; exact eqWs_refl n xs h
  | 0, .lst xs, h => by simp [okW] at h
  | n + 1, .lst xs, h => by rw [okW] at h; rw [eqW]; exact eqWs_refl n xs h
  | 0, .old xs, h => by simp [okW] at h
  | n + 1, .old xs, h => by rw [okW] at h; rw [eqW]; exact eqWs_refl n xs h
  | _, .ref _, h => by simp [okW] at h
  | _, .raw _, h => by simp [okW] at h
theorem eqWs_refl : ∀ (n : Nat) (ws : List W), okWs n ws = true → eqWs ws ws = true
  | _, [], _ => rfl
  | n, w :: ws, h => by
    rw [okWs, Bool.and_eq_true_iff] at h
    rw [eqWs, eqW_refl n w h.1, eqWs_refl n ws h.2]
    rfl
end
theorem rsv_ok {m : Mem} {n : Nat} {w : W} (h : okW n w = true) : rsv m w = w := by
  cases w <;> first | rfl | (simp [okW] at h)
theorem eqM_ok {m : Mem} {a b : W} (ha : okW 60 a = true) (hb : okW 60 b = true) : eqM m a b = some (.bl (eqW a b)) := by
  unfold eqM
  rw [rsv_ok ha, rsv_ok hb, ha, hb]
  rfl
theorem neM_ok {m : Mem} {a b : W} (ha : okW 60 a = true) (hb : okW 60 b = true) : neM m a b = some (.bl (!eqW a b)) := by
  unfold neM
  rw [rsv_ok ha, rsv_ok hb, ha, hb]
  rfl
theorem eqM_same {m : Mem} {a : W} (ha : okW 60 a = true) : eqM m a a = some (.bl true) := by rw [eqM_ok ha ha, eqW_refl 60 a ha]
theorem neM_same {m : Mem} {a : W} (ha : okW 60 a = true) : neM m a a = some (.bl false) := by rw [neM_ok ha ha, eqW_refl 60 a ha]; rfl
theorem eqM_int {m : Mem} {i j : Int} : eqM m (.int i) (.int j) = some (.bl (i == j)) := rfl
theorem neM_int {m : Mem} {i j : Int} : neM m (.int i) (.int j) = some (.bl (!(i == j))) := rfl
theorem eqWs_ints : ∀ xs ys : List Int, eqWs (xs.map .int) (ys.map .int) = decide (xs = ys)
  | [], [] => rfl
  | [], _ :: _ => rfl
  | _ :: _, [] => rfl
  | x :: xs, y :: ys => by
    rw [List.map_cons, List.map_cons, eqWs, eqWs_ints xs ys, eqW]
    by_cases h : x = y
    · subst h; simp
    · simp [h]
theorem eqWs_nil_map {α : Type} {f : α → W} (l : List α) : eqWs (l.map f) [] = l.isEmpty := by cases l <;> rfl
theorem anyEq_ints (p : Int) : ∀ l : List Int, anyEq (.int p) (l.map .int) = l.contains p
  | [] => rfl
  | x :: l => by
    rw [List.map_cons, anyEq, anyEq_ints p l, List.contains_cons, eqW]
    have e : (x == p) = (p == x) := by
      by_cases h : p = x
      · subst h; rfl
      · rw [beq_eq_false_iff_ne.mpr h, beq_eq_false_iff_ne.mpr fun q => h q.symm]
    rw [e]
theorem inM_ints {m : Mem} {p : Int} {l : List Int} {neg : Bool} : inM neg m (.int p) (.tup (l.map .int)) = some (.bl (if neg then !l.contains p else l.contains p)) := by
  simp only [inM, seqOf, okWs_int, rsv, okW, Bool.and_self, if_true, anyEq_ints]
theorem inM_intsL {m : Mem} {p : Int} {l : List Int} {neg : Bool} : inM neg m (.int p) (.lst (l.map .int)) = some (.bl (if neg then !l.contains p else l.contains p)) := by
  simp only [inM, seqOf, okWs_int, rsv, okW, Bool.and_self, if_true, anyEq_ints]
/-! ### items, slices -/
theorem atI_get {α : Type} {xs : List α} {i : Int} {n : Nat} {x : α} (hi : i = n) (h : xs[n]? = some x) : atI xs i = some x := by
  subst hi
  have hn := (List.getElem?_eq_some_iff.mp h).1
  unfold atI ixN
  rw [if_pos (by omega), if_pos (by omega)]
  simpa using h
theorem cut_to {xs : List W} {k : Nat} : cutW xs none (some (k : Int)) = xs.take k := by
  unfold cutW
  rw [HT.sIx_none, HT.sIx_nat]
  simp only [List.drop_zero, Nat.sub_zero]
  rw [List.take_eq_take_iff]
  omega
theorem cut_from {xs : List W} {k : Nat} : cutW xs (some (k : Int)) none = xs.drop k := by
  unfold cutW
  rw [HT.sIx_none, HT.sIx_nat]
  by_cases h : k ≤ xs.length
  · rw [Nat.min_eq_left h]
    exact List.take_of_length_le (by simp)
  · have h : xs.length ≤ k := by omega
    rw [Nat.min_eq_right h, List.drop_eq_nil_of_le h]
    simp
theorem cut_toI {xs : List W} {k : Int} (h : 0 ≤ k) : cutW xs none (some k) = xs.take k.toNat := by
  obtain ⟨n, rfl⟩ : ∃ n : Nat, k = n := ⟨k.toNat, by omega⟩
  rw [cut_to]; rfl
theorem cut_fromI {xs : List W} {k : Int} (h : 0 ≤ k) : cutW xs (some k) none = xs.drop k.toNat := by
  obtain ⟨n, rfl⟩ : ∃ n : Nat, k = n := ⟨k.toNat, by omega⟩
  rw [cut_from]; rfl
theorem cut_all {xs : List W} : cutW xs none none = xs := by
  unfold cutW
  rw [HT.sIx_none, HT.sIx_none]
  simp
/-! ### comprehensions -/
theorem compL_map {α : Type} {t : DG} {c : DT} {f : DE} {vs : List Nat} {r : Rho} {m : Mem} (w : α → W) (p : α → Bool) (g : α → W) (rr : α → Rho) :
    ∀ l : List α, (∀ x, x ∈ l → t (w x) (wipeR r vs) = some (rr x)) → (∀ x, x ∈ l → c (rr x) m = .ok (p x) m) → (∀ x, x ∈ l → p x = true → f (rr x) m = .ok (g x) m) → compL t c f vs (l.map w) r m = .ok ((l.filter p).map g) m
  | [], _, _, _ => rfl
  | x :: l, h1, h2, h3 => by
    have ih := compL_map (c := c) (f := f) w p g rr l (fun y q => h1 y (.tail _ q)) (fun y q => h2 y (.tail _ q)) fun y q => h3 y (.tail _ q)
    rw [List.map_cons, compL, h1 x (.head _)]
    simp only [h2 x (.head _)]
    cases q : p x with
    | true =>
      simp only [h3 x (.head _) q, ih, Dn.R.bind, List.filter_cons, q, if_true, List.map_cons]
    | false =>
      simp only [ih, List.filter_cons, q, Bool.false_eq_true, if_false]
/-- .. all of them -/
theorem compL_all {α : Type} {t : DG} {f : DE} {vs : List Nat} {r : Rho} {m : Mem} (w : α → W) (g : α → W) (rr : α → Rho) (l : List α)
    (h1 : ∀ x, x ∈ l → t (w x) (wipeR r vs) = some (rr x)) (h3 : ∀ x, x ∈ l → f (rr x) m = .ok (g x) m) : compL t dYes f vs (l.map w) r m = .ok (l.map g) m := by
  have := compL_map (c := dYes) w (fun _ => true) g rr l h1 (fun _ _ => rfl) fun x q _ => h3 x q
  rwa [List.filter_eq_self.mpr fun _ _ => rfl] at this
/-! ### loops -/
theorem loop_ex {α β : Type} {t : DG} {body : DS} (w : α → W) (P : β → Rho → Mem → Prop) (step : β → α → β) :
    ∀ (l : List α) (b : β) (r : Rho) (m : Mem), (∀ b x r m, x ∈ l → P b r m → ∃ r1 r2 m2, t (w x) r = some r1 ∧ (body r1 m = .next r2 m2 ∨ body r1 m = .cont r2 m2) ∧ P (step b x) r2 m2) → P b r m →
      ∃ r' m', loop t body (l.map w) r m = .next r' m' ∧ P (l.foldl step b) r' m'
  | [], b, r, m, _, h => ⟨r, m, rfl, h⟩
  | x :: l, b, r, m, hs, h => by
    obtain ⟨r1, r2, m2, e1, e2, h2⟩ := hs b x r m (.head _) h
    obtain ⟨r', m', e3, h3⟩ := loop_ex w P step l (step b x) r2 m2 (fun b y r m q => hs b y r m (.tail _ q)) h2
    refine ⟨r', m', ?_, h3⟩
    rw [List.map_cons, loop, e1]
    rcases e2 with e2 | e2 <;> simp only [e2, e3]
/-- the body passes, and leaves Q -/
def GoesD (q : RS) (Q : Rho → Mem → Prop) : Prop := match q with
  | .next r m => Q r m
  | .cont r m => Q r m
  | _ => False
def Steps (t : DG) (body : DS) (wx : W) (r : Rho) (m : Mem) (Q : Rho → Mem → Prop) : Prop := match t wx r with
  | none => False
  | some r1 => GoesD (body r1 m) Q
theorem loop_pre {α : Type} {t : DG} {body : DS} (w : α → W) (P : List α → Rho → Mem → Prop) (l : List α) (r : Rho) (m : Mem) (h0 : P [] r m)
    (hs : ∀ pre x post r m, l = pre ++ x :: post → P pre r m → Steps t body (w x) r m (P (pre ++ [x]))) :
    ∃ r' m', loop t body (l.map w) r m = .next r' m' ∧ P l r' m' := by
  have go : ∀ (post pre : List α) (r : Rho) (m : Mem), l = pre ++ post → P pre r m → ∃ r' m', loop t body (post.map w) r m = .next r' m' ∧ P l r' m' := by
    intro post
    induction post with
    | nil => intro pre r m e h; rw [List.append_nil] at e; subst e; exact ⟨r, m, rfl, h⟩
    | cons x post ih =>
      intro pre r m e h
      have h2 := hs pre x post r m e h
      unfold Steps at h2
      rw [List.map_cons, loop]
      cases e1 : t (w x) r with
      | none => simp only [e1] at h2
      | some r1 =>
        simp only [e1] at h2 ⊢
        cases e2 : body r1 m with
        | next r2 m2 =>
          simp only [e2, GoesD] at h2 ⊢
          exact ih (pre ++ [x]) _ _ (by rw [e]; simp) h2
        | cont r2 m2 =>
          simp only [e2, GoesD] at h2 ⊢
          exact ih (pre ++ [x]) _ _ (by rw [e]; simp) h2
        | brk r2 m2 => simp only [e2, GoesD] at h2
        | ret u m2 => simp only [e2, GoesD] at h2
        | exc y r2 m2 => simp only [e2, GoesD] at h2
        | bad => simp only [e2, GoesD] at h2
  exact go l [] r m rfl h0
/-- .. or it gives something back -/
def GoesR (q : RS) (P : Rho → Mem → Prop) (Q : W → Mem → Prop) : Prop := match q with
  | .next r m => P r m
  | .cont r m => P r m
  | .ret w m => Q w m
  | _ => False
def StepsR (t : DG) (body : DS) (wx : W) (r : Rho) (m : Mem) (P : Rho → Mem → Prop) (Q : W → Mem → Prop) : Prop := match t wx r with
  | none => False
  | some r1 => GoesR (body r1 m) P Q
theorem loop_ret {α : Type} {t : DG} {body : DS} (w : α → W) (P : List α → Rho → Mem → Prop) (Q : W → Mem → Prop) (l : List α) (r : Rho) (m : Mem) (h0 : P [] r m)
    (hs : ∀ pre x post r m, l = pre ++ x :: post → P pre r m → StepsR t body (w x) r m (P (pre ++ [x])) Q) :
    (∃ r' m', loop t body (l.map w) r m = .next r' m' ∧ P l r' m') ∨ ∃ u m', loop t body (l.map w) r m = .ret u m' ∧ Q u m' := by
  have go : ∀ (post pre : List α) (r : Rho) (m : Mem), l = pre ++ post → P pre r m → (∃ r' m', loop t body (post.map w) r m = .next r' m' ∧ P l r' m') ∨ ∃ u m', loop t body (post.map w) r m = .ret u m' ∧ Q u m' := by
    intro post
    induction post with
    | nil => intro pre r m e h; rw [List.append_nil] at e; subst e; exact .inl ⟨r, m, rfl, h⟩
    | cons x post ih =>
      intro pre r m e h
      have h2 := hs pre x post r m e h
      unfold StepsR at h2
      rw [List.map_cons, loop]
      cases e1 : t (w x) r with
      | none => simp only [e1] at h2
      | some r1 =>
        simp only [e1] at h2 ⊢
        cases e2 : body r1 m with
        | next r2 m2 =>
          simp only [e2, GoesR] at h2 ⊢
          exact ih (pre ++ [x]) _ _ (by rw [e]; simp) h2
        | cont r2 m2 =>
          simp only [e2, GoesR] at h2 ⊢
          exact ih (pre ++ [x]) _ _ (by rw [e]; simp) h2
        | brk r2 m2 => simp only [e2, GoesR] at h2
        | ret u m2 =>
          simp only [e2, GoesR] at h2 ⊢
          exact .inr ⟨u, m2, rfl, h2⟩
        | exc y r2 m2 => simp only [e2, GoesR] at h2
        | bad => simp only [e2, GoesR] at h2
  exact go l [] r m rfl h0
theorem numbered_map {α : Type} {w : α → W} : ∀ (l : List α) (i : Nat), numbered i (l.map w) = (l.zipIdx i).map fun x => W.tup [.int (x.2 : Nat), w x.1]
  | [], i => rfl
  | x :: l, i => by rw [List.map_cons, numbered, List.zipIdx_cons, List.map_cons, numbered_map l (i + 1)]
theorem fold_app {α β : Type} (f : α → β) : ∀ (l : List α) (acc : List β), l.foldl (fun a x => a ++ [f x]) acc = acc ++ l.map f
  | [], acc => by simp
  | x :: l, acc => by rw [List.foldl_cons, fold_app f l, List.map_cons, List.append_assoc]; rfl
theorem fold_appIf {α β : Type} (p : α → Bool) (f : α → β) : ∀ (l : List α) (acc : List β), l.foldl (fun a x => if p x = true then a ++ [f x] else a) acc = acc ++ (l.filter p).map f
  | [], acc => by simp
  | x :: l, acc => by
    rw [List.foldl_cons, fold_appIf p f l, List.filter_cons]
    cases q : p x <;> simp [q]
theorem boolsW_map {α : Type} (p : α → Bool) : ∀ l : List α, boolsW (l.map fun x => .bl (p x)) = some (l.map p)
  | [] => rfl
  | x :: l => by
    rw [List.map_cons, List.map_cons, boolsW, boolsW_map p l]
    rfl
theorem anyW_map {α : Type} {m : Mem} (p : α → Bool) (l : List α) : anyW m [.lst (l.map fun x => .bl (p x))] = some (.bl (l.any p)) := by
  simp only [anyW, trkOf, boolsW_map, Option.map_some]
  congr 2
  rw [List.any_map]
  rfl
theorem allW_map {α : Type} {m : Mem} (p : α → Bool) (l : List α) : allW m [.lst (l.map fun x => .bl (p x))] = some (.bl (l.all p)) := by
  simp only [allW, trkOf, boolsW_map, Option.map_some]
  congr 2
  rw [List.all_map]
  rfl
end Dn
/-! M1: rooms, in plain words. -/
namespace Rm
open PySem PySem.Spec PyProof.Rows L2 Dn
inductive How where
  | here | out | lost | away
  deriving DecidableEq
inductive Bk where
  | asks | old | tells
  deriving DecidableEq
def How.s : How → Str
  | .here => "here"
  | .out => "out"
  | .lost => "lost"
  | .away => "away"
def Bk.s : Bk → Str
  | .asks => "asks"
  | .old => "old"
  | .tells => "tells"
structure Rule where
  k : Int
  t : Int
  line : Bool
  on : Bool
  bk : Bk
  told : Bool
  asks : Bool
  deriving DecidableEq
def askS (b : Bool) : Str := if b then "line" else "seen"
def fillS (b : Bool) : Str := if b then "on" else "none"
def letS (b : Bool) : Str := if b then "told" else "quiet"
def lostS (b : Bool) : Str := if b then "asks" else "claims"
def Rule.w (r : Rule) : W := .tup [.int r.k, .int r.t, .str (askS r.line), .str (fillS r.on), .str r.bk.s, .str (letS r.told), .str (lostS r.asks)]
structure Rule.Ok (r : Rule) : Prop where
  k1 : 1 ≤ r.k
  k3 : r.k ≤ 3
  t0 : 0 ≤ r.t
  tk : r.t ≤ r.k
structure Row where
  p : Int
  h : How
  ns : List Int
  deriving DecidableEq
abbrev Line := List Row
def Row.w (x : Row) : W := .tup [.int x.p, .str x.h.s, .tup (x.ns.map .int)]
def lineW (l : Line) : W := .tup (l.map Row.w)
/-! ### what people do -/
def known (r : Rule) (h : How) : Bool := match h with
  | .here => true
  | .out => r.line
  | .away => r.line
  | .lost => false
def nearest (r : Rule) (l : Line) (i : Nat) : List Int := ((((l.take i).filter fun x => known r x.h).map (·.p)).reverse).take r.k.toNat
def take1 (r : Rule) (l : Line) (spots : List Int) (x : Row × Nat) : Row := if (spots.contains (x.2 : Int) && decide (x.1.h = .here)) = true then ⟨x.1.p, x.1.h, nearest r l x.2⟩ else x.1
def renewed (r : Rule) (l : Line) (spots : List Int) : Line := l.zipIdx.map (take1 r l spots)
def asHow (l : Line) (i : Nat) (h : How) : Line := match l[i]? with
  | some x => l.take i ++ ⟨x.p, h, if h = .away then [] else x.ns⟩ :: l.drop (i + 1)
  | none => l
def struck (p : Int) (x : Row) : Row := if x.h = .here ∧ x.ns.contains p = true then ⟨x.p, x.h, x.ns.filter fun n => !(n == p)⟩ else x
def hits (l : Line) (p : Int) : List Int := (l.zipIdx.filter fun x => decide (x.1.h = .here) && x.1.ns.contains p).map fun x => (x.2 : Int)
def without (r : Rule) (l : Line) (p : Int) : Line :=
  renewed r ((l.filter fun x => !(x.p == p)).map (struck p)) (if r.on = true then hits (l.filter fun x => !(x.p == p)) p else [])
def forgetting (l : Line) : Line := if (l.any fun x => decide (x.h = .here)) = true then l else (l.filter fun x => !decide (x.h = .away)).map fun x => ⟨x.p, .lost, x.ns⟩
def bare (l : Line) : List Int := (l.zipIdx.filter fun x => x.1.ns.isEmpty).map fun x => (x.2 : Int)
def askedAgain (r : Rule) (l : Line) : Line := if r.asks = true then renewed r l (bare l) else l
def here (l : Line) : List Int := (l.filter fun x => decide (x.h = .here)).map (·.p)
def claims (r : Rule) (l : Line) : List Int := (l.filter fun x => decide (x.h = .here) && (decide ((x.ns.length : Int) ≤ r.t) && !(x.ns.any fun n => (here l).contains n))).map (·.p)
inductive Pw where
  | back | leave | lett | out | vanish
  deriving DecidableEq
def Pw.s : Pw → Str
  | .back => "back"
  | .leave => "leave"
  | .lett => "let"
  | .out => "out"
  | .vanish => "vanish"
inductive Ev where
  | come | door | pers (w : Pw) (p : Int)
  deriving DecidableEq
def Ev.w : Ev → W
  | .come => .tup [.str "come"]
  | .door => .tup [.str "door"]
  | .pers x p => .tup [.str x.s, .int p]
structure Room where
  line : Line
  came : Int
  served : List Int
  deriving DecidableEq
def howIs (l : Line) (p : Int) : Option How := ((l.filter fun x => x.p == p).map (·.h)).head?
def howW : Option How → W
  | some h => .str h.s
  | none => .non
def canBe (r : Rule) (R : Room) : Ev → Bool
  | .come => decide (R.came < 12)
  | .door => !(here R.line).isEmpty
  | .pers .back p => (decide (howIs R.line p = some .out) || decide (howIs R.line p = some .lost)) && (!(decide (howIs R.line p = some .lost) && decide (r.bk = .asks)) || decide (R.came < 12))
  | .pers x p => decide (howIs R.line p = some .here) && (!decide (x = .lett) || decide (R.came < 12))
def putIn (r : Rule) (R : Room) (i : Nat) : Room := ⟨renewed r (R.line.take i ++ ⟨R.came, .here, []⟩ :: R.line.drop i) [(i : Int)], R.came + 1, R.served⟩
def upTo (a b : Nat) : List Int := (List.range (b - a)).map fun i => ((a + i : Nat) : Int)
def renewFrom (r : Rule) (R : Room) (i : Nat) : Room := ⟨renewed r R.line (upTo i R.line.length), R.came, R.served⟩
def bringBack (r : Rule) (R : Room) (i : Nat) : Room :=
  if r.bk = .asks ∧ (R.line[i]?.map (·.h)) = some .lost then putIn r ⟨R.line.take i ++ R.line.drop (i + 1), R.came, R.served⟩ (R.line.length - 1)
  else match r.bk with
    | .tells => renewFrom r ⟨asHow R.line i .here, R.came, R.served⟩ i
    | .old => ⟨asHow R.line i .here, R.came, R.served⟩
    | .asks => ⟨renewed r (asHow R.line i .here) [(i : Int)], R.came, R.served⟩
def openDoor (r : Rule) (R : Room) : Room := match claims r (askedAgain r R.line) with
  | [p] => ⟨without r (askedAgain r R.line) p, R.came, R.served ++ [p]⟩
  | _ => ⟨askedAgain r R.line, R.came, R.served⟩
def spotOf (l : Line) (p : Int) : Nat := l.findIdx fun x => x.p == p
def doPers (r : Rule) (R : Room) (x : Pw) (p : Int) : Room := match x with
  | .lett => if r.told = true then renewFrom r (putIn r R (spotOf R.line p + 1)) (spotOf R.line p + 2) else putIn r R (spotOf R.line p + 1)
  | .leave => ⟨without r R.line p, R.came, R.served⟩
  | .back => bringBack r R (spotOf R.line p)
  | .out => ⟨asHow R.line (spotOf R.line p) .out, R.came, R.served⟩
  | .vanish => ⟨asHow R.line (spotOf R.line p) .away, R.came, R.served⟩
def doRaw (r : Rule) (R : Room) : Ev → Room
  | .come => putIn r R R.line.length
  | .door => openDoor r R
  | .pers x p => doPers r R x p
def doEv (r : Rule) (R : Room) (e : Ev) : Room := ⟨forgetting (doRaw r R e).line, (doRaw r R e).came, (doRaw r R e).served⟩
def room0 : Room := ⟨[], 0, []⟩
def behind (r : Rule) (es : List Ev) : Room := es.foldl (doEv r) room0
/-- each of a row can be -/
def isRow (r : Rule) (R : Room) : List Ev → Bool
  | [] => true
  | e :: es => canBe r R e && isRow r (doEv r R e) es
end Rm
/-! M2: words and lines as plain values. -/
namespace Rm
open PySem PySem.Spec PyProof.Rows L2 Dn
variable {m : Mem}
theorem start0 {n : Nat} : startW n [] = List.replicate n none := by simp [startW]
theorem start1 {n : Nat} {a : W} : startW (n + 1) [a] = some a :: List.replicate n none := rfl
theorem start2 {n : Nat} {a b : W} : startW (n + 2) [a, b] = some a :: some b :: List.replicate n none := by simp [startW]
theorem start3 {n : Nat} {a b c : W} : startW (n + 3) [a, b, c] = some a :: some b :: some c :: List.replicate n none := by simp [startW]
theorem start4 {n : Nat} {a b c d : W} : startW (n + 4) [a, b, c, d] = some a :: some b :: some c :: some d :: List.replicate n none := by simp [startW]
theorem start5 {n : Nat} {a b c d e : W} : startW (n + 5) [a, b, c, d, e] = some a :: some b :: some c :: some d :: some e :: List.replicate n none := by simp [startW]
theorem mulW_i {i j : Int} (a : -(2 ^ 64) < i) (b : i < 2 ^ 64) : mulW m (.int i) (.int j) = some (.int (i * j)) := by simp only [mulW, mulI, iOp]; exact if_pos (.inl ⟨a, b⟩)
theorem modW_i {i j : Int} (a : 0 < j) : modW m (.int i) (.int j) = some (.int (i % j)) := by simp only [modW, iOp]; exact if_pos a
theorem fdivW_i {i j : Int} (a : 0 < j) (b : j < 1073741824) : fdivW m (.int i) (.int j) = some (.int (i / j)) := by simp only [fdivW, iOp]; exact if_pos ⟨a, b⟩
theorem addW_i {i j : Int} : addW m (.int i) (.int j) = some (.int (i + j)) := rfl
theorem subW_i {i j : Int} : subW m (.int i) (.int j) = some (.int (i - j)) := rfl
theorem addI_i {i j : Int} : addI m (.int i) (.int j) = some (.int (i + j)) := rfl
theorem intW_i {i : Int} : intW m [.int i] = some (.int i) := rfl
theorem gtW_i {i j : Int} : gtW m (.int i) (.int j) = some (.bl (decide (j < i))) := rfl
theorem geW_i {i j : Int} : geW m (.int i) (.int j) = some (.bl (decide (j ≤ i))) := rfl
theorem ltW_i {i j : Int} : ltW m (.int i) (.int j) = some (.bl (decide (i < j))) := rfl
theorem leW_i {i j : Int} : leW m (.int i) (.int j) = some (.bl (decide (i ≤ j))) := rfl
theorem maxW_i {i j : Int} : maxW m [.int i, .int j] = some (.int (max i j)) := by
  simp only [maxW]
  congr 2
  by_cases h : j > i
  · rw [if_pos h, Int.max_eq_right (by omega)]
  · rw [if_neg h, Int.max_eq_left (by omega)]
theorem addW_l {xs ys : List W} (h : xs.length + ys.length ≤ 16777216) : addW m (.lst xs) (.lst ys) = some (.lst (xs ++ ys)) := by
  show addL m (.lst xs) (.lst ys) = _
  simp only [addL, trkOf]
  exact if_pos h
theorem addW_t {xs ys : List W} (h : xs.length + ys.length ≤ 16777216) : addW m (.tup xs) (.tup ys) = some (.tup (xs ++ ys)) := by
  show addT m (.tup xs) (.tup ys) = _
  simp only [addT]
  exact if_pos h
theorem tupleW_l {xs : List W} : tupleW m [.lst xs] = some (.tup xs) := rfl
theorem tupleW_t {xs : List W} : tupleW m [.tup xs] = some (.tup xs) := rfl
theorem tupleW_r {n : Nat} {xs : List W} (h : m[n]? = some (.lst xs)) : tupleW m [.ref n] = some (.tup xs) := by simp only [tupleW, seqOf, h, Option.map]
theorem lenW_t {xs : List W} : lenW m [.tup xs] = some (.int (xs.length : Nat)) := rfl
theorem lenW_l {xs : List W} : lenW m [.lst xs] = some (.int (xs.length : Nat)) := rfl
theorem lenW_r {n : Nat} {xs : List W} (h : m[n]? = some (.lst xs)) : lenW m [.ref n] = some (.int (xs.length : Nat)) := by simp only [lenW, h]
theorem ixM_t {xs : List W} {i : Int} : ixM m (.tup xs) (.int i) = atI xs i := rfl
theorem ixM_l {xs : List W} {i : Int} : ixM m (.lst xs) (.int i) = atI xs i := rfl
/-! ### words -/
theorem eq_how (h k : How) : eqM m (.str h.s) (.str k.s) = some (.bl (decide (h = k))) := by cases h <;> cases k <;> kernel_rfl
theorem ne_how (h k : How) : neM m (.str h.s) (.str k.s) = some (.bl (!decide (h = k))) := by cases h <;> cases k <;> kernel_rfl
theorem eq_bk (h k : Bk) : eqM m (.str h.s) (.str k.s) = some (.bl (decide (h = k))) := by cases h <;> cases k <;> kernel_rfl
theorem ne_bk (h k : Bk) : neM m (.str h.s) (.str k.s) = some (.bl (!decide (h = k))) := by cases h <;> cases k <;> kernel_rfl
theorem eq_pw (h k : Pw) : eqM m (.str h.s) (.str k.s) = some (.bl (decide (h = k))) := by cases h <;> cases k <;> kernel_rfl
theorem ne_pw (h k : Pw) : neM m (.str h.s) (.str k.s) = some (.bl (!decide (h = k))) := by cases h <;> cases k <;> kernel_rfl
theorem eq_line (b : Bool) : eqM m (.str (askS b)) (.str "line") = some (.bl b) := by cases b <;> kernel_rfl
theorem eq_on (b : Bool) : eqM m (.str (fillS b)) (.str "on") = some (.bl b) := by cases b <;> kernel_rfl
theorem eq_told (b : Bool) : eqM m (.str (letS b)) (.str "told") = some (.bl b) := by cases b <;> kernel_rfl
theorem eq_asks (b : Bool) : eqM m (.str (lostS b)) (.str "asks") = some (.bl b) := by cases b <;> kernel_rfl
theorem ne_asks (b : Bool) : neM m (.str (lostS b)) (.str "asks") = some (.bl (!b)) := by cases b <;> kernel_rfl
theorem eq_howW (h : Option How) (k : How) : eqM m (howW h) (.str k.s) = some (.bl (decide (h = some k))) := by
  cases h with
  | none => cases k <;> kernel_rfl
  | some h => cases h <;> cases k <;> kernel_rfl
theorem ne_howW (h : Option How) (k : How) : neM m (howW h) (.str k.s) = some (.bl (!decide (h = some k))) := by
  cases h with
  | none => cases k <;> kernel_rfl
  | some h => cases h <;> cases k <;> kernel_rfl
theorem in_howW (h : Option How) : inM false m (howW h) (.tup [.str How.out.s, .str How.lost.s]) = some (.bl (decide (h = some .out) || decide (h = some .lost))) := by
  cases h with
  | none => kernel_rfl
  | some h => cases h <;> kernel_rfl
theorem in_line (h : How) (r : Rule) (e : r.line = true) : inM false m (.str h.s) (.tup [.str How.here.s, .str How.out.s, .str How.away.s]) = some (.bl (known r h)) := by
  cases h <;> simp only [known, e] <;> kernel_rfl
theorem in_seen (h : How) (r : Rule) (e : r.line = false) : inM false m (.str h.s) (.tup [.str How.here.s]) = some (.bl (known r h)) := by
  cases h <;> simp only [known, e] <;> kernel_rfl
theorem isNon_how (h : Option How) : isNonW m (howW h) .non = some (.bl h.isNone) := by cases h <;> kernel_rfl
/-! ### rules, rows, lines -/
theorem rule0 (r : Rule) : ixM m r.w (.int 0) = some (.int r.k) := rfl
theorem rule1 (r : Rule) : ixM m r.w (.int 1) = some (.int r.t) := rfl
theorem rule2 (r : Rule) : ixM m r.w (.int 2) = some (.str (askS r.line)) := rfl
theorem rule3 (r : Rule) : ixM m r.w (.int 3) = some (.str (fillS r.on)) := rfl
theorem rule4 (r : Rule) : ixM m r.w (.int 4) = some (.str r.bk.s) := rfl
theorem rule5 (r : Rule) : ixM m r.w (.int 5) = some (.str (letS r.told)) := rfl
theorem rule6 (r : Rule) : ixM m r.w (.int 6) = some (.str (lostS r.asks)) := rfl
theorem g_rule (r : Rule) : gW r.w = true := by kernel_rfl
theorem g_row (x : Row) : gW x.w = true := by
  simp only [Row.w, gW_tup, gWs_cons, gW_int, gW_str, gWs_ints, gWs_nil, Bool.and_self]
theorem gs_rows (l : Line) : gWs (l.map Row.w) = true := gWs_map g_row l
theorem g_line (l : Line) : gW (lineW l) = true := by rw [lineW, gW_tup]; exact gs_rows l
theorem g_lineT (l : Line) : gW (.tup (l.map Row.w)) = true := g_line l
theorem g_intsT (l : List Int) : gW (.tup (l.map .int)) = true := by rw [gW_tup]; exact gWs_ints l
theorem g_intsL (l : List Int) : gW (.lst (l.map .int)) = true := by rw [gW_lst]; exact gWs_ints l
theorem strOk_how (h : How) : PyData.strOk h.s = true := by cases h <;> kernel_rfl
theorem ok_row (n : Nat) (x : Row) : okW (n + 2) x.w = true := by
  simp only [Row.w, okW_tup, okWs, okW, strOk_how, okWs_int, Bool.and_self]
theorem ok_lineT (n : Nat) (l : Line) : okW (n + 3) (.tup (l.map Row.w)) = true := by rw [okW_tup]; exact okWs_map (ok_row n) l
theorem ok_intsT (n : Nat) (l : List Int) : okW (n + 1) (.tup (l.map .int)) = true := by rw [okW_tup]; exact okWs_int n l
theorem ok_intsL (n : Nat) (l : List Int) : okW (n + 1) (.lst (l.map .int)) = true := by rw [okW_lst]; exact okWs_int n l
theorem eq_nilT (l : List Int) : eqM m (.tup (l.map .int)) (.tup []) = some (.bl l.isEmpty) := by
  rw [eqM_ok (ok_intsT 59 l) (by kernel_rfl), eqW, eqWs_nil_map]
theorem ne_nilL {α : Type} {f : α → W} (l : List α) (h : ∀ x, okW 59 (f x) = true) : neM m (.lst (l.map f)) (.lst []) = some (.bl (!l.isEmpty)) := by
  rw [neM_ok (by rw [okW_lst]; exact okWs_map h l) (by kernel_rfl), eqW, eqWs_nil_map]
theorem idx_ints : ∀ (l : List Int) (p : Int), p ∈ l → idxW m (.lst (l.map .int)) (.int p) = some (.int ((l.findIdx fun x => x == p : Nat) : Int)) := fun l p h => by
  have e : ∀ l : List Int, toVs (l.map .int) = some (l.map V.int) := fun l => by
    induction l with
    | nil => rfl
    | cons x l ih => simp only [List.map_cons, toVs, toV, ih]
  have f : ∀ l : List Int, p ∈ l → findV (.int p) (l.map V.int) = some (l.findIdx fun x => x == p) := fun l => by
    induction l with
    | nil => intro h; cases h
    | cons x l ih =>
      intro h
      rw [List.map_cons, findV, List.findIdx_cons]
      have q : eqV (.int x) (.int p) = (x == p) := rfl
      rw [q]
      cases c : x == p with
      | true => rfl
      | false =>
        have hp : p ∈ l := by
          rcases List.mem_cons.mp h with rfl | h
          · simp at c
          · exact h
        simp only [ih hp, Option.map, cond]
  simp only [idxW, trkOf, e, toV, f l h, Option.map]
theorem rg_ints (a b : Nat) : rgW (a : Int) (b : Int) = (upTo a b).map .int := by
  have e : ((b : Int) - (a : Int)).toNat = b - a := by omega
  simp only [rgW, upTo, List.map_map, e]
  refine List.map_congr_left fun i _ => ?_
  simp
end Rm
namespace L
open PySem PySem.Spec PyProof.Rows L2 Dn Rm
local macro_rules | `(tactic| walk_at "den") => `(tactic| simp (disch := omega) only [runD, start0, start1, start2, start3, sSeq, sSet, sRet, sExpr, sIf, sAsg, sSub, sFor, sPar, eVar, eC, eBin, eFn, eCall, eAnd, eOr, eNot, eIf, eTup, eLst, eIsi, eDget, eNeg, dTest, dAnd, dOr, dNot, dYes, aNil, aCons, aStar, Dn.R.bind, R.thenS, List.length_cons, List.length_nil, List.replicate, List.set, List.getElem?_cons_zero, List.getElem?_cons_succ, List.cons_append, List.nil_append, Nat.reduceAdd, Nat.reduceSub, iOp, if_pos, if_neg, Nat.zero_add, mulW_i, modW_i, fdivW_i, addW_i, intW_i, gtW_i, geW_i])
def mixI (c k : Int) : Int := ((c % 2147483647) * (48271 + 2 * k * k) + 69621 * k + 11) % 2147483647 * 69621 % 2147483629
theorem mixed_ok (c k : Int) (m : Mem) (h0 : 0 ≤ k) (h1 : k < 1000000) : r__law_mixed [.int c, .int k] m = .ok (.int (mixI c k)) m := by
  unfold r__law_mixed
  refine pw_g (m1 := []) rfl ?_ rfl
  unfold d__law_mixed s__law_mixed_0 s__law_mixed_1
  walk_at "den"
  rfl
theorem mixI_lt (c k : Int) : 0 ≤ mixI c k ∧ mixI c k < 2147483629 := by
  unfold mixI
  exact ⟨Int.emod_nonneg _ (by decide), Int.emod_lt_of_pos _ (by decide)⟩
/-- the law's own state of draws: ls what is left of the great cells, cs the cells, at the turn -/
abbrev kS (x : String) : Key := .inr (Str.ofString x)
def dSl (cs : List Int) (i : Int) (x : W) : List (Key × W) := [(kS "cells", .lst (cs.map .int)), (kS "lefts", .ref 0), (kS "at", .int i), (kS "room", x)]
def dS (cs : List Int) (i : Int) (x : W) : Cell := .dct (dSl cs i x)
theorem g_at (cs : List Int) (i : Int) (x : W) : valW (dSl cs i x) (.inr (Str.ofString "at")) = some (.int i) := rfl
theorem g_cells (cs : List Int) (i : Int) (x : W) : valW (dSl cs i x) (.inr (Str.ofString "cells")) = some (.lst (cs.map .int)) := rfl
theorem g_lefts (cs : List Int) (i : Int) (x : W) : valW (dSl cs i x) (.inr (Str.ofString "lefts")) = some (.ref 0) := rfl
theorem p_at (cs : List Int) (i j : Int) (x : W) : putW (dSl cs i x) (.inr (Str.ofString "at")) (.int j) = dSl cs j x := rfl
theorem dSl_len (cs : List Int) (i : Int) (x : W) : (dSl cs i x).length = 4 := rfl
theorem keyW_s (x : Str) : keyW (.str x) = some (.inr x) := rfl
theorem at_in (ls : List Int) (j : Int) (h0 : 0 ≤ j) (h1 : j < ls.length) : ∃ v, atI (ls.map W.int) j = some (.int v) := by
  obtain ⟨n, rfl⟩ : ∃ n : Nat, j = n := ⟨j.toNat, by omega⟩
  have h2 : n < ls.length := by omega
  refine ⟨ls[n], atI_nat ?_⟩
  rw [List.getElem?_map, List.getElem?_eq_getElem h2]
  rfl
theorem ixN_in (n : Nat) (j : Int) (h0 : 0 ≤ j) (h1 : j < n) : ixN n j = some j.toNat := by
  unfold ixN
  rw [if_pos h0, if_pos h1]
theorem okWs_ints (n : Nat) : ∀ ns : List Int, okWs n (ns.map .int) = true
  | [] => rfl
  | _ :: ns => by rw [List.map_cons, okWs, okWs_ints n ns]; rfl
theorem pow18 {m : Mem} : powW m (.int 10) (.int 18) = some (.int 1000000000000000000) := by
  simp only [powW, iOp]
  rw [if_pos (by decide)]
  rfl
theorem lefts_ok (r : Rho) (m : Mem) (h : r.length = 3) : ∀ ns : List Int, ∃ ls : List Int, ls.length = ns.length ∧
    compL (gN 2) dYes (eIf (dTest (eBin geW (eVar 2) (eBin powW (eC (W.int 10)) (eC (W.int 18))))) (eVar 2) (eC (W.int 0))) [2] (ns.map .int) r m = .ok (ls.map .int) m
  | [] => ⟨[], rfl, rfl⟩
  | n :: ns => by
    obtain ⟨ls, h1, h2⟩ := lefts_ok r m h ns
    match r, h with
    | [a, b, c], _ =>
      have e : compL (gN 2) dYes (eIf (dTest (eBin geW (eVar 2) (eBin powW (eC (W.int 10)) (eC (W.int 18))))) (eVar 2) (eC (W.int 0))) [2] ((n :: ns).map .int) [a, b, c] m
          = (R.ok (W.int (if 1000000000000000000 ≤ n then n else 0)) m).bind fun y m2 => (compL (gN 2) dYes (eIf (dTest (eBin geW (eVar 2) (eBin powW (eC (W.int 10)) (eC (W.int 18))))) (eVar 2) (eC (W.int 0))) [2] (ns.map .int) [a, b, c] m2).bind fun ys m3 => .ok (y :: ys) m3 := by
        rw [List.map_cons, compL]
        simp only [gN, dYes, wipeR, eIf, dTest, eBin, eVar, eC, List.set, List.getElem?_cons_zero, List.getElem?_cons_succ, Dn.R.bind, geW_i, pow18]
        by_cases hn : (1000000000000000000 : Int) ≤ n
        · simp only [hn, decide_true, if_true, Dn.R.bind]
        · simp only [hn, decide_false, Bool.false_eq_true, if_false, Dn.R.bind]
      rw [e]
      simp only [Dn.R.bind, h2]
      exact ⟨(if 1000000000000000000 ≤ n then n else 0) :: ls, by simp [h1], rfl⟩
theorem begin_ok (ns : List Int) (h : ns.length ≤ 63) : ∃ cs ls : List Int, 0 < cs.length ∧ cs.length ≤ 63 ∧ ls.length = cs.length ∧ r__law_begin [.old (ns.map .int)] [] = .ok (.ref 1) [.lst (ls.map .int), dS cs 0 (.int 0)] := by
  have fin : ∀ (cs : List Int) (r0 : Option W) (m : Mem), ∃ ls : List Int, ls.length = cs.length ∧ (eDict [(Str.ofString "cells", eVar 1), (Str.ofString "lefts", eNw (aComp (iSeq (eVar 1)) (gN 2) dYes (eIf (dTest (eBin geW (eVar 2) (eBin powW (eC (W.int 10)) (eC (W.int 18))))) (eVar 2) (eC (W.int 0))) [2])), (Str.ofString "at", eC (W.int 0)), (Str.ofString "room", eC (W.int 0))] [r0, some (.lst (cs.map .int)), none] [] = .ok (.ref 1) [.lst (ls.map .int), dS cs 0 (.int 0)]) := fun cs r0 m => by
    obtain ⟨ls, h1, h2⟩ := lefts_ok [r0, some (.lst (cs.map .int)), none] [] rfl cs
    refine ⟨ls, h1, ?_⟩
    simp only [eDict, pairsD, eVar, List.getElem?_cons_succ, List.getElem?_cons_zero, Dn.R.bind, eNw, aComp, iSeq, h2, eC, List.length_nil, List.nil_append]
    rfl
  cases ns with
  | nil =>
    obtain ⟨ls, h1, h2⟩ := fin [0] (some (.old [])) []
    refine ⟨[0], ls, by simp, by simp, h1, ?_⟩
    unfold r__law_begin d__law_begin s__law_begin_0 s__law_begin_1
    have e : neM [] (W.old (List.map W.int [])) (W.lst []) = some (.bl false) := rfl
    walk_at "den"
    simp only [e, Dn.R.bind, Bool.false_eq_true, if_false]
    have h2' : eDict _ [some (.old []), some (.lst [.int 0]), none] [] = _ := h2
    simp only [List.map_nil]
    rw [h2']
  | cons n ns =>
    obtain ⟨ls, h1, h2⟩ := fin (n :: ns) (some (.old ((n :: ns).map .int))) []
    refine ⟨n :: ns, ls, by simp, h, h1, ?_⟩
    unfold r__law_begin d__law_begin s__law_begin_0 s__law_begin_1
    have e : neM [] (W.old (List.map W.int (n :: ns))) (W.lst []) = some (.bl true) := by
      simp only [neM, rsv, okW, okWs_ints, okWs, Bool.and_self, if_true]
      rfl
    walk_at "den"
    simp only [e, Dn.R.bind, if_true, eFz, aFn, aCons, eVar, List.getElem?_cons_zero, aNil, listW, seqOf]
    rw [h2]
/-! ### a draw -/
theorem draw_ok (cs ls : List Int) (i k : Int) (x : W) (rest : Mem) (hc : 0 < cs.length) (hc2 : cs.length ≤ 63) (hl : ls.length = cs.length) (hi : 0 ≤ i) (hi2 : i < 900000) (hk : 0 < k) (hk2 : k < 1000000) :
    ∃ (v : Int) (ls' : List Int), 0 ≤ v ∧ v < k ∧ ls'.length = cs.length ∧ r__law_draw [.ref 1, .int k] (.lst (ls.map .int) :: dS cs i x :: rest) = .ok (.int v) (.lst (ls'.map .int) :: dS cs (i + 1) x :: rest) := by
  have hp0 := Int.emod_nonneg i (show ((cs.length : Nat) : Int) ≠ 0 by omega)
  have hp1 := Int.emod_lt_of_pos i (show (0 : Int) < ((cs.length : Nat) : Int) by omega)
  obtain ⟨left, e1⟩ := at_in ls (i % cs.length) hp0 (by omega)
  obtain ⟨cell, e2⟩ := at_in cs (i % cs.length) hp0 (by omega)
  have e3 := ixN_in ls.length (i % cs.length) hp0 (by omega)
  have m1 := fun c : Int => mixed_ok c i (.lst (ls.map .int) :: .dct (dSl cs (i + 1) x) :: rest) hi (by omega)
  have m2 := fun c : Int => mixed_ok c (40 + i) (.lst (ls.map .int) :: .dct (dSl cs (i + 1) x) :: rest) (by omega) (by omega)
  have m3 := fun c : Int => mixed_ok c (7 + i) (.lst (ls.map .int) :: .dct (dSl cs (i + 1) x) :: rest) (by omega) (by omega)
  have b1 := fun c k : Int => (mixI_lt c k).1
  have b2 := fun c k : Int => (mixI_lt c k).2
  have mm : ∀ a b : Int, mulW (.lst (ls.map .int) :: .dct (dSl cs (i + 1) x) :: rest) (.int (mixI a b)) (.int 2147483647) = some (.int (mixI a b * 2147483647)) := fun a b => mulW_i (by have := b1 a b; omega) (by have := b2 a b; omega)
  have hn : (cs.length : Int) ≠ 0 := by omega
  have md : ∀ m : Mem, modW m (.int i) (.int (cs.length : Nat)) = some (.int (i % cs.length)) := fun m => modW_i (by omega)
  by_cases hg : 0 < left
  · refine ⟨left % k, ls.set (i % cs.length).toNat (left / k), Int.emod_nonneg _ (by omega), Int.emod_lt_of_pos _ hk, by simp [hl], ?_⟩
    unfold r__law_draw d__law_draw s__law_draw_0 s__law_draw_1 s__law_draw_2 s__law_draw_3 s__law_draw_4 s__law_draw_5 s__law_draw_6 dS
    simp (disch := omega) only [runD, start2, sSeq, sSet, sRet, sIf, sNil, eVar, eC, eBin, eFn, eCall, eDget, dTest, aNil, aCons, Dn.R.bind, R.thenS, List.length_cons, List.length_nil, List.length_map, List.replicate, List.set, List.getElem?_cons_zero, List.getElem?_cons_succ, Nat.reduceAdd, Nat.zero_add, if_true, addW_i, intW_i, gtW_i, keyW_s, g_at, g_cells, g_lefts, p_at, sSub, setM, dSl_len, show (4 < 16777216) = True from by decide, lenW, seqOf, Option.map, md, ixM, e1, e2, hg, decide_true, fdivW_i, modW_i, e3]
    rw [List.map_set]
  · refine ⟨(mixI (mixI cell i) (40 + i) * 2147483647 + mixI (mixI (mixI cell i) (40 + i)) (7 + i)) / 64 % k, ls, Int.emod_nonneg _ (by omega), Int.emod_lt_of_pos _ hk, hl, ?_⟩
    · unfold r__law_draw d__law_draw s__law_draw_0 s__law_draw_1 s__law_draw_2 s__law_draw_3 s__law_draw_4 s__law_draw_5 s__law_draw_6 dS
      simp (disch := omega) only [runD, start2, sSeq, sSet, sRet, sIf, sNil, eVar, eC, eBin, eFn, eCall, eDget, dTest, aNil, aCons, Dn.R.bind, R.thenS, List.length_cons, List.length_nil, List.length_map, List.replicate, List.set, List.getElem?_cons_zero, List.getElem?_cons_succ, Nat.reduceAdd, Nat.zero_add, if_true, addW_i, intW_i, gtW_i, keyW_s, g_at, g_cells, g_lefts, p_at, sSub, setM, dSl_len, show (4 < 16777216) = True from by decide, lenW, seqOf, Option.map, md, ixM, e1, e2, hg, decide_false, Bool.false_eq_true, if_false, m1, m2, m3, mm, fdivW_i, modW_i]
end L
namespace L
open PySem PySem.Spec PyProof.Rows L2 Dn Rm
local macro_rules | `(tactic| wp_walk using $ts,*) => `(tactic| simp only [runD, start0, start1, start2, start3, start4, start5, sSeq, sSet, sRet, sExpr, sIf, sNil, sCont, sRetN, sPass, sBrk, sBad, sAsg, sSub, sFor, sPar, sAug, sPut, sPutA, eVar, eC, eBin, eFn, eCall, eAnd, eOr, eNot, eIf, eTup, eLst, eLstM, eIsi, eFz, eNw, aComp, iSeq, iEnumW, eFld, eMeth, eMake, eSl, oNone, oSome, eRev, eIdx, eChain, eApp, eFrz, dTest, dAnd, dOr, dNot, aNil, aCons, aStar, Dn.R.bind, R.thenS, List.length_cons, List.length_nil, List.length_map, List.replicate, List.set, List.getElem?_cons_zero, List.getElem?_cons_succ, List.cons_append, List.nil_append, Nat.reduceAdd, Nat.reduceSub, Nat.zero_add, if_true, if_false, Bool.false_eq_true, Bool.not_true, Bool.not_false, decide_true, decide_false, addW_i, subW_i, addI_i, intW_i, gtW_i, geW_i, ltW_i, leW_i, tupleW_l, tupleW_t, lenW_t, lenW_l, eqM_int, neM_int, inM_ints, inM_intsL, ixM_t, ixM_l, lstOf, seqOf, trkOf, wipeR, Nat.reduceLeDiff, rule0, rule1, rule2, rule3, rule4, rule5, rule6, gN, gT, gsCons, gsNil, Option.bind, GoesD, four_lt, and_self, Bool.and_true, Bool.true_and, Bool.and_false, Bool.false_and, Bool.or_true, Bool.true_or, Bool.or_false, Bool.false_or, $[$ts:term],*])
section
/-- the memory while something is drawn -/
def stM (cs ls : List Int) (i : Int) (rest : Mem) : Mem := .lst (ls.map .int) :: dS cs i (.int 0) :: rest
structure StOk (cs ls : List Int) (i : Int) : Prop where
  c0 : 0 < cs.length
  c63 : cs.length ≤ 63
  ll : ls.length = cs.length
  i0 : 0 ≤ i
theorem draw_st {cs ls : List Int} {i : Int} (h : StOk cs ls i) (hi : i < 800000) (k : Int) (hk : 0 < k) (hk2 : k < 1000000) (rest : Mem) :
    ∃ (v : Int) (ls' : List Int), 0 ≤ v ∧ v < k ∧ StOk cs ls' (i + 1) ∧ r__law_draw [.ref 1, .int k] (stM cs ls i rest) = .ok (.int v) (stM cs ls' (i + 1) rest) := by
  obtain ⟨v, l1, a1, b1, c1, e1⟩ := draw_ok cs ls i k (.int 0) rest h.c0 h.c63 h.ll h.i0 (by omega) hk hk2
  exact ⟨v, l1, a1, b1, ⟨h.c0, h.c63, c1, by have := h.i0; omega⟩, e1⟩
theorem two_of (a b : Str) (f : Bool → Str) (ht : f true = a) (hf : f false = b) (v : Int) (h0 : 0 ≤ v) (h1 : v < 2) : ∃ k : Bool, atI [W.str a, W.str b] v = some (.str (f k)) := by
  have : v = 0 ∨ v = 1 := by omega
  rcases this with rfl | rfl
  · exact ⟨true, by rw [ht]; exact atI_get (n := 0) rfl rfl⟩
  · exact ⟨false, by rw [hf]; exact atI_get (n := 1) rfl rfl⟩
theorem three_of (a b : Str) (f : Bool → Str) (hf : f false = a) (ht : f true = b) (v : Int) (h0 : 0 ≤ v) (h1 : v < 3) : ∃ k : Bool, atI [W.str a, W.str b, W.str b] v = some (.str (f k)) := by
  have : v = 0 ∨ v = 1 ∨ v = 2 := by omega
  rcases this with rfl | rfl | rfl
  · exact ⟨false, by rw [hf]; exact atI_get (n := 0) rfl rfl⟩
  · exact ⟨true, by rw [ht]; exact atI_get (n := 1) rfl rfl⟩
  · exact ⟨true, by rw [ht]; exact atI_get (n := 2) rfl rfl⟩
theorem back_of (v : Int) (h0 : 0 ≤ v) (h1 : v < 3) : ∃ k : Bk, atI [W.str "asks", W.str "old", W.str "tells"] v = some (.str k.s) := by
  have : v = 0 ∨ v = 1 ∨ v = 2 := by omega
  rcases this with rfl | rfl | rfl
  · exact ⟨.asks, atI_get (n := 0) rfl rfl⟩
  · exact ⟨.old, atI_get (n := 1) rfl rfl⟩
  · exact ⟨.tells, atI_get (n := 2) rfl rfl⟩
theorem up_range (n : Nat) : upFrom 0 n = (List.range n).map fun i => W.int (i : Nat) := by
  refine List.ext_getElem? fun i => ?_
  by_cases hi : i < n
  · rw [upFrom_get 0 _ i hi, List.getElem?_map, List.getElem?_range hi]
    simp
  · rw [List.getElem?_eq_none (by rw [upFrom_len]; omega), List.getElem?_eq_none (by simp; omega)]
theorem rng2_a : (-(2 ^ 62) ≤ (0 : Int) ∧ (0 : Int) < 2 ^ 62) := ⟨by omega, by omega⟩
theorem rng2_b (n : Nat) (hlen : n < 100000) : -(2 ^ 62) ≤ ((n : Nat) : Int) ∧ ((n : Nat) : Int) < 2 ^ 62 ∧ ((n : Nat) : Int) - 0 ≤ 16777216 := ⟨by omega, by omega, by omega⟩
theorem rng2_c (n : Nat) : (((n : Nat) : Int) - 0).toNat = n := by omega
theorem rng2_ok (n : Nat) (hlen : n < 100000) (m : Mem) (f g : DE) (r : Rho) (hf : f r m = .ok (.int 0) m) (hg : g r m = .ok (.int (n : Nat)) m) : iRng (aCons f (aCons g aNil)) r m = .ok ((List.range n).map fun k => W.int (k : Nat)) m := by
  simp only [iRng, aCons, aNil, hf, hg, Dn.R.bind]
  rw [if_pos ⟨rng2_a, rng2_b n hlen⟩, rng2_c, up_range]
theorem rng1_b (n : Nat) (hlen : n < 100000) : -(2 ^ 62) ≤ ((n : Nat) : Int) ∧ ((n : Nat) : Int) ≤ 16777216 := ⟨by omega, by omega⟩
theorem rng1_ok (n : Nat) (hlen : n < 100000) (m : Mem) (f : DE) (r : Rho) (hf : f r m = .ok (.int (n : Nat)) m) : iRng (aCons f aNil) r m = .ok ((List.range n).map fun k => W.int (k : Nat)) m := by
  simp only [iRng, aCons, aNil, hf, Dn.R.bind]
  rw [if_pos (rng1_b n hlen), Int.toNat_natCast, up_range]
theorem minW_i {m : Mem} {i j : Int} : minW m [.int i, .int j] = some (.int (min i j)) := by
  simp only [minW]
  first | rfl | (congr 2; omega) | (split <;> congr 2 <;> omega)
theorem lenW_o {m : Mem} {xs : List W} : lenW m [.old xs] = some (.int (xs.length : Nat)) := rfl
end
end L
/-! Q2: expressions and tests put together, where nothing changes. -/
namespace Dn
section
variable {r : Rho} {m : Mem} {f g : DE} {c d : DT} {a b : Bool} {x y z : W}
theorem eOr_ok (h1 : f r m = .ok (.bl a) m) (h2 : a = false → g r m = .ok (.bl b) m) : eOr f g r m = .ok (.bl (a || b)) m := by
  unfold eOr
  rw [h1]
  cases a with
  | true => rfl
  | false => exact h2 rfl
theorem eAnd_ok (h1 : f r m = .ok (.bl a) m) (h2 : a = true → g r m = .ok (.bl b) m) : eAnd f g r m = .ok (.bl (a && b)) m := by
  unfold eAnd
  rw [h1]
  cases a with
  | false => rfl
  | true => exact h2 rfl
theorem eBin_ok {o : Mem → W → W → Option W} (h1 : f r m = .ok x m) (h2 : g r m = .ok y m) (h3 : o m x y = some z) : eBin o f g r m = .ok z m := by
  unfold eBin
  rw [h1]
  show ((g r m).bind fun b m2 => match o m2 x b with | some w => Dn.R.ok w m2 | none => .bad) = _
  rw [h2]
  show (match o m x y with | some w => Dn.R.ok w m | none => .bad) = _
  rw [h3]
theorem dTest_ok (h : f r m = .ok (.bl a) m) : dTest f r m = .ok a m := by
  unfold dTest
  rw [h]
  rfl
theorem dOr_ok (h1 : c r m = .ok a m) (h2 : a = false → d r m = .ok b m) : dOr c d r m = .ok (a || b) m := by
  unfold dOr
  rw [h1]
  cases a with
  | true => rfl
  | false => exact h2 rfl
theorem dAnd_ok (h1 : c r m = .ok a m) (h2 : a = true → d r m = .ok b m) : dAnd c d r m = .ok (a && b) m := by
  unfold dAnd
  rw [h1]
  cases a with
  | false => rfl
  | true => exact h2 rfl
theorem dNot_ok (h : c r m = .ok a m) : dNot c r m = .ok (!a) m := by
  unfold dNot
  rw [h]
  rfl
theorem sIf_ok {s t : DS} (h : c r m = .ok a m) : sIf c s t r m = if a = true then s r m else t r m := by
  unfold sIf
  rw [h]
  rfl
theorem sRet_ok (h : f r m = .ok x m) : sRet f r m = .ret x m := by
  unfold sRet
  rw [h]
  rfl
theorem sSet_ok {i : Nat} (h : f r m = .ok x m) : sSet i f r m = .next (r.set i (some x)) m := by
  unfold sSet
  rw [h]
  rfl
theorem seqN {s t : DS} {r' : Rho} {m' : Mem} (h : s r m = .next r' m') : sSeq s t r m = t r' m' := by
  unfold sSeq
  rw [h]
theorem seqR {s t : DS} {m' : Mem} (h : s r m = .ret x m') : sSeq s t r m = .ret x m' := by
  unfold sSeq
  rw [h]
theorem sExpr_ok (h : f r m = .ok x m) : sExpr f r m = .next r m := by
  unfold sExpr
  rw [h]
  rfl
end
end Dn
namespace L
open PySem PySem.Spec PyProof.Rows L2 Dn Rm
local macro_rules | `(tactic| wp_walk using $ts,*) => `(tactic| simp only [runD, start0, start1, start2, start3, start4, start5, sSeq, sSet, sRet, sExpr, sIf, sNil, sCont, sRetN, sPass, sBrk, sBad, sAsg, sSub, sFor, sPar, sAug, sPut, sPutA, eVar, eC, eBin, eFn, eCall, eAnd, eOr, eNot, eIf, eTup, eLst, eLstM, eIsi, eFz, eNw, aComp, iSeq, iEnumW, eFld, eMeth, eMake, eSl, oNone, oSome, eRev, eIdx, eChain, eApp, eFrz, dTest, dAnd, dOr, dNot, aNil, aCons, aStar, Dn.R.bind, R.thenS, List.length_cons, List.length_nil, List.length_map, List.replicate, List.set, List.getElem?_cons_zero, List.getElem?_cons_succ, List.cons_append, List.nil_append, Nat.reduceAdd, Nat.reduceSub, Nat.zero_add, if_true, if_false, Bool.false_eq_true, Bool.not_true, Bool.not_false, decide_true, decide_false, addW_i, subW_i, addI_i, intW_i, gtW_i, geW_i, ltW_i, leW_i, tupleW_l, tupleW_t, lenW_t, lenW_l, eqM_int, neM_int, inM_ints, inM_intsL, ixM_t, ixM_l, lstOf, seqOf, trkOf, wipeR, Nat.reduceLeDiff, rule0, rule1, rule2, rule3, rule4, rule5, rule6, gN, gT, gsCons, gsNil, Option.bind, GoesD, four_lt, and_self, Bool.and_true, Bool.true_and, Bool.and_false, Bool.false_and, Bool.or_true, Bool.true_or, Bool.or_false, Bool.false_or, $[$ts:term],*])
/-! Y1: errors by hand: their classes; those with one field, in rows. -/
def isTrue : R W → Bool
  | .ok (.bl true) _ => true
  | _ => false
theorem isTrue_ok {q : R W} (h : isTrue q = true) : ∃ m, q = .ok (.bl true) m := by
  unfold isTrue at h
  split at h
  · exact ⟨_, rfl⟩
  · cases h
theorem classes_k : isTrue (runD 5 d__law_classes_right [] []) = true := by kernel_rfl
theorem classes_ok (m : Mem) : r__law_classes_right [] m = .ok (.bl true) m := by
  obtain ⟨m1, h⟩ := isTrue_ok classes_k
  exact pw_g (m1 := m1) rfl h rfl
/-- some errors of one field, all made with the same -/
def mksA (l : List (Nat × Str)) (f : DE) : DA := l.foldr (fun p t => aCons (eMkX p.1 [p.2] (aCons f aNil)) t) aNil
def mkd (l : List (Nat × Str)) (a : W) : Mem := l.map fun p => .exn p.1 [(p.2, a)]
theorem mk_ok {c : Nat} {x : Str} {f : DE} {r : Rho} {m : Mem} {a : W} (h : f r m = .ok a m) : eMkX c [x] (aCons f aNil) r m = .ok (.ref m.length) (m ++ [.exn c [(x, a)]]) := by
  simp only [eMkX, aCons, aNil, h, Dn.R.bind, List.length_cons, List.length_nil, Nat.reduceAdd, Nat.reduceLeDiff, and_self, if_true, List.zip_cons_cons, List.zip_nil_right, List.reverse_cons, List.reverse_nil, List.nil_append]
theorem mksA_ok {f : DE} {r : Rho} {a : W} (h : ∀ m, f r m = .ok a m) : ∀ (l : List (Nat × Str)) (m : Mem), mksA l f r m = .ok ((List.range l.length).map fun k => .ref (m.length + k)) (m ++ mkd l a)
  | [], m => by simp [mksA, mkd, aNil]
  | p :: l, m => by
    have ih := mksA_ok h l (m ++ [.exn p.1 [(p.2, a)]])
    show (eMkX p.1 [p.2] (aCons f aNil) r m).bind _ = _
    rw [mk_ok (h m)]
    simp only [Dn.R.bind]
    show (mksA l f r _).bind _ = _
    rw [ih]
    simp only [Dn.R.bind]
    congr 1
    · rw [List.length_cons, List.range_succ_eq_map, List.map_cons, List.map_map]
      congr 1
      apply List.map_congr_left
      intro k _
      simp only [Function.comp, List.length_append, List.length_singleton]
      congr 1
      omega
    · simp [mkd]
theorem mkd_at {l : List (Nat × Str)} {a : W} {m rest : Mem} {k : Nat} {p : Nat × Str} (h : l[k]? = some p) : exnOf (m ++ mkd l a ++ rest) (.ref (m.length + k)) = some (p.1, [(p.2, a)]) := by
  have hk := (List.getElem?_eq_some_iff.mp h).1
  have e : (m ++ mkd l a ++ rest)[m.length + k]? = some (.exn p.1 [(p.2, a)]) := by
    rw [List.append_assoc, List.getElem?_append_right (by omega), Nat.add_sub_cancel_left, List.getElem?_append_left (by simp [mkd]; exact hk)]
    simp [mkd, h]
  simp only [exnOf, e]
/-- the field of each -/
theorem fields_all {cs : List Nat} {x : Str} {l : List (Nat × Str)} {a : W} {m rest : Mem} {r : Rho} {j : Nat} (hj : j < r.length) (hl : ∀ p, p ∈ l → cs.contains p.1 = true ∧ p.2 = x) :
    compL (gN j) dYes (eXk cs x (eVar j)) [j] ((List.range l.length).map fun k => .ref (m.length + k)) r (m ++ mkd l a ++ rest) = .ok (List.replicate l.length a) (m ++ mkd l a ++ rest) := by
  have q := compL_all (t := gN j) (f := eXk cs x (eVar j)) (vs := [j]) (r := r) (m := m ++ mkd l a ++ rest) (fun k : Nat => W.ref (m.length + k)) (fun _ => a) (fun k => (wipeR r [j]).set j (some (.ref (m.length + k)))) (List.range l.length)
    (fun k hk => by
      unfold gN
      rfl) (fun k hk => by
      have hk : k < l.length := List.mem_range.mp hk
      have e1 : ((wipeR r [j]).set j (some (W.ref (m.length + k))))[j]? = some (some (.ref (m.length + k))) := by
        rw [List.getElem?_set_self]
        simpa [wipeR] using hj
      obtain ⟨h1, h2⟩ := hl _ (List.getElem_mem hk)
      have e2 := mkd_at (a := a) (m := m) (rest := rest) (List.getElem?_eq_getElem hk)
      simp only [eXk, eVar, e1, Dn.R.bind, e2, h1, if_true, h2]
      rw [← h2]
      simp)
  rw [q]
  congr 1
  simp [List.map_const']
/-! Y2: errors by hand: what they are made with. -/
/-- the things, d the place of the dict -/
def tOf (d : Nat) : List W := [.non, .bl true, .int 0, .int (-7), .str "text", .tup [], .tup [.int 1, .str "a"], .lst [.int 2, .lst [.int 3]], .ref d, .int 100000000000000000000]
def dOf : List PyData := [.none, .bool true, .int 0, .int (-7), .str "text", .tuple [], .tuple [.int 1, .str "a"], .list [.int 2, .list [.int 3]], .dict [(.str "k", .int 4)], .int 100000000000000000000]
/-- a stands for D, however the memory goes on -/
structure Th (m : Mem) (a : W) (D : PyData) : Prop where
  rd : ∀ (X : Mem) (n : Nat), rdX (m ++ X) (n + 5) a = some D
  mem : D ∈ dOf
theorem Th.app {m : Mem} {a : W} {D : PyData} (h : Th m a D) (X : Mem) : Th (m ++ X) a D := ⟨fun Y n => by rw [List.append_assoc]; exact h.rd _ n, h.mem⟩
theorem th_of {m : Mem} {d : Nat} (h : m[d]? = some (.dct [(.inr "k", .int 4)])) : ∀ (j : Nat) (a : W), (tOf d)[j]? = some a → ∃ D, Th m a D := fun j a e => by
  have hd : ∀ X : Mem, (m ++ X)[d]? = some (.dct [(.inr "k", .int 4)]) := fun X => by rw [List.getElem?_append_left (List.getElem?_eq_some_iff.mp h).1]; exact h
  have g : ∀ D, D ∈ dOf → (∀ (X : Mem) (n : Nat), rdX (m ++ X) (n + 5) a = some D) → ∃ D, Th m a D := fun D h1 h2 => ⟨D, h2, h1⟩
  match j, e with
  | 0, e => cases e; exact g .none (by simp [dOf]) fun X n => by simp only [rdX]
  | 1, e => cases e; exact g (.bool true) (by simp [dOf]) fun X n => by simp only [rdX]
  | 2, e => cases e; exact g (.int 0) (by simp [dOf]) fun X n => by simp only [rdX]
  | 3, e => cases e; exact g (.int (-7)) (by simp [dOf]) fun X n => by simp only [rdX]
  | 4, e => cases e; exact g (.str "text") (by simp [dOf]) fun X n => by simp only [rdX]
  | 5, e => cases e; exact g (.tuple []) (by simp [dOf]) fun X n => by simp only [rdX, List.map_nil, allO, Option.map_some]
  | 6, e => cases e; exact g (.tuple [.int 1, .str "a"]) (by simp [dOf]) fun X n => by simp only [rdX, List.map_nil, List.map_cons, allO, Option.map_some]
  | 7, e => cases e; exact g (.list [.int 2, .list [.int 3]]) (by simp [dOf]) fun X n => by simp only [rdX, List.map_nil, List.map_cons, allO, Option.map_some]
  | 8, e => cases e; exact g (.dict [(.str "k", .int 4)]) (by simp [dOf]) fun X n => by simp only [rdX, hd X, List.map_nil, List.map_cons, allO, Option.map_some, keyP, List.zip_cons_cons, List.zip_nil_right]
  | 9, e => cases e; exact g (.int 100000000000000000000) (by simp [dOf]) fun X n => by simp only [rdX]
  | n + 10, e => cases e
/-- what can be shown -/
def okD (d : PyData) : Bool := decide (d.depth ≤ 60) && d.showable && decide (d.shown.length ≤ 16777216)
theorem ok_rep : (dOf.all fun D => [2, 4, 11].all fun k => okD (.list (List.replicate k D))) = true := by kernel_rfl
theorem ok_two : (dOf.all fun D => dOf.all fun E => okD (.tuple [D, E])) = true := by kernel_rfl
theorem allO_rep {α : Type} {x : α} : ∀ n : Nat, allO (List.replicate n (some x)) = some (List.replicate n x)
  | 0 => rfl
  | n + 1 => by rw [List.replicate_succ, allO, allO_rep n]; rfl
theorem repr_rep {m : Mem} {a : W} {D : PyData} (h : Th m a D) {k : Nat} (hk : k ∈ [2, 4, 11]) : reprX m [.lst (List.replicate k a)] = some (.str (PyData.list (List.replicate k D)).shown) := by
  have e1 : rdX m 20 (.lst (List.replicate k a)) = some (.list (List.replicate k D)) := by
    have e0 := h.rd [] 14
    rw [List.append_nil] at e0
    show (allO ((List.replicate k a).map (rdX m 19))).map PyData.list = _
    rw [List.map_replicate, e0, allO_rep]
    rfl
  have e2 : okD (.list (List.replicate k D)) = true := List.all_eq_true.mp (List.all_eq_true.mp ok_rep D h.mem) k hk
  unfold okD at e2
  simp only [reprX, e1, e2, if_true]
theorem repr_two {m : Mem} {a b : W} {D E : PyData} (h : Th m a D) (g : Th m b E) : reprX m [.tup [a, b]] = some (.str (PyData.tuple [D, E]).shown) := by
  have e1 : rdX m 20 (.tup [a, b]) = some (.tuple [D, E]) := by
    have e0 := h.rd [] 14
    have e2 := g.rd [] 14
    rw [List.append_nil] at e0 e2
    show (allO ([a, b].map (rdX m 19))).map PyData.tuple = _
    simp only [List.map_cons, List.map_nil, e0, e2, allO, Option.map_some]
  have e2 : okD (.tuple [D, E]) = true := List.all_eq_true.mp (List.all_eq_true.mp ok_two D h.mem) E g.mem
  unfold okD at e2
  simp only [reprX, e1, e2, if_true]
theorem eqS_one {m : Mem} (x : Str) : eqS m (.str x) (.str x) = some (.bl true) := by
  simp only [eqS, BEq.rfl]
theorem mul_lY {m : Mem} (xs : List W) (k : Int) (h0 : 0 ≤ k) (h1 : k < 100) (h : xs.length ≤ 100000) : mulW m (.lst xs) (.int k) = some (.lst (List.replicate k.toNat xs).flatten) := by
  show mulL m (.lst xs) (.int k) = _
  simp only [mulL, trkOf]
  refine if_pos ⟨by omega, by omega, ?_⟩
  have : k.toNat ≤ 100 := by omega
  calc xs.length * k.toNat ≤ 100000 * 100 := Nat.mul_le_mul h this
    _ ≤ 16777216 := by decide
theorem mul_one {m : Mem} (a : W) (k : Nat) (hk : k ∈ [2, 4, 11]) : mulW m (.lst [a]) (.int (k : Nat)) = some (.lst (List.replicate k a)) := by
  have h2 : k < 100 := by
    simp only [List.mem_cons, List.not_mem_nil, or_false] at hk
    omega
  rw [mul_lY [a] (k : Int) (by omega) (by omega) (by simp)]
  simp
theorem fn_one {o : Mem → List W → Option W} {f : DE} {r : Rho} {m : Mem} {w u : W} (h : f r m = .ok w m) (q : o m [w] = some u) : eFn o (aCons f aNil) r m = .ok u m := by
  simp only [eFn, aCons, aNil, h, Dn.R.bind, q]
theorem lst_one {f : DE} {r : Rho} {m : Mem} {w : W} (h : f r m = .ok w m) : eLst (aCons f aNil) r m = .ok (.lst [w]) m := by
  simp only [eLst, aCons, aNil, h, Dn.R.bind, List.length_cons, List.length_nil, Nat.reduceAdd, Nat.reduceLeDiff, if_true]
theorem all_are_ok {m : Mem} {a : W} {D : PyData} (h : Th m a D) {k : Nat} (hk : k ∈ [2, 4, 11]) : r__law_all_are [.lst (List.replicate k a), a] m = .ok (.bl true) m := by
  have v0 : eVar 0 [some (W.lst (List.replicate k a)), some a] m = .ok (.lst (List.replicate k a)) m := rfl
  have v1 : eVar 1 [some (W.lst (List.replicate k a)), some a] m = .ok a m := rfl
  have q3 : lenW m [.lst (List.replicate k a)] = some (.int (k : Nat)) := by
    rw [lenW_l, List.length_replicate]
  have e1 := fn_one v0 (repr_rep h hk)
  have e2 := fn_one v0 q3
  have e3 := eBin_ok (lst_one v1) e2 (mul_one a k hk)
  have e4 := fn_one e3 (repr_rep h hk)
  have e5 := sRet_ok (eBin_ok e1 e4 (eqS_one _))
  have s2 : startW 2 [W.lst (List.replicate k a), a] = [some (.lst (List.replicate k a)), some a] := rfl
  show runD 2 s__law_all_are_0 _ _ = _
  unfold s__law_all_are_0
  simp only [runD, s2, e5]
/-! ### the row of tests -/
abbrev L1 : List (Nat × Str) := [(3, "number"), (4, "number"), (5, "number")]
abbrev L2a : List (Nat × Str) := [(7, "given"), (8, "given"), (9, "given"), (10, "given"), (11, "given"), (12, "given")]
abbrev L2b : List (Nat × Str) := [(13, "given"), (14, "given"), (15, "given"), (16, "given"), (18, "given")]
def refs (n k : Nat) : List W := (List.range k).map fun j => .ref (n + j)
theorem refs_len (n k : Nat) : (refs n k).length = k := by simp [refs]
theorem refs_app (n j k : Nat) : refs n j ++ refs (n + j) k = refs n (j + k) := by
  unfold refs
  rw [List.range_add, List.map_append, List.map_map]
  congr 1
  apply List.map_congr_left
  intro i _
  simp only [Function.comp]
  congr 1
  omega
abbrev rhF (a b : W) (x2 x3 x4 : Option W) : Rho := [some a, some b, x2, x3, x4]
section
variable {m : Mem} {a b : W} {x2 x3 x4 : Option W}
theorem var0 (m : Mem) : eVar 0 (rhF a b x2 x3 x4) m = .ok a m := rfl
theorem xk_new {c : Nat} {cs : List Nat} {x : Str} (hc : cs.contains c = true) : eXk cs x (eMkX c [x] (aCons (eVar 0) aNil)) (rhF a b x2 x3 x4) m = .ok a (m ++ [.exn c [(x, a)]]) := by
  have e : exnOf (m ++ [Cell.exn c [(x, a)]]) (.ref m.length) = some (c, [(x, a)]) := by simp [exnOf]
  have e2 : List.lookup x [(x, a)] = some a := by simp
  simp only [eXk, mk_ok (var0 m), Dn.R.bind, e, hc, if_true, e2]
theorem st0 : s__law_fields_right_0 (rhF a b x2 x3 x4) m = .next (rhF a b (some (.lst (refs m.length 3))) x3 x4) (m ++ mkd L1 a) := by
  show sSet 2 (eLst (mksA L1 (eVar 0))) _ _ = _
  simp only [sSet, eLst, mksA_ok var0, Dn.R.bind, R.thenS, List.length_map, List.length_range, List.length_cons, List.length_nil, Nat.reduceAdd, Nat.reduceLeDiff, if_true]
  rfl
theorem addL_l {m : Mem} {xs ys : List W} (h : xs.length + ys.length ≤ 16777216) : addW m (.lst xs) (.lst ys) = some (.lst (xs ++ ys)) := by
  simp only [addW, addL, trkOf, h, if_true]
theorem st1 {D : PyData} (h : Th m a D) : s__law_fields_right_1 (rhF a b (some (.lst (refs m.length 3))) x3 x4) (m ++ mkd L1 a) = .next (rhF a b (some (.lst (refs m.length 3))) x3 x4) (m ++ mkd L1 a ++ [.exn 1 [("place", a)]]) := by
  have h1 := xk_new (m := m ++ mkd L1 a) (a := a) (b := b) (x2 := some (.lst (refs m.length 3))) (x3 := x3) (x4 := x4) (c := 1) (cs := cs_place) (x := "place") (by decide)
  have h2 := fields_all (cs := cs_number) (x := "number") (l := L1) (a := a) (m := m) (rest := [.exn 1 [("place", a)]]) (r := rhF a b (some (.lst (refs m.length 3))) x3 x4) (j := 4) (by simp) (fun p hp => by
    simp only [List.mem_cons, List.not_mem_nil, or_false] at hp
    rcases hp with rfl | rfl | rfl <;> exact ⟨by decide, rfl⟩)
  have h2 : compL (gN 4) dYes (eXk cs_number "number" (eVar 4)) [4] (refs m.length 3) (rhF a b (some (.lst (refs m.length 3))) x3 x4) (m ++ mkd L1 a ++ [.exn 1 [("place", a)]]) = .ok (List.replicate 3 a) (m ++ mkd L1 a ++ [.exn 1 [("place", a)]]) := h2
  have h3 : addW (m ++ mkd L1 a ++ [.exn 1 [("place", a)]]) (.lst [a]) (.lst (List.replicate 3 a)) = some (.lst (List.replicate 4 a)) := addL_l (by simp)
  have h4 := all_are_ok ((h.app (mkd L1 a)).app [.exn 1 [("place", a)]]) (k := 4) (by simp)
  unfold s__law_fields_right_1
  have v2 : (rhF a b (some (.lst (refs m.length 3))) x3 x4)[2]? = some (some (.lst (refs m.length 3))) := rfl
  simp only [sIf, dNot, dTest, eCall, aCons, aNil, eBin, eLst, h1, Dn.R.bind, List.length_cons, List.length_nil, Nat.reduceAdd, Nat.reduceLeDiff, if_true, eFz, aComp, iSeq, eVar, v2, h2, h3, List.getElem?_cons_zero, h4, R.thenS, Bool.not_true, Bool.false_eq_true, if_false, sNil]
theorem st2 {D : PyData} (h : Th m a D) : s__law_fields_right_2 (rhF a b x2 x3 x4) m = .next (rhF a b x2 x3 x4) (m ++ [.exn 6 [("part", a)]] ++ [.exn 17 [("most", a)]]) := by
  have h1 := xk_new (m := m) (a := a) (b := b) (x2 := x2) (x3 := x3) (x4 := x4) (c := 6) (cs := cs_part) (x := "part") (by decide)
  have h2 := xk_new (m := m ++ [.exn 6 [("part", a)]]) (a := a) (b := b) (x2 := x2) (x3 := x3) (x4 := x4) (c := 17) (cs := cs_most) (x := "most") (by decide)
  have h4 : r__law_all_are [.lst [a, a], a] (m ++ [.exn 6 [("part", a)]] ++ [.exn 17 [("most", a)]]) = _ := all_are_ok ((h.app [.exn 6 [("part", a)]]).app [.exn 17 [("most", a)]]) (k := 2) (by simp)
  unfold s__law_fields_right_2
  simp only [sIf, dNot, dTest, eCall, aCons, aNil, eLst, h1, h2, Dn.R.bind, List.length_cons, List.length_nil, Nat.reduceAdd, Nat.reduceLeDiff, if_true, eVar, List.getElem?_cons_zero, h4, R.thenS, Bool.not_true, Bool.false_eq_true, if_false, sNil]
theorem st3 : s__law_fields_right_3 (rhF a b x2 x3 x4) m = .next (rhF a b (some (.lst (refs m.length 6))) x3 x4) (m ++ mkd L2a a) := by
  show sSet 2 (eLst (mksA L2a (eVar 0))) _ _ = _
  simp only [sSet, eLst, mksA_ok var0, Dn.R.bind, R.thenS, List.length_map, List.length_range, List.length_cons, List.length_nil, Nat.reduceAdd, Nat.reduceLeDiff, if_true]
  rfl
theorem st4 : s__law_fields_right_4 (rhF a b (some (.lst (refs m.length 6))) x3 x4) (m ++ mkd L2a a) = .next (rhF a b (some (.lst (refs m.length 11))) x3 x4) (m ++ mkd (L2a ++ L2b) a) := by
  show sSet 2 (eBin addW (eVar 2) (eLst (mksA L2b (eVar 0)))) _ _ = _
  have v2 : (rhF a b (some (.lst (refs m.length 6))) x3 x4)[2]? = some (some (.lst (refs m.length 6))) := rfl
  have e : (m ++ mkd L2a a).length = m.length + 6 := by simp [mkd]
  have h3 : addW (m ++ mkd L2a a ++ mkd L2b a) (.lst (refs m.length 6)) (.lst ((List.range 5).map fun k => .ref ((m ++ mkd L2a a).length + k))) = some (.lst (refs m.length 11)) := by
    rw [e, addL_l (by simp [refs])]
    exact congrArg (fun l => some (W.lst l)) (refs_app m.length 6 5)
  have e2 : m ++ mkd L2a a ++ mkd L2b a = m ++ mkd (L2a ++ L2b) a := by simp [mkd]
  rw [e2] at h3
  simp only [sSet, eBin, eVar, v2, eLst, mksA_ok var0, Dn.R.bind, R.thenS, List.length_map, List.length_range, List.length_cons, List.length_nil, Nat.reduceAdd, Nat.reduceLeDiff, if_true, h3, e2]
  rfl
theorem st5 {D : PyData} (h : Th m a D) : s__law_fields_right_5 (rhF a b (some (.lst (refs m.length 11))) x3 x4) (m ++ mkd (L2a ++ L2b) a) = .next (rhF a b (some (.lst (refs m.length 11))) x3 x4) (m ++ mkd (L2a ++ L2b) a) := by
  have h2 := fields_all (cs := cs_given) (x := "given") (l := L2a ++ L2b) (a := a) (m := m) (rest := []) (r := rhF a b (some (.lst (refs m.length 11))) x3 x4) (j := 4) (by simp) (fun p hp => by
    simp only [List.cons_append, List.nil_append, List.mem_cons, List.not_mem_nil, or_false] at hp
    rcases hp with rfl | rfl | rfl | rfl | rfl | rfl | rfl | rfl | rfl | rfl | rfl <;> exact ⟨by decide, rfl⟩)
  rw [List.append_nil] at h2
  have h2 : compL (gN 4) dYes (eXk cs_given "given" (eVar 4)) [4] (refs m.length 11) (rhF a b (some (.lst (refs m.length 11))) x3 x4) (m ++ mkd (L2a ++ L2b) a) = .ok (List.replicate 11 a) (m ++ mkd (L2a ++ L2b) a) := h2
  have h4 := all_are_ok (h.app (mkd (L2a ++ L2b) a)) (k := 11) (by simp)
  have v2 : (rhF a b (some (.lst (refs m.length 11))) x3 x4)[2]? = some (some (.lst (refs m.length 11))) := rfl
  unfold s__law_fields_right_5
  simp only [sIf, dNot, dTest, eCall, aCons, aNil, Dn.R.bind, List.length_cons, List.length_nil, Nat.reduceAdd, Nat.reduceLeDiff, if_true, eFz, aComp, iSeq, eVar, v2, h2, List.getElem?_cons_zero, h4, R.thenS, Bool.not_true, Bool.false_eq_true, if_false, sNil]
theorem st6 : s__law_fields_right_6 (rhF a b x2 x3 x4) m = .next (rhF a b x2 (some (.ref m.length)) x4) (m ++ [.exn 2 [("place", b), ("line", a)]]) := by
  unfold s__law_fields_right_6
  simp only [sSet, eMkX, aCons, aNil, eVar, List.getElem?_cons_zero, List.getElem?_cons_succ, Dn.R.bind, R.thenS, List.length_cons, List.length_nil, Nat.reduceAdd, Nat.reduceLeDiff, and_self, if_true, List.zip_cons_cons, List.zip_nil_right, List.reverse_cons, List.reverse_nil, List.nil_append, List.cons_append, List.set_cons_zero, List.set_cons_succ]
theorem st7 {D E : PyData} (h : Th m a D) (g : Th m b E) : s__law_fields_right_7 (rhF a b x2 (some (.ref m.length)) x4) (m ++ [.exn 2 [("place", b), ("line", a)]]) = .ret (.bl true) (m ++ [.exn 2 [("place", b), ("line", a)]]) := by
  have e : exnOf (m ++ [Cell.exn 2 [("place", b), ("line", a)]]) (.ref m.length) = some (2, ([("place", b), ("line", a)] : List (Str × W))) := by simp [exnOf]
  have c1 : cs_line.contains 2 = true := by decide
  have c2 : cs_place.contains 2 = true := by decide
  have l1 : List.lookup ("line" : Str) [(("place" : Str), b), ("line", a)] = some a := rfl
  have l2 : List.lookup ("place" : Str) [(("place" : Str), b), ("line", a)] = some b := rfl
  have rp := repr_two (h.app [.exn 2 [("place", b), ("line", a)]]) (g.app [.exn 2 [("place", b), ("line", a)]])
  unfold s__law_fields_right_7
  simp only [sRet, eBin, eFn, aCons, aNil, eTup, eXk, eVar, List.getElem?_cons_zero, List.getElem?_cons_succ, Dn.R.bind, R.thenS, e, c1, c2, l1, l2, if_true, List.length_cons, List.length_nil, Nat.reduceAdd, Nat.reduceLeDiff, rp, eqS_one]
/-- whether all errors have what they are made with -/
theorem fields_ok {D E : PyData} (h : Th m a D) (g : Th m b E) : ∃ X : Mem, r__law_fields_right [a, b] m = .ok (.bl true) (m ++ X) := by
  have s5 : startW 5 [a, b] = rhF a b none none none := rfl
  have h3 := h.app (mkd L1 a) |>.app [.exn 1 [("place", a)]]
  have h4 := h3.app [.exn 6 [("part", a)]] |>.app [.exn 17 [("most", a)]]
  have h5 := h4.app (mkd (L2a ++ L2b) a)
  have g5 := (((((g.app (mkd L1 a)).app [.exn 1 [("place", a)]]).app [.exn 6 [("part", a)]]).app [.exn 17 [("most", a)]]).app (mkd (L2a ++ L2b) a))
  refine ⟨mkd L1 a ++ [.exn 1 [("place", a)]] ++ [.exn 6 [("part", a)]] ++ [.exn 17 [("most", a)]] ++ mkd (L2a ++ L2b) a ++ [.exn 2 [("place", b), ("line", a)]], ?_⟩
  unfold r__law_fields_right d__law_fields_right
  simp only [runD, s5]
  rw [seqN st0, seqN (st1 h), seqN (st2 h3), seqN st3, seqN st4, seqN (st5 h4), seqN st6, st7 h5 g5]
  simp only [List.append_assoc]
end
/-! Y3: errors by hand: the law. -/
theorem pow20 {m : Mem} : powW m (.int 10) (.int 20) = some (.int 100000000000000000000) := by
  simp only [powW, iOp]
  rw [if_pos (by decide)]
  rfl
theorem dict_k {r : Rho} {m : Mem} : eDict [("k", eC (.int 4))] r m = .ok (.ref m.length) (m ++ [.dct [(.inr "k", .int 4)]]) := rfl
theorem neg7 {r : Rho} {m : Mem} : eNeg (eC (.int 7)) r m = .ok (.int (-7)) m := rfl
theorem some_ok {m : Mem} {S : W} {x1 x2 : Option W} : s__law_things_0 [some S, x1, x2] m = .next [some S, some (.lst (tOf m.length)), x2] (m ++ [.dct [(.inr "k", .int 4)]]) := by
  have h1 : eTup aNil [some S, x1, x2] m = .ok (.tup []) m := rfl
  have h2 : eTup (aCons (eC (.int 1)) (aCons (eC (.str "a")) aNil)) [some S, x1, x2] m = .ok (.tup [.int 1, .str "a"]) m := rfl
  have h3 : eLst (aCons (eC (.int 2)) (aCons (eLst (aCons (eC (.int 3)) aNil)) aNil)) [some S, x1, x2] m = .ok (.lst [.int 2, .lst [.int 3]]) m := rfl
  have h4 : eBin powW (eC (.int 10)) (eC (.int 20)) [some S, x1, x2] (m ++ [.dct [(.inr "k", .int 4)]]) = .ok (.int 100000000000000000000) (m ++ [.dct [(.inr "k", .int 4)]]) := eBin_ok rfl rfl pow20
  have hc : ∀ (w : W) (mm : Mem), eC w [some S, x1, x2] mm = .ok w mm := fun _ _ => rfl
  have hl : ∀ (ws : List W) (mm : Mem), ws.length ≤ 16777216 → (if ws.length ≤ 16777216 then R.ok (W.lst ws) mm else R.bad) = R.ok (W.lst ws) mm := fun ws mm h => if_pos h
  unfold s__law_things_0
  simp only [sSet]
  have e : eLst (aCons (eC .non) (aCons (eC (.bl true)) (aCons (eC (.int 0)) (aCons (eNeg (eC (.int 7))) (aCons (eC (.str "text")) (aCons (eTup aNil) (aCons (eTup (aCons (eC (.int 1)) (aCons (eC (.str "a")) aNil))) (aCons (eLst (aCons (eC (.int 2)) (aCons (eLst (aCons (eC (.int 3)) aNil)) aNil))) (aCons (eDict [("k", (eC (.int 4)))]) (aCons (eBin powW (eC (.int 10)) (eC (.int 20))) aNil)))))))))) [some S, x1, x2] m = .ok (.lst (tOf m.length)) (m ++ [.dct [(.inr "k", .int 4)]]) := by
    rw [eLst]
    simp only [aCons, hc, neg7, h1, h2, h3, dict_k, h4, aNil, Dn.R.bind]
    exact hl _ _ (by show 10 ≤ 16777216; decide)
  rw [e]
  rfl
theorem up2 : upFrom 0 2 = [.int 0, .int 1] := rfl
theorem things_ok {cs ls : List Int} {i : Int} (h : StOk cs ls i) (hi : i < 700000) (rest : Mem) :
    ∃ (a b : W) (D E : PyData) (ls' : List Int) (rest' : Mem), StOk cs ls' (i + 2) ∧ Th (stM cs ls' (i + 2) rest') a D ∧ Th (stM cs ls' (i + 2) rest') b E ∧ r__law_things [.ref 1] (stM cs ls i rest) = .ok (.lst [a, b]) (stM cs ls' (i + 2) rest') := by
  have hm : stM cs ls i rest ++ [.dct [(.inr "k", .int 4)]] = stM cs ls i (rest ++ [.dct [(.inr "k", .int 4)]]) := rfl
  obtain ⟨v, l1, v0, v1, st1, e1⟩ := draw_st h (by omega) 10 (by decide) (by decide) (rest ++ [.dct [(.inr "k", .int 4)]])
  obtain ⟨u, l2, u0, u1, st2, e2⟩ := draw_st st1 (by omega) 10 (by decide) (by decide) (rest ++ [.dct [(.inr "k", .int 4)]])
  have hd : (stM cs l2 (i + 2) (rest ++ [.dct [(.inr "k", .int 4)]]))[(stM cs ls i rest).length]? = some (.dct [(.inr "k", .int 4)]) := by
    have : (stM cs ls i rest).length = rest.length + 2 := rfl
    rw [this]
    show (rest ++ [Cell.dct [(.inr "k", .int 4)]])[rest.length]? = _
    simp
  have e3 : i + 1 + 1 = i + 2 := by omega
  rw [e3] at st2 e2
  have pick : ∀ (m : Mem) (x : Int), 0 ≤ x → x < 10 → ∃ a, (tOf (stM cs ls i rest).length)[x.toNat]? = some a ∧ ixM m (.lst (tOf (stM cs ls i rest).length)) (.int x) = some a := fun m x x0 x1 => by
    have hx : x.toNat < (tOf (stM cs ls i rest).length).length := by show x.toNat < 10; omega
    exact ⟨_, List.getElem?_eq_getElem hx, atI_get (n := x.toNat) (by omega) (List.getElem?_eq_getElem hx)⟩
  obtain ⟨a, a1, a2⟩ := pick (stM cs l1 (i + 1) (rest ++ [.dct [(.inr "k", .int 4)]])) v v0 v1
  obtain ⟨b, b1, b2⟩ := pick (stM cs l2 (i + 2) (rest ++ [.dct [(.inr "k", .int 4)]])) u u0 u1
  obtain ⟨D, hD⟩ := th_of hd _ a a1
  obtain ⟨E, hE⟩ := th_of hd _ b b1
  refine ⟨a, b, D, E, l2, rest ++ [.dct [(.inr "k", .int 4)]], st2, hD, hE, ?_⟩
  have s3 : startW 3 [W.ref 1] = [some (.ref 1), none, none] := rfl
  unfold r__law_things d__law_things
  simp only [runD, s3]
  rw [seqN some_ok, hm]
  have hlen : ∀ m : Mem, lenW m [.lst (tOf (stM cs ls i rest).length)] = some (.int 10) := fun m => rfl
  have body : ∀ (x : Option W) (m m' : Mem) (k : Int) (w : W), r__law_draw [.ref 1, .int 10] m = .ok (.int k) m' → ixM m' (.lst (tOf (stM cs ls i rest).length)) (.int k) = some w →
      eBin ixM (eVar 1) (eCall 2 r__law_draw (aCons (eVar 0) (aCons (eFn lenW (aCons (eVar 1) aNil)) aNil))) [some (.ref 1), some (.lst (tOf (stM cs ls i rest).length)), x] m = .ok w m' := fun x m m' k w q1 q2 => by
    simp only [eBin, eVar, eCall, eFn, aCons, aNil, List.getElem?_cons_zero, List.getElem?_cons_succ, Dn.R.bind, hlen, List.length_cons, List.length_nil, Nat.reduceAdd, if_true, q1, q2]
  have src : iRng (aCons (eC (.int 2)) aNil) [some (.ref 1), some (.lst (tOf (stM cs ls i rest).length)), none] (stM cs ls i (rest ++ [.dct [(.inr "k", .int 4)]])) = .ok [.int 0, .int 1] (stM cs ls i (rest ++ [.dct [(.inr "k", .int 4)]])) := by
    rw [rng1_ok 2 (by decide) _ _ _ rfl]
    rfl
  unfold s__law_things_1
  simp only [sRet, eFz, aComp, src, Dn.R.bind, compL, wipeR, gN, dYes, List.set_cons_zero, List.set_cons_succ, body _ _ _ _ _ e1 a2, body _ _ _ _ _ e2 b2, R.thenS]
abbrev rhL (S : W) (x2 x3 x4 : Option W) : Rho := [some S, some (.ref 1), x2, x3, x4]
theorem turn_ok {cs ls : List Int} {i : Int} (h : StOk cs ls i) (hi : i < 700000) (rest : Mem) (S : W) (x2 x3 x4 : Option W) :
    ∃ (ls' : List Int) (rest' : Mem) (y3 y4 : Option W), StOk cs ls' (i + 2) ∧ b_law_0 (rhL S x2 x3 x4) (stM cs ls i rest) = .next (rhL S x2 y3 y4) (stM cs ls' (i + 2) rest') := by
  obtain ⟨a, b, D, E, ls', rest', st, hD, hE, e⟩ := things_ok h hi rest
  obtain ⟨X, f⟩ := fields_ok hD hE
  have hX : stM cs ls' (i + 2) rest' ++ X = stM cs ls' (i + 2) (rest' ++ X) := rfl
  rw [hX] at f
  refine ⟨ls', rest' ++ X, some a, some b, st, ?_⟩
  unfold b_law_0
  simp only [sSeq, sAsg, eCall, aCons, aNil, eVar, List.getElem?_cons_zero, List.getElem?_cons_succ, Dn.R.bind, R.thenS, List.length_cons, List.length_nil, Nat.reduceAdd, if_true, e, gTL, gsCons, gsNil, gN, Option.bind, List.set_cons_zero, List.set_cons_succ, sIf, dNot, dTest, f, Bool.not_true, Bool.false_eq_true, if_false, sNil]
theorem law_ok : LawOk (fun _ => 0) 63 r_law := fun ns h => by
  obtain ⟨cs, ls, hc1, hc2, hl, e0⟩ := begin_ok ns h
  have st0 : StOk cs ls 0 := ⟨hc1, hc2, hl, by omega⟩
  have e0' : r__law_begin [.old (ns.map .int)] [] = .ok (.ref 1) (stM cs ls 0 []) := e0
  obtain ⟨r', m', e1, ls', i', rest', a2, a3, a4, q1, q2, q3, q4⟩ := loop_pre (t := gN 2) (body := b_law_0) (fun k : Nat => W.int (k : Nat))
    (fun pre r1 m1 => ∃ ls' i' rest' a2 a3 a4, StOk cs ls' i' ∧ i' ≤ 2 * (pre.length : Int) ∧ r1 = rhL (.old (ns.map .int)) a2 a3 a4 ∧ m1 = stM cs ls' i' rest')
    (List.range 4) (rhL (.old (ns.map .int)) none none none) (stM cs ls 0 [])
    ⟨ls, 0, [], none, none, none, st0, by simp, rfl, rfl⟩
    (fun pre x post r1 m1 hx ⟨ls', i', rest', a2, a3, a4, q1, q2, q3, q4⟩ => by
      subst q3 q4
      have hp : pre.length < 4 := by
        have := congrArg List.length hx
        simp at this
        omega
      obtain ⟨l2, rest2, b3, b4, g1, g3⟩ := turn_ok q1 (by omega) rest' (.old (ns.map .int)) (some (.int (x : Nat))) a3 a4
      have g0 : gN 2 (W.int (x : Nat)) (rhL (.old (ns.map .int)) a2 a3 a4) = some (rhL (.old (ns.map .int)) (some (.int (x : Nat))) a3 a4) := rfl
      unfold Steps
      rw [g0]
      show GoesD (b_law_0 _ _) _
      rw [g3]
      refine ⟨l2, i' + 2, rest2, _, _, _, g1, ?_, rfl, rfl⟩
      simp
      omega)
  subst q3 q4
  refine ⟨stM cs ls' i' rest', ?_⟩
  have s5 : startW 5 [W.old (ns.map .int)] = [some (.old (ns.map .int)), none, none, none, none] := rfl
  have s0 : s_law_0 [some (W.old (ns.map .int)), none, none, none, none] [] = .next (rhL (.old (ns.map .int)) none none none) (stM cs ls 0 []) := by
    unfold s_law_0
    simp only [sSet, eCall, aCons, aNil, eVar, List.getElem?_cons_zero, Dn.R.bind, R.thenS, List.length_cons, List.length_nil, Nat.reduceAdd, if_true, e0', List.set_cons_zero, List.set_cons_succ]
  have s1 : s_law_1 (rhL (.old (ns.map .int)) none none none) (stM cs ls 0 []) = .next (rhL (.old (ns.map .int)) a2 a3 a4) (stM cs ls' i' rest') := by
    unfold s_law_1
    have src := rng1_ok 4 (by decide) (stM cs ls 0 []) (eC (.int 4)) (rhL (.old (ns.map .int)) none none none) rfl
    rw [sFor, src]
    exact e1
  have s2 : s_law_2 (rhL (.old (ns.map .int)) a2 a3 a4) (stM cs ls' i' rest') = .ret (.bl true) (stM cs ls' i' rest') := by
    unfold s_law_2
    simp only [sRet, eCall, aNil, Dn.R.bind, R.thenS, List.length_nil, if_true, classes_ok]
  unfold r_law d_law
  simp only [runD, s5]
  rw [seqN s0, seqN s1, s2]
end L
open PySem PySem.W PySem.Calls PyProof.Rows
theorem PySem.Challenge.cw_asklast_k33_errors_by_hand_holds : PySem.Challenge.rw_asklast_k33_errors_by_hand.Holds := by
  w_on; o_law
  refine HandSHeadRun.head_any (r := OpenLaw.row PySem.Challenge.rw_asklast_k33_errors_by_hand) (q := view (OpenLaw.row PySem.Challenge.rw_asklast_k33_errors_by_hand).prog [30]) (H := L.hk) (ob := L.ob) (M := 8000) (loose := L.nms) (d := HandSHeadRun.topDef (OpenLaw.row PySem.Challenge.rw_asklast_k33_errors_by_hand).prog 30) (kwd := []) L.ob_eq
    (by kernel_rfl) (fun s => by kernel_rfl) L.run (by kernel_rfl) (by kernel_rfl) (by kernel_rfl) (by rfl) (by first | assumption | decide +kernel) (by decide +kernel) ⟨rfl, rfl, rfl, rfl, rfl, by decide +kernel⟩ ?hw ?hc
  case hw => w_witness2
  case hc =>
    refine Dn.walkW (l := PySem.Challenge.rw_asklast_k33_errors_by_hand) (k := 5) (x := "_law_script") (cl := L.clf) rfl (by kernel_rfl) ⟨⟨rfl, by decide, by decide⟩, rfl⟩ L.law_ok ?F
    intro w mg fa h Y G hmg0
    obtain ⟨K, KX, c⟩ := Y
    have hmg : mg ("law" : PySem.Str) = some (.ref fa) := by
      have e : (HandSHeadRun.topDef (OpenLaw.row PySem.Challenge.rw_asklast_k33_errors_by_hand).prog 30).name = ("law" : PySem.Str) := by kernel_rfl
      rw [← e]
      exact hmg0
    obtain ⟨fd, hb, hF⟩ := L.facts (P := (PySem.Challenge.rw_asklast_k33_errors_by_hand).prog) (w := w) KX G hmg c rfl (by kernel_rfl)
    exact ⟨K, fd, KX, hb, hF⟩
