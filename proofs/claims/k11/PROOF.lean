import PyProof.Rows.All
import Wide.All
import OpenK.AllK
import Wide.FinOn
import HandS.ForMost
import HandS.ForExc
import HandS.CallSlots
import HandS.TupAny
import HandS.Deep
import HandS.Star
import HandS.Style
import HandS.Defaults
import HandS.IsInst
import HandS.Zip
import KE.GoesMore
import HandS.TupLe
import HandS.Head0
import HandS.Head1
import HandS.Head2
import HandS.HeadEnd
import HandS.HeadHook1
import HandS.HeadHook2
import HandS.TupMul
import HandS.Conv
import KE.SortData
import HandS.SortRule
import HandS.NoneIn
import PyProof.ReprRoads
import PyProof.CallFns
import PyProof.Rows.FactsT3
import KE.DataMinMax
import HandS.SortKw
import PyProof.ReprLen
import PySem.Challenge.RW_asklast_k11_whole_bearing_and_nearest_ru
set_option Elab.async false
set_option linter.all false
set_option maxRecDepth 100000
set_option maxHeartbeats 4000000
/-! D1: plain values W, the memory of what may change, results; how they stand in the layer's heap. -/
namespace Dn
open PySem PySem.Spec PyProof.Rows L2

/-- a value as plain data: tuples and settled lists by their items; what may change by its number in the memory -/
inductive W where
  | non | bl (b : Bool) | int (i : Int) | str (x : Str)
  | tup (xs : List W) | lst (xs : List W) | old (xs : List W) | ref (n : Nat) | raw (v : V)

/-- an object of the memory: a list that may change, one that is settled, a dict, an instance of the class c -/
inductive Cell where
  | lst (xs : List W) | fz (xs : List W) | dct (kvs : List (Key × W)) | ins (c : Nat) (fs : List (Str × W))

abbrev Mem := List Cell
structure Exn where
  cls : Nat
  fs : List (Str × W)

/-- how a run ends: a value, an error, or nothing is told -/
inductive R (α : Type) where
  | ok (a : α) (m : Mem) | exc (x : Exn) (m : Mem) | bad

def R.bind {α β : Type} (r : R α) (k : α → Mem → R β) : R β :=
  match r with
  | .ok a m => k a m
  | .exc x m => .exc x m
  | .bad => .bad
abbrev Rho := List (Option W)
abbrev DE := Rho → Mem → R W
abbrev DT := Rho → Mem → R Bool
abbrev DA := Rho → Mem → R (List W)
/-- how a statement ends -/
inductive RS where
  | next (r : Rho) (m : Mem) | brk (r : Rho) (m : Mem) | cont (r : Rho) (m : Mem) | ret (w : W) (m : Mem) | exc (x : Exn) (r : Rho) (m : Mem) | bad
abbrev DS := Rho → Mem → RS

/-! ### how plain values stand in the heap -/
/-- Z: lists that are settled; hold: what a loop of ours holds as it is; phi: where the memory's objects stand -/
structure Zn where
  Z : Addr → Prop
  hold : Addr → Prop
  phi : List Addr

def KList (K : PySem.W.Frag) (a : Addr) (xs : List V) : Prop :=
  ∃ (o : Obj) (its : Array Value) (n : Nat), K.lookup a = some o ∧ o.cls = .type "list" ∧ o.dict = none ∧ o.data = .seq its n ∧ its.size ≤ sizeLine ∧ Vals xs its.toList
/-- a list of the outside: the script, a module's own -/
def OldL (K : PySem.W.Frag) (H : Hp) (a : Addr) (xs : List V) : Prop := (∃ o, H a = some (.frz o (.lst xs))) ∨ KList K a xs
theorem OldL.sq {K : PySem.W.Frag} {H : Hp} {a : Addr} {xs : List V} (h : OldL K H a xs) : SqL K H a xs := by
  rcases h with h | h
  · exact .inl (.inr h)
  · exact .inr h

mutual
def RW (K : PySem.W.Frag) (z : Zn) (H : Hp) : W → V → Prop
  | .non, v => v = .non
  | .bl b, v => v = .bl b
  | .int i, v => v = .int i
  | .str x, v => v = .str x
  | .tup ws, v => ∃ a vs, v = .ref a ∧ SqT K H a vs ∧ RWs K z H ws vs
  | .lst ws, v => ∃ a vs, v = .ref a ∧ (z.Z a ∧ H a = some (.lst vs)) ∧ RWs K z H ws vs
  | .old ws, v => ∃ a vs, v = .ref a ∧ OldL K H a vs ∧ RWs K z H ws vs
  | .ref n, v => ∃ a, z.phi[n]? = some a ∧ v = .ref a
  | .raw u, v => v = u
def RWs (K : PySem.W.Frag) (z : Zn) (H : Hp) : List W → List V → Prop
  | [], vs => vs = []
  | w :: ws, vs => ∃ v r, vs = v :: r ∧ RW K z H w v ∧ RWs K z H ws r
end

/-- the heap goes on: tuples and settled lists stay, places stay -/
structure Ext0 (z : Zn) (H : Hp) (z' : Zn) (H' : Hp) : Prop where
  tups : ∀ a xs, H a = some (.tup xs) → H' a = some (.tup xs)
  frzs : ∀ a o u, H a = some (.frz o u) → H' a = some (.frz o u)
  zs : ∀ a, z.Z a → z'.Z a ∧ H' a = H a
  ph : ∀ (n : Nat) a, z.phi[n]? = some a → z'.phi[n]? = some a
/-- .. and what is held stays -/
structure Ext (z : Zn) (H : Hp) (z' : Zn) (H' : Hp) : Prop where
  e0 : Ext0 z H z' H'
  hs : ∀ a, z.hold a → z'.hold a ∧ H' a = H a
theorem Ext0.refl (z : Zn) (H : Hp) : Ext0 z H z H := ⟨fun _ _ h => h, fun _ _ _ h => h, fun _ h => ⟨h, rfl⟩, fun _ _ h => h⟩
theorem Ext0.trans {z z1 z2 : Zn} {H H1 H2 : Hp} (a : Ext0 z H z1 H1) (b : Ext0 z1 H1 z2 H2) : Ext0 z H z2 H2 :=
  ⟨fun c xs h => b.tups c xs (a.tups c xs h), fun c o u h => b.frzs c o u (a.frzs c o u h),
   fun c h => ⟨(b.zs c (a.zs c h).1).1, (b.zs c (a.zs c h).1).2.trans (a.zs c h).2⟩,
   fun n c h => b.ph n c (a.ph n c h)⟩
theorem Ext.refl (z : Zn) (H : Hp) : Ext z H z H := ⟨Ext0.refl z H, fun _ h => ⟨h, rfl⟩⟩
theorem Ext.trans {z z1 z2 : Zn} {H H1 H2 : Hp} (a : Ext z H z1 H1) (b : Ext z1 H1 z2 H2) : Ext z H z2 H2 :=
  ⟨a.e0.trans b.e0, fun c h => ⟨(b.hs c (a.hs c h).1).1, (b.hs c (a.hs c h).1).2.trans (a.hs c h).2⟩⟩

section
variable {K : PySem.W.Frag} {z z' : Zn} {H H' : Hp}
theorem Ext0.sqT (e : Ext0 z H z' H') {a : Addr} {xs : List V} (h : SqT K H a xs) : SqT K H' a xs := by
  rcases h with (h | ⟨o, h⟩) | h
  · exact .inl (.inl (e.tups _ _ h))
  · exact .inl (.inr ⟨o, e.frzs _ _ _ h⟩)
  · exact .inr h
theorem Ext0.oldL (e : Ext0 z H z' H') {a : Addr} {xs : List V} (h : OldL K H a xs) : OldL K H' a xs := by
  rcases h with ⟨o, h⟩ | h
  · exact .inl ⟨o, e.frzs _ _ _ h⟩
  · exact .inr h
mutual
theorem RW.ext0 (e : Ext0 z H z' H') : ∀ {w : W} {v : V}, RW K z H w v → RW K z' H' w v
  | .non, _, h => h
  | .bl _, _, h => h
  | .int _, _, h => h
  | .str _, _, h => h
  | .tup ws, _, ⟨a, vs, h1, h2, h3⟩ => ⟨a, vs, h1, e.sqT h2, RWs.ext0 e h3⟩
  | .lst ws, _, ⟨a, vs, h1, h2, h3⟩ => ⟨a, vs, h1, ⟨(e.zs a h2.1).1, (e.zs a h2.1).2.trans h2.2⟩, RWs.ext0 e h3⟩
  | .old ws, _, ⟨a, vs, h1, h2, h3⟩ => ⟨a, vs, h1, e.oldL h2, RWs.ext0 e h3⟩
  | .ref n, _, ⟨a, h1, h2⟩ => ⟨a, e.ph n a h1, h2⟩
  | .raw _, _, h => h
theorem RWs.ext0 (e : Ext0 z H z' H') : ∀ {ws : List W} {vs : List V}, RWs K z H ws vs → RWs K z' H' ws vs
  | [], _, h => h
  | _ :: _, _, ⟨v, r, h1, h2, h3⟩ => ⟨v, r, h1, RW.ext0 e h2, RWs.ext0 e h3⟩
end
theorem RW.ext (e : Ext z H z' H') {w : W} {v : V} (h : RW K z H w v) : RW K z' H' w v := h.ext0 e.e0
theorem RWs.ext (e : Ext z H z' H') {ws : List W} {vs : List V} (h : RWs K z H ws vs) : RWs K z' H' ws vs := h.ext0 e.e0
theorem RWs.length : ∀ {ws : List W} {vs : List V}, RWs K z H ws vs → vs.length = ws.length
  | [], _, h => by cases h; rfl
  | _ :: _, _, ⟨v, r, h1, h2, h3⟩ => by subst h1; simp [RWs.length h3]
theorem RWs.cons {w : W} {v : V} {ws : List W} {vs : List V} (h : RW K z H w v) (t : RWs K z H ws vs) : RWs K z H (w :: ws) (v :: vs) := ⟨v, vs, rfl, h, t⟩
theorem RWs.nil : RWs K z H [] [] := rfl
theorem RWs.append : ∀ {ws us : List W} {vs xs : List V}, RWs K z H ws vs → RWs K z H us xs → RWs K z H (ws ++ us) (vs ++ xs)
  | [], _, _, _, h, t => by cases h; exact t
  | _ :: _, _, _, _, ⟨v, r, h1, h2, h3⟩, t => by subst h1; exact ⟨v, _, rfl, h2, RWs.append h3 t⟩
theorem RWs.get : ∀ {ws : List W} {vs : List V} {i : Nat} {w : W}, RWs K z H ws vs → ws[i]? = some w → ∃ v, vs[i]? = some v ∧ RW K z H w v
  | [], _, _, _, _, e => by simp at e
  | _ :: _, _, 0, _, ⟨v, r, h1, h2, _⟩, e => by subst h1; simp at e; subst e; exact ⟨v, rfl, h2⟩
  | _ :: ws, _, i + 1, _, ⟨v, r, h1, _, h3⟩, e => by
    subst h1
    obtain ⟨u, q1, q2⟩ := RWs.get (i := i) h3 (by simpa using e)
    exact ⟨u, by simpa using q1, q2⟩
theorem RWs.get' : ∀ {ws : List W} {vs : List V} {i : Nat} {v : V}, RWs K z H ws vs → vs[i]? = some v → ∃ w, ws[i]? = some w ∧ RW K z H w v
  | [], _, _, _, h, e => by cases h; simp at e
  | w :: _, _, 0, _, ⟨v, r, h1, h2, _⟩, e => by subst h1; simp at e; subst e; exact ⟨w, rfl, h2⟩
  | _ :: ws, _, i + 1, _, ⟨v, r, h1, _, h3⟩, e => by
    subst h1
    obtain ⟨u, q1, q2⟩ := RWs.get' (i := i) h3 (by simpa using e)
    exact ⟨u, by simpa using q1, q2⟩
theorem RWs.take : ∀ {ws : List W} {vs : List V} (n : Nat), RWs K z H ws vs → RWs K z H (ws.take n) (vs.take n)
  | [], _, n, h => by cases h; simp [RWs]
  | _ :: _, _, 0, _ => by simp [RWs]
  | _ :: _, _, n + 1, ⟨v, r, h1, h2, h3⟩ => by subst h1; exact ⟨v, _, rfl, h2, RWs.take n h3⟩
theorem RWs.drop : ∀ {ws : List W} {vs : List V} (n : Nat), RWs K z H ws vs → RWs K z H (ws.drop n) (vs.drop n)
  | [], _, n, h => by cases h; simp [RWs]
  | _ :: _, _, 0, h => h
  | _ :: _, _, n + 1, ⟨v, r, h1, h2, h3⟩ => by subst h1; exact RWs.drop n h3
theorem RWs.reverse : ∀ {ws : List W} {vs : List V}, RWs K z H ws vs → RWs K z H ws.reverse vs.reverse
  | [], _, h => by cases h; simp [RWs]
  | _ :: _, _, ⟨v, r, h1, h2, h3⟩ => by
    subst h1
    rw [List.reverse_cons, List.reverse_cons]
    exact (RWs.reverse h3).append (.cons h2 .nil)
theorem RWs.set {w : W} {v : V} (hw : RW K z H w v) : ∀ {ws : List W} {vs : List V} (n : Nat), RWs K z H ws vs → RWs K z H (ws.set n w) (vs.set n v)
  | [], _, n, h => by cases h; simp [RWs]
  | _ :: _, _, 0, ⟨u, r, h1, h2, h3⟩ => by subst h1; exact ⟨v, _, rfl, hw, h3⟩
  | _ :: _, _, n + 1, ⟨u, r, h1, h2, h3⟩ => by subst h1; exact ⟨u, _, rfl, h2, RWs.set hw n h3⟩
end

/-- fields, dicts: the same names, the values related -/
def RFs (K : PySem.W.Frag) (z : Zn) (H : Hp) {α : Type} : List (α × W) → List (α × V) → Prop
  | [], vs => vs = []
  | (k, w) :: ws, vs => ∃ v r, vs = (k, v) :: r ∧ RW K z H w v ∧ RFs K z H ws r
section
variable {K : PySem.W.Frag} {z z' : Zn} {H H' : Hp} {α : Type}
theorem RFs.ext0 (e : Ext0 z H z' H') : ∀ {ws : List (α × W)} {vs : List (α × V)}, RFs K z H ws vs → RFs K z' H' ws vs
  | [], _, h => h
  | (k, w) :: _, _, ⟨v, r, h1, h2, h3⟩ => ⟨v, r, h1, h2.ext0 e, RFs.ext0 e h3⟩
theorem RFs.ext (e : Ext z H z' H') {ws : List (α × W)} {vs : List (α × V)} (h : RFs K z H ws vs) : RFs K z' H' ws vs := h.ext0 e.e0
theorem RFs.length : ∀ {ws : List (α × W)} {vs : List (α × V)}, RFs K z H ws vs → vs.length = ws.length
  | [], _, h => by cases h; rfl
  | (k, w) :: _, _, ⟨v, r, h1, h2, h3⟩ => by subst h1; simp [RFs.length h3]
theorem RFs.lookup [BEq α] {k : α} : ∀ {ws : List (α × W)} {vs : List (α × V)} {w : W}, RFs K z H ws vs → ws.lookup k = some w → ∃ v, vs.lookup k = some v ∧ RW K z H w v
  | [], _, _, _, e => by simp at e
  | (j, w) :: _, _, w', ⟨v, r, h1, h2, h3⟩, e => by
    subst h1
    rw [List.lookup_cons] at e ⊢
    cases q : k == j with
    | true => rw [q] at e; simp at e; subst e; exact ⟨v, rfl, h2⟩
    | false => rw [q] at e; exact RFs.lookup h3 (by simpa using e)
theorem RFs.lookup_none [BEq α] {k : α} : ∀ {ws : List (α × W)} {vs : List (α × V)}, RFs K z H ws vs → ws.lookup k = none → vs.lookup k = none
  | [], _, h, _ => by cases h; rfl
  | (j, w) :: _, _, ⟨v, r, h1, h2, h3⟩, e => by
    subst h1
    rw [List.lookup_cons] at e ⊢
    cases q : k == j with
    | true => rw [q] at e; simp at e
    | false => rw [q] at e; exact RFs.lookup_none h3 (by simpa using e)
end

def CellOk (K : PySem.W.Frag) (cl : Nat → Addr) (z : Zn) (H : Hp) (a : Addr) : Cell → Prop
  | .lst ws => ¬ z.Z a ∧ ¬ z.hold a ∧ ∃ vs, H a = some (.lst vs) ∧ RWs K z H ws vs
  | .fz ws => z.Z a ∧ ∃ vs, H a = some (.lst vs) ∧ RWs K z H ws vs
  | .dct kvs => ¬ z.hold a ∧ ∃ vs, H a = some (.dK vs) ∧ RFs K z H kvs vs
  | .ins c fs => ¬ z.hold a ∧ ∃ dx vs, H a = some (.ins (cl c) dx vs) ∧ RFs K z H fs vs
theorem CellOk.there {K : PySem.W.Frag} {cl : Nat → Addr} {z : Zn} {H : Hp} {a : Addr} {c : Cell} (h : CellOk K cl z H a c) : ∃ o, H a = some o := by
  cases c with
  | lst ws => obtain ⟨_, _, vs, e, _⟩ := h; exact ⟨_, e⟩
  | fz ws => obtain ⟨_, vs, e, _⟩ := h; exact ⟨_, e⟩
  | dct kvs => obtain ⟨_, vs, e, _⟩ := h; exact ⟨_, e⟩
  | ins c fs => obtain ⟨_, dx, vs, e, _⟩ := h; exact ⟨_, e⟩

structure MemOk (K : PySem.W.Frag) (cl : Nat → Addr) (z : Zn) (m : Mem) (H : Hp) : Prop where
  len : z.phi.length = m.length
  nd : z.phi.Nodup
  sep : ∀ a, z.Z a → ¬ z.hold a
  lz : ∀ a, z.Z a → ∃ xs, H a = some (.lst xs)
  lh : ∀ a, z.hold a → ∃ o, H a = some o
  cells : ∀ (n : Nat) a c, z.phi[n]? = some a → m[n]? = some c → CellOk K cl z H a c

def SlotsOk (K : PySem.W.Frag) (z : Zn) (H : Hp) (r : Rho) (s : L2.St) : Prop :=
  r.length = s.length ∧ ∀ (i : Nat) w, r[i]? = some (some w) → ∃ v, s[i]? = some (some v) ∧ RW K z H w v
structure Rel (K : PySem.W.Frag) (cl : Nat → Addr) (z : Zn) (r : Rho) (m : Mem) (s : L2.St) (H : Hp) : Prop where
  slots : SlotsOk K z H r s
  mem : MemOk K cl z m H

section
variable {K : PySem.W.Frag} {cl : Nat → Addr} {z z' : Zn} {H H' : Hp} {m : Mem} {r : Rho} {s : L2.St} {p : Addr} {o : HO}
theorem SlotsOk.ext0 (e : Ext0 z H z' H') (h : SlotsOk K z H r s) : SlotsOk K z' H' r s :=
  ⟨h.1, fun i w q => let ⟨v, q1, q2⟩ := h.2 i w q; ⟨v, q1, q2.ext0 e⟩⟩
theorem SlotsOk.ext (e : Ext z H z' H') (h : SlotsOk K z H r s) : SlotsOk K z' H' r s := h.ext0 e.e0
theorem SlotsOk.set {i : Nat} {w : W} {v : V} (h : SlotsOk K z H r s) (q : RW K z H w v) : SlotsOk K z H (r.set i (some w)) (s.set i (some v)) := by
  refine ⟨by simp [h.1], fun j u e => ?_⟩
  by_cases hj : i = j
  · subst hj
    rw [List.getElem?_set] at e ⊢
    rw [if_pos rfl] at e ⊢
    split at e
    · rename_i hl
      rw [if_pos (by rw [← h.1]; exact hl)]
      cases e
      exact ⟨v, rfl, q⟩
    · cases e
  · rw [List.getElem?_set_ne hj] at e ⊢
    exact h.2 j u e
theorem MemOk.z_ne (M : MemOk K cl z m H) (hp : H p = none) : ¬ z.Z p := fun q => by obtain ⟨xs, e⟩ := M.lz p q; rw [hp] at e; cases e
theorem MemOk.h_ne (M : MemOk K cl z m H) (hp : H p = none) : ¬ z.hold p := fun q => by obtain ⟨xs, e⟩ := M.lh p q; rw [hp] at e; cases e
theorem MemOk.p_ne (M : MemOk K cl z m H) (hp : H p = none) : p ∉ z.phi := fun q => by
  obtain ⟨n, hn, e⟩ := List.getElem_of_mem q
  have hm : n < m.length := by rw [← M.len]; exact hn
  obtain ⟨u, e2⟩ := (M.cells n p m[n] (by rw [List.getElem?_eq_getElem hn, e]) (List.getElem?_eq_getElem hm)).there
  rw [hp] at e2; cases e2
theorem upd_same_of (hp : H p = none) : Same H (upd H p o) := fun b u e => by rw [upd_ne (ne_of_none e hp)]; exact e
/-- all that is tracked stays -/
theorem MemOk.extS (M : MemOk K cl z m H) (hs : Same H H') : Ext z H z H' :=
  ⟨⟨fun a xs e => hs _ _ e, fun a ob u e => hs _ _ e, fun a q => ⟨q, by obtain ⟨xs, e⟩ := M.lz a q; rw [e]; exact hs _ _ e⟩, fun _ _ q => q⟩, fun a q => ⟨q, by obtain ⟨xs, e⟩ := M.lh a q; rw [e]; exact hs _ _ e⟩⟩
theorem CellOk.same {a : Addr} {c : Cell} (e : Ext z H z H') (hs : Same H H') (h : CellOk K cl z H a c) : CellOk K cl z H' a c := by
  cases c with
  | lst ws => obtain ⟨n1, n2, vs, q, r⟩ := h; exact ⟨n1, n2, vs, hs _ _ q, r.ext e⟩
  | fz ws => obtain ⟨n1, vs, q, r⟩ := h; exact ⟨n1, vs, hs _ _ q, r.ext e⟩
  | dct kvs => obtain ⟨n, vs, q, r⟩ := h; exact ⟨n, vs, hs _ _ q, r.ext e⟩
  | ins c fs => obtain ⟨n, dx, vs, q, r⟩ := h; exact ⟨n, dx, vs, hs _ _ q, r.ext e⟩
theorem MemOk.same (M : MemOk K cl z m H) (hs : Same H H') : MemOk K cl z m H' :=
  ⟨M.len, M.nd, M.sep, fun a q => let ⟨xs, e⟩ := M.lz a q; ⟨xs, hs _ _ e⟩, fun a q => let ⟨xs, e⟩ := M.lh a q; ⟨xs, hs _ _ e⟩,
   fun n a c h1 h2 => (M.cells n a c h1 h2).same (M.extS hs) hs⟩
theorem Rel.same (h : Rel K cl z r m s H) (hs : Same H H') : Rel K cl z r m s H' := ⟨h.slots.ext (h.mem.extS hs), h.mem.same hs⟩
theorem Rel.after (h : Rel K cl z r m s H) {m' : Mem} (e : Ext z H z' H') (M : MemOk K cl z' m' H') : Rel K cl z' r m' s H' := ⟨h.slots.ext e, M⟩

/-- a new list is settled -/
abbrev Zn.fz (z : Zn) (p : Addr) : Zn := { z with Z := fun a => a = p ∨ z.Z a }
/-- a new object is laid into the memory -/
abbrev Zn.lay (z : Zn) (p : Addr) : Zn := { z with phi := z.phi ++ [p] }
/-- .. is held, no longer held -/
abbrev Zn.hd (z : Zn) (p : Addr) : Zn := { z with hold := fun a => a = p ∨ z.hold a }
theorem CellOk.ext2 {a : Addr} {c : Cell} (e : Ext0 z H z' H') (hz : z'.Z a ↔ z.Z a) (hh : z'.hold a → z.hold a) (hs : H' a = H a) (h : CellOk K cl z H a c) : CellOk K cl z' H' a c := by
  cases c with
  | lst ws => obtain ⟨n1, n2, vs, q, r⟩ := h; exact ⟨fun x => n1 (hz.mp x), fun x => n2 (hh x), vs, hs.trans q, r.ext0 e⟩
  | fz ws => obtain ⟨n1, vs, q, r⟩ := h; exact ⟨hz.mpr n1, vs, hs.trans q, r.ext0 e⟩
  | dct kvs => obtain ⟨n, vs, q, r⟩ := h; exact ⟨fun x => n (hh x), vs, hs.trans q, r.ext0 e⟩
  | ins c fs => obtain ⟨n, dx, vs, q, r⟩ := h; exact ⟨fun x => n (hh x), dx, vs, hs.trans q, r.ext0 e⟩
/-- settle a list that is no one's -/
theorem MemOk.settle {xs : List V} (M : MemOk K cl z m H) (hp : H p = some (.lst xs)) (n1 : ¬ z.hold p) (n2 : p ∉ z.phi) : Ext z H (z.fz p) H ∧ MemOk K cl (z.fz p) m H := by
  have e : Ext z H (z.fz p) H := ⟨⟨fun _ _ h => h, fun _ _ _ h => h, fun _ h => ⟨.inr h, rfl⟩, fun _ _ h => h⟩, fun _ h => ⟨h, rfl⟩⟩
  refine ⟨e, M.len, M.nd, ?_, ?_, M.lh, fun n a c h1 h2 => ?_⟩
  · rintro a (rfl | q)
    · exact n1
    · exact M.sep a q
  · rintro a (rfl | q)
    · exact ⟨_, hp⟩
    · exact M.lz a q
  · have hne : a ≠ p := fun q => n2 (q ▸ List.mem_of_getElem? h1)
    refine (M.cells n a c h1 h2).ext2 e.e0 ⟨?_, .inr⟩ (fun x => x) rfl
    rintro (q | q)
    · exact absurd q hne
    · exact q
/-- lay an object that is no one's into the memory -/
theorem MemOk.lay {c : Cell} (M : MemOk K cl z m H) (n1 : ¬ z.Z p) (n2 : p ∉ z.phi) (hc : CellOk K cl (z.lay p) H p c) : Ext z H (z.lay p) H ∧ MemOk K cl (z.lay p) (m ++ [c]) H := by
  have e : Ext z H (z.lay p) H := ⟨⟨fun _ _ h => h, fun _ _ _ h => h, fun _ h => ⟨h, rfl⟩, fun n a h => by
    have hl := (List.getElem?_eq_some_iff.mp h).1
    show (z.phi ++ [p])[n]? = some a
    rw [List.getElem?_append_left hl]
    exact h⟩, fun _ h => ⟨h, rfl⟩⟩
  refine ⟨e, by simp [M.len], ?_, M.sep, M.lz, M.lh, fun n a c' h1 h2 => ?_⟩
  · show (z.phi ++ [p]).Nodup
    rw [List.nodup_append]
    refine ⟨M.nd, by simp, fun a ha b hb => ?_⟩
    simp at hb
    subst hb
    exact fun q => n2 (q ▸ ha)
  · have h1 : (z.phi ++ [p])[n]? = some a := h1
    by_cases hn : n < z.phi.length
    · rw [List.getElem?_append_left hn] at h1
      rw [List.getElem?_append_left (by rw [← M.len]; exact hn)] at h2
      exact (M.cells n a c' h1 h2).ext2 e.e0 Iff.rfl (fun x => x) rfl
    · have hn' : z.phi.length ≤ n := Nat.le_of_not_lt hn
      rw [List.getElem?_append_right hn'] at h1
      rw [List.getElem?_append_right (by rw [← M.len]; exact hn')] at h2
      have hk : n - z.phi.length = 0 := by
        have := (List.getElem?_eq_some_iff.mp h1).1
        simp at this
        omega
      rw [hk] at h1
      rw [← M.len, hk] at h2
      simp at h1 h2
      subst h1 h2
      exact hc
end
end Dn

/-! D2: what is left behind an expression, a test, an argument list, a statement; the first rules. -/
namespace Dn
open PySem PySem.Spec PyProof.Rows L2

/-- an error in the air -/
def XnOk (K : PySem.W.Frag) (cl : Nat → Addr) (z : Zn) (H : Hp) (x : Exn) (c : Value) (d : Option Addr) : Prop :=
  c = .ref (cl x.cls) ∧ ∃ dd fs, d = some dd ∧ H dd = some (.xd fs) ∧ RFs K z H x.fs fs
/-- what is the same for all parts of a body: the written part, the classes by number, the wish about errors -/
structure Gx where
  K : PySem.W.Frag
  cl : Nat → Addr
  Wx : WX

def Post {α β : Type} (g : Gx) (rel : Zn → Hp → α → β → Prop) (z : Zn) (H : Hp) (r : Rho) (s : L2.St) (q : R α) (Q : β → Hp → Prop) : Prop :=
  match q with
  | .ok a m => ∀ z' b H', Ext z H z' H' → Rel g.K g.cl z' r m s H' → rel z' H' a b → Q b H'
  | .exc x m => ∀ z' H' c d, Ext z H z' H' → Rel g.K g.cl z' r m s H' → XnOk g.K g.cl z' H' x c d → g.Wx c d s H'
  | .bad => False
def tG {α β : Type} (g : Gx) (rel : Zn → Hp → α → β → Prop) (f : Rho → Mem → R α) : L2.St → Hp → (β → Hp → Prop) → Prop :=
  fun s H Q => ∃ r m z, Rel g.K g.cl z r m s H ∧ Post g rel z H r s (f r m) Q
abbrev relB : Zn → Hp → Bool → Bool → Prop := fun _ _ a b => a = b
def tE (g : Gx) (f : DE) : TE := tG g (RW g.K) f
def tT (g : Gx) (f : DT) : TT := tG g relB f
def tA (g : Gx) (f : DA) : TA := tG g (RWs g.K) f

section
variable {α β γ δ : Type} {g : Gx} {rel : Zn → Hp → α → β → Prop} {rel2 : Zn → Hp → γ → δ → Prop} {z z1 : Zn} {H H1 : Hp} {r : Rho} {s : L2.St} {Q : δ → Hp → Prop} {Q1 : β → Hp → Prop}
theorem Post.mono {q : R γ} (e : Ext z H z1 H1) (h : Post g rel2 z H r s q Q) : Post g rel2 z1 H1 r s q Q := by
  cases q with
  | ok a m => exact fun z' b H' e' => h z' b H' (e.trans e')
  | exc x m => exact fun z' H' c d e' => h z' H' c d (e.trans e')
  | bad => exact h
theorem Post.bind {q : R α} {k : α → Mem → R γ} (h : Post g rel2 z H r s (q.bind k) Q)
    (hk : ∀ z1 a m1 b H1, Ext z H z1 H1 → Rel g.K g.cl z1 r m1 s H1 → rel z1 H1 a b → Post g rel2 z1 H1 r s (k a m1) Q → Q1 b H1) : Post g rel z H r s q Q1 := by
  cases q with
  | ok a m => exact fun z' b H' e R q => hk z' a m b H' e R q (Post.mono e h)
  | exc x m => exact h
  | bad => exact h
/-- the value is told: nothing happens -/
theorem Post.ret {a : γ} {b : δ} {m : Mem} (h : Post g rel2 z H r s (.ok a m) Q) (R : Rel g.K g.cl z r m s H) (q : rel2 z H a b) : Q b H := h z b H (Ext.refl _ _) R q
end

section
variable {X : Cx} {cl : Nat → Addr} {Wx : WX} {e a b : Expr} {pos : Pos}
abbrev gx (X : Cx) (cl : Nat → Addr) (Wx : WX) : Gx := ⟨X.K, cl, Wx⟩
theorem _root_.L2.PE.imp {t t' : TE} (h : PE X e t) (hi : ∀ s H Q, t' s H Q → t s H Q) : PE X e t' := ⟨fun pins sh s H Q I q => h.run pins sh s H Q I (hi _ _ _ q)⟩
theorem _root_.L2.PT.imp {t t' : TT} (h : PT X e t) (hi : ∀ s H Q, t' s H Q → t s H Q) : PT X e t' := ⟨fun pins sh s H Q I q => h.run pins sh s H Q I (hi _ _ _ q)⟩
theorem _root_.L2.PA.imp {es : List Expr} {t t' : TA} (h : PA X es t) (hi : ∀ s H Q, t' s H Q → t s H Q) : PA X es t' := ⟨fun po pins sh s H Q I q => h.run po pins sh s H Q I (hi _ _ _ q)⟩

/-! ### names, constants -/
def eVar (i : Nat) : DE := fun r m => match r[i]? with
  | some (some w) => .ok w m
  | _ => .bad
def eC (w : W) : DE := fun _ m => .ok w m
theorem se_v (i : Nat) {x : Str} (h : PE X (.Name x pos) (tVar i)) : PE X (.Name x pos) (tE (gx X cl Wx) (eVar i)) := by
  refine h.imp fun s H Q ⟨r, m, z, R, P⟩ => ?_
  unfold eVar at P
  split at P
  · rename_i w e
    obtain ⟨v, e1, q⟩ := R.slots.2 i w e
    exact ⟨v, e1, P.ret R q⟩
  · exact P.elim
theorem se_c {v : V} {w : W} (h : PE X e (tC v)) (hw : ∀ z H, RW X.K z H w v) : PE X e (tE (gx X cl Wx) (eC w)) :=
  h.imp fun s H Q ⟨r, m, z, R, P⟩ => P.ret R (hw z H)
theorem sv (i : Nat) {x : Str} (hN : X.N[i]? = some x := by rfl) (hv : Vis X.env.scope x := by first | exact Or.inl rfl | exact Or.inr (Or.inl rfl) | exact Or.inr (Or.inr rfl)) (hd : (x == ("__debug__" : Str)) = false := by decide)
    (hcd : (x == ("__classdict__" : Str)) = false := by decide) : PE X (.Name x pos) (tE (gx X cl Wx) (eVar i)) := se_v i (pe_var hN hv hd hcd)
theorem se_int {i : Int} {j : Nat} : PE X (.Constant (.int i) j pos) (tE (gx X cl Wx) (eC (.int i))) := se_c pe_int fun _ _ => rfl
theorem se_bl {i : Bool} {j : Nat} : PE X (.Constant (.bool i) j pos) (tE (gx X cl Wx) (eC (.bl i))) := se_c pe_bl fun _ _ => rfl
theorem se_str {i : Str} {j : Nat} : PE X (.Constant (.str i) j pos) (tE (gx X cl Wx) (eC (.str i))) := se_c pe_str fun _ _ => rfl
theorem se_non {j : Nat} : PE X (.Constant .none j pos) (tE (gx X cl Wx) (eC .non)) := se_c pe_non fun _ _ => rfl
/-- a module's constant: u its value, w as plain data -/
theorem se_glob {x : Str} {w : W} {v : V} {u : Value} (hm : X.mg x = some u) (r : RelV v u) (hw : ∀ z H, RW X.K z H w v) (hg : Gl X x := by rfl) (hd : (x == ("__debug__" : Str)) = false := by decide) : PE X (.Name x pos) (tE (gx X cl Wx) (eC w)) :=
  se_c (pe_glob hg hm r hd) hw

/-! ### operators -/
def eBin (o : Mem → W → W → Option W) (fa fb : DE) : DE := fun r m => (fa r m).bind fun a m1 => (fb r m1).bind fun b m2 => match o m2 a b with
  | some w => .ok w m2
  | none => .bad
def OpW (K : PySem.W.Frag) (cl : Nat → Addr) (o : Mem → W → W → Option W) (r : R2) : Prop := ∀ (z : Zn) (m : Mem) (H : Hp) (a b : W) (x y : V) (w : W) (Q : VK), MemOk K cl z m H → RW K z H a x → RW K z H b y → o m a b = some w →
  (∀ z' v H', Ext z H z' H' → MemOk K cl z' m H' → RW K z' H' w v → Q v H') → r x y H Q
theorem tE_bin {o : Mem → W → W → Option W} {rr : R2} {fa fb : DE} {s : L2.St} {H : Hp} {Q : VK} {g : Gx} (hw : OpW g.K g.cl o rr) (h : tE g (eBin o fa fb) s H Q) : tOp rr (tE g fa) (tE g fb) s H Q := by
  obtain ⟨r, m, z, R, P⟩ := h
  refine ⟨r, m, z, R, P.bind fun z1 a m1 x H1 E1 R1 r1 P1 => ?_⟩
  refine ⟨r, m1, z1, R1, P1.bind fun z2 b m2 y H2 E2 R2 r2 P2 => ?_⟩
  cases q : o m2 a b with
  | none => rw [q] at P2; exact P2.elim
  | some w =>
    rw [q] at P2
    exact hw z2 m2 H2 a b x y w Q R2.mem (RW.ext E2 r1) r2 q fun z' v H' e M rw' => P2 z' v H' e (R2.after e M) rw'
theorem se_op {op : Operator} {o : Mem → W → W → Option W} {rr : R2} {fa fb : DE} (ho : OpR X (binaryOp op) rr) (hw : OpW X.K cl o rr) (ha : PE X a (tE (gx X cl Wx) fa)) (hb : PE X b (tE (gx X cl Wx) fb)) :
    PE X (.BinOp a op b pos) (tE (gx X cl Wx) (eBin o fa fb)) := (pe_op ho ha hb).imp fun s H Q h => tE_bin (g := gx X cl Wx) hw h
theorem se_cmp {op : CmpOp} {o : Mem → W → W → Option W} {rr : R2} {fa fb : DE} (ho : OpR X (compareOp op) rr) (hw : OpW X.K cl o rr) (ha : PE X a (tE (gx X cl Wx) fa)) (hb : PE X b (tE (gx X cl Wx) fb)) (hm : behindInMarks op b = false) :
    PE X (.Compare a [op] [b] pos) (tE (gx X cl Wx) (eBin o fa fb)) := (pe_cmpR ho ha hb hm).imp fun s H Q h => tE_bin (g := gx X cl Wx) hw h
theorem se_ix {o : Mem → W → W → Option W} {rr : R2} {fa fb : DE} (ho : IxR X rr) (hw : OpW X.K cl o rr) (ha : PE X a (tE (gx X cl Wx) fa)) (hb : PE X b (tE (gx X cl Wx) fb)) (hs : PlainIx b := by exact fun _ _ => rfl) :
    PE X (.Subscript a b pos) (tE (gx X cl Wx) (eBin o fa fb)) := (pe_ix ho ha hb hs).imp fun s H Q h => tE_bin (g := gx X cl Wx) hw h
theorem OpW.or {K : PySem.W.Frag} {o : Mem → W → W → Option W} {o1 o2 : Mem → W → W → Option W} {r1 r2 : R2} (h1 : OpW K cl o1 r1) (h2 : OpW K cl o2 r2) (h : ∀ m a b w, o m a b = some w → o1 m a b = some w ∨ o2 m a b = some w) :
    OpW K cl o (fun x y H Q => r1 x y H Q ∨ r2 x y H Q) := fun z m H a b x y w Q M ra rb e k => (h m a b w e).elim (fun e => .inl (h1 z m H a b x y w Q M ra rb e k)) fun e => .inr (h2 z m H a b x y w Q M ra rb e k)
/-- a value as a test: a bool -/
def dTest (f : DE) : DT := fun r m => (f r m).bind fun w m1 => match w with
  | .bl b => .ok b m1
  | _ => .bad
theorem tT_test {f : DE} {s : L2.St} {H : Hp} {Q : Bool → Hp → Prop} {g : Gx} (h : tT g (dTest f) s H Q) : tTest (tE g f) s H Q := by
  obtain ⟨r, m, z, R, P⟩ := h
  refine ⟨r, m, z, R, P.bind fun z1 a m1 x H1 E1 R1 r1 P1 => ?_⟩
  cases a with
  | bl k =>
    have r1 : x = .bl k := r1
    exact ⟨k, r1, Post.ret (b := k) P1 R1 rfl⟩
  | _ => exact P1.elim
theorem st_cmp {op : CmpOp} {o : Mem → W → W → Option W} {rr : R2} {fa fb : DE} (ho : OpR X (compareOp op) rr) (hw : OpW X.K cl o rr) (ha : PE X a (tE (gx X cl Wx) fa)) (hb : PE X b (tE (gx X cl Wx) fb)) (hm : behindInMarks op b = false) :
    PT X (.Compare a [op] [b] pos) (tT (gx X cl Wx) (dTest (eBin o fa fb))) := (pt_cmpR ho ha hb hm).imp fun s H Q h => by
  have h' := tT_test h
  unfold tTest at h' ⊢
  exact tE_bin (g := gx X cl Wx) hw h'
/-- an expression whose value is a bool, as a test -/
theorem st_val {f : DE} (h : PE X e (tE (gx X cl Wx) f)) (he : ∀ whole, isTrue e X.env whole = (do let v ← whole; standAt e.pos; holding [v] (truthy v)) := by intro _; rfl) : PT X e (tT (gx X cl Wx) (dTest f)) :=
  (pt_val h he).imp fun s H Q h => tT_test h

/-! ### and, or, not, a if t else b -/
def dAnd (f h : DT) : DT := fun r m => (f r m).bind fun c m1 => if c = true then h r m1 else .ok false m1
def dOr (f h : DT) : DT := fun r m => (f r m).bind fun c m1 => if c = true then .ok true m1 else h r m1
def dNot (f : DT) : DT := fun r m => (f r m).bind fun c m1 => .ok (!c) m1
theorem sw_and1 {f : DT} (h : PT X a (tT (gx X cl Wx) f)) : PW X (.BoolOp .And [a] pos) (tT (gx X cl Wx) f) := pw_and1 h
theorem sw_or1 {f : DT} (h : PT X a (tT (gx X cl Wx) f)) : PW X (.BoolOp .Or [a] pos) (tT (gx X cl Wx) f) := pw_or1 h
theorem _root_.L2.PW.imp {t t' : TT} (h : PW X e t) (hi : ∀ s H Q, t' s H Q → t s H Q) : PW X e t' := ⟨fun wh pins sh s H Q I q => h.run wh pins sh s H Q I (hi _ _ _ q)⟩
theorem sw_and {f h : DT} {rest : List Expr} (ha : PT X a (tT (gx X cl Wx) f)) (hb : PW X (.BoolOp .And (b :: rest) pos) (tT (gx X cl Wx) h)) : PW X (.BoolOp .And (a :: b :: rest) pos) (tT (gx X cl Wx) (dAnd f h)) :=
  (pw_and ha hb).imp fun s H Q ⟨r, m, z, R, P⟩ => by
    refine ⟨r, m, z, R, P.bind fun z1 c m1 d H1 E1 R1 r1 P1 => ?_⟩
    have r1 : c = d := r1
    subst r1
    cases c with
    | true => exact ⟨r, m1, z1, R1, P1⟩
    | false => exact Post.ret (b := false) P1 R1 rfl
theorem sw_or {f h : DT} {rest : List Expr} (ha : PT X a (tT (gx X cl Wx) f)) (hb : PW X (.BoolOp .Or (b :: rest) pos) (tT (gx X cl Wx) h)) : PW X (.BoolOp .Or (a :: b :: rest) pos) (tT (gx X cl Wx) (dOr f h)) :=
  (pw_or ha hb).imp fun s H Q ⟨r, m, z, R, P⟩ => by
    refine ⟨r, m, z, R, P.bind fun z1 c m1 d H1 E1 R1 r1 P1 => ?_⟩
    have r1 : c = d := r1
    subst r1
    cases c with
    | false => exact ⟨r, m1, z1, R1, P1⟩
    | true => exact Post.ret (b := true) P1 R1 rfl
theorem st_not {f : DT} (ha : PT X a (tT (gx X cl Wx) f)) : PT X (.UnaryOp .Not a pos) (tT (gx X cl Wx) (dNot f)) :=
  (pt_not ha).imp fun s H Q ⟨r, m, z, R, P⟩ => by
    refine ⟨r, m, z, R, P.bind fun z1 c m1 d H1 E1 R1 r1 P1 => ?_⟩
    have r1 : c = d := r1
    subst r1
    exact Post.ret (b := !c) P1 R1 rfl
/-- as values -/
def eAnd (f h : DE) : DE := fun r m => (f r m).bind fun w m1 => match w with
  | .bl true => h r m1
  | .bl false => .ok (.bl false) m1
  | _ => .bad
def eOr (f h : DE) : DE := fun r m => (f r m).bind fun w m1 => match w with
  | .bl false => h r m1
  | .bl true => .ok (.bl true) m1
  | _ => .bad
def eNot (f : DE) : DE := fun r m => (f r m).bind fun w m1 => match w with
  | .bl b => .ok (.bl (!b)) m1
  | _ => .bad
theorem se_and {f h : DE} {rest : List Expr} (ha : PE X a (tE (gx X cl Wx) f)) (hb : PE X (.BoolOp .And (b :: rest) pos) (tE (gx X cl Wx) h)) : PE X (.BoolOp .And (a :: b :: rest) pos) (tE (gx X cl Wx) (eAnd f h)) :=
  (pe_and ha hb).imp fun s H Q ⟨r, m, z, R, P⟩ => by
    refine ⟨r, m, z, R, P.bind fun z1 c m1 d H1 E1 R1 r1 P1 => ?_⟩
    cases c with
    | bl k =>
      have r1 : d = .bl k := r1
      refine ⟨k, r1, ?_⟩
      cases k with
      | true => exact ⟨r, m1, z1, R1, P1⟩
      | false => exact Post.ret (b := V.bl false) P1 R1 rfl
    | _ => exact P1.elim
theorem se_or {f h : DE} {rest : List Expr} (ha : PE X a (tE (gx X cl Wx) f)) (hb : PE X (.BoolOp .Or (b :: rest) pos) (tE (gx X cl Wx) h)) : PE X (.BoolOp .Or (a :: b :: rest) pos) (tE (gx X cl Wx) (eOr f h)) :=
  (pe_or ha hb).imp fun s H Q ⟨r, m, z, R, P⟩ => by
    refine ⟨r, m, z, R, P.bind fun z1 c m1 d H1 E1 R1 r1 P1 => ?_⟩
    cases c with
    | bl k =>
      have r1 : d = .bl k := r1
      refine ⟨k, r1, ?_⟩
      cases k with
      | false => exact ⟨r, m1, z1, R1, P1⟩
      | true => exact Post.ret (b := V.bl true) P1 R1 rfl
    | _ => exact P1.elim
theorem se_one {op : BoolOp} {f : DE} (h : PE X a (tE (gx X cl Wx) f)) : PE X (.BoolOp op [a] pos) (tE (gx X cl Wx) f) := pe_one h
theorem se_not {f : DE} (ha : PE X a (tE (gx X cl Wx) f)) : PE X (.UnaryOp .Not a pos) (tE (gx X cl Wx) (eNot f)) :=
  (pe_not ha).imp fun s H Q ⟨r, m, z, R, P⟩ => by
    refine ⟨r, m, z, R, P.bind fun z1 c m1 d H1 E1 R1 r1 P1 => ?_⟩
    cases c with
    | bl k =>
      have r1 : d = .bl k := r1
      exact ⟨k, r1, Post.ret (b := V.bl (!k)) P1 R1 rfl⟩
    | _ => exact P1.elim
def eIf (c : DT) (f h : DE) : DE := fun r m => (c r m).bind fun k m1 => if k = true then f r m1 else h r m1
theorem se_if {c : Expr} {fc : DT} {f h : DE} (hc : PT X c (tT (gx X cl Wx) fc)) (ha : PE X a (tE (gx X cl Wx) f)) (hb : PE X b (tE (gx X cl Wx) h)) : PE X (.IfExp c a b pos) (tE (gx X cl Wx) (eIf fc f h)) :=
  (pe_ifExp hc ha hb).imp fun s H Q ⟨r, m, z, R, P⟩ => by
    refine ⟨r, m, z, R, P.bind fun z1 c m1 d H1 E1 R1 r1 P1 => ?_⟩
    have r1 : c = d := r1
    subst r1
    cases c with
    | true => exact ⟨r, m1, z1, R1, P1⟩
    | false => exact ⟨r, m1, z1, R1, P1⟩

/-! ### argument lists, tuples, lists -/
def aNil : DA := fun _ m => .ok [] m
def aCons (f : DE) (t : DA) : DA := fun r m => (f r m).bind fun w m1 => (t r m1).bind fun ws m2 => .ok (w :: ws) m2
theorem sa_nil : PA X [] (tA (gx X cl Wx) aNil) := pa_nil.imp fun s H Q ⟨r, m, z, R, P⟩ => Post.ret (b := ([] : List V)) P R rfl
theorem sa_cons {es : List Expr} {f : DE} {t : DA} (h : PE X e (tE (gx X cl Wx) f)) (ht : PA X es (tA (gx X cl Wx) t)) (hs : starEach (e :: es) X.env = (false, eval e X.env) :: starEach es X.env := by rfl) : PA X (e :: es) (tA (gx X cl Wx) (aCons f t)) :=
  (pa_cons h ht hs).imp fun s H Q ⟨r, m, z, R, P⟩ => by
    refine ⟨r, m, z, R, P.bind fun z1 w m1 x H1 E1 R1 r1 P1 => ?_⟩
    refine ⟨r, m1, z1, R1, P1.bind fun z2 ws m2 xs H2 E2 R2 r2 P2 => ?_⟩
    exact Post.ret (b := x :: xs) P2 R2 (RWs.cons (RW.ext E2 r1) r2)
/-- the items of a list or a tuple -/
def seqOf (m : Mem) : W → Option (List W)
  | .tup xs => some xs
  | .lst xs => some xs
  | .old xs => some xs
  | .ref n => match m[n]? with
    | some (.lst xs) => some xs
    | some (.fz xs) => some xs
    | _ => none
  | _ => none
/-- .. of a list -/
def lstOf (m : Mem) : W → Option (List W)
  | .lst xs => some xs
  | .old xs => some xs
  | .ref n => match m[n]? with
    | some (.lst xs) => some xs
    | some (.fz xs) => some xs
    | _ => none
  | _ => none
theorem MemOk.at {K : PySem.W.Frag} {z : Zn} {m : Mem} {H : Hp} {n : Nat} {a : Addr} (M : MemOk K cl z m H) (h : z.phi[n]? = some a) : ∃ c, m[n]? = some c ∧ CellOk K cl z H a c := by
  have hn : n < m.length := by rw [← M.len]; exact (List.getElem?_eq_some_iff.mp h).1
  exact ⟨m[n], List.getElem?_eq_getElem hn, M.cells n a _ h (List.getElem?_eq_getElem hn)⟩
theorem lst_at {K : PySem.W.Frag} {z : Zn} {m : Mem} {H : Hp} {w : W} {v : V} {xs : List W} (M : MemOk K cl z m H) (h : RW K z H w v) (e : lstOf m w = some xs) : ∃ a vs, v = .ref a ∧ SqL K H a vs ∧ RWs K z H xs vs := by
  cases w with
  | lst ys =>
    obtain ⟨a, vs, h1, h2, h3⟩ := h
    have e : ys = xs := by simpa [lstOf] using e
    subst e
    exact ⟨a, vs, h1, SqL.of h2.2, h3⟩
  | old ys =>
    obtain ⟨a, vs, h1, h2, h3⟩ := h
    have e : ys = xs := by simpa [lstOf] using e
    subst e
    exact ⟨a, vs, h1, h2.sq, h3⟩
  | ref n =>
    obtain ⟨a, h1, h2⟩ := h
    obtain ⟨c, e1, hc⟩ := M.at h1
    simp only [lstOf, e1] at e
    cases c with
    | lst ys =>
      obtain ⟨_, _, vs, q, rr⟩ := hc
      have e : ys = xs := by simpa using e
      subst e
      exact ⟨a, vs, h2, SqL.of q, rr⟩
    | fz ys =>
      obtain ⟨_, vs, q, rr⟩ := hc
      have e : ys = xs := by simpa using e
      subst e
      exact ⟨a, vs, h2, SqL.of q, rr⟩
    | _ => simp at e
  | _ => simp [lstOf] at e
theorem seq_at {K : PySem.W.Frag} {z : Zn} {m : Mem} {H : Hp} {w : W} {v : V} {xs : List W} (M : MemOk K cl z m H) (h : RW K z H w v) (e : seqOf m w = some xs) : ∃ a vs, v = .ref a ∧ (SqL K H a vs ∨ SqT K H a vs) ∧ RWs K z H xs vs := by
  cases w with
  | tup ys =>
    obtain ⟨a, vs, h1, h2, h3⟩ := h
    have e : ys = xs := by simpa [seqOf] using e
    subst e
    exact ⟨a, vs, h1, .inr h2, h3⟩
  | lst ys =>
    obtain ⟨a, vs, h1, h2, h3⟩ := lst_at M h (xs := xs) (by simpa [seqOf, lstOf] using e)
    exact ⟨a, vs, h1, .inl h2, h3⟩
  | old ys =>
    obtain ⟨a, vs, h1, h2, h3⟩ := lst_at M h (xs := xs) (by simpa [seqOf, lstOf] using e)
    exact ⟨a, vs, h1, .inl h2, h3⟩
  | ref n =>
    obtain ⟨a, vs, h1, h2, h3⟩ := lst_at M h (xs := xs) (by unfold lstOf; unfold seqOf at e; exact e)
    exact ⟨a, vs, h1, .inl h2, h3⟩
  | _ => simp [seqOf] at e
/-- .. of a list that is tracked: no module's, not the script -/
def trkOf (m : Mem) : W → Option (List W)
  | .lst xs => some xs
  | .ref n => match m[n]? with
    | some (.lst xs) => some xs
    | some (.fz xs) => some xs
    | _ => none
  | _ => none
theorem trk_at {K : PySem.W.Frag} {z : Zn} {m : Mem} {H : Hp} {w : W} {v : V} {xs : List W} (M : MemOk K cl z m H) (h : RW K z H w v) (e : trkOf m w = some xs) : ∃ a vs, v = .ref a ∧ H a = some (.lst vs) ∧ RWs K z H xs vs := by
  cases w with
  | lst ys =>
    obtain ⟨a, vs, h1, h2, h3⟩ := h
    have e : ys = xs := by simpa [trkOf] using e
    subst e
    exact ⟨a, vs, h1, h2.2, h3⟩
  | ref n =>
    obtain ⟨a, h1, h2⟩ := h
    obtain ⟨c, e1, hc⟩ := M.at h1
    simp only [trkOf, e1] at e
    cases c with
    | lst ys =>
      obtain ⟨_, _, vs, q, rr⟩ := hc
      have e : ys = xs := by simpa using e
      subst e
      exact ⟨a, vs, h2, q, rr⟩
    | fz ys =>
      obtain ⟨_, vs, q, rr⟩ := hc
      have e : ys = xs := by simpa using e
      subst e
      exact ⟨a, vs, h2, q, rr⟩
    | _ => simp at e
  | _ => simp [trkOf] at e
/-- *e, .. -/
def aStar (f : DE) (t : DA) : DA := fun r m => (f r m).bind fun w m1 => match seqOf m1 w with
  | some xs => (t r m1).bind fun ws m2 => .ok (xs ++ ws) m2
  | none => .bad
theorem sa_star {es : List Expr} {f : DE} {t : DA} {p : Pos} (h : PE X e (tE (gx X cl Wx) f)) (ht : PA X es (tA (gx X cl Wx) t)) (hs : starEach (.Starred e p :: es) X.env = (true, eval e X.env) :: starEach es X.env := by rfl) : PA X (.Starred e p :: es) (tA (gx X cl Wx) (aStar f t)) :=
  (StX.pa_star h ht hs).imp fun s H Q ⟨r, m, z, R, P⟩ => by
    refine ⟨r, m, z, R, P.bind fun z1 w m1 x H1 E1 R1 r1 P1 => ?_⟩
    cases q : seqOf m1 w with
    | none => rw [q] at P1; exact P1.elim
    | some ys =>
      rw [q] at P1
      obtain ⟨a, vs, e1, e2, e3⟩ := seq_at R1.mem r1 q
      refine ⟨a, vs, e1, e2.symm, r, m1, z1, R1, P1.bind fun z2 ws m2 xs H2 E2 R2 r2 P2 => ?_⟩
      exact Post.ret (b := vs ++ xs) P2 R2 ((RWs.ext E2 e3).append r2)
/-- a new tuple -/
theorem new_tup {K : PySem.W.Frag} {z : Zn} {m : Mem} {H : Hp} {p : Addr} {ws : List W} {vs : List V} (M : MemOk K cl z m H) (hp : H p = none) (h : RWs K z H ws vs) : Ext z H z (upd H p (.tup vs)) ∧ MemOk K cl z m (upd H p (.tup vs)) ∧ RW K z (upd H p (.tup vs)) (.tup ws) (.ref p) := by
  have hs := upd_same_of (o := .tup vs) hp
  exact ⟨M.extS hs, M.same hs, p, vs, rfl, SqT.of upd_same, RWs.ext (M.extS hs) h⟩
/-- a new list that is settled at once -/
theorem new_lst {K : PySem.W.Frag} {z : Zn} {m : Mem} {H : Hp} {p : Addr} {ws : List W} {vs : List V} (M : MemOk K cl z m H) (hp : H p = none) (h : RWs K z H ws vs) : Ext z H (z.fz p) (upd H p (.lst vs)) ∧ MemOk K cl (z.fz p) m (upd H p (.lst vs)) ∧ RW K (z.fz p) (upd H p (.lst vs)) (.lst ws) (.ref p) := by
  have hs := upd_same_of (o := .lst vs) hp
  have e := M.extS hs
  obtain ⟨e2, M2⟩ := (M.same hs).settle (p := p) upd_same (M.h_ne hp) (M.p_ne hp)
  exact ⟨e.trans e2, M2, p, vs, rfl, ⟨.inl rfl, upd_same⟩, RWs.ext (e.trans e2) h⟩
def eTup (t : DA) : DE := fun r m => (t r m).bind fun ws m1 => if ws.length ≤ 16777216 then .ok (.tup ws) m1 else .bad
def eLst (t : DA) : DE := fun r m => (t r m).bind fun ws m1 => if ws.length ≤ 16777216 then .ok (.lst ws) m1 else .bad
theorem sl_le {n : Nat} (h : n ≤ 16777216) : n ≤ sizeLine := by rw [sizeLine_eq]; exact h
theorem se_tup {es : List Expr} {x1} {t : DA} (h : PA X es (tA (gx X cl Wx) t)) : PE X (.Tuple es x1 pos) (tE (gx X cl Wx) (eTup t)) :=
  (pe_tup h).imp fun s H Q ⟨r, m, z, R, P⟩ => by
    refine ⟨r, m, z, R, P.bind fun z1 ws m1 vs H1 E1 R1 r1 P1 => ?_⟩
    split at P1
    · rename_i hl
      refine ⟨by rw [RWs.length r1]; exact sl_le hl, fun p hp => ?_⟩
      obtain ⟨e, M, q⟩ := new_tup (cl := cl) R1.mem hp r1
      exact P1 _ _ _ e (R1.after e M) q
    · exact P1.elim
theorem se_lst {es : List Expr} {t : DA} (h : PA X es (tA (gx X cl Wx) t)) : PE X (.List es pos) (tE (gx X cl Wx) (eLst t)) :=
  (pe_lst h).imp fun s H Q ⟨r, m, z, R, P⟩ => by
    refine ⟨r, m, z, R, P.bind fun z1 ws m1 vs H1 E1 R1 r1 P1 => ?_⟩
    split at P1
    · rename_i hl
      refine ⟨by rw [RWs.length r1]; exact sl_le hl, fun p hp => ?_⟩
      obtain ⟨e, M, q⟩ := new_lst (cl := cl) R1.mem hp r1
      exact P1 _ _ _ e (R1.after e M) q
    · exact P1.elim
/-- a new list that may change -/
theorem new_ref {K : PySem.W.Frag} {z : Zn} {m : Mem} {H : Hp} {p : Addr} {ws : List W} {vs : List V} (M : MemOk K cl z m H) (hp : H p = none) (h : RWs K z H ws vs) : Ext z H (z.lay p) (upd H p (.lst vs)) ∧ MemOk K cl (z.lay p) (m ++ [.lst ws]) (upd H p (.lst vs)) ∧ RW K (z.lay p) (upd H p (.lst vs)) (.ref m.length) (.ref p) := by
  have hs := upd_same_of (o := .lst vs) hp
  have e := M.extS hs
  have e2 : Ext z (upd H p (.lst vs)) (z.lay p) (upd H p (.lst vs)) := ⟨⟨fun _ _ h => h, fun _ _ _ h => h, fun _ h => ⟨h, rfl⟩, fun n a h => by
    have hl := (List.getElem?_eq_some_iff.mp h).1
    show (z.phi ++ [p])[n]? = some a
    rw [List.getElem?_append_left hl]
    exact h⟩, fun _ h => ⟨h, rfl⟩⟩
  obtain ⟨e3, M2⟩ := (M.same hs).lay (p := p) (c := .lst ws) (M.z_ne hp) (M.p_ne hp) ⟨M.z_ne hp, M.h_ne hp, vs, upd_same, RWs.ext (e.trans e2) h⟩
  refine ⟨e.trans e2, M2, p, ?_, rfl⟩
  show (z.phi ++ [p])[m.length]? = some p
  rw [← M.len]
  simp
def eLstM (t : DA) : DE := fun r m => (t r m).bind fun ws m1 => if ws.length ≤ 16777216 then .ok (.ref m1.length) (m1 ++ [.lst ws]) else .bad
theorem se_lstM {es : List Expr} {t : DA} (h : PA X es (tA (gx X cl Wx) t)) : PE X (.List es pos) (tE (gx X cl Wx) (eLstM t)) :=
  (pe_lst h).imp fun s H Q ⟨r, m, z, R, P⟩ => by
    refine ⟨r, m, z, R, P.bind fun z1 ws m1 vs H1 E1 R1 r1 P1 => ?_⟩
    split at P1
    · rename_i hl
      refine ⟨by rw [RWs.length r1]; exact sl_le hl, fun p hp => ?_⟩
      obtain ⟨e, M, q⟩ := new_ref (cl := cl) R1.mem hp r1
      exact P1 _ _ _ e (R1.after e M) q
    · exact P1.elim
end
end Dn

/-! D3: operators on plain values. -/
namespace Dn
open PySem PySem.Spec PyProof.Rows L2

section
variable {K : PySem.W.Frag} {cl : Nat → Addr} {X : Cx}
/-! ### ints -/
def iOp (f : Int → Int → Option W) : Mem → W → W → Option W
  | _, .int i, .int j => f i j
  | _, _, _ => none
theorem opw_int {f : Int → Int → Option W} {C : Int → Int → Prop} {h : Int → Int → V} (hf : ∀ i j w, f i j = some w → C i j ∧ ∀ z H, RW K z H w (h i j)) : OpW K cl (iOp f) (rI C h) := by
  intro z m H a b x y w Q M ra rb e k
  cases a with
  | int i =>
    cases b with
    | int j =>
      obtain ⟨c, q⟩ := hf i j w e
      exact ⟨i, j, ra, rb, c, k z _ H (Ext.refl _ _) M (q z H)⟩
    | _ => simp [iOp] at e
  | _ => simp [iOp] at e
theorem opw_int0 {f : Int → Int → Option W} {h : Int → Int → V} (hf : ∀ i j w, f i j = some w → ∀ z H, RW K z H w (h i j)) : OpW K cl (iOp f) (rI0 h) := by
  intro z m H a b x y w Q M ra rb e k
  cases a with
  | int i =>
    cases b with
    | int j => exact ⟨i, j, ra, rb, k z _ H (Ext.refl _ _) M (hf i j w e z H)⟩
    | _ => simp [iOp] at e
  | _ => simp [iOp] at e
def subW : Mem → W → W → Option W := iOp fun i j => some (.int (i - j))
def fdivW : Mem → W → W → Option W := iOp fun i j => if 0 < j ∧ j < 1073741824 then some (.int (i / j)) else none
def modW : Mem → W → W → Option W := iOp fun i j => if 0 < j then some (.int (i % j)) else none
def powW : Mem → W → W → Option W := iOp fun i j => if 0 ≤ j ∧ j ≤ 1000000 ∧ i.natAbs < 2 ^ 64 then some (.int (i ^ j.toNat)) else none
def ltW : Mem → W → W → Option W := iOp fun i j => some (.bl (decide (i < j)))
def leW : Mem → W → W → Option W := iOp fun i j => some (.bl (decide (i ≤ j)))
def gtW : Mem → W → W → Option W := iOp fun i j => some (.bl (decide (j < i)))
def geW : Mem → W → W → Option W := iOp fun i j => some (.bl (decide (j ≤ i)))
theorem w_sub : OpW K cl subW (rI0 fun i j => .int (i - j)) := opw_int0 fun i j w e z H => by cases e; rfl
theorem w_fdiv : OpW K cl fdivW (rI CDiv fun i j => .int (i / j)) := opw_int fun i j w e => by
  split at e
  · rename_i c; cases e; exact ⟨c, fun _ _ => rfl⟩
  · cases e
theorem w_mod : OpW K cl modW (rI (fun _ j => 0 < j) fun i j => .int (i % j)) := opw_int fun i j w e => by
  split at e
  · rename_i c; cases e; exact ⟨c, fun _ _ => rfl⟩
  · cases e
theorem w_pow : OpW K cl powW (rI CPow fun i j => .int (i ^ j.toNat)) := opw_int fun i j w e => by
  split at e
  · rename_i c; cases e; exact ⟨c, fun _ _ => rfl⟩
  · cases e
theorem w_lt : OpW K cl ltW (rI0 fun i j => .bl (decide (i < j))) := opw_int0 fun i j w e z H => by cases e; rfl
theorem w_le : OpW K cl leW (rI0 fun i j => .bl (decide (i ≤ j))) := opw_int0 fun i j w e z H => by cases e; rfl
theorem w_gt : OpW K cl gtW (rI0 fun i j => .bl (decide (j < i))) := opw_int0 fun i j w e z H => by cases e; rfl
theorem w_ge : OpW K cl geW (rI0 fun i j => .bl (decide (j ≤ i))) := opw_int0 fun i j w e z H => by cases e; rfl

/-! ### + and * -/
def addS : Mem → W → W → Option W
  | _, .str x, .str y => if x.length + y.length ≤ 16777216 then some (.str (x ++ y)) else none
  | _, _, _ => none
def addT : Mem → W → W → Option W
  | _, .tup xs, .tup ys => if xs.length + ys.length ≤ 16777216 then some (.tup (xs ++ ys)) else none
  | _, _, _ => none
def addL : Mem → W → W → Option W := fun m a b => match trkOf m a, trkOf m b with
  | some xs, some ys => if xs.length + ys.length ≤ 16777216 then some (.lst (xs ++ ys)) else none
  | _, _ => none
theorem w_addS : OpW K cl addS (fun x y H Q => ∃ i j, x = .str i ∧ y = .str j ∧ i.length + j.length ≤ sizeLine ∧ Q (.str (i ++ j)) H) := by
  intro z m H a b x y w Q M ra rb e k
  cases a with
  | str i =>
    cases b with
    | str j =>
      simp only [addS] at e
      split at e
      · rename_i c; cases e; exact ⟨i, j, ra, rb, sl_le c, k z _ H (Ext.refl _ _) M rfl⟩
      · cases e
    | _ => simp [addS] at e
  | _ => simp [addS] at e
theorem RWs.nil_iff {z : Zn} {H : Hp} {ws : List W} {vs : List V} (h : RWs K z H ws vs) : vs = [] ↔ ws = [] := by
  have := h.length
  constructor
  · intro q; subst q; exact List.length_eq_zero_iff.mp this.symm
  · intro q; subst q; exact List.length_eq_zero_iff.mp this
theorem w_addT : OpW K cl addT (rCatA K) := by
  intro z m H a b x y w Q M ra rb e k
  cases a with
  | tup xs =>
    cases b with
    | tup ys =>
      simp only [addT] at e
      split at e
      · rename_i c
        cases e
        obtain ⟨p, vs, e1, e2, e3⟩ := ra
        obtain ⟨q, us, f1, f2, f3⟩ := rb
        refine ⟨p, q, vs, us, e1, f1, e2, f2, ?_, fun hn => ?_, fun _ hn => ?_, fun _ _ l hl => ?_⟩
        · rw [e3.length, f3.length]; exact sl_le c
        · have hx : xs = [] := e3.nil_iff.mp hn
          subst hx
          exact k z _ H (Ext.refl _ _) M ⟨q, us, rfl, f2, f3⟩
        · have hx : ys = [] := f3.nil_iff.mp hn
          subst hx
          rw [List.append_nil] at k
          exact k z _ H (Ext.refl _ _) M ⟨p, vs, rfl, e2, e3⟩
        · obtain ⟨t1, t2, t3⟩ := new_tup (cl := cl) M hl (e3.append f3)
          exact k _ _ _ t1 t2 t3
      · cases e
    | _ => simp [addT] at e
  | _ => simp [addT] at e
theorem w_addL : OpW K cl addL rCat := by
  intro z m H a b x y w Q M ra rb e k
  unfold addL at e
  split at e
  · rename_i xs ys e1 e2
    split at e
    · rename_i c
      cases e
      obtain ⟨p, vs, a1, a2, a3⟩ := trk_at M ra e1
      obtain ⟨q, us, b1, b2, b3⟩ := trk_at M rb e2
      refine ⟨p, q, vs, us, a1, b1, a2, b2, by rw [a3.length, b3.length]; exact sl_le c, fun l hl => ?_⟩
      obtain ⟨t1, t2, t3⟩ := new_lst (cl := cl) M hl (a3.append b3)
      exact k _ _ _ t1 t2 t3
    · cases e
  · cases e
def addI : Mem → W → W → Option W := iOp fun i j => some (.int (i + j))
theorem w_addI : OpW K cl addI (rI0 fun i j => .int (i + j)) := opw_int0 fun i j w e z H => by cases e; rfl
def addW (m : Mem) (a b : W) : Option W := match a, b with
  | .int i, .int j => some (.int (i + j))
  | .str x, .str y => addS m (.str x) (.str y)
  | .tup x, .tup y => addT m (.tup x) (.tup y)
  | a, b => addL m a b
abbrev rAddW (K : PySem.W.Frag) : R2 := fun x y H Q => (rI0 fun i j => .int (i + j)) x y H Q ∨ (fun x y H Q => (fun x y H Q => ∃ i j, x = V.str i ∧ y = V.str j ∧ i.length + j.length ≤ sizeLine ∧ Q (V.str (i ++ j)) H) x y H Q ∨ (fun x y H Q => rCatA K x y H Q ∨ rCat x y H Q) x y H Q) x y H Q
theorem o_add : OpR X (binaryOp .Add) (rAddW X.K) := op_add.or (op_add_str.or (op_catA.or op_cat))
theorem w_add : OpW K cl addW (rAddW K) := by
  refine OpW.or (o1 := addI) (o2 := fun m a b => match a, b with
    | .str x, .str y => addS m (.str x) (.str y)
    | .tup x, .tup y => addT m (.tup x) (.tup y)
    | a, b => addL m a b) w_addI (OpW.or (o1 := addS) (o2 := fun m a b => match a, b with
    | .tup x, .tup y => addT m (.tup x) (.tup y)
    | a, b => addL m a b) w_addS (OpW.or (o1 := addT) (o2 := addL) w_addT w_addL ?_) ?_) ?_
  · intro m a b w e
    split at e
    · exact .inl e
    · exact .inr e
  · intro m a b w e
    split at e
    · exact .inl e
    · exact .inr e
    · exact .inr (by rename_i h1 h2; split <;> first | exact e | (rename_i h; exact absurd rfl (h2 _ _ rfl)))
  · intro m a b w e
    unfold addW at e
    split at e
    · exact .inl e
    · exact .inr e
    · exact .inr e
    · refine .inr ?_
      rename_i h1 h2 h3
      split
      · exact absurd rfl (h2 _ _ rfl)
      · exact absurd rfl (h3 _ _ rfl)
      · exact e
def mulI : Mem → W → W → Option W := iOp fun i j => if (-(2 ^ 64) < i ∧ i < 2 ^ 64) ∨ (-(2 ^ 64) < j ∧ j < 2 ^ 64) then some (.int (i * j)) else none
theorem w_mulI : OpW K cl mulI (rI CMul fun i j => .int (i * j)) := opw_int fun i j w e => by
  split at e
  · rename_i c; cases e; exact ⟨c, fun _ _ => rfl⟩
  · cases e
def mulL : Mem → W → W → Option W := fun m a b => match trkOf m a, b with
  | some xs, .int k => if -(2 ^ 63) ≤ k ∧ k < 2 ^ 63 ∧ xs.length * k.toNat ≤ 16777216 then some (.lst (List.replicate k.toNat xs).flatten) else none
  | _, _ => none
theorem RWs.rep {z : Zn} {H : Hp} {ws : List W} {vs : List V} (h : RWs K z H ws vs) : ∀ k : Nat, RWs K z H (List.replicate k ws).flatten (List.replicate k vs).flatten
  | 0 => rfl
  | k + 1 => by
    rw [List.replicate_succ, List.replicate_succ, List.flatten_cons, List.flatten_cons]
    exact h.append (RWs.rep h k)
theorem w_mulL : OpW K cl mulL rRep := by
  intro z m H a b x y w Q M ra rb e k
  unfold mulL at e
  split at e
  · rename_i xs j e1
    split at e
    · rename_i c
      cases e
      obtain ⟨p, vs, a1, a2, a3⟩ := trk_at M ra e1
      refine ⟨p, j, vs, a1, rb, a2, c.1, c.2.1, by rw [a3.length]; exact sl_le c.2.2, fun l hl => ?_⟩
      obtain ⟨t1, t2, t3⟩ := new_lst (cl := cl) M hl (a3.rep j.toNat)
      exact k _ _ _ t1 t2 t3
    · cases e
  · cases e
def mulW (m : Mem) (a b : W) : Option W := match a, b with
  | .int i, .int j => mulI m (.int i) (.int j)
  | a, b => mulL m a b
theorem o_mul : OpR X (binaryOp .Mult) (fun x y H Q => (rI CMul fun i j => .int (i * j)) x y H Q ∨ rRep x y H Q) := op_mul.or op_rep
theorem w_mul : OpW K cl mulW (fun x y H Q => (rI CMul fun i j => .int (i * j)) x y H Q ∨ rRep x y H Q) := by
  refine OpW.or (o1 := mulI) (o2 := mulL) w_mulI w_mulL ?_
  intro m a b w e
  unfold mulW at e
  split at e
  · exact .inl e
  · exact .inr e

/-! ### == and in, over data -/
mutual
def okW (n : Nat) : W → Bool
  | .non => true
  | .bl _ => true
  | .int _ => true
  | .str x => PyData.strOk x
  | .tup xs => match n with
    | 0 => false
    | k + 1 => okWs k xs
  | .lst xs => match n with
    | 0 => false
    | k + 1 => okWs k xs
  | .old xs => match n with
    | 0 => false
    | k + 1 => okWs k xs
  | .ref _ => false
  | .raw _ => false
def okWs (n : Nat) : List W → Bool
  | [] => true
  | w :: ws => okW n w && okWs n ws
end
mutual
def toD : W → PyData
  | .non => .none
  | .bl b => .bool b
  | .int i => .int i
  | .str x => .str x
  | .tup xs => .tuple (toDs xs)
  | .lst xs => .list (toDs xs)
  | .old xs => .list (toDs xs)
  | .ref _ => .none
  | .raw _ => .none
def toDs : List W → List PyData
  | [] => []
  | w :: ws => toD w :: toDs ws
end
mutual
def eqW : W → W → Bool
  | .non, .non => true
  | .bl a, .bl b => a == b
  | .bl a, .int j => (if a then 1 else 0) == j
  | .int i, .bl b => i == (if b then 1 else 0)
  | .int i, .int j => i == j
  | .str x, .str y => x == y
  | .tup xs, .tup ys => eqWs xs ys
  | .lst xs, .lst ys => eqWs xs ys
  | .lst xs, .old ys => eqWs xs ys
  | .old xs, .lst ys => eqWs xs ys
  | .old xs, .old ys => eqWs xs ys
  | _, _ => false
def eqWs : List W → List W → Bool
  | [], [] => true
  | x :: xs, y :: ys => eqW x y && eqWs xs ys
  | _, _ => false
end
mutual
theorem okW_lay : ∀ (n : Nat) (w : W), okW n w = true → (toD w).canLay0 = true ∧ (toD w).depth ≤ n
  | n, .non, _ => ⟨rfl, Nat.zero_le _⟩
  | n, .bl _, _ => ⟨rfl, Nat.zero_le _⟩
  | n, .int _, _ => ⟨rfl, Nat.zero_le _⟩
  | n, .str x, h => ⟨by simpa [toD, PyData.canLay0, okW] using h, by simp [toD, PyData.depth]⟩
  | 0, .tup xs, h => by simp [okW] at h
  | n + 1, .tup xs, h => by
    obtain ⟨h1, h2⟩ := okWs_lay n xs (by simpa [okW] using h)
    exact ⟨by simpa [toD, PyData.canLay0] using h1, by simpa [toD, PyData.depth] using h2⟩
  | 0, .lst xs, h => by simp [okW] at h
  | n + 1, .lst xs, h => by
    obtain ⟨h1, h2⟩ := okWs_lay n xs (by simpa [okW] using h)
    exact ⟨by simpa [toD, PyData.canLay0] using h1, by simpa [toD, PyData.depth] using h2⟩
  | 0, .old xs, h => by simp [okW] at h
  | n + 1, .old xs, h => by
    obtain ⟨h1, h2⟩ := okWs_lay n xs (by simpa [okW] using h)
    exact ⟨by simpa [toD, PyData.canLay0] using h1, by simpa [toD, PyData.depth] using h2⟩
  | n, .ref _, h => by simp [okW] at h
  | n, .raw _, h => by simp [okW] at h
theorem okWs_lay : ∀ (n : Nat) (ws : List W), okWs n ws = true → PyData.canLayAll0 (toDs ws) = true ∧ PyData.depthAll (toDs ws) ≤ n
  | n, [], _ => ⟨rfl, Nat.zero_le _⟩
  | n, w :: ws, h => by
    rw [okWs, Bool.and_eq_true_iff] at h
    obtain ⟨h1, h2⟩ := okW_lay n w h.1
    obtain ⟨h3, h4⟩ := okWs_lay n ws h.2
    exact ⟨by simp [toDs, PyData.canLayAll0, h1, h3], by simp only [toDs, PyData.depthAll]; omega⟩
end
theorem okW_shaped {n : Nat} {w : W} (h : okW n w = true) (hn : n ≤ 64) : SeqAt.shaped (toD w) = true := by
  obtain ⟨h1, h2⟩ := okW_lay n w h
  unfold SeqAt.shaped
  rw [h1, Bool.true_and]
  exact decide_eq_true (Nat.le_trans h2 hn)
mutual
theorem eqv_toD : ∀ (n k : Nat) (a b : W), okW n a = true → okW k b = true → PyData.eqv (toD a) (toD b) = eqW a b
  | n, k, .non, b, ha, hb => by cases b <;> first | rfl | simp [okW] at hb
  | n, k, .bl x, b, ha, hb => by cases b <;> first | rfl | simp [okW] at hb
  | n, k, .int x, b, ha, hb => by cases b <;> first | rfl | simp [okW] at hb
  | n, k, .str x, b, ha, hb => by cases b <;> first | rfl | simp [okW] at hb
  | 0, k, .tup xs, b, ha, hb => by simp [okW] at ha
  | n + 1, k, .tup xs, b, ha, hb => by
    cases b with
    | tup ys =>
      cases k with
      | zero => simp [okW] at hb
      | succ k =>
        simp only [toD, PyData.eqv, eqW]
        exact eqv_toDs n k xs ys (by simpa [okW] using ha) (by simpa [okW] using hb)
    | ref _ => simp [okW] at hb
    | raw _ => simp [okW] at hb
    | _ => rfl
  | 0, k, .lst xs, b, ha, hb => by simp [okW] at ha
  | n + 1, k, .lst xs, b, ha, hb => by
    cases b with
    | lst ys =>
      cases k with
      | zero => simp [okW] at hb
      | succ k =>
        simp only [toD, PyData.eqv, eqW]
        exact eqv_toDs n k xs ys (by simpa [okW] using ha) (by simpa [okW] using hb)
    | old ys =>
      cases k with
      | zero => simp [okW] at hb
      | succ k =>
        simp only [toD, PyData.eqv, eqW]
        exact eqv_toDs n k xs ys (by simpa [okW] using ha) (by simpa [okW] using hb)
    | ref _ => simp [okW] at hb
    | raw _ => simp [okW] at hb
    | _ => rfl
  | 0, k, .old xs, b, ha, hb => by simp [okW] at ha
  | n + 1, k, .old xs, b, ha, hb => by
    cases b with
    | lst ys =>
      cases k with
      | zero => simp [okW] at hb
      | succ k =>
        simp only [toD, PyData.eqv, eqW]
        exact eqv_toDs n k xs ys (by simpa [okW] using ha) (by simpa [okW] using hb)
    | old ys =>
      cases k with
      | zero => simp [okW] at hb
      | succ k =>
        simp only [toD, PyData.eqv, eqW]
        exact eqv_toDs n k xs ys (by simpa [okW] using ha) (by simpa [okW] using hb)
    | ref _ => simp [okW] at hb
    | raw _ => simp [okW] at hb
    | _ => rfl
  | n, k, .ref _, b, ha, hb => by simp [okW] at ha
  | n, k, .raw _, b, ha, hb => by simp [okW] at ha
theorem eqv_toDs : ∀ (n k : Nat) (as bs : List W), okWs n as = true → okWs k bs = true → PyData.eqvAll (toDs as) (toDs bs) = eqWs as bs
  | n, k, [], [], _, _ => rfl
  | n, k, [], _ :: _, _, _ => rfl
  | n, k, _ :: _, [], _, _ => rfl
  | n, k, a :: as, b :: bs, ha, hb => by
    rw [okWs, Bool.and_eq_true_iff] at ha hb
    simp only [toDs, PyData.eqvAll, eqWs]
    rw [eqv_toD n k a b ha.1 hb.1, eqv_toDs n k as bs ha.2 hb.2]
end
mutual
theorem dp_of {z : Zn} {H : Hp} : ∀ {n : Nat} {w : W} {v : V}, okW n w = true → RW K z H w v → Dp K H v (toD w)
  | _, .non, _, _, h => by cases h; exact .non
  | _, .bl _, _, _, h => by cases h; exact .bl _
  | _, .int _, _, _, h => by cases h; exact .int _
  | _, .str _, _, _, h => by cases h; exact .str _
  | 0, .tup ws, _, ho, _ => by simp [okW] at ho
  | n + 1, .tup ws, _, ho, ⟨a, vs, h1, h2, h3⟩ => by subst h1; exact .tup h2 (dps_of (n := n) (by simpa [okW] using ho) h3)
  | 0, .lst ws, _, ho, _ => by simp [okW] at ho
  | n + 1, .lst ws, _, ho, ⟨a, vs, h1, h2, h3⟩ => by subst h1; exact .lst (SqL.of h2.2) (dps_of (n := n) (by simpa [okW] using ho) h3)
  | 0, .old ws, _, ho, _ => by simp [okW] at ho
  | n + 1, .old ws, _, ho, ⟨a, vs, h1, h2, h3⟩ => by subst h1; exact .lst h2.sq (dps_of (n := n) (by simpa [okW] using ho) h3)
  | _, .ref _, _, ho, _ => by simp [okW] at ho
  | _, .raw _, _, ho, _ => by simp [okW] at ho
theorem dps_of {z : Zn} {H : Hp} : ∀ {n : Nat} {ws : List W} {vs : List V}, okWs n ws = true → RWs K z H ws vs → DpAll K H vs (toDs ws)
  | _, [], _, _, h => by cases h; exact .nil
  | _, _ :: _, _, ho, ⟨v, r, h1, h2, h3⟩ => by
    subst h1
    rw [okWs, Bool.and_eq_true_iff] at ho
    exact .cons (dp_of ho.1 h2) (dps_of ho.2 h3)
end
/-- a list that may change, as it is now -/
def rsv (m : Mem) : W → W
  | .ref n => match m[n]? with
    | some (.lst xs) => .lst xs
    | some (.fz xs) => .lst xs
    | _ => .ref n
  | w => w
theorem dp_rsv {z : Zn} {m : Mem} {H : Hp} {n : Nat} {w : W} {v : V} (M : MemOk K cl z m H) (ho : okW n (rsv m w) = true) (h : RW K z H w v) : Dp K H v (toD (rsv m w)) := by
  cases w with
  | ref i =>
    obtain ⟨a, h1, h2⟩ := h
    obtain ⟨c, e1, hc⟩ := M.at h1
    subst h2
    simp only [rsv, e1] at ho ⊢
    cases c with
    | lst ys =>
      obtain ⟨_, _, vs, q, rr⟩ := hc
      cases n with
      | zero => simp [okW] at ho
      | succ n => exact .lst (SqL.of q) (dps_of (n := n) (by simpa [okW] using ho) rr)
    | fz ys =>
      obtain ⟨_, vs, q, rr⟩ := hc
      cases n with
      | zero => simp [okW] at ho
      | succ n => exact .lst (SqL.of q) (dps_of (n := n) (by simpa [okW] using ho) rr)
    | _ => simp [okW] at ho
  | _ => exact dp_of ho h
def eqM (m : Mem) (a b : W) : Option W := if okW 60 (rsv m a) && okW 60 (rsv m b) then some (.bl (eqW (rsv m a) (rsv m b))) else none
def neM (m : Mem) (a b : W) : Option W := if okW 60 (rsv m a) && okW 60 (rsv m b) then some (.bl (!eqW (rsv m a) (rsv m b))) else none
theorem w_eq : OpW K cl eqM (rEqD K) := by
  intro z m H a b x y w Q M ra rb e k
  unfold eqM at e
  split at e
  · rename_i c
    rw [Bool.and_eq_true_iff] at c
    cases e
    refine ⟨_, _, dp_rsv M c.1 ra, dp_rsv M c.2 rb, okW_shaped c.1 (by decide), okW_shaped c.2 (by decide), ?_⟩
    rw [eqv_toD _ _ _ _ c.1 c.2]
    exact k z _ H (Ext.refl _ _) M rfl
  · cases e
theorem w_ne : OpW K cl neM (rNeD K) := by
  intro z m H a b x y w Q M ra rb e k
  unfold neM at e
  split at e
  · rename_i c
    rw [Bool.and_eq_true_iff] at c
    cases e
    refine ⟨_, _, dp_rsv M c.1 ra, dp_rsv M c.2 rb, okW_shaped c.1 (by decide), okW_shaped c.2 (by decide), ?_⟩
    rw [eqv_toD _ _ _ _ c.1 c.2]
    exact k z _ H (Ext.refl _ _) M rfl
  · cases e
/-! in, not in: of data, in lists and tuples -/
def rInA (K : PySem.W.Frag) (neg : Bool) : R2 := fun x y H Q => ∃ d ds, Dp K H x d ∧ (Dp K H y (.list ds) ∨ Dp K H y (.tuple ds)) ∧ SeqAt.shaped d = true ∧ SeqAt.shaped (.list ds) = true ∧ Q (.bl (if neg then !(ds.any fun z => PyData.eqv z d) else ds.any fun z => PyData.eqv z d)) H
theorem shaped_tl {ds : List PyData} (h : SeqAt.shaped (.list ds) = true) : SeqAt.shaped (.tuple ds) = true := h
theorem op_inA (hu : X.A.units + 65 < cLine) : OpR X (compareOp .In) (rInA X.K false) := by
  intro pins s σ H x y v u Q I rx ry h
  obtain ⟨d, ds, hd, he, sd, se, q⟩ := h
  obtain ⟨as, r1⟩ := Dp.reads I d x v hd rx
  rcases he with he | he
  · obtain ⟨bs, r2⟩ := Dp.reads I (.list ds) y u he ry
    exact SeqAt.in_list_reads r2 r1 (SeqAt.canLay_of_shaped se) (SeqAt.canLay_of_shaped sd) (room_in_shaped sd hu) ⟨.bl _, H, I, rfl, q⟩
  · obtain ⟨bs, r2⟩ := Dp.reads I (.tuple ds) y u he ry
    exact SeqAt.in_tuple_reads r2 r1 (SeqAt.canLay_of_shaped (shaped_tl se)) (SeqAt.canLay_of_shaped sd) (room_in_shaped sd hu) ⟨.bl _, H, I, rfl, q⟩
theorem op_notInA (hu : X.A.units + 65 < cLine) : OpR X (compareOp .NotIn) (rInA X.K true) := by
  intro pins s σ H x y v u Q I rx ry h
  obtain ⟨d, ds, hd, he, sd, se, q⟩ := h
  obtain ⟨as, r1⟩ := Dp.reads I d x v hd rx
  rcases he with he | he
  · obtain ⟨bs, r2⟩ := Dp.reads I (.list ds) y u he ry
    exact SeqAt.notIn_list_reads r2 r1 (SeqAt.canLay_of_shaped se) (SeqAt.canLay_of_shaped sd) (room_in_shaped sd hu) ⟨.bl _, H, I, rfl, q⟩
  · obtain ⟨bs, r2⟩ := Dp.reads I (.tuple ds) y u he ry
    exact SeqAt.notIn_tuple_reads r2 r1 (SeqAt.canLay_of_shaped (shaped_tl se)) (SeqAt.canLay_of_shaped sd) (room_in_shaped sd hu) ⟨.bl _, H, I, rfl, q⟩
def anyEq (a : W) : List W → Bool
  | [] => false
  | y :: ys => eqW y a || anyEq a ys
def inM (neg : Bool) (m : Mem) (a b : W) : Option W := match seqOf m b with
  | some ys => if okW 60 (rsv m a) && okWs 60 ys then some (.bl (if neg then !anyEq (rsv m a) ys else anyEq (rsv m a) ys)) else none
  | none => none
theorem any_toDs {n k : Nat} {a : W} (ha : okW n a = true) : ∀ {ys : List W}, okWs k ys = true → ((toDs ys).any fun z => PyData.eqv z (toD a)) = anyEq a ys
  | [], _ => rfl
  | y :: ys, h => by
    rw [okWs, Bool.and_eq_true_iff] at h
    simp only [toDs, List.any_cons, anyEq]
    rw [eqv_toD k n y a h.1 ha, any_toDs ha h.2]
theorem w_in {neg : Bool} : OpW K cl (inM neg) (rInA K neg) := by
  intro z m H a b x y w Q M ra rb e k
  unfold inM at e
  split at e
  · rename_i ys q
    split at e
    · rename_i c
      rw [Bool.and_eq_true_iff] at c
      cases e
      obtain ⟨p, vs, e1, e2, e3⟩ := seq_at M rb q
      subst e1
      refine ⟨toD (rsv m a), toDs ys, dp_rsv M c.1 ra, ?_, okW_shaped c.1 (by decide), okW_shaped (n := 61) (w := .lst ys) (by simpa [okW] using c.2) (by decide), ?_⟩
      · rcases e2 with e2 | e2
        · exact .inl (.lst e2 (dps_of c.2 e3))
        · exact .inr (.tup e2 (dps_of c.2 e3))
      · rw [any_toDs c.1 c.2]
        exact k z _ H (Ext.refl _ _) M rfl
    · cases e
  · cases e

/-! ### items -/
def ixM (m : Mem) (a b : W) : Option W := match seqOf m a, b with
  | some xs, .int i => atI xs i
  | _, _ => none
theorem atI_rel {z : Zn} {H : Hp} {ws : List W} {vs : List V} {i : Int} {w : W} (h : RWs K z H ws vs) (e : atI ws i = some w) : ∃ v, atI vs i = some v ∧ RW K z H w v := by
  unfold atI at e ⊢
  rw [h.length]
  cases q : ixN ws.length i with
  | none => rw [q] at e; cases e
  | some j =>
    rw [q] at e
    obtain ⟨v, e1, e2⟩ := h.get (i := j) (w := w) (by simpa using e)
    exact ⟨v, by simpa using e1, e2⟩
theorem w_ix : OpW K cl ixM (rIx K) := by
  intro z m H a b x y w Q M ra rb e k
  unfold ixM at e
  split at e
  · rename_i xs i q
    obtain ⟨p, vs, e1, e2, e3⟩ := seq_at M ra q
    obtain ⟨v, f1, f2⟩ := atI_rel e3 e
    rcases e2 with e2 | e2
    · exact .inl ⟨p, vs, i, v, e1, rb, e2, f1, k z _ H (Ext.refl _ _) M f2⟩
    · exact .inr (.inl ⟨p, vs, i, v, e1, rb, e2, f1, k z _ H (Ext.refl _ _) M f2⟩)
  · cases e
end
end Dn

/-! D4: statements, targets, loops. -/
namespace Dn
open PySem PySem.Spec PyProof.Rows L2

def PostS (g : Gx) (z : Zn) (H : Hp) (q : RS) (D : Ends) : Prop :=
  match q with
  | .next r m => ∀ z' s' H', Ext z H z' H' → Rel g.K g.cl z' r m s' H' → D.nx s' H'
  | .brk r m => ∀ z' s' H', Ext z H z' H' → Rel g.K g.cl z' r m s' H' → D.bk s' H'
  | .cont r m => ∀ z' s' H', Ext z H z' H' → Rel g.K g.cl z' r m s' H' → D.ct s' H'
  | .ret w m => ∀ z' v H', Ext z H z' H' → MemOk g.K g.cl z' m H' → RW g.K z' H' w v → D.rt v H'
  | .exc x r m => ∀ z' s' H' c d, Ext z H z' H' → Rel g.K g.cl z' r m s' H' → XnOk g.K g.cl z' H' x c d → g.Wx c d s' H'
  | .bad => False
def tS (g : Gx) (f : DS) : TS := fun D s H => ∃ r m z, Rel g.K g.cl z r m s H ∧ PostS g z H (f r m) D
def R.thenS {α : Type} (q : R α) (r : Rho) (k : α → Mem → RS) : RS :=
  match q with
  | .ok a m => k a m
  | .exc x m => .exc x r m
  | .bad => .bad

section
variable {α β : Type} {g : Gx} {rel : Zn → Hp → α → β → Prop} {z z1 : Zn} {H H1 : Hp} {r : Rho} {s : L2.St} {D : Ends} {Q1 : β → Hp → Prop}
theorem PostS.mono {q : RS} (e : Ext z H z1 H1) (h : PostS g z H q D) : PostS g z1 H1 q D := by
  cases q with
  | next r m => exact fun z' s' H' e' => h z' s' H' (e.trans e')
  | brk r m => exact fun z' s' H' e' => h z' s' H' (e.trans e')
  | cont r m => exact fun z' s' H' e' => h z' s' H' (e.trans e')
  | ret w m => exact fun z' v H' e' => h z' v H' (e.trans e')
  | exc x r m => exact fun z' s' H' c d e' => h z' s' H' c d (e.trans e')
  | bad => exact h
theorem PostS.bind {q : R α} {k : α → Mem → RS} (h : PostS g z H (q.thenS r k) D)
    (hk : ∀ z1 a m1 b H1, Ext z H z1 H1 → Rel g.K g.cl z1 r m1 s H1 → rel z1 H1 a b → PostS g z1 H1 (k a m1) D → Q1 b H1) : Post g rel z H r s q Q1 := by
  cases q with
  | ok a m => exact fun z' b H' e R q => hk z' a m b H' e R q (PostS.mono e h)
  | exc x m => exact fun z' H' c d e R q => h z' s H' c d e R q
  | bad => exact h
theorem PostS.next {m : Mem} (h : PostS g z H (.next r m) D) (R : Rel g.K g.cl z r m s H) : D.nx s H := h z s H (Ext.refl _ _) R
end

section
variable {X : Cx} {cl : Nat → Addr} {Wx : WX} {e a b : Expr} {pos : Pos} {st : Stmt}
theorem _root_.L2.PS.imp {t t' : TS} (h : PS X st t) (hi : ∀ D s H, t' D s H → t D s H) : PS X st t' := ⟨fun pins sh s H D I q => h.run pins sh s H D I (hi _ _ _ q)⟩
theorem _root_.L2.PSs.imp {sts : List Stmt} {t t' : TS} (h : PSs X sts t) (hi : ∀ D s H, t' D s H → t D s H) : PSs X sts t' := ⟨fun pins sh s H D I q => h.run pins sh s H D I (hi _ _ _ q)⟩
def sNil : DS := fun r m => .next r m
def sSeq (f h : DS) : DS := fun r m => match f r m with
  | .next r1 m1 => h r1 m1
  | q => q
theorem ss_nil : PSs X [] (tS (gx X cl Wx) sNil) := pss_nil.imp fun D s H ⟨r, m, z, R, P⟩ => P.next R
theorem ss_cons {rest : List Stmt} {f h : DS} (h1 : PS X st (tS (gx X cl Wx) f)) (h2 : PSs X rest (tS (gx X cl Wx) h)) : PSs X (st :: rest) (tS (gx X cl Wx) (sSeq f h)) :=
  (pss_cons h1 h2).imp fun D s H ⟨r, m, z, R, P⟩ => by
    refine ⟨r, m, z, R, ?_⟩
    unfold sSeq at P
    cases q : f r m with
    | next r1 m1 =>
      rw [q] at P
      exact fun z' s' H' e R' => ⟨r1, m1, z', R', PostS.mono e P⟩
    | brk r1 m1 => rw [q] at P; exact P
    | cont r1 m1 => rw [q] at P; exact P
    | ret w m1 => rw [q] at P; exact P
    | exc x r1 m1 => rw [q] at P; exact P
    | bad => rw [q] at P; exact P
theorem ss_one {f : DS} (h1 : PS X st (tS (gx X cl Wx) f)) : PSs X [st] (tS (gx X cl Wx) f) := pss_one h1
def sPass : DS := fun r m => .next r m
def sBrk : DS := fun r m => .brk r m
def sCont : DS := fun r m => .cont r m
theorem ss_pass : PS X (.Pass pos) (tS (gx X cl Wx) sPass) := ps_pass.imp fun D s H ⟨r, m, z, R, P⟩ => P.next R
theorem ss_break : PS X (.Break pos) (tS (gx X cl Wx) sBrk) := ps_break.imp fun D s H ⟨r, m, z, R, P⟩ => P z s H (Ext.refl _ _) R
theorem ss_continue : PS X (.Continue pos) (tS (gx X cl Wx) sCont) := ps_continue.imp fun D s H ⟨r, m, z, R, P⟩ => P z s H (Ext.refl _ _) R
def sExpr (f : DE) : DS := fun r m => (f r m).thenS r fun _ m1 => .next r m1
theorem ss_expr {f : DE} (he : PE X e (tE (gx X cl Wx) f)) (hs : swapsWith e none pos.line X.env = pure false := by rfl) : PS X (.Expr e pos) (tS (gx X cl Wx) (sExpr f)) :=
  (ps_expr he hs).imp fun D s H ⟨r, m, z, R, P⟩ => ⟨r, m, z, R, P.bind fun z1 w m1 v H1 E1 R1 r1 P1 => P1.next R1⟩
def sRet (f : DE) : DS := fun r m => (f r m).thenS r fun w m1 => .ret w m1
theorem ss_ret {f : DE} (he : PE X e (tE (gx X cl Wx) f)) : PS X (.Return (some e) pos) (tS (gx X cl Wx) (sRet f)) :=
  (ps_ret he).imp fun D s H ⟨r, m, z, R, P⟩ => ⟨r, m, z, R, P.bind fun z1 w m1 v H1 E1 R1 r1 P1 => P1 z1 v H1 (Ext.refl _ _) R1.mem r1⟩
def sRetN : DS := fun _ m => .ret .non m
theorem ss_retN : PS X (.Return none pos) (tS (gx X cl Wx) sRetN) := ps_retN.imp fun D s H ⟨r, m, z, R, P⟩ => P z _ H (Ext.refl _ _) R.mem rfl
def sIf (c : DT) (f h : DS) : DS := fun r m => (c r m).thenS r fun k m1 => if k = true then f r m1 else h r m1
theorem ss_if {c : Expr} {xs ys : List Stmt} {fc : DT} {f h : DS} (hc : PT X c (tT (gx X cl Wx) fc)) (ha : PSs X xs (tS (gx X cl Wx) f)) (hb : PSs X ys (tS (gx X cl Wx) h)) : PS X (.If c xs ys pos) (tS (gx X cl Wx) (sIf fc f h)) :=
  (ps_if hc ha hb).imp fun D s H ⟨r, m, z, R, P⟩ => by
    refine ⟨r, m, z, R, P.bind (rel := relB) fun z1 k m1 d H1 E1 R1 r1 P1 => ?_⟩
    have r1 : k = d := r1
    subst r1
    cases k with
    | true => exact ⟨r, m1, z1, R1, P1⟩
    | false => exact ⟨r, m1, z1, R1, P1⟩

/-! ### targets -/
abbrev DG := W → Rho → Option Rho
/-- the slots but those in js are as they were -/
def Agree (js : List Nat) (s s' : L2.St) : Prop := s'.length = s.length ∧ ∀ i : Nat, i ∉ js → s'[i]? = s[i]?
theorem Agree.refl (js : List Nat) (s : L2.St) : Agree js s s := ⟨rfl, fun _ _ => rfl⟩
theorem Agree.trans {js ks : List Nat} {s s1 s2 : L2.St} (a : Agree js s s1) (b : Agree ks s1 s2) : Agree (js ++ ks) s s2 :=
  ⟨b.1.trans a.1, fun i h => (b.2 i fun q => h (List.mem_append_right _ q)).trans (a.2 i fun q => h (List.mem_append_left _ q))⟩
theorem Agree.set (i : Nat) (s : L2.St) (v : Option V) : Agree [i] s (s.set i v) := ⟨by simp, fun j h => List.getElem?_set_ne (by intro q; exact h (by simp [q]))⟩
def tGt (K : PySem.W.Frag) (cl : Nat → Addr) (js : List Nat) (f : DG) : TG := fun v s H Q => ∃ w r m z, Rel K cl z r m s H ∧ RW K z H w v ∧ match f w r with
  | some r' => ∀ s', Rel K cl z r' m s' H → Agree js s s' → Q s' H
  | none => False
def tGts (K : PySem.W.Frag) (cl : Nat → Addr) (js : List Nat) (f : List W → Rho → Option Rho) : TGs := fun vs s H Q => ∃ ws r m z, Rel K cl z r m s H ∧ RWs K z H ws vs ∧ match f ws r with
  | some r' => ∀ s', Rel K cl z r' m s' H → Agree js s s' → Q s' H
  | none => False
def gN (i : Nat) : DG := fun w r => some (r.set i (some w))
def gsNil : List W → Rho → Option Rho := fun ws r => match ws with
  | [] => some r
  | _ => none
def gsCons (f : DG) (t : List W → Rho → Option Rho) : List W → Rho → Option Rho := fun ws r => match ws with
  | w :: ws => (f w r).bind fun r1 => t ws r1
  | [] => none
def gT (t : List W → Rho → Option Rho) : DG := fun w r => match w with
  | .tup ws => t ws r
  | _ => none
theorem _root_.L2.PG.imp {tg : Expr} {t t' : TG} (h : PG X tg t) (hi : ∀ v s H Q, t' v s H Q → t v s H Q) : PG X tg t' := ⟨fun pins sh s H v u Q I rv q => h.run pins sh s H v u Q I rv (hi _ _ _ _ q)⟩
theorem _root_.L2.PGs.imp {tg : List Expr} {t t' : TGs} (h : PGs X tg t) (hi : ∀ v s H Q, t' v s H Q → t v s H Q) : PGs X tg t' := ⟨fun pins sh s H v u Q I rv q => h.run pins sh s H v u Q I rv (hi _ _ _ _ q)⟩
theorem sg_name {i : Nat} {x : Str} (h : PG X (.Name x pos) (gName i)) : PG X (.Name x pos) (tGt X.K cl [i] (gN i)) :=
  h.imp fun v s H Q ⟨w, r, m, z, R, q, k⟩ => k _ ⟨R.slots.set q, R.mem⟩ (Agree.set i s _)
theorem sgs_nil : PGs X [] (tGts X.K cl [] gsNil) := pgs_nil.imp fun vs s H Q ⟨ws, r, m, z, R, q, k⟩ => by
  cases ws with
  | nil => exact ⟨q, k s R (Agree.refl _ _)⟩
  | cons w ws => exact k.elim
theorem sgs_cons {es : List Expr} {js ks : List Nat} {f : DG} {t : List W → Rho → Option Rho} (h1 : PG X e (tGt X.K cl js f)) (h2 : PGs X es (tGts X.K cl ks t))
    (hs : (assignEach (e :: es) X.env).map (·.2) = assign e X.env :: (assignEach es X.env).map (·.2) := by rfl) : PGs X (e :: es) (tGts X.K cl (js ++ ks) (gsCons f t)) :=
  (pgs_cons h1 h2 hs).imp fun vs s H Q ⟨ws, r, m, z, R, q, k⟩ => by
    cases ws with
    | nil => exact k.elim
    | cons w ws =>
      obtain ⟨v, vr, e1, q1, q2⟩ := q
      refine ⟨v, vr, e1, w, r, m, z, R, q1, ?_⟩
      simp only [gsCons] at k
      cases e2 : f w r with
      | none => rw [e2] at k; exact k.elim
      | some r1 =>
        rw [e2] at k
        refine fun s' R' a1 => ⟨ws, r1, m, z, R', q2, ?_⟩
        simp only [Option.bind] at k
        cases e3 : t ws r1 with
        | none => rw [e3] at k; exact k
        | some r2 => rw [e3] at k; exact fun s2 R2 a2 => k s2 R2 (a1.trans a2)
theorem sg_tup {es : List Expr} {x1 : Nat} {js : List Nat} {t : List W → Rho → Option Rho} {n : Nat} (hc : X.calm = true) (h : PGs X es (tGts X.K cl js t)) (ht : ∀ ws r r', t ws r = some r' → ws.length = n)
    (hn : (assignEach es X.env).length = n := by rfl) (hst : (assignEach es X.env).findIdx? (·.1) = none := by rfl) : PG X (.Tuple es x1 pos) (tGt X.K cl js (gT t)) :=
  (pg_tup hc h hn hst).imp fun v s H Q ⟨w, r, m, z, R, q, k⟩ => by
    cases w with
    | tup ws =>
      obtain ⟨p, vs, e1, e2, e3⟩ := q
      refine ⟨p, vs, e1, e2, ?_, ws, r, m, z, R, e3, k⟩
      simp only [gT] at k
      cases e4 : t ws r with
      | none => rw [e4] at k; exact k.elim
      | some r' => rw [e3.length]; exact ht ws r r' e4
    | _ => exact k.elim
theorem gsNil_len : ∀ ws r r', gsNil ws r = some r' → ws.length = 0 := fun ws r r' h => by
  cases ws with
  | nil => rfl
  | cons w ws => cases h
theorem gsCons_len {f : DG} {t : List W → Rho → Option Rho} {n : Nat} (ht : ∀ ws r r', t ws r = some r' → ws.length = n) : ∀ ws r r', gsCons f t ws r = some r' → ws.length = n + 1 := fun ws r r' h => by
  cases ws with
  | nil => cases h
  | cons w ws =>
    simp only [gsCons] at h
    cases e : f w r with
    | none => rw [e] at h; cases h
    | some r1 => rw [e] at h; rw [List.length_cons, ht ws r1 r' h]
/-- x = e; a, b, .. = e -/
def sAsg (f : DE) (t : DG) : DS := fun r m => (f r m).thenS r fun w m1 => match t w r with
  | some r' => .next r' m1
  | none => .bad
theorem ss_asg {tg : Expr} {js : List Nat} {f : DE} {t : DG} (he : PE X e (tE (gx X cl Wx) f)) (hg : PG X tg (tGt X.K cl js t)) (hs : swapsWithSole [tg] e pos.line X.env = pure false := by rfl) (hw : swappedStores [tg] e X.env = pure none := by rfl)
    (h1 : (assignEach [tg] X.env).map (·.2) = [assign tg X.env] := by rfl) : PS X (.Assign [tg] e pos) (tS (gx X cl Wx) (sAsg f t)) :=
  (ps_asg he hg hs hw h1).imp fun D s H ⟨r, m, z, R, P⟩ => ⟨r, m, z, R, P.bind fun z1 w m1 v H1 E1 R1 r1 P1 => by
    refine ⟨w, r, m1, z1, R1, r1, ?_⟩
    cases e2 : t w r with
    | none => rw [e2] at P1; exact P1
    | some r' => rw [e2] at P1; exact fun s' R' _ => P1 z1 s' H1 (Ext.refl _ _) R'⟩
def sSet (i : Nat) (f : DE) : DS := fun r m => (f r m).thenS r fun w m1 => .next (r.set i (some w)) m1
theorem ss_set {i : Nat} {x : Str} {f : DE} {pos' : Pos} (hN : X.N.Nodup) (hi : X.N[i]? = some x) (hx : Loc X.env.scope x) (he : PE X e (tE (gx X cl Wx) f)) (hs : swapsWith e (some (.Name x pos')) pos.line X.env = pure false := by rfl) (hf : X.fn x = true ∨ X.env.scope.names.lookup x = some .local := by first | exact .inl rfl | exact .inr rfl | assumption) :
    PS X (.Assign [.Name x pos'] e pos) (tS (gx X cl Wx) (sSet i f)) :=
  (ps_set hN hi hx he hs hf).imp fun D s H ⟨r, m, z, R, P⟩ => ⟨r, m, z, R, P.bind fun z1 w m1 v H1 E1 R1 r1 P1 => P1 z1 _ H1 (Ext.refl _ _) ⟨R1.slots.set r1, R1.mem⟩⟩
/-- a, b = x, y by names -/
def sPar (i j : Nat) (t : DA) : DS := fun r m => (t r m).thenS r fun ws m1 => match ws with
  | [u, w] => .next ((r.set i (some u)).set j (some w)) m1
  | _ => .bad
theorem ss_par {i j : Nat} {x y : Str} {t : DA} {px py pt : Pos} {kt k2 pt2} (hc : X.calm = true) (hN : X.N.Nodup) (hi : X.N[i]? = some x) (hj : X.N[j]? = some y) (hij : i ≠ j)
    (hx : X.env.scope.names.lookup x = some .local) (hy : X.env.scope.names.lookup y = some .local) (ha : PA X [a, b] (tA (gx X cl Wx) t))
    (hw : swappedStores [.Tuple [.Name x px, .Name y py] kt pt] (.Tuple [a, b] k2 pt2) X.env = pure (some [x, y]))
    (hs : swapsWithSole [.Tuple [.Name x px, .Name y py] kt pt] (.Tuple [a, b] k2 pt2) pos.line X.env = pure false := by rfl) :
    PS X (.Assign [.Tuple [.Name x px, .Name y py] kt pt] (.Tuple [a, b] k2 pt2) pos) (tS (gx X cl Wx) (sPar i j t)) :=
  (ps_par hc hN hi hj hij hx hy ha hw hs).imp fun D s H ⟨r, m, z, R, P⟩ => ⟨r, m, z, R, P.bind (rel := RWs X.K) fun z1 ws m1 vs H1 E1 R1 r1 P1 => by
    split at P1
    · rename_i u w
      obtain ⟨v, vr, e1, q1, v2, vr2, e2, q2, e3⟩ := r1
      subst e1 e2 e3
      exact ⟨v, v2, rfl, P1 z1 _ H1 (Ext.refl _ _) ⟨(R1.slots.set q1).set q2, R1.mem⟩⟩
    · exact P1.elim⟩
/-- x op= e -/
def sAug (i : Nat) (o : Mem → W → W → Option W) (f : DE) : DS := fun r m => match r[i]? with
  | some (some a) => (f r m).thenS r fun b m1 => match o m1 a b with
    | some w => .next (r.set i (some w)) m1
    | none => .bad
  | _ => .bad
theorem ss_aug {i : Nat} {x : Str} {f : DE} {op : Operator} {o : Mem → W → W → Option W} {rr : R2} {pos' : Pos} (hN : X.N.Nodup) (hi : X.N[i]? = some x) (hx : Loc X.env.scope x) (he : PE X e (tE (gx X cl Wx) f)) (ho : OpR X (inplaceOp op) rr) (hw : OpW X.K cl o rr) (hf : X.fn x = true ∨ X.env.scope.names.lookup x = some .local := by first | exact .inl rfl | exact .inr rfl | assumption) :
    PS X (.AugAssign (.Name x pos') op e pos) (tS (gx X cl Wx) (sAug i o f)) :=
  (ps_aug hN hi hx he (ti := rr) (fun pins sh s H x y v u Q I rx ry h => ho pins sh s H x y v u Q I rx ry h) hf).imp fun D s H ⟨r, m, z, R, P⟩ => by
    unfold sAug at P
    split at P
    · rename_i a e1
      obtain ⟨v, q1, q2⟩ := R.slots.2 i a e1
      refine ⟨v, q1, r, m, z, R, P.bind fun z1 b m1 y H1 E1 R1 r1 P1 => ?_⟩
      cases e3 : o m1 a b with
      | none => rw [e3] at P1; exact P1.elim
      | some w =>
        rw [e3] at P1
        exact hw z1 m1 H1 a b v y w _ R1.mem (q2.ext E1) r1 e3 fun z' u H' e M rw' => P1 z' _ H' e ⟨(R1.slots.ext e).set rw', M⟩
    · exact P.elim

/-! ### what is walked -/
/-- J tells ws, item by item, as long as the heap goes on -/
def Walks (K : PySem.W.Frag) (z : Zn) (H : Hp) (ws : List W) (J : It) : Prop := ws.length ≤ sizeLine ∧ ∀ z2 H2, Ext0 z H z2 H2 → ∀ i : Nat, (i = ws.length → J.stop i H2) ∧
  ∀ w, ws[i]? = some w → J.go i H2 ∧ ∀ x H3, J.yld i H2 x H3 → Same H2 H3 ∧ ∀ z3, Ext0 z2 H2 z3 H3 → RW K z3 H3 w x
def tI (g : Gx) (f : DA) : TI := fun s H Rr => tG g (Walks g.K) f s H Rr
theorem _root_.L2.PI.imp {tg : Expr} {t t' : TI} (h : PI X tg e t) (hi : ∀ s H Rr, t' s H Rr → t s H Rr) : PI X tg e t' := ⟨fun pins sh s H Rr I q => h.run pins sh s H Rr I (hi _ _ _ q)⟩
theorem _root_.L2.PI.or {tg : Expr} {t t' : TI} (h : PI X tg e t) (h' : PI X tg e t') : PI X tg e (fun s H Rr => t s H Rr ∨ t' s H Rr) := ⟨fun pins sh s H Rr I q => q.elim (fun q => h.run pins sh s H Rr I q) fun q => h'.run pins sh s H Rr I q⟩
/-- the items of a tuple or a settled list -/
def iSeq (f : DE) : DA := fun r m => (f r m).bind fun w m1 => match w with
  | .tup xs => .ok xs m1
  | .lst xs => .ok xs m1
  | .old xs => .ok xs m1
  | _ => .bad
theorem walks_t {K : PySem.W.Frag} {z : Zn} {H : Hp} {ws : List W} {vs : List V} {p : Addr} (hl : vs.length ≤ sizeLine) (h : SqT K H p vs) (q : RWs K z H ws vs) : Walks K z H ws (Itt K p) := ⟨by rw [← q.length]; exact hl, fun z2 H2 e i => by
  have h2 := e.sqT h
  have q2 := RWs.ext0 e q
  refine ⟨fun hi => ⟨vs, h2, by rw [q.length]; exact Nat.le_of_eq hi.symm⟩, fun w hw => ?_⟩
  obtain ⟨v, e1, e2⟩ := q2.get hw
  refine ⟨⟨vs, v, h2, e1⟩, fun x H3 y => ?_⟩
  obtain ⟨y1, y2⟩ := y
  subst y1
  refine ⟨Same.refl _, fun z3 e3 => ?_⟩
  have := y2 vs h2
  rw [e1] at this
  cases this
  exact e2.ext0 e3⟩
theorem walks_l {K : PySem.W.Frag} {z : Zn} {H : Hp} {ws : List W} {vs : List V} {p : Addr} (hl : vs.length ≤ sizeLine) (h : ∀ z2 H2, Ext0 z H z2 H2 → SqL K H2 p vs) (q : RWs K z H ws vs) : Walks K z H ws (Itl K p) := ⟨by rw [← q.length]; exact hl, fun z2 H2 e i => by
  have h2 := h z2 H2 e
  have q2 := RWs.ext0 e q
  refine ⟨fun hi => ⟨vs, h2, by rw [q.length]; exact Nat.le_of_eq hi.symm⟩, fun w hw => ?_⟩
  obtain ⟨v, e1, e2⟩ := q2.get hw
  refine ⟨⟨vs, v, h2, e1⟩, fun x H3 y => ?_⟩
  obtain ⟨y1, y2⟩ := y
  subst y1
  refine ⟨Same.refl _, fun z3 e3 => ?_⟩
  have := y2 vs h2
  rw [e1] at this
  cases this
  exact e2.ext0 e3⟩
theorem pi_inv {tg : Expr} {t : TI} (h : PI X tg e t) : PI X tg e (fun s H Rr => t s H fun J H' => (∃ pins s2, Inv X pins s H' s2) → Rr J H') := ⟨fun pins sh s H Rr I q =>
  thn (h.run pins sh s H _ I q) fun v s1 h1 => thn h1 fun itv s2 ⟨it, fp, tn, J, H', e, I2, T, st, f2, k⟩ => ⟨it, fp, tn, J, H', e, I2, T, st, f2, k ⟨_, _, I2⟩⟩⟩
theorem pe_inv {t : TE} (h : PE X e t) : PE X e (fun s H Q => t s H fun v H' => (∃ pins s2, Inv X pins s H' s2) → Q v H') := ⟨fun pins sh s H Q I q =>
  thn (h.run pins sh s H _ I q) fun v s1 ⟨x, H', I1, r1, k⟩ => ⟨x, H', I1, r1, k ⟨_, _, I1⟩⟩⟩
theorem si_seq {tg : Expr} {f : DE} (h : PE X e (tE (gx X cl Wx) f)) : PI X tg e (tI (gx X cl Wx) (iSeq f)) := by
  refine ⟨fun pins sh s H Rr I h0 => ?_⟩
  obtain ⟨r, m, z, R, P⟩ := h0
  cases q : f r m with
  | ok w m1 =>
    unfold iSeq at P
    rw [q] at P
    cases w with
    | tup ws =>
      refine (pi_inv (pi_tup (tg := tg) h)).run pins sh s H Rr I ⟨r, m, z, R, ?_⟩
      rw [q]
      intro z' b H' e1 R1 ⟨p, vs, a1, a2, a3⟩
      exact ⟨p, a1, ⟨vs, a2⟩, fun ⟨_, _, I1⟩ => P z' _ H' e1 R1 (walks_t (let ⟨_, _, _, hz⟩ := I1.tuple a2; hz) a2 a3)⟩
    | lst ws =>
      refine (pi_inv (pi_list (tg := tg) h)).run pins sh s H Rr I ⟨r, m, z, R, ?_⟩
      rw [q]
      intro z' b H' e1 R1 ⟨p, vs, a1, a2, a3⟩
      exact ⟨p, a1, ⟨vs, SqL.of a2.2⟩, fun ⟨_, _, I1⟩ => P z' _ H' e1 R1 (walks_l (let ⟨_, _, _, hz⟩ := I1.list (SqL.of a2.2); hz) (fun z2 H2 e2 => SqL.of ((e2.zs p a2.1).2.trans a2.2)) a3)⟩
    | old ws =>
      refine (pi_inv (pi_list (tg := tg) h)).run pins sh s H Rr I ⟨r, m, z, R, ?_⟩
      rw [q]
      intro z' b H' e1 R1 ⟨p, vs, a1, a2, a3⟩
      exact ⟨p, a1, ⟨vs, a2.sq⟩, fun ⟨_, _, I1⟩ => P z' _ H' e1 R1 (walks_l (let ⟨_, _, _, hz⟩ := I1.list a2.sq; hz) (fun z2 H2 e2 => (e2.oldL a2).sq) a3)⟩
    | _ => exact P.elim
  | exc x m1 =>
    unfold iSeq at P
    rw [q] at P
    refine (pi_tup (tg := tg) h).run pins sh s H Rr I ⟨r, m, z, R, ?_⟩
    rw [q]
    exact P
  | bad =>
    unfold iSeq at P
    rw [q] at P
    exact P.elim
/-- lo, lo + 1, .. -/
def upFrom (lo : Int) : Nat → List W
  | 0 => []
  | n + 1 => .int lo :: upFrom (lo + 1) n
theorem upFrom_len : ∀ (lo : Int) (n : Nat), (upFrom lo n).length = n
  | _, 0 => rfl
  | lo, n + 1 => by rw [upFrom, List.length_cons, upFrom_len]
theorem upFrom_get : ∀ (lo : Int) (n i : Nat), i < n → (upFrom lo n)[i]? = some (.int (lo + i))
  | _, 0, _, h => absurd h (Nat.not_lt_zero _)
  | lo, n + 1, 0, _ => by simp [upFrom]
  | lo, n + 1, i + 1, h => by
    rw [upFrom, List.getElem?_cons_succ, upFrom_get (lo + 1) n i (Nat.lt_of_succ_lt_succ h)]
    congr 2
    omega
theorem walks_r {K : PySem.W.Frag} {z : Zn} {H : Hp} {lo : Int} {n : Nat} (hn : n ≤ 16777216) : Walks K z H (upFrom lo n) (Itr lo n) := ⟨by rw [upFrom_len]; exact sl_le hn, fun z2 H2 e i => by
  refine ⟨fun hi => by rw [upFrom_len] at hi; exact Nat.le_of_eq hi.symm, fun w hw => ?_⟩
  have hi : i < n := by
    have := (List.getElem?_eq_some_iff.mp hw).1
    rw [upFrom_len] at this
    exact this
  rw [upFrom_get lo n i hi] at hw
  cases hw
  refine ⟨hi, fun x H3 y => ?_⟩
  obtain ⟨y1, y2⟩ := y
  subst y1 y2
  exact ⟨Same.refl _, fun z3 e3 => rfl⟩⟩
def iRng (t : DA) : DA := fun r m => (t r m).bind fun ws m1 => match ws with
  | [.int j] => if -(2 ^ 62) ≤ j ∧ j ≤ 16777216 then .ok (upFrom 0 j.toNat) m1 else .bad
  | [.int i, .int j] => if (-(2 ^ 62) ≤ i ∧ i < 2 ^ 62) ∧ -(2 ^ 62) ≤ j ∧ j < 2 ^ 62 ∧ j - i ≤ 16777216 then .ok (upFrom i (j - i).toNat) m1 else .bad
  | _ => .bad
theorem si_rng1 {tg : Expr} {t : DA} {p : Pos} (hm : X.mg "range" = none) (ha : PA X [a] (tA (gx X cl Wx) t)) (hl : ∀ r m ws m1, t r m = .ok ws m1 → ws.length = 1) (hg : Gl X "range" := by rfl) (hs : starEach [a] X.env = [(false, eval a X.env)] := by rfl) : PI X tg (.Call (.Name "range" p) [a] [] pos) (tI (gx X cl Wx) (iRng t)) :=
  (pi_range1 hg hm ha hs).imp fun s H Rr ⟨r, m, z, R, P⟩ => ⟨r, m, z, R, by
    unfold iRng at P
    cases q : t r m with
    | ok ws m1 =>
      rw [q] at P
      intro z' vs H' e1 R1 r1
      have P := Post.mono (g := gx X cl Wx) e1 P
      have hl1 := hl r m ws m1 q
      cases ws with
      | nil => cases hl1
      | cons w ws =>
        cases ws with
        | cons _ _ => cases hl1
        | nil =>
          obtain ⟨v, vr, f1, f2, f3⟩ := r1
          subst f1 f3
          cases w with
          | int j =>
            simp only [Dn.R.bind] at P
            split at P
            · rename_i c
              exact ⟨j, by rw [show v = .int j from f2], c.1, by omega, P z' _ H' (Ext.refl _ _) R1 (walks_r (by omega))⟩
            · exact P.elim
          | _ => exact P.elim
    | exc x m1 => rw [q] at P; exact P
    | bad => rw [q] at P; exact P⟩
theorem si_rng2 {tg : Expr} {t : DA} {p : Pos} (hm : X.mg "range" = none) (ha : PA X [a, b] (tA (gx X cl Wx) t)) (hl : ∀ r m ws m1, t r m = .ok ws m1 → ws.length = 2) (hg : Gl X "range" := by rfl) (hs : starEach [a, b] X.env = [(false, eval a X.env), (false, eval b X.env)] := by rfl) (hs2 : starEach [b] X.env = [(false, eval b X.env)] := by rfl) :
    PI X tg (.Call (.Name "range" p) [a, b] [] pos) (tI (gx X cl Wx) (iRng t)) :=
  (pi_range2 hg hm ha hs hs2).imp fun s H Rr ⟨r, m, z, R, P⟩ => ⟨r, m, z, R, by
    unfold iRng at P
    cases q : t r m with
    | ok ws m1 =>
      rw [q] at P
      intro z' vs H' e1 R1 r1
      have P := Post.mono (g := gx X cl Wx) e1 P
      have hl1 := hl r m ws m1 q
      match ws, hl1, r1, P with
      | [w, w2], _, r1, P =>
        obtain ⟨v, vr, f1, f2, v2, vr2, g1, g2, g3⟩ := r1
        subst f1 g1 g3
        simp only [Dn.R.bind] at P
        split at P
        · rename_i h; cases h
        · rename_i i j h
          cases h
          split at P
          · rename_i c
            exact ⟨i, j, by rw [show v = .int i from f2, show v2 = .int j from g2], ⟨c.1.1, c.1.2, c.2.1, c.2.2.1⟩, P z' _ H' (Ext.refl _ _) R1 (walks_r (by omega))⟩
          · exact P.elim
        · exact P.elim
    | exc x m1 => rw [q] at P; exact P
    | bad => rw [q] at P; exact P⟩
theorem a1_len {f : DE} : ∀ r m ws m1, aCons f aNil r m = .ok ws m1 → ws.length = 1 := fun r m ws m1 h => by
  unfold aCons aNil at h
  cases q : f r m with
  | ok w m2 => rw [q] at h; simp only [Dn.R.bind] at h; cases h; rfl
  | exc x m2 => rw [q] at h; cases h
  | bad => rw [q] at h; cases h
theorem a2_len {f h : DE} : ∀ r m ws m1, aCons f (aCons h aNil) r m = .ok ws m1 → ws.length = 2 := fun r m ws m1 h0 => by
  unfold aCons aNil at h0
  cases q : f r m with
  | ok w m2 =>
    rw [q] at h0
    simp only [Dn.R.bind] at h0
    cases q2 : h r m2 with
    | ok w2 m3 => rw [q2] at h0; simp only [Dn.R.bind] at h0; cases h0; rfl
    | exc x m3 => rw [q2] at h0; cases h0
    | bad => rw [q2] at h0; cases h0
  | exc x m2 => rw [q] at h0; cases h0
  | bad => rw [q] at h0; cases h0

/-! ### for -/
def loop (t : DG) (body : DS) : List W → Rho → Mem → RS
  | [], r, m => .next r m
  | w :: ws, r, m => match t w r with
    | none => .bad
    | some r1 => match body r1 m with
      | .next r2 m2 => loop t body ws r2 m2
      | .cont r2 m2 => loop t body ws r2 m2
      | .brk r2 m2 => .next r2 m2
      | .ret u m2 => .ret u m2
      | .exc x r2 m2 => .exc x r2 m2
      | .bad => .bad
def sFor (src : DA) (t : DG) (body : DS) : DS := fun r m => (src r m).thenS r fun ws m1 => loop t body ws r m1
theorem ss_for {tg iter : Expr} {js : List Nat} {body : List Stmt} {src : DA} {t : DG} {fb : DS} (hp : PassesOwn (model X.prog X.w) X.A X.env X.xe) (hc : X.calm = true) (hi : PI X tg iter (tI (gx X cl Wx) src)) (hg : PG X tg (tGt X.K cl js t)) (hb : PSs X body (tS (gx X cl Wx) fb))
    (hs : ∀ x, foldedSetIterable iter X.env x = pure x := by intro _; rfl) : PS X (.For tg iter body [] pos) (tS (gx X cl Wx) (sFor src t fb)) :=
  (ps_for hp hc hi hg hb hs).imp fun D s H ⟨r, m, z, R, P⟩ => ⟨r, m, z, R, P.bind (rel := Walks X.K) fun z1 ws m1 J H1 E1 R1 r1 P1 => by
    refine ⟨fun i k s' H' => ∃ r' m' z', k = ws.length - i ∧ i ≤ ws.length ∧ Rel X.K cl z' r' m' s' H' ∧ Ext z1 H1 z' H' ∧ PostS (gx X cl Wx) z' H' (loop t fb (ws.drop i) r' m') D, ⟨ws.length, r, m1, z1, by simp, Nat.zero_le _, R1, Ext.refl _ _, by simpa using P1⟩, ?_⟩
    rintro i k s2 H2 ⟨r2, m2, z2, rfl, hi2, R2, E2, P2⟩
    obtain ⟨hstop, hgo⟩ := r1.2 z2 H2 E2.e0 i
    by_cases hlt : i < ws.length
    · obtain ⟨g1, g2⟩ := hgo ws[i] (List.getElem?_eq_getElem hlt)
      rw [List.drop_eq_getElem_cons hlt] at P2
      simp only [loop] at P2
      refine .inr ⟨g1, fun s' H' => ∃ r' m' z', Rel X.K cl z' r' m' s' H' ∧ Ext z1 H1 z' H' ∧ PostS (gx X cl Wx) z' H' (loop t fb (ws.drop (i + 1)) r' m') D, fun s' H' ⟨r', m', z', a1, a2, a3⟩ => ⟨ws.length - (i + 1), by omega, r', m', z', rfl, hlt, a1, a2, a3⟩, fun x H3 y => ?_⟩
      obtain ⟨sm, q3⟩ := g2 x H3 y
      have E3 := R2.mem.extS sm
      have R3 := R2.same sm
      have P3 := PostS.mono E3 P2
      refine ⟨ws[i], r2, m2, z2, R3, q3 z2 E3.e0, ?_⟩
      cases q4 : t ws[i] r2 with
      | none => rw [q4] at P3; exact P3
      | some r4 =>
        rw [q4] at P3
        refine fun s4 R4 _ => ⟨r4, m2, z2, R4, ?_⟩
        simp only at P3
        cases q5 : fb r4 m2 with
        | next r5 m5 =>
          rw [q5] at P3
          exact fun z' s' H' e5 R5 => ⟨r5, m5, z', R5, (E2.trans E3).trans e5, PostS.mono e5 P3⟩
        | cont r5 m5 =>
          rw [q5] at P3
          exact fun z' s' H' e5 R5 => ⟨r5, m5, z', R5, (E2.trans E3).trans e5, PostS.mono e5 P3⟩
        | brk r5 m5 => rw [q5] at P3; exact P3
        | ret u m5 => rw [q5] at P3; exact P3
        | exc x r5 m5 => rw [q5] at P3; exact P3
        | bad => rw [q5] at P3; exact P3
    · have hi3 : ws.length ≤ i := Nat.le_of_not_lt hlt
      refine .inl ⟨hstop (Nat.le_antisymm hi2 hi3), ?_⟩
      rw [List.drop_eq_nil_of_le hi3] at P2
      exact P2.next R2⟩
end
end Dn

/-! D5: defs and their calls; list comprehensions. -/
namespace Dn
open PySem PySem.Spec PyProof.Rows L2

/-! ### a def -/
abbrev Fw := List W → Mem → R W
def PostF (K : PySem.W.Frag) (cl : Nat → Addr) (z : Zn) (H : Hp) (q : R W) (Q : VK) (E : XK) : Prop :=
  match q with
  | .ok w m => ∀ z' v H', Ext z H z' H' → MemOk K cl z' m H' → RW K z' H' w v → Q v H'
  | .exc x m => ∀ z' H' c d, Ext z H z' H' → MemOk K cl z' m H' → XnOk K cl z' H' x c d → E c d H'
  | .bad => False
/-- a def's promise: of n arguments it does what g tells -/
def spOf (K : PySem.W.Frag) (cl : Nat → Addr) (n : Nat) (g : Fw) : Sp := fun vs H Q E => ∃ ws m z, ws.length = n ∧ MemOk K cl z m H ∧ RWs K z H ws vs ∧ PostF K cl z H (g ws m) Q E
def startW (n : Nat) (ws : List W) : Rho := ws.map some ++ List.replicate (n - ws.length) none
/-- a body run from its arguments; n slots in all -/
def runD (n : Nat) (d : DS) : Fw := fun ws m => match d (startW n ws) m with
  | .ret w m1 => .ok w m1
  | .next _ m1 => .ok .non m1
  | .exc x _ m1 => .exc x m1
  | _ => .bad
theorem start_ok {K : PySem.W.Frag} {z : Zn} {H : Hp} {N : List Str} {ws : List W} {vs : List V} (h : RWs K z H ws vs) : SlotsOk K z H (startW N.length ws) (L2.start N vs) := by
  refine ⟨by unfold startW L2.start; simp [h.length], fun i w e => ?_⟩
  unfold startW at e
  unfold L2.start
  by_cases hi : i < ws.length
  · rw [List.getElem?_append_left (by simpa using hi)] at e
    rw [List.getElem?_append_left (by rw [List.length_map, h.length]; exact hi)]
    rw [List.getElem?_map] at e ⊢
    cases q : ws[i]? with
    | none => rw [q] at e; cases e
    | some u =>
      rw [q] at e
      simp at e
      subst e
      obtain ⟨v, q1, q2⟩ := h.get q
      exact ⟨v, by rw [q1]; rfl, q2⟩
  · rw [List.getElem?_append_right (by simpa using Nat.le_of_not_lt hi)] at e
    rw [List.getElem?_replicate] at e
    split at e <;> cases e

/-! ### a def's promise where nothing is being shown -/
structure RoomG (k : Nat) (A : Around) : Prop extends Room k A where
  g : A.guards = some []
theorem RoomG.mono {j k : Nat} {A : Around} (r : RoomG k A) (h : j ≤ k) : RoomG j A := ⟨r.toRoom.mono h, r.g⟩
theorem RoomG.deeper {k : Nat} {A : Around} (r : RoomG (k + 1) A) (env : Env) : RoomG k (A.deeper env) := ⟨r.toRoom.deeper env, r.g⟩
theorem RoomG.make {k : Nat} {A : Around} (r : RoomG (k + 1) A) (C : Addr) (us : List Value) (kw : List (Str × Value)) : RoomG k (A.under (.builtin "type.__call__" ⟨.ref C :: us, kw⟩)) := by
  refine ⟨r.toRoom.make C us kw, ?_⟩
  have e : (Code.builtin "type.__call__" ⟨Value.ref C :: us, kw⟩).guards = [] := by first | rfl | simp [Code.guards, Code.isGuard, guardIds]
  show pushGuards (Code.builtin "type.__call__" ⟨Value.ref C :: us, kw⟩).guards A.guards = some []
  rw [e]
  exact r.g
structure FnG (P : Program) (w : World) (K : PySem.W.Frag) (mg : Str → Option Value) (base : Heap) (k : Nat) (f : Addr) (fd : FuncData) (ps : List Str) (sp : Sp) : Prop where
  len : ∀ vs H Q E, sp vs H Q E → vs.length = ps.length
  run : ∀ (A : Around) (outer : List Env) (s : Shared) (H : Hp) (args : Args) (us : List Value) (vs : List V) (Q : VK) (E : XK), RoomG k A → Env0 P w K mg base A outer s H → BindsTo s fd args (ps.zip us) → Vals vs us → sp vs H Q E →
    codeAny (model P w) A (.call (.ref f) args) (CR (L2.CX P w) outer P w H s Q E) s
/-- the callee runs -/
theorem run_fnG {X : Cx} {k : Nat} {f : Addr} {fd : FuncData} {ps : List Str} {sp : Sp} {E : XK} {pins : List (Addr × Obj)} {σ : L2.St} {H : Hp} {s : Shared} {Q : VK} {us : List Value} {vs : List V} (F : FnG X.prog X.w X.K X.mg X.base k f fd ps sp) (hr : RoomG k X.A) (hb : Binds X.K fd ps [])
    (hx : PassesAt (L2.CX X.prog X.w) X σ E) (I : Inv X pins σ H s) (r : Vals vs us) (h : sp vs H Q E) : wpAny (model X.prog X.w) X.A (call (.ref f) us) (EP X pins σ Q) X.xe s := by
  have hl : us.length = ps.length := r.length.symm.trans (F.len vs H Q E h)
  have b := hb s us I.kIn (by simpa using hl)
  rw [List.append_nil] at b
  refine wpAny_call (codeAny_mono (F.run _ _ _ _ _ _ _ _ _ hr I.env0 b r h) fun rr s' hq => ?_)
  match rr, hq with
  | .error e, hq => exact hx pins H s e s' I hq
  | .ok (.ret u), hq => exact I.after hq
  | .ok .next, hq => exact hq.elim
  | .ok .brk, hq => exact hq.elim
  | .ok .cont, hq => exact hq.elim

section
variable {P : Program} {w : World} {K : PySem.W.Frag} {mg : Str → Option Value} {base : Heap} {cl : Nat → Addr} {x qual : Str} {params : Arguments} {body : List Stmt} {scope : Scope} {kws : List (Str × V)} {f : Addr} {fd : FuncData}
theorem fn_ok {N ps : List Str} {k n : Nat} {d : DS} (F : FunD K x qual params body scope [] kws f fd) (S : FnScope N ps scope) (hn : ps.length = n)
    (hb : ∀ (cdv : Value) (A : Around) (outer : List Env) (s : Shared) (H : Hp) (E : XK), RoomG k (A.deeper (envOfC qual scope s.heap.objs.size f cdv)) →
      PSs (cxOf (L2.CX P w) P w K mg base N qual scope f cdv A outer s H E) body (tS (gx (cxOf (L2.CX P w) P w K mg base N qual scope f cdv A outer s H E) cl (fun c d _ H => E c d H)) d)) :
    FnG P w K mg base (k + 1) f fd ps (spOf K cl n (runD N.length d)) := by
  have len : ∀ vs H Q E, spOf K cl n (runD N.length d) vs H Q E → vs.length = ps.length := fun vs H Q E ⟨ws, m, z, hl, M, rw', p⟩ => by rw [rw'.length, hl, hn]
  obtain ⟨oc, od, dV, kV, doc, pm, an, cdv, ct, osl, rfl, lk, hcd, _, _⟩ := F.ex
  refine ⟨len, fun A outer s H args us vs Q E hr e0 hbi rv hsp => ?_⟩
  have KX : K.In s.heap := e0.mod.kin.keeps fun b o e => (e0.bs b o e).1
  have hlim : s.heap.NoLimit := e0.mod.nolimit.keeps fun b o e => (e0.bs b o e).1
  refine codeAny_call_function hr.depth (KX _ _ lk) rfl S.co S.gen rfl (PySem.W.codeRec_of KX hcd) (hbi _ _ _ _ ?_)
  refine wpAny_newFunctionEnv_cells S.kind (fun y hy => (S.par y.1 (List.of_mem_zip hy).1).imp id fun q => ⟨q, PySem.W.cellsFrom_some _ _ _ (.inl q)⟩) fun env he s1 x => ?_
  subst he
  refine ⟨hlim.keeps x.toInCall.keep, codeAny_func ?_⟩
  have I := inv_start (E := E) (CX := L2.CX P w) S hr.hd e0 (len vs H Q E hsp) rv x
  obtain ⟨ws, m, z, hl, M, rw', p⟩ := hsp
  have hq : tS ⟨K, cl, fun c d _ H => E c d H⟩ d { nx := fun _ H' => Q .non H', rt := Q } (L2.start N vs) H := by
    refine ⟨startW N.length ws, m, z, ⟨start_ok rw', M⟩, ?_⟩
    show PostS ⟨K, cl, fun c d _ H => E c d H⟩ z H (d (startW N.length ws) m) _
    unfold runD at p
    cases q : d (startW N.length ws) m with
    | next r m1 => rw [q] at p; exact fun z' s' H' e R' => p z' .non H' e R'.mem rfl
    | ret u m1 => rw [q] at p; exact p
    | exc x r m1 => rw [q] at p; exact fun z' s' H' c d e R' => p z' H' c d e R'.mem
    | brk r m1 => rw [q] at p; exact p.elim
    | cont r m1 => rw [q] at p; exact p.elim
    | bad => rw [q] at p; exact p.elim
  refine wpAny_mono ((hb cdv A outer s H E (hr.deeper _)).run [] s1 (L2.start N vs) H _ I hq) (fun fl s' hs => ?_) fun e s' hs => hs
  match fl, hs with
  | .ret u, ⟨v, σ', H', J, rv', q⟩ => exact ⟨v, H', J.os, J.bare, J.base, J.hok, rv', q⟩
  | .next, ⟨σ', H', J, q⟩ => exact ⟨.non, H', J.os, J.bare, J.base, J.hok, rfl, q⟩
  | .brk, ⟨_, _, _, q⟩ => exact q.elim
  | .cont, ⟨_, _, _, q⟩ => exact q.elim
end

section
variable {X : Cx} {cl : Nat → Addr} {Wx : WX} {e a b : Expr} {pos : Pos}
/-- f(e, ..) -/
def eCall (n : Nat) (g : Fw) (t : DA) : DE := fun r m => (t r m).bind fun ws m1 => if ws.length = n then g ws m1 else .bad
theorem PostF.of {K : PySem.W.Frag} {z : Zn} {H : Hp} {r : Rho} {s : L2.St} {q : R W} {Q : VK} {m : Mem} (R : Rel K cl z r m s H) (h : Post ⟨K, cl, Wx⟩ (RW K) z H r s q Q) : PostF K cl z H q Q (WE Wx s) := by
  cases q with
  | ok w m1 => exact fun z' v H' e M rw' => h z' v H' e (R.after e M) rw'
  | exc x m1 => exact fun z' H' c d e M xn => h z' H' c d e (R.after e M) xn
  | bad => exact h
theorem se_call {k n : Nat} {f : Addr} {fd : FuncData} {ps : List Str} {g : Fw} {x : Str} {p : Pos} {es : List Expr} {t : DA} (F : FnG X.prog X.w X.K X.mg X.base k f fd ps (spOf X.K cl n g)) (hr : RoomG k X.A) (hm : X.mg x = some (.ref f)) (hk : PySem.W.keepIn X.K (.ref f) = true) (hb : Binds X.K fd ps []) (tk : Takes X Wx)
    (ha : PA X (e :: es) (tA (gx X cl Wx) t)) (hg : Gl X x := by rfl) (hdb : (x == ("__debug__" : Str)) = false := by decide) (he : starEach (e :: es) X.env = (false, eval e X.env) :: starEach es X.env := by rfl) (hpl : (backTo pos (starEach es X.env)).any (·.1) = false := by rfl) :
    PE X (.Call (.Name x p) (e :: es) [] pos) (tE (gx X cl Wx) (eCall n g t)) := by
  refine ⟨fun pins sh s H Q I ⟨r, m, z, R, P⟩ => wpAny_Call_Name_kw (ld_glob I hg hm ?_ hdb)⟩
  have hq : tA (gx X cl Wx) t s H fun vs H1 => spOf X.K cl n g vs H1 Q (WE Wx s) := by
    refine ⟨r, m, z, R, P.bind fun z1 ws m1 vs H1 E1 R1 r1 P1 => ?_⟩
    split at P1
    · rename_i hl
      exact ⟨ws, m1, z1, hl, R1.mem, r1, PostF.of R1 P1⟩
    · exact P1.elim
  exact PySem.W.callWith_K (h₀ := X.base) I.ok.mod.kin hk (thn (ha.run pos pins sh s H _ I hq) fun us s1 ⟨vs, H1, I1, rv, q⟩ => ⟨I1.kIn, run_fnG F hr hb (passAt tk s) I1 rv q⟩) he hpl
theorem se_call0 {k : Nat} {f : Addr} {fd : FuncData} {ps : List Str} {g : Fw} {x : Str} {p : Pos} (F : FnG X.prog X.w X.K X.mg X.base k f fd ps (spOf X.K cl 0 g)) (hr : RoomG k X.A) (hm : X.mg x = some (.ref f)) (hk : PySem.W.keepIn X.K (.ref f) = true) (hb : Binds X.K fd ps []) (tk : Takes X Wx)
    (hg : Gl X x := by rfl) (hdb : (x == ("__debug__" : Str)) = false := by decide) : PE X (.Call (.Name x p) [] [] pos) (tE (gx X cl Wx) (eCall 0 g aNil)) := by
  refine ⟨fun pins sh s H Q I ⟨r, m, z, R, P⟩ => wpAny_Call_Name_kw (ld_glob I hg hm ?_ hdb)⟩
  exact PySem.W.callWith_K0 I.kIn hk (run_fnG (us := []) F hr hb (passAt tk s) I .nil ⟨[], m, z, rfl, R.mem, rfl, PostF.of R P⟩)

/-! ### new lists -/
def relNew (K : PySem.W.Frag) (z : Zn) (H : Hp) (ws : List W) (v : V) : Prop := ∃ p vs, v = .ref p ∧ H p = some (.lst vs) ∧ RWs K z H ws vs ∧ ¬ z.Z p ∧ ¬ z.hold p ∧ p ∉ z.phi
def tN (g : Gx) (f : DA) : TE := tG g (relNew g.K) f
/-- settled at once -/
def eFz (f : DA) : DE := fun r m => (f r m).bind fun ws m1 => .ok (.lst ws) m1
theorem se_fz {f : DA} (h : PE X e (tN (gx X cl Wx) f)) : PE X e (tE (gx X cl Wx) (eFz f)) := h.imp fun s H Q ⟨r, m, z, R, P⟩ => by
  refine ⟨r, m, z, R, P.bind fun z1 ws m1 v H1 E1 R1 r1 P1 => ?_⟩
  obtain ⟨p, vs, e1, e2, e3, n1, n2, n3⟩ := r1
  subst e1
  obtain ⟨e4, M⟩ := R1.mem.settle e2 n2 n3
  exact P1 _ _ _ e4 (R1.after e4 M) ⟨p, vs, rfl, ⟨.inl rfl, e2⟩, RWs.ext e4 e3⟩
/-- one that may change -/
def eNw (f : DA) : DE := fun r m => (f r m).bind fun ws m1 => .ok (.ref m1.length) (m1 ++ [.lst ws])
theorem lay_lst {K : PySem.W.Frag} {z : Zn} {m : Mem} {H : Hp} {p : Addr} {ws : List W} {vs : List V} (M : MemOk K cl z m H) (e2 : H p = some (.lst vs)) (e3 : RWs K z H ws vs) (n1 : ¬ z.Z p) (n2 : ¬ z.hold p) (n3 : p ∉ z.phi) :
    Ext z H (z.lay p) H ∧ MemOk K cl (z.lay p) (m ++ [.lst ws]) H ∧ RW K (z.lay p) H (.ref m.length) (.ref p) := by
  have e4 : Ext z H (z.lay p) H := ⟨⟨fun _ _ h => h, fun _ _ _ h => h, fun _ h => ⟨h, rfl⟩, fun n a h => by
    have hl := (List.getElem?_eq_some_iff.mp h).1
    show (z.phi ++ [p])[n]? = some a
    rw [List.getElem?_append_left hl]
    exact h⟩, fun _ h => ⟨h, rfl⟩⟩
  obtain ⟨e5, M2⟩ := M.lay (p := p) (c := .lst ws) n1 n3 ⟨n1, n2, vs, e2, RWs.ext e4 e3⟩
  refine ⟨e4, M2, p, ?_, rfl⟩
  show (z.phi ++ [p])[m.length]? = some p
  rw [← M.len]
  simp
theorem se_nw {f : DA} (h : PE X e (tN (gx X cl Wx) f)) : PE X e (tE (gx X cl Wx) (eNw f)) := h.imp fun s H Q ⟨r, m, z, R, P⟩ => by
  refine ⟨r, m, z, R, P.bind fun z1 ws m1 v H1 E1 R1 r1 P1 => ?_⟩
  obtain ⟨p, vs, e1, e2, e3, n1, n2, n3⟩ := r1
  subst e1
  obtain ⟨e4, M, q⟩ := lay_lst (cl := cl) R1.mem e2 e3 n1 n2 n3
  exact P1 _ _ _ e4 (R1.after e4 M) q
/-- what is new in the heap -/
theorem new_rel {K : PySem.W.Frag} {z : Zn} {m : Mem} {H : Hp} {p : Addr} {ws : List W} {vs : List V} (M : MemOk K cl z m H) (hp : H p = none) (h : RWs K z H ws vs) : Ext z H z (upd H p (.lst vs)) ∧ MemOk K cl z m (upd H p (.lst vs)) ∧ relNew K z (upd H p (.lst vs)) ws (.ref p) := by
  have hs := upd_same_of (o := .lst vs) hp
  exact ⟨M.extS hs, M.same hs, p, vs, rfl, upd_same, RWs.ext (M.extS hs) h, M.z_ne hp, M.h_ne hp, M.p_ne hp⟩

/-! ### comprehensions -/
def wipeR (r : Rho) : List Nat → Rho
  | [] => r
  | v :: vs => (wipeR r vs).set v none
theorem set_none {K : PySem.W.Frag} {z : Zn} {H : Hp} {r : Rho} {s : L2.St} (h : SlotsOk K z H r s) (i : Nat) : SlotsOk K z H (r.set i none) (s.set i none) := by
  refine ⟨by simp [h.1], fun j u e => ?_⟩
  by_cases hj : i = j
  · subst hj
    rw [List.getElem?_set, if_pos rfl] at e
    split at e <;> cases e
  · rw [List.getElem?_set_ne hj] at e ⊢
    exact h.2 j u e
theorem wipe_ok {K : PySem.W.Frag} {z : Zn} {H : Hp} {r : Rho} {s : L2.St} (h : SlotsOk K z H r s) : ∀ vs : List Nat, SlotsOk K z H (wipeR r vs) (wipe s vs)
  | [] => h
  | v :: vs => by unfold wipeR wipe; exact set_none (wipe_ok h vs) v
theorem wipe_get (s : L2.St) (i : Nat) : ∀ vs : List Nat, (wipe s vs)[i]? = if i ∈ vs ∧ i < s.length then some none else s[i]?
  | [] => by simp [wipe]
  | v :: vs => by
    unfold wipe
    rw [List.getElem?_set, wipe_length, wipe_get s i vs]
    by_cases h : v = i
    · subst h
      by_cases hl : v < s.length
      · simp [hl]
      · simp [hl]
    · have h' : i ≠ v := fun q => h q.symm
      simp [h, h']
theorem wipe_agree {js vs : List Nat} {s s2 : L2.St} (h : Agree js (wipe s vs) s2) (hj : ∀ i ∈ js, i ∈ vs) : wipe s2 vs = wipe s vs := by
  have hl : s2.length = s.length := by rw [h.1, wipe_length]
  refine List.ext_getElem? fun i => ?_
  rw [wipe_get, wipe_get, hl]
  by_cases hi : i ∈ vs ∧ i < s.length
  · rw [if_pos hi, if_pos hi]
  · rw [if_neg hi, if_neg hi]
    by_cases hv : i ∈ vs
    · have hge : s.length ≤ i := Nat.le_of_not_lt fun q => hi ⟨hv, q⟩
      rw [List.getElem?_eq_none hge, List.getElem?_eq_none (by rw [hl]; exact hge)]
    · rw [h.2 i fun q => hv (hj i q), wipe_get, if_neg fun q => hv q.1]
def dYes : DT := fun _ m => .ok true m
def compL (t : DG) (c : DT) (f : DE) (vs : List Nat) : List W → Rho → Mem → R (List W)
  | [], _, m => .ok [] m
  | w :: ws, r, m => match t w (wipeR r vs) with
    | none => .bad
    | some r1 => match c r1 m with
      | .ok true m1 => match f r1 m1 with
        | .ok y m2 => (compL t c f vs ws r m2).bind fun ys m3 => .ok (y :: ys) m3
        | _ => .bad
      | .ok false m1 => compL t c f vs ws r m1
      | _ => .bad
def aComp (src : DA) (t : DG) (c : DT) (f : DE) (vs : List Nat) : DA := fun r m => (src r m).bind fun ws m1 => compL t c f vs ws r m1
abbrev noW : WX := fun _ _ _ _ => False
theorem stc_nil : PTs X [] (tT (gx X cl noW) dYes) := ⟨fun pins sh s H Q I ⟨r, m, z, R, P⟩ => pts_nil.run pins sh s H Q I (Post.ret (b := true) P R rfl)⟩
theorem stc_one {c : Expr} {fc : DT} (h : PT X c (tT (gx X cl noW) fc)) : PTs X [c] (tT (gx X cl noW) fc) := pts_one h
/-- hold what is no one's -/
theorem MemOk.hold {K : PySem.W.Frag} {z : Zn} {m : Mem} {H : Hp} {p : Addr} {o : HO} (M : MemOk K cl z m H) (e : H p = some o) (n1 : ¬ z.Z p) (n3 : p ∉ z.phi) : MemOk K cl (z.hd p) m H ∧ Ext z H (z.hd p) H := by
  have e0 : Ext z H (z.hd p) H := ⟨⟨fun _ _ h => h, fun _ _ _ h => h, fun _ h => ⟨h, rfl⟩, fun _ _ h => h⟩, fun _ h => ⟨.inr h, rfl⟩⟩
  refine ⟨⟨M.len, M.nd, ?_, M.lz, ?_, fun n a c h1 h2 => ?_⟩, e0⟩
  · rintro a hz (q | q)
    · subst q; exact n1 hz
    · exact M.sep a hz q
  · rintro a (q | q)
    · subst q; exact ⟨_, e⟩
    · exact M.lh a q
  · refine (M.cells n a c h1 h2).ext2 e0.e0 Iff.rfl ?_ rfl
    rintro (q | q)
    · exact absurd (q ▸ List.mem_of_getElem? h1) n3
    · exact q
/-- .. is held no longer, and has grown -/
abbrev Zn.un (z : Zn) (p : Addr) : Zn := { z with hold := fun a => a ≠ p ∧ z.hold a }
theorem MemOk.unhold {K : PySem.W.Frag} {z : Zn} {m : Mem} {H : Hp} {p : Addr} {o o' : HO} (M : MemOk K cl z m H) (hh : z.hold p) (e : H p = some o) (t1 : ∀ us, o ≠ .tup us := by intro _ h; cases h) (t2 : ∀ ob u, o ≠ .frz ob u := by intro _ _ h; cases h) :
    MemOk K cl (z.un p) m (upd H p o') ∧ Ext0 z H (z.un p) (upd H p o') ∧ ¬ z.Z p ∧ p ∉ z.phi := by
  have nz : ¬ z.Z p := fun q => M.sep p q hh
  have ne : ∀ {a : Addr}, z.Z a → a ≠ p := fun q z' => nz (z' ▸ q)
  have e0 : Ext0 z H (z.un p) (upd H p o') := ⟨fun a us q => by rw [upd_ne (ne_of q e fun z' => t1 us z'.symm)]; exact q, fun a ob u q => by rw [upd_ne (ne_of q e fun z' => t2 ob u z'.symm)]; exact q, fun a q => ⟨q, upd_ne (ne q)⟩, fun _ _ q => q⟩
  have cne : ∀ (n : Nat) a c, z.phi[n]? = some a → m[n]? = some c → a ≠ p := fun n a c h1 h2 q => by
    subst q
    have hc := M.cells n a c h1 h2
    cases c with
    | lst ws => exact hc.2.1 hh
    | fz ws => exact nz hc.1
    | dct kvs => exact hc.1 hh
    | ins c fs => exact hc.1 hh
  refine ⟨⟨M.len, M.nd, fun a q h => M.sep a q h.2, fun a q => ?_, fun a q => ?_, fun n a c h1 h2 => ?_⟩, e0, nz, fun q => ?_⟩
  · rw [upd_ne (ne q)]; exact M.lz a q
  · rw [upd_ne q.1]; exact M.lh a q.2
  · exact (M.cells n a c h1 h2).ext2 e0 Iff.rfl (fun q => q.2) (upd_ne (cne n a c h1 h2))
  · obtain ⟨n, hn, e1⟩ := List.getElem_of_mem q
    have hm : n < m.length := by rw [← M.len]; exact hn
    exact cne n p m[n] (by rw [List.getElem?_eq_getElem hn, e1]) (List.getElem?_eq_getElem hm) rfl
theorem tLc_of {g : Gx} {src : DA} {t : DG} {js vs : List Nat} {c : DT} {f : DE} {s : L2.St} {H : Hp} {Q : VK} (hj : ∀ i ∈ js, i ∈ vs) (h : tN g (aComp src t c f vs) s H Q) :
    tLc (tI g src) (tGt g.K g.cl js t) (tT ⟨g.K, g.cl, noW⟩ c) (tE ⟨g.K, g.cl, noW⟩ f) vs s H Q := by
  obtain ⟨r, m, z, R, P⟩ := h
  refine ⟨r, m, z, R, P.bind (rel := Walks g.K) fun z1 ws m1 J H1 E1 R1 r1 P1 D hD => ?_⟩
  have nz := R1.mem.z_ne hD
  have nh := R1.mem.h_ne hD
  have np := R1.mem.p_ne hD
  have hs1 := upd_same_of (o := .lst []) hD
  refine ⟨fun i k H' => ∃ m' z' as acc, k = ws.length - i ∧ i ≤ ws.length ∧ as.length ≤ i ∧ Rel g.K g.cl z' r m' s H' ∧ Ext z1 H1 z' H' ∧ (¬ z'.Z D ∧ ¬ z'.hold D ∧ D ∉ z'.phi) ∧ H' D = some (.lst acc) ∧ RWs g.K z' H' as acc ∧
    Post g (relNew g.K) z' H' r s ((compL t c f vs (ws.drop i) r m').bind fun ys m3 => .ok (as ++ ys) m3) Q, ⟨ws.length, m1, z1, [], [], by simp, Nat.zero_le _, Nat.zero_le _, R1.same hs1, R1.mem.extS hs1, ⟨nz, nh, np⟩, upd_same, rfl, ?_⟩, ?_⟩
  · refine Post.mono (R1.mem.extS hs1) ?_
    have e : ((compL t c f vs (ws.drop 0) r m1).bind fun ys m3 => .ok ([] ++ ys) m3) = compL t c f vs ws r m1 := by
      rw [List.drop_zero]
      cases compL t c f vs ws r m1 <;> rfl
    rw [e]
    exact P1
  · rintro i k H2 ⟨m2, z2, as, acc, rfl, hi2, hla, R2, E2, ⟨y1, y2, y3⟩, hD2, ra, P2⟩
    obtain ⟨hstop, hgo⟩ := r1.2 z2 H2 E2.e0 i
    by_cases hlt : i < ws.length
    · obtain ⟨g1, g2⟩ := hgo ws[i] (List.getElem?_eq_getElem hlt)
      rw [List.drop_eq_getElem_cons hlt] at P2
      refine .inr ⟨g1, fun H' => ∃ m' z' as acc, as.length ≤ i + 1 ∧ Rel g.K g.cl z' r m' s H' ∧ Ext z1 H1 z' H' ∧ (¬ z'.Z D ∧ ¬ z'.hold D ∧ D ∉ z'.phi) ∧ H' D = some (.lst acc) ∧ RWs g.K z' H' as acc ∧
        Post g (relNew g.K) z' H' r s ((compL t c f vs (ws.drop (i + 1)) r m').bind fun ys m3 => .ok (as ++ ys) m3) Q, fun H' ⟨m', z', as', acc', a0, a1, a2, a3, a4, a5, a6⟩ => ⟨ws.length - (i + 1), by omega, m', z', as', acc', rfl, hlt, a0, a1, a2, a3, a4, a5, a6⟩, fun x H3 y => ?_⟩
      obtain ⟨sm, q3⟩ := g2 x H3 y
      have E3 := R2.mem.extS sm
      have R3 := R2.same sm
      have hD3 : H3 D = some (.lst acc) := sm _ _ hD2
      obtain ⟨M4, E4⟩ := R3.mem.hold hD3 y1 y3
      have R4 : Rel g.K g.cl (z2.hd D) (wipeR r vs) m2 (wipe s vs) H3 := ⟨wipe_ok (R3.slots.ext E4) vs, M4⟩
      refine ⟨ws[i], wipeR r vs, m2, z2.hd D, R4, (q3 z2 E3.e0).ext E4, ?_⟩
      simp only [compL] at P2
      cases q4 : t ws[i] (wipeR r vs) with
      | none => rw [q4] at P2; exact P2.elim
      | some r4 =>
        rw [q4] at P2
        simp only at P2
        refine fun s4 R4' ag => ⟨wipe_agree ag hj, r4, m2, z2.hd D, R4', ?_⟩
        -- what is known behind the turn
        have back : ∀ {z5 : Zn} {H5 : Hp} {m5 : Mem} {r5 : Rho} {s5 : L2.St}, Ext (z2.hd D) H3 z5 H5 → Rel g.K g.cl z5 r5 m5 s5 H5 → ∀ (acc' : List V) (as' : List W), as'.length ≤ i + 1 → RWs g.K z5 H5 as' acc' →
            Post g (relNew g.K) z2 H2 r s ((compL t c f vs (ws.drop (i + 1)) r m5).bind fun ys m3 => .ok (as' ++ ys) m3) Q →
            ∃ m' z' as acc, as.length ≤ i + 1 ∧ Rel g.K g.cl z' r m' s (upd H5 D (.lst acc')) ∧ Ext z1 H1 z' (upd H5 D (.lst acc')) ∧ (¬ z'.Z D ∧ ¬ z'.hold D ∧ D ∉ z'.phi) ∧ upd H5 D (.lst acc') D = some (.lst acc) ∧ RWs g.K z' (upd H5 D (.lst acc')) as acc ∧
              Post g (relNew g.K) z' (upd H5 D (.lst acc')) r s ((compL t c f vs (ws.drop (i + 1)) r m').bind fun ys m3 => .ok (as ++ ys) m3) Q := by
          intro z5 H5 m5 r5 s5 e5 R5 acc' as' hla' ra' P5
          have hh5 : z5.hold D := (e5.hs D (.inl rfl)).1
          have hx5 : H5 D = some (.lst acc) := (e5.hs D (.inl rfl)).2.trans hD3
          obtain ⟨M6, e6, n6, p6⟩ := R5.mem.unhold (o' := .lst acc') hh5 hx5
          have e25 : Ext z2 H2 z5 H5 := (E3.trans E4).trans e5
          have hne : ∀ a, z2.hold a → a ≠ D := fun a ha q => by rw [q] at ha; exact y2 ha
          have e26 : Ext z2 H2 (z5.un D) (upd H5 D (.lst acc')) := ⟨e25.e0.trans e6, fun a ha => ⟨⟨hne a ha, (e25.hs a ha).1⟩, by rw [upd_ne (hne a ha)]; exact (e25.hs a ha).2⟩⟩
          exact ⟨m5, z5.un D, as', acc', hla', ⟨R2.slots.ext e26, M6⟩, E2.trans e26, ⟨n6, fun q => q.1 rfl, p6⟩, upd_same, RWs.ext0 e6 ra', Post.mono e26 P5⟩
        cases q5 : c r4 m2 with
        | ok b m5 =>
          rw [q5] at P2
          intro z5 b' H5 e5 R5 rb
          have rb : b = b' := rb
          subst rb
          have hx5 : H5 D = some (.lst acc) := (e5.hs D (.inl rfl)).2.trans hD3
          have ra5 : RWs g.K z5 H5 as acc := RWs.ext ((E3.trans E4).trans e5) ra
          cases b with
          | true =>
            simp only at P2
            rw [if_pos rfl]
            refine ⟨r4, m5, z5, R5, ?_⟩
            cases q6 : f r4 m5 with
            | ok yv m6 =>
              rw [q6] at P2
              intro z6 v H6 e6 R6 rv
              refine ⟨acc, (e6.hs D (e5.hs D (.inl rfl)).1).2.trans hx5, ?_, ?_⟩
              · have := ra.length
                have h2 := r1.1
                omega
              · refine back (e5.trans e6) R6 (acc ++ [v]) (as ++ [yv]) (by simp; omega) ((RWs.ext e6 ra5).append (.cons rv .nil)) ?_
                have e7 : ((compL t c f vs (ws.drop (i + 1)) r m6).bind fun ys m3 => .ok (as ++ [yv] ++ ys) m3) = (((compL t c f vs (ws.drop (i + 1)) r m6).bind fun ys m3 => .ok (yv :: ys) m3).bind fun ys m3 => .ok (as ++ ys) m3) := by
                  cases compL t c f vs (ws.drop (i + 1)) r m6 <;> simp [Dn.R.bind]
                rw [e7]
                exact P2
            | exc x m6 => rw [q6] at P2; exact P2.elim
            | bad => rw [q6] at P2; exact P2.elim
          | false =>
            simp only at P2
            rw [if_neg Bool.false_ne_true]
            have hb := back e5 R5 acc as (by omega) ra5 P2
            have hid : upd H5 D (.lst acc) = H5 := by
              funext a
              by_cases ha : a = D
              · rw [ha, upd_same, hx5]
              · exact upd_ne ha
            rw [hid] at hb
            exact hb
        | exc x m5 => rw [q5] at P2; exact P2.elim
        | bad => rw [q5] at P2; exact P2.elim
    · have hi3 : ws.length ≤ i := Nat.le_of_not_lt hlt
      refine .inl ⟨hstop (Nat.le_antisymm hi2 hi3), ?_⟩
      rw [List.drop_eq_nil_of_le hi3] at P2
      have P2 : Post g (relNew g.K) z2 H2 r s (.ok (as ++ []) m2) Q := P2
      rw [List.append_nil] at P2
      exact Post.ret P2 R2 ⟨D, acc, rfl, hD2, ra, y1, y2, y3⟩
end
end Dn

/-! D6: comprehensions as rules; built-ins; slices; methods of lists. -/
namespace Dn
open PySem PySem.Spec PyProof.Rows L2
section
variable {X : Cx} {cl : Nat → Addr} {Wx : WX} {e a b : Expr} {pos : Pos}
theorem se_lc {elt tg iter : Expr} {ifs : List Expr} {scope : Scope} {own : List (Str × Nat)} {js : List Nat} {src : DA} {t : DG} {c : DT} {f : DE} (hc : X.calm = true) (hN : X.N.Nodup) (hi : PI X tg iter (tI (gx X cl Wx) src)) (ok : BlkOk X.N X.env.scope scope own) (hj : ∀ i ∈ js, i ∈ own.map (·.2))
    (hg : ∀ (s : Shared) (H : Hp) (C : Addr) (cs : List (Str × Addr)) (fp : List Addr), PG (X.blk s H scope (compEnvC scope cs C X.env) fp) tg (tGt X.K cl js t))
    (ht : ∀ (s : Shared) (H : Hp) (C : Addr) (cs : List (Str × Addr)) (fp : List Addr), PTs (X.blk s H scope (compEnvC scope cs C X.env) fp) ifs (tT (gx (X.blk s H scope (compEnvC scope cs C X.env) fp) cl noW) c))
    (he : ∀ (s : Shared) (H : Hp) (C : Addr) (cs : List (Str × Addr)) (fp : List Addr), PE (X.blk s H scope (compEnvC scope cs C X.env) fp) elt (tE (gx (X.blk s H scope (compEnvC scope cs C X.env) fp) cl noW) f)) (hs : ∀ x, foldedSetIterable iter X.env x = pure x := by intro _; rfl) :
    PE X (.ListComp elt [⟨tg, iter, ifs, 0⟩] scope pos) (tN (gx X cl Wx) (aComp src t c f (own.map (·.2)))) :=
  (pe_lc (own := own) hc hN hi ok hg ht he hs).imp fun s H Q h => tLc_of (g := gx X cl Wx) hj h
theorem ss_setLc {i : Nat} {y : Str} {py spos : Pos} {elt tg iter : Expr} {ifs : List Expr} {scope : Scope} {own : List (Str × Nat)} {js : List Nat} {src : DA} {t : DG} {c : DT} {f : DE} (hc : X.calm = true) (hN : X.N.Nodup) (hy : X.N[i]? = some y) (hyl : X.env.scope.names.lookup y = some .local)
    (hsw : swapsWith (.ListComp elt [⟨tg, iter, ifs, 0⟩] scope pos) (some (.Name y py)) spos.line X.env = pure true) (hi : PI X tg iter (tI (gx X cl Wx) src)) (ok : BlkOk X.N X.env.scope scope own) (hj : ∀ i ∈ js, i ∈ own.map (·.2))
    (hg : ∀ (s : Shared) (H : Hp) (C : Addr) (cs : List (Str × Addr)) (fp : List Addr), PG (X.blk s H scope (compEnvC scope cs C X.env) fp) tg (tGt X.K cl js t))
    (ht : ∀ (s : Shared) (H : Hp) (C : Addr) (cs : List (Str × Addr)) (fp : List Addr), PTs (X.blk s H scope (compEnvC scope cs C X.env) fp) ifs (tT (gx (X.blk s H scope (compEnvC scope cs C X.env) fp) cl noW) c))
    (he : ∀ (s : Shared) (H : Hp) (C : Addr) (cs : List (Str × Addr)) (fp : List Addr), PE (X.blk s H scope (compEnvC scope cs C X.env) fp) elt (tE (gx (X.blk s H scope (compEnvC scope cs C X.env) fp) cl noW) f)) (hs : ∀ x, foldedSetIterable iter X.env x = pure x := by intro _; rfl) :
    PS X (.Assign [.Name y py] (.ListComp elt [⟨tg, iter, ifs, 0⟩] scope pos) spos) (tS (gx X cl Wx) (sSet i (eFz (aComp src t c f (own.map (·.2)))))) :=
  (L2.ps_setLc (own := own) hc hN hy hyl hsw hi ok hg ht he hs).imp fun D s H ⟨r, m, z, R, P⟩ => by
    refine tLc_of (g := gx X cl Wx) (c := c) (f := f) hj ⟨r, m, z, R, ?_⟩
    unfold sSet eFz at P
    cases q : aComp src t c f (own.map (·.2)) r m with
    | ok ws m1 =>
      rw [q] at P
      intro z1 v H1 E1 R1 ⟨p, vs, e1, e2, e3, n1, n2, n3⟩
      subst e1
      obtain ⟨e4, M⟩ := R1.mem.settle e2 n2 n3
      have R2 := R1.after e4 M
      exact P _ _ _ (E1.trans e4) ⟨R2.slots.set (w := .lst ws) ⟨p, vs, rfl, ⟨.inl rfl, e2⟩, RWs.ext e4 e3⟩, R2.mem⟩
    | exc x m1 => rw [q] at P; exact fun z' H' c d e R q => P z' s H' c d e R q
    | bad => rw [q] at P; exact P
theorem ss_setLcM {i : Nat} {y : Str} {py spos : Pos} {elt tg iter : Expr} {ifs : List Expr} {scope : Scope} {own : List (Str × Nat)} {js : List Nat} {src : DA} {t : DG} {c : DT} {f : DE} (hc : X.calm = true) (hN : X.N.Nodup) (hy : X.N[i]? = some y) (hyl : X.env.scope.names.lookup y = some .local)
    (hsw : swapsWith (.ListComp elt [⟨tg, iter, ifs, 0⟩] scope pos) (some (.Name y py)) spos.line X.env = pure true) (hi : PI X tg iter (tI (gx X cl Wx) src)) (ok : BlkOk X.N X.env.scope scope own) (hj : ∀ i ∈ js, i ∈ own.map (·.2))
    (hg : ∀ (s : Shared) (H : Hp) (C : Addr) (cs : List (Str × Addr)) (fp : List Addr), PG (X.blk s H scope (compEnvC scope cs C X.env) fp) tg (tGt X.K cl js t))
    (ht : ∀ (s : Shared) (H : Hp) (C : Addr) (cs : List (Str × Addr)) (fp : List Addr), PTs (X.blk s H scope (compEnvC scope cs C X.env) fp) ifs (tT (gx (X.blk s H scope (compEnvC scope cs C X.env) fp) cl noW) c))
    (he : ∀ (s : Shared) (H : Hp) (C : Addr) (cs : List (Str × Addr)) (fp : List Addr), PE (X.blk s H scope (compEnvC scope cs C X.env) fp) elt (tE (gx (X.blk s H scope (compEnvC scope cs C X.env) fp) cl noW) f)) (hs : ∀ x, foldedSetIterable iter X.env x = pure x := by intro _; rfl) :
    PS X (.Assign [.Name y py] (.ListComp elt [⟨tg, iter, ifs, 0⟩] scope pos) spos) (tS (gx X cl Wx) (sSet i (eNw (aComp src t c f (own.map (·.2)))))) :=
  (L2.ps_setLc (own := own) hc hN hy hyl hsw hi ok hg ht he hs).imp fun D s H ⟨r, m, z, R, P⟩ => by
    refine tLc_of (g := gx X cl Wx) (c := c) (f := f) hj ⟨r, m, z, R, ?_⟩
    unfold sSet eNw at P
    cases q : aComp src t c f (own.map (·.2)) r m with
    | ok ws m1 =>
      rw [q] at P
      intro z1 v H1 E1 R1 ⟨p, vs, e1, e2, e3, n1, n2, n3⟩
      subst e1
      obtain ⟨e4, M, q4⟩ := lay_lst (cl := cl) R1.mem e2 e3 n1 n2 n3
      have R2 := R1.after e4 M
      exact P _ _ _ (E1.trans e4) ⟨R2.slots.set q4, R2.mem⟩
    | exc x m1 => rw [q] at P; exact fun z' H' c d e R q => P z' s H' c d e R q
    | bad => rw [q] at P; exact P

/-! ### built-ins, by what they make of plain values -/
def ClW (K : PySem.W.Frag) (cl : Nat → Addr) (o : Mem → List W → Option W) (r : List V → Hp → VK → Prop) : Prop := ∀ (z : Zn) (m : Mem) (H : Hp) (ws : List W) (vs : List V) (w : W) (Q : VK), MemOk K cl z m H → RWs K z H ws vs → o m ws = some w →
  (∀ z' v H', Ext z H z' H' → MemOk K cl z' m H' → RW K z' H' w v → Q v H') → r vs H Q
def ClN (K : PySem.W.Frag) (cl : Nat → Addr) (o : Mem → List W → Option (List W)) (r : List V → Hp → VK → Prop) : Prop := ∀ (z : Zn) (m : Mem) (H : Hp) (ws : List W) (vs : List V) (us : List W) (Q : VK), MemOk K cl z m H → RWs K z H ws vs → o m ws = some us →
  (∀ z' v H', Ext z H z' H' → MemOk K cl z' m H' → relNew K z' H' us v → Q v H') → r vs H Q
def eFn (o : Mem → List W → Option W) (t : DA) : DE := fun r m => (t r m).bind fun ws m1 => match o m1 ws with
  | some w => .ok w m1
  | none => .bad
def aFn (o : Mem → List W → Option (List W)) (t : DA) : DA := fun r m => (t r m).bind fun ws m1 => match o m1 ws with
  | some us => .ok us m1
  | none => .bad
theorem tE_fn {g : Gx} {o : Mem → List W → Option W} {rr : List V → Hp → VK → Prop} {t : DA} {s : L2.St} {H : Hp} {Q : VK} (hw : ClW g.K g.cl o rr) (h : tE g (eFn o t) s H Q) : tA g t s H fun vs H1 => rr vs H1 Q := by
  obtain ⟨r, m, z, R, P⟩ := h
  refine ⟨r, m, z, R, P.bind fun z1 ws m1 vs H1 E1 R1 r1 P1 => ?_⟩
  cases q : o m1 ws with
  | none => rw [q] at P1; exact P1.elim
  | some w => rw [q] at P1; exact hw z1 m1 H1 ws vs w Q R1.mem r1 q fun z' v H' e M rw' => P1 z' v H' e (R1.after e M) rw'
theorem tN_fn {g : Gx} {o : Mem → List W → Option (List W)} {rr : List V → Hp → VK → Prop} {t : DA} {s : L2.St} {H : Hp} {Q : VK} (hw : ClN g.K g.cl o rr) (h : tN g (aFn o t) s H Q) : tA g t s H fun vs H1 => rr vs H1 Q := by
  obtain ⟨r, m, z, R, P⟩ := h
  refine ⟨r, m, z, R, P.bind fun z1 ws m1 vs H1 E1 R1 r1 P1 => ?_⟩
  cases q : o m1 ws with
  | none => rw [q] at P1; exact P1.elim
  | some us => rw [q] at P1; exact hw z1 m1 H1 ws vs us Q R1.mem r1 q fun z' v H' e M rw' => P1 z' v H' e (R1.after e M) rw'
section
variable {o : Mem → List W → Option W} {oN : Mem → List W → Option (List W)} {rr : List V → Hp → VK → Prop} {id T : String} {x : Str} {p : Pos} {es : List Expr} {t : DA}
theorem se_cb (hc : CallR X (.builtin id) rr) (hw : ClW X.K cl o rr) (hm : X.mg x = none) (hv : bootBuiltins x = some (.builtin id)) (ha : PA X (e :: es) (tA (gx X cl Wx) t)) (hg : Gl X x := by rfl) (hn : x ≠ "__name__" := by decide) (hdb : (x == ("__debug__" : Str)) = false := by decide)
    (he : starEach (e :: es) X.env = (false, eval e X.env) :: starEach es X.env := by rfl) (hpl : (backTo pos (starEach es X.env)).any (·.1) = false := by rfl) : PE X (.Call (.Name x p) (e :: es) [] pos) (tE (gx X cl Wx) (eFn o t)) :=
  (pe_callB hc hg hm hv ha hn hdb he hpl).imp fun s H Q h => tE_fn (g := gx X cl Wx) hw h
theorem se_ct (hc : CallR X (.type T) rr) (hw : ClW X.K cl o rr) (hm : X.mg x = none) (hv : bootBuiltins x = some (.type T)) (ha : PA X (e :: es) (tA (gx X cl Wx) t)) (hg : Gl X x := by rfl) (hn : x ≠ "__name__" := by decide) (hdb : (x == ("__debug__" : Str)) = false := by decide)
    (he : starEach (e :: es) X.env = (false, eval e X.env) :: starEach es X.env := by rfl) (hpl : (backTo pos (starEach es X.env)).any (·.1) = false := by rfl) : PE X (.Call (.Name x p) (e :: es) [] pos) (tE (gx X cl Wx) (eFn o t)) :=
  (pe_callTy hc hg hm hv ha hn hdb he hpl).imp fun s H Q h => tE_fn (g := gx X cl Wx) hw h
theorem sn_ct (hc : CallR X (.type T) rr) (hw : ClN X.K cl oN rr) (hm : X.mg x = none) (hv : bootBuiltins x = some (.type T)) (ha : PA X (e :: es) (tA (gx X cl Wx) t)) (hg : Gl X x := by rfl) (hn : x ≠ "__name__" := by decide) (hdb : (x == ("__debug__" : Str)) = false := by decide)
    (he : starEach (e :: es) X.env = (false, eval e X.env) :: starEach es X.env := by rfl) (hpl : (backTo pos (starEach es X.env)).any (·.1) = false := by rfl) : PE X (.Call (.Name x p) (e :: es) [] pos) (tN (gx X cl Wx) (aFn oN t)) :=
  (pe_callTy hc hg hm hv ha hn hdb he hpl).imp fun s H Q h => tN_fn (g := gx X cl Wx) hw h
theorem sn_cb (hc : CallR X (.builtin id) rr) (hw : ClN X.K cl oN rr) (hm : X.mg x = none) (hv : bootBuiltins x = some (.builtin id)) (ha : PA X (e :: es) (tA (gx X cl Wx) t)) (hg : Gl X x := by rfl) (hn : x ≠ "__name__" := by decide) (hdb : (x == ("__debug__" : Str)) = false := by decide)
    (he : starEach (e :: es) X.env = (false, eval e X.env) :: starEach es X.env := by rfl) (hpl : (backTo pos (starEach es X.env)).any (·.1) = false := by rfl) : PE X (.Call (.Name x p) (e :: es) [] pos) (tN (gx X cl Wx) (aFn oN t)) :=
  (pe_callB hc hg hm hv ha hn hdb he hpl).imp fun s H Q h => tN_fn (g := gx X cl Wx) hw h
end
section
variable {K : PySem.W.Frag}
theorem RWs.one {z : Zn} {H : Hp} {w : W} {vs : List V} (h : RWs K z H [w] vs) : ∃ v, vs = [v] ∧ RW K z H w v := by
  obtain ⟨v, r, e1, e2, e3⟩ := h
  cases e3
  exact ⟨v, e1, e2⟩
theorem RWs.two {z : Zn} {H : Hp} {w u : W} {vs : List V} (h : RWs K z H [w, u] vs) : ∃ v x, vs = [v, x] ∧ RW K z H w v ∧ RW K z H u x := by
  obtain ⟨v, r, e1, e2, h2⟩ := h
  obtain ⟨x, f1, f2⟩ := h2.one
  subst f1
  exact ⟨v, x, e1, e2, f2⟩
def lenW (m : Mem) : List W → Option W
  | [.str x] => if x.length ≤ 16777216 then some (.int x.length) else none
  | [.ref n] => match m[n]? with
    | some (.lst xs) => some (.int xs.length)
    | some (.fz xs) => some (.int xs.length)
    | _ => none
  | [w] => (seqOf m w).map fun xs => .int xs.length
  | _ => none
abbrev rLenW (K : PySem.W.Frag) : List V → Hp → VK → Prop := fun xs H Q => (∃ p ys, xs = [V.ref p] ∧ (SqL K H p ys ∨ SqT K H p ys) ∧ Q (.int ys.length) H) ∨ (∃ z, xs = [V.str z] ∧ z.length ≤ sizeLine ∧ Q (.int z.length) H)
theorem c_len : CallR X (.builtin "len") (rLenW X.K) := call_len_seq.or call_len_str
theorem w_len : ClW K cl lenW (rLenW K) := by
  intro z m H ws vs w Q M rws e k
  match ws, e, rws with
  | [u], e, rws =>
    obtain ⟨v, e1, e2⟩ := rws.one
    subst e1
    have seqs : ∀ {xs : List W}, seqOf m u = some xs → w = .int xs.length → rLenW K [v] H Q := fun {xs} q ew => by
      obtain ⟨p, us, f1, f2, f3⟩ := seq_at M e2 q
      subst f1
      refine .inl ⟨p, us, rfl, f2, ?_⟩
      rw [f3.length]
      exact k z _ H (Ext.refl _ _) M (by rw [ew]; rfl)
    cases u with
    | str x =>
      simp only [lenW] at e
      split at e
      · rename_i c
        cases e
        have e2 : v = .str x := e2
        subst e2
        exact .inr ⟨x, rfl, sl_le c, k z _ H (Ext.refl _ _) M rfl⟩
      · cases e
    | ref n =>
      simp only [lenW] at e
      cases q : m[n]? with
      | none => rw [q] at e; cases e
      | some c =>
        rw [q] at e
        cases c with
        | lst xs => exact seqs (xs := xs) (by simp [seqOf, q]) (by simpa using e.symm)
        | fz xs => exact seqs (xs := xs) (by simp [seqOf, q]) (by simpa using e.symm)
        | _ => cases e
    | tup xs => exact seqs (xs := xs) rfl (by simpa [lenW, seqOf] using e.symm)
    | lst xs => exact seqs (xs := xs) rfl (by simpa [lenW, seqOf] using e.symm)
    | old xs => exact seqs (xs := xs) rfl (by simpa [lenW, seqOf] using e.symm)
    | non => simp [lenW, seqOf] at e
    | bl _ => simp [lenW, seqOf] at e
    | int _ => simp [lenW, seqOf] at e
    | raw _ => simp [lenW, seqOf] at e
  | [], e, _ => cases e
  | _ :: _ :: _, e, _ => simp [lenW] at e
def tupleW (m : Mem) : List W → Option W
  | [w] => (seqOf m w).map .tup
  | _ => none
theorem w_tuple : ClW K cl tupleW (fun xs H Q => ∃ p ys, xs = [V.ref p] ∧ ((SqL K H p ys ∧ ∀ l, H l = none → Q (.ref l) (upd H l (.tup ys))) ∨ (SqT K H p ys ∧ Q (.ref p) H))) := by
  intro z m H ws vs w Q M rws e k
  match ws, e, rws with
  | [u], e, rws =>
    obtain ⟨v, e1, e2⟩ := rws.one
    subst e1
    simp only [tupleW] at e
    cases q : seqOf m u with
    | none => rw [q] at e; cases e
    | some xs =>
      rw [q] at e
      have e : w = .tup xs := by simpa using e.symm
      subst e
      obtain ⟨p, us, f1, f2, f3⟩ := seq_at M e2 q
      subst f1
      refine ⟨p, us, rfl, ?_⟩
      rcases f2 with f2 | f2
      · refine .inl ⟨f2, fun l hl => ?_⟩
        obtain ⟨t1, t2, t3⟩ := new_tup (cl := cl) M hl f3
        exact k _ _ _ t1 t2 t3
      · exact .inr ⟨f2, k z _ H (Ext.refl _ _) M ⟨p, us, rfl, f2, f3⟩⟩
  | [], e, _ => cases e
  | _ :: _ :: _, e, _ => simp [tupleW] at e
def listW (m : Mem) : List W → Option (List W)
  | [w] => seqOf m w
  | _ => none
theorem w_list : ClN K cl listW (fun xs H Q => ∃ p ys, xs = [V.ref p] ∧ (SqL K H p ys ∨ SqT K H p ys) ∧ ∀ l, H l = none → Q (.ref l) (upd H l (.lst ys))) := by
  intro z m H ws vs us Q M rws e k
  match ws, e, rws with
  | [u], e, rws =>
    obtain ⟨v, e1, e2⟩ := rws.one
    subst e1
    obtain ⟨p, us, f1, f2, f3⟩ := seq_at M e2 e
    subst f1
    refine ⟨p, us, rfl, f2, fun l hl => ?_⟩
    obtain ⟨t1, t2, t3⟩ := new_rel (cl := cl) M hl f3
    exact k _ _ _ t1 t2 t3
  | [], e, _ => cases e
  | _ :: _ :: _, e, _ => simp [listW] at e
def intW (_ : Mem) : List W → Option W
  | [.int i] => some (.int i)
  | [.bl b] => some (.int (if b then 1 else 0))
  | _ => none
theorem w_int : ClW K cl intW (fun xs H Q => (∃ i, xs = [V.int i] ∧ Q (.int i) H) ∨ ∃ k, xs = [V.bl k] ∧ Q (.int (if k then 1 else 0)) H) := by
  intro z m H ws vs w Q M rws e k
  match ws, e, rws with
  | [.int i], e, rws =>
    obtain ⟨v, e1, e2⟩ := rws.one
    have e2 : v = .int i := e2
    subst e1 e2
    cases e
    exact .inl ⟨i, rfl, k z _ H (Ext.refl _ _) M rfl⟩
  | [.bl b], e, rws =>
    obtain ⟨v, e1, e2⟩ := rws.one
    have e2 : v = .bl b := e2
    subst e1 e2
    cases e
    exact .inr ⟨b, rfl, k z _ H (Ext.refl _ _) M rfl⟩
end

/-! ### isinstance with a built-in class -/
inductive Ty where
  | non | bl | int | str | tup | lst | dct
def Ty.name : Ty → String
  | .non => "NoneType"
  | .bl => "bool"
  | .int => "int"
  | .str => "str"
  | .tup => "tuple"
  | .lst => "list"
  | .dct => "dict"
def Ty.sub : Ty → Ty → Bool
  | .non, .non => true
  | .bl, .bl => true
  | .bl, .int => true
  | .int, .int => true
  | .str, .str => true
  | .tup, .tup => true
  | .lst, .lst => true
  | .dct, .dct => true
  | _, _ => false
theorem Ty.kit (a b : Ty) (hb : b ≠ .non) : kitB a.name b.name = some (a.sub b) := by
  cases a <;> cases b <;> first | exact absurd rfl hb | decide +kernel
def tyW (m : Mem) : W → Option Ty
  | .non => some .non
  | .bl _ => some .bl
  | .int _ => some .int
  | .str _ => some .str
  | .tup _ => some .tup
  | .lst _ => some .lst
  | .old _ => some .lst
  | .ref n => match m[n]? with
    | some (.lst _) => some .lst
    | some (.fz _) => some .lst
    | some (.dct _) => some .dct
    | _ => none
  | .raw _ => none
theorem ty_of {K : PySem.W.Frag} {z : Zn} {m : Mem} {H : Hp} {w : W} {v : V} {t : Ty} (M : MemOk K cl z m H) (h : RW K z H w v) (e : tyW m w = some t) : TyX K H v (.type t.name) := by
  cases w with
  | non => cases e; cases h; exact .base .non
  | bl b => cases e; cases h; exact .base (.bl b)
  | int i => cases e; cases h; exact .base (.int i)
  | str x => cases e; cases h; exact .base (.str x)
  | tup xs =>
    cases e
    obtain ⟨p, vs, h1, h2, _⟩ := h
    subst h1
    rcases h2 with (h2 | ⟨o, h2⟩) | ⟨o, its, n, h2, h3, _⟩
    · exact .base (.tup h2)
    · exact .fTuple h2
    · exact .kTuple h2 h3
  | lst xs =>
    cases e
    obtain ⟨p, vs, h1, h2, _⟩ := h
    subst h1
    exact .base (.lst h2.2)
  | old xs =>
    cases e
    obtain ⟨p, vs, h1, h2, _⟩ := h
    subst h1
    rcases h2 with ⟨o, h2⟩ | ⟨o, its, n, h2, h3, _⟩
    · exact .base (.frz h2)
    · exact .kList h2 h3
  | ref n =>
    obtain ⟨p, h1, h2⟩ := h
    subst h2
    obtain ⟨c, e1, hc⟩ := M.at h1
    simp only [tyW, e1] at e
    cases c with
    | lst ys => cases e; obtain ⟨_, _, vs, q, _⟩ := hc; exact .base (.lst q)
    | fz ys => cases e; obtain ⟨_, vs, q, _⟩ := hc; exact .base (.lst q)
    | dct kvs => cases e; obtain ⟨_, vs, q, _⟩ := hc; exact .base (.dK q)
    | ins c fs => cases e
  | raw u => cases e
def eIsi (T : Ty) (f : DE) : DE := fun r m => (f r m).bind fun w m1 => match tyW m1 w with
  | some t => .ok (.bl (t.sub T)) m1
  | none => .bad
theorem se_isi (T : Ty) {f : DE} {tn : Str} {p p2 : Pos} (hm : X.mg "isinstance" = none) (hm2 : X.mg tn = none) (hv : bootBuiltins tn = some (.type T.name)) (h : PE X e (tE (gx X cl Wx) f)) (hT : T ≠ .non := by intro h; cases h) (hg : Gl X "isinstance" := by rfl) (hg2 : Gl X tn := by rfl)
    (hn2 : tn ≠ "__name__" := by decide) (hdb2 : (tn == ("__debug__" : Str)) = false := by decide)
    (he1 : starEach [e, .Name tn p2] X.env = (false, eval e X.env) :: starEach [.Name tn p2] X.env := by rfl) (he2 : starEach [.Name tn p2] X.env = (false, eval (.Name tn p2) X.env) :: starEach [] X.env := by rfl) (hpl : (backTo pos (starEach [.Name tn p2] X.env)).any (·.1) = false := by rfl) :
    PE X (.Call (.Name "isinstance" p) [e, .Name tn p2] [] pos) (tE (gx X cl Wx) (eIsi T f)) :=
  (pe_callB call_isi hg hm (by decide +kernel) (pa_cons h (pa_cons (pe_bltn (v := .ty T.name) hg2 hm2 hv rfl hn2 hdb2) pa_nil he2) he1) (by decide) (by decide) he1 hpl).imp fun s H Q ⟨r, m, z, R, P⟩ => by
    refine ⟨r, m, z, R, P.bind fun z1 w m1 v H1 E1 R1 r1 P1 => ?_⟩
    cases q : tyW m1 w with
    | none => rw [q] at P1; exact P1.elim
    | some t =>
      rw [q] at P1
      exact ⟨v, .ty T.name, .type t.name, .type T.name, t.sub T, rfl, .ty _, ty_of R1.mem r1 q, kit_ty (Ty.kit t T hT), Post.ret (b := V.bl (t.sub T)) P1 R1 rfl⟩

/-! ### slices -/
def cutW (xs : List W) (lo hi : Option Int) : List W := (xs.drop (HT.sIx xs.length 0 lo)).take (HT.sIx xs.length xs.length hi - HT.sIx xs.length 0 lo)
theorem cut_rel {K : PySem.W.Frag} {z : Zn} {H : Hp} {ws : List W} {vs : List V} (h : RWs K z H ws vs) (lo hi : Option Int) : RWs K z H (cutW ws lo hi) (cutV vs lo hi) := by
  unfold cutW cutV
  rw [h.length]
  exact (h.drop _).take _
abbrev DO := Rho → Mem → R (Option Int)
abbrev relO : Zn → Hp → Option Int → Option Int → Prop := fun _ _ a b => a = b
def tO (g : Gx) (f : DO) : L2.St → Hp → (Option Int → Hp → Prop) → Prop := tG g relO f
def oNone : DO := fun _ m => .ok none m
def oSome (f : DE) : DO := fun r m => (f r m).bind fun w m1 => match w with
  | .int i => .ok (some i) m1
  | _ => .bad
theorem _root_.L2.PO.imp {oe : Option Expr} {t t' : TO} (h : PO X oe t) (hi : ∀ s H Q, t' s H Q → t s H Q) : PO X oe t' := ⟨fun pins sh s H Q I q => h.run pins sh s H Q I (hi _ _ _ q)⟩
theorem so_none : PO X none (tO (gx X cl Wx) oNone) := po_none.imp fun s H Q ⟨r, m, z, R, P⟩ => Post.ret (b := (none : Option Int)) P R rfl
theorem so_some {f : DE} (h : PE X e (tE (gx X cl Wx) f)) : PO X (some e) (tO (gx X cl Wx) (oSome f)) := (po_some h).imp fun s H Q ⟨r, m, z, R, P⟩ => by
  refine ⟨r, m, z, R, P.bind fun z1 w m1 v H1 E1 R1 r1 P1 => ?_⟩
  cases w with
  | int i => exact ⟨i, r1, Post.ret (b := some i) P1 R1 rfl⟩
  | _ => exact P1.elim
def eSl (f : DE) (lo hi : DO) : DE := fun r m => (f r m).bind fun w m1 => (lo r m1).bind fun l m2 => (hi r m2).bind fun u m3 => match w with
  | .tup xs => .ok (.tup (cutW xs l u)) m3
  | .str x => if x.length ≤ 16777216 then .ok (.str (cutS x l u)) m3 else .bad
  | w => match lstOf m3 w with
    | some xs => .ok (.lst (cutW xs l u)) m3
    | none => .bad
abbrev rSlW (K : PySem.W.Frag) : V → Option Int → Option Int → Hp → VK → Prop := fun x lo hi H Q => rSlL K x lo hi H Q ∨ (fun x lo hi H Q => rSlA K x lo hi H Q ∨ rSlS x lo hi H Q) x lo hi H Q
theorem sl_W : SlR X (rSlW X.K) := sl_list.or (sl_tupA.or sl_str)
theorem se_sl {f : DE} {lo hi : Option Expr} {fl fh : DO} {p2 : Pos} (h : PE X e (tE (gx X cl Wx) f)) (hl : PO X lo (tO (gx X cl Wx) fl)) (hh : PO X hi (tO (gx X cl Wx) fh)) : PE X (.Subscript e (.Slice lo hi none p2) pos) (tE (gx X cl Wx) (eSl f fl fh)) :=
  (pe_slice sl_W h hl hh).imp fun s H Q ⟨r, m, z, R, P⟩ => by
    refine ⟨r, m, z, R, P.bind fun z1 w m1 v H1 E1 R1 r1 P1 => ?_⟩
    refine ⟨r, m1, z1, R1, P1.bind (rel := relO) fun z2 l m2 l' H2 E2 R2 r2 P2 => ?_⟩
    have r2 : l = l' := r2
    subst r2
    refine ⟨r, m2, z2, R2, P2.bind (rel := relO) fun z3 u m3 u' H3 E3 R3 r3 P3 => ?_⟩
    have r3 : u = u' := r3
    subst r3
    have rw3 : RW X.K z3 H3 w v := (RW.ext E2 r1).ext E3
    have lsts : ∀ {xs : List W}, lstOf m3 w = some xs → Post (gx X cl Wx) (RW X.K) z3 H3 r s (.ok (.lst (cutW xs l u)) m3) Q → rSlW X.K v l u H3 Q := fun {xs} q P => by
      obtain ⟨p, vs, f1, f2, f3⟩ := lst_at R3.mem rw3 q
      refine .inl ⟨p, vs, f1, f2, fun l' hl' => ?_⟩
      obtain ⟨t1, t2, t3⟩ := new_lst (cl := cl) R3.mem hl' (cut_rel f3 l u)
      exact P _ _ _ t1 (R3.after t1 t2) t3
    cases w with
    | tup xs =>
      obtain ⟨p, vs, f1, f2, f3⟩ := rw3
      refine .inr (.inl ⟨p, vs, f1, f2, fun hw => ?_, fun _ l' hl' => ?_⟩)
      · refine P3 z3 _ H3 (Ext.refl _ _) R3 ⟨p, vs, rfl, f2, ?_⟩
        have e1 : cutW xs l u = xs := by
          unfold cutW
          rw [← f3.length, hw.1, hw.2]
          simp [f3.length]
        rw [e1]
        exact f3
      · obtain ⟨t1, t2, t3⟩ := new_tup (cl := cl) R3.mem hl' (cut_rel f3 l u)
        exact P3 _ _ _ t1 (R3.after t1 t2) t3
    | str x =>
      simp only at P3
      split at P3
      · rename_i c
        have rw3 : v = .str x := rw3
        subst rw3
        exact .inr (.inr ⟨x, rfl, sl_le c, P3 z3 _ H3 (Ext.refl _ _) R3 rfl⟩)
      · exact P3.elim
    | lst xs => exact lsts (xs := xs) rfl P3
    | old xs => exact lsts (xs := xs) rfl P3
    | ref n =>
      cases q : lstOf m3 (.ref n) with
      | none => simp only [q] at P3; exact P3.elim
      | some xs => simp only [q] at P3; exact lsts q P3
    | non => exact P3.elim
    | bl _ => exact P3.elim
    | int _ => exact P3.elim
    | raw _ => exact P3.elim
/-- xs[::-1] of a list -/
def eRev (f : DE) : DE := fun r m => (f r m).bind fun w m1 => match lstOf m1 w with
  | some xs => .ok (.lst xs.reverse) m1
  | none => .bad
theorem se_rev {f : DE} {k : Nat} {p1 p2 p3 : Pos} (h : PE X e (tE (gx X cl Wx) f)) : PE X (.Subscript e (.Slice none none (some (.UnaryOp .USub (.Constant (.int 1) k p1) p2)) p3) pos) (tE (gx X cl Wx) (eRev f)) :=
  (pe_revL h).imp fun s H Q ⟨r, m, z, R, P⟩ => by
    refine ⟨r, m, z, R, P.bind fun z1 w m1 v H1 E1 R1 r1 P1 => ?_⟩
    cases q : lstOf m1 w with
    | none => rw [q] at P1; exact P1.elim
    | some xs =>
      rw [q] at P1
      obtain ⟨p, vs, f1, f2, f3⟩ := lst_at R1.mem r1 q
      refine ⟨p, vs, f1, f2, fun l hl => ?_⟩
      obtain ⟨t1, t2, t3⟩ := new_lst (cl := cl) R1.mem hl f3.reverse
      exact P1 _ _ _ t1 (R1.after t1 t2) t3
/-- - e -/
def eNeg (f : DE) : DE := fun r m => (f r m).bind fun w m1 => match w with
  | .int i => .ok (.int (-i)) m1
  | _ => .bad
theorem se_neg {f : DE} (h : PE X e (tE (gx X cl Wx) f)) : PE X (.UnaryOp .USub e pos) (tE (gx X cl Wx) (eNeg f)) :=
  (pe_un un_neg h).imp fun s H Q ⟨r, m, z, R, P⟩ => by
    refine ⟨r, m, z, R, P.bind fun z1 w m1 v H1 E1 R1 r1 P1 => ?_⟩
    cases w with
    | int i => exact ⟨i, r1, Post.ret (b := V.int (-i)) P1 R1 rfl⟩
    | _ => exact P1.elim
end
end Dn

/-! D7: what changes: lists, dicts; chains; while. -/
namespace Dn
open PySem PySem.Spec PyProof.Rows L2
def Cell.mut : Cell → Bool
  | .fz _ => false
  | _ => true
section
variable {K : PySem.W.Frag} {cl : Nat → Addr} {z : Zn} {m : Mem} {H : Hp}
theorem nodup_ixA {l : List Addr} {i j : Nat} {x : Addr} (hN : l.Nodup) (a : l[i]? = some x) (b : l[j]? = some x) : i = j := by
  obtain ⟨h1, e1⟩ := List.getElem?_eq_some_iff.mp a
  obtain ⟨h2, e2⟩ := List.getElem?_eq_some_iff.mp b
  exact (List.getElem_inj hN).mp (e1.trans e2.symm)
/-- an object of the memory is written -/
theorem MemOk.write {n : Nat} {a : Addr} {c c' : Cell} {o' : HO} (M : MemOk K cl z m H) (hp : z.phi[n]? = some a) (hc : m[n]? = some c) (hm : c.mut = true) (new : Ext z H z (upd H a o') → CellOk K cl z (upd H a o') a c') :
    Ext z H z (upd H a o') ∧ MemOk K cl z (m.set n c') (upd H a o') := by
  have hcell := M.cells n a c hp hc
  have nz : ¬ z.Z a := fun q => by
    cases c with
    | lst ws => exact hcell.1 q
    | fz ws => cases hm
    | dct kvs => obtain ⟨_, vs, e, _⟩ := hcell; obtain ⟨xs, e2⟩ := M.lz a q; rw [e] at e2; cases e2
    | ins c fs => obtain ⟨_, dx, vs, e, _⟩ := hcell; obtain ⟨xs, e2⟩ := M.lz a q; rw [e] at e2; cases e2
  have nh : ¬ z.hold a := fun q => by
    cases c with
    | lst ws => exact hcell.2.1 q
    | fz ws => cases hm
    | dct kvs => exact hcell.1 q
    | ins c fs => exact hcell.1 q
  have nt : ∀ b us, H b = some (.tup us) → b ≠ a := fun b us e q => by
    subst q
    cases c with
    | lst ws => obtain ⟨_, _, vs, e2, _⟩ := hcell; rw [e] at e2; cases e2
    | fz ws => cases hm
    | dct kvs => obtain ⟨_, vs, e2, _⟩ := hcell; rw [e] at e2; cases e2
    | ins c fs => obtain ⟨_, dx, vs, e2, _⟩ := hcell; rw [e] at e2; cases e2
  have nf : ∀ b ob u, H b = some (.frz ob u) → b ≠ a := fun b ob u e q => by
    subst q
    cases c with
    | lst ws => obtain ⟨_, _, vs, e2, _⟩ := hcell; rw [e] at e2; cases e2
    | fz ws => cases hm
    | dct kvs => obtain ⟨_, vs, e2, _⟩ := hcell; rw [e] at e2; cases e2
    | ins c fs => obtain ⟨_, dx, vs, e2, _⟩ := hcell; rw [e] at e2; cases e2
  have ez : ∀ b, z.Z b → b ≠ a := fun b q e => nz (e ▸ q)
  have eh : ∀ b, z.hold b → b ≠ a := fun b q e => nh (e ▸ q)
  have ex : Ext z H z (upd H a o') := ⟨⟨fun b us e => by rw [upd_ne (nt b us e)]; exact e, fun b ob u e => by rw [upd_ne (nf b ob u e)]; exact e, fun b q => ⟨q, upd_ne (ez b q)⟩, fun _ _ q => q⟩, fun b q => ⟨q, upd_ne (eh b q)⟩⟩
  refine ⟨ex, by simp [M.len], M.nd, M.sep, fun b q => by rw [upd_ne (ez b q)]; exact M.lz b q, fun b q => by rw [upd_ne (eh b q)]; exact M.lh b q, fun k b d h1 h2 => ?_⟩
  by_cases hk : n = k
  · subst hk
    rw [hp] at h1
    cases h1
    rw [List.getElem?_set_self (List.getElem?_eq_some_iff.mp hc).1] at h2
    cases h2
    exact new ex
  · rw [List.getElem?_set_ne hk] at h2
    have hne : b ≠ a := fun q => by
      subst q
      exact hk (nodup_ixA M.nd hp h1)
    exact (M.cells k b d h1 h2).ext2 ex.e0 Iff.rfl (fun x => x) (upd_ne hne)
/-- a list of the memory is settled -/
theorem MemOk.freeze {n : Nat} {a : Addr} {ws : List W} (M : MemOk K cl z m H) (hp : z.phi[n]? = some a) (hc : m[n]? = some (.lst ws)) :
    Ext z H (z.fz a) H ∧ MemOk K cl (z.fz a) (m.set n (.fz ws)) H ∧ RW K (z.fz a) H (.lst ws) (.ref a) := by
  obtain ⟨n1, n2, vs, e, rr⟩ := M.cells n a _ hp hc
  have ex : Ext z H (z.fz a) H := ⟨⟨fun _ _ h => h, fun _ _ _ h => h, fun _ h => ⟨.inr h, rfl⟩, fun _ _ h => h⟩, fun _ h => ⟨h, rfl⟩⟩
  refine ⟨ex, ⟨by simp [M.len], M.nd, ?_, ?_, M.lh, fun k b d h1 h2 => ?_⟩, a, vs, rfl, ⟨.inl rfl, e⟩, RWs.ext ex rr⟩
  · rintro b (q | q)
    · subst q; exact n2
    · exact M.sep b q
  · rintro b (q | q)
    · subst q; exact ⟨_, e⟩
    · exact M.lz b q
  · by_cases hk : n = k
    · subst hk
      have h1 : z.phi[n]? = some b := h1
      rw [hp] at h1
      cases h1
      rw [List.getElem?_set_self (List.getElem?_eq_some_iff.mp hc).1] at h2
      cases h2
      exact ⟨.inl rfl, vs, e, RWs.ext ex rr⟩
    · rw [List.getElem?_set_ne hk] at h2
      have h1 : z.phi[k]? = some b := h1
      have hne : b ≠ a := fun q => by
        subst q
        exact hk (nodup_ixA M.nd hp h1)
      refine (M.cells k b d h1 h2).ext2 ex.e0 ⟨?_, .inr⟩ (fun x => x) rfl
      rintro (q | q)
      · exact absurd q hne
      · exact q
end

section
variable {X : Cx} {cl : Nat → Addr} {Wx : WX} {e a b o : Expr} {pos : Pos}
/-- a name whose list is settled from here on -/
def eFrz (i : Nat) : DE := fun r m => match r[i]? with
  | some (some (.ref n)) => match m[n]? with
    | some (.lst ws) => .ok (.lst ws) (m.set n (.fz ws))
    | some (.fz ws) => .ok (.lst ws) m
    | _ => .bad
  | some (some (.lst ws)) => .ok (.lst ws) m
  | _ => .bad
theorem se_frz (i : Nat) {x : Str} (hN : X.N[i]? = some x := by rfl) (hv : Vis X.env.scope x := by first | exact Or.inl rfl | exact Or.inr (Or.inl rfl) | exact Or.inr (Or.inr rfl)) (hd : (x == ("__debug__" : Str)) = false := by decide)
    (hcd : (x == ("__classdict__" : Str)) = false := by decide) : PE X (.Name x pos) (tE (gx X cl Wx) (eFrz i)) := (pe_var hN hv hd hcd).imp fun s H Q ⟨r, m, z, R, P⟩ => by
  unfold eFrz at P
  split at P
  · rename_i n e1
    obtain ⟨v, q1, p, q2, q3⟩ := R.slots.2 i _ e1
    subst q3
    refine ⟨_, q1, ?_⟩
    split at P
    · rename_i ws e2
      obtain ⟨ex, M, rw'⟩ := R.mem.freeze q2 e2
      exact P _ _ _ ex (R.after ex M) rw'
    · rename_i ws e2
      obtain ⟨h1, vs, h2, h3⟩ := R.mem.cells n p _ q2 e2
      exact P z _ H (Ext.refl _ _) R ⟨p, vs, rfl, ⟨h1, h2⟩, h3⟩
    · exact P.elim
  · rename_i ws e1
    obtain ⟨v, q1, q2⟩ := R.slots.2 i _ e1
    exact ⟨v, q1, P.ret R q2⟩
  · exact P.elim
/-- xs.append(e) -/
def eApp (fo fe : DE) : DE := fun r m => (fo r m).bind fun w m1 => match w with
  | .ref n => match m1[n]? with
    | some (.lst _) => (fe r m1).bind fun y m2 => match m2[n]? with
      | some (.lst xs) => if xs.length < 16777216 then .ok .non (m2.set n (.lst (xs ++ [y]))) else .bad
      | _ => .bad
    | _ => .bad
  | _ => .bad
theorem sl_lt {n : Nat} (h : n < 16777216) : n < sizeLine := by rw [sizeLine_eq]; exact h
theorem se_app {fo fe : DE} {apos : Pos} (ho : PE X o (tE (gx X cl Wx) fo)) (he : PE X e (tE (gx X cl Wx) fe))
    (hbase : attributeBase o "append" X.env (eval o X.env) = eval o X.env := by rfl)
    (hfew : ((backTo pos (starEach [e] X.env)).all (fun x => !x.1) && (backToKw pos (keywordEach [] X.env)).all (fun x => x.1.isSome)
      && decide ([e].length + ([] : List Keyword).length + (if ([] : List Keyword).isEmpty then 0 else 1) < 30)) = true := by rfl)
    (hline : (apos.endLine == pos.line) = true := by rfl) (hs : starEach [e] X.env = (false, eval e X.env) :: starEach [] X.env := by rfl) (hplain : (backTo pos (starEach [] X.env)).any (·.1) = false := by rfl) :
    PE X (.Call (.Attribute o "append" apos) [e] [] pos) (tE (gx X cl Wx) (eApp fo fe)) :=
  (pe_bm PySem.F.plainAttrs_list PySem.F.slot_list_append PySem.F.type_list_append mt_append ho (pa_cons he pa_nil hs) hbase hfew hline hs hplain).imp fun s H Q ⟨r, m, z, R, P⟩ => by
    refine ⟨r, m, z, R, P.bind fun z1 w m1 v H1 E1 R1 r1 P1 => ?_⟩
    cases w with
    | ref n =>
      obtain ⟨p, q1, q2⟩ := r1
      subst q2
      simp only at P1
      split at P1
      · rename_i ys e1
        obtain ⟨_, _, vs, h1, _⟩ := R1.mem.cells n p _ q1 e1
        refine ⟨.inl ⟨rfl, vs, SqL.of h1⟩, r, m1, z1, R1, P1.bind fun z2 y m2 v2 H2 E2 R2 r2 P2 => ?_⟩
        have q3 := E2.e0.ph n p q1
        split at P2
        · rename_i xs e2
          split at P2
          · rename_i hl
            obtain ⟨n1, n2, us, h2, h3⟩ := R2.mem.cells n p _ q3 e2
            refine ⟨p, us, v2, rfl, rfl, h2, by rw [h3.length]; exact sl_lt hl, ?_⟩
            obtain ⟨ex, M⟩ := R2.mem.write (c' := .lst (xs ++ [y])) (o' := .lst (us ++ [v2])) q3 e2 rfl fun ex => ⟨n1, n2, _, upd_same, (RWs.ext ex h3).append (.cons (r2.ext ex) .nil)⟩
            exact P2 _ _ _ ex (R2.after ex M) rfl
          · exact P2.elim
        · exact P2.elim
      · exact P1.elim
    | _ => exact P1.elim
/-- xs.extend(ys), ys a list -/
def eExt (fo fe : DE) : DE := fun r m => (fo r m).bind fun w m1 => match w with
  | .ref n => match m1[n]? with
    | some (.lst _) => (fe r m1).bind fun y m2 => match m2[n]?, trkOf m2 y with
      | some (.lst xs), some ys => if xs.length + ys.length ≤ 16777216 then .ok .non (m2.set n (.lst (xs ++ ys))) else .bad
      | _, _ => .bad
    | _ => .bad
  | _ => .bad
theorem se_ext {fo fe : DE} {apos : Pos} (ho : PE X o (tE (gx X cl Wx) fo)) (he : PE X e (tE (gx X cl Wx) fe))
    (hbase : attributeBase o "extend" X.env (eval o X.env) = eval o X.env := by rfl)
    (hfew : ((backTo pos (starEach [e] X.env)).all (fun x => !x.1) && (backToKw pos (keywordEach [] X.env)).all (fun x => x.1.isSome)
      && decide ([e].length + ([] : List Keyword).length + (if ([] : List Keyword).isEmpty then 0 else 1) < 30)) = true := by rfl)
    (hline : (apos.endLine == pos.line) = true := by rfl) (hs : starEach [e] X.env = (false, eval e X.env) :: starEach [] X.env := by rfl) (hplain : (backTo pos (starEach [] X.env)).any (·.1) = false := by rfl) :
    PE X (.Call (.Attribute o "extend" apos) [e] [] pos) (tE (gx X cl Wx) (eExt fo fe)) :=
  (pe_bm PySem.F.plainAttrs_list PySem.F.slot_list_extend PySem.F.type_list_extend mt_extend ho (pa_cons he pa_nil hs) hbase hfew hline hs hplain).imp fun s H Q ⟨r, m, z, R, P⟩ => by
    refine ⟨r, m, z, R, P.bind fun z1 w m1 v H1 E1 R1 r1 P1 => ?_⟩
    cases w with
    | ref n =>
      obtain ⟨p, q1, q2⟩ := r1
      subst q2
      simp only at P1
      split at P1
      · rename_i ys e1
        obtain ⟨_, _, vs, h1, _⟩ := R1.mem.cells n p _ q1 e1
        refine ⟨.inl ⟨rfl, vs, SqL.of h1⟩, r, m1, z1, R1, P1.bind fun z2 y m2 v2 H2 E2 R2 r2 P2 => ?_⟩
        have q3 := E2.e0.ph n p q1
        split at P2
        · rename_i xs ys e2 e3
          split at P2
          · rename_i hl
            obtain ⟨n1, n2, us, h2, h3⟩ := R2.mem.cells n p _ q3 e2
            obtain ⟨p2, us2, g1, g2, g3⟩ := trk_at R2.mem r2 e3
            subst g1
            refine ⟨p, p2, us, us2, rfl, rfl, h2, g2, by rw [h3.length, g3.length]; exact sl_le hl, ?_⟩
            obtain ⟨ex, M⟩ := R2.mem.write (c' := .lst (xs ++ ys)) (o' := .lst (us ++ us2)) q3 e2 rfl fun ex => ⟨n1, n2, _, upd_same, (RWs.ext ex h3).append (RWs.ext ex g3)⟩
            exact P2 _ _ _ ex (R2.after ex M) rfl
          · exact P2.elim
        · exact P2.elim
      · exact P1.elim
    | _ => exact P1.elim

/-! ### dicts by texts and ints -/
def keyW : W → Option Key
  | .int i => some (.inl i)
  | .str x => some (.inr x)
  | _ => none
theorem key_rel {K : PySem.W.Frag} {z : Zn} {H : Hp} {w : W} {v : V} {k : Key} (h : RW K z H w v) (e : keyW w = some k) : v = kV k := by
  cases w with
  | int i => cases e; exact h
  | str x => cases e; exact h
  | _ => cases e
def valW (kvs : List (Key × W)) (k : Key) : Option W := match kvs with
  | [] => none
  | (j, w) :: r => if j = k then some w else valW r k
def hasW (kvs : List (Key × W)) (k : Key) : Bool := match kvs with
  | [] => false
  | (j, _) :: r => decide (j = k) || hasW r k
def setW (kvs : List (Key × W)) (k : Key) (w : W) : List (Key × W) := match kvs with
  | [] => []
  | (j, u) :: r => (if j = k then (j, w) else (j, u)) :: setW r k w
def putW (kvs : List (Key × W)) (k : Key) (w : W) : List (Key × W) := if hasW kvs k = true then setW kvs k w else kvs ++ [(k, w)]
section
variable {K : PySem.W.Frag} {z : Zn} {H : Hp}
theorem valW_some {k : Key} : ∀ {kvs : List (Key × W)} {vs : List (Key × V)} {w : W}, RFs K z H kvs vs → valW kvs k = some w → ∃ v, valV vs k = some v ∧ RW K z H w v
  | [], _, _, _, e => by cases e
  | (j, u) :: r, _, w, ⟨v, vr, h1, h2, h3⟩, e => by
    subst h1
    simp only [valW] at e
    by_cases hj : j = k
    · rw [if_pos hj] at e; cases e; exact ⟨v, valV_pos hj, h2⟩
    · rw [if_neg hj] at e
      obtain ⟨v', a1, a2⟩ := valW_some h3 e
      exact ⟨v', by rw [valV_neg hj]; exact a1, a2⟩
theorem valW_none {k : Key} : ∀ {kvs : List (Key × W)} {vs : List (Key × V)}, RFs K z H kvs vs → valW kvs k = none → valV vs k = none
  | [], _, h, _ => by cases h; rfl
  | (j, u) :: r, _, ⟨v, vr, h1, h2, h3⟩, e => by
    subst h1
    simp only [valW] at e
    by_cases hj : j = k
    · rw [if_pos hj] at e; cases e
    · rw [if_neg hj] at e
      rw [valV_neg hj]
      exact valW_none h3 e
theorem RFs.append {α : Type} : ∀ {as bs : List (α × W)} {us vs : List (α × V)}, RFs K z H as us → RFs K z H bs vs → RFs K z H (as ++ bs) (us ++ vs)
  | [], _, _, _, h, t => by cases h; exact t
  | (k, w) :: _, _, _, _, ⟨v, r, h1, h2, h3⟩, t => by subst h1; exact ⟨v, _, rfl, h2, RFs.append h3 t⟩
theorem hasW_any {k : Key} : ∀ {kvs : List (Key × W)} {vs : List (Key × V)}, RFs K z H kvs vs → (vs.any fun kv => decide (kv.1 = k)) = hasW kvs k
  | [], _, h => by cases h; rfl
  | (j, w) :: _, _, ⟨v, r, h1, h2, h3⟩ => by
    subst h1
    simp only [List.any_cons, hasW]
    rw [hasW_any h3]
theorem setW_rel {k : Key} {w : W} {v : V} (hw : RW K z H w v) : ∀ {kvs : List (Key × W)} {vs : List (Key × V)}, RFs K z H kvs vs → RFs K z H (setW kvs k w) (vs.map fun kv => if kv.1 = k then (kv.1, v) else kv)
  | [], _, h => by cases h; rfl
  | (j, u) :: _, _, ⟨x, r, h1, h2, h3⟩ => by
    subst h1
    simp only [setW, List.map_cons]
    by_cases hj : j = k
    · rw [if_pos hj, if_pos hj]; exact ⟨v, _, rfl, hw, setW_rel hw h3⟩
    · rw [if_neg hj, if_neg hj]; exact ⟨x, _, rfl, h2, setW_rel hw h3⟩
theorem putW_rel {k : Key} {w : W} {v : V} {kvs : List (Key × W)} {vs : List (Key × V)} (hw : RW K z H w v) (h : RFs K z H kvs vs) : RFs K z H (putW kvs k w) (putK vs k v) := by
  unfold putW putK
  rw [hasW_any h]
  split
  · exact setW_rel hw h
  · exact h.append ⟨v, [], rfl, hw, rfl⟩
end
def eDget (fo fi : DE) : DE := fun r m => (fo r m).bind fun w m1 => (fi r m1).bind fun k m2 => match w with
  | .ref n => match m2[n]?, keyW k with
    | some (.dct kvs), some key => match valW kvs key with
      | some u => .ok u m2
      | none => .bad
    | _, _ => .bad
  | _ => .bad
theorem se_dget {fo fi : DE} {i : Expr} (hu : X.A.units + 1 < cLine) (ho : PE X o (tE (gx X cl Wx) fo)) (hi : PE X i (tE (gx X cl Wx) fi)) (hs : NoSl i := by exact fun _ _ => rfl) : PE X (.Subscript o i pos) (tE (gx X cl Wx) (eDget fo fi)) :=
  (pe_dget hu ho hi hs).imp fun s H Q ⟨r, m, z, R, P⟩ => by
    refine ⟨r, m, z, R, P.bind fun z1 w m1 v H1 E1 R1 r1 P1 => ?_⟩
    refine ⟨r, m1, z1, R1, P1.bind fun z2 k m2 y H2 E2 R2 r2 P2 => ?_⟩
    cases w with
    | ref n =>
      obtain ⟨p, q1, q2⟩ := RW.ext E2 r1
      subst q2
      simp only at P2
      split at P2
      · rename_i kvs key e1 e2
        split at P2
        · rename_i u e3
          obtain ⟨_, vs, h1, h2⟩ := R2.mem.cells n p _ q1 e1
          obtain ⟨x, g1, g2⟩ := valW_some h2 e3
          have hy := key_rel r2 e2
          subst hy
          exact ⟨p, x, rfl, by rw [← g1]; exact DGet.k h1, P2 z2 x H2 (Ext.refl _ _) R2 g2⟩
        · exact P2.elim
      · exact P2.elim
    | _ => exact P2.elim
/-- o[i] = e, of a list or a dict -/
def setM (m : Mem) (o i v : W) : Option Mem := match o with
  | .ref n => match m[n]? with
    | some (.lst xs) => match i with
      | .int k => (ixN xs.length k).map fun j => m.set n (.lst (xs.set j v))
      | _ => none
    | some (.dct kvs) => match keyW i with
      | some key => if kvs.length < 16777216 then some (m.set n (.dct (putW kvs key v))) else none
      | none => none
    | _ => none
  | _ => none
def rSetD : V → V → V → Hp → (Hp → Prop) → Prop := fun o i v H Q => ∃ a H', o = .ref a ∧ DPut H a i v H' ∧ Q H'
theorem set_dict (hu : X.A.units + 1 < cLine) : PSet X rSetD := by
  intro pins s σ H o i v ov iv u Q I ro ri rv h
  obtain ⟨a, H', ex, g, q⟩ := h
  subst ex
  obtain rfl : ov = Value.ref a := ro
  exact d_setItem hu I g ri rv fun s4 I4 => ⟨H', I4, q⟩
theorem PSet.or {t t' : TSet} (h : PSet X t) (h' : PSet X t') : PSet X (fun o i v H Q => t o i v H Q ∨ t' o i v H Q) := fun pins s σ H o i v ov iv u Q I ro ri rv q => q.elim (fun q => h pins s σ H o i v ov iv u Q I ro ri rv q) fun q => h' pins s σ H o i v ov iv u Q I ro ri rv q
def sSub (fo fi fv : DE) : DS := fun r m => (fv r m).thenS r fun v m1 => (fo r m1).thenS r fun w m2 => (fi r m2).thenS r fun i m3 => match setM m3 w i v with
  | some m4 => .next r m4
  | none => .bad
theorem ss_sub {fo fi fv : DE} {i : Expr} {p2 : Pos} (hu : X.A.units + 1 < cLine) (hv : PE X e (tE (gx X cl Wx) fv)) (ho : PE X o (tE (gx X cl Wx) fo)) (hi : PE X i (tE (gx X cl Wx) fi))
    (ha : ∀ v, assign (.Subscript o i p2) X.env v = (do
      let ov ← holding [v] (eval o X.env)
      let iv ← holding [v, ov] (eval i X.env)
      standAt p2
      holding [v, ov, iv] (setItem ov iv v)
      release [v, ov, iv] []) := by intro _; rfl)
    (hs : swapsWithSole [.Subscript o i p2] e pos.line X.env = pure false := by rfl) (hw : swappedStores [.Subscript o i p2] e X.env = pure none := by rfl)
    (h1 : (assignEach [.Subscript o i p2] X.env).map (·.2) = [assign (.Subscript o i p2) X.env] := by rfl) : PS X (.Assign [.Subscript o i p2] e pos) (tS (gx X cl Wx) (sSub fo fi fv)) :=
  (ps_asg hv (pg_sub ho hi (PSet.or set_list (set_dict hu)) ha) hs hw h1).imp fun D s H ⟨r, m, z, R, P⟩ => ⟨r, m, z, R, P.bind fun z1 v m1 x H1 E1 R1 r1 P1 => by
    refine ⟨r, m1, z1, R1, P1.bind fun z2 w m2 y H2 E2 R2 r2 P2 => ?_⟩
    refine ⟨r, m2, z2, R2, P2.bind fun z3 k m3 u H3 E3 R3 r3 P3 => ?_⟩
    have r1 : RW X.K z3 H3 v x := (RW.ext E2 r1).ext E3
    cases w with
    | ref n =>
      obtain ⟨p, q1, q2⟩ := RW.ext E3 r2
      subst q2
      simp only [setM] at P3
      cases q : m3[n]? with
      | none => rw [q] at P3; exact P3.elim
      | some c =>
        rw [q] at P3
        cases c with
        | lst xs =>
          cases k with
          | int j =>
            have r3 : u = .int j := r3
            subst r3
            simp only at P3
            cases q4 : ixN xs.length j with
            | none => rw [q4] at P3; exact P3.elim
            | some l =>
              rw [q4] at P3
              obtain ⟨n1, n2, us, h2, h3⟩ := R3.mem.cells n p _ q1 q
              refine .inl ⟨p, us, j, l, rfl, rfl, h2, by rw [h3.length]; exact q4, ?_⟩
              obtain ⟨ex, M⟩ := R3.mem.write (c' := .lst (xs.set l v)) (o' := .lst (us.set l x)) q1 q rfl fun ex => ⟨n1, n2, _, upd_same, RWs.set (r1.ext ex) l (RWs.ext ex h3)⟩
              exact P3 _ _ _ ex (R3.after ex M)
          | _ => exact P3.elim
        | dct kvs =>
          simp only at P3
          cases q4 : keyW k with
          | none => rw [q4] at P3; exact P3.elim
          | some key =>
            rw [q4] at P3
            simp only at P3
            by_cases hl : kvs.length < 16777216
            · rw [if_pos hl] at P3
              obtain ⟨n2, us, h2, h3⟩ := R3.mem.cells n p _ q1 q
              have hy := key_rel r3 q4
              subst hy
              refine .inr ⟨p, _, rfl, DPut.k h2 (by rw [h3.length]; exact sl_lt hl), ?_⟩
              obtain ⟨ex, M⟩ := R3.mem.write (c' := .dct (putW kvs key v)) (o' := .dK (putK us key x)) q1 q rfl fun ex => ⟨n2, _, upd_same, putW_rel (r1.ext ex) (RFs.ext ex h3)⟩
              exact P3 _ _ _ ex (R3.after ex M)
            · rw [if_neg hl] at P3; exact P3.elim
        | fz xs => exact P3.elim
        | ins c fs => exact P3.elim
    | _ => exact P3.elim⟩
/-- {"k": e, ..} -/
def pairsD : List (Str × DE) → Rho → Mem → R (List (Key × W))
  | [], _, m => .ok [] m
  | (k, f) :: t, r, m => (f r m).bind fun w m1 => (pairsD t r m1).bind fun ws m2 => .ok ((.inr k, w) :: ws) m2
def relP (K : PySem.W.Frag) (z : Zn) (H : Hp) (kws : List (Key × W)) (ps : List (V × V)) : Prop := ∃ vs : List (Key × V), RFs K z H kws vs ∧ ps = vs.map fun kv => (kV kv.1, kv.2)
theorem pairs_of {g : Gx} {s : L2.St} {r : Rho} : ∀ {fs : List (Str × DE)} {m : Mem} {z : Zn} {H : Hp} {Q : List (V × V) → Hp → Prop}, Rel g.K g.cl z r m s H → Post g (relP g.K) z H r s (pairsD fs r m) Q → tPairs (fs.map fun kf => (tC (.str kf.1), tE g kf.2)) s H Q
  | [], m, z, H, Q, R, P => Post.ret (b := ([] : List (V × V))) P R ⟨[], rfl, rfl⟩
  | (k, f) :: t, m, z, H, Q, R, P => by
    refine ⟨r, m, z, R, P.bind fun z1 w m1 v H1 E1 R1 r1 P1 => ?_⟩
    refine pairs_of (fs := t) R1 (P1.bind fun z2 ws m2 ps H2 E2 R2 r2 P2 => ?_)
    obtain ⟨vs, a1, a2⟩ := r2
    exact Post.ret (b := (V.str k, v) :: ps) P2 R2 ⟨(.inr k, v) :: vs, ⟨v, vs, rfl, RW.ext E2 r1, a1⟩, by rw [a2]; rfl⟩
def mergeW (kvs more : List (Key × W)) : List (Key × W) := match more with
  | [] => kvs
  | (k, w) :: r => mergeW (putW kvs k w) r
theorem mergeW_rel {K : PySem.W.Frag} {z : Zn} {H : Hp} : ∀ {more kvs : List (Key × W)} {mv vs : List (Key × V)}, RFs K z H more mv → RFs K z H kvs vs → RFs K z H (mergeW kvs more) (mergeK vs mv)
  | [], _, _, _, h, t => by cases h; exact t
  | (k, w) :: _, _, _, _, ⟨v, r, h1, h2, h3⟩, t => by
    subst h1
    show RFs K z H (mergeW (putW _ k w) _) (mergeK (putK _ k v) r)
    exact mergeW_rel h3 (putW_rel h2 t)
def eDict (fs : List (Str × DE)) : DE := fun r m => (pairsD fs r m).bind fun kws m1 => if kws.length ≤ 15 then .ok (.ref m1.length) (m1 ++ [.dct (mergeW [] kws)]) else .bad
theorem se_dict {keys : List (Option Expr)} {values : List Expr} {fs : List (Str × DE)} (h : PPs X pos keys values (fs.map fun kf => (tC (.str kf.1), tE (gx X cl Wx) kf.2))) (hall : keys.all (·.isSome) = true := by rfl) (hl : keys.length = values.length := by rfl) (h0 : keys ≠ [] := by intro h; cases h)
    (h15 : keys.length ≤ 15 := by decide) : PE X (.Dict keys values pos) (tE (gx X cl Wx) (eDict fs)) :=
  (pe_disp h hall hl h0 h15).imp fun s H Q ⟨r, m, z, R, P⟩ p hp => by
    have hs := upd_same_of (o := .dK []) hp
    have R1 := R.same hs
    have E1 := R.mem.extS hs
    have nz := R.mem.z_ne hp
    have nh := R.mem.h_ne hp
    have np := R.mem.p_ne hp
    obtain ⟨M2, E2⟩ := R1.mem.hold (p := p) upd_same nz np
    have R2 := R1.after E2 M2
    unfold eDict at P
    refine pairs_of (g := gx X cl Wx) R2 ?_
    cases q : pairsD fs r m with
    | ok kws m1 =>
      rw [q] at P
      intro z3 ps H3 E3 R3 ⟨vs, a1, a2⟩
      have hh : z3.hold p := (E3.hs p (.inl rfl)).1
      have hp3 : H3 p = some (.dK []) := (E3.hs p (.inl rfl)).2.trans upd_same
      simp only [Dn.R.bind] at P
      split at P
      · rename_i c
        refine ⟨hp3, vs, a2, by rw [a1.length]; exact c, ?_⟩
        obtain ⟨M4, e4, n4, p4⟩ := R3.mem.unhold (o' := .dK (mergeK [] vs)) hh hp3
        have e14 : Ext z H (z3.un p) (upd H3 p (.dK (mergeK [] vs))) := by
          have e3 : Ext z H z3 H3 := (E1.trans E2).trans E3
          refine ⟨e3.e0.trans e4, fun b hb => ?_⟩
          have hne : b ≠ p := fun q => nh (q ▸ hb)
          exact ⟨⟨hne, (e3.hs b hb).1⟩, by rw [upd_ne hne]; exact (e3.hs b hb).2⟩
        have e5 : Ext (z3.un p) (upd H3 p (.dK (mergeK [] vs))) ((z3.un p).lay p) (upd H3 p (.dK (mergeK [] vs))) := ⟨⟨fun _ _ h => h, fun _ _ _ h => h, fun _ h => ⟨h, rfl⟩, fun n a h => by
          have hl := (List.getElem?_eq_some_iff.mp h).1
          show (z3.phi ++ [p])[n]? = some a
          rw [List.getElem?_append_left hl]
          exact h⟩, fun _ h => ⟨h, rfl⟩⟩
        obtain ⟨e6, M6⟩ := M4.lay (p := p) (c := .dct (mergeW [] kws)) n4 p4 ⟨fun q => q.1 rfl, _, upd_same, (mergeW_rel (kvs := []) (vs := []) (a1.ext0 e4) rfl).ext e5⟩
        refine P _ _ _ (e14.trans e5) ((R.after e14 M4).after e5 M6) ⟨p, ?_, rfl⟩
        show (z3.phi ++ [p])[m1.length]? = some p
        have hlen : z3.phi.length = m1.length := R3.mem.len
        rw [← hlen]
        simp
      · exact P.elim
    | exc x m1 => rw [q] at P; exact fun z' H' c d e R q => P z' H' c d ((E1.trans E2).trans e) R q
    | bad => rw [q] at P; exact P

/-! ### chains, is None -/
def eChain (o1 o2 : Mem → W → W → Option W) (fa fb fc : DE) : DE := fun r m => (fa r m).bind fun a m1 => (fb r m1).bind fun b m2 => match o1 m2 a b with
  | some (.bl true) => (fc r m2).bind fun c m3 => match o2 m3 b c with
    | some w => .ok w m3
    | none => .bad
  | some (.bl false) => .ok (.bl false) m2
  | _ => .bad
/-- an operator that changes nothing and tells a bool -/
def OpB (K : PySem.W.Frag) (cl : Nat → Addr) (o : Mem → W → W → Option W) (r : R2) : Prop := ∀ (z : Zn) (m : Mem) (H : Hp) (a b : W) (x y : V) (k : Bool) (Q : VK), MemOk K cl z m H → RW K z H a x → RW K z H b y → o m a b = some (.bl k) → Q (.bl k) H → r x y H Q
theorem tE_chain {g : Gx} {o1 o2 : Mem → W → W → Option W} {r1 r2 : R2} {fa fb fc : DE} {s : L2.St} {H : Hp} {Q : VK} (h1 : OpB g.K g.cl o1 r1) (h2 : OpW g.K g.cl o2 r2) (h : tE g (eChain o1 o2 fa fb fc) s H Q) : tChain r1 r2 (tE g fa) (tE g fb) (tE g fc) s H Q := by
  obtain ⟨r, m, z, R, P⟩ := h
  refine ⟨r, m, z, R, P.bind fun z1 a m1 x H1 E1 R1 ra P1 => ?_⟩
  refine ⟨r, m1, z1, R1, P1.bind fun z2 b m2 y H2 E2 R2 rb P2 => ?_⟩
  split at P2
  · rename_i q
    refine h1 z2 m2 H2 a b x y true _ R2.mem (RW.ext E2 ra) rb q ⟨true, rfl, ?_⟩
    rw [if_pos rfl]
    refine ⟨r, m2, z2, R2, P2.bind fun z3 c m3 u H3 E3 R3 rc P3 => ?_⟩
    cases q3 : o2 m3 b c with
    | none => rw [q3] at P3; exact P3.elim
    | some w => rw [q3] at P3; exact h2 z3 m3 H3 b c y u w Q R3.mem (RW.ext E3 rb) rc q3 fun z' v H' e M rw' => P3 z' v H' e (R3.after e M) rw'
  · rename_i q
    refine h1 z2 m2 H2 a b x y false _ R2.mem (RW.ext E2 ra) rb q ⟨false, rfl, ?_⟩
    rw [if_neg Bool.false_ne_true]
    exact Post.ret (b := V.bl false) P2 R2 rfl
  · exact P2.elim
theorem se_chain {op op' : CmpOp} {o1 o2 : Mem → W → W → Option W} {r1 r2 : R2} {c : Expr} {fa fb fc : DE} (ho : OpR X (compareOp op) r1) (hw : OpB X.K cl o1 r1) (ho' : OpR X (compareOp op') r2) (hw' : OpW X.K cl o2 r2) (ha : PE X a (tE (gx X cl Wx) fa)) (hb : PE X b (tE (gx X cl Wx) fb)) (hc : PE X c (tE (gx X cl Wx) fc))
    (hm : lastMarks [op, op'] [b, c] = false := by with_unfolding_all rfl) : PE X (.Compare a [op, op'] [b, c] pos) (tE (gx X cl Wx) (eChain o1 o2 fa fb fc)) :=
  (pe_chain ho ho' ha hb hc hm).imp fun s H Q h => tE_chain (g := gx X cl Wx) hw hw' h
theorem st_chain {op op' : CmpOp} {o1 o2 : Mem → W → W → Option W} {r1 r2 : R2} {c : Expr} {fa fb fc : DE} (ho : OpR X (compareOp op) r1) (hw : OpB X.K cl o1 r1) (ho' : OpR X (compareOp op') r2) (hw' : OpW X.K cl o2 r2) (ha : PE X a (tE (gx X cl Wx) fa)) (hb : PE X b (tE (gx X cl Wx) fb)) (hc : PE X c (tE (gx X cl Wx) fc))
    (hm : lastMarks [op, op'] [b, c] = false := by with_unfolding_all rfl) : PT X (.Compare a [op, op'] [b, c] pos) (tT (gx X cl Wx) (dTest (eChain o1 o2 fa fb fc))) :=
  (pt_chain ho ho' ha hb hc hm).imp fun s H Q h => by
    have h' := tT_test h
    unfold tTest at h' ⊢
    exact tE_chain (g := gx X cl Wx) hw hw' h'
theorem opb_int {K : PySem.W.Frag} {f : Int → Int → Bool} {h : Int → Int → Bool} (hf : ∀ i j, f i j = h i j) : OpB K cl (iOp fun i j => some (.bl (f i j))) (rI0 fun i j => .bl (h i j)) := by
  intro z m H a b x y k Q M ra rb e q
  cases a with
  | int i =>
    cases b with
    | int j =>
      simp only [iOp] at e
      cases e
      exact ⟨i, j, ra, rb, by rw [hf] at q; exact q⟩
    | _ => simp [iOp] at e
  | _ => simp [iOp] at e
theorem b_lt {K : PySem.W.Frag} : OpB K cl ltW (rI0 fun i j => .bl (decide (i < j))) := opb_int fun _ _ => rfl
theorem b_le {K : PySem.W.Frag} : OpB K cl leW (rI0 fun i j => .bl (decide (i ≤ j))) := opb_int fun _ _ => rfl
def isNonW (_ : Mem) (a b : W) : Option W := match b with
  | .non => match a with
    | .non => some (.bl true)
    | .raw _ => none
    | _ => some (.bl false)
  | _ => none
def notNonW (_ : Mem) (a b : W) : Option W := match b with
  | .non => match a with
    | .non => some (.bl false)
    | .raw _ => none
    | _ => some (.bl true)
  | _ => none
theorem non_dec {K : PySem.W.Frag} {z : Zn} {H : Hp} {a : W} {x : V} (h : RW K z H a x) (hr : ∀ u, a ≠ .raw u) : decide (x = .non) = (match a with | .non => true | _ => false) := by
  cases a with
  | non => cases h; rfl
  | bl _ => cases h; rfl
  | int _ => cases h; rfl
  | str _ => cases h; rfl
  | tup _ => obtain ⟨_, _, e, _⟩ := h; subst e; rfl
  | lst _ => obtain ⟨_, _, e, _⟩ := h; subst e; rfl
  | old _ => obtain ⟨_, _, e, _⟩ := h; subst e; rfl
  | ref _ => obtain ⟨_, _, e⟩ := h; subst e; rfl
  | raw u => exact absurd rfl (hr u)
theorem w_isNon {K : PySem.W.Frag} : OpW K cl isNonW (fun x y H Q => y = .non ∧ Q (.bl (decide (x = .non))) H) := by
  intro z m H a b x y w Q M ra rb e k
  cases b with
  | non =>
    refine ⟨rb, ?_⟩
    have hr : ∀ u, a ≠ .raw u := fun u q => by subst q; simp [isNonW] at e
    rw [non_dec ra hr]
    cases a <;> first | (simp only [isNonW] at e; cases e; exact k z _ H (Ext.refl _ _) M rfl) | simp [isNonW] at e
  | _ => simp [isNonW] at e
theorem w_notNon {K : PySem.W.Frag} : OpW K cl notNonW (fun x y H Q => y = .non ∧ Q (.bl (!decide (x = .non))) H) := by
  intro z m H a b x y w Q M ra rb e k
  cases b with
  | non =>
    refine ⟨rb, ?_⟩
    have hr : ∀ u, a ≠ .raw u := fun u q => by subst q; simp [notNonW] at e
    rw [non_dec ra hr]
    cases a <;> first | (simp only [notNonW] at e; cases e; exact k z _ H (Ext.refl _ _) M rfl) | simp [notNonW] at e
  | _ => simp [notNonW] at e

/-! ### while, by fuel -/
def whileL (c : DT) (body : DS) : Nat → Rho → Mem → RS
  | 0, _, _ => .bad
  | n + 1, r, m => (c r m).thenS r fun k m1 => if k = true then match body r m1 with
      | .next r2 m2 => whileL c body n r2 m2
      | .cont r2 m2 => whileL c body n r2 m2
      | .brk r2 m2 => .next r2 m2
      | q => q
    else .next r m1
def sWhile (n : Nat) (c : DT) (body : DS) : DS := fun r m => whileL c body n r m
theorem ss_while {c : Expr} {body : List Stmt} {fc : DT} {fb : DS} (n : Nat) (hp : PassesOwn (model X.prog X.w) X.A X.env X.xe) (hc : PT X c (tT (gx X cl Wx) fc)) (hb : PSs X body (tS (gx X cl Wx) fb)) : PS X (.While c body [] pos) (tS (gx X cl Wx) (sWhile n fc fb)) :=
  (ps_while hp hc hb).imp fun D s H ⟨r, m, z, R, P⟩ => by
    refine ⟨fun k s' H' => ∃ r' m' z', Rel X.K cl z' r' m' s' H' ∧ PostS (gx X cl Wx) z' H' (whileL fc fb k r' m') D, ⟨n, r, m, z, R, P⟩, ?_⟩
    rintro k s2 H2 ⟨r2, m2, z2, R2, P2⟩
    cases k with
    | zero => exact P2.elim
    | succ k =>
      refine ⟨r2, m2, z2, R2, P2.bind (rel := relB) fun z3 b m3 b' H3 E3 R3 rb P3 => ?_⟩
      have rb : b = b' := rb
      subst rb
      cases b with
      | false => rw [if_neg Bool.false_ne_true] at P3 ⊢; exact P3.next R3
      | true =>
        rw [if_pos rfl] at P3 ⊢
        refine ⟨fun s' H' => ∃ r' m' z', Rel X.K cl z' r' m' s' H' ∧ PostS (gx X cl Wx) z' H' (whileL fc fb k r' m') D, fun s' H' h => ⟨k, Nat.lt_succ_self k, h⟩, r2, m3, z3, R3, ?_⟩
        cases q5 : fb r2 m3 with
        | next r5 m5 => rw [q5] at P3; exact fun z' s' H' e5 R5 => ⟨r5, m5, z', R5, PostS.mono e5 P3⟩
        | cont r5 m5 => rw [q5] at P3; exact fun z' s' H' e5 R5 => ⟨r5, m5, z', R5, PostS.mono e5 P3⟩
        | brk r5 m5 => rw [q5] at P3; exact P3
        | ret u m5 => rw [q5] at P3; exact P3
        | exc x r5 m5 => rw [q5] at P3; exact P3
        | bad => rw [q5] at P3; exact P3
end
end Dn

/-! D8: enumerate of tuples and lists, zip, comprehensions with two clauses. -/
namespace Dn
open PySem PySem.Spec PyProof.Rows L2
open PySem.Sem (wp)
open PySem.AutoSeq1 (wpAny_loadPart')
/-! ### enumerate(a tuple) -/
theorem meets_enumerate_newT (l : Addr) (items : Array Value) (n : Nat) (dct : Option Addr) (sl : Array (Option Value)) :
    Meets (Builtin.«enumerate.__new__» ⟨[.type "enumerate", .ref l], []⟩) (fun _ R s => s.heap.get? l = some { cls := .type "tuple", dict := dct, data := .seq items n, slots := sl } ∧
      R (.ok (.ret (.ref (s.heap.push { cls := .type "tuple_iterator", data := .fields #[.ref l, .int 0 0] }).objs.size)))
        { s with heap := (s.heap.push { cls := .type "tuple_iterator", data := .fields #[.ref l, .int 0 0] }).push { cls := .type "enumerate", data := .fields #[.none, .bool false, .ref s.heap.objs.size, rawInt 0, .none, .none] } }) :=
  .of_wp fun prog w A R s h => by
    obtain ⟨hp, g, d, tk, os⟩ := s; obtain ⟨hl, h⟩ := h
    have hsub := sub_enumerate
    have hL : Heap.IsTuple (Shared.heap ⟨hp, g, d, tk, os⟩) l items := ⟨_, hl, rfl, n, rfl⟩
    wp_walk using wpAny_loadPart' hl
    refine wpAny_stack_any fun st => wpAny_pure ?_
    split
    · rename_i c _ _ _ _ _
      cases (c == Value.type "enumerate")
      · wp_walk using wpAny_loadPart' hl, wpAny_pyIter_tuple hL
        exact ⟨_, rfl, h⟩
      · wp_walk using wpAny_loadPart' hl, wpAny_pyIter_tuple hL
        exact ⟨_, rfl, h⟩
    · wp_walk using wpAny_loadPart' hl, wpAny_pyIter_tuple hL
      exact ⟨_, rfl, h⟩
section
variable {prog : Program} {w : World} {A : Around} {E : Value → Shared → Prop} {s : Shared}
theorem call_enumerate_tuple {l : Addr} {items : Array Value} {Q : Value → Shared → Prop} (hL : s.heap.IsTuple l items)
    (h : ∀ h', IsEnum h' (s.heap.objs.size + 1) s.heap.objs.size 0 .none → h'.IsTupleIter s.heap.objs.size l 0 → h'.objs.size = s.heap.objs.size + 2 →
      (∀ b o, s.heap.get? b = some o → h'.get? b = some o) → Q (.ref (s.heap.objs.size + 1)) { s with heap := h' }) :
    wpAny (model prog w) A (call (.type "enumerate") [.ref l]) Q E s := by
  obtain ⟨⟨c, dct, dt, sl⟩, hl, hc, n, hd⟩ := hL
  replace hc : c = .type "tuple" := hc
  replace hd : dt = .seq items n := hd
  subst hc hd
  refine callType_new F.called_enumerate (by decide) (F.typeCall_enumerate_1 _) (F.newCall_enumerate_1 _) (fun obj => F.args_object_init_2 obj _) F.entry_enumerate_new
    (meets_enumerate_newT l items n dct sl) ⟨hl, ?_⟩
  have hz : (s.heap.push { cls := .type "tuple_iterator", data := .fields #[.ref l, .int 0 0] }).objs.size = s.heap.objs.size + 1 := Heap.size_push ..
  show _ ∧ _
  rw [hz]
  have he : IsEnum ((s.heap.push { cls := .type "tuple_iterator", data := .fields #[.ref l, .int 0 0] }).push
      { cls := .type "enumerate", data := .fields #[.none, .bool false, .ref s.heap.objs.size, rawInt 0, .none, .none] }) (s.heap.objs.size + 1) s.heap.objs.size 0 .none := by
    have := Heap.get?_push_size (s.heap.push { cls := .type "tuple_iterator", data := .fields #[.ref l, .int 0 0] })
      (o := { cls := .type "enumerate", data := .fields #[.none, .bool false, .ref s.heap.objs.size, rawInt 0, .none, .none] }) rfl
    rw [hz] at this; exact this
  refine ⟨⟨_, he, rfl⟩, h _ he ⟨_, Heap.get?_push_of_some _ (Heap.get?_push_size _ rfl), rfl, rfl⟩ (by rw [Heap.size_push, hz]) fun b o x => Heap.get?_push_of_some _ (Heap.get?_push_of_some _ x)⟩
end
/-- the tuple at a, each item in a new pair -/
def IteT (K : PySem.W.Frag) (a : Addr) : It :=
  ⟨fun i H => ∃ (xs : List V) (x : V), SqT K H a xs ∧ xs[i]? = some x, fun i H v H' => ∃ T x, v = .ref T ∧ H T = none ∧ H' = upd H T (.tup [.int (i : Nat), x]) ∧ ∀ xs, SqT K H a xs → xs[i]? = some x, fun i H => ∃ xs : List V, SqT K H a xs ∧ xs.length = i⟩
theorem turn_enumT {P : Program} {w : World} {K : PySem.W.Frag} {elts : List Expr} {kk : Nat} {tpos : Pos} (a e it : Addr) (hai : a ≠ it) (hae : a ≠ e) :
    Turn P w K (.Tuple elts kk tpos) (IteT K a) [e, it] e (fun i h => (∃ old, IsEnum h e it ((i : Nat) : Int) old) ∧ h.IsTupleIter it a i ∧ e ≠ it) where
  mem := by simp
  obj := fun i h st b hb => by
    obtain ⟨⟨old, he⟩, ⟨o, ho, hc, hd⟩, _⟩ := st
    have e' : b = e ∨ b = it := by simpa using hb
    rcases e' with z | z
    · rw [z]; exact ⟨_, he, fun v q => nomatch q⟩
    · rw [z]; exact ⟨o, ho, fun v q => by rw [hd] at q; cases q⟩
  keep := fun i h h' st k => let ⟨⟨old, he⟩, hi, hne⟩ := st; ⟨⟨old, k e (by simp) _ he⟩, hi.at fun o q => k it (by simp) o q, hne⟩
  item := by
    intro X hP hw hK hc i pins s σ H E I hf st hg
    subst hP hw hK
    obtain ⟨⟨old, he⟩, hit, hne⟩ := st
    obtain ⟨xs, x, hq, hx⟩ := hg
    obtain ⟨its, rv, p, hz⟩ := I.tuple hq
    obtain ⟨u, hu, ru⟩ := rv.get hx
    have hel : e < s.heap.objs.size := Heap.lt_size he
    have hil : it < s.heap.objs.size := by obtain ⟨_, q, _⟩ := hit; exact Heap.lt_size q
    have hlt : i < its.toArray.size := by
      rw [List.size_toArray]
      exact (List.getElem?_eq_some_iff.mp hu).1
    refine wpAny_pyNext_enum_itemD (Draws.tuple (A := X.A.in1) (I.ok.hd hc) it a hai its.toArray) he ⟨hit, p⟩ hlt hne (by simp; exact ⟨hne, fun q => hae q.symm⟩) fun y h' tk hy ho hit' hT hsz hk => ?_
    have hy : y = u := by
      have h1 : its.toArray[i]? = some y := hy
      have h2 : its.toArray[i]? = some u := by simpa using hu
      rw [h2] at h1
      exact (Option.some.inj h1).symm
    subst hy
    refine ⟨_, rfl, wpAny_letOwnedTupleGo_enum (s := { s with heap := h', toks := tk + 1 }) ho fun h'' he' sb => ?_⟩
    have hT2 : h''.get? s.heap.objs.size = some { cls := .type "tuple", data := .seq #[.int i tk, y] } := (sb.2 _ (Nat.ne_of_gt hel)).trans hT
    have new : ObjOk X.prog X.w (upd H s.heap.objs.size (.tup [.int (i : Nat), x])) h'' s.heap.objs.size (.tup [.int (i : Nat), x]) :=
      ⟨by show 2 ≤ sizeLine; decide, [.int i tk, y], .cons ⟨_, rfl⟩ (.cons ru .nil), ⟨_, hT2, rfl, _, rfl⟩⟩
    have I1 : Inv X pins σ (upd H s.heap.objs.size (.tup [.int (i : Nat), x])) { s with heap := h'', toks := tk + 1 } :=
      I.turnedNew (ch := [e, it]) (fun b ob hb q => (sb.2 b (fun z => hb (by simp [z]))).trans (hk b ob (fun z => hb (by simp [z])) (fun z => hb (by simp [z])) q)) hf (Nat.le_refl _) new
    refine ⟨.ref s.heap.objs.size, _, I1, rfl, ⟨_, x, rfl, I.hok.fresh (Nat.le_refl _), rfl, fun ys hy => by rw [I.tuple_inj hy hq]; exact hx⟩, ⟨⟨y, ?_⟩, hit'.1.at fun o q => (sb.2 it (Ne.symm hne)).trans q, hne⟩, fun b hb => ?_⟩
    · have e1 : ((i + 1 : Nat) : Int) = (i : Int) + 1 := by omega
      rw [e1]; exact he'
    · have hb' : b < s.heap.objs.size := by
        have e' : b = e ∨ b = it := by simpa using hb
        rcases e' with z | z
        · rw [z]; exact hel
        · rw [z]; exact hil
      rw [upd_ne (Nat.ne_of_lt hb')]
      exact (hf b hb).1
  done := by
    intro X hP hw hK hc i pins s σ H E I hf st hg
    subst hP hw hK
    obtain ⟨⟨old, he⟩, hit, hne⟩ := st
    obtain ⟨xs, hq, hx⟩ := hg
    obtain ⟨its, rv, p, hz⟩ := I.tuple hq
    obtain ⟨f0, f1, f2, f3, f4, f5⟩ := hf it (by simp)
    have hl := rv.length
    have hs : its.toArray.size = i := by rw [List.size_toArray]; omega
    exact wpAny_pyNext_enum_endD (Draws.tuple (A := X.A.in1) (I.ok.hd hc) it a hai its.toArray) he (by rw [hs]; exact ⟨hit, p⟩) fun h' eb => ⟨rfl, I.turned (t' := s.toks) (fun b o hb q => eb b o hb q) f0 f1 f3 f4 f5⟩
  self := fun A i s Q E st h => let ⟨⟨_, he⟩, _⟩ := st; wpAny_pyIter_enum he h
def iEnumT (K : PySem.W.Frag) (ta : TA) : TI := fun σ H R => ta σ H fun vs H1 => ∃ a xs, vs = [.ref a] ∧ SqT K H1 a xs ∧ R (IteT K a) H1
theorem pi_enumT {X : Cx} {e : Expr} {ta : TA} {p pos tpos : Pos} {elts : List Expr} {kk : Nat} (hg : Gl X "enumerate") (hm : X.mg "enumerate" = none) (ha : PA X [e] ta) (hs : starEach [e] X.env = [(false, eval e X.env)] := by rfl) :
    PI X (.Tuple elts kk tpos) (.Call (.Name "enumerate" p) [e] [] pos) (iEnumT X.K ta) := by
  refine ⟨fun pins s σ H R I h => ?_⟩
  refine Call_ (ld_blt I hg hm boot_enumerate (PyProof.Rows.callWith_type1 (thn (ha.run pos pins s σ H _ I h) fun us s1 ⟨vs, H1, I1, r1, q1⟩ => ?_) hs rfl))
  obtain ⟨a, xs, ex, hq, q⟩ := q1
  subst ex
  cases r1 with
  | cons r rr =>
    cases rr
    cases r
    obtain ⟨its, rv, p', hz⟩ := I1.tuple hq
    have hlt : a < s1.heap.objs.size := p'.lt
    refine call_enumerate_tuple p' fun h' he hit hsz hk => wpAny_pyIter_enum he ?_
    have I2 : Inv X pins σ H1 { s1 with heap := h' } := I1.kept (t' := s1.toks) hk
    refine ⟨s1.heap.objs.size + 1, [s1.heap.objs.size + 1, s1.heap.objs.size], _, _, H1, rfl, I2, turn_enumT a (s1.heap.objs.size + 1) s1.heap.objs.size (Nat.ne_of_lt hlt) (Nat.ne_of_lt (Nat.lt_succ_of_lt hlt)), ⟨⟨.none, he⟩, hit, Nat.succ_ne_self _⟩, fun b hb => ?_, q⟩
    have e' : b = s1.heap.objs.size + 1 ∨ b = s1.heap.objs.size := by simpa using hb
    have hle : s1.heap.objs.size ≤ b := by
      rcases e' with z | z
      · rw [z]; exact Nat.le_add_right _ _
      · rw [z]; exact Nat.le_refl _
    exact I1.fpOk hle (I1.hok.fresh hle)

section
variable {X : Cx} {cl : Nat → Addr} {Wx : WX} {e a b : Expr} {pos : Pos}
/-- enumerate(e) -/
def numbered (i : Nat) : List W → List W
  | [] => []
  | w :: ws => .tup [.int (i : Nat), w] :: numbered (i + 1) ws
theorem numbered_len : ∀ (i : Nat) (ws : List W), (numbered i ws).length = ws.length
  | _, [] => rfl
  | i, _ :: ws => by rw [numbered, List.length_cons, List.length_cons, numbered_len]
theorem numbered_get : ∀ (j i : Nat) (ws : List W) (w : W), (numbered j ws)[i]? = some w → ∃ u, ws[i]? = some u ∧ w = .tup [.int ((j + i : Nat) : Int), u]
  | _, _, [], _, h => by simp [numbered] at h
  | j, 0, u :: ws, w, h => by simp [numbered] at h; exact ⟨u, rfl, by simpa using h.symm⟩
  | j, i + 1, u :: ws, w, h => by
    rw [numbered, List.getElem?_cons_succ] at h
    obtain ⟨v, h1, h2⟩ := numbered_get (j + 1) i ws w h
    exact ⟨v, by simpa using h1, by rw [h2]; congr 3; omega⟩
def iEnumW (f : DE) : DA := fun r m => (f r m).bind fun w m1 => match w with
  | .tup xs => .ok (numbered 0 xs) m1
  | .lst xs => .ok (numbered 0 xs) m1
  | .old xs => .ok (numbered 0 xs) m1
  | _ => .bad
theorem walks_eT {K : PySem.W.Frag} {z : Zn} {H : Hp} {ws : List W} {vs : List V} {p : Addr} (hl : vs.length ≤ sizeLine) (h : SqT K H p vs) (q : RWs K z H ws vs) : Walks K z H (numbered 0 ws) (IteT K p) := ⟨by rw [numbered_len, ← q.length]; exact hl, fun z2 H2 e i => by
  have h2 := e.sqT h
  have q2 := RWs.ext0 e q
  rw [numbered_len]
  refine ⟨fun hi => ⟨vs, h2, by rw [q.length]; exact hi.symm⟩, fun w hw => ?_⟩
  obtain ⟨u, e1, e2⟩ := numbered_get 0 i ws w hw
  obtain ⟨v, e3, e4⟩ := q2.get e1
  refine ⟨⟨vs, v, h2, e3⟩, fun x H3 y => ?_⟩
  obtain ⟨T, x', y1, y2, y3, y4⟩ := y
  subst y1 y3
  have hv := y4 vs h2
  rw [e3] at hv
  cases hv
  refine ⟨upd_same_of y2, fun z3 e5 => ?_⟩
  rw [e2]
  refine ⟨T, _, rfl, SqT.of upd_same, ⟨_, _, rfl, ?_, _, _, rfl, e4.ext0 e5, rfl⟩⟩
  show V.int _ = V.int _
  congr 1
  omega⟩
theorem walks_eL {K : PySem.W.Frag} {z : Zn} {H : Hp} {ws : List W} {vs : List V} {p : Addr} (hl : vs.length ≤ sizeLine) (h : ∀ z2 H2, Ext0 z H z2 H2 → SqL K H2 p vs) (q : RWs K z H ws vs) : Walks K z H (numbered 0 ws) (Ite K p) := ⟨by rw [numbered_len, ← q.length]; exact hl, fun z2 H2 e i => by
  have h2 := h z2 H2 e
  have q2 := RWs.ext0 e q
  rw [numbered_len]
  refine ⟨fun hi => ⟨vs, h2, by rw [q.length]; exact Nat.le_of_eq hi.symm⟩, fun w hw => ?_⟩
  obtain ⟨u, e1, e2⟩ := numbered_get 0 i ws w hw
  obtain ⟨v, e3, e4⟩ := q2.get e1
  refine ⟨⟨vs, v, h2, e3⟩, fun x H3 y => ?_⟩
  obtain ⟨T, x', y1, y2, y3, y4⟩ := y
  subst y1 y3
  have hv := y4 vs h2
  rw [e3] at hv
  cases hv
  refine ⟨upd_same_of y2, fun z3 e5 => ?_⟩
  rw [e2]
  refine ⟨T, _, rfl, SqT.of upd_same, ⟨_, _, rfl, ?_, _, _, rfl, e4.ext0 e5, rfl⟩⟩
  show V.int _ = V.int _
  congr 1
  omega⟩
theorem si_enum {elts : List Expr} {kk : Nat} {tpos p : Pos} {f : DE} (hm : X.mg "enumerate" = none) (h : PE X e (tE (gx X cl Wx) f)) (hg : Gl X "enumerate" := by rfl) (hs : starEach [e] X.env = (false, eval e X.env) :: starEach [] X.env := by rfl) :
    PI X (.Tuple elts kk tpos) (.Call (.Name "enumerate" p) [e] [] pos) (tI (gx X cl Wx) (iEnumW f)) := by
  have hs' : starEach [e] X.env = [(false, eval e X.env)] := hs
  refine ⟨fun pins sh s H Rr I h0 => ?_⟩
  obtain ⟨r, m, z, R, P⟩ := h0
  cases q : f r m with
  | ok w m1 =>
    unfold iEnumW at P
    rw [q] at P
    cases w with
    | tup ws =>
      refine (pi_inv (pi_enumT hg hm (pa_cons h pa_nil hs) hs')).run pins sh s H Rr I ⟨r, m, z, R, ?_⟩
      rw [q]
      intro z' b H' e1 R1 ⟨p, vs, a1, a2, a3⟩
      exact ⟨p, vs, by rw [a1], a2, fun ⟨_, _, I1⟩ => P z' _ H' e1 R1 (walks_eT (let ⟨_, _, _, hz⟩ := I1.tuple a2; hz) a2 a3)⟩
    | lst ws =>
      refine (pi_inv (pi_enum hg hm (pa_cons h pa_nil hs) hs')).run pins sh s H Rr I ⟨r, m, z, R, ?_⟩
      rw [q]
      intro z' b H' e1 R1 ⟨p, vs, a1, a2, a3⟩
      exact ⟨p, vs, by rw [a1], SqL.of a2.2, fun ⟨_, _, I1⟩ => P z' _ H' e1 R1 (walks_eL (let ⟨_, _, _, hz⟩ := I1.list (SqL.of a2.2); hz) (fun z2 H2 e2 => SqL.of ((e2.zs p a2.1).2.trans a2.2)) a3)⟩
    | old ws =>
      refine (pi_inv (pi_enum hg hm (pa_cons h pa_nil hs) hs')).run pins sh s H Rr I ⟨r, m, z, R, ?_⟩
      rw [q]
      intro z' b H' e1 R1 ⟨p, vs, a1, a2, a3⟩
      exact ⟨p, vs, by rw [a1], a2.sq, fun ⟨_, _, I1⟩ => P z' _ H' e1 R1 (walks_eL (let ⟨_, _, _, hz⟩ := I1.list a2.sq; hz) (fun z2 H2 e2 => (e2.oldL a2).sq) a3)⟩
    | _ => exact P.elim
  | exc x m1 =>
    unfold iEnumW at P
    rw [q] at P
    refine (pi_enumT hg hm (pa_cons h pa_nil hs) hs').run pins sh s H Rr I ⟨r, m, z, R, ?_⟩
    rw [q]
    exact P
  | bad =>
    unfold iEnumW at P
    rw [q] at P
    exact P.elim
/-- zip(a, b), two tuples or two settled lists -/
def pairsW : List W → List W → List W
  | x :: xs, y :: ys => .tup [x, y] :: pairsW xs ys
  | _, _ => []
theorem pairsW_get : ∀ (xs ys : List W) (i : Nat) (w : W), (pairsW xs ys)[i]? = some w → ∃ u v, xs[i]? = some u ∧ ys[i]? = some v ∧ w = .tup [u, v]
  | [], _, _, _, h => by simp [pairsW] at h
  | _ :: _, [], _, _, h => by simp [pairsW] at h
  | x :: xs, y :: ys, 0, w, h => by simp [pairsW] at h; exact ⟨x, y, rfl, rfl, h.symm⟩
  | x :: xs, y :: ys, i + 1, w, h => by
    rw [pairsW, List.getElem?_cons_succ] at h
    obtain ⟨u, v, h1, h2, h3⟩ := pairsW_get xs ys i w h
    exact ⟨u, v, by simpa using h1, by simpa using h2, h3⟩
theorem pairsW_len : ∀ (xs ys : List W), (pairsW xs ys).length = min xs.length ys.length
  | [], _ => by simp [pairsW]
  | _ :: _, [] => by simp [pairsW]
  | _ :: xs, _ :: ys => by rw [pairsW, List.length_cons, pairsW_len, List.length_cons, List.length_cons]; omega
def iZipW (fa fb : DE) : DA := fun r m => (fa r m).bind fun u m1 => (fb r m1).bind fun v m2 => match u, v with
  | .tup xs, .tup ys => .ok (pairsW xs ys) m2
  | .lst xs, .lst ys => .ok (pairsW xs ys) m2
  | _, _ => .bad
theorem si_zip {elts : List Expr} {kk : Nat} {tpos p : Pos} {fa fb : DE} (hm : X.mg "zip" = none) (ha : PE X a (tE (gx X cl Wx) fa)) (hb : PE X b (tE (gx X cl Wx) fb)) (hg : Gl X "zip" := by rfl) (hs : starEach [a, b] X.env = (false, eval a X.env) :: starEach [b] X.env := by rfl) (hs2 : starEach [b] X.env = (false, eval b X.env) :: starEach [] X.env := by rfl) (hpl : (backTo pos (starEach [b] X.env)).any (·.1) = false := by rfl) :
    PI X (.Tuple elts kk tpos) (.Call (.Name "zip" p) [a, b] [] pos) (tI (gx X cl Wx) (iZipW fa fb)) :=
  (pi_inv (RZ.pi_zipA hg hm (pa_cons ha (pa_cons hb pa_nil hs2) hs) hs hpl)).imp fun s H Rr ⟨r, m, z, R, P⟩ => by
    refine ⟨r, m, z, R, P.bind fun z1 u m1 x H1 E1 R1 r1 P1 => ?_⟩
    refine ⟨r, m1, z1, R1, P1.bind fun z2 v m2 y H2 E2 R2 r2 P2 => ?_⟩
    replace r1 := RW.ext E2 r1
    split at P2
    · rename_i xs ys
      obtain ⟨p, vs, a1, a2, a3⟩ := r1
      obtain ⟨p2, us, b1, b2, b3⟩ := r2
      refine ⟨p, p2, vs, us, by rw [a1, b1], .inr ⟨a2, b2, fun ⟨_, _, I1⟩ => P2 z2 _ H2 (Ext.refl _ _) R2 ⟨?_, fun z3 H3 e3 i => ?_⟩⟩⟩
      · obtain ⟨_, _, _, hz⟩ := I1.tuple a2
        rw [pairsW_len, ← a3.length]
        exact Nat.le_trans (Nat.min_le_left _ _) hz
      · have h3 := e3.sqT a2
        have h4 := e3.sqT b2
        refine ⟨fun hi => ⟨vs, us, h3, h4, ?_⟩, fun w hw => ?_⟩
        · rw [pairsW_len, ← a3.length, ← b3.length] at hi
          omega
        · obtain ⟨u1, u2, g1, g2, g3⟩ := pairsW_get xs ys i w hw
          obtain ⟨w1, k1, k2⟩ := (RWs.ext0 e3 a3).get g1
          obtain ⟨w2, k3, k4⟩ := (RWs.ext0 e3 b3).get g2
          refine ⟨⟨vs, us, w1, w2, h3, h4, k1, k3⟩, fun x' H4 y' => ?_⟩
          obtain ⟨T, x1, x2, y1, y2, y3, y4, y5⟩ := y'
          subst y1 y3
          have q1 := y4 vs h3
          have q2 := y5 us h4
          rw [k1] at q1
          rw [k3] at q2
          cases q1
          cases q2
          refine ⟨upd_same_of y2, fun z4 e5 => ?_⟩
          rw [g3]
          exact ⟨T, _, rfl, SqT.of upd_same, ⟨_, _, rfl, k2.ext0 e5, _, _, rfl, k4.ext0 e5, rfl⟩⟩
    · rename_i xs ys
      obtain ⟨p, vs, a1, a2, a3⟩ := r1
      obtain ⟨p2, us, b1, b2, b3⟩ := r2
      refine ⟨p, p2, vs, us, by rw [a1, b1], .inl ⟨SqL.of a2.2, SqL.of b2.2, fun ⟨_, _, I1⟩ => P2 z2 _ H2 (Ext.refl _ _) R2 ⟨?_, fun z3 H3 e3 i => ?_⟩⟩⟩
      · obtain ⟨_, _, _, hz⟩ := I1.list (SqL.of a2.2)
        rw [pairsW_len, ← a3.length]
        exact Nat.le_trans (Nat.min_le_left _ _) hz
      · have h3 : SqL X.K H3 p vs := SqL.of ((e3.zs p a2.1).2.trans a2.2)
        have h4 : SqL X.K H3 p2 us := SqL.of ((e3.zs p2 b2.1).2.trans b2.2)
        refine ⟨fun hi => ⟨vs, us, h3, h4, ?_⟩, fun w hw => ?_⟩
        · rw [pairsW_len, ← a3.length, ← b3.length] at hi
          omega
        · obtain ⟨u1, u2, g1, g2, g3⟩ := pairsW_get xs ys i w hw
          obtain ⟨w1, k1, k2⟩ := (RWs.ext0 e3 a3).get g1
          obtain ⟨w2, k3, k4⟩ := (RWs.ext0 e3 b3).get g2
          refine ⟨⟨vs, us, w1, w2, h3, h4, k1, k3⟩, fun x' H4 y' => ?_⟩
          obtain ⟨T, x1, x2, y1, y2, y3, y4, y5⟩ := y'
          subst y1 y3
          have q1 := y4 vs h3
          have q2 := y5 us h4
          rw [k1] at q1
          rw [k3] at q2
          cases q1
          cases q2
          refine ⟨upd_same_of y2, fun z4 e5 => ?_⟩
          rw [g3]
          exact ⟨T, _, rfl, SqT.of upd_same, ⟨_, _, rfl, k2.ext0 e5, _, _, rfl, k4.ext0 e5, rfl⟩⟩
    · exact P2.elim
end
end Dn

/-! D9: list comprehensions with two clauses. -/
namespace Dn
open PySem PySem.Spec PyProof.Rows L2
def chkL (xs : List W) (m : Mem) : R (List W) := if xs.length ≤ 16777216 then .ok xs m else .bad
def compL2 (t : DG) (c : DT) (src1 : DA) (t1 : DG) (c1 : DT) (f : DE) (vs vs1 : List Nat) : List W → Rho → Mem → R (List W)
  | [], _, m => .ok [] m
  | w :: ws, r, m => match t w (wipeR r vs) with
    | none => .bad
    | some r1 => match c r1 m with
      | .ok true m1 => match src1 r1 m1 with
        | .ok us m2 => (compL t1 c1 f vs1 us r1 m2).bind fun ys m3 => (compL2 t c src1 t1 c1 f vs vs1 ws r m3).bind fun zs m4 => .ok (ys ++ zs) m4
        | _ => .bad
      | .ok false m1 => compL2 t c src1 t1 c1 f vs vs1 ws r m1
      | _ => .bad
def aComp2 (src : DA) (t : DG) (c : DT) (src1 : DA) (t1 : DG) (c1 : DT) (f : DE) (vs vs1 : List Nat) : DA := fun r m => (src r m).bind fun ws m1 => (compL2 t c src1 t1 c1 f vs vs1 ws r m1).bind chkL
section
variable {t t1 : DG} {c c1 : DT} {src1 : DA} {f : DE} {vs vs1 : List Nat}
theorem compL_calm : ∀ (ws : List W) (r : Rho) (m : Mem), compL t c f vs ws r m = .bad ∨ ∃ ys m', compL t c f vs ws r m = .ok ys m'
  | [], r, m => .inr ⟨[], m, rfl⟩
  | w :: ws, r, m => by
    simp only [compL]
    split
    · exact .inl rfl
    · split
      · split
        · rename_i y m2 _
          rcases compL_calm ws r m2 with h | ⟨ys, m', h⟩
          · rw [h]; exact .inl rfl
          · rw [h]; exact .inr ⟨_, _, rfl⟩
        · exact .inl rfl
      · exact compL_calm ws r _
      · exact .inl rfl
theorem compL2_calm : ∀ (ws : List W) (r : Rho) (m : Mem), compL2 t c src1 t1 c1 f vs vs1 ws r m = .bad ∨ ∃ ys m', compL2 t c src1 t1 c1 f vs vs1 ws r m = .ok ys m'
  | [], r, m => .inr ⟨[], m, rfl⟩
  | w :: ws, r, m => by
    simp only [compL2]
    split
    · exact .inl rfl
    · split
      · split
        · rename_i us m2 _
          rcases compL_calm (t := t1) (c := c1) (f := f) (vs := vs1) us _ m2 with h | ⟨ys, m', h⟩
          · rw [h]; exact .inl rfl
          · rw [h]
            simp only [Dn.R.bind]
            rcases compL2_calm ws r m' with h2 | ⟨zs, m4, h2⟩
            · rw [h2]; exact .inl rfl
            · rw [h2]; exact .inr ⟨_, _, rfl⟩
        · exact .inl rfl
      · exact compL2_calm ws r _
      · exact .inl rfl
end
section
variable {g : Gx} {src : DA} {t t1 : DG} {js js1 vs vs1 : List Nat} {c c1 : DT} {src1 : DA} {f : DE} {s : L2.St} {H : Hp} {Q : VK}
theorem tLc2_of (hj : ∀ i ∈ js, i ∈ vs) (hj1 : ∀ i ∈ js1, i ∈ vs1) (h : tN g (aComp2 src t c src1 t1 c1 f vs vs1) s H Q) :
    tLc2 (tI g src) (tGt g.K g.cl js t) (tT ⟨g.K, g.cl, noW⟩ c) (tI ⟨g.K, g.cl, noW⟩ src1) (tGt g.K g.cl js1 t1) (tT ⟨g.K, g.cl, noW⟩ c1) (tE ⟨g.K, g.cl, noW⟩ f) vs vs1 s H Q := by
  obtain ⟨r, m, z, Rl, P⟩ := h
  refine ⟨r, m, z, Rl, P.bind (rel := Walks g.K) fun z1 ws m1 J H1 E1 R1 r1 P1 D hD => ?_⟩
  have nz := R1.mem.z_ne hD
  have nh := R1.mem.h_ne hD
  have np := R1.mem.p_ne hD
  have hs1 := upd_same_of (o := .lst []) hD
  -- what is left behind i items, as being made so far
  let K2 : Nat → List W → Mem → R (List W) := fun i as m' => (compL2 t c src1 t1 c1 f vs vs1 (ws.drop i) r m').bind fun ys m3 => chkL (as ++ ys) m3
  have K2len : ∀ i as m', K2 i as m' = .bad ∨ ∃ xs m3, K2 i as m' = .ok xs m3 ∧ as.length ≤ 16777216 := fun i as m' => by
    show ((compL2 t c src1 t1 c1 f vs vs1 (ws.drop i) r m').bind fun ys m3 => chkL (as ++ ys) m3) = .bad ∨ ∃ xs m3, ((compL2 t c src1 t1 c1 f vs vs1 (ws.drop i) r m').bind fun ys m3 => chkL (as ++ ys) m3) = .ok xs m3 ∧ as.length ≤ 16777216
    rcases compL2_calm (t := t) (c := c) (src1 := src1) (t1 := t1) (c1 := c1) (f := f) (vs := vs) (vs1 := vs1) (ws.drop i) r m' with q | ⟨ys, m3, q⟩
    · rw [q]; exact .inl rfl
    · rw [q]
      simp only [Dn.R.bind, chkL]
      by_cases hl : (as ++ ys).length ≤ 16777216
      · rw [if_pos hl]
        exact .inr ⟨_, _, rfl, by rw [List.length_append] at hl; omega⟩
      · rw [if_neg hl]; exact .inl rfl
  let Iv : Nat → List W → Hp → Mem → Zn → List V → Prop := fun i as H' m' z' acc => Rel g.K g.cl z' r m' s H' ∧ Ext z1 H1 z' H' ∧ (¬ z'.Z D ∧ ¬ z'.hold D ∧ D ∉ z'.phi) ∧ H' D = some (.lst acc) ∧ RWs g.K z' H' as acc ∧ Post g (relNew g.K) z' H' r s (K2 i as m') Q
  refine ⟨fun i k H' => k = ws.length - i ∧ i ≤ ws.length ∧ ∃ m' z' as acc, Iv i as H' m' z' acc, ⟨ws.length, by simp, Nat.zero_le _, m1, z1, [], [], R1.same hs1, R1.mem.extS hs1, ⟨nz, nh, np⟩, upd_same, rfl, ?_⟩, ?_⟩
  · refine Post.mono (R1.mem.extS hs1) ?_
    have e : K2 0 [] m1 = (compL2 t c src1 t1 c1 f vs vs1 ws r m1).bind chkL := by
      show ((compL2 t c src1 t1 c1 f vs vs1 (ws.drop 0) r m1).bind fun ys m3 => chkL ([] ++ ys) m3) = _
      rw [List.drop_zero]
      cases compL2 t c src1 t1 c1 f vs vs1 ws r m1 <;> rfl
    rw [e]
    exact P1
  · rintro i k H2 ⟨rfl, hi2, m2, z2, as, acc, R2, E2, ⟨y1, y2, y3⟩, hD2, ra, P2⟩
    obtain ⟨hstop, hgo⟩ := r1.2 z2 H2 E2.e0 i
    by_cases hlt : i < ws.length
    · obtain ⟨g1, g2⟩ := hgo ws[i] (List.getElem?_eq_getElem hlt)
      have P2 : Post g (relNew g.K) z2 H2 r s ((compL2 t c src1 t1 c1 f vs vs1 (ws.drop i) r m2).bind fun ys m3 => chkL (as ++ ys) m3) Q := P2
      rw [List.drop_eq_getElem_cons hlt] at P2
      refine .inr ⟨g1, fun H' => ∃ m' z' as acc, Iv (i + 1) as H' m' z' acc, fun H' h => ⟨ws.length - (i + 1), by omega, rfl, hlt, h⟩, fun x H3 y => ?_⟩
      obtain ⟨sm, q3⟩ := g2 x H3 y
      have E3 := R2.mem.extS sm
      have R3 := R2.same sm
      have hD3 : H3 D = some (.lst acc) := sm _ _ hD2
      obtain ⟨M4, E4⟩ := R3.mem.hold hD3 y1 y3
      have R4 : Rel g.K g.cl (z2.hd D) (wipeR r vs) m2 (wipe s vs) H3 := ⟨wipe_ok (R3.slots.ext E4) vs, M4⟩
      refine ⟨ws[i], wipeR r vs, m2, z2.hd D, R4, (q3 z2 E3.e0).ext E4, ?_⟩
      simp only [compL2] at P2
      cases q4 : t ws[i] (wipeR r vs) with
      | none => rw [q4] at P2; exact P2.elim
      | some r4 =>
        rw [q4] at P2
        simp only at P2
        refine fun s4 R4' ag => ⟨wipe_agree ag hj, r4, m2, z2.hd D, R4', ?_⟩
        -- z5 holds D, whose list is whatever it is; all else goes on from z2
        let Go : Zn → Hp → Prop := fun z5 H5 => Ext0 z2 H2 z5 H5 ∧ (∀ a, z2.hold a → z5.hold a ∧ H5 a = H2 a) ∧ z5.hold D
        have go4 : Go (z2.hd D) H3 := ⟨(E3.trans E4).e0, (E3.trans E4).hs, .inl rfl⟩
        have goE : ∀ {z5 z6 : Zn} {H5 H6 : Hp}, Go z5 H5 → Ext z5 H5 z6 H6 → Go z6 H6 := fun {z5 z6 H5 H6} a b => ⟨a.1.trans b.e0, fun d hd => ⟨(b.hs d (a.2.1 d hd).1).1, (b.hs d (a.2.1 d hd).1).2.trans (a.2.1 d hd).2⟩, (b.hs D a.2.2).1⟩
        have hne : ∀ a, z2.hold a → a ≠ D := fun a ha q => by rw [q] at ha; exact y2 ha
        -- D grows while it is held
        have grow : ∀ {z5 : Zn} {H5 : Hp} {m5 : Mem} {r5 : Rho} {s5 : L2.St} {old : List V} (new : List V), Go z5 H5 → H5 D = some (.lst old) → Rel g.K g.cl z5 r5 m5 s5 H5 → Go z5 (upd H5 D (.lst new)) ∧ Ext0 z5 H5 z5 (upd H5 D (.lst new)) ∧ Rel g.K g.cl z5 r5 m5 s5 (upd H5 D (.lst new)) := by
          intro z5 H5 m5 r5 s5 old new go5 h5 R5
          obtain ⟨M6, e6, n6, p6⟩ := R5.mem.unhold (o' := .lst new) go5.2.2 h5
          have e7 : Ext0 z5 H5 z5 (upd H5 D (.lst new)) := ⟨e6.tups, e6.frzs, e6.zs, e6.ph⟩
          obtain ⟨M8, _⟩ := M6.hold (p := D) upd_same n6 p6
          have hz : ((z5.un D).hd D) = z5 := by
            show Zn.mk _ _ _ = z5
            have : (fun a => a = D ∨ a ≠ D ∧ z5.hold a) = z5.hold := by
              funext a
              refine propext ⟨?_, fun h => ?_⟩
              · rintro (q | q)
                · rw [q]; exact go5.2.2
                · exact q.2
              · by_cases ha : a = D
                · exact .inl ha
                · exact .inr ⟨ha, h⟩
            rw [this]
          rw [hz] at M8
          refine ⟨⟨go5.1.trans e7, fun a ha => ⟨(go5.2.1 a ha).1, by rw [upd_ne (hne a ha)]; exact (go5.2.1 a ha).2⟩, go5.2.2⟩, e7, R5.slots.ext0 e7, M8⟩
        have done : ∀ {z5 : Zn} {H5 : Hp} {m5 : Mem} {r5 : Rho} {s5 : L2.St} {acc' : List V} {as' : List W}, Go z5 H5 → H5 D = some (.lst acc') → Rel g.K g.cl z5 r5 m5 s5 H5 → RWs g.K z5 H5 as' acc' → Post g (relNew g.K) z2 H2 r s (K2 (i + 1) as' m5) Q →
            ∃ m' z' as acc, Iv (i + 1) as H5 m' z' acc := by
          intro z5 H5 m5 r5 s5 acc' as' go5 h5 R5 ra' P5
          obtain ⟨M6, e6, n6, p6⟩ := R5.mem.unhold (o' := .lst acc') go5.2.2 h5
          have hid : upd H5 D (.lst acc') = H5 := by
            funext a
            by_cases ha : a = D
            · rw [ha, upd_same, h5]
            · exact upd_ne ha
          rw [hid] at M6 e6
          have e26 : Ext z2 H2 (z5.un D) H5 := ⟨go5.1.trans e6, fun a ha => ⟨⟨hne a ha, (go5.2.1 a ha).1⟩, (go5.2.1 a ha).2⟩⟩
          exact ⟨m5, z5.un D, as', acc', ⟨R2.slots.ext e26, M6⟩, E2.trans e26, ⟨n6, fun q => q.1 rfl, p6⟩, h5, RWs.ext0 e6 ra', Post.mono e26 P5⟩
        cases q5 : c r4 m2 with
        | ok b m5 =>
          rw [q5] at P2
          intro z5 b' H5 e5 R5 rb
          have rb : b = b' := rb
          subst rb
          have go5 := goE go4 e5
          have hx5 : H5 D = some (.lst acc) := (e5.hs D (.inl rfl)).2.trans hD3
          have ra5 : RWs g.K z5 H5 as acc := RWs.ext0 go5.1 ra
          cases b with
          | true =>
            simp only at P2
            rw [if_pos rfl]
            refine ⟨r4, m5, z5, R5, ?_⟩
            cases q6 : src1 r4 m5 with
            | ok us m6 =>
              rw [q6] at P2
              simp only at P2
              intro z6 J1 H6 e6 R6 wk
              have go6 := goE go5 e6
              have hx6 : H6 D = some (.lst acc) := (e6.hs D go5.2.2).2.trans hx5
              have ra6 : RWs g.K z6 H6 as acc := RWs.ext0 go6.1 ra
              -- the inner walk
              have P6 : Post g (relNew g.K) z2 H2 r s ((compL t1 c1 f vs1 (us.drop 0) r4 m6).bind fun ys m3 => K2 (i + 1) (as ++ ys) m3) Q := by
                rw [List.drop_zero]
                have e7 : ((compL t1 c1 f vs1 us r4 m6).bind fun ys m3 => K2 (i + 1) (as ++ ys) m3) = (((compL t1 c1 f vs1 us r4 m6).bind fun ys m3 => (compL2 t c src1 t1 c1 f vs vs1 (ws.drop (i + 1)) r m3).bind fun zs m4 => .ok (ys ++ zs) m4).bind fun ys m3 => chkL (as ++ ys) m3) := by
                  cases compL t1 c1 f vs1 us r4 m6 with
                  | ok ys m7 =>
                    show ((compL2 t c src1 t1 c1 f vs vs1 (ws.drop (i + 1)) r m7).bind fun zs m3 => chkL (as ++ ys ++ zs) m3) = _
                    simp only [Dn.R.bind]
                    cases compL2 t c src1 t1 c1 f vs vs1 (ws.drop (i + 1)) r m7 with
                    | ok zs m8 => simp only [List.append_assoc]
                    | exc x m8 => rfl
                    | bad => rfl
                  | exc x m7 => rfl
                  | bad => rfl
                rw [e7]
                exact P2
              refine ⟨fun j k H' => k = us.length - j ∧ j ≤ us.length ∧ ∃ m' z' as' acc', Go z' H' ∧ H' D = some (.lst acc') ∧ Rel g.K g.cl z' r4 m' s4 H' ∧ Ext0 z6 H6 z' H' ∧ RWs g.K z' H' as' acc' ∧
                Post g (relNew g.K) z2 H2 r s ((compL t1 c1 f vs1 (us.drop j) r4 m').bind fun ys m3 => K2 (i + 1) (as' ++ ys) m3) Q, ⟨us.length, by simp, Nat.zero_le _, m6, z6, as, acc, go6, hx6, R6, Ext0.refl _ _, ra6, P6⟩, ?_⟩
              rintro j k H7 ⟨rfl, hj2, m7, z7, as7, acc7, go7, hx7, R7, E7, ra7, P7⟩
              obtain ⟨hstop1, hgo1⟩ := wk.2 z7 H7 E7 j
              by_cases hlt1 : j < us.length
              · obtain ⟨k1, k2⟩ := hgo1 us[j] (List.getElem?_eq_getElem hlt1)
                rw [List.drop_eq_getElem_cons hlt1] at P7
                refine .inr ⟨k1, fun H' => ∃ m' z' as' acc', Go z' H' ∧ H' D = some (.lst acc') ∧ Rel g.K g.cl z' r4 m' s4 H' ∧ Ext0 z6 H6 z' H' ∧ RWs g.K z' H' as' acc' ∧
                  Post g (relNew g.K) z2 H2 r s ((compL t1 c1 f vs1 (us.drop (j + 1)) r4 m').bind fun ys m3 => K2 (i + 1) (as' ++ ys) m3) Q, fun H' h => ⟨us.length - (j + 1), by omega, rfl, hlt1, h⟩, fun x1 H8 yy => ?_⟩
                obtain ⟨sm8, q8⟩ := k2 x1 H8 yy
                have E8 := R7.mem.extS sm8
                have R8 := R7.same sm8
                have go8 := goE go7 E8
                have hx8 : H8 D = some (.lst acc7) := sm8 _ _ hx7
                have R8' : Rel g.K g.cl z7 (wipeR r4 vs1) m7 (wipe s4 vs1) H8 := ⟨wipe_ok R8.slots vs1, R8.mem⟩
                refine ⟨us[j], wipeR r4 vs1, m7, z7, R8', q8 z7 E8.e0, ?_⟩
                simp only [compL] at P7
                cases q9 : t1 us[j] (wipeR r4 vs1) with
                | none => rw [q9] at P7; exact P7.elim
                | some r9 =>
                  rw [q9] at P7
                  simp only at P7
                  refine fun s9 R9 ag9 => ⟨wipe_agree ag9 hj1, r9, m7, z7, R9, ?_⟩
                  cases q10 : c1 r9 m7 with
                  | ok b m10 =>
                    rw [q10] at P7
                    intro z10 b' H10 e10 R10 rb
                    have rb : b = b' := rb
                    subst rb
                    have go10 := goE go8 e10
                    have hx10 : H10 D = some (.lst acc7) := (e10.hs D go8.2.2).2.trans hx8
                    have E610 : Ext0 z6 H6 z10 H10 := (E7.trans E8.e0).trans e10.e0
                    have ra10 : RWs g.K z10 H10 as7 acc7 := RWs.ext0 (E8.e0.trans e10.e0) ra7
                    have R10' : Rel g.K g.cl z10 r4 m10 s4 H10 := ⟨R7.slots.ext0 (E8.e0.trans e10.e0), R10.mem⟩
                    cases b with
                    | true =>
                      simp only at P7
                      rw [if_pos rfl]
                      refine ⟨r9, m10, z10, R10, ?_⟩
                      cases q11 : f r9 m10 with
                      | ok yv m11 =>
                        rw [q11] at P7
                        simp only at P7
                        intro z11 v H11 e11 R11 rv
                        have go11 := goE go10 e11
                        have hx11 : H11 D = some (.lst acc7) := (e11.hs D go10.2.2).2.trans hx10
                        have P11 : Post g (relNew g.K) z2 H2 r s ((compL t1 c1 f vs1 (us.drop (j + 1)) r4 m11).bind fun ys m3 => K2 (i + 1) (as7 ++ [yv] ++ ys) m3) Q := by
                          have e7 : ((compL t1 c1 f vs1 (us.drop (j + 1)) r4 m11).bind fun ys m3 => K2 (i + 1) (as7 ++ [yv] ++ ys) m3) = (((compL t1 c1 f vs1 (us.drop (j + 1)) r4 m11).bind fun ys m3 => .ok (yv :: ys) m3).bind fun ys m3 => K2 (i + 1) (as7 ++ ys) m3) := by
                            cases compL t1 c1 f vs1 (us.drop (j + 1)) r4 m11 <;> simp [Dn.R.bind]
                          rw [e7]
                          exact P7
                        refine ⟨acc7, hx11, ?_, ?_⟩
                        · have hl : (as7 ++ [yv]).length ≤ 16777216 := by
                            rcases compL_calm (t := t1) (c := c1) (f := f) (vs := vs1) (us.drop (j + 1)) r4 m11 with hb | ⟨ys, m12, hb⟩
                            · rw [hb] at P11; exact P11.elim
                            · rw [hb] at P11
                              have P11 : Post g (relNew g.K) z2 H2 r s (K2 (i + 1) (as7 ++ [yv] ++ ys) m12) Q := P11
                              rcases K2len (i + 1) (as7 ++ [yv] ++ ys) m12 with hb2 | ⟨_, _, _, hb2⟩
                              · rw [hb2] at P11; exact P11.elim
                              · rw [List.length_append] at hb2; omega
                          have h2 := ra7.length
                          rw [List.length_append, List.length_singleton] at hl
                          rw [h2]
                          exact sl_lt (by omega)
                        · obtain ⟨gg, ee, RR⟩ := grow (acc7 ++ [v]) go11 hx11 R11
                          refine ⟨m11, z11, as7 ++ [yv], acc7 ++ [v], gg, upd_same, ⟨R10'.slots.ext0 (e11.e0.trans ee), RR.mem⟩, (E610.trans e11.e0).trans ee, RWs.ext0 ee ((RWs.ext e11 ra10).append (.cons rv .nil)), P11⟩
                      | exc x m11 => rw [q11] at P7; exact P7.elim
                      | bad => rw [q11] at P7; exact P7.elim
                    | false =>
                      simp only at P7
                      rw [if_neg Bool.false_ne_true]
                      exact ⟨m10, z10, as7, acc7, go10, hx10, R10', E610, ra10, P7⟩
                  | exc x m10 => rw [q10] at P7; exact P7.elim
                  | bad => rw [q10] at P7; exact P7.elim
              · have hj3 : us.length ≤ j := Nat.le_of_not_lt hlt1
                refine .inl ⟨hstop1 (Nat.le_antisymm hj2 hj3), ?_⟩
                rw [List.drop_eq_nil_of_le hj3] at P7
                have P7 : Post g (relNew g.K) z2 H2 r s (K2 (i + 1) (as7 ++ []) m7) Q := P7
                rw [List.append_nil] at P7
                exact done go7 hx7 R7 ra7 P7
            | exc x m6 => rw [q6] at P2; exact P2.elim
            | bad => rw [q6] at P2; exact P2.elim
          | false =>
            simp only at P2
            rw [if_neg Bool.false_ne_true]
            exact done go5 hx5 R5 ra5 P2
        | exc x m5 => rw [q5] at P2; exact P2.elim
        | bad => rw [q5] at P2; exact P2.elim
    · have hi3 : ws.length ≤ i := Nat.le_of_not_lt hlt
      refine .inl ⟨hstop (Nat.le_antisymm hi2 hi3), ?_⟩
      have P2 : Post g (relNew g.K) z2 H2 r s ((compL2 t c src1 t1 c1 f vs vs1 (ws.drop i) r m2).bind fun ys m3 => chkL (as ++ ys) m3) Q := P2
      rw [List.drop_eq_nil_of_le hi3] at P2
      have P2 : Post g (relNew g.K) z2 H2 r s (chkL (as ++ []) m2) Q := P2
      rw [List.append_nil] at P2
      unfold chkL at P2
      split at P2
      · exact Post.ret P2 R2 ⟨D, acc, rfl, hD2, ra, y1, y2, y3⟩
      · exact P2.elim
end
end Dn
namespace Dn
open PySem PySem.Spec PyProof.Rows L2
section
variable {X : Cx} {cl : Nat → Addr} {Wx : WX} {e a b : Expr} {pos : Pos}
theorem se_lc2 {elt tg iter tg1 iter1 : Expr} {ifs ifs1 : List Expr} {scope : Scope} {own : List (Str × Nat)} {js js1 vs1 : List Nat} {src src1 : DA} {t t1 : DG} {c c1 : DT} {f : DE} (hc : X.calm = true) (hN : X.N.Nodup) (hi : PI X tg iter (tI (gx X cl Wx) src)) (ok : BlkOk X.N X.env.scope scope own) (hj : ∀ i ∈ js, i ∈ own.map (·.2)) (hj1 : ∀ i ∈ js1, i ∈ vs1) (hv : ∀ i ∈ vs1, i ∈ own.map (·.2))
    (hg : ∀ (s : Shared) (H : Hp) (C : Addr) (cs : List (Str × Addr)) (fp : List Addr), PG (X.blk s H scope (compEnvC scope cs C X.env) fp) tg (tGt X.K cl js t))
    (ht : ∀ (s : Shared) (H : Hp) (C : Addr) (cs : List (Str × Addr)) (fp : List Addr), PTs (X.blk s H scope (compEnvC scope cs C X.env) fp) ifs (tT (gx (X.blk s H scope (compEnvC scope cs C X.env) fp) cl noW) c))
    (hi1 : ∀ (s : Shared) (H : Hp) (C : Addr) (cs : List (Str × Addr)) (fp : List Addr), PI (X.blk s H scope (compEnvC scope cs C X.env) fp) tg1 iter1 (tI (gx (X.blk s H scope (compEnvC scope cs C X.env) fp) cl noW) src1))
    (hg1 : ∀ (s : Shared) (H : Hp) (C : Addr) (cs : List (Str × Addr)) (fp : List Addr), PG (X.blk s H scope (compEnvC scope cs C X.env) fp) tg1 (tGt X.K cl js1 t1))
    (ht1 : ∀ (s : Shared) (H : Hp) (C : Addr) (cs : List (Str × Addr)) (fp : List Addr), PTs (X.blk s H scope (compEnvC scope cs C X.env) fp) ifs1 (tT (gx (X.blk s H scope (compEnvC scope cs C X.env) fp) cl noW) c1))
    (he : ∀ (s : Shared) (H : Hp) (C : Addr) (cs : List (Str × Addr)) (fp : List Addr), PE (X.blk s H scope (compEnvC scope cs C X.env) fp) elt (tE (gx (X.blk s H scope (compEnvC scope cs C X.env) fp) cl noW) f)) (hs : ∀ x, foldedSetIterable iter X.env x = pure x := by intro _; rfl) (hs1 : ∀ env x, foldedSetIterable iter1 env x = pure x := by intro _ _; rfl) :
    PE X (.ListComp elt [⟨tg, iter, ifs, 0⟩, ⟨tg1, iter1, ifs1, 0⟩] scope pos) (tN (gx X cl Wx) (aComp2 src t c src1 t1 c1 f (own.map (·.2)) vs1)) :=
  (pe_lc2 (own := own) hc hN hi ok hv hg ht hi1 hg1 ht1 he hs hs1).imp fun s H Q h => tLc2_of (g := gx X cl Wx) hj hj1 h
theorem ss_setLc2 {i : Nat} {y : Str} {py spos : Pos} {elt tg iter tg1 iter1 : Expr} {ifs ifs1 : List Expr} {scope : Scope} {own : List (Str × Nat)} {js js1 vs1 : List Nat} {src src1 : DA} {t t1 : DG} {c c1 : DT} {f : DE} (hc : X.calm = true) (hN : X.N.Nodup) (hy : X.N[i]? = some y) (hyl : X.env.scope.names.lookup y = some .local)
    (hsw : swapsWith (.ListComp elt [⟨tg, iter, ifs, 0⟩, ⟨tg1, iter1, ifs1, 0⟩] scope pos) (some (.Name y py)) spos.line X.env = pure true) (hi : PI X tg iter (tI (gx X cl Wx) src)) (ok : BlkOk X.N X.env.scope scope own) (hj : ∀ i ∈ js, i ∈ own.map (·.2)) (hj1 : ∀ i ∈ js1, i ∈ vs1) (hv : ∀ i ∈ vs1, i ∈ own.map (·.2))
    (hg : ∀ (s : Shared) (H : Hp) (C : Addr) (cs : List (Str × Addr)) (fp : List Addr), PG (X.blk s H scope (compEnvC scope cs C X.env) fp) tg (tGt X.K cl js t))
    (ht : ∀ (s : Shared) (H : Hp) (C : Addr) (cs : List (Str × Addr)) (fp : List Addr), PTs (X.blk s H scope (compEnvC scope cs C X.env) fp) ifs (tT (gx (X.blk s H scope (compEnvC scope cs C X.env) fp) cl noW) c))
    (hi1 : ∀ (s : Shared) (H : Hp) (C : Addr) (cs : List (Str × Addr)) (fp : List Addr), PI (X.blk s H scope (compEnvC scope cs C X.env) fp) tg1 iter1 (tI (gx (X.blk s H scope (compEnvC scope cs C X.env) fp) cl noW) src1))
    (hg1 : ∀ (s : Shared) (H : Hp) (C : Addr) (cs : List (Str × Addr)) (fp : List Addr), PG (X.blk s H scope (compEnvC scope cs C X.env) fp) tg1 (tGt X.K cl js1 t1))
    (ht1 : ∀ (s : Shared) (H : Hp) (C : Addr) (cs : List (Str × Addr)) (fp : List Addr), PTs (X.blk s H scope (compEnvC scope cs C X.env) fp) ifs1 (tT (gx (X.blk s H scope (compEnvC scope cs C X.env) fp) cl noW) c1))
    (he : ∀ (s : Shared) (H : Hp) (C : Addr) (cs : List (Str × Addr)) (fp : List Addr), PE (X.blk s H scope (compEnvC scope cs C X.env) fp) elt (tE (gx (X.blk s H scope (compEnvC scope cs C X.env) fp) cl noW) f)) (hs : ∀ x, foldedSetIterable iter X.env x = pure x := by intro _; rfl) (hs1 : ∀ env x, foldedSetIterable iter1 env x = pure x := by intro _ _; rfl) :
    PS X (.Assign [.Name y py] (.ListComp elt [⟨tg, iter, ifs, 0⟩, ⟨tg1, iter1, ifs1, 0⟩] scope pos) spos) (tS (gx X cl Wx) (sSet i (eFz (aComp2 src t c src1 t1 c1 f (own.map (·.2)) vs1)))) :=
  (L2.ps_setLc2 (own := own) hc hN hy hyl hsw hi ok hv hg ht hi1 hg1 ht1 he hs hs1).imp fun D s H ⟨r, m, z, R, P⟩ => by
    refine tLc2_of (g := gx X cl Wx) (c := c) (src1 := src1) (c1 := c1) (f := f) hj hj1 ⟨r, m, z, R, ?_⟩
    unfold sSet eFz at P
    cases q : aComp2 src t c src1 t1 c1 f (own.map (·.2)) vs1 r m with
    | ok ws m1 =>
      rw [q] at P
      intro z1 v H1 E1 R1 ⟨p, us, e1, e2, e3, n1, n2, n3⟩
      subst e1
      obtain ⟨e4, M⟩ := R1.mem.settle e2 n2 n3
      have R2 := R1.after e4 M
      exact P _ _ _ (E1.trans e4) ⟨R2.slots.set (w := .lst ws) ⟨p, us, rfl, ⟨.inl rfl, e2⟩, RWs.ext e4 e3⟩, R2.mem⟩
    | exc x m1 => rw [q] at P; exact fun z' H' c d e R q => P z' s H' c d e R q
    | bad => rw [q] at P; exact P
end
end Dn

/-! D10: t >= u of flat tuples of ints and texts. -/
namespace Dn
open PySem PySem.Spec PyProof.Rows L2
/-- two flat values of one kind -/
def pairOk : V → V → Bool
  | .int _, .int _ => true
  | .str _, .str _ => true
  | _, _ => false
def ge1V : V → V → Bool
  | .int i, .int j => decide (j ≤ i)
  | .str x, .str y => !decide (x.cps.toList < y.cps.toList)
  | _, _ => false
def geVs : List V → List V → Bool
  | x :: xs, y :: ys => if x = y then geVs xs ys else ge1V x y
  | [], _ :: _ => false
  | _, [] => true
def pairsOk : List V → List V → Bool
  | x :: xs, y :: ys => pairOk x y && pairsOk xs ys
  | _, _ => true
theorem lexAt_ge : ∀ (us vs : List V) (d : V) (i : Nat) (a b : List V) (ha : a.length = i) (hb : b.length = i),
    Ob.lexAt (fun j => decide ((a ++ us).getD j d = (b ++ vs).getD j d)) (fun j => ge1V ((a ++ us).getD j d) ((b ++ vs).getD j d)) (decide (us.length ≥ vs.length)) i (min us.length vs.length) = geVs us vs
  | [], [], d, i, a, b, _, _ => by simp [geVs, Ob.lexAt]
  | [], _ :: _, d, i, a, b, _, _ => by simp [geVs, Ob.lexAt]
  | _ :: _, [], d, i, a, b, _, _ => by simp [geVs, Ob.lexAt]
  | x :: us, y :: vs, d, i, a, b, ha, hb => by
    have e1 : min (x :: us).length (y :: vs).length = min us.length vs.length + 1 := by simp only [List.length_cons]; omega
    rw [e1, Ob.lexAt_succ]
    have g1 : (a ++ x :: us).getD i d = x := by subst ha; simp
    have g2 : (b ++ y :: vs).getD i d = y := by subst hb; simp
    have e2 : decide ((x :: us).length ≥ (y :: vs).length) = decide (us.length ≥ vs.length) := by simp
    have ih := lexAt_ge us vs d (i + 1) (a ++ [x]) (b ++ [y]) (by simp [ha]) (by simp [hb])
    rw [e2, g1, g2]
    simp only [List.append_assoc, List.singleton_append] at ih
    rw [geVs, ← ih]
    by_cases h : x = y
    · simp [h]
    · simp [h]
def rGeT (K : PySem.W.Frag) : R2 := fun x y H Q => ∃ (a b : Addr) (us vs : List V), x = .ref a ∧ y = .ref b ∧ SqT K H a us ∧ SqT K H b vs ∧ pairsOk us vs = true ∧ Q (.bl (geVs us vs)) H
theorem pairsOk_at : ∀ {us vs : List V} {j : Nat} {x y : V}, pairsOk us vs = true → us[j]? = some x → vs[j]? = some y → pairOk x y = true
  | [], _, _, _, _, _, h, _ => by simp at h
  | _ :: _, [], _, _, _, _, _, h => by simp at h
  | a :: us, b :: vs, 0, x, y, h, h1, h2 => by
    simp at h1 h2
    subst h1 h2
    exact (Bool.and_eq_true_iff.mp h).1
  | a :: us, b :: vs, j + 1, x, y, h, h1, h2 => pairsOk_at (us := us) (vs := vs) (j := j) (Bool.and_eq_true_iff.mp h).2 (by simpa using h1) (by simpa using h2)
theorem op_geT {X : Cx} (hu : X.A.units < cLine) : OpR X (compareOp .GtE) (rGeT X.K) := by
  intro pins s σ H x y v u Q I rx ry h
  obtain ⟨a, b, us, vs, rfl, rfl, ha, hb, hp, q⟩ := h
  cases rx
  cases ry
  obtain ⟨its, r1, p1, _⟩ := I.tuple ha
  obtain ⟨its2, r2, p2, _⟩ := I.tuple hb
  have e1 : its.toArray.size = us.length := by rw [List.size_toArray]; exact r1.length.symm
  have e2 : its2.toArray.size = vs.length := by rw [List.size_toArray]; exact r2.length.symm
  have both : ∀ j (h1 : j < its.toArray.size) (h2 : j < its2.toArray.size), ∃ x y, us.getD j .non = x ∧ vs.getD j .non = y ∧ RelV x its.toArray[j] ∧ RelV y its2.toArray[j] ∧ pairOk x y = true := fun j h1 h2 => by
    have h1' : j < us.length := by rw [← e1]; exact h1
    have h2' : j < vs.length := by rw [← e2]; exact h2
    obtain ⟨u1, g1, g2⟩ := r1.get (List.getElem?_eq_getElem h1')
    obtain ⟨u2, g3, g4⟩ := r2.get (List.getElem?_eq_getElem h2')
    have f1 : its.toArray[j] = u1 := by
      have : its.toArray[j]? = some u1 := by simpa using g1
      rw [Array.getElem?_eq_getElem h1] at this
      exact Option.some.inj this
    have f2 : its2.toArray[j] = u2 := by
      have : its2.toArray[j]? = some u2 := by simpa using g3
      rw [Array.getElem?_eq_getElem h2] at this
      exact Option.some.inj this
    refine ⟨us[j], vs[j], by simp [h1'], by simp [h2'], by rw [f1]; exact g2, by rw [f2]; exact g4, ?_⟩
    exact pairsOk_at hp (List.getElem?_eq_getElem h1') (List.getElem?_eq_getElem h2')
  have R := Ob.RcOp.tuples_ge (A := X.A) (s := s) (e := fun j => decide (([] ++ us).getD j .non = ([] ++ vs).getD j .non)) (r := fun j => ge1V (([] ++ us).getD j .non) (([] ++ vs).getD j .non)) p1 p2 hu (fun j h1 h2 => by
    obtain ⟨x, y, f1, f2, f3, f4, f5⟩ := both j h1 h2
    show SeqAt.EqAt _ _ _ _ (decide (us.getD j .non = vs.getD j .non))
    rw [f1, f2]
    cases x with
    | int i =>
      cases y with
      | int k =>
        obtain ⟨t, et⟩ := f3
        obtain ⟨t', et'⟩ := f4
        rw [et, et', dec_int]
        exact SeqAt.EqAt.int_int _ _ _ _
      | _ => cases f5
    | str i =>
      cases y with
      | str k =>
        obtain ⟨t, et⟩ := f3
        obtain ⟨t', et'⟩ := f4
        rw [et, et', dec_str]
        exact SeqAt.EqAt.str_str _ _ _ _
      | _ => cases f5
    | _ => cases f5) (fun j h1 h2 _ => by
    obtain ⟨x, y, f1, f2, f3, f4, f5⟩ := both j h1 h2
    simp only [List.nil_append]
    rw [f1, f2]
    cases x with
    | int i =>
      cases y with
      | int k =>
        obtain ⟨t, et⟩ := f3
        obtain ⟨t', et'⟩ := f4
        rw [et, et']
        exact Ob.RcOp.ge_int _ _ _ _
      | _ => cases f5
    | str i =>
      cases y with
      | str k =>
        obtain ⟨t, et⟩ := f3
        obtain ⟨t', et'⟩ := f4
        rw [et, et']
        exact fun _ _ _ _ h => PySem.P.ge_str h
      | _ => cases f5
    | _ => cases f5)
  rw [e1, e2, lexAt_ge us vs .non 0 [] [] rfl rfl] at R
  have z : wpAny (model X.prog X.w) X.A (compareOp .GtE (.ref a) (.ref b)) (EP X pins σ Q) X.xe s := R X.prog X.w X.xe (EP X pins σ Q) ⟨.bl _, H, I, rfl, q⟩
  exact z
def flatW : W → Option V
  | .int i => some (.int i)
  | .str x => some (.str x)
  | _ => none
def flatWs : List W → Option (List V)
  | [] => some []
  | w :: ws => match flatW w, flatWs ws with
    | some v, some vs => some (v :: vs)
    | _, _ => none
theorem flat_rel {K : PySem.W.Frag} {z : Zn} {H : Hp} : ∀ {ws : List W} {vs us : List V}, RWs K z H ws vs → flatWs ws = some us → vs = us
  | [], _, _, h, e => by cases h; cases e; rfl
  | w :: ws, _, us, ⟨v, r, h1, h2, h3⟩, e => by
    subst h1
    simp only [flatWs] at e
    cases q : flatW w with
    | none => rw [q] at e; cases e
    | some x =>
      cases q2 : flatWs ws with
      | none => rw [q, q2] at e; cases e
      | some xs =>
        rw [q, q2] at e
        cases e
        rw [flat_rel h3 q2]
        cases w with
        | int i => cases q; rw [show v = V.int i from h2]
        | str i => cases q; rw [show v = V.str i from h2]
        | _ => cases q
def geT (_ : Mem) (a b : W) : Option W := match a, b with
  | .tup xs, .tup ys => match flatWs xs, flatWs ys with
    | some us, some vs => if pairsOk us vs = true then some (.bl (geVs us vs)) else none
    | _, _ => none
  | _, _ => none
theorem w_geT {K : PySem.W.Frag} {cl : Nat → Addr} : OpW K cl geT (rGeT K) := by
  intro z m H a b x y w Q M ra rb e k
  unfold geT at e
  split at e
  · rename_i xs ys
    split at e
    · rename_i us vs q1 q2
      split at e
      · rename_i c
        cases e
        obtain ⟨p, vs1, e1, e2, e3⟩ := ra
        obtain ⟨p2, vs2, f1, f2, f3⟩ := rb
        have g1 := flat_rel e3 q1
        have g2 := flat_rel f3 q2
        subst g1 g2
        exact ⟨p, p2, vs1, vs2, e1, f1, e2, f2, c, k z _ H (Ext.refl _ _) M rfl⟩
      · cases e
    · cases e
  · cases e
end Dn

/-! D11: what the top leaves, as facts; the law's end. -/
namespace Dn
open PySem PySem.Spec PyProof.Rows L2
/-! ### constants of the module -/
mutual
def valB (K : PySem.W.Frag) : W → Value → Bool
  | .non, u => match u with
    | .none => true
    | _ => false
  | .bl b, u => match u with
    | .bool c => b == c
    | _ => false
  | .int i, u => match u with
    | .int j _ => decide (i = j)
    | _ => false
  | .str x, u => match u with
    | .str y _ => decide (x = y)
    | _ => false
  | .tup ws, u => match u with
    | .ref a => match K.lookup a with
      | some ⟨.type c, _, .seq its _, _⟩ => decide (c = "tuple") && (decide (its.size ≤ sizeLine) && valsB K ws its.toList)
      | _ => false
    | _ => false
  | .old ws, u => match u with
    | .ref a => match K.lookup a with
      | some ⟨.type c, none, .seq its _, _⟩ => decide (c = "list") && (decide (its.size ≤ sizeLine) && valsB K ws its.toList)
      | _ => false
    | _ => false
  | _, _ => false
def valsB (K : PySem.W.Frag) : List W → List Value → Bool
  | [], us => us.isEmpty
  | w :: ws, us => match us with
    | u :: us => valB K w u && valsB K ws us
    | [] => false
end
mutual
theorem valB_ok {K : PySem.W.Frag} : ∀ (w : W) (u : Value), valB K w u = true → ∃ v, RelV v u ∧ ∀ z H, RW K z H w v
  | .non, u, h => by
    cases u with
    | none => exact ⟨.non, rfl, fun _ _ => rfl⟩
    | _ => simp [valB] at h
  | .bl b, u, h => by
    cases u with
    | bool c => have e : b = c := by simpa [valB] using h
                subst e; exact ⟨.bl b, rfl, fun _ _ => rfl⟩
    | _ => simp [valB] at h
  | .int b, u, h => by
    cases u with
    | int c t => have e : b = c := by simpa [valB] using h
                 subst e; exact ⟨.int b, ⟨t, rfl⟩, fun _ _ => rfl⟩
    | _ => simp [valB] at h
  | .str b, u, h => by
    cases u with
    | str c t => have e : b = c := by simpa [valB] using h
                 subst e; exact ⟨.str b, ⟨t, rfl⟩, fun _ _ => rfl⟩
    | _ => simp [valB] at h
  | .tup ws, u, h => by
    cases u with
    | ref a =>
      simp only [valB] at h
      split at h
      · rename_i c od its n osl q
        simp only [Bool.and_eq_true, decide_eq_true_eq] at h
        obtain ⟨vs, r, k⟩ := valsB_ok ws its.toList h.2.2
        exact ⟨.ref a, rfl, fun z H => ⟨a, vs, rfl, .inr ⟨_, its, n, q, by rw [h.1], rfl, h.2.1, r⟩, k z H⟩⟩
      · cases h
    | _ => simp [valB] at h
  | .old ws, u, h => by
    cases u with
    | ref a =>
      simp only [valB] at h
      split at h
      · rename_i c its n osl q
        simp only [Bool.and_eq_true, decide_eq_true_eq] at h
        obtain ⟨vs, r, k⟩ := valsB_ok ws its.toList h.2.2
        exact ⟨.ref a, rfl, fun z H => ⟨a, vs, rfl, .inr ⟨_, its, n, q, by rw [h.1], rfl, rfl, h.2.1, r⟩, k z H⟩⟩
      · cases h
    | _ => simp [valB] at h
  | .lst ws, u, h => by simp [valB] at h
  | .ref ws, u, h => by simp [valB] at h
  | .raw ws, u, h => by simp [valB] at h
theorem valsB_ok {K : PySem.W.Frag} : ∀ (ws : List W) (us : List Value), valsB K ws us = true → ∃ vs, Vals vs us ∧ ∀ z H, RWs K z H ws vs
  | [], us, h => by
    cases us with
    | nil => exact ⟨[], .nil, fun _ _ => rfl⟩
    | cons u us => simp [valsB] at h
  | w :: ws, us, h => by
    cases us with
    | nil => simp [valsB] at h
    | cons u us =>
      simp only [valsB, Bool.and_eq_true] at h
      obtain ⟨v, r1, k1⟩ := valB_ok w u h.1
      obtain ⟨vs, r2, k2⟩ := valsB_ok ws us h.2
      exact ⟨v :: vs, .cons r1 r2, fun z H => ⟨v, vs, rfl, k1 z H, k2 z H⟩⟩
end
/-- the module's name x stands for w -/
def gloB (K : PySem.W.Frag) (x : Str) (w : W) : Bool := match PySem.W.nsIn K mainGlobals x with
  | some (some u) => valB K w u
  | _ => false
def GloW (K : PySem.W.Frag) (mg : Str → Option Value) (x : Str) (w : W) : Prop := ∃ u v, mg x = some u ∧ RelV v u ∧ ∀ z H, RW K z H w v
theorem gloB_ok {K : PySem.W.Frag} {h : Heap} {mg : Str → Option Value} {x : Str} {w : W} (X : K.In h) (G : h.Ns mainGlobals mg) (c : gloB K x w = true) : GloW K mg x w := by
  unfold gloB at c
  split at c
  · rename_i u q
    obtain ⟨v, r, k⟩ := valB_ok w u c
    exact ⟨u, v, PySem.W.mg_of X G q, r, k⟩
  · cases c
theorem se_g {X : Cx} {cl : Nat → Addr} {Wx : WX} {pos : Pos} {x : Str} {w : W} (h : GloW X.K X.mg x w) (hg : Gl X x := by rfl) (hd : (x == ("__debug__" : Str)) = false := by decide) : PE X (.Name x pos) (tE (gx X cl Wx) (eC w)) := by
  obtain ⟨u, v, h1, h2, h3⟩ := h
  exact se_glob h1 h2 h3 hg hd
/-! ### a def of the module -/
structure FT (K : PySem.W.Frag) (mg : Str → Option Value) (x : Str) (st : Stmt) (ps : List Str) (fd : FuncData) : Prop where
  F : FunD K x x (defArgs st) (defBody st) (defScope st) [] [] (He.ga K x) fd
  g : mg x = some (.ref (He.ga K x))
  b : Binds K fd ps []
theorem hu65 {A : Around} {k : Nat} (hr : RoomG k A) : A.units + 65 < cLine := by have := hr.un; omega
/-! ### the head's hook, with a test of one's own -/
def obsE (fa : List He.Fa) (fn : List He.DefD) (ex : PySem.W.Frag → Bool) (K : PySem.W.Frag) : He.AlD × Bool := (He.obsD fa fn K, ex K)
structure SaysE (fa : List He.Fa) (fn : List He.DefD) (ex : PySem.W.Frag → Bool) (K : PySem.W.Frag) : Prop where
  d : He.SaysD fa fn K
  e : ex K = true
def obsEG (n : Nat) (fa : List He.Fa) (fn : List He.DefD) (ex : PySem.W.Frag → Bool) (g : Addr → Option Obj) : He.AlD × Bool := obsE fa fn ex (He.frG g (He.asD g n))
theorem saysE_of {fa : List He.Fa} {fn : List He.DefD} {ex : PySem.W.Frag → Bool} {K : PySem.W.Frag} (e : obsE fa fn ex K = (He.valD fn, true)) : SaysE fa fn ex K := by
  unfold obsE at e
  exact ⟨(Prod.mk.inj e).1, (Prod.mk.inj e).2⟩
def hookE (n : Nat) (fa : List He.Fa) (fn : List He.DefD) (ex : PySem.W.Frag → Bool) : PySem.W.Hook where
  α := He.AlD × Bool
  obs := fun s => obsEG n fa fn ex s.heap.get?
  val := fun _ => (He.valD fn, true)
  says := fun _ h => ∃ K : PySem.W.Frag, K.In h ∧ SaysE fa fn ex K
  of := fun _ s e => ⟨He.frG s.heap.get? (He.asD s.heap.get? n), He.frG_in, saysE_of e⟩
  keeps := fun _ _ _ ⟨K, hK, c⟩ k => ⟨K, PySem.W.Frag.In.keeps hK k, c⟩
theorem obsEG_eq {n : Nat} {fa : List He.Fa} {fn : List He.DefD} {ex : PySem.W.Frag → Bool} {g : Addr → Option Obj} {s : Shared} (h : ∀ a, g a = s.heap.get? a) : obsEG n fa fn ex g = (hookE n fa fn ex).obs s := by
  have e : g = s.heap.get? := funext h
  rw [e] <;> rfl
/-- one test of several -/
def allB (bs : List Bool) : Bool := bs.all id
theorem allB_at {bs : List Bool} (h : allB bs = true) (i : Nat) {b : Bool} (hb : bs[i]? = some b) : b = true := by
  have := List.all_eq_true.mp h b (List.mem_of_getElem? hb)
  exact this
/-! ### the law's end -/
/-- the law told as a run over plain values gives True for every script -/
def LawOk (cl : Nat → Addr) (n : Nat) (g : Fw) : Prop := ∀ ns : List Int, ns.length ≤ n → ∃ m, g [.old (ns.map .int)] [] = .ok (.bl true) m
theorem rws_ints {K : PySem.W.Frag} {z : Zn} {H : Hp} : ∀ ns : List Int, RWs K z H (ns.map .int) (ns.map V.int)
  | [] => rfl
  | n :: ns => ⟨_, _, rfl, rfl, rws_ints ns⟩
theorem law_end {K : PySem.W.Frag} {cl : Nat → Addr} {n : Nat} {g : Fw} (h : LawOk cl n g) {H : Hp} {a : Addr} {ns : List Int} (hl : ns.length ≤ n) (hO : Only H) (hS : SqL K H a (ns.map V.int)) : spOf K cl 1 g [.ref a] H (fun v _ => v = .bl true) fun _ _ _ => False := by
  obtain ⟨m, e⟩ := h ns hl
  refine ⟨[.old (ns.map .int)], [], ⟨fun _ => False, fun _ => False, []⟩, rfl, ⟨rfl, .nil, fun _ q => q.elim, fun _ q => q.elim, fun _ q => q.elim, fun n a c q => by simp at q⟩, ⟨.ref a, [], rfl, ⟨a, ns.map V.int, rfl, ?_, rws_ints ns⟩, rfl⟩, ?_⟩
  · rcases hS with (hS | ⟨o, hS⟩) | hS
    · rcases hO a with z | ⟨o, xs, z⟩
      · rw [hS] at z; cases z
      · rw [hS] at z; cases z
    · exact .inl ⟨o, hS⟩
    · exact .inr hS
  · rw [e]
    exact fun z' v H' _ _ q => q
end Dn
namespace Dn
open PySem PySem.Spec PyProof.Rows L2
/-- what is never come to -/
def sBad : DS := fun _ _ => .bad
theorem ss_noraise {X : Cx} {cl : Nat → Addr} {Wx : WX} {st : Stmt} : PS X st (tS (gx X cl Wx) sBad) := (ps_never (st := st)).imp fun D s H ⟨r, m, z, R, P⟩ => P
end Dn

/-! D11b: the law's end. -/
namespace Dn
open PySem PySem.Spec PyProof.Rows L2
theorem hu1 {A : Around} {k : Nat} (hr : RoomG k A) : A.units + 1 < cLine := by have := hr.un; omega
section
variable {P : Program} {w : World} {K : PySem.W.Frag} {mg mb : Str → Option Value} {k : Nat} {fa a : Addr} {fd : FuncData} {x : Str} {g : Fw} {cl : Nat → Addr} {s₁ : Shared} {vs : List Value} {ns : List Int}
/-- an abstract heap that tracks the script and nothing else, or nothing at all -/
structure Script (P : Program) (w : World) (K : PySem.W.Frag) (a : Addr) (ns : List Int) (s : Shared) (H : Hp) : Prop where
  only : Only H
  seq : SqL K H a (ns.map V.int)
  hok : HOk P w H s.heap
  at_ : ∀ b, H b ≠ none → b = a
  no : H a ≠ none → K.lookup a = none
theorem script_at (KX : K.In s₁.heap) (ha : s₁.heap.get? a = some { cls := .type "list", data := .seq vs.toArray }) (hi : IntsAre vs ns) (hl : ns.length ≤ sizeLine) : ∃ H, Script P w K a ns s₁ H := by
  have rv := vals_ints hi
  have lv := hi.length
  cases hk : K.lookup a with
  | some o =>
    have e := KX a o hk
    rw [ha] at e
    cases e
    exact ⟨fun _ => none, fun _ => .inl rfl, .inr ⟨_, vs.toArray, _, hk, rfl, rfl, rfl, by rw [List.size_toArray, lv]; exact hl, by simpa using rv⟩, fun b u q => (nomatch q), fun b q => absurd rfl q, fun q => absurd rfl q⟩
  | none =>
    refine ⟨fun b => if b = a then some (.frz { cls := .type "list", data := .seq vs.toArray } (.lst (ns.map V.int))) else none, fun b => ?_, .inl (.inr ⟨_, if_pos rfl⟩), fun b u q => ?_, fun b q => ?_, fun _ => hk⟩
    · by_cases hb : b = a
      · exact .inr ⟨_, _, if_pos hb⟩
      · exact .inl (if_neg hb)
    · by_cases hb : b = a
      · simp only [hb, if_true] at q
        cases q
        subst hb
        exact ⟨ha, by simpa using hl, vs, _, rv, ha⟩
      · simp only [hb, if_false] at q
        cases q
    · by_cases hb : b = a
      · exact hb
      · exact absurd (if_neg hb) q
theorem lawG (KX : K.In s₁.heap) (hns : s₁.heap.Ns mainGlobals mg) (hb : s₁.heap.Ns builtinsNs mb) (hbb : ∀ x : Str, x ≠ "__name__" → mb x = bootBuiltins x) (hlim : s₁.heap.NoLimit) (hg : s₁.gens = #[])
    (ha : s₁.heap.get? a = some { cls := .type "list", data := .seq vs.toArray }) (hi : IntsAre vs ns) (h63 : ns.length ≤ 63) (hr : RoomG k callerA) (hl : LawOk (fun _ => 0) 63 g)
    (F : ∀ base : Heap, K.In base → base.Ns mainGlobals mg → FnG P w K mg base k fa fd [x] (spOf K cl 1 g)) (hbind : ∀ (s : Shared) (u : Value), BindsTo s fd ⟨[u], []⟩ [(x, u)]) :
    codeAny (model P w) callerA (.call (.ref fa) ⟨[.ref a], []⟩) (fun r s' => r = .ok (.ret (.bool true)) ∧ OldK s₁.heap s'.heap ∧ s'.os = s₁.os ∧ AllBare s'.gens) s₁ := by
  obtain ⟨H, S⟩ := script_at (P := P) (w := w) KX ha hi (Nat.le_trans h63 (by decide))
  have free : ∀ {b : Addr} {o : Obj} {es : Array DictEntry} {ep : Nat}, s₁.heap.get? b = some o → o.data = .dict es ep → H b = none := fun {b o es ep} e d => by
    cases q : H b with
    | none => rfl
    | some u =>
      have hba := S.at_ b (by rw [q]; exact Option.some_ne_none _)
      subst hba
      rw [ha] at e
      cases e
      cases d
  have ns_ok : ∀ {b : Addr} {m : Str → Option Value}, s₁.heap.Ns b m → (hidT s₁.heap H).Ns b m := fun ⟨o, es, ep, e, d, r⟩ => ⟨o, es, ep, hidT_get e (free e d), d, r⟩
  have kb : K.In (hidT s₁.heap H) := fun b o e => hidT_get (KX b o e) (by
    cases q : H b with
    | none => rfl
    | some u =>
      have hne : H b ≠ none := by rw [q]; exact Option.some_ne_none _
      have hba := S.at_ b hne
      subst hba
      rw [S.no hne] at e
      cases e)
  have hM : Mod K mg (hidT s₁.heap H) := ⟨kb, ns_ok hns, ⟨mb, ns_ok hb, hbb⟩, let ⟨mc, h1, h2⟩ := hlim; ⟨mc, ns_ok h1, h2⟩⟩
  have e0 : Env0 P w K mg (hidT s₁.heap H) callerA [] s₁ H := ⟨rfl, hM, fun b o e => of_hidT e, Nat.le_of_eq (hidT_size _ _), trivial, fun b q => (nomatch q), S.hok, .of_eq hg⟩
  have hsp := law_end (K := K) (cl := cl) (fun ns h => hl ns h) h63 S.only S.seq
  refine codeAny_mono ((F _ kb (ns_ok hns)).run callerA [] s₁ H ⟨[.ref a], []⟩ [.ref a] [.ref a] _ _ hr e0 (hbind s₁ (.ref a)) (.cons rfl .nil) hsp) fun r s' h => ?_
  match r, h with
  | .error e, h =>
    obtain ⟨_, _, _, _, _, _, _, _, _, _, _, _, q⟩ := h
    exact q.elim
  | .ok .next, h => exact h.elim
  | .ok .brk, h => exact h.elim
  | .ok .cont, h => exact h.elim
  | .ok (.ret u), ⟨v, H', os, bare, un, hok', rv, q⟩ =>
    have q' : v = .bl true := q
    subst q'
    have ru : u = Value.bool true := rv
    subst ru
    refine ⟨rfl, OldK.of_keep fun b o e => ?_, os, bare⟩
    rcases S.only b with q | ⟨ob, xs, q⟩
    · exact un.keep b o e q (fun z => nomatch z) (fun z => nomatch z)
    · have h1 := (S.hok b _ q).1
      rw [e] at h1
      rw [Option.some.inj h1]
      exact (hok' b _ (un.frzs b ob _ q)).1
end
/-- the law's end, where what is raised is told over the world -/
theorem walkW {l : PySem.W.OpenLaw} {k : Nat} {q : Program} {loose : List Str} {XP : (Str → Option Value) → Heap → Prop} {YP : World → Heap → Prop} {d : DefRec} {x : Str} {g : Fw} {cl : PySem.W.Frag → Nat → Addr}
    (hm : l.most = some 63) (hd : d.params.defaults = []) (hr : RoomG k callerA) (hl : LawOk (fun _ => 0) 63 g)
    (F : ∀ (w : World) (mg : Str → Option Value) (fa : Addr) (h : Heap), YP w h → h.Ns mainGlobals mg → mg d.name = some (.ref fa) →
      ∃ (K : PySem.W.Frag) (fd : FuncData), K.In h ∧ (∀ (s : Shared) (u : Value), BindsTo s fd ⟨[u], []⟩ [(x, u)]) ∧ ∀ base : Heap, K.In base → base.Ns mainGlobals mg → FnG l.prog w K mg base k fa fd [x] (spOf K (cl K) 1 g)) :
    PySem.W.WalkO q loose XP YP l.row.toRowW d [] (fun f vs => PySem.call f vs) := by
  refine Att.attach_call hm hd fun w s₀ s₁ mg mb fa o pm cd doc a vs ns G Y ho hd' hcd hmg hobj hints hlen hg => ?_
  obtain ⟨K, fd, KX, hb, hF⟩ := F w mg fa _ Y G.T.g hmg
  exact lawG KX G.T.g G.T.b G.T.builtins G.T.nolimit hg hobj hints hlen hr hl hF hb
end Dn

/-! D12: instances: fields, methods, making. -/
namespace Dn
open PySem PySem.Spec PyProof.Rows L2
/-! ### fields -/
def fldOf (c : Nat) (f : Str) (m : Mem) (w : W) : Option W := match w with
  | .ref n => match m[n]? with
    | some (.ins c' fs) => if c' = c then fs.lookup f else none
    | _ => none
  | _ => none
def insOf (c : Nat) (m : Mem) (w : W) : Option (Nat × List (Str × W)) := match w with
  | .ref n => match m[n]? with
    | some (.ins c' fs) => if c' = c then some (n, fs) else none
    | _ => none
  | _ => none
section
variable {K : PySem.W.Frag} {cl : Nat → Addr} {z : Zn} {m : Mem} {H : Hp}
theorem ins_at {c n : Nat} {w : W} {v : V} {fs : List (Str × W)} (M : MemOk K cl z m H) (h : RW K z H w v) (e : insOf c m w = some (n, fs)) :
    w = .ref n ∧ m[n]? = some (.ins c fs) ∧ ∃ a dx vs, z.phi[n]? = some a ∧ v = .ref a ∧ H a = some (.ins (cl c) dx vs) ∧ RFs K z H fs vs := by
  unfold insOf at e
  split at e
  · rename_i k
    split at e
    · rename_i c' fs' q
      split at e
      · rename_i hc
        cases e
        subst hc
        obtain ⟨a, h1, h2⟩ := h
        obtain ⟨_, dx, vs, q1, q2⟩ := M.cells _ a _ h1 q
        exact ⟨rfl, q, a, dx, vs, h1, h2, q1, q2⟩
      · cases e
    · cases e
  · cases e
theorem fld_ins {c : Nat} {f : Str} {w u : W} (e : fldOf c f m w = some u) : ∃ n fs, insOf c m w = some (n, fs) ∧ fs.lookup f = some u := by
  unfold fldOf at e
  unfold insOf
  split at e
  · split at e
    · split at e
      · rename_i hc
        exact ⟨_, _, if_pos hc, e⟩
      · cases e
    · cases e
  · cases e
def putFW (f : Str) (v : W) : List (Str × W) → List (Str × W)
  | [] => [(f, v)]
  | (g, x) :: r => if g = f then (g, v) :: r else (g, x) :: putFW f v r
theorem putFW_ok {f : Str} {w : W} {v : V} (hv : RW K z H w v) : ∀ {fs : List (Str × W)} {vs : List (Str × V)}, RFs K z H fs vs → RFs K z H (putFW f w fs) (putF f v vs)
  | [], _, h => by cases h; exact ⟨v, [], rfl, hv, rfl⟩
  | (g, x) :: r, _, ⟨y, t, h1, h2, h3⟩ => by
    subst h1
    unfold putFW putF
    by_cases hg : g = f
    · rw [if_pos hg, if_pos hg]; exact ⟨v, t, rfl, hv, h3⟩
    · rw [if_neg hg, if_neg hg]; exact ⟨y, _, rfl, h2, putFW_ok hv h3⟩
theorem put_mem {c n : Nat} {a dx : Addr} {f : Str} {w : W} {v : V} {fs : List (Str × W)} {vs : List (Str × V)} (M : MemOk K cl z m H) (h1 : z.phi[n]? = some a) (h2 : m[n]? = some (.ins c fs)) (h3 : RFs K z H fs vs) (hv : RW K z H w v) :
    Ext z H z (upd H a (.ins (cl c) dx (putF f v vs))) ∧ MemOk K cl z (m.set n (.ins c (putFW f w fs))) (upd H a (.ins (cl c) dx (putF f v vs))) := by
  have nh := (M.cells n a _ h1 h2).1
  exact M.write h1 h2 rfl fun e => ⟨nh, dx, _, upd_same, (putFW_ok hv h3).ext e⟩
end
section
variable {X : Cx} {cl : Nat → Addr} {Wx : WX} {e a o : Expr} {pos : Pos}
def eFld (c : Nat) (f : Str) (fa : DE) : DE := fun r m => (fa r m).bind fun w m1 => match fldOf c f m1 w with
  | some u => .ok u m1
  | none => .bad
theorem se_fld {c : Nat} {f : Str} {fa : DE} (hc : Cls X.K (cl c)) (hn : NoAttr X.K (cl c) f) (ha : PE X e (tE (gx X cl Wx) fa)) (hb : attributeBase e f X.env (eval e X.env) = eval e X.env := by rfl) :
    PE X (.Attribute e f pos) (tE (gx X cl Wx) (eFld c f fa)) :=
  (pe_fld ha hb).imp fun s H Q ⟨r, m, z, R, P⟩ => by
    refine ⟨r, m, z, R, P.bind fun z1 w m1 v H1 E1 R1 r1 P1 => ?_⟩
    cases q : fldOf c f m1 w with
    | none => rw [q] at P1; exact P1.elim
    | some u =>
      rw [q] at P1
      obtain ⟨n, fs, q1, q2⟩ := fld_ins q
      obtain ⟨_, _, b, dx, vs, q3, q4, q5, q6⟩ := ins_at R1.mem r1 q1
      obtain ⟨y, q7, q8⟩ := q6.lookup q2
      exact ⟨b, cl c, dx, vs, y, q4, q5, hc, hn, q7, P1.ret R1 q8⟩
/-- o.f = e -/
def sPut (c : Nat) (f : Str) (fo fv : DE) : DS := fun r m => (fv r m).thenS r fun y m1 => (fo r m1).thenS r fun w m2 => match insOf c m2 w with
  | some (n, fs) => if fs.length < 1000 then .next r (m2.set n (.ins c (putFW f y fs))) else .bad
  | none => .bad
theorem ss_put {c : Nat} {f : Str} {fo fv : DE} {pos' : Pos} (hc : Cls X.K (cl c)) (hn : NoAttr X.K (cl c) f) (ho : PE X o (tE (gx X cl Wx) fo)) (hv : PE X e (tE (gx X cl Wx) fv))
    (hs : swapsWith e (some (.Attribute o f pos')) pos.line X.env = pure false := by rfl) : PS X (.Assign [.Attribute o f pos'] e pos) (tS (gx X cl Wx) (sPut c f fo fv)) :=
  (ps_fld ho hv hs).imp fun D s H ⟨r, m, z, R, P⟩ => by
    refine ⟨r, m, z, R, P.bind fun z1 y m1 u H1 E1 R1 r1 P1 => ?_⟩
    refine ⟨r, m1, z1, R1, P1.bind fun z2 w m2 v H2 E2 R2 r2 P2 => ?_⟩
    cases q : insOf c m2 w with
    | none => rw [q] at P2; exact P2.elim
    | some nf =>
      obtain ⟨n, fs⟩ := nf
      rw [q] at P2
      simp only at P2
      split at P2
      · rename_i hl
        obtain ⟨_, q2, b, dx, vs, q3, q4, q5, q6⟩ := ins_at R2.mem r2 q
        obtain ⟨e1, M1⟩ := put_mem (dx := dx) (f := f) R2.mem q3 q2 q6 (RW.ext E2 r1)
        exact ⟨b, cl c, dx, vs, q4, q5, hc, hn, by rw [q6.length]; exact hl, P2 z2 s _ e1 (R2.after e1 M1)⟩
      · exact P2.elim
/-- o.f op= e -/
def sPutA (c : Nat) (f : Str) (op : Mem → W → W → Option W) (fo fv : DE) : DS := fun r m => (fo r m).thenS r fun w m1 => match fldOf c f m1 w with
  | none => .bad
  | some x => (fv r m1).thenS r fun y m2 => match op m2 x y with
    | none => .bad
    | some u => match insOf c m2 w with
      | some (n, fs) => if fs.length < 1000 then .next r (m2.set n (.ins c (putFW f u fs))) else .bad
      | none => .bad
theorem ss_putA {c : Nat} {f : Str} {fo fv : DE} {op : Operator} {ow : Mem → W → W → Option W} {rr : R2} {pos' : Pos} (hc : Cls X.K (cl c)) (hn : NoAttr X.K (cl c) f) (ho : PE X o (tE (gx X cl Wx) fo)) (hv : PE X e (tE (gx X cl Wx) fv)) (hop : OpR X (inplaceOp op) rr) (hw : OpW X.K cl ow rr) :
    PS X (.AugAssign (.Attribute o f pos') op e pos) (tS (gx X cl Wx) (sPutA c f ow fo fv)) :=
  (ps_fldaug (rd := rr) ho hv (fun pins sh s H x y u v Q I rx ry h => hop pins sh s H x y u v Q I rx ry h)).imp fun D s H ⟨r, m, z, R, P⟩ => by
    refine ⟨r, m, z, R, P.bind fun z1 w m1 v H1 E1 R1 r1 P1 => ?_⟩
    cases q : fldOf c f m1 w with
    | none => rw [q] at P1; exact P1.elim
    | some x =>
      rw [q] at P1
      obtain ⟨n, fs, q1, q2⟩ := fld_ins q
      obtain ⟨_, _, b, dx, vs, q3, q4, q5, q6⟩ := ins_at R1.mem r1 q1
      obtain ⟨xv, q7, q8⟩ := q6.lookup q2
      refine ⟨b, cl c, dx, vs, xv, q4, q5, hc, hn, q7, r, m1, z1, R1, P1.bind fun z2 y m2 yv H2 E2 R2 r2 P2 => ?_⟩
      cases q9 : ow m2 x y with
      | none => rw [q9] at P2; exact P2.elim
      | some u =>
        rw [q9] at P2
        simp only at P2
        refine hw z2 m2 H2 x y xv yv u _ R2.mem (RW.ext E2 q8) r2 q9 fun z3 uv H3 E3 M3 ru => ?_
        cases p1 : insOf c m2 w with
        | none => rw [p1] at P2; exact P2.elim
        | some nf =>
          obtain ⟨n', fs'⟩ := nf
          rw [p1] at P2
          simp only at P2
          split at P2
          · rename_i hl
            obtain ⟨_, p2, b', dx', vs', p3, p4, p5, p6⟩ := ins_at M3 (RW.ext (E2.trans E3) r1) p1
            have eb : b' = b := by rw [q4] at p4; cases p4; rfl
            subst eb
            obtain ⟨e1, M1⟩ := put_mem (dx := dx') (f := f) M3 p3 p2 p6 ru
            exact ⟨dx', vs', p5, by rw [p6.length]; exact hl, P2 z3 s _ (E3.trans e1) (R2.after (E3.trans e1) M1)⟩
          · exact P2.elim
/-! ### methods -/
def eMeth (c : Nat) (mn : Str) (n : Nat) (g : Fw) (fo : DE) (t : DA) : DE := fun r m => (fo r m).bind fun w m1 => match insOf c m1 w with
  | some (_, fs) => match fs.lookup mn with
    | none => (t r m1).bind fun ws m2 => if ws.length + 1 = n then g (w :: ws) m2 else .bad
    | some _ => .bad
  | none => .bad
theorem se_meth {k n c : Nat} {f : Addr} {fd : FuncData} {ps : List Str} {g : Fw} {mn : Str} {apos : Pos} {es : List Expr} {fo : DE} {t : DA} {pl : Sem Bool} (F : FnG X.prog X.w X.K X.mg X.base k f fd ps (spOf X.K cl n g)) (hr : RoomG k X.A) (hc : Cls X.K (cl c)) (hm : Meth X.K (cl c) mn f) (hb : Binds X.K fd ps []) (tk : Takes X Wx)
    (ho : PE X o (tE (gx X cl Wx) fo)) (ha : PA X (e :: es) (tA (gx X cl Wx) t))
    (hst : starEach (e :: es) X.env = (false, eval e X.env) :: starEach es X.env := by rfl) (hpl : (backTo pos (starEach es X.env)).any (·.1) = false := by rfl)
    (ht : eval (.Call (.Attribute o mn apos) (e :: es) [] pos) X.env = (do
      let ov ← eval o X.env
      standAt apos.atName
      let (f, first) ← holding [ov] (getMethod ov mn pl)
      callWith pos f first (backTo pos (starEach (e :: es) X.env)) (backToKw pos (keywordEach [] X.env))) := by rfl) :
    PE X (.Call (.Attribute o mn apos) (e :: es) [] pos) (tE (gx X cl Wx) (eMeth c mn n g fo t)) := by
  refine ⟨fun pins sh s H Q I ⟨r, m, z, R, P⟩ => ?_⟩
  refine PySem.W.methodCall_KW (pl := pl) (thn (ho.run pins sh s H _ I ⟨r, m, z, R, P.bind (Q1 := fun v H1 => ∃ b dx vs, v = .ref b ∧ H1 b = some (.ins (cl c) dx vs) ∧ vs.lookup mn = none ∧ tA (gx X cl Wx) t s H1 fun us H2 => spOf X.K cl n g (v :: us) H2 Q (WE Wx s)) fun z1 w m1 v H1 E1 R1 r1 P1 => ?_⟩) fun u s1 ⟨x, H1, I1, rx, b, dx, vs, ex, ea, l, q⟩ => ?_) ht
  · cases q : insOf c m1 w with
    | none => rw [q] at P1; exact P1.elim
    | some nf =>
      obtain ⟨n0, fs⟩ := nf
      rw [q] at P1
      simp only at P1
      obtain ⟨_, _, b, dx, vs, q3, q4, q5, q6⟩ := ins_at R1.mem r1 q
      cases q7 : fs.lookup mn with
      | some _ => rw [q7] at P1; exact P1.elim
      | none =>
        rw [q7] at P1
        simp only at P1
        refine ⟨b, dx, vs, q4, q5, q6.lookup_none q7, r, m1, z1, R1, P1.bind fun z2 ws m2 us H2 E2 R2 r2 P2 => ?_⟩
        split at P2
        · rename_i hl
          exact ⟨w :: ws, m2, z2, by simpa using hl, R2.mem, .cons (RW.ext E2 r1) r2, PostF.of R2 P2⟩
        · exact P2.elim
  · subst ex
    obtain rfl : u = Value.ref b := rx
    refine getmeth_ok I1 ea hc hm l ?_
    refine PySem.W.callWith_K (first := [.ref b]) (h₀ := X.base) I.ok.mod.kin hm.kp (thn (ha.run pos pins s1 s H1 _ I1 q) fun us s2 ⟨ws, H2, I2, r2, q2⟩ => ⟨I2.kIn, ?_⟩) hst hpl
    exact run_fnG (us := .ref b :: us) (vs := .ref b :: ws) F hr hb (passAt tk s) I2 (.cons rfl r2) q2
theorem se_meth0 {k n c : Nat} {f : Addr} {fd : FuncData} {ps : List Str} {g : Fw} {mn : Str} {apos : Pos} {fo : DE} {pl : Sem Bool} (F : FnG X.prog X.w X.K X.mg X.base k f fd ps (spOf X.K cl n g)) (hr : RoomG k X.A) (hc : Cls X.K (cl c)) (hm : Meth X.K (cl c) mn f) (hb : Binds X.K fd ps []) (tk : Takes X Wx)
    (ho : PE X o (tE (gx X cl Wx) fo))
    (ht : eval (.Call (.Attribute o mn apos) [] [] pos) X.env = (do
      let ov ← eval o X.env
      standAt apos.atName
      let (f, first) ← holding [ov] (getMethod ov mn pl)
      callWith pos f first (backTo pos (starEach [] X.env)) (backToKw pos (keywordEach [] X.env))) := by rfl) :
    PE X (.Call (.Attribute o mn apos) [] [] pos) (tE (gx X cl Wx) (eMeth c mn n g fo aNil)) := by
  refine ⟨fun pins sh s H Q I ⟨r, m, z, R, P⟩ => ?_⟩
  refine PySem.W.methodCall_KW (pl := pl) (thn (ho.run pins sh s H _ I ⟨r, m, z, R, P.bind (Q1 := fun v H1 => ∃ b dx vs, v = .ref b ∧ H1 b = some (.ins (cl c) dx vs) ∧ vs.lookup mn = none ∧ spOf X.K cl n g [v] H1 Q (WE Wx s)) fun z1 w m1 v H1 E1 R1 r1 P1 => ?_⟩) fun u s1 ⟨x, H1, I1, rx, b, dx, vs, ex, ea, l, q⟩ => ?_) ht
  · cases q : insOf c m1 w with
    | none => rw [q] at P1; exact P1.elim
    | some nf =>
      obtain ⟨n0, fs⟩ := nf
      rw [q] at P1
      simp only at P1
      obtain ⟨_, _, b, dx, vs, q3, q4, q5, q6⟩ := ins_at R1.mem r1 q
      cases q7 : fs.lookup mn with
      | some _ => rw [q7] at P1; exact P1.elim
      | none =>
        rw [q7] at P1
        simp only [aNil, Dn.R.bind, List.length_nil, Nat.zero_add] at P1
        split at P1
        · rename_i hl
          exact ⟨b, dx, vs, q4, q5, q6.lookup_none q7, [w], m1, z1, by simpa using hl, R1.mem, .cons r1 .nil, PostF.of R1 P1⟩
        · exact P1.elim
  · subst ex
    obtain rfl : u = Value.ref b := rx
    refine getmeth_ok I1 ea hc hm l ?_
    exact PySem.W.callWith_K0 (first := [.ref b]) I1.kIn hm.kp (run_fnG (us := [.ref b]) (vs := [.ref b]) F hr hb (passAt tk s) I1 (.cons rfl .nil) q)
/-! ### a new instance -/
def eMake (c n : Nat) (g : Fw) (t : DA) : DE := fun r m => (t r m).bind fun ws m1 => if ws.length + 1 = n then (g (.ref m1.length :: ws) (m1 ++ [.ins c []])).bind fun u m2 => match u with
    | .non => .ok (.ref m1.length) m2
    | _ => .bad
  else .bad
/-- what is made: the object and its dict -/
theorem made_mem {K : PySem.W.Frag} {z : Zn} {m : Mem} {H : Hp} {c : Nat} {x dx : Addr} (M : MemOk K cl z m H) (hx : H x = none) (hd : H dx = none) (hne : dx ≠ x) :
    Ext z H (z.lay x) (upd (upd H dx (.own x)) x (.ins (cl c) dx [])) ∧ MemOk K cl (z.lay x) (m ++ [.ins c []]) (upd (upd H dx (.own x)) x (.ins (cl c) dx [])) ∧ RW K (z.lay x) (upd (upd H dx (.own x)) x (.ins (cl c) dx [])) (.ref m.length) (.ref x) := by
  have hx2 : upd H dx (.own x) x = none := by rw [upd_ne fun q => hne q.symm]; exact hx
  have s1 : Same H (upd H dx (.own x)) := upd_same_of hd
  have s2 : Same (upd H dx (.own x)) (upd (upd H dx (.own x)) x (.ins (cl c) dx [])) := upd_same_of hx2
  have sm : Same H (upd (upd H dx (.own x)) x (.ins (cl c) dx [])) := fun b u q => s2 b u (s1 b u q)
  obtain ⟨e2, M2⟩ := (M.same sm).lay (p := x) (c := .ins c []) (M.z_ne hx) (M.p_ne hx) ⟨M.h_ne hx, dx, [], upd_same, rfl⟩
  refine ⟨(M.extS sm).trans e2, M2, x, ?_, rfl⟩
  show (z.phi ++ [x])[m.length]? = some x
  rw [← M.len]
  simp
/-- C(..) where what is raised is wished for at the caller's slots -/
theorem run_mk {k n c : Nat} {f : Addr} {fd : FuncData} {ps : List Str} {g : Fw} {pins : List (Addr × Obj)} {s : L2.St} {H : Hp} {sh : Shared} {Q : VK} {us : List Value} {vs : List V} {ws : List W} {r : Rho} {m : Mem} {z : Zn}
    (hM : Mk X.K (cl c) f) (F : FnG X.prog X.w X.K X.mg X.base k f fd ps (spOf X.K cl n g)) (hr : RoomG (k + 1) X.A) (hb : Binds X.K fd ps []) (tk : Takes X Wx) (I : Inv X pins s H sh) (rv : Vals vs us)
    (R : Rel X.K cl z r m s H) (rw' : RWs X.K z H ws vs) (hl : ws.length + 1 = n)
    (P : Post (gx X cl Wx) (RW X.K) z H r s ((g (.ref m.length :: ws) (m ++ [.ins c []])).bind fun u m2 => match u with
      | .non => .ok (.ref m.length) m2
      | _ => .bad) Q) : wpAny (model X.prog X.w) X.A (call (.ref (cl c)) us) (EP X pins s Q) X.xe sh := by
  have fx : H (sh.heap.objs.size + 1) = none := I.hok.fresh (Nat.le_succ _)
  have fd' : H sh.heap.objs.size = none := I.hok.fresh (Nat.le_refl _)
  obtain ⟨e1, M1, q1⟩ := made_mem (c := c) R.mem fx fd' (Nat.ne_of_lt (Nat.lt_succ_self _))
  have R1 := R.after e1 M1
  have hq : spOf X.K cl n g (.ref (sh.heap.objs.size + 1) :: vs) (upd (upd H sh.heap.objs.size (.own (sh.heap.objs.size + 1))) (sh.heap.objs.size + 1) (.ins (cl c) sh.heap.objs.size [])) (fun v H2 => v = .non ∧ Q (.ref (sh.heap.objs.size + 1)) H2) (WE Wx s) := by
    refine ⟨.ref m.length :: ws, _, _, by simpa using hl, M1, .cons q1 (RWs.ext e1 rw'), ?_⟩
    refine PostF.of R1 (Post.bind (Post.mono e1 P) fun z2 u m2 v H2 E2 R2 r2 P2 => ?_)
    cases u with
    | non =>
      have r2 : v = .non := r2
      exact ⟨r2, P2.ret R2 (RW.ext E2 q1)⟩
    | _ => exact P2.elim
  have I2 := Inv.made (C := cl c) I
  have rv2 : Vals (V.ref (sh.heap.objs.size + 1) :: vs) (Value.ref (sh.heap.objs.size + 1) :: us) := .cons rfl rv
  have hl2 : (Value.ref (sh.heap.objs.size + 1) :: us ++ []).length = ps.length := by
    have e2 := rv2.length
    rw [F.len _ _ _ _ hq] at e2
    rw [List.append_nil]
    exact e2.symm
  have hbb := hb _ (Value.ref (sh.heap.objs.size + 1) :: us) I2.kIn hl2
  rw [List.append_nil] at hbb
  refine wpAny_call (make_map (f := f) I.kIn hM.makes hM.init (beq_iff_eq.mp hM.fn) (codeAny_mono (F.run _ X.stack _ _ _ _ _ _ _ (hr.make (cl c) us []) (I2.env0.make (cl c) us []) hbb rv2 hq) fun rr s' hq' => ?_))
  cases rr with
  | error er => exact passAt tk s pins _ _ er s' I2 hq'
  | ok fl =>
    cases fl with
    | ret u =>
      obtain ⟨v, H', I3, rv3, ev, q3⟩ := I2.after hq'
      subst ev
      exact ⟨rv3, ⟨V.ref (sh.heap.objs.size + 1), H', I3, rfl, q3⟩⟩
    | next => exact hq'.elim
    | brk => exact hq'.elim
    | cont => exact hq'.elim
theorem se_make {k n c : Nat} {f : Addr} {fd : FuncData} {ps : List Str} {g : Fw} {x : Str} {p : Pos} {es : List Expr} {t : DA} (hM : Mk X.K (cl c) f) (F : FnG X.prog X.w X.K X.mg X.base k f fd ps (spOf X.K cl n g)) (hr : RoomG (k + 1) X.A) (hm : X.mg x = some (.ref (cl c))) (hb : Binds X.K fd ps []) (tk : Takes X Wx)
    (ha : PA X (e :: es) (tA (gx X cl Wx) t)) (hg : Gl X x := by rfl) (hdb : (x == ("__debug__" : Str)) = false := by decide) (he : starEach (e :: es) X.env = (false, eval e X.env) :: starEach es X.env := by rfl) (hpl : (backTo pos (starEach es X.env)).any (·.1) = false := by rfl) :
    PE X (.Call (.Name x p) (e :: es) [] pos) (tE (gx X cl Wx) (eMake c n g t)) := by
  refine ⟨fun pins sh s H Q I ⟨r, m, z, R, P⟩ => ?_⟩
  refine wpAny_Call_Name_kw (ld_glob I hg hm ?_ hdb)
  refine PySem.W.callWith_K (h₀ := X.base) I.ok.mod.kin hM.kp (thn (ha.run pos pins sh s H (fun vs H1 => ∃ ws m1 z1, Rel X.K cl z1 r m1 s H1 ∧ RWs X.K z1 H1 ws vs ∧ Post (gx X cl Wx) (RW X.K) z1 H1 r s (if ws.length + 1 = n then (g (.ref m1.length :: ws) (m1 ++ [.ins c []])).bind fun u m2 => match u with
    | .non => .ok (.ref m1.length) m2
    | _ => .bad
  else .bad) Q) I ⟨r, m, z, R, P.bind fun z1 ws m1 vs H1 E1 R1 r1 P1 => ⟨ws, m1, z1, R1, r1, P1⟩⟩) fun us s1 ⟨vs, H1, I1, rv, ws, m1, z1, R1, r1, P1⟩ => ⟨I1.kIn, ?_⟩) he hpl
  split at P1
  · rename_i hl
    exact run_mk hM F hr hb tk I1 rv R1 r1 hl P1
  · exact P1.elim
theorem se_make0 {k c : Nat} {f : Addr} {fd : FuncData} {ps : List Str} {g : Fw} {x : Str} {p : Pos} (hM : Mk X.K (cl c) f) (F : FnG X.prog X.w X.K X.mg X.base k f fd ps (spOf X.K cl 1 g)) (hr : RoomG (k + 1) X.A) (hm : X.mg x = some (.ref (cl c))) (hb : Binds X.K fd ps []) (tk : Takes X Wx)
    (hg : Gl X x := by rfl) (hdb : (x == ("__debug__" : Str)) = false := by decide) : PE X (.Call (.Name x p) [] [] pos) (tE (gx X cl Wx) (eMake c 1 g aNil)) := by
  refine ⟨fun pins sh s H Q I ⟨r, m, z, R, P⟩ => ?_⟩
  refine wpAny_Call_Name_kw (ld_glob I hg hm ?_ hdb)
  exact PySem.W.callWith_K0 I.kIn hM.kp (run_mk (us := []) (vs := []) (ws := []) hM F hr hb tk I .nil R rfl rfl P)
end
end Dn

/-! D13: more built-in calls: tuples repeated, any, all, min, max, index, is of boolsW, list(range). -/
namespace Dn
open PySem PySem.Spec PyProof.Rows L2
theorem tm_one (l : Addr) (items : Array Value) (n : Nat) (dd : Option Addr) (sl : Array (Option Value)) (x : Int) (u : Tok) (c0 : (decide (x < -(2 ^ 63)) || decide (x ≥ 2 ^ 63)) = false) (c1 : (items.isEmpty || x == 1) = true) :
    Meets (Builtin.«tuple.__mul__» ⟨[.ref l, .int x u], []⟩) (fun _ R s => s.heap.get? l = some { cls := .type "tuple", dict := dd, data := .seq items n, slots := sl } ∧ R (.ok (.ret (Value.ref l))) s) :=
  .of_wp fun prog w A R s h => by
    obtain ⟨hp, g, d, tk, os⟩ := s
    obtain ⟨hl, h⟩ := h
    have f1 := AutoSeq1.idx_int
    wp_walk using wpAny_loadPart' hl
    repeat (first
      | (refine wpAny_ite_false (decide_eq_false (by rw [c0]; exact Bool.false_ne_true)) ?_; wp_walk using wpAny_loadPart' hl)
      | (refine wpAny_ite_true (decide_eq_true c1) ?_; wp_walk using wpAny_loadPart' hl))
    exact ⟨_, rfl, h⟩
theorem tm_zero (l : Addr) (items : Array Value) (n : Nat) (dd : Option Addr) (sl : Array (Option Value)) (x : Int) (u : Tok) (c0 : (decide (x < -(2 ^ 63)) || decide (x ≥ 2 ^ 63)) = false) (c1 : (items.isEmpty || x == 1) = false) (c2 : (decide (x ≤ 0) || items.isEmpty) = true) :
    Meets (Builtin.«tuple.__mul__» ⟨[.ref l, .int x u], []⟩) (fun _ R s => s.heap.get? l = some { cls := .type "tuple", dict := dd, data := .seq items n, slots := sl } ∧
      R (.ok (.ret (Value.ref s.heap.objs.size))) { s with heap := s.heap.push { cls := Value.type "tuple", data := Data.seq #[] }, toks := s.toks }) :=
  .of_wp fun prog w A R s h => by
    obtain ⟨hp, g, d, tk, os⟩ := s
    obtain ⟨hl, h⟩ := h
    have f1 := AutoSeq1.idx_int
    wp_walk using wpAny_loadPart' hl
    repeat (first
      | (refine wpAny_ite_false (decide_eq_false (by rw [c0]; exact Bool.false_ne_true)) ?_; wp_walk using wpAny_loadPart' hl)
      | (refine wpAny_ite_false (decide_eq_false (by rw [c1]; exact Bool.false_ne_true)) ?_; wp_walk using wpAny_loadPart' hl)
      | (refine wpAny_ite_true (decide_eq_true c2) ?_; wp_walk using wpAny_loadPart' hl))
    exact ⟨_, rfl, h⟩
def rRepS (K : PySem.W.Frag) : R2 := fun x y H Q => ∃ l k xs, x = .ref l ∧ y = .int k ∧ SqT K H l xs ∧ xs ≠ [] ∧ ((k = 1 ∧ Q (.ref l) H) ∨ (k = 0 ∧ ∀ p, H p = none → Q (.ref p) (upd H p (.tup []))))
section
variable {X : Cx} {K : PySem.W.Frag} {cl : Nat → Addr}
theorem op_repS : OpR X (binaryOp .Mult) (rRepS X.K) := by
  intro pins s σ H x y v u Q I rx ry h
  obtain ⟨l, k, xs, rfl, rfl, hT, hne, hk⟩ := h
  cases rx
  obtain ⟨t, rfl⟩ := ry
  obtain ⟨its, r, ⟨⟨cls, dd, data, sl⟩, ho, hc, n, hd⟩, hs⟩ := I.tuple hT
  simp only at hc hd
  subst hc hd
  have hi : its.toArray.isEmpty = false := by
    cases its with
    | nil => exact absurd (List.eq_nil_of_length_eq_zero r.length) hne
    | cons a b => rfl
  have c0 : (decide (k < -(2 ^ 63)) || decide (k ≥ 2 ^ 63)) = false := by
    rcases hk with ⟨rfl, _⟩ | ⟨rfl, _⟩ <;> decide
  refine wpAny_binaryOp_repeat_ref (T := "tuple") (U := "int") (by decide) ⟨_, ho, rfl⟩ (fun s' => typeIs_int s' k t) noFill_tuple_mul F.fills_int_mul F.slot_int_rmul repeat_tuple F.slot_int_index.lookup
    (call_meets F.slot_int_rmul (typeIs_int s k t) F.entry_int_rmul (F.args_int_rmul_2 _ _) (int_rmul_tuple k t l its.toArray n dd sl) ⟨ho, rfl, ⟨_, ho, rfl⟩, ?_⟩)
  rcases hk with ⟨rfl, q⟩ | ⟨rfl, q⟩
  · exact call_meets F.slot_tuple_mul ⟨_, ho, rfl⟩ F.entry_tuple_mul (F.args_tuple_mul_2 _ _) (tm_one l its.toArray n dd sl 1 t c0 (by rw [hi]; rfl)) ⟨ho, .ref l, H, I, rfl, q⟩
  · refine call_meets F.slot_tuple_mul ⟨_, ho, rfl⟩ F.entry_tuple_mul (F.args_tuple_mul_2 _ _) (tm_zero l its.toArray n dd sl 0 t c0 (by rw [hi]; rfl) (by rw [hi]; rfl)) ⟨ho, ?_⟩
    refine ⟨.ref s.heap.objs.size, _, I.laid (t' := s.toks) (o := .tup []) (fun b ob q => Heap.get?_push_of_some _ q) (Nat.le_refl _) ?_, rfl, q _ (I.hok.fresh (Nat.le_refl _))⟩
    exact ⟨Nat.zero_le _, [], .nil, IsTup.new _ _⟩
def mulT : Mem → W → W → Option W := fun _ a b => match a, b with
  | .tup (x :: xs), .int k => if k = 0 then some (.tup []) else if k = 1 then some (.tup (x :: xs)) else if 2 ≤ k ∧ k ≤ 1000 ∧ xs.length < 1000 then some (.tup (List.replicate k.toNat (x :: xs)).flatten) else none
  | _, _ => none
theorem w_mulT : OpW K cl mulT (fun x y H Q => rRepT K x y H Q ∨ rRepS K x y H Q) := by
  intro z m H a b x y w Q M ra rb e k
  unfold mulT at e
  split at e
  · rename_i u us j
    obtain ⟨p, vs, a1, a2, a3⟩ := ra
    have hne : vs ≠ [] := fun h => by rw [h] at a3; obtain ⟨_, _, h1, _⟩ := a3; cases h1
    split at e
    · rename_i hj
      cases e
      refine .inr ⟨p, j, vs, a1, rb, a2, hne, .inr ⟨hj, fun l hl => ?_⟩⟩
      have hs := upd_same_of (o := .tup []) hl
      exact k z (.ref l) _ (M.extS hs) (M.same hs) ⟨l, [], rfl, .inl (.inl upd_same), rfl⟩
    · split at e
      · rename_i hj
        cases e
        exact .inr ⟨p, j, vs, a1, rb, a2, hne, .inl ⟨hj, k z (.ref p) H (Ext.refl _ _) M ⟨p, vs, rfl, a2, a3⟩⟩⟩
      · split at e
        · rename_i hj
          cases e
          refine .inl ⟨p, j, vs, a1, rb, a2, hne, hj.1, hj.2.1, by rw [a3.length]; exact hj.2.2, fun l hl => ?_⟩
          have hs := upd_same_of (o := .tup (List.replicate j.toNat vs).flatten) hl
          exact k z (.ref l) _ (M.extS hs) (M.same hs) ⟨l, _, rfl, .inl (.inl upd_same), RWs.ext (M.extS hs) (a3.rep j.toNat)⟩
        · cases e
  · cases e
theorem o_mulT : OpR X (binaryOp .Mult) (fun x y H Q => rRepT X.K x y H Q ∨ rRepS X.K x y H Q) := op_repT.or op_repS
/-! ### any, all, min, max -/
def boolsW : List W → Option (List Bool)
  | [] => some []
  | .bl b :: ws => (boolsW ws).map (b :: ·)
  | _ => none
theorem boolsW_ok {z : Zn} {H : Hp} : ∀ {ws : List W} {bs : List Bool} {vs : List V}, boolsW ws = some bs → RWs K z H ws vs → vs = bs.map V.bl
  | [], bs, vs, e, h => by cases e; exact h
  | .bl b :: ws, bs, vs, e, ⟨v, r, h1, h2, h3⟩ => by
    simp only [boolsW, Option.map_eq_some_iff] at e
    obtain ⟨cs, e1, e2⟩ := e
    subst e2 h1
    rw [boolsW_ok e1 h3]
    have h2 : v = .bl b := h2
    rw [h2]; rfl
  | .non :: _, _, _, e, _ => by simp [boolsW] at e
  | .int _ :: _, _, _, e, _ => by simp [boolsW] at e
  | .str _ :: _, _, _, e, _ => by simp [boolsW] at e
  | .tup _ :: _, _, _, e, _ => by simp [boolsW] at e
  | .lst _ :: _, _, _, e, _ => by simp [boolsW] at e
  | .old _ :: _, _, _, e, _ => by simp [boolsW] at e
  | .ref _ :: _, _, _, e, _ => by simp [boolsW] at e
  | .raw _ :: _, _, _, e, _ => by simp [boolsW] at e
def intsW : List W → Option (List Int)
  | [] => some []
  | .int b :: ws => (intsW ws).map (b :: ·)
  | _ => none
theorem intsW_ok {z : Zn} {H : Hp} : ∀ {ws : List W} {bs : List Int} {vs : List V}, intsW ws = some bs → RWs K z H ws vs → vs = bs.map V.int
  | [], bs, vs, e, h => by cases e; exact h
  | .int b :: ws, bs, vs, e, ⟨v, r, h1, h2, h3⟩ => by
    simp only [intsW, Option.map_eq_some_iff] at e
    obtain ⟨cs, e1, e2⟩ := e
    subst e2 h1
    rw [intsW_ok e1 h3]
    have h2 : v = .int b := h2
    rw [h2]; rfl
  | .non :: _, _, _, e, _ => by simp [intsW] at e
  | .bl _ :: _, _, _, e, _ => by simp [intsW] at e
  | .str _ :: _, _, _, e, _ => by simp [intsW] at e
  | .tup _ :: _, _, _, e, _ => by simp [intsW] at e
  | .lst _ :: _, _, _, e, _ => by simp [intsW] at e
  | .old _ :: _, _, _, e, _ => by simp [intsW] at e
  | .ref _ :: _, _, _, e, _ => by simp [intsW] at e
  | .raw _ :: _, _, _, e, _ => by simp [intsW] at e
def anyW (m : Mem) : List W → Option W
  | [w] => match trkOf m w with
    | some ws => (boolsW ws).map fun bs => .bl (bs.any id)
    | none => none
  | _ => none
def allW (m : Mem) : List W → Option W
  | [w] => match trkOf m w with
    | some ws => (boolsW ws).map fun bs => .bl (bs.all id)
    | none => none
  | _ => none
theorem w_any : ClW K cl anyW (rAny K) := by
  intro z m H ws vs w Q M rws e k
  match ws, e, rws with
  | [u], e, rws =>
    obtain ⟨v, e1, e2⟩ := rws.one
    subst e1
    simp only [anyW] at e
    split at e
    · rename_i us q
      simp only [Option.map_eq_some_iff] at e
      obtain ⟨bs, e3, e4⟩ := e
      subst e4
      obtain ⟨p, xs, a1, a2, a3⟩ := trk_at M e2 q
      have := boolsW_ok e3 a3
      subst this a1
      exact ⟨p, bs, rfl, SqL.of a2, k z _ H (Ext.refl _ _) M rfl⟩
    · cases e
theorem w_all : ClW K cl allW (rAll K) := by
  intro z m H ws vs w Q M rws e k
  match ws, e, rws with
  | [u], e, rws =>
    obtain ⟨v, e1, e2⟩ := rws.one
    subst e1
    simp only [allW] at e
    split at e
    · rename_i us q
      simp only [Option.map_eq_some_iff] at e
      obtain ⟨bs, e3, e4⟩ := e
      subst e4
      obtain ⟨p, xs, a1, a2, a3⟩ := trk_at M e2 q
      have := boolsW_ok e3 a3
      subst this a1
      exact ⟨p, bs, rfl, SqL.of a2, k z _ H (Ext.refl _ _) M rfl⟩
    · cases e
def maxW (_ : Mem) : List W → Option W
  | [.int i, .int j] => some (.int (if j > i then j else i))
  | _ => none
def minW (_ : Mem) : List W → Option W
  | [.int i, .int j] => some (.int (if j < i then j else i))
  | _ => none
theorem w_max : ClW K cl maxW (fun xs H Q => ∃ i j, xs = [.int i, .int j] ∧ Q (.int (if j > i then j else i)) H) := by
  intro z m H ws vs w Q M rws e k
  unfold maxW at e
  split at e
  · rename_i i j
    cases e
    obtain ⟨v, r, h1, h2, v2, r2, h3, h4, h5⟩ := rws
    have h2 : v = .int i := h2
    have h4 : v2 = .int j := h4
    have h5 : r2 = [] := h5
    subst h1 h2 h3 h4 h5
    exact ⟨i, j, rfl, k z _ H (Ext.refl _ _) M rfl⟩
  · cases e
theorem w_min : ClW K cl minW (fun xs H Q => ∃ i j, xs = [.int i, .int j] ∧ Q (.int (if j < i then j else i)) H) := by
  intro z m H ws vs w Q M rws e k
  unfold minW at e
  split at e
  · rename_i i j
    cases e
    obtain ⟨v, r, h1, h2, v2, r2, h3, h4, h5⟩ := rws
    have h2 : v = .int i := h2
    have h4 : v2 = .int j := h4
    have h5 : r2 = [] := h5
    subst h1 h2 h3 h4 h5
    exact ⟨i, j, rfl, k z _ H (Ext.refl _ _) M rfl⟩
  · cases e
/-! ### is of boolsW -/
def isBW (_ : Mem) (a b : W) : Option W := match a, b with
  | .bl x, .bl y => some (.bl (decide (x = y)))
  | _, _ => none
theorem w_isB : OpW K cl isBW rIsB := by
  intro z m H a b x y w Q M ra rb e k
  unfold isBW at e
  split at e
  · cases e
    exact ⟨_, _, ra, rb, k z _ H (Ext.refl _ _) M rfl⟩
  · cases e
end
end Dn

/-! D14: list(range ..), xs.index(x). -/
namespace Dn
open PySem PySem.Spec PyProof.Rows L2
section
variable {X : Cx} {K : PySem.W.Frag} {cl : Nat → Addr} {Wx : WX} {a b e o : Expr} {pos : Pos}
def rgW (a b : Int) : List W := (List.range (b - a).toNat).map fun i => W.int (a + (i : Nat))
theorem rgW_ok {z : Zn} {H : Hp} (a b : Int) : RWs K z H (rgW a b) (rgV a b) := by
  unfold rgW rgV
  generalize List.range (b - a).toNat = l
  induction l with
  | nil => exact rfl
  | cons i l ih => exact ⟨_, _, rfl, rfl, ih⟩
def aRg1 (f : DE) : DA := fun r m => (f r m).bind fun w m1 => match w with
  | .int n => if 0 ≤ n ∧ n ≤ 16777216 then .ok (rgW 0 n) m1 else .bad
  | _ => .bad
def aRg2 (f g : DE) : DA := fun r m => (f r m).bind fun w m1 => (g r m1).bind fun u m2 => match w, u with
  | .int i, .int j => if 0 ≤ i ∧ j ≤ 16777216 ∧ i ≤ 16777216 ∧ 0 ≤ j then .ok (rgW i j) m2 else .bad
  | _, _ => .bad
theorem sn_lrg1 {f : DE} {p p2 pos2 : Pos} (hc : X.calm = true) (hl : X.mg "list" = none) (hr : X.mg "range" = none) (ha : PE X a (tE (gx X cl Wx) f)) (gl : Gl X "list" := by rfl) (gr : Gl X "range" := by rfl)
    (na : starEach [a] X.env = (false, eval a X.env) :: starEach [] X.env := by rfl) (nb : starEach [.Call (.Name "range" p2) [a] [] pos2] X.env = (false, eval (.Call (.Name "range" p2) [a] [] pos2) X.env) :: starEach [] X.env := by rfl) :
    PE X (.Call (.Name "list" p) [.Call (.Name "range" p2) [a] [] pos2] [] pos) (tN (gx X cl Wx) (aRg1 f)) :=
  (pe_listRg hc gl hl (prg_1 gr hr ha na) nb).imp fun s H Q ⟨r, m, z, R, P⟩ => by
    refine ⟨r, m, z, R, P.bind fun z1 w m1 v H1 E1 R1 r1 P1 => ?_⟩
    cases w with
    | int n =>
      have r1 : v = .int n := r1
      simp only at P1
      split at P1
      · rename_i h
        refine ⟨n, r1, RgOk.of_le (by omega) h.2 (by omega) h.1, fun q hq => ?_⟩
        obtain ⟨e1, M1, q1⟩ := new_rel (cl := cl) R1.mem hq (rgW_ok 0 n)
        exact P1 z1 _ _ e1 (R1.after e1 M1) q1
      · exact P1.elim
    | _ => exact P1.elim
theorem sn_lrg2 {f g : DE} {p p2 pos2 : Pos} (hc : X.calm = true) (hl : X.mg "list" = none) (hr : X.mg "range" = none) (ha : PE X a (tE (gx X cl Wx) f)) (hb : PE X b (tE (gx X cl Wx) g)) (gl : Gl X "list" := by rfl) (gr : Gl X "range" := by rfl)
    (na : starEach [a, b] X.env = (false, eval a X.env) :: starEach [b] X.env := by rfl) (nb : starEach [b] X.env = (false, eval b X.env) :: starEach [] X.env := by rfl) (hp : (backTo pos2 (starEach [b] X.env)).any (·.1) = false := by rfl)
    (nc : starEach [.Call (.Name "range" p2) [a, b] [] pos2] X.env = (false, eval (.Call (.Name "range" p2) [a, b] [] pos2) X.env) :: starEach [] X.env := by rfl) :
    PE X (.Call (.Name "list" p) [.Call (.Name "range" p2) [a, b] [] pos2] [] pos) (tN (gx X cl Wx) (aRg2 f g)) :=
  (pe_listRg hc gl hl (prg_2 gr hr ha hb na nb hp) nc).imp fun s H Q ⟨r, m, z, R, P⟩ => by
    refine ⟨r, m, z, R, P.bind fun z1 w m1 v H1 E1 R1 r1 P1 => ?_⟩
    refine ⟨r, m1, z1, R1, P1.bind fun z2 u m2 v2 H2 E2 R2 r2 P2 => ?_⟩
    split at P2
    · rename_i i j
      have r1 : v = .int i := r1
      have r2 : v2 = .int j := r2
      split at P2
      · rename_i h
        refine ⟨i, j, r1, r2, RgOk.of_le h.1 h.2.1 h.2.2.1 h.2.2.2, fun q hq => ?_⟩
        obtain ⟨e1, M1, q1⟩ := new_rel (cl := cl) R2.mem hq (rgW_ok i j)
        exact P2 z2 _ _ e1 (R2.after e1 M1) q1
      · exact P2.elim
    · exact P2.elim
/-! ### xs.index(x) -/
def toV : W → Option V
  | .non => some .non
  | .bl b => some (.bl b)
  | .int i => some (.int i)
  | .str x => some (.str x)
  | _ => none
theorem toV_ok {z : Zn} {H : Hp} {w : W} {v u : V} (e : toV w = some u) (h : RW K z H w v) : v = u ∧ flatV u = true := by
  cases w <;> simp only [toV, Option.some.injEq] at e
  all_goals first
    | (subst e; exact ⟨h, rfl⟩)
    | cases e
def toVs : List W → Option (List V)
  | [] => some []
  | w :: ws => match toV w, toVs ws with
    | some v, some vs => some (v :: vs)
    | _, _ => none
theorem toVs_ok {z : Zn} {H : Hp} : ∀ {ws : List W} {us vs : List V}, toVs ws = some us → RWs K z H ws vs → vs = us ∧ us.all flatV = true
  | [], us, vs, e, h => by cases e; exact ⟨h, rfl⟩
  | w :: ws, us, vs, e, ⟨v, r, h1, h2, h3⟩ => by
    simp only [toVs] at e
    split at e
    · rename_i u us' e1 e2
      cases e
      obtain ⟨q1, q2⟩ := toV_ok e1 h2
      obtain ⟨q3, q4⟩ := toVs_ok e2 h3
      subst h1 q1 q3
      exact ⟨rfl, by rw [List.all_cons, q2, q4]; rfl⟩
    · cases e
def findV (y : V) : List V → Option Nat
  | [] => none
  | x :: xs => match eqV x y with
    | true => some 0
    | false => (findV y xs).map (· + 1)
theorem findV_ok {y : V} : ∀ {ys : List V} {j : Nat}, findV y ys = some j → ∃ z, ys[j]? = some z ∧ eqV z y = true ∧ ∀ (m : Nat) (z' : V), m < j → ys[m]? = some z' → eqV z' y = false
  | [], _, e => by cases e
  | x :: xs, j, e => by
    simp only [findV] at e
    split at e
    · rename_i h
      cases e
      exact ⟨x, rfl, h, fun m z' hm => absurd hm (Nat.not_lt_zero _)⟩
    · rename_i h
      simp only [Option.map_eq_some_iff] at e
      obtain ⟨i, e1, e2⟩ := e
      subst e2
      obtain ⟨z, q1, q2, q3⟩ := findV_ok e1
      refine ⟨z, by simpa using q1, q2, fun m z' hm hz => ?_⟩
      cases m with
      | zero => simp at hz; subst hz; exact h
      | succ m => exact q3 m z' (by omega) (by simpa using hz)
def idxW (m : Mem) (w y : W) : Option W := match trkOf m w with
  | some ws => match toVs ws, toV y with
    | some us, some u => (findV u us).map fun j => .int (j : Nat)
    | _, _ => none
  | none => none
def eIdx (fo fe : DE) : DE := fun r m => (fo r m).bind fun w m1 => match trkOf m1 w with
  | some _ => (fe r m1).bind fun y m2 => match idxW m2 w y with
    | some u => .ok u m2
    | none => .bad
  | none => .bad
theorem se_idx {fo fe : DE} {apos : Pos} (ho : PE X o (tE (gx X cl Wx) fo)) (he : PE X e (tE (gx X cl Wx) fe))
    (hbase : attributeBase o "index" X.env (eval o X.env) = eval o X.env := by rfl)
    (hfew : ((backTo pos (starEach [e] X.env)).all (fun x => !x.1) && (backToKw pos (keywordEach [] X.env)).all (fun x => x.1.isSome)
      && decide ([e].length + ([] : List Keyword).length + (if ([] : List Keyword).isEmpty then 0 else 1) < 30)) = true := by rfl)
    (hline : (apos.endLine == pos.line) = true := by rfl) (hs : starEach [e] X.env = (false, eval e X.env) :: starEach [] X.env := by rfl) (hplain : (backTo pos (starEach [] X.env)).any (·.1) = false := by rfl) :
    PE X (.Call (.Attribute o "index" apos) [e] [] pos) (tE (gx X cl Wx) (eIdx fo fe)) :=
  (pe_bm PySem.F.plainAttrs_list PySem.F.slot_list_index PySem.F.type_list_index mt_index ho (pa_cons he pa_nil hs) hbase hfew hline hs hplain).imp fun s H Q ⟨r, m, z, R, P⟩ => by
    refine ⟨r, m, z, R, P.bind fun z1 w m1 v H1 E1 R1 r1 P1 => ?_⟩
    split at P1
    · rename_i ws e1
      obtain ⟨p, vs, a1, a2, a3⟩ := trk_at R1.mem r1 e1
      subst a1
      refine ⟨.inl ⟨rfl, vs, SqL.of a2⟩, r, m1, z1, R1, P1.bind fun z2 y m2 v2 H2 E2 R2 r2 P2 => ?_⟩
      split at P2
      · rename_i u e2
        unfold idxW at e2
        split at e2
        · rename_i ws2 e3
          split at e2
          · rename_i us yv e4 e5
            simp only [Option.map_eq_some_iff] at e2
            obtain ⟨j, e6, e7⟩ := e2
            subst e7
            obtain ⟨p2, vs2, b1, b2, b3⟩ := trk_at R2.mem (RW.ext E2 r1) e3
            cases b1
            obtain ⟨c1, c2⟩ := toVs_ok e4 b3
            obtain ⟨c3, c4⟩ := toV_ok e5 r2
            subst c1 c3
            obtain ⟨zv, d1, d2, d3⟩ := findV_ok e6
            exact ⟨p, vs2, v2, j, zv, rfl, rfl, SqL.of b2, c4, c2, d1, d2, d3, P2.ret R2 rfl⟩
          · cases e2
        · cases e2
      · exact P2.elim
    · exact P1.elim
end
end Dn

/-! D15: a method of a class of the module. -/
namespace Dn
open PySem PySem.Spec PyProof.Rows L2
def clsItem (s : Stmt) (j : Nat) : Stmt := match s with
  | .ClassDef _ _ _ b _ _ _ _ _ _ _ => b.getD j (.Pass ⟨0, 0, 0, 0⟩)
  | _ => .Pass ⟨0, 0, 0, 0⟩
structure FM (K : PySem.W.Frag) (C m q : Str) (st : Stmt) (ps : List Str) (fd : FuncData) : Prop where
  F : FunD K m q (defArgs st) (defBody st) (defScope st) [] [] (He.ma K (He.ga K C) m) fd
  b : Binds K fd ps []
end Dn

/-! D16: a call of plain data alone: the callee's memory is its own, what it gives is settled. -/
namespace Dn
open PySem PySem.Spec PyProof.Rows L2

mutual
def gW : W → Bool
  | .non => true
  | .bl _ => true
  | .int _ => true
  | .str _ => true
  | .tup xs => gWs xs
  | .lst xs => gWs xs
  | .old xs => gWs xs
  | .ref _ => false
  | .raw _ => true
def gWs : List W → Bool
  | [] => true
  | w :: ws => gW w && gWs ws
end
mutual
/-- what is told, with what f tells in the place of the memory's objects -/
def frzA (f : Nat → Option W) : W → Option W
  | .non => some .non
  | .bl b => some (.bl b)
  | .int i => some (.int i)
  | .str x => some (.str x)
  | .tup xs => (frzAs f xs).map .tup
  | .lst xs => (frzAs f xs).map .lst
  | .old xs => (frzAs f xs).map .old
  | .ref n => f n
  | .raw v => some (.raw v)
def frzAs (f : Nat → Option W) : List W → Option (List W)
  | [] => some []
  | w :: ws => match frzA f w with
    | some w' => (frzAs f ws).map fun r => w' :: r
    | none => none
end
/-- the lists of the memory settled -/
def frzR (m : Mem) : Nat → Nat → Option W
  | 0, _ => none
  | k + 1, n => match m[n]? with
    | some (.lst xs) => (frzAs (frzR m k) xs).map .lst
    | some (.fz xs) => (frzAs (frzR m k) xs).map .lst
    | _ => none
def frzW (m : Mem) (k : Nat) (w : W) : Option W := frzA (frzR m k) w
def frzF (m : Mem) (k : Nat) : List (Str × W) → Option (List (Str × W))
  | [] => some []
  | (x, w) :: r => match frzW m k w with
    | some w' => (frzF m k r).map fun q => (x, w') :: q
    | none => none
/-- of plain data alone, by a memory of its own -/
def pw (g : Fw) : Fw := fun ws m => if gWs ws = true then match g ws [] with
    | .ok w m1 => match frzW m1 6 w with
      | some w' => .ok w' m
      | none => .bad
    | .exc x m1 => match frzF m1 6 x.fs with
      | some fs => .exc ⟨x.cls, fs⟩ m
      | none => .bad
    | .bad => .bad
  else .bad

section
variable {K : PySem.W.Frag} {cl : Nat → Addr} {z z' : Zn} {H H' : Hp} {m : Mem}
mutual
theorem RW.ground (hz : ∀ a, z.Z a → z'.Z a) : ∀ {w : W} {v : V}, gW w = true → RW K z H w v → RW K z' H w v
  | .non, _, _, h => h
  | .bl _, _, _, h => h
  | .int _, _, _, h => h
  | .str _, _, _, h => h
  | .tup ws, _, g, ⟨a, vs, h1, h2, h3⟩ => ⟨a, vs, h1, h2, RWs.ground hz (by simpa [gW] using g) h3⟩
  | .lst ws, _, g, ⟨a, vs, h1, h2, h3⟩ => ⟨a, vs, h1, ⟨hz a h2.1, h2.2⟩, RWs.ground hz (by simpa [gW] using g) h3⟩
  | .old ws, _, g, ⟨a, vs, h1, h2, h3⟩ => ⟨a, vs, h1, h2, RWs.ground hz (by simpa [gW] using g) h3⟩
  | .ref n, _, g, _ => by simp [gW] at g
  | .raw _, _, _, h => h
theorem RWs.ground (hz : ∀ a, z.Z a → z'.Z a) : ∀ {ws : List W} {vs : List V}, gWs ws = true → RWs K z H ws vs → RWs K z' H ws vs
  | [], _, _, h => h
  | _ :: _, _, g, ⟨v, r, h1, h2, h3⟩ => by
    rw [gWs, Bool.and_eq_true_iff] at g
    exact ⟨v, r, h1, RW.ground hz g.1 h2, RWs.ground hz g.2 h3⟩
end
theorem frzAs_some {f : Nat → Option W} {xs : List W} {c : List W → W} {w : W} (h : (frzAs f xs).map c = some w) : ∃ ys, frzAs f xs = some ys ∧ c ys = w := by
  cases q : frzAs f xs with
  | none => rw [q] at h; cases h
  | some ys => rw [q] at h; cases h; exact ⟨ys, rfl, rfl⟩
mutual
theorem RW.frA {f : Nat → Option W} (hz : ∀ a, z.Z a → z'.Z a) (hf : ∀ n u v, f n = some u → RW K z H (.ref n) v → RW K z' H u v) : ∀ {w u : W} {v : V}, frzA f w = some u → RW K z H w v → RW K z' H u v
  | .non, _, _, e, h => by simp [frzA] at e; subst e; exact h
  | .bl _, _, _, e, h => by simp [frzA] at e; subst e; exact h
  | .int _, _, _, e, h => by simp [frzA] at e; subst e; exact h
  | .str _, _, _, e, h => by simp [frzA] at e; subst e; exact h
  | .tup ws, _, _, e, ⟨a, vs, h1, h2, h3⟩ => by
    rw [frzA] at e
    obtain ⟨ys, e1, e2⟩ := frzAs_some e
    subst e2
    exact ⟨a, vs, h1, h2, RWs.frA hz hf e1 h3⟩
  | .lst ws, _, _, e, ⟨a, vs, h1, h2, h3⟩ => by
    rw [frzA] at e
    obtain ⟨ys, e1, e2⟩ := frzAs_some e
    subst e2
    exact ⟨a, vs, h1, ⟨hz a h2.1, h2.2⟩, RWs.frA hz hf e1 h3⟩
  | .old ws, _, _, e, ⟨a, vs, h1, h2, h3⟩ => by
    rw [frzA] at e
    obtain ⟨ys, e1, e2⟩ := frzAs_some e
    subst e2
    exact ⟨a, vs, h1, h2, RWs.frA hz hf e1 h3⟩
  | .ref n, _, _, e, h => hf n _ _ (by rw [frzA] at e; exact e) h
  | .raw _, _, _, e, h => by simp [frzA] at e; subst e; exact h
theorem RWs.frA {f : Nat → Option W} (hz : ∀ a, z.Z a → z'.Z a) (hf : ∀ n u v, f n = some u → RW K z H (.ref n) v → RW K z' H u v) : ∀ {ws us : List W} {vs : List V}, frzAs f ws = some us → RWs K z H ws vs → RWs K z' H us vs
  | [], _, _, e, h => by simp [frzAs] at e; subst e; exact h
  | w :: ws, _, _, e, ⟨v, r, h1, h2, h3⟩ => by
    rw [frzAs] at e
    split at e
    · rename_i w' e1
      cases q : frzAs f ws with
      | none => rw [q] at e; cases e
      | some ys =>
        rw [q] at e
        simp at e
        subst e
        exact ⟨v, r, h1, RW.frA hz hf e1 h2, RWs.frA hz hf q h3⟩
    · cases e
end
theorem RW.frR (M : MemOk K cl z m H) (hz : ∀ a, z.Z a → z'.Z a) (hp : ∀ a xs, a ∈ z.phi → H a = some (.lst xs) → z'.Z a) : ∀ (k n : Nat) (u : W) (v : V), frzR m k n = some u → RW K z H (.ref n) v → RW K z' H u v
  | 0, _, _, _, e, _ => by simp [frzR] at e
  | k + 1, n, u, v, e, ⟨a, h1, h2⟩ => by
    obtain ⟨c, q1, q2⟩ := M.at h1
    have ha : a ∈ z.phi := List.mem_of_getElem? h1
    cases c with
    | lst ws =>
      simp only [frzR, q1] at e
      obtain ⟨ys, e1, e2⟩ := frzAs_some e
      subst e2
      obtain ⟨_, _, vs, q3, q4⟩ := q2
      exact ⟨a, vs, h2, ⟨hp a vs ha q3, q3⟩, RWs.frA hz (RW.frR M hz hp k) e1 q4⟩
    | fz ws =>
      simp only [frzR, q1] at e
      obtain ⟨ys, e1, e2⟩ := frzAs_some e
      subst e2
      obtain ⟨_, vs, q3, q4⟩ := q2
      exact ⟨a, vs, h2, ⟨hp a vs ha q3, q3⟩, RWs.frA hz (RW.frR M hz hp k) e1 q4⟩
    | dct _ => simp [frzR, q1] at e
    | ins _ _ => simp [frzR, q1] at e
theorem RW.frozen (M : MemOk K cl z m H) (hz : ∀ a, z.Z a → z'.Z a) (hp : ∀ a xs, a ∈ z.phi → H a = some (.lst xs) → z'.Z a) (k : Nat) {w u : W} {v : V} (e : frzW m k w = some u) (h : RW K z H w v) : RW K z' H u v := RW.frA hz (RW.frR M hz hp k) e h
theorem RFs.frozen (M : MemOk K cl z m H) (hz : ∀ a, z.Z a → z'.Z a) (hp : ∀ a xs, a ∈ z.phi → H a = some (.lst xs) → z'.Z a) (k : Nat) : ∀ {ws us : List (Str × W)} {vs : List (Str × V)}, frzF m k ws = some us → RFs K z H ws vs → RFs K z' H us vs
  | [], _, _, e, h => by simp [frzF] at e; subst e; exact h
  | (x, w) :: ws, _, _, e, ⟨v, r, h1, h2, h3⟩ => by
    simp only [frzF] at e
    split at e
    · rename_i w' e1
      cases q : frzF m k ws with
      | none => rw [q] at e; cases e
      | some ys =>
        rw [q] at e
        simp at e
        subst e
        exact ⟨v, r, h1, RW.frozen M hz hp k e1 h2, RFs.frozen M hz hp k q h3⟩
    · cases e
/-- the callee's view: all of the memory is held -/
abbrev Zn.own (z : Zn) : Zn := { Z := z.Z, hold := fun a => z.hold a ∨ a ∈ z.phi ∧ ¬ z.Z a, phi := [] }
/-- the caller's again: what the callee's memory has of lists is settled -/
abbrev Zn.out (z z' : Zn) (H' : Hp) : Zn := { Z := fun a => z'.Z a ∨ a ∈ z'.phi ∧ ∃ xs, H' a = some (.lst xs), hold := z.hold, phi := z.phi }
theorem MemOk.own (M : MemOk K cl z m H) : MemOk K cl z.own [] H := by
  refine ⟨rfl, List.nodup_nil, ?_, M.lz, ?_, ?_⟩
  · rintro a q (h | ⟨_, h⟩)
    · exact M.sep a q h
    · exact h q
  · rintro a (h | ⟨h, _⟩)
    · exact M.lh a h
    · obtain ⟨n, e⟩ := List.getElem?_of_mem h
      obtain ⟨c, _, hc⟩ := M.at e
      exact hc.there
  · intro n a c h
    simp at h
theorem CellOk.nohold {a : Addr} {c : Cell} (M : MemOk K cl z m H) (h : CellOk K cl z H a c) : ¬ z.hold a := by
  cases c with
  | lst ws => exact h.2.1
  | fz ws => exact M.sep a h.1
  | dct kvs => exact h.1
  | ins c fs => exact h.1
theorem MemOk.back {m' : Mem} (M : MemOk K cl z m H) (e : Ext z.own H z' H') (M' : MemOk K cl z' m' H') : Ext z H (z.out z' H') H' ∧ MemOk K cl (z.out z' H') m H' := by
  have np : ∀ a, a ∈ z'.phi → ¬ z'.hold a := fun a h => by
    obtain ⟨n, e1⟩ := List.getElem?_of_mem h
    obtain ⟨c, _, hc⟩ := M'.at e1
    exact hc.nohold M'
  have e0 : Ext0 z H (z.out z' H') H' := ⟨e.e0.tups, e.e0.frzs, fun a q => ⟨.inl (e.e0.zs a q).1, (e.e0.zs a q).2⟩, fun _ _ h => h⟩
  have ex : Ext z H (z.out z' H') H' := ⟨e0, fun a q => ⟨q, (e.hs a (.inl q)).2⟩⟩
  refine ⟨ex, M.len, M.nd, ?_, ?_, ?_, ?_⟩
  · rintro a (q | ⟨q, _⟩) h
    · exact M'.sep a q (e.hs a (.inl h)).1
    · exact np a q (e.hs a (.inl h)).1
  · rintro a (q | ⟨_, q⟩)
    · exact M'.lz a q
    · exact q
  · intro a q
    rw [(e.hs a (.inl q)).2]
    exact M.lh a q
  · intro n a c h1 h2
    have hc := M.cells n a c h1 h2
    have ha : a ∈ z.phi := List.mem_of_getElem? h1
    by_cases hz : z.Z a
    · refine hc.ext2 e0 ⟨fun _ => hz, fun _ => .inl (e.e0.zs a hz).1⟩ (fun q => q) (e.e0.zs a hz).2
    · have hh := e.hs a (.inr ⟨ha, hz⟩)
      refine hc.ext2 e0 ⟨?_, fun q => absurd q hz⟩ (fun q => q) hh.2
      rintro (q | ⟨q, _⟩)
      · exact absurd hh.1 (M'.sep a q)
      · exact absurd hh.1 (np a q)
theorem spOf_pw {n : Nat} {g : Fw} {vs : List V} {Q : VK} {E : XK} (h : spOf K cl n (pw g) vs H Q E) : spOf K cl n g vs H Q E := by
  obtain ⟨ws, m, z, hl, M, rw', p⟩ := h
  unfold pw at p
  split at p
  · rename_i hg
    refine ⟨ws, [], z.own, hl, M.own, RWs.ground (z := z) (z' := z.own) (fun a q => q) hg rw', ?_⟩
    cases q : g ws [] with
    | bad => rw [q] at p; exact p
    | ok w m1 =>
      rw [q] at p
      simp only at p
      intro z' v H' e M' r
      split at p
      · rename_i w' e1
        obtain ⟨ex, M2⟩ := M.back e M'
        exact p _ v H' ex M2 (RW.frozen (z' := z.out z' H') M' (fun a q => .inl q) (fun a xs q1 q2 => .inr ⟨q1, xs, q2⟩) 6 e1 r)
      · exact p.elim
    | exc x m1 =>
      rw [q] at p
      simp only at p
      intro z' H' c d e M' r
      split at p
      · rename_i fs e1
        obtain ⟨ex, M2⟩ := M.back e M'
        obtain ⟨r1, dd, fs', r2, r3, r4⟩ := r
        exact p _ H' c d ex M2 ⟨r1, dd, fs', r2, r3, RFs.frozen (z' := z.out z' H') M' (fun a q => .inl q) (fun a xs q1 q2 => .inr ⟨q1, xs, q2⟩) 6 e1 r4⟩
      · exact p.elim
  · exact p.elim
theorem fn_pw {P : Program} {w : World} {mg : Str → Option Value} {base : Heap} {k n : Nat} {f : Addr} {fd : FuncData} {ps : List Str} {g : Fw} (F : FnG P w K mg base k f fd ps (spOf K cl n g)) : FnG P w K mg base k f fd ps (spOf K cl n (pw g)) :=
  ⟨fun vs H Q E h => F.len vs H Q E (spOf_pw h), fun A outer s H args us vs Q E hr e0 hb rv h => F.run A outer s H args us vs Q E hr e0 hb rv (spOf_pw h)⟩
end
theorem pw_ok {g : Fw} {ws : List W} {m m1 : Mem} {w w' : W} (h1 : gWs ws = true) (h2 : g ws [] = .ok w m1) (h3 : frzW m1 6 w = some w') : pw g ws m = .ok w' m := by
  unfold pw
  rw [if_pos h1, h2]
  simp only [h3]
end Dn

/-! D17: sorted of a list of data. -/
namespace Dn
open PySem PySem.Spec PyProof.Rows L2

/-! ### insertion, the same as the library's sort -/
section
variable {α : Type} (le : α → α → Bool)
def insB (a : α) : List α → List α
  | [] => [a]
  | b :: l => if le a b = true then a :: b :: l else b :: insB a l
def isort : List α → List α
  | [] => []
  | a :: l => insB le a (isort l)
theorem insB_at {a : α} : ∀ {l r : List α}, (∀ b, b ∈ l → (!le a b) = true) → (∀ b, r.head? = some b → le a b = true) → insB le a (l ++ r) = l ++ a :: r
  | [], [], _, _ => rfl
  | [], b :: r, _, h => by simp [insB, h b rfl]
  | b :: l, r, h1, h2 => by
    have hb : le a b = false := by simpa using h1 b (.head _)
    rw [List.cons_append, insB, hb, if_neg (by decide), insB_at (fun c q => h1 c (.tail _ q)) h2]
    rfl
theorem isort_eq (tr : ∀ a b c : α, le a b = true → le b c = true → le a c = true) (to : ∀ a b : α, (le a b || le b a) = true) : ∀ l : List α, l.mergeSort le = isort le l
  | [] => by simp [isort]
  | a :: l => by
    obtain ⟨l1, l2, e1, e2, h⟩ := List.mergeSort_cons (le := le) (fun a b c => tr a b c) (fun a b => to a b) a l
    have ss := List.pairwise_mergeSort (le := le) (fun a b c => tr a b c) (fun a b => to a b) (a :: l)
    rw [e1] at ss ⊢
    rw [isort, ← isort_eq tr to l, e2, insB_at le h]
    intro b hb
    have s2 := (List.pairwise_append.mp ss).2.1
    cases l2 with
    | nil => cases hb
    | cons c r =>
      simp at hb
      subst hb
      exact (List.pairwise_cons.mp s2).1 _ (.head _)
theorem isort_map {β : Type} {f : β → α} : ∀ l : List β, isort le (l.map f) = (isort (fun x y => le (f x) (f y)) l).map f
  | [] => rfl
  | x :: l => by
    have ins : ∀ l : List β, insB le (f x) (l.map f) = (insB (fun x y => le (f x) (f y)) x l).map f := fun l => by
      induction l with
      | nil => rfl
      | cons y l ih =>
        simp only [List.map_cons, insB]
        split
        · rfl
        · rw [ih]; rfl
    rw [List.map_cons, isort, isort_map l, ins, isort]
theorem insB_perm (a : α) : ∀ l : List α, (insB le a l).Perm (a :: l)
  | [] => .refl _
  | b :: l => by
    unfold insB
    split
    · exact .refl _
    · exact ((insB_perm a l).cons b).trans (List.Perm.swap a b l)
theorem isort_perm : ∀ l : List α, (isort le l).Perm l
  | [] => .refl _
  | a :: l => (insB_perm le a _).trans ((isort_perm l).cons a)
end
theorem dataLe_isort {β : Type} (k : β → PyData) (l : List β) : l.mergeSort (PySem.W.dataLe false k) = isort (PySem.W.dataLe false k) l := by
  have t : PySem.W.TotalLe (PySem.W.dataLe false k) := PySem.W.sortLe_total (listOrd itemOrd) false fun b => PySem.W.keyToks (k b)
  exact isort_eq _ t.trans (fun a b => Bool.or_eq_true_iff.mpr (t.total a b)) l

/-! ### sorted -/
def rSortD (K : PySem.W.Frag) : List V → Hp → VK → Prop := fun vs H Q => ∃ (a : Addr) (ps : List (PyData × V)), vs = [.ref a] ∧ SqL K H a (ps.map (·.2)) ∧ (∀ p, p ∈ ps → Dp K H p.2 p.1 ∧ p.1.depth ≤ 20) ∧
  PySem.W.AllAlike (ps.map (·.1)) ∧ PySem.W.Sortable (ps.map (·.1)) ∧ ∀ q, H q = none → Q (.ref q) (upd H q (.lst ((isort (PySem.W.dataLe false (·.1)) ps).map (·.2))))
theorem each_vals : ∀ {ps : List (PyData × V)} {us : List Value}, Vals (ps.map (·.2)) us → PySem.W.EachIs (fun u (p : PyData × V) => RelV p.2 u) us ps
  | [], _, h => by cases h; exact .nil
  | p :: ps, _, h => by
    cases h with
    | cons h1 h2 => exact .cons h1 (each_vals h2)
theorem vals_each : ∀ {ps : List (PyData × V)} {us : List Value}, PySem.W.EachIs (fun u (p : PyData × V) => RelV p.2 u) us ps → Vals (ps.map (·.2)) us
  | _, _, .nil => .nil
  | _, _, .cons h1 h2 => .cons h1 (vals_each h2)
theorem each_reads {X : Cx} {pins : List (Addr × Obj)} {σ : L2.St} {H : Hp} {s : Shared} (I : Inv X pins σ H s) : ∀ {ps : List (PyData × V)} {us : List Value}, (∀ p, p ∈ ps → Dp X.K H p.2 p.1 ∧ p.1.depth ≤ 20) → Vals (ps.map (·.2)) us → PySem.W.EachIs (fun u (p : PyData × V) => ∃ as, Reads s.heap u p.1 as) us ps
  | [], _, _, h => by cases h; exact .nil
  | p :: ps, _, hd, h => by
    cases h with
    | cons h1 h2 => exact .cons (Dp.reads I p.1 p.2 _ (hd p (.head _)).1 h1) (each_reads I (fun q m => hd q (.tail _ m)) h2)
theorem cr_sortD {X : Cx} (hu : X.A.units + 65 < cLine) : CallR X (.builtin "sorted") (rSortD X.K) := by
  intro pins s σ H vs us Q I r h
  obtain ⟨a, ps, rfl, hs, hd, hal, hk, q⟩ := h
  obtain ⟨its, rv, hl, hz⟩ := I.list hs
  obtain ⟨u, rfl, ru⟩ := vals1 r
  obtain rfl : u = Value.ref a := ru
  have hlen : ps.length ≤ sizeLine := by simpa using hz
  refine PySem.W.sorted_data (enc := fun p : PyData × V => p.1) (bs := ps) (R := fun u (p : PyData × V) => RelV p.2 u) hl.isList (each_vals rv) (each_reads I hd rv) hal hk hlen (fun p m => by have := (hd p m).2; omega) fun out ho he => ?_
  rw [dataLe_isort] at he
  have vv := vals_each he
  obtain ⟨n, hn⟩ := sortedAll_at s.heap its (List.toArray out)
  refine ⟨.ref (s.heap.objs.size + 1), _, I.laid (t' := s.toks) (o := .lst ((isort (PySem.W.dataLe false (·.1)) ps).map (·.2))) (fun b o e => sortedAll_old e) (Nat.le_succ _) ⟨?_, out, n, vv, hn⟩, rfl, q _ (I.hok.fresh (Nat.le_succ _))⟩
  rw [List.length_map, (isort_perm _ ps).length_eq]
  exact hlen
def alikeB (ws : List W) : Bool := ws.all fun a => ws.all fun b => PySem.W.alike (toD a) (toD b)
def tupB : W → Bool
  | .tup (_ :: _) => true
  | _ => false
def plainB : W → Bool
  | .bl _ => true
  | .int _ => true
  | .str _ => true
  | .lst _ => true
  | _ => false
def sortB (ws : List W) : Bool := ws.all tupB || ws.all plainB
def leD (a b : W) : Bool := PySem.W.dataLe false toD a b
def sortedW (m : Mem) : List W → Option (List W)
  | [w] => match lstOf m w with
    | some ws => if okWs 20 ws && (alikeB ws && sortB ws) then some (isort leD ws) else none
    | none => none
  | _ => none
section
variable {K : PySem.W.Frag} {cl : Nat → Addr}
theorem rws_zip {z : Zn} {H : Hp} : ∀ {ws : List W} {vs : List V}, RWs K z H ws vs → ∃ zs : List (W × V), zs.map (·.1) = ws ∧ zs.map (·.2) = vs ∧ ∀ p, p ∈ zs → RW K z H p.1 p.2
  | [], _, h => by cases h; exact ⟨[], rfl, rfl, fun p h => by cases h⟩
  | w :: ws, _, ⟨v, r, h1, h2, h3⟩ => by
    subst h1
    obtain ⟨zs, e1, e2, e3⟩ := rws_zip h3
    refine ⟨(w, v) :: zs, by simp [e1], by simp [e2], fun p h => ?_⟩
    rcases List.mem_cons.mp h with rfl | h
    · exact h2
    · exact e3 p h
theorem zip_rws {z : Zn} {H : Hp} : ∀ {zs : List (W × V)}, (∀ p, p ∈ zs → RW K z H p.1 p.2) → RWs K z H (zs.map (·.1)) (zs.map (·.2))
  | [], _ => rfl
  | p :: zs, h => ⟨p.2, _, rfl, h p (.head _), zip_rws fun q m => h q (.tail _ m)⟩
theorem okWs_mem {n : Nat} : ∀ {ws : List W}, okWs n ws = true → ∀ w, w ∈ ws → okW n w = true
  | [], _, _, h => by cases h
  | x :: ws, h, w, m => by
    rw [okWs, Bool.and_eq_true_iff] at h
    rcases List.mem_cons.mp m with rfl | m
    · exact h.1
    · exact okWs_mem h.2 w m
theorem w_sorted : ClN K cl sortedW (rSortD K) := by
  intro z m H ws vs us Q M rws e k
  match ws, e, rws with
  | [u], e, rws =>
    obtain ⟨v, e1, e2⟩ := rws.one
    subst e1
    simp only [sortedW] at e
    split at e
    · rename_i xs ex
      split at e
      · rename_i c
        rw [Bool.and_eq_true_iff, Bool.and_eq_true_iff] at c
        obtain ⟨c1, c2, c3⟩ := c
        cases e
        obtain ⟨a, vs, f1, f2, f3⟩ := lst_at M e2 ex
        subst f1
        obtain ⟨zs, g1, g2, g3⟩ := rws_zip f3
        have okz : ∀ p, p ∈ zs → okW 20 p.1 = true := fun p hp => okWs_mem c1 p.1 (by rw [← g1]; exact List.mem_map.mpr ⟨p, hp, rfl⟩)
        have em : ∀ (f : W → PyData), (zs.map fun p => (f p.1, p.2)).map (·.1) = xs.map f := fun f => by rw [← g1, List.map_map, List.map_map]; rfl
        have e2m : (zs.map fun p => (toD p.1, p.2)).map (·.2) = vs := by rw [← g2, List.map_map]; rfl
        refine ⟨a, zs.map fun p => (toD p.1, p.2), rfl, by rw [e2m]; exact f2, ?_, ?_, ?_, fun q hq => ?_⟩
        · intro p hp
          obtain ⟨w, hw, rfl⟩ := List.mem_map.mp hp
          exact ⟨dp_of (okz w hw) (g3 w hw), (okW_lay 20 w.1 (okz w hw)).2⟩
        · rw [em]
          intro d hd d' hd'
          obtain ⟨w, hw, rfl⟩ := List.mem_map.mp hd
          obtain ⟨w', hw', rfl⟩ := List.mem_map.mp hd'
          exact (List.all_eq_true.mp ((List.all_eq_true.mp c2) w hw)) w' hw'
        · rw [em]
          rcases Bool.or_eq_true_iff.mp c3 with h | h
          · refine .inl fun d hd => ?_
            obtain ⟨w, hw, rfl⟩ := List.mem_map.mp hd
            have := (List.all_eq_true.mp h) w hw
            cases w with
            | tup ys =>
              cases ys with
              | nil => cases this
              | cons y ys => exact ⟨toD y, toDs ys, by simp [toD, toDs]⟩
            | _ => cases this
          · refine .inr fun d hd => ?_
            obtain ⟨w, hw, rfl⟩ := List.mem_map.mp hd
            have := (List.all_eq_true.mp h) w hw
            cases w with
            | bl b => exact ⟨by simp [toD], fun xs => by simp [toD]⟩
            | int b => exact ⟨by simp [toD], fun xs => by simp [toD]⟩
            | str b => exact ⟨by simp [toD], fun xs => by simp [toD]⟩
            | lst b => exact ⟨by simp [toD], fun xs => by simp [toD]⟩
            | _ => cases this
        · have i1 : (isort (PySem.W.dataLe false (·.1)) (zs.map fun p => (toD p.1, p.2))).map (·.2) = (isort (fun p p' : W × V => leD p.1 p'.1) zs).map (·.2) := by
            rw [isort_map, List.map_map]
            rfl
          have i2 : isort leD xs = (isort (fun p p' : W × V => leD p.1 p'.1) zs).map (·.1) := by
            rw [← g1, isort_map]
          rw [i2] at k
          show Q (.ref q) (upd H q (.lst ((isort (PySem.W.dataLe false (·.1)) (zs.map fun p => (toD p.1, p.2))).map (·.2))))
          rw [i1]
          obtain ⟨t1, t2, t3⟩ := new_rel (cl := cl) M hq (zip_rws (zs := isort (fun p p' : W × V => leD p.1 p'.1) zs) fun p hp => g3 p ((isort_perm _ zs).mem_iff.mp hp))
          exact k _ _ _ t1 t2 t3
      · cases e
    · cases e
  | [], e, _ => cases e
  | _ :: _ :: _, e, _ => simp [sortedW] at e
theorem boot_sorted : bootBuiltins "sorted" = some (.builtin "sorted") := by decide +kernel
end
end Dn

/-! D18: targets that store into lists: a[i], b[j] = e. -/
namespace Dn
open PySem PySem.Spec PyProof.Rows L2
section
variable {X : Cx} {cl : Nat → Addr} {Wx : WX} {e o : Expr} {pos : Pos}
abbrev DM := W → Rho → Mem → RS
def PostM (g : Gx) (z : Zn) (H : Hp) (q : RS) (Q : L2.St → Hp → Prop) : Prop := match q with
  | .next r m => ∀ z' s' H', Ext z H z' H' → Rel g.K g.cl z' r m s' H' → Q s' H'
  | _ => False
def tGm (g : Gx) (f : DM) : TG := fun v s H Q => ∃ w r m z, Rel g.K g.cl z r m s H ∧ RW g.K z H w v ∧ PostM g z H (f w r m) Q
def tGms (g : Gx) (f : List W → Rho → Mem → RS) : TGs := fun vs s H Q => ∃ ws r m z, Rel g.K g.cl z r m s H ∧ RWs g.K z H ws vs ∧ PostM g z H (f ws r m) Q
theorem PostM.mono {g : Gx} {z z1 : Zn} {H H1 : Hp} {q : RS} {Q : L2.St → Hp → Prop} (e : Ext z H z1 H1) (h : PostM g z H q Q) : PostM g z1 H1 q Q := by
  cases q with
  | next r m => exact fun z' s' H' e' => h z' s' H' (e.trans e')
  | _ => exact h
def gmN (i : Nat) : DM := fun w r m => .next (r.set i (some w)) m
def gmSub (fo fi : DE) : DM := fun v r m => match fo r m with
  | .ok w m1 => match fi r m1 with
    | .ok i m2 => match setM m2 w i v with
      | some m3 => .next r m3
      | none => .bad
    | _ => .bad
  | _ => .bad
def gmsNil : List W → Rho → Mem → RS := fun ws r m => match ws with
  | [] => .next r m
  | _ => .bad
def gmsCons (f : DM) (t : List W → Rho → Mem → RS) : List W → Rho → Mem → RS := fun ws r m => match ws with
  | w :: ws => match f w r m with
    | .next r1 m1 => t ws r1 m1
    | _ => .bad
  | [] => .bad
def gmT (n : Nat) (t : List W → Rho → Mem → RS) : DM := fun w r m => match w with
  | .tup ws => if ws.length = n then t ws r m else .bad
  | _ => .bad
theorem set_rel {K : PySem.W.Frag} {z : Zn} {m m' : Mem} {H : Hp} {w k v : W} {y u x : V} {Q : Hp → Prop} (M : MemOk K cl z m H) (ro : RW K z H w y) (r3 : RW K z H k u) (r1 : RW K z H v x) (e : setM m w k v = some m')
    (kk : ∀ z' H', Ext z H z' H' → MemOk K cl z' m' H' → Q H') : rSetL y u x H Q ∨ rSetD y u x H Q := by
  cases w with
  | ref n =>
    obtain ⟨p, q1, q2⟩ := ro
    subst q2
    simp only [setM] at e
    cases q : m[n]? with
    | none => rw [q] at e; cases e
    | some c =>
      rw [q] at e
      cases c with
      | lst xs =>
        cases k with
        | int j =>
          have r3 : u = .int j := r3
          subst r3
          simp only at e
          cases q4 : ixN xs.length j with
          | none => rw [q4] at e; cases e
          | some l =>
            rw [q4] at e
            cases e
            obtain ⟨n1, n2, us, h2, h3⟩ := M.cells n p _ q1 q
            refine .inl ⟨p, us, j, l, rfl, rfl, h2, by rw [h3.length]; exact q4, ?_⟩
            obtain ⟨ex, M2⟩ := M.write (c' := .lst (xs.set l v)) (o' := .lst (us.set l x)) q1 q rfl fun ex => ⟨n1, n2, _, upd_same, RWs.set (r1.ext ex) l (RWs.ext ex h3)⟩
            exact kk _ _ ex M2
        | _ => cases e
      | dct kvs =>
        simp only at e
        cases q4 : keyW k with
        | none => rw [q4] at e; cases e
        | some key =>
          rw [q4] at e
          simp only at e
          by_cases hl : kvs.length < 16777216
          · rw [if_pos hl] at e
            cases e
            obtain ⟨n2, us, h2, h3⟩ := M.cells n p _ q1 q
            have hy := key_rel r3 q4
            subst hy
            refine .inr ⟨p, _, rfl, DPut.k h2 (by rw [h3.length]; exact sl_lt hl), ?_⟩
            obtain ⟨ex, M2⟩ := M.write (c' := .dct (putW kvs key v)) (o' := .dK (putK us key x)) q1 q rfl fun ex => ⟨n2, _, upd_same, putW_rel (r1.ext ex) (RFs.ext ex h3)⟩
            exact kk _ _ ex M2
          · rw [if_neg hl] at e; cases e
      | fz xs => cases e
      | ins c fs => cases e
  | _ => cases e
theorem sm_name {i : Nat} {x : Str} (h : PG X (.Name x pos) (gName i)) : PG X (.Name x pos) (tGm (gx X cl Wx) (gmN i)) :=
  h.imp fun v s H Q ⟨w, r, m, z, R, q, k⟩ => k z _ H (Ext.refl _ _) ⟨R.slots.set q, R.mem⟩
theorem sm_sub {fo fi : DE} {i : Expr} (hu : X.A.units + 1 < cLine) (ho : PE X o (tE (gx X cl Wx) fo)) (hi : PE X i (tE (gx X cl Wx) fi))
    (ha : ∀ v, assign (.Subscript o i pos) X.env v = (do
      let ov ← holding [v] (eval o X.env)
      let iv ← holding [v, ov] (eval i X.env)
      standAt pos
      holding [v, ov, iv] (setItem ov iv v)
      release [v, ov, iv] []) := by intro _; rfl) : PG X (.Subscript o i pos) (tGm (gx X cl Wx) (gmSub fo fi)) :=
  (pg_sub ho hi (PSet.or set_list (set_dict hu)) ha).imp fun v s H Q ⟨w, r, m, z, R, q, P⟩ => by
    unfold gmSub at P
    refine ⟨r, m, z, R, ?_⟩
    cases e1 : fo r m with
    | exc x m1 => rw [e1] at P; exact P.elim
    | bad => rw [e1] at P; exact P.elim
    | ok w1 m1 =>
      rw [e1] at P
      simp only at P
      intro z1 y H1 E1 R1 r1
      refine ⟨r, m1, z1, R1, ?_⟩
      cases e2 : fi r m1 with
      | exc x m2 => rw [e2] at P; exact P.elim
      | bad => rw [e2] at P; exact P.elim
      | ok i2 m2 =>
        rw [e2] at P
        simp only at P
        intro z2 u H2 E2 R2 r2
        cases e3 : setM m2 w1 i2 w with
        | none => rw [e3] at P; exact P.elim
        | some m3 =>
          rw [e3] at P
          have P := PostM.mono (E1.trans E2) P
          exact set_rel R2.mem (RW.ext E2 r1) r2 (RW.ext (E1.trans E2) q) e3 fun z' H' ex M => P z' s H' ex (R2.after ex M)
theorem sms_nil : PGs X [] (tGms (gx X cl Wx) gmsNil) := pgs_nil.imp fun vs s H Q ⟨ws, r, m, z, R, q, k⟩ => by
  cases ws with
  | nil => exact ⟨q, k z s H (Ext.refl _ _) R⟩
  | cons w ws => exact k.elim
theorem sms_cons {es : List Expr} {f : DM} {t : List W → Rho → Mem → RS} (h1 : PG X e (tGm (gx X cl Wx) f)) (h2 : PGs X es (tGms (gx X cl Wx) t))
    (hs : (assignEach (e :: es) X.env).map (·.2) = assign e X.env :: (assignEach es X.env).map (·.2) := by rfl) : PGs X (e :: es) (tGms (gx X cl Wx) (gmsCons f t)) :=
  (pgs_cons h1 h2 hs).imp fun vs s H Q ⟨ws, r, m, z, R, q, k⟩ => by
    cases ws with
    | nil => exact k.elim
    | cons w ws =>
      obtain ⟨v, vr, e1, q1, q2⟩ := q
      refine ⟨v, vr, e1, w, r, m, z, R, q1, ?_⟩
      simp only [gmsCons] at k
      cases e2 : f w r m with
      | next r1 m1 =>
        rw [e2] at k
        exact fun z' s' H' ex R' => ⟨ws, r1, m1, z', R', RWs.ext ex q2, PostM.mono ex k⟩
      | _ => rw [e2] at k; exact k.elim
theorem sm_tup {es : List Expr} {x1 : Nat} {t : List W → Rho → Mem → RS} {n : Nat} (hc : X.calm = true) (h : PGs X es (tGms (gx X cl Wx) t))
    (hn : (assignEach es X.env).length = n := by rfl) (hst : (assignEach es X.env).findIdx? (·.1) = none := by rfl) : PG X (.Tuple es x1 pos) (tGm (gx X cl Wx) (gmT n t)) :=
  (pg_tup hc h hn hst).imp fun v s H Q ⟨w, r, m, z, R, q, k⟩ => by
    cases w with
    | tup ws =>
      obtain ⟨p, vs, e1, e2, e3⟩ := q
      simp only [gmT] at k
      split at k
      · rename_i hl
        exact ⟨p, vs, e1, e2, by rw [e3.length]; exact hl, ws, r, m, z, R, e3, k⟩
      · exact k.elim
    | _ => exact k.elim
def sAsgM (f : DE) (t : DM) : DS := fun r m => (f r m).thenS r fun w m1 => match t w r m1 with
  | .next r' m2 => .next r' m2
  | _ => .bad
theorem ss_asgM {tg : Expr} {f : DE} {t : DM} (he : PE X e (tE (gx X cl Wx) f)) (hg : PG X tg (tGm (gx X cl Wx) t)) (hs : swapsWithSole [tg] e pos.line X.env = pure false := by rfl) (hw : swappedStores [tg] e X.env = pure none := by rfl)
    (h1 : (assignEach [tg] X.env).map (·.2) = [assign tg X.env] := by rfl) : PS X (.Assign [tg] e pos) (tS (gx X cl Wx) (sAsgM f t)) :=
  (ps_asg he hg hs hw h1).imp fun D s H ⟨r, m, z, R, P⟩ => ⟨r, m, z, R, P.bind fun z1 w m1 v H1 E1 R1 r1 P1 => by
    refine ⟨w, r, m1, z1, R1, r1, ?_⟩
    cases e2 : t w r m1 with
    | next r' m2 => rw [e2] at P1; exact fun z' s' H' ex R' => P1 z' s' H' ex R'
    | _ => rw [e2] at P1; exact P1.elim⟩
/-- a, b, c = x, y, z by names -/
def sPar3 (i j l : Nat) (t : DA) : DS := fun r m => (t r m).thenS r fun ws m1 => match ws with
  | [u, v, w] => .next (((r.set i (some u)).set j (some v)).set l (some w)) m1
  | _ => .bad
theorem ss_par3 {i j l : Nat} {x y z : Str} {a b c : Expr} {t : DA} {px py pz pt : Pos} {kt k2 pt2} (hc : X.calm = true) (hN : X.N.Nodup) (hi : X.N[i]? = some x) (hj : X.N[j]? = some y) (hl : X.N[l]? = some z) (hij : i ≠ j) (hil : i ≠ l) (hjl : j ≠ l)
    (hx : X.env.scope.names.lookup x = some .local) (hy : X.env.scope.names.lookup y = some .local) (hz : X.env.scope.names.lookup z = some .local) (ha : PA X [a, b, c] (tA (gx X cl Wx) t))
    (hw : swappedStores [.Tuple [.Name x px, .Name y py, .Name z pz] kt pt] (.Tuple [a, b, c] k2 pt2) X.env = pure (some [x, y, z]))
    (hs : swapsWithSole [.Tuple [.Name x px, .Name y py, .Name z pz] kt pt] (.Tuple [a, b, c] k2 pt2) pos.line X.env = pure false := by rfl) :
    PS X (.Assign [.Tuple [.Name x px, .Name y py, .Name z pz] kt pt] (.Tuple [a, b, c] k2 pt2) pos) (tS (gx X cl Wx) (sPar3 i j l t)) :=
  (ps_par3 hc hN hi hj hl hij hil hjl hx hy hz ha hw hs).imp fun D s H ⟨r, m, z, R, P⟩ => ⟨r, m, z, R, P.bind (rel := RWs X.K) fun z1 ws m1 vs H1 E1 R1 r1 P1 => by
    split at P1
    · obtain ⟨v, vr, e1, q1, v2, vr2, e2, q2, v3, vr3, e3, q3, e4⟩ := r1
      subst e1 e2 e3 e4
      exact ⟨v, v2, v3, rfl, P1 z1 _ H1 (Ext.refl _ _) ⟨((R1.slots.set q1).set q2).set q3, R1.mem⟩⟩
    · exact P1.elim⟩
/-- (a, b, ..) = a tuple or a list of that length -/
def gmU (n : Nat) (t : List W → Rho → Mem → RS) : DM := fun w r m => match seqOf m w with
  | some ws => if ws.length = n then t ws r m else .bad
  | none => .bad
theorem pg_any {es : List Expr} {k : Nat} {t : TGs} {n : Nat} (hc : X.calm = true) (h : PGs X es t)
    (hn : (assignEach es X.env).length = n := by rfl) (hst : (assignEach es X.env).findIdx? (·.1) = none := by rfl) : PG X (.Tuple es k pos) (fun v s H Q => gTup X.K n t v s H Q ∨ gUnl X.K n t v s H Q) :=
  ⟨fun pins sh s H v u Q I rv q => q.elim (fun q => (pg_tup hc h hn hst).run pins sh s H v u Q I rv q) fun q => (pg_unl hc h hn hst).run pins sh s H v u Q I rv q⟩
theorem sm_unp {es : List Expr} {x1 : Nat} {t : List W → Rho → Mem → RS} {n : Nat} (hc : X.calm = true) (h : PGs X es (tGms (gx X cl Wx) t))
    (hn : (assignEach es X.env).length = n := by rfl) (hst : (assignEach es X.env).findIdx? (·.1) = none := by rfl) : PG X (.Tuple es x1 pos) (tGm (gx X cl Wx) (gmU n t)) :=
  (pg_any hc h hn hst).imp fun v s H Q ⟨w, r, m, z, R, q, k⟩ => by
    unfold gmU at k
    cases e0 : seqOf m w with
    | none => rw [e0] at k; exact k.elim
    | some ws =>
      rw [e0] at k
      simp only at k
      split at k
      · rename_i hl
        obtain ⟨p, vs, e1, e2, e3⟩ := seq_at R.mem q e0
        rcases e2 with e2 | e2
        · exact .inr ⟨p, vs, e1, e2, by rw [e3.length]; exact hl, ws, r, m, z, R, e3, k⟩
        · exact .inl ⟨p, vs, e1, e2, by rw [e3.length]; exact hl, ws, r, m, z, R, e3, k⟩
      · exact k.elim
def loopM (t : DM) (body : DS) : List W → Rho → Mem → RS
  | [], r, m => .next r m
  | w :: ws, r, m => match t w r m with
    | .next r1 m1 => match body r1 m1 with
      | .next r2 m2 => loopM t body ws r2 m2
      | .cont r2 m2 => loopM t body ws r2 m2
      | .brk r2 m2 => .next r2 m2
      | .ret u m2 => .ret u m2
      | .exc x r2 m2 => .exc x r2 m2
      | .bad => .bad
    | _ => .bad
def sForM (src : DA) (t : DM) (body : DS) : DS := fun r m => (src r m).thenS r fun ws m1 => loopM t body ws r m1
theorem ss_forM {tg iter : Expr} {body : List Stmt} {src : DA} {t : DM} {fb : DS} (hp : PassesOwn (model X.prog X.w) X.A X.env X.xe) (hc : X.calm = true) (hi : PI X tg iter (tI (gx X cl Wx) src)) (hg : PG X tg (tGm (gx X cl Wx) t)) (hb : PSs X body (tS (gx X cl Wx) fb))
    (hs : ∀ x, foldedSetIterable iter X.env x = pure x := by intro _; rfl) : PS X (.For tg iter body [] pos) (tS (gx X cl Wx) (sForM src t fb)) :=
  (ps_for hp hc hi hg hb hs).imp fun D s H ⟨r, m, z, R, P⟩ => ⟨r, m, z, R, P.bind (rel := Walks X.K) fun z1 ws m1 J H1 E1 R1 r1 P1 => by
    refine ⟨fun i k s' H' => ∃ r' m' z', k = ws.length - i ∧ i ≤ ws.length ∧ Rel X.K cl z' r' m' s' H' ∧ Ext z1 H1 z' H' ∧ PostS (gx X cl Wx) z' H' (loopM t fb (ws.drop i) r' m') D, ⟨ws.length, r, m1, z1, by simp, Nat.zero_le _, R1, Ext.refl _ _, by simpa using P1⟩, ?_⟩
    rintro i k s2 H2 ⟨r2, m2, z2, rfl, hi2, R2, E2, P2⟩
    obtain ⟨hstop, hgo⟩ := r1.2 z2 H2 E2.e0 i
    by_cases hlt : i < ws.length
    · obtain ⟨g1, g2⟩ := hgo ws[i] (List.getElem?_eq_getElem hlt)
      rw [List.drop_eq_getElem_cons hlt] at P2
      simp only [loopM] at P2
      refine .inr ⟨g1, fun s' H' => ∃ r' m' z', Rel X.K cl z' r' m' s' H' ∧ Ext z1 H1 z' H' ∧ PostS (gx X cl Wx) z' H' (loopM t fb (ws.drop (i + 1)) r' m') D, fun s' H' ⟨r', m', z', a1, a2, a3⟩ => ⟨ws.length - (i + 1), by omega, r', m', z', rfl, hlt, a1, a2, a3⟩, fun x H3 y => ?_⟩
      obtain ⟨sm, q3⟩ := g2 x H3 y
      have E3 := R2.mem.extS sm
      have R3 := R2.same sm
      have P3 := PostS.mono E3 P2
      refine ⟨ws[i], r2, m2, z2, R3, q3 z2 E3.e0, ?_⟩
      cases q4 : t ws[i] r2 m2 with
      | next r4 m4 =>
        rw [q4] at P3
        intro z4 s4 H4 e4 R4
        have P4 := PostS.mono e4 P3
        refine ⟨r4, m4, z4, R4, ?_⟩
        simp only at P4
        cases q5 : fb r4 m4 with
        | next r5 m5 =>
          rw [q5] at P4
          exact fun z' s' H' e5 R5 => ⟨r5, m5, z', R5, ((E2.trans E3).trans e4).trans e5, PostS.mono e5 P4⟩
        | cont r5 m5 =>
          rw [q5] at P4
          exact fun z' s' H' e5 R5 => ⟨r5, m5, z', R5, ((E2.trans E3).trans e4).trans e5, PostS.mono e5 P4⟩
        | brk r5 m5 => rw [q5] at P4; exact P4
        | ret u m5 => rw [q5] at P4; exact P4
        | exc x r5 m5 => rw [q5] at P4; exact P4
        | bad => rw [q5] at P4; exact P4
      | _ => rw [q4] at P3; exact P3.elim
    · have hi3 : ws.length ≤ i := Nat.le_of_not_lt hlt
      refine .inl ⟨hstop (Nat.le_antisymm hi2 hi3), ?_⟩
      rw [List.drop_eq_nil_of_le hi3] at P2
      exact P2.next R2⟩
/-! ### max, min of a list of ints -/
def maxI : List Int → Int
  | [] => 0
  | [n] => n
  | n :: ns => max n (maxI ns)
def minI : List Int → Int
  | [] => 0
  | [n] => n
  | n :: ns => min n (minI ns)
theorem maxI_is : ∀ ns : List Int, ns ≠ [] → maxI ns ∈ ns ∧ ∀ y, y ∈ ns → y ≤ maxI ns
  | [], h => absurd rfl h
  | [n], _ => ⟨.head _, fun y h => by simp at h; subst h; exact Int.le_refl _⟩
  | n :: k :: ns, _ => by
    obtain ⟨h1, h2⟩ := maxI_is (k :: ns) (by simp)
    rw [maxI]
    refine ⟨?_, fun y h => ?_⟩
    · by_cases c : n ≤ maxI (k :: ns)
      · rw [Int.max_eq_right c]; exact .tail _ h1
      · rw [Int.max_eq_left (by omega)]; exact .head _
    · rcases List.mem_cons.mp h with rfl | h
      · exact Int.le_max_left _ _
      · exact Int.le_trans (h2 y h) (Int.le_max_right _ _)
    all_goals simp
theorem minI_is : ∀ ns : List Int, ns ≠ [] → minI ns ∈ ns ∧ ∀ y, y ∈ ns → minI ns ≤ y
  | [], h => absurd rfl h
  | [n], _ => ⟨.head _, fun y h => by simp at h; subst h; exact Int.le_refl _⟩
  | n :: k :: ns, _ => by
    obtain ⟨h1, h2⟩ := minI_is (k :: ns) (by simp)
    rw [minI]
    refine ⟨?_, fun y h => ?_⟩
    · by_cases c : n ≤ minI (k :: ns)
      · rw [Int.min_eq_left c]; exact .head _
      · rw [Int.min_eq_right (by omega)]; exact .tail _ h1
    · rcases List.mem_cons.mp h with rfl | h
      · exact Int.min_le_left _ _
      · exact Int.le_trans (Int.min_le_right _ _) (h2 y h)
    all_goals simp
def maxLW (m : Mem) : List W → Option W
  | [w] => match lstOf m w with
    | some ws => match intsW ws with
      | some (n :: ns) => some (.int (maxI (n :: ns)))
      | _ => none
    | none => none
  | _ => none
def minLW (m : Mem) : List W → Option W
  | [w] => match lstOf m w with
    | some ws => match intsW ws with
      | some (n :: ns) => some (.int (minI (n :: ns)))
      | _ => none
    | none => none
  | _ => none
theorem ints_rel {K : PySem.W.Frag} {z : Zn} {H : Hp} : ∀ {ws : List W} {vs : List V} {ns : List Int}, RWs K z H ws vs → intsW ws = some ns → vs = ns.map V.int
  | [], _, _, h, e => by cases h; cases e; rfl
  | w :: ws, _, ns, ⟨v, r, h1, h2, h3⟩, e => by
    subst h1
    cases w with
    | int i =>
      simp only [intsW] at e
      cases q : intsW ws with
      | none => rw [q] at e; cases e
      | some ks =>
        rw [q] at e
        simp at e
        subst e
        rw [ints_rel h3 q, show v = .int i from h2]
        rfl
    | _ => simp [intsW] at e
theorem w_maxL {K : PySem.W.Frag} : ClW K cl maxLW (rMax K) := by
  intro z m H ws vs w Q M rws e k
  match ws, e, rws with
  | [u], e, rws =>
    obtain ⟨v, e1, e2⟩ := rws.one
    subst e1
    simp only [maxLW] at e
    split at e
    · rename_i xs ex
      split at e
      · rename_i n ns ei
        cases e
        obtain ⟨a, us, f1, f2, f3⟩ := lst_at M e2 ex
        subst f1
        have f4 := ints_rel f3 ei
        subst f4
        refine ⟨a, n :: ns, rfl, f2, by simp, fun i h1 h2 => ?_⟩
        obtain ⟨g1, g2⟩ := maxI_is (n :: ns) (by simp)
        have : i = maxI (n :: ns) := Int.le_antisymm (g2 i h1) (h2 _ g1)
        subst this
        exact k z _ H (Ext.refl _ _) M rfl
      · cases e
    · cases e
  | [], e, _ => cases e
  | _ :: _ :: _, e, _ => simp [maxLW] at e
theorem w_minL {K : PySem.W.Frag} : ClW K cl minLW (rMin K) := by
  intro z m H ws vs w Q M rws e k
  match ws, e, rws with
  | [u], e, rws =>
    obtain ⟨v, e1, e2⟩ := rws.one
    subst e1
    simp only [minLW] at e
    split at e
    · rename_i xs ex
      split at e
      · rename_i n ns ei
        cases e
        obtain ⟨a, us, f1, f2, f3⟩ := lst_at M e2 ex
        subst f1
        have f4 := ints_rel f3 ei
        subst f4
        refine ⟨a, n :: ns, rfl, f2, by simp, fun i h1 h2 => ?_⟩
        obtain ⟨g1, g2⟩ := minI_is (n :: ns) (by simp)
        have : i = minI (n :: ns) := Int.le_antisymm (h2 _ g1) (g2 i h1)
        subst this
        exact k z _ H (Ext.refl _ _) M rfl
      · cases e
    · cases e
  | [], e, _ => cases e
  | _ :: _ :: _, e, _ => simp [minLW] at e
end
end Dn

/-! D19: is not of bools. -/
namespace Dn
open PySem PySem.Spec PyProof.Rows L2
section
variable {K : PySem.W.Frag} {cl : Nat → Addr}
def notBW (_ : Mem) (a b : W) : Option W := match a, b with
  | .bl x, .bl y => some (.bl (!decide (x = y)))
  | _, _ => none
theorem w_notB : OpW K cl notBW rNotB := by
  intro z m H a b x y w Q M ra rb e k
  unfold notBW at e
  split at e
  · cases e
    exact ⟨_, _, ra, rb, k z _ H (Ext.refl _ _) M rfl⟩
  · cases e
end
end Dn

/-! D20: repr of data; texts compared. -/
namespace Dn
open PySem PySem.Spec PyProof.Rows L2
def rRepr (K : PySem.W.Frag) : List V → Hp → VK → Prop := fun vs H Q => ∃ v d, vs = [v] ∧ Dp K H v d ∧ d.depth ≤ 60 ∧ d.showable = true ∧ d.hasDict = false ∧ d.shown.length ≤ sizeLine ∧ Q (.str d.shown) H
theorem cr_repr {X : Cx} (hu : X.A.units + 65 < cLine) (hg : X.A.guards = some []) : CallR X (.builtin "repr") (rRepr X.K) := by
  intro pins s σ H vs us Q I r h
  obtain ⟨v, d, rfl, hD, hdp, hsh, hnd, hsz, q⟩ := h
  obtain ⟨u, rfl, ru⟩ := vals1 r
  obtain ⟨as, rd⟩ := Dp.reads I d v u hD ru
  cases rd with
  | none =>
    simp only [PyData.shown] at q
    exact PySem.P.repr_of_none ⟨.str _, H, I.tok _, ⟨_, rfl⟩, q⟩
  | bool b =>
    simp only [PyData.shown] at q
    exact PySem.P.repr_of_bool ⟨.str _, H, I.tok _, ⟨_, rfl⟩, q⟩
  | int i t =>
    simp only [PyData.shown] at q
    exact PySem.P.repr_of_int (by simpa [PyData.showable] using hsh) ⟨.str _, H, I.tok _, ⟨_, rfl⟩, q⟩
  | str x t =>
    simp only [PyData.shown] at q hsz
    exact PySem.P.repr_of_str ⟨.str _, H, I.tok _, ⟨_, rfl⟩, q⟩ hsz
  | list h1 h2 h3 h4 =>
    exact repr_of_reads' (.list h1 h2 h3 h4) hsh (PyData.noDict_hsm hnd) hg (by omega) (fun _ _ e => e) (fun h' u tk hk => ⟨.str _, H, I.kept hk, ⟨_, rfl⟩, q⟩) hsz
  | tuple h1 h2 h3 h4 =>
    exact repr_of_reads' (.tuple h1 h2 h3 h4) hsh (PyData.noDict_hsm hnd) hg (by omega) (fun _ _ e => e) (fun h' u tk hk => ⟨.str _, H, I.kept hk, ⟨_, rfl⟩, q⟩) hsz
  | dict h1 h2 h3 h4 h5 => simp [PyData.hasDict] at hnd
def reprW (m : Mem) : List W → Option W
  | [w] => if okW 60 (rsv m w) && ((toD (rsv m w)).showable && decide ((toD (rsv m w)).shown.length ≤ 16777216)) then some (.str (toD (rsv m w)).shown) else none
  | _ => none
section
variable {K : PySem.W.Frag} {cl : Nat → Addr}
theorem w_repr : ClW K cl reprW (rRepr K) := by
  intro z m H ws vs w Q M rws e k
  match ws, e, rws with
  | [u], e, rws =>
    obtain ⟨v, e1, e2⟩ := rws.one
    subst e1
    simp only [reprW] at e
    cases hb : okW 60 (rsv m u) && ((toD (rsv m u)).showable && decide ((toD (rsv m u)).shown.length ≤ 16777216)) with
    | false => rw [hb] at e; cases e
    | true =>
      rw [hb] at e
      cases e
      rw [Bool.and_eq_true_iff, Bool.and_eq_true_iff, decide_eq_true_eq] at hb
      obtain ⟨h1, h2, h3⟩ := hb
      obtain ⟨l1, l2⟩ := okW_lay 60 _ h1
      exact ⟨v, toD (rsv m u), rfl, dp_rsv M h1 e2, l2, h2, PyData.hasDict_of_canLay _ l1, by rw [sizeLine_eq]; exact h3, k z _ H (Ext.refl _ _) M rfl⟩
  | [], e, _ => cases e
  | _ :: _ :: _, e, _ => cases e
/-! ### texts compared -/
def eqS (_ : Mem) (a b : W) : Option W := match a, b with
  | .str x, .str y => some (.bl (x == y))
  | _, _ => none
def neS (_ : Mem) (a b : W) : Option W := match a, b with
  | .str x, .str y => some (.bl (!(x == y)))
  | _, _ => none
theorem w_eqS : OpW K cl eqS rEq := by
  intro z m H a b x y w Q M ra rb e k
  unfold eqS at e
  split at e
  · rename_i s t
    cases e
    have ra : x = .str s := ra
    have rb : y = .str t := rb
    subst ra rb
    exact ⟨rfl, k z _ H (Ext.refl _ _) M (by rw [dec_str]; rfl)⟩
  · cases e
theorem w_neS : OpW K cl neS rNe := by
  intro z m H a b x y w Q M ra rb e k
  unfold neS at e
  split at e
  · rename_i s t
    cases e
    have ra : x = .str s := ra
    have rb : y = .str t := rb
    subst ra rb
    exact ⟨rfl, k z _ H (Ext.refl _ _) M (by rw [dec_str]; rfl)⟩
  · cases e
def rLtS : R2 := fun x y H Q => ∃ i j, x = .str i ∧ y = .str j ∧ Q (.bl (decide (i.cps.toList < j.cps.toList))) H
def ltS (_ : Mem) (a b : W) : Option W := match a, b with
  | .str x, .str y => some (.bl (decide (x.cps.toList < y.cps.toList)))
  | _, _ => none
theorem w_ltS : OpW K cl ltS rLtS := by
  intro z m H a b x y w Q M ra rb e k
  unfold ltS at e
  split at e
  · rename_i s t
    cases e
    have ra : x = .str s := ra
    have rb : y = .str t := rb
    subst ra rb
    exact ⟨_, _, rfl, rfl, k z _ H (Ext.refl _ _) M rfl⟩
  · cases e
end
end Dn

/-! D21: min(list of ints, default=e). -/
namespace Dn
open PySem PySem.Spec PyProof.Rows L2
theorem minI_cons2 (n k : Int) : ∀ ks : List Int, minI (min n k :: ks) = min n (minI (k :: ks))
  | [] => rfl
  | j :: js => by
    show min (min n k) (minI (j :: js)) = min n (min k (minI (j :: js)))
    exact Int.min_assoc _ _ _
theorem foldl_minI : ∀ (ks : List Int) (n : Int), ks.foldl min n = minI (n :: ks)
  | [], n => rfl
  | k :: ks, n => by
    rw [List.foldl_cons, foldl_minI ks (min n k), minI_cons2]
    rfl
def rMinDf (K : PySem.W.Frag) : List V → List V → Hp → VK → Prop := fun vs zs H Q => ∃ (a : Addr) (ns : List Int) (d : V), vs = [V.ref a] ∧ zs = [d] ∧ SqL K H a (ns.map V.int) ∧ (ns = [] → Q d H) ∧ (ns ≠ [] → Q (.int (minI ns)) H)
theorem depth_ints : ∀ ns : List Int, PyData.depthAll (ns.map PyData.int) ≤ 1
  | [] => by simp [PyData.depthAll]
  | n :: ns => by
    have := depth_ints ns
    simp only [List.map_cons, PyData.depthAll, PyData.depth]
    omega
theorem cr_minDf {X : Cx} (hc : X.calm = true) (hu : X.A.units + 65 < cLine) : CallRK X (.builtin "min") [("default" : Str)] (rMinDf X.K) := by
  intro pins s σ H xs zs us ws Q I r rz h
  obtain ⟨a, ns, d, rfl, rfl, hs, h0, h1⟩ := h
  obtain ⟨its, rv, hl, _⟩ := I.list hs
  rw [Vals.ref1 r]
  obtain ⟨u, rfl, ru⟩ := vals1 rz
  have hi := rv.ints
  have hd := depth_ints ns
  refine PySem.W.min_list_default (I.ok.hd hc) hl.isList (ints_readAll _ hi) ⟨?_, ?_⟩ (by omega) (fun e h' tk hk => ⟨d, H, I.kept hk, ru, h0 (by cases ns with | nil => rfl | cons n ns => cases e)⟩) fun y ys i v h' tk bs e hv hr hk => ?_
  · intro x hx y hy
    obtain ⟨i, _, rfl⟩ := List.mem_map.mp hx
    obtain ⟨j, _, rfl⟩ := List.mem_map.mp hy
    rfl
  · intro x hx
    obtain ⟨i, _, rfl⟩ := List.mem_map.mp hx
    intro q; cases q
  · cases ns with
    | nil => cases e
    | cons n ns =>
      rw [List.map_cons] at e
      injection e with e1 e2
      subst e1 e2
      rw [PySem.W.minD_ints, foldl_minI] at hr
      cases hr with
      | int i t => exact ⟨.int _, H, I.kept hk, ⟨_, rfl⟩, h1 (by intro q; cases q)⟩
/-- min(f, default=g) -/
def eMinD (f g : DE) : DE := fun r m => (f r m).bind fun w m1 => (g r m1).bind fun d m2 => match lstOf m2 w with
  | some ws => match intsW ws with
    | some [] => .ok d m2
    | some (n :: ns) => .ok (.int (minI (n :: ns))) m2
    | none => .bad
  | none => .bad
section
variable {X : Cx} {cl : Nat → Addr} {Wx : WX} {a b : Expr} {pos p kpos : Pos}
theorem se_minD {f g : DE} (hc : X.calm = true) (hu : X.A.units + 65 < cLine) (hm : X.mg "min" = none) (hv : bootBuiltins "min" = some (.builtin "min")) (ha : PE X a (tE (gx X cl Wx) f)) (hb : PE X b (tE (gx X cl Wx) g)) (hg : Gl X "min" := by rfl)
    (he : backTo pos (starEach [a] X.env) = (false, eval a X.env) :: backTo pos (starEach [] X.env) := by rfl) (hpl : (backTo pos (starEach [a] X.env)).any (·.1) = false := by rfl)
    (hall : (backToKw pos (keywordEach [⟨some "default", b, kpos⟩] X.env)).all (·.1.isSome) = true := by rfl) (hnone : (backToKw pos (keywordEach [⟨some "default", b, kpos⟩] X.env)).any (·.1.isNone) = false := by rfl) (hks : (backToKw pos (keywordEach [⟨some "default", b, kpos⟩] X.env)).filterMap (·.1) = [("default" : Str)] := by rfl)
    (hs : starEach [a] X.env = (false, eval a X.env) :: starEach [] X.env := by rfl) :
    PE X (.Call (.Name "min" p) [a] [⟨some "default", b, kpos⟩] pos) (tE (gx X cl Wx) (eMinD f g)) :=
  (pe_callBK (cr_minDf hc hu) hg hm hv (pa_cons ha pa_nil hs) (pk_cons hb pk_nil) (by decide) (by decide) he hpl hall hnone hks).imp fun s H Q ⟨r, m, z, R, P⟩ => by
    show tE (gx X cl Wx) f s H _
    refine ⟨r, m, z, R, P.bind fun z1 w m1 x H1 E1 R1 r1 P1 => ?_⟩
    show tE (gx X cl Wx) g s H1 _
    refine ⟨r, m1, z1, R1, P1.bind fun z2 d m2 y H2 E2 R2 r2 P2 => ?_⟩
    have r1' := RW.ext E2 r1
    cases q : lstOf m2 w with
    | none => rw [q] at P2; exact P2.elim
    | some ws =>
      rw [q] at P2
      cases qi : intsW ws with
      | none => simp only [qi] at P2; exact P2.elim
      | some ns =>
        obtain ⟨l, us, f1, f2, f3⟩ := lst_at R2.mem r1' q
        subst f1
        have f4 := ints_rel f3 qi
        subst f4
        refine ⟨l, ns, y, rfl, rfl, f2, fun e => ?_, fun e => ?_⟩
        · subst e
          simp only [qi] at P2
          exact Post.ret (b := y) P2 R2 r2
        · cases ns with
          | nil => exact absurd rfl e
          | cons n ns =>
            simp only [qi] at P2
            exact Post.ret (b := V.int _) P2 R2 rfl
end
end Dn

/-! Q1: plain lemmas over denotations. -/
namespace Dn
open PySem PySem.Spec PyProof.Rows L2

/-! ### ground data, settling -/
mutual
theorem frzA_g (f : Nat → Option W) : ∀ w : W, gW w = true → frzA f w = some w
  | .non, _ => by simp [frzA]
  | .bl _, _ => by simp [frzA]
  | .int _, _ => by simp [frzA]
  | .str _, _ => by simp [frzA]
  | .tup xs, h => by
    rw [gW] at h
    simp [frzA, frzAs_g f xs h]
  | .lst xs, h => by
    rw [gW] at h
    simp [frzA, frzAs_g f xs h]
  | .old xs, h => by
    rw [gW] at h
    simp [frzA, frzAs_g f xs h]
  | .ref n, h => by simp [gW] at h
  | .raw _, _ => by simp [frzA]
theorem frzAs_g (f : Nat → Option W) : ∀ ws : List W, gWs ws = true → frzAs f ws = some ws
  | [], _ => by simp [frzAs]
  | w :: ws, h => by
    rw [gWs, Bool.and_eq_true_iff] at h
    simp [frzAs, frzA_g f w h.1, frzAs_g f ws h.2]
end
theorem frzW_g (m : Mem) (k : Nat) (w : W) (h : gW w = true) : frzW m k w = some w := frzA_g _ w h
theorem frzW_lst0 {m : Mem} {k n : Nat} {xs : List W} (h : m[n]? = some (.lst xs)) (g : gWs xs = true) : frzW m (k + 1) (.ref n) = some (.lst xs) := by
  rw [frzW, frzA]
  simp only [frzR, h, frzAs_g _ xs g, Option.map_some]
theorem pw_g {g : Fw} {ws : List W} {m m1 : Mem} {w : W} (h1 : gWs ws = true) (h2 : g ws [] = .ok w m1) (h3 : gW w = true) : pw g ws m = .ok w m := pw_ok h1 h2 (frzW_g m1 6 w h3)
theorem gWs_map {α : Type} {f : α → W} (h : ∀ x, gW (f x) = true) : ∀ l : List α, gWs (l.map f) = true
  | [] => rfl
  | x :: l => by rw [List.map_cons, gWs, h x, gWs_map h l]; rfl
theorem gWs_ints (l : List Int) : gWs (l.map .int) = true := gWs_map (fun _ => rfl) l
theorem gW_tup (xs : List W) : gW (.tup xs) = gWs xs := by rw [gW]
theorem gW_lst (xs : List W) : gW (.lst xs) = gWs xs := by rw [gW]
theorem gWs_cons (x : W) (xs : List W) : gWs (x :: xs) = (gW x && gWs xs) := by rw [gWs]
theorem gWs_nil : gWs [] = true := rfl
theorem gW_int (i : Int) : gW (.int i) = true := rfl
theorem gW_str (x : Str) : gW (.str x) = true := rfl
theorem gW_bl (b : Bool) : gW (.bl b) = true := rfl
theorem gW_non : gW .non = true := rfl
theorem gWs_append : ∀ xs ys : List W, gWs (xs ++ ys) = (gWs xs && gWs ys)
  | [], ys => by simp [gWs]
  | x :: xs, ys => by rw [List.cons_append, gWs, gWs_append xs ys, gWs, Bool.and_assoc]

/-! ### data that can be compared -/
theorem okWs_map {α : Type} {f : α → W} {n : Nat} (h : ∀ x, okW n (f x) = true) : ∀ l : List α, okWs n (l.map f) = true
  | [] => rfl
  | x :: l => by rw [List.map_cons, okWs, h x, okWs_map h l]; rfl
theorem okWs_int (n : Nat) (l : List Int) : okWs n (l.map .int) = true := okWs_map (fun _ => rfl) l
theorem okW_tup (n : Nat) (xs : List W) : okW (n + 1) (.tup xs) = okWs n xs := by rw [okW]
theorem okW_lst (n : Nat) (xs : List W) : okW (n + 1) (.lst xs) = okWs n xs := by rw [okW]
theorem okWs_append (n : Nat) : ∀ xs ys : List W, okWs n (xs ++ ys) = (okWs n xs && okWs n ys)
  | [], ys => by simp [okWs]
  | x :: xs, ys => by rw [List.cons_append, okWs, okWs_append n xs ys, okWs, Bool.and_assoc]
mutual
theorem eqW_refl : ∀ (n : Nat) (w : W), okW n w = true → eqW w w = true
  | _, .non, _ => rfl
  | _, .bl b, _ => by cases b <;> rfl
  | _, .int i, _ => by simp [eqW]
  | _, .str x, _ => by simp [eqW]
  | 0, .tup xs, h => by simp [okW] at h
  | n + 1, .tup xs, h => by rw [okW] at h; rw [eqW]; exact eqWs_refl n xs h
  | 0, .lst xs, h => by simp [okW] at h
  | n + 1, .lst xs, h => by rw [okW] at h; rw [eqW]; exact eqWs_refl n xs h
  | 0, .old xs, h => by simp [okW] at h
  | n + 1, .old xs, h => by rw [okW] at h; rw [eqW]; exact eqWs_refl n xs h
  | _, .ref _, h => by simp [okW] at h
  | _, .raw _, h => by simp [okW] at h
theorem eqWs_refl : ∀ (n : Nat) (ws : List W), okWs n ws = true → eqWs ws ws = true
  | _, [], _ => rfl
  | n, w :: ws, h => by
    rw [okWs, Bool.and_eq_true_iff] at h
    rw [eqWs, eqW_refl n w h.1, eqWs_refl n ws h.2]
    rfl
end
theorem rsv_ok {m : Mem} {n : Nat} {w : W} (h : okW n w = true) : rsv m w = w := by
  cases w <;> first | rfl | (simp [okW] at h)
theorem eqM_ok {m : Mem} {a b : W} (ha : okW 60 a = true) (hb : okW 60 b = true) : eqM m a b = some (.bl (eqW a b)) := by
  unfold eqM
  rw [rsv_ok ha, rsv_ok hb, ha, hb]
  rfl
theorem neM_ok {m : Mem} {a b : W} (ha : okW 60 a = true) (hb : okW 60 b = true) : neM m a b = some (.bl (!eqW a b)) := by
  unfold neM
  rw [rsv_ok ha, rsv_ok hb, ha, hb]
  rfl
theorem eqM_same {m : Mem} {a : W} (ha : okW 60 a = true) : eqM m a a = some (.bl true) := by rw [eqM_ok ha ha, eqW_refl 60 a ha]
theorem neM_same {m : Mem} {a : W} (ha : okW 60 a = true) : neM m a a = some (.bl false) := by rw [neM_ok ha ha, eqW_refl 60 a ha]; rfl
theorem eqM_int {m : Mem} {i j : Int} : eqM m (.int i) (.int j) = some (.bl (i == j)) := rfl
theorem neM_int {m : Mem} {i j : Int} : neM m (.int i) (.int j) = some (.bl (!(i == j))) := rfl
theorem eqWs_ints : ∀ xs ys : List Int, eqWs (xs.map .int) (ys.map .int) = decide (xs = ys)
  | [], [] => rfl
  | [], _ :: _ => rfl
  | _ :: _, [] => rfl
  | x :: xs, y :: ys => by
    rw [List.map_cons, List.map_cons, eqWs, eqWs_ints xs ys, eqW]
    by_cases h : x = y
    · subst h; simp
    · simp [h]
theorem eqWs_nil_map {α : Type} {f : α → W} (l : List α) : eqWs (l.map f) [] = l.isEmpty := by cases l <;> rfl
theorem anyEq_ints (p : Int) : ∀ l : List Int, anyEq (.int p) (l.map .int) = l.contains p
  | [] => rfl
  | x :: l => by
    rw [List.map_cons, anyEq, anyEq_ints p l, List.contains_cons, eqW]
    have e : (x == p) = (p == x) := by
      by_cases h : p = x
      · subst h; rfl
      · rw [beq_eq_false_iff_ne.mpr h, beq_eq_false_iff_ne.mpr fun q => h q.symm]
    rw [e]
theorem inM_ints {m : Mem} {p : Int} {l : List Int} {neg : Bool} : inM neg m (.int p) (.tup (l.map .int)) = some (.bl (if neg then !l.contains p else l.contains p)) := by
  simp only [inM, seqOf, okWs_int, rsv, okW, Bool.and_self, if_true, anyEq_ints]
theorem inM_intsL {m : Mem} {p : Int} {l : List Int} {neg : Bool} : inM neg m (.int p) (.lst (l.map .int)) = some (.bl (if neg then !l.contains p else l.contains p)) := by
  simp only [inM, seqOf, okWs_int, rsv, okW, Bool.and_self, if_true, anyEq_ints]

/-! ### items, slices -/
theorem atI_get {α : Type} {xs : List α} {i : Int} {n : Nat} {x : α} (hi : i = n) (h : xs[n]? = some x) : atI xs i = some x := by
  subst hi
  have hn := (List.getElem?_eq_some_iff.mp h).1
  unfold atI ixN
  rw [if_pos (by omega), if_pos (by omega)]
  simpa using h
theorem cut_to {xs : List W} {k : Nat} : cutW xs none (some (k : Int)) = xs.take k := by
  unfold cutW
  rw [HT.sIx_none, HT.sIx_nat]
  simp only [List.drop_zero, Nat.sub_zero]
  rw [List.take_eq_take_iff]
  omega
theorem cut_from {xs : List W} {k : Nat} : cutW xs (some (k : Int)) none = xs.drop k := by
  unfold cutW
  rw [HT.sIx_none, HT.sIx_nat]
  by_cases h : k ≤ xs.length
  · rw [Nat.min_eq_left h]
    exact List.take_of_length_le (by simp)
  · have h : xs.length ≤ k := by omega
    rw [Nat.min_eq_right h, List.drop_eq_nil_of_le h]
    simp
theorem cut_toI {xs : List W} {k : Int} (h : 0 ≤ k) : cutW xs none (some k) = xs.take k.toNat := by
  obtain ⟨n, rfl⟩ : ∃ n : Nat, k = n := ⟨k.toNat, by omega⟩
  rw [cut_to]; rfl
theorem cut_fromI {xs : List W} {k : Int} (h : 0 ≤ k) : cutW xs (some k) none = xs.drop k.toNat := by
  obtain ⟨n, rfl⟩ : ∃ n : Nat, k = n := ⟨k.toNat, by omega⟩
  rw [cut_from]; rfl
theorem cut_all {xs : List W} : cutW xs none none = xs := by
  unfold cutW
  rw [HT.sIx_none, HT.sIx_none]
  simp

/-! ### comprehensions -/
theorem compL_map {α : Type} {t : DG} {c : DT} {f : DE} {vs : List Nat} {r : Rho} {m : Mem} (w : α → W) (p : α → Bool) (g : α → W) (rr : α → Rho) :
    ∀ l : List α, (∀ x, x ∈ l → t (w x) (wipeR r vs) = some (rr x)) → (∀ x, x ∈ l → c (rr x) m = .ok (p x) m) → (∀ x, x ∈ l → p x = true → f (rr x) m = .ok (g x) m) → compL t c f vs (l.map w) r m = .ok ((l.filter p).map g) m
  | [], _, _, _ => rfl
  | x :: l, h1, h2, h3 => by
    have ih := compL_map (c := c) (f := f) w p g rr l (fun y q => h1 y (.tail _ q)) (fun y q => h2 y (.tail _ q)) fun y q => h3 y (.tail _ q)
    rw [List.map_cons, compL, h1 x (.head _)]
    simp only [h2 x (.head _)]
    cases q : p x with
    | true =>
      simp only [h3 x (.head _) q, ih, Dn.R.bind, List.filter_cons, q, if_true, List.map_cons]
    | false =>
      simp only [ih, List.filter_cons, q, Bool.false_eq_true, if_false]
/-- .. all of them -/
theorem compL_all {α : Type} {t : DG} {f : DE} {vs : List Nat} {r : Rho} {m : Mem} (w : α → W) (g : α → W) (rr : α → Rho) (l : List α)
    (h1 : ∀ x, x ∈ l → t (w x) (wipeR r vs) = some (rr x)) (h3 : ∀ x, x ∈ l → f (rr x) m = .ok (g x) m) : compL t dYes f vs (l.map w) r m = .ok (l.map g) m := by
  have := compL_map (c := dYes) w (fun _ => true) g rr l h1 (fun _ _ => rfl) fun x q _ => h3 x q
  rwa [List.filter_eq_self.mpr fun _ _ => rfl] at this

/-! ### loops -/
theorem loop_ex {α β : Type} {t : DG} {body : DS} (w : α → W) (P : β → Rho → Mem → Prop) (step : β → α → β) :
    ∀ (l : List α) (b : β) (r : Rho) (m : Mem), (∀ b x r m, x ∈ l → P b r m → ∃ r1 r2 m2, t (w x) r = some r1 ∧ (body r1 m = .next r2 m2 ∨ body r1 m = .cont r2 m2) ∧ P (step b x) r2 m2) → P b r m →
      ∃ r' m', loop t body (l.map w) r m = .next r' m' ∧ P (l.foldl step b) r' m'
  | [], b, r, m, _, h => ⟨r, m, rfl, h⟩
  | x :: l, b, r, m, hs, h => by
    obtain ⟨r1, r2, m2, e1, e2, h2⟩ := hs b x r m (.head _) h
    obtain ⟨r', m', e3, h3⟩ := loop_ex w P step l (step b x) r2 m2 (fun b y r m q => hs b y r m (.tail _ q)) h2
    refine ⟨r', m', ?_, h3⟩
    rw [List.map_cons, loop, e1]
    rcases e2 with e2 | e2 <;> simp only [e2, e3]
/-- the body passes, and leaves Q -/
def GoesD (q : RS) (Q : Rho → Mem → Prop) : Prop := match q with
  | .next r m => Q r m
  | .cont r m => Q r m
  | _ => False
def Steps (t : DG) (body : DS) (wx : W) (r : Rho) (m : Mem) (Q : Rho → Mem → Prop) : Prop := match t wx r with
  | none => False
  | some r1 => GoesD (body r1 m) Q
theorem loop_pre {α : Type} {t : DG} {body : DS} (w : α → W) (P : List α → Rho → Mem → Prop) (l : List α) (r : Rho) (m : Mem) (h0 : P [] r m)
    (hs : ∀ pre x post r m, l = pre ++ x :: post → P pre r m → Steps t body (w x) r m (P (pre ++ [x]))) :
    ∃ r' m', loop t body (l.map w) r m = .next r' m' ∧ P l r' m' := by
  have go : ∀ (post pre : List α) (r : Rho) (m : Mem), l = pre ++ post → P pre r m → ∃ r' m', loop t body (post.map w) r m = .next r' m' ∧ P l r' m' := by
    intro post
    induction post with
    | nil => intro pre r m e h; rw [List.append_nil] at e; subst e; exact ⟨r, m, rfl, h⟩
    | cons x post ih =>
      intro pre r m e h
      have h2 := hs pre x post r m e h
      unfold Steps at h2
      rw [List.map_cons, loop]
      cases e1 : t (w x) r with
      | none => simp only [e1] at h2
      | some r1 =>
        simp only [e1] at h2 ⊢
        cases e2 : body r1 m with
        | next r2 m2 =>
          simp only [e2, GoesD] at h2 ⊢
          exact ih (pre ++ [x]) _ _ (by rw [e]; simp) h2
        | cont r2 m2 =>
          simp only [e2, GoesD] at h2 ⊢
          exact ih (pre ++ [x]) _ _ (by rw [e]; simp) h2
        | brk r2 m2 => simp only [e2, GoesD] at h2
        | ret u m2 => simp only [e2, GoesD] at h2
        | exc y r2 m2 => simp only [e2, GoesD] at h2
        | bad => simp only [e2, GoesD] at h2
  exact go l [] r m rfl h0
/-- .. or it gives something back -/
def GoesR (q : RS) (P : Rho → Mem → Prop) (Q : W → Mem → Prop) : Prop := match q with
  | .next r m => P r m
  | .cont r m => P r m
  | .ret w m => Q w m
  | _ => False
def StepsR (t : DG) (body : DS) (wx : W) (r : Rho) (m : Mem) (P : Rho → Mem → Prop) (Q : W → Mem → Prop) : Prop := match t wx r with
  | none => False
  | some r1 => GoesR (body r1 m) P Q
theorem loop_ret {α : Type} {t : DG} {body : DS} (w : α → W) (P : List α → Rho → Mem → Prop) (Q : W → Mem → Prop) (l : List α) (r : Rho) (m : Mem) (h0 : P [] r m)
    (hs : ∀ pre x post r m, l = pre ++ x :: post → P pre r m → StepsR t body (w x) r m (P (pre ++ [x])) Q) :
    (∃ r' m', loop t body (l.map w) r m = .next r' m' ∧ P l r' m') ∨ ∃ u m', loop t body (l.map w) r m = .ret u m' ∧ Q u m' := by
  have go : ∀ (post pre : List α) (r : Rho) (m : Mem), l = pre ++ post → P pre r m → (∃ r' m', loop t body (post.map w) r m = .next r' m' ∧ P l r' m') ∨ ∃ u m', loop t body (post.map w) r m = .ret u m' ∧ Q u m' := by
    intro post
    induction post with
    | nil => intro pre r m e h; rw [List.append_nil] at e; subst e; exact .inl ⟨r, m, rfl, h⟩
    | cons x post ih =>
      intro pre r m e h
      have h2 := hs pre x post r m e h
      unfold StepsR at h2
      rw [List.map_cons, loop]
      cases e1 : t (w x) r with
      | none => simp only [e1] at h2
      | some r1 =>
        simp only [e1] at h2 ⊢
        cases e2 : body r1 m with
        | next r2 m2 =>
          simp only [e2, GoesR] at h2 ⊢
          exact ih (pre ++ [x]) _ _ (by rw [e]; simp) h2
        | cont r2 m2 =>
          simp only [e2, GoesR] at h2 ⊢
          exact ih (pre ++ [x]) _ _ (by rw [e]; simp) h2
        | brk r2 m2 => simp only [e2, GoesR] at h2
        | ret u m2 =>
          simp only [e2, GoesR] at h2 ⊢
          exact .inr ⟨u, m2, rfl, h2⟩
        | exc y r2 m2 => simp only [e2, GoesR] at h2
        | bad => simp only [e2, GoesR] at h2
  exact go l [] r m rfl h0
theorem numbered_map {α : Type} {w : α → W} : ∀ (l : List α) (i : Nat), numbered i (l.map w) = (l.zipIdx i).map fun x => W.tup [.int (x.2 : Nat), w x.1]
  | [], i => rfl
  | x :: l, i => by rw [List.map_cons, numbered, List.zipIdx_cons, List.map_cons, numbered_map l (i + 1)]
theorem fold_app {α β : Type} (f : α → β) : ∀ (l : List α) (acc : List β), l.foldl (fun a x => a ++ [f x]) acc = acc ++ l.map f
  | [], acc => by simp
  | x :: l, acc => by rw [List.foldl_cons, fold_app f l, List.map_cons, List.append_assoc]; rfl
theorem fold_appIf {α β : Type} (p : α → Bool) (f : α → β) : ∀ (l : List α) (acc : List β), l.foldl (fun a x => if p x = true then a ++ [f x] else a) acc = acc ++ (l.filter p).map f
  | [], acc => by simp
  | x :: l, acc => by
    rw [List.foldl_cons, fold_appIf p f l, List.filter_cons]
    cases q : p x <;> simp [q]
theorem boolsW_map {α : Type} (p : α → Bool) : ∀ l : List α, boolsW (l.map fun x => .bl (p x)) = some (l.map p)
  | [] => rfl
  | x :: l => by
    rw [List.map_cons, List.map_cons, boolsW, boolsW_map p l]
    rfl
theorem anyW_map {α : Type} {m : Mem} (p : α → Bool) (l : List α) : anyW m [.lst (l.map fun x => .bl (p x))] = some (.bl (l.any p)) := by
  simp only [anyW, trkOf, boolsW_map, Option.map_some]
  congr 2
  rw [List.any_map]
  rfl
theorem allW_map {α : Type} {m : Mem} (p : α → Bool) (l : List α) : allW m [.lst (l.map fun x => .bl (p x))] = some (.bl (l.all p)) := by
  simp only [allW, trkOf, boolsW_map, Option.map_some]
  congr 2
  rw [List.all_map]
  rfl
end Dn

/-! Q2: expressions and tests put together, where nothing changes. -/
namespace Dn
section
variable {r : Rho} {m : Mem} {f g : DE} {c d : DT} {a b : Bool} {x y z : W}
theorem eOr_ok (h1 : f r m = .ok (.bl a) m) (h2 : a = false → g r m = .ok (.bl b) m) : eOr f g r m = .ok (.bl (a || b)) m := by
  unfold eOr
  rw [h1]
  cases a with
  | true => rfl
  | false => exact h2 rfl
theorem eAnd_ok (h1 : f r m = .ok (.bl a) m) (h2 : a = true → g r m = .ok (.bl b) m) : eAnd f g r m = .ok (.bl (a && b)) m := by
  unfold eAnd
  rw [h1]
  cases a with
  | false => rfl
  | true => exact h2 rfl
theorem eBin_ok {o : Mem → W → W → Option W} (h1 : f r m = .ok x m) (h2 : g r m = .ok y m) (h3 : o m x y = some z) : eBin o f g r m = .ok z m := by
  unfold eBin
  rw [h1]
  show ((g r m).bind fun b m2 => match o m2 x b with | some w => Dn.R.ok w m2 | none => .bad) = _
  rw [h2]
  show (match o m x y with | some w => Dn.R.ok w m | none => .bad) = _
  rw [h3]
theorem dTest_ok (h : f r m = .ok (.bl a) m) : dTest f r m = .ok a m := by
  unfold dTest
  rw [h]
  rfl
theorem dOr_ok (h1 : c r m = .ok a m) (h2 : a = false → d r m = .ok b m) : dOr c d r m = .ok (a || b) m := by
  unfold dOr
  rw [h1]
  cases a with
  | true => rfl
  | false => exact h2 rfl
theorem dAnd_ok (h1 : c r m = .ok a m) (h2 : a = true → d r m = .ok b m) : dAnd c d r m = .ok (a && b) m := by
  unfold dAnd
  rw [h1]
  cases a with
  | false => rfl
  | true => exact h2 rfl
theorem dNot_ok (h : c r m = .ok a m) : dNot c r m = .ok (!a) m := by
  unfold dNot
  rw [h]
  rfl
theorem sIf_ok {s t : DS} (h : c r m = .ok a m) : sIf c s t r m = if a = true then s r m else t r m := by
  unfold sIf
  rw [h]
  rfl
theorem sRet_ok (h : f r m = .ok x m) : sRet f r m = .ret x m := by
  unfold sRet
  rw [h]
  rfl
theorem sSet_ok {i : Nat} (h : f r m = .ok x m) : sSet i f r m = .next (r.set i (some x)) m := by
  unfold sSet
  rw [h]
  rfl
theorem seqN {s t : DS} {r' : Rho} {m' : Mem} (h : s r m = .next r' m') : sSeq s t r m = t r' m' := by
  unfold sSeq
  rw [h]
theorem seqR {s t : DS} {m' : Mem} (h : s r m = .ret x m') : sSeq s t r m = .ret x m' := by
  unfold sSeq
  rw [h]
theorem sExpr_ok (h : f r m = .ok x m) : sExpr f r m = .next r m := by
  unfold sExpr
  rw [h]
  rfl
end
end Dn

/-! Q3: repr of plain values: how long it is at most, when it is told. -/
namespace Dn
open PySem PySem.Spec PyProof.Rows L2
mutual
def shB : W → Nat
  | .non => 4
  | .bl _ => 5
  | .int i => ((PyData.int i).shown).length
  | .str x => (reprText x).length
  | .tup xs => shBs xs + 3
  | .lst xs => shBs xs + 3
  | .old xs => shBs xs + 3
  | .ref _ => 4
  | .raw _ => 4
def shBs : List W → Nat
  | [] => 0
  | w :: ws => shB w + 2 + shBs ws
end
mutual
theorem shown_le : ∀ w : W, ((toD w).shown).length ≤ shB w
  | .non => by
    show ((PyData.none).shown).length ≤ 4
    decide +kernel
  | .bl b => by cases b <;> decide +kernel
  | .int i => Nat.le_refl _
  | .str x => Nat.le_refl _
  | .tup xs => by
    show (tupleText (PyData.shownAll (toDs xs))).length ≤ shBs xs + 3
    have h1 := tupleText_len_le (PyData.shownAll (toDs xs))
    have h2 := showns_le xs
    omega
  | .lst xs => by
    show (listText (PyData.shownAll (toDs xs))).length ≤ shBs xs + 3
    have h1 := listText_len_le (PyData.shownAll (toDs xs))
    have h2 := showns_le xs
    omega
  | .old xs => by
    show (listText (PyData.shownAll (toDs xs))).length ≤ shBs xs + 3
    have h1 := listText_len_le (PyData.shownAll (toDs xs))
    have h2 := showns_le xs
    omega
  | .ref _ => by
    show ((PyData.none).shown).length ≤ 4
    decide +kernel
  | .raw _ => by
    show ((PyData.none).shown).length ≤ 4
    decide +kernel
theorem showns_le : ∀ ws : List W, ((PyData.shownAll (toDs ws)).map (·.length)).sum + 2 * (PyData.shownAll (toDs ws)).length ≤ shBs ws
  | [] => by simp [toDs, PyData.shownAll, shBs]
  | w :: ws => by
    have h1 := shown_le w
    have h2 := showns_le ws
    simp only [toDs, PyData.shownAll, shBs, List.map_cons, List.sum_cons, List.length_cons]
    omega
end
theorem shBs_map {α : Type} {f : α → W} {c : Nat} : ∀ {l : List α}, (∀ x, x ∈ l → shB (f x) ≤ c) → shBs (l.map f) ≤ l.length * (c + 2)
  | [], _ => by simp [shBs]
  | x :: l, h => by
    have h1 := h x (.head _)
    have h2 := shBs_map (l := l) fun y q => h y (.tail _ q)
    rw [List.map_cons, shBs, List.length_cons, Nat.succ_mul]
    omega
theorem reprW_ok {m : Mem} {w : W} (hr : rsv m w = w) (h1 : okW 60 w = true) (h2 : (toD w).showable = true) (h3 : shB w ≤ 16777216) : reprW m [w] = some (.str (toD w).shown) := by
  have h4 := shown_le w
  simp only [reprW, hr, h1, h2, decide_eq_true (Nat.le_trans h4 h3), Bool.and_self, if_true]
theorem neS_same {m : Mem} (x : Str) : neS m (.str x) (.str x) = some (.bl false) := by
  simp [neS]
theorem eqS_same {m : Mem} (x : Str) : eqS m (.str x) (.str x) = some (.bl true) := by
  simp [eqS]
theorem showable_all {α : Type} {f : α → W} : ∀ {l : List α}, (∀ x, x ∈ l → (toD (f x)).showable = true) → PyData.showableAll (toDs (l.map f)) = true
  | [], _ => rfl
  | x :: l, h => by
    rw [List.map_cons, toDs, PyData.showableAll, h x (.head _), showable_all fun y q => h y (.tail _ q)]
    rfl
end Dn

/-! M1: rooms, in plain words. -/
namespace Rm
open PySem PySem.Spec PyProof.Rows L2 Dn

inductive How where
  | here | out | lost | away
  deriving DecidableEq
inductive Bk where
  | asks | old | tells
  deriving DecidableEq
def How.s : How → Str
  | .here => "here"
  | .out => "out"
  | .lost => "lost"
  | .away => "away"
def Bk.s : Bk → Str
  | .asks => "asks"
  | .old => "old"
  | .tells => "tells"
structure Rule where
  k : Int
  t : Int
  line : Bool
  on : Bool
  bk : Bk
  told : Bool
  asks : Bool
  deriving DecidableEq
def askS (b : Bool) : Str := if b then "line" else "seen"
def fillS (b : Bool) : Str := if b then "on" else "none"
def letS (b : Bool) : Str := if b then "told" else "quiet"
def lostS (b : Bool) : Str := if b then "asks" else "claims"
def Rule.w (r : Rule) : W := .tup [.int r.k, .int r.t, .str (askS r.line), .str (fillS r.on), .str r.bk.s, .str (letS r.told), .str (lostS r.asks)]
structure Rule.Ok (r : Rule) : Prop where
  k1 : 1 ≤ r.k
  k3 : r.k ≤ 3
  t0 : 0 ≤ r.t
  tk : r.t ≤ r.k
structure Row where
  p : Int
  h : How
  ns : List Int
  deriving DecidableEq
abbrev Line := List Row
def Row.w (x : Row) : W := .tup [.int x.p, .str x.h.s, .tup (x.ns.map .int)]
def lineW (l : Line) : W := .tup (l.map Row.w)

/-! ### what people do -/
def known (r : Rule) (h : How) : Bool := match h with
  | .here => true
  | .out => r.line
  | .away => r.line
  | .lost => false
def nearest (r : Rule) (l : Line) (i : Nat) : List Int := ((((l.take i).filter fun x => known r x.h).map (·.p)).reverse).take r.k.toNat
def take1 (r : Rule) (l : Line) (spots : List Int) (x : Row × Nat) : Row := if (spots.contains (x.2 : Int) && decide (x.1.h = .here)) = true then ⟨x.1.p, x.1.h, nearest r l x.2⟩ else x.1
def renewed (r : Rule) (l : Line) (spots : List Int) : Line := l.zipIdx.map (take1 r l spots)
def asHow (l : Line) (i : Nat) (h : How) : Line := match l[i]? with
  | some x => l.take i ++ ⟨x.p, h, if h = .away then [] else x.ns⟩ :: l.drop (i + 1)
  | none => l
def struck (p : Int) (x : Row) : Row := if x.h = .here ∧ x.ns.contains p = true then ⟨x.p, x.h, x.ns.filter fun n => !(n == p)⟩ else x
def hits (l : Line) (p : Int) : List Int := (l.zipIdx.filter fun x => decide (x.1.h = .here) && x.1.ns.contains p).map fun x => (x.2 : Int)
def without (r : Rule) (l : Line) (p : Int) : Line :=
  renewed r ((l.filter fun x => !(x.p == p)).map (struck p)) (if r.on = true then hits (l.filter fun x => !(x.p == p)) p else [])
def forgetting (l : Line) : Line := if (l.any fun x => decide (x.h = .here)) = true then l else (l.filter fun x => !decide (x.h = .away)).map fun x => ⟨x.p, .lost, x.ns⟩
def bare (l : Line) : List Int := (l.zipIdx.filter fun x => x.1.ns.isEmpty).map fun x => (x.2 : Int)
def askedAgain (r : Rule) (l : Line) : Line := if r.asks = true then renewed r l (bare l) else l
def here (l : Line) : List Int := (l.filter fun x => decide (x.h = .here)).map (·.p)
def claims (r : Rule) (l : Line) : List Int := (l.filter fun x => decide (x.h = .here) && (decide ((x.ns.length : Int) ≤ r.t) && !(x.ns.any fun n => (here l).contains n))).map (·.p)

inductive Pw where
  | back | leave | lett | out | vanish
  deriving DecidableEq
def Pw.s : Pw → Str
  | .back => "back"
  | .leave => "leave"
  | .lett => "let"
  | .out => "out"
  | .vanish => "vanish"
inductive Ev where
  | come | door | pers (w : Pw) (p : Int)
  deriving DecidableEq
def Ev.w : Ev → W
  | .come => .tup [.str "come"]
  | .door => .tup [.str "door"]
  | .pers x p => .tup [.str x.s, .int p]
structure Room where
  line : Line
  came : Int
  served : List Int
  deriving DecidableEq
def howIs (l : Line) (p : Int) : Option How := ((l.filter fun x => x.p == p).map (·.h)).head?
def howW : Option How → W
  | some h => .str h.s
  | none => .non
def canBe (r : Rule) (R : Room) : Ev → Bool
  | .come => decide (R.came < 12)
  | .door => !(here R.line).isEmpty
  | .pers .back p => (decide (howIs R.line p = some .out) || decide (howIs R.line p = some .lost)) && (!(decide (howIs R.line p = some .lost) && decide (r.bk = .asks)) || decide (R.came < 12))
  | .pers x p => decide (howIs R.line p = some .here) && (!decide (x = .lett) || decide (R.came < 12))
def putIn (r : Rule) (R : Room) (i : Nat) : Room := ⟨renewed r (R.line.take i ++ ⟨R.came, .here, []⟩ :: R.line.drop i) [(i : Int)], R.came + 1, R.served⟩
def upTo (a b : Nat) : List Int := (List.range (b - a)).map fun i => ((a + i : Nat) : Int)
def renewFrom (r : Rule) (R : Room) (i : Nat) : Room := ⟨renewed r R.line (upTo i R.line.length), R.came, R.served⟩
def bringBack (r : Rule) (R : Room) (i : Nat) : Room :=
  if r.bk = .asks ∧ (R.line[i]?.map (·.h)) = some .lost then putIn r ⟨R.line.take i ++ R.line.drop (i + 1), R.came, R.served⟩ (R.line.length - 1)
  else match r.bk with
    | .tells => renewFrom r ⟨asHow R.line i .here, R.came, R.served⟩ i
    | .old => ⟨asHow R.line i .here, R.came, R.served⟩
    | .asks => ⟨renewed r (asHow R.line i .here) [(i : Int)], R.came, R.served⟩
def openDoor (r : Rule) (R : Room) : Room := match claims r (askedAgain r R.line) with
  | [p] => ⟨without r (askedAgain r R.line) p, R.came, R.served ++ [p]⟩
  | _ => ⟨askedAgain r R.line, R.came, R.served⟩
def spotOf (l : Line) (p : Int) : Nat := l.findIdx fun x => x.p == p
def doPers (r : Rule) (R : Room) (x : Pw) (p : Int) : Room := match x with
  | .lett => if r.told = true then renewFrom r (putIn r R (spotOf R.line p + 1)) (spotOf R.line p + 2) else putIn r R (spotOf R.line p + 1)
  | .leave => ⟨without r R.line p, R.came, R.served⟩
  | .back => bringBack r R (spotOf R.line p)
  | .out => ⟨asHow R.line (spotOf R.line p) .out, R.came, R.served⟩
  | .vanish => ⟨asHow R.line (spotOf R.line p) .away, R.came, R.served⟩
def doRaw (r : Rule) (R : Room) : Ev → Room
  | .come => putIn r R R.line.length
  | .door => openDoor r R
  | .pers x p => doPers r R x p
def doEv (r : Rule) (R : Room) (e : Ev) : Room := ⟨forgetting (doRaw r R e).line, (doRaw r R e).came, (doRaw r R e).served⟩
def room0 : Room := ⟨[], 0, []⟩
def behind (r : Rule) (es : List Ev) : Room := es.foldl (doEv r) room0
/-- each of a row can be -/
def isRow (r : Rule) (R : Room) : List Ev → Bool
  | [] => true
  | e :: es => canBe r R e && isRow r (doEv r R e) es
end Rm

/-! M2: words and lines as plain values. -/
namespace Rm
open PySem PySem.Spec PyProof.Rows L2 Dn
variable {m : Mem}
theorem start0 {n : Nat} : startW n [] = List.replicate n none := by simp [startW]
theorem start1 {n : Nat} {a : W} : startW (n + 1) [a] = some a :: List.replicate n none := rfl
theorem start2 {n : Nat} {a b : W} : startW (n + 2) [a, b] = some a :: some b :: List.replicate n none := by simp [startW]
theorem start3 {n : Nat} {a b c : W} : startW (n + 3) [a, b, c] = some a :: some b :: some c :: List.replicate n none := by simp [startW]
theorem start4 {n : Nat} {a b c d : W} : startW (n + 4) [a, b, c, d] = some a :: some b :: some c :: some d :: List.replicate n none := by simp [startW]
theorem start5 {n : Nat} {a b c d e : W} : startW (n + 5) [a, b, c, d, e] = some a :: some b :: some c :: some d :: some e :: List.replicate n none := by simp [startW]
theorem mulW_i {i j : Int} (a : -(2 ^ 64) < i) (b : i < 2 ^ 64) : mulW m (.int i) (.int j) = some (.int (i * j)) := by simp only [mulW, mulI, iOp]; exact if_pos (.inl ⟨a, b⟩)
theorem modW_i {i j : Int} (a : 0 < j) : modW m (.int i) (.int j) = some (.int (i % j)) := by simp only [modW, iOp]; exact if_pos a
theorem fdivW_i {i j : Int} (a : 0 < j) (b : j < 1073741824) : fdivW m (.int i) (.int j) = some (.int (i / j)) := by simp only [fdivW, iOp]; exact if_pos ⟨a, b⟩
theorem addW_i {i j : Int} : addW m (.int i) (.int j) = some (.int (i + j)) := rfl
theorem subW_i {i j : Int} : subW m (.int i) (.int j) = some (.int (i - j)) := rfl
theorem addI_i {i j : Int} : addI m (.int i) (.int j) = some (.int (i + j)) := rfl
theorem intW_i {i : Int} : intW m [.int i] = some (.int i) := rfl
theorem gtW_i {i j : Int} : gtW m (.int i) (.int j) = some (.bl (decide (j < i))) := rfl
theorem geW_i {i j : Int} : geW m (.int i) (.int j) = some (.bl (decide (j ≤ i))) := rfl
theorem ltW_i {i j : Int} : ltW m (.int i) (.int j) = some (.bl (decide (i < j))) := rfl
theorem leW_i {i j : Int} : leW m (.int i) (.int j) = some (.bl (decide (i ≤ j))) := rfl
theorem maxW_i {i j : Int} : maxW m [.int i, .int j] = some (.int (max i j)) := by
  simp only [maxW]
  congr 2
  by_cases h : j > i
  · rw [if_pos h, Int.max_eq_right (by omega)]
  · rw [if_neg h, Int.max_eq_left (by omega)]
theorem addW_l {xs ys : List W} (h : xs.length + ys.length ≤ 16777216) : addW m (.lst xs) (.lst ys) = some (.lst (xs ++ ys)) := by
  show addL m (.lst xs) (.lst ys) = _
  simp only [addL, trkOf]
  exact if_pos h
theorem addW_t {xs ys : List W} (h : xs.length + ys.length ≤ 16777216) : addW m (.tup xs) (.tup ys) = some (.tup (xs ++ ys)) := by
  show addT m (.tup xs) (.tup ys) = _
  simp only [addT]
  exact if_pos h
theorem tupleW_l {xs : List W} : tupleW m [.lst xs] = some (.tup xs) := rfl
theorem tupleW_t {xs : List W} : tupleW m [.tup xs] = some (.tup xs) := rfl
theorem tupleW_r {n : Nat} {xs : List W} (h : m[n]? = some (.lst xs)) : tupleW m [.ref n] = some (.tup xs) := by simp only [tupleW, seqOf, h, Option.map]
theorem lenW_t {xs : List W} : lenW m [.tup xs] = some (.int (xs.length : Nat)) := rfl
theorem lenW_l {xs : List W} : lenW m [.lst xs] = some (.int (xs.length : Nat)) := rfl
theorem lenW_r {n : Nat} {xs : List W} (h : m[n]? = some (.lst xs)) : lenW m [.ref n] = some (.int (xs.length : Nat)) := by simp only [lenW, h]
theorem ixM_t {xs : List W} {i : Int} : ixM m (.tup xs) (.int i) = atI xs i := rfl
theorem ixM_l {xs : List W} {i : Int} : ixM m (.lst xs) (.int i) = atI xs i := rfl
/-! ### words -/
theorem eq_how (h k : How) : eqM m (.str h.s) (.str k.s) = some (.bl (decide (h = k))) := by cases h <;> cases k <;> kernel_rfl
theorem ne_how (h k : How) : neM m (.str h.s) (.str k.s) = some (.bl (!decide (h = k))) := by cases h <;> cases k <;> kernel_rfl
theorem eq_bk (h k : Bk) : eqM m (.str h.s) (.str k.s) = some (.bl (decide (h = k))) := by cases h <;> cases k <;> kernel_rfl
theorem ne_bk (h k : Bk) : neM m (.str h.s) (.str k.s) = some (.bl (!decide (h = k))) := by cases h <;> cases k <;> kernel_rfl
theorem eq_pw (h k : Pw) : eqM m (.str h.s) (.str k.s) = some (.bl (decide (h = k))) := by cases h <;> cases k <;> kernel_rfl
theorem ne_pw (h k : Pw) : neM m (.str h.s) (.str k.s) = some (.bl (!decide (h = k))) := by cases h <;> cases k <;> kernel_rfl
theorem eq_line (b : Bool) : eqM m (.str (askS b)) (.str "line") = some (.bl b) := by cases b <;> kernel_rfl
theorem eq_on (b : Bool) : eqM m (.str (fillS b)) (.str "on") = some (.bl b) := by cases b <;> kernel_rfl
theorem eq_told (b : Bool) : eqM m (.str (letS b)) (.str "told") = some (.bl b) := by cases b <;> kernel_rfl
theorem eq_asks (b : Bool) : eqM m (.str (lostS b)) (.str "asks") = some (.bl b) := by cases b <;> kernel_rfl
theorem ne_asks (b : Bool) : neM m (.str (lostS b)) (.str "asks") = some (.bl (!b)) := by cases b <;> kernel_rfl
theorem eq_howW (h : Option How) (k : How) : eqM m (howW h) (.str k.s) = some (.bl (decide (h = some k))) := by
  cases h with
  | none => cases k <;> kernel_rfl
  | some h => cases h <;> cases k <;> kernel_rfl
theorem ne_howW (h : Option How) (k : How) : neM m (howW h) (.str k.s) = some (.bl (!decide (h = some k))) := by
  cases h with
  | none => cases k <;> kernel_rfl
  | some h => cases h <;> cases k <;> kernel_rfl
theorem in_howW (h : Option How) : inM false m (howW h) (.tup [.str How.out.s, .str How.lost.s]) = some (.bl (decide (h = some .out) || decide (h = some .lost))) := by
  cases h with
  | none => kernel_rfl
  | some h => cases h <;> kernel_rfl
theorem in_line (h : How) (r : Rule) (e : r.line = true) : inM false m (.str h.s) (.tup [.str How.here.s, .str How.out.s, .str How.away.s]) = some (.bl (known r h)) := by
  cases h <;> simp only [known, e] <;> kernel_rfl
theorem in_seen (h : How) (r : Rule) (e : r.line = false) : inM false m (.str h.s) (.tup [.str How.here.s]) = some (.bl (known r h)) := by
  cases h <;> simp only [known, e] <;> kernel_rfl
theorem isNon_how (h : Option How) : isNonW m (howW h) .non = some (.bl h.isNone) := by cases h <;> kernel_rfl
/-! ### rules, rows, lines -/
theorem rule0 (r : Rule) : ixM m r.w (.int 0) = some (.int r.k) := rfl
theorem rule1 (r : Rule) : ixM m r.w (.int 1) = some (.int r.t) := rfl
theorem rule2 (r : Rule) : ixM m r.w (.int 2) = some (.str (askS r.line)) := rfl
theorem rule3 (r : Rule) : ixM m r.w (.int 3) = some (.str (fillS r.on)) := rfl
theorem rule4 (r : Rule) : ixM m r.w (.int 4) = some (.str r.bk.s) := rfl
theorem rule5 (r : Rule) : ixM m r.w (.int 5) = some (.str (letS r.told)) := rfl
theorem rule6 (r : Rule) : ixM m r.w (.int 6) = some (.str (lostS r.asks)) := rfl
theorem g_rule (r : Rule) : gW r.w = true := by kernel_rfl
theorem g_row (x : Row) : gW x.w = true := by
  simp only [Row.w, gW_tup, gWs_cons, gW_int, gW_str, gWs_ints, gWs_nil, Bool.and_self]
theorem gs_rows (l : Line) : gWs (l.map Row.w) = true := gWs_map g_row l
theorem g_line (l : Line) : gW (lineW l) = true := by rw [lineW, gW_tup]; exact gs_rows l
theorem g_lineT (l : Line) : gW (.tup (l.map Row.w)) = true := g_line l
theorem g_intsT (l : List Int) : gW (.tup (l.map .int)) = true := by rw [gW_tup]; exact gWs_ints l
theorem g_intsL (l : List Int) : gW (.lst (l.map .int)) = true := by rw [gW_lst]; exact gWs_ints l
theorem strOk_how (h : How) : PyData.strOk h.s = true := by cases h <;> kernel_rfl
theorem ok_row (n : Nat) (x : Row) : okW (n + 2) x.w = true := by
  simp only [Row.w, okW_tup, okWs, okW, strOk_how, okWs_int, Bool.and_self]
theorem ok_lineT (n : Nat) (l : Line) : okW (n + 3) (.tup (l.map Row.w)) = true := by rw [okW_tup]; exact okWs_map (ok_row n) l
theorem ok_intsT (n : Nat) (l : List Int) : okW (n + 1) (.tup (l.map .int)) = true := by rw [okW_tup]; exact okWs_int n l
theorem ok_intsL (n : Nat) (l : List Int) : okW (n + 1) (.lst (l.map .int)) = true := by rw [okW_lst]; exact okWs_int n l
theorem eq_nilT (l : List Int) : eqM m (.tup (l.map .int)) (.tup []) = some (.bl l.isEmpty) := by
  rw [eqM_ok (ok_intsT 59 l) (by kernel_rfl), eqW, eqWs_nil_map]
theorem ne_nilL {α : Type} {f : α → W} (l : List α) (h : ∀ x, okW 59 (f x) = true) : neM m (.lst (l.map f)) (.lst []) = some (.bl (!l.isEmpty)) := by
  rw [neM_ok (by rw [okW_lst]; exact okWs_map h l) (by kernel_rfl), eqW, eqWs_nil_map]
theorem idx_ints : ∀ (l : List Int) (p : Int), p ∈ l → idxW m (.lst (l.map .int)) (.int p) = some (.int ((l.findIdx fun x => x == p : Nat) : Int)) := fun l p h => by
  have e : ∀ l : List Int, toVs (l.map .int) = some (l.map V.int) := fun l => by
    induction l with
    | nil => rfl
    | cons x l ih => simp only [List.map_cons, toVs, toV, ih]
  have f : ∀ l : List Int, p ∈ l → findV (.int p) (l.map V.int) = some (l.findIdx fun x => x == p) := fun l => by
    induction l with
    | nil => intro h; cases h
    | cons x l ih =>
      intro h
      rw [List.map_cons, findV, List.findIdx_cons]
      have q : eqV (.int x) (.int p) = (x == p) := rfl
      rw [q]
      cases c : x == p with
      | true => rfl
      | false =>
        have hp : p ∈ l := by
          rcases List.mem_cons.mp h with rfl | h
          · simp at c
          · exact h
        simp only [ih hp, Option.map, cond]
  simp only [idxW, trkOf, e, toV, f l h, Option.map]
theorem rg_ints (a b : Nat) : rgW (a : Int) (b : Int) = (upTo a b).map .int := by
  have e : ((b : Int) - (a : Int)).toNat = b - a := by omega
  simp only [rgW, upTo, List.map_map, e]
  refine List.map_congr_left fun i _ => ?_
  simp
end Rm

/-! M3: a room as an instance in the memory. -/
namespace Rm
open PySem PySem.Spec PyProof.Rows L2 Dn
def roomF (r : Rule) (R : Rm.Room) (k : Nat) : List (Str × W) := [("own_rule", r.w), ("line_now", .tup (R.line.map Row.w)), ("came_so_far", .int R.came), ("served_so_far", .ref k)]
/-- the memory with a room at n, its list of those who were served at n + 1 -/
def putR (m : Mem) (n : Nat) (r : Rule) (R : Rm.Room) : Mem := (m.set n (.ins 0 (roomF r R (n + 1)))).set (n + 1) (.lst (R.served.map .int))
section
variable {m : Mem} {n : Nat} {r : Rule}
theorem putR_len (R : Rm.Room) : (putR m n r R).length = m.length := by simp [putR]
theorem putR_get (hn : n + 1 < m.length) (R : Rm.Room) : (putR m n r R)[n]? = some (.ins 0 (roomF r R (n + 1))) := by
  unfold putR
  rw [List.getElem?_set_ne (by omega), List.getElem?_set_self (by omega)]
theorem putR_srv (hn : n + 1 < m.length) (R : Rm.Room) : (putR m n r R)[n + 1]? = some (.lst (R.served.map .int)) := by
  unfold putR
  rw [List.getElem?_set_self (by simpa using hn)]
theorem putR_put (R R' : Rm.Room) : putR (putR m n r R) n r R' = putR m n r R' := by
  unfold putR
  rw [List.set_comm _ _ (show n + 1 ≠ n by omega), List.set_set, List.set_set]
theorem ins_put (hn : n + 1 < m.length) (R : Rm.Room) : insOf 0 (putR m n r R) (.ref n) = some (n, roomF r R (n + 1)) := by
  simp only [insOf, putR_get hn, if_true]
theorem f_rule (hn : n + 1 < m.length) (R : Rm.Room) : fldOf 0 "own_rule" (putR m n r R) (.ref n) = some r.w := by
  simp only [fldOf, putR_get hn, if_true]
  rfl
theorem f_line (hn : n + 1 < m.length) (R : Rm.Room) : fldOf 0 "line_now" (putR m n r R) (.ref n) = some (.tup (R.line.map Row.w)) := by
  simp only [fldOf, putR_get hn, if_true]
  kernel_rfl
theorem f_came (hn : n + 1 < m.length) (R : Rm.Room) : fldOf 0 "came_so_far" (putR m n r R) (.ref n) = some (.int R.came) := by
  simp only [fldOf, putR_get hn, if_true]
  kernel_rfl
theorem f_served (hn : n + 1 < m.length) (R : Rm.Room) : fldOf 0 "served_so_far" (putR m n r R) (.ref n) = some (.ref (n + 1)) := by
  simp only [fldOf, putR_get hn, if_true]
  kernel_rfl
theorem four_lt : ((4 : Nat) < 1000) = True := eq_true (by decide)
theorem roomF_len (R : Rm.Room) (k : Nat) : (roomF r R k).length = 4 := rfl
theorem p_line (R : Rm.Room) (l : Line) (k : Nat) : putFW "line_now" (.tup (l.map Row.w)) (roomF r R k) = roomF r ⟨l, R.came, R.served⟩ k := by kernel_rfl
theorem p_came (R : Rm.Room) (c : Int) (k : Nat) : putFW "came_so_far" (.int c) (roomF r R k) = roomF r ⟨R.line, c, R.served⟩ k := by kernel_rfl
theorem set_line (R : Rm.Room) (l : Line) : (putR m n r R).set n (.ins 0 (putFW "line_now" (.tup (l.map Row.w)) (roomF r R (n + 1)))) = putR m n r ⟨l, R.came, R.served⟩ := by
  rw [p_line]
  unfold putR
  rw [List.set_comm _ _ (show n + 1 ≠ n by omega), List.set_set]
theorem set_came (R : Rm.Room) (c : Int) : (putR m n r R).set n (.ins 0 (putFW "came_so_far" (.int c) (roomF r R (n + 1)))) = putR m n r ⟨R.line, c, R.served⟩ := by
  rw [p_came]
  unfold putR
  rw [List.set_comm _ _ (show n + 1 ≠ n by omega), List.set_set]
theorem set_served (R : Rm.Room) (p : Int) : (putR m n r R).set (n + 1) (.lst (R.served.map .int ++ [.int p])) = putR m n r ⟨R.line, R.came, R.served ++ [p]⟩ := by
  unfold putR
  rw [List.set_set]
  simp only [List.map_append, List.map_cons, List.map_nil]
  rfl
theorem no_put_in (R : Rm.Room) (k : Nat) : (roomF r R k).lookup ("put_in" : Str) = none := by kernel_rfl
theorem no_renew_from (R : Rm.Room) (k : Nat) : (roomF r R k).lookup ("renew_from" : Str) = none := by kernel_rfl
theorem no_bring_back (R : Rm.Room) (k : Nat) : (roomF r R k).lookup ("bring_back" : Str) = none := by kernel_rfl
theorem no_open_door (R : Rm.Room) (k : Nat) : (roomF r R k).lookup ("open_door" : Str) = none := by kernel_rfl
theorem no_do_personal (R : Rm.Room) (k : Nat) : (roomF r R k).lookup ("do_personal" : Str) = none := by kernel_rfl
theorem no_do (R : Rm.Room) (k : Nat) : (roomF r R k).lookup ("do" : Str) = none := by kernel_rfl
theorem no_how_is (R : Rm.Room) (k : Nat) : (roomF r R k).lookup ("how_is" : Str) = none := by kernel_rfl
theorem no_are_here (R : Rm.Room) (k : Nat) : (roomF r R k).lookup ("are_here" : Str) = none := by kernel_rfl
theorem no_can_be (R : Rm.Room) (k : Nat) : (roomF r R k).lookup ("can_be" : Str) = none := by kernel_rfl
end
/-! ### lengths -/
theorem renewed_len (r : Rule) (l : Line) (s : List Int) : (renewed r l s).length = l.length := by simp [renewed]
theorem asHow_len (l : Line) (i : Nat) (h : How) : (asHow l i h).length = l.length := by
  unfold asHow
  split
  · rename_i x e
    have := (List.getElem?_eq_some_iff.mp e).1
    simp
    omega
  · rfl
theorem without_len (r : Rule) (l : Line) (p : Int) : (without r l p).length ≤ l.length := by
  unfold without
  rw [renewed_len, List.length_map]
  exact List.length_filter_le _ _
theorem forgetting_len (l : Line) : (forgetting l).length ≤ l.length := by
  unfold forgetting
  split
  · exact Nat.le_refl _
  · rw [List.length_map]; exact List.length_filter_le _ _
theorem asked_len (r : Rule) (l : Line) : (askedAgain r l).length = l.length := by
  unfold askedAgain
  split
  · exact renewed_len _ _ _
  · rfl
theorem putIn_len (r : Rule) (R : Rm.Room) (i : Nat) : (putIn r R i).line.length = R.line.length + 1 := by
  simp only [putIn, renewed_len, List.length_append, List.length_cons, List.length_take, List.length_drop]
  omega
theorem renewFrom_len (r : Rule) (R : Rm.Room) (i : Nat) : (renewFrom r R i).line.length = R.line.length := by simp only [renewFrom, renewed_len]
theorem bringBack_len (r : Rule) (R : Rm.Room) (i : Nat) : (bringBack r R i).line.length ≤ R.line.length + 1 := by
  unfold bringBack
  split
  · rw [putIn_len]
    simp only [List.length_append, List.length_take, List.length_drop]
    omega
  · split
    · rw [renewFrom_len, asHow_len]; omega
    · simp only [asHow_len]; omega
    · simp only [renewed_len, asHow_len]; omega
theorem doRaw_len (r : Rule) (R : Rm.Room) (e : Ev) : (doRaw r R e).line.length ≤ R.line.length + 1 := by
  unfold doRaw
  split
  · rw [putIn_len]; omega
  · unfold openDoor
    split
    · refine Nat.le_trans (without_len _ _ _) ?_
      rw [asked_len]; omega
    · simp only [asked_len]; omega
  · unfold doPers
    split
    · split
      · rw [renewFrom_len, putIn_len]; omega
      · rw [putIn_len]; omega
    · exact Nat.le_trans (without_len _ _ _) (Nat.le_succ _)
    · exact bringBack_len _ _ _
    · simp only [asHow_len]; omega
    · simp only [asHow_len]; omega
theorem doEv_len (r : Rule) (R : Rm.Room) (e : Ev) : (doEv r R e).line.length ≤ R.line.length + 1 :=
  Nat.le_trans (forgetting_len _) (doRaw_len r R e)
theorem doRaw_srv (r : Rule) (R : Rm.Room) (e : Ev) : (doRaw r R e).served.length ≤ R.served.length + 1 := by
  unfold doRaw
  split
  · simp [putIn]
  · unfold openDoor
    split <;> simp
  · unfold doPers
    split
    · split <;> simp [renewFrom, putIn]
    · simp
    · unfold bringBack
      split
      · simp [putIn]
      · split <;> simp [renewFrom]
    · simp
    · simp
theorem doEv_srv (r : Rule) (R : Rm.Room) (e : Ev) : (doEv r R e).served.length ≤ R.served.length + 1 := doRaw_srv r R e
end Rm

/-! M11: promises by words, plain. -/
namespace Rm
open PySem PySem.Spec PyProof.Rows L2 Dn
inductive Pr where
  | door | order | place
  deriving DecidableEq
def Pr.s : Pr → Str
  | .door => "door"
  | .order => "order"
  | .place => "place"
structure May where
  lt : Bool
  out : Bool
  deriving DecidableEq
def May.w (y : May) : W := .tup ((if y.lt then [.str "let"] else []) ++ (if y.out then [.str "out"] else []))
def absW : Option Int → W
  | none => .non
  | some i => .int i
def atMost (a : Option Int) (n : Int) : Bool := match a with
  | none => false
  | some i => decide (i ≤ n)
def renews (r : Rule) (y : May) : Bool := !y.out || (decide (r.bk = .tells) || (decide (r.bk = .asks) && r.line))
def keepsOrder (r : Rule) (y : May) (a : Option Int) : Bool :=
  if a = some 0 then r.asks || r.on
  else if r.t = 0 then r.asks || (r.on && renews r y)
  else if (!r.on || (!r.told && y.lt || !renews r y)) = true then false
  else decide (r.t < r.k) || atMost a (r.k - 1)
def keepsDoor (r : Rule) (y : May) (a : Option Int) : Bool :=
  if r.t = r.k then true
  else if atMost a r.t = false then false
  else decide (a = some 0) || (!decide (r.bk = .old) || !y.out)
def keepsPlace (r : Rule) (y : May) (a : Option Int) : Bool := !decide (r.bk = .asks) || (decide (a = some 0) || !y.out)
def keepB (r : Rule) (p : Pr) (y : May) (a : Option Int) : Bool := match p with
  | .order => keepsOrder r y a
  | .door => keepsDoor r y a
  | .place => keepsPlace r y a
section
variable {m : Mem}
theorem g_may (y : May) : gW y.w = true := by obtain ⟨a, b⟩ := y; cases a <;> cases b <;> rfl
theorem g_abs (a : Option Int) : gW (absW a) = true := by cases a <;> rfl
theorem ok_may (y : May) : okW 60 y.w = true := by obtain ⟨a, b⟩ := y; cases a <;> cases b <;> kernel_rfl
theorem abs_zero (a : Option Int) : eqM m (absW a) (.int 0) = some (.bl (decide (a = some 0))) := by
  cases a with
  | none => rfl
  | some i =>
    show some (W.bl (i == 0)) = _
    congr 2
    rw [Bool.eq_iff_iff]
    simp
theorem abs_non (a : Option Int) : notNonW m (absW a) .non = some (.bl a.isSome) := by cases a <;> rfl
theorem may_out (y : May) : inM true m (.str "out") y.w = some (.bl (!y.out)) := by obtain ⟨a, b⟩ := y; cases a <;> cases b <;> kernel_rfl
theorem may_let (y : May) : inM false m (.str "let") y.w = some (.bl y.lt) := by obtain ⟨a, b⟩ := y; cases a <;> cases b <;> kernel_rfl
theorem eq_pr (p q : Pr) : eqM m (.str p.s) (.str q.s) = some (.bl (decide (p = q))) := by cases p <;> cases q <;> kernel_rfl
theorem eq_none (b : Bool) : eqM m (.str (fillS b)) (.str "none") = some (.bl (!b)) := by cases b <;> kernel_rfl
theorem ne_on (b : Bool) : neM m (.str (fillS b)) (.str "on") = some (.bl (!b)) := by cases b <;> kernel_rfl
theorem eq_quiet (b : Bool) : eqM m (.str (letS b)) (.str "quiet") = some (.bl (!b)) := by cases b <;> kernel_rfl
end
end Rm

/-! M12: all rules, ascending. -/
namespace Rm
open PySem PySem.Spec PyProof.Rows L2 Dn
def allR : List Rule := ([(1, 0), (1, 1), (2, 0), (2, 1), (2, 2), (3, 0), (3, 1), (3, 2), (3, 3)] : List (Int × Int)).flatMap fun kt => [true, false].flatMap fun a => [false, true].flatMap fun b => [Bk.asks, Bk.old, Bk.tells].flatMap fun c => [false, true].flatMap fun d => [true, false].map fun e => ⟨kt.1, kt.2, a, b, c, d, e⟩
def okB (r : Rule) : Bool := decide (1 ≤ r.k) && (decide (r.k ≤ 3) && (decide (0 ≤ r.t) && decide (r.t ≤ r.k)))
theorem okB_ok {r : Rule} (h : okB r = true) : r.Ok := by
  unfold okB at h
  simp only [Bool.and_eq_true, decide_eq_true_eq] at h
  exact ⟨h.1, h.2.1, h.2.2.1, h.2.2.2⟩
theorem allR_okB : allR.all okB = true := by kernel_rfl
theorem allR_ok {r : Rule} (h : r ∈ allR) : r.Ok := okB_ok (List.all_eq_true.mp allR_okB r h)
theorem allR_len : allR.length = 432 := by kernel_rfl
theorem ok_ruleW (n : Nat) (r : Rule) : okW (n + 1) r.w = true := by
  obtain ⟨k, t, a, b, c, d, e⟩ := r
  cases a <;> cases b <;> cases c <;> cases d <;> cases e <;> kernel_rfl
theorem alike_rule (a b : Rule) : PySem.W.alike (toD a.w) (toD b.w) = true := by
  obtain ⟨k, t, a, b, c, d, e⟩ := a
  rfl
/-! ### each ahead of those behind it -/
def chainB (le : Rule → Rule → Bool) : List Rule → Bool
  | [] => true
  | [_] => true
  | a :: b :: l => le a b && chainB le (b :: l)
theorem chain_pw {le : Rule → Rule → Bool} (tr : ∀ a b c, le a b = true → le b c = true → le a c = true) : ∀ {l : List Rule}, chainB le l = true → l.Pairwise (fun a b => le a b = true)
  | [], _ => .nil
  | [a], _ => .cons (fun _ h => by cases h) .nil
  | a :: b :: l, h => by
    rw [chainB, Bool.and_eq_true_iff] at h
    have ih := chain_pw tr h.2
    refine .cons (fun c hc => ?_) ih
    rcases List.mem_cons.mp hc with rfl | hc
    · exact h.1
    · exact tr _ _ _ h.1 ((List.pairwise_cons.mp ih).1 c hc)
theorem isort_id {α : Type} {le : α → α → Bool} : ∀ {l : List α}, l.Pairwise (fun a b => le a b = true) → isort le l = l
  | [], _ => rfl
  | a :: l, h => by
    rw [isort, isort_id (List.pairwise_cons.mp h).2]
    cases l with
    | nil => rfl
    | cons b l => rw [insB, if_pos ((List.pairwise_cons.mp h).1 b (.head _))]
theorem allR_chain : chainB (fun a b => leD a.w b.w) allR = true := by kernel_rfl
theorem allR_pw : allR.Pairwise (fun a b => leD a.w b.w = true) :=
  chain_pw (fun a b c => (show PySem.W.TotalLe (PySem.W.dataLe false toD) from PySem.W.sortLe_total (listOrd itemOrd) false fun b => PySem.W.keyToks (toD b)).trans a.w b.w c.w) allR_chain
theorem sort_rules {f : Rule → Bool} : isort (fun a b => leD a.w b.w) (allR.filter f) = allR.filter f :=
  isort_id (allR_pw.sublist List.filter_sublist)
end Rm

namespace L
open PySem PySem.Spec PyProof.Rows L2 Dn
def top (i : Nat) : Stmt := PySem.Challenge.pw_asklast_k11_whole_bearing_and_nearest_ru.main.body.getD i (.Pass ⟨0, 0, 0, 0⟩)
def w_LINE : W := (.str "line")
def w_ON : W := (.str "on")
def w_ASKS : W := (.str "asks")
def w_OLD : W := (.str "old")
def w_TELLS : W := (.str "tells")
def w_QUIET : W := (.str "quiet")
def w_MOST_NAMES : W := (.int 3)
def w_CHOICES : W := (.tup [(.tup [(.str "line"), (.str "seen")]), (.tup [(.str "none"), (.str "on")]), (.tup [(.str "asks"), (.str "old"), (.str "tells")]), (.tup [(.str "quiet"), (.str "told")]), (.tup [(.str "asks"), (.str "claims")])])
def w_DOOR_PROMISE : W := (.str "door")
def w_ORDER_PROMISE : W := (.str "order")
def w_PROMISES : W := (.tup [(.str "door"), (.str "order"), (.str "place")])
def w_MAY_LET : W := (.str "let")
def w_MAY_OUT : W := (.str "out")
def w_MAYS : W := (.tup [(.tup []), (.tup [(.str "let")]), (.tup [(.str "let"), (.str "out")]), (.tup [(.str "out")])])
def w_MOST_ABSENT : W := (.int 99)
abbrev st_is_integer : Stmt := top 19
abbrev N_is_integer : List Str := ["thing"]
def s_is_integer_0 : DS := (sRet (eAnd (eIsi .int (eVar 0)) (eNot (eIsi .bl (eVar 0)))))
def d_is_integer : DS := s_is_integer_0
def r_is_integer : Fw := pw (runD 1 d_is_integer)
abbrev st_is_between : Stmt := top 20
abbrev N_is_between : List Str := ["thing", "least", "most"]
def s_is_between_0 : DS := (sRet (eAnd (eCall 1 r_is_integer (aCons (eVar 0) aNil)) (eChain leW leW (eVar 1) (eVar 0) (eVar 2))))
def d_is_between : DS := s_is_between_0
def r_is_between : Fw := pw (runD 3 d_is_between)
abbrev st_is_one_of : Stmt := top 21
abbrev N_is_one_of : List Str := ["some", "thing"]
def s_is_one_of_0 : DS := (sRet (eAnd (eIsi .str (eVar 1)) (eBin (inM false) (eVar 1) (eVar 0))))
def d_is_one_of : DS := s_is_one_of_0
def r_is_one_of : Fw := pw (runD 2 d_is_one_of)
abbrev st_need_rule : Stmt := top 22
abbrev N_need_rule : List Str := ["thing", "number", "some"]
def s_need_rule_0 : DS := (sIf (dOr (dNot (dTest (eIsi .tup (eVar 0)))) (dTest (eBin neM (eFn lenW (aCons (eVar 0) aNil)) (eBin addW (eC (.int 2)) (eFn lenW (aCons (eC w_CHOICES) aNil)))))) sBad sNil)
def s_need_rule_1 : DS := (sIf (dNot (dTest (eCall 3 r_is_between (aCons (eBin ixM (eVar 0) (eC (.int 0))) (aCons (eC (.int 1)) (aCons (eC w_MOST_NAMES) aNil)))))) sBad sNil)
def s_need_rule_2 : DS := (sIf (dNot (dTest (eCall 3 r_is_between (aCons (eBin ixM (eVar 0) (eC (.int 1))) (aCons (eC (.int 0)) (aCons (eBin ixM (eVar 0) (eC (.int 0))) aNil)))))) sBad sNil)
def b_need_rule_0 : DS := (sIf (dNot (dTest (eCall 2 r_is_one_of (aCons (eVar 2) (aCons (eBin ixM (eVar 0) (eBin addW (eC (.int 2)) (eVar 1))) aNil))))) sBad sNil)
def s_need_rule_3 : DS := (sFor (iEnumW (eC w_CHOICES)) (gT (gsCons (gN 1) (gsCons (gN 2) gsNil))) b_need_rule_0)
def s_need_rule_4 : DS := (sRet (eVar 0))
def d_need_rule : DS := (sSeq s_need_rule_0 (sSeq s_need_rule_1 (sSeq s_need_rule_2 (sSeq s_need_rule_3 s_need_rule_4))))
def r_need_rule : Fw := pw (runD 3 d_need_rule)
abbrev st_all_rules : Stmt := top 23
abbrev N_all_rules : List Str := ["found", "some", "most", "few", "row", "word"]
def s_all_rules_0 : DS := (sSet 0 (eFz (aComp2 (iRng (aCons (eC (.int 1)) (aCons (eBin addW (eC w_MOST_NAMES) (eC (.int 1))) aNil))) (gN 2) dYes (iRng (aCons (eBin addW (eVar 2) (eC (.int 1))) aNil)) (gN 3) dYes (eTup (aCons (eVar 2) (aCons (eVar 3) aNil))) [2, 3] [3])))
def b_all_rules_0 : DS := (sSet 0 (eFz (aComp2 (iSeq (eVar 0)) (gN 4) dYes (iSeq (eVar 1)) (gN 5) dYes (eTup (aStar (eVar 4) (aCons (eVar 5) aNil))) [4, 5] [5])))
def s_all_rules_1 : DS := (sFor (iSeq (eC w_CHOICES)) (gN 1) b_all_rules_0)
def s_all_rules_2 : DS := (sRet (eFn tupleW (aCons (eVar 0) aNil)))
def d_all_rules : DS := (sSeq s_all_rules_0 (sSeq s_all_rules_1 s_all_rules_2))
def r_all_rules : Fw := pw (runD 6 d_all_rules)
abbrev st_need_promise : Stmt := top 33
abbrev N_need_promise : List Str := ["thing"]
def s_need_promise_0 : DS := (sIf (dOr (dNot (dTest (eIsi .str (eVar 0)))) (dTest (eBin (inM true) (eVar 0) (eC w_PROMISES)))) sBad sNil)
def s_need_promise_1 : DS := (sRet (eVar 0))
def d_need_promise : DS := (sSeq s_need_promise_0 s_need_promise_1)
def r_need_promise : Fw := pw (runD 1 d_need_promise)
abbrev st_need_promises : Stmt := top 34
abbrev N_need_promises : List Str := ["thing", "one", "other"]
def s_need_promises_0 : DS := (sIf (dOr (dNot (dTest (eIsi .tup (eVar 0)))) (dTest (eBin eqM (eVar 0) (eTup aNil)))) sBad sNil)
def s_need_promises_1 : DS := (sIf (dNot (dTest (eFn allW (aCons (eFz (aComp (iSeq (eVar 0)) (gN 1) dYes (eAnd (eIsi .str (eVar 1)) (eBin (inM false) (eVar 1) (eC w_PROMISES))) [1])) aNil)))) sBad sNil)
def s_need_promises_2 : DS := (sIf (dNot (dTest (eFn allW (aCons (eFz (aComp (iZipW (eVar 0) (eSl (eVar 0) (oSome (eC (.int 1))) oNone)) (gT (gsCons (gN 1) (gsCons (gN 2) gsNil))) dYes (eBin ltS (eVar 1) (eVar 2)) [1, 2])) aNil)))) sBad sNil)
def s_need_promises_3 : DS := (sRet (eVar 0))
def d_need_promises : DS := (sSeq s_need_promises_0 (sSeq s_need_promises_1 (sSeq s_need_promises_2 s_need_promises_3)))
def r_need_promises : Fw := pw (runD 3 d_need_promises)
abbrev st_need_may : Stmt := top 35
abbrev N_need_may : List Str := ["thing", "one"]
def s_need_may_0 : DS := (sIf (dOr (dNot (dTest (eIsi .tup (eVar 0)))) (dOr (dNot (dTest (eFn allW (aCons (eFz (aComp (iSeq (eVar 0)) (gN 1) dYes (eIsi .str (eVar 1)) [1])) aNil)))) (dTest (eBin (inM true) (eVar 0) (eC w_MAYS))))) sBad sNil)
def s_need_may_1 : DS := (sRet (eVar 0))
def d_need_may : DS := (sSeq s_need_may_0 s_need_may_1)
def r_need_may : Fw := pw (runD 2 d_need_may)
abbrev st_need_absent : Stmt := top 36
abbrev N_need_absent : List Str := ["thing"]
def s_need_absent_0 : DS := (sIf (dAnd (dTest (eBin notNonW (eVar 0) (eC .non))) (dNot (dTest (eCall 3 r_is_between (aCons (eVar 0) (aCons (eC (.int 0)) (aCons (eC w_MOST_ABSENT) aNil))))))) sBad sNil)
def s_need_absent_1 : DS := (sRet (eVar 0))
def d_need_absent : DS := (sSeq s_need_absent_0 s_need_absent_1)
def r_need_absent : Fw := pw (runD 1 d_need_absent)
abbrev st_is_at_most : Stmt := top 37
abbrev N_is_at_most : List Str := ["absent", "number"]
def s_is_at_most_0 : DS := (sRet (eAnd (eBin notNonW (eVar 0) (eC .non)) (eBin leW (eVar 0) (eVar 1))))
def d_is_at_most : DS := s_is_at_most_0
def r_is_at_most : Fw := pw (runD 2 d_is_at_most)
abbrev st_do_renew : Stmt := top 38
abbrev N_do_renew : List Str := ["rule", "may"]
def s_do_renew_0 : DS := (sRet (eOr (eBin (inM true) (eC w_MAY_OUT) (eVar 1)) (eOr (eBin eqM (eBin ixM (eVar 0) (eC (.int 4))) (eC w_TELLS)) (eAnd (eBin eqM (eBin ixM (eVar 0) (eC (.int 4))) (eC w_ASKS)) (eBin eqM (eBin ixM (eVar 0) (eC (.int 2))) (eC w_LINE))))))
def d_do_renew : DS := s_do_renew_0
def r_do_renew : Fw := pw (runD 2 d_do_renew)
abbrev st_keeps_order : Stmt := top 39
abbrev N_keeps_order : List Str := ["rule", "may", "absent", "most", "few", "ask", "fill", "back", "let", "lost"]
def s_keeps_order_0 : DS := (sAsg (eVar 0) (gT (gsCons (gN 3) (gsCons (gN 4) (gsCons (gN 5) (gsCons (gN 6) (gsCons (gN 7) (gsCons (gN 8) (gsCons (gN 9) gsNil)))))))))
def s_keeps_order_1 : DS := (sIf (dTest (eBin eqM (eVar 2) (eC (.int 0)))) (sRet (eOr (eBin eqM (eVar 9) (eC w_ASKS)) (eBin eqM (eVar 6) (eC w_ON)))) sNil)
def s_keeps_order_2 : DS := (sIf (dTest (eBin eqM (eVar 4) (eC (.int 0)))) (sRet (eOr (eBin eqM (eVar 9) (eC w_ASKS)) (eAnd (eBin eqM (eVar 6) (eC w_ON)) (eCall 2 r_do_renew (aCons (eVar 0) (aCons (eVar 1) aNil)))))) sNil)
def s_keeps_order_3 : DS := (sIf (dOr (dTest (eBin neM (eVar 6) (eC w_ON))) (dOr (dAnd (dTest (eBin eqM (eVar 8) (eC w_QUIET))) (dTest (eBin (inM false) (eC w_MAY_LET) (eVar 1)))) (dNot (dTest (eCall 2 r_do_renew (aCons (eVar 0) (aCons (eVar 1) aNil))))))) (sRet (eC (.bl false))) sNil)
def s_keeps_order_4 : DS := (sRet (eOr (eBin ltW (eVar 4) (eVar 3)) (eCall 2 r_is_at_most (aCons (eVar 2) (aCons (eBin subW (eVar 3) (eC (.int 1))) aNil)))))
def d_keeps_order : DS := (sSeq s_keeps_order_0 (sSeq s_keeps_order_1 (sSeq s_keeps_order_2 (sSeq s_keeps_order_3 s_keeps_order_4))))
def r_keeps_order : Fw := pw (runD 10 d_keeps_order)
abbrev st_keeps_door : Stmt := top 40
abbrev N_keeps_door : List Str := ["rule", "may", "absent"]
def s_keeps_door_0 : DS := (sIf (dTest (eBin eqM (eBin ixM (eVar 0) (eC (.int 1))) (eBin ixM (eVar 0) (eC (.int 0))))) (sRet (eC (.bl true))) sNil)
def s_keeps_door_1 : DS := (sIf (dNot (dTest (eCall 2 r_is_at_most (aCons (eVar 2) (aCons (eBin ixM (eVar 0) (eC (.int 1))) aNil))))) (sRet (eC (.bl false))) sNil)
def s_keeps_door_2 : DS := (sRet (eOr (eBin eqM (eVar 2) (eC (.int 0))) (eOr (eBin neM (eBin ixM (eVar 0) (eC (.int 4))) (eC w_OLD)) (eBin (inM true) (eC w_MAY_OUT) (eVar 1)))))
def d_keeps_door : DS := (sSeq s_keeps_door_0 (sSeq s_keeps_door_1 s_keeps_door_2))
def r_keeps_door : Fw := pw (runD 3 d_keeps_door)
abbrev st_keeps_by : Stmt := top 41
abbrev N_keeps_by : List Str := ["rule", "promise", "may", "absent"]
def s_keeps_by_0 : DS := (sIf (dTest (eBin eqM (eVar 1) (eC w_ORDER_PROMISE))) (sRet (eCall 3 r_keeps_order (aCons (eVar 0) (aCons (eVar 2) (aCons (eVar 3) aNil))))) sNil)
def s_keeps_by_1 : DS := (sIf (dTest (eBin eqM (eVar 1) (eC w_DOOR_PROMISE))) (sRet (eCall 3 r_keeps_door (aCons (eVar 0) (aCons (eVar 2) (aCons (eVar 3) aNil))))) sNil)
def s_keeps_by_2 : DS := (sRet (eOr (eBin neM (eBin ixM (eVar 0) (eC (.int 4))) (eC w_ASKS)) (eOr (eBin eqM (eVar 3) (eC (.int 0))) (eBin (inM true) (eC w_MAY_OUT) (eVar 2)))))
def d_keeps_by : DS := (sSeq s_keeps_by_0 (sSeq s_keeps_by_1 s_keeps_by_2))
def r_keeps_by : Fw := pw (runD 4 d_keeps_by)
abbrev st_does_keep : Stmt := top 42
abbrev N_does_keep : List Str := ["rule", "promise", "may", "absent"]
def s_does_keep_0 : DS := (sExpr (eCall 1 r_need_rule (aCons (eVar 0) aNil)))
def s_does_keep_1 : DS := (sExpr (eCall 1 r_need_promise (aCons (eVar 1) aNil)))
def s_does_keep_2 : DS := (sRet (eCall 4 r_keeps_by (aCons (eVar 0) (aCons (eVar 1) (aCons (eCall 1 r_need_may (aCons (eVar 2) aNil)) (aCons (eCall 1 r_need_absent (aCons (eVar 3) aNil)) aNil))))))
def d_does_keep : DS := (sSeq s_does_keep_0 (sSeq s_does_keep_1 s_does_keep_2))
def r_does_keep : Fw := pw (runD 4 d_does_keep)
abbrev st_keeps_all : Stmt := top 43
abbrev N_keeps_all : List Str := ["rule", "promises", "may", "absent", "promise"]
def s_keeps_all_0 : DS := (sRet (eFn allW (aCons (eFz (aComp (iSeq (eVar 1)) (gN 4) dYes (eCall 4 r_keeps_by (aCons (eVar 0) (aCons (eVar 4) (aCons (eVar 2) (aCons (eVar 3) aNil))))) [4])) aNil)))
def d_keeps_all : DS := s_keeps_all_0
def r_keeps_all : Fw := pw (runD 5 d_keeps_all)
abbrev st_bears_by : Stmt := top 44
abbrev N_bears_by : List Str := ["rule", "promises", "may", "found"]
def s_bears_by_0 : DS := (sIf (dTest (eCall 4 r_keeps_all (aCons (eVar 0) (aCons (eVar 1) (aCons (eVar 2) (aCons (eC .non) aNil)))))) (sRet (eC .non)) sNil)
def s_bears_by_1 : DS := (sSet 3 (eNeg (eC (.int 1))))
def b_bears_by_0 : DS := (sAug 3 addI (eC (.int 1)))
def s_bears_by_2 : DS := (sWhile 100000 (dTest (eCall 4 r_keeps_all (aCons (eVar 0) (aCons (eVar 1) (aCons (eVar 2) (aCons (eBin addW (eVar 3) (eC (.int 1))) aNil)))))) b_bears_by_0)
def s_bears_by_3 : DS := (sRet (eVar 3))
def d_bears_by : DS := (sSeq s_bears_by_0 (sSeq s_bears_by_1 (sSeq s_bears_by_2 s_bears_by_3)))
def r_bears_by : Fw := pw (runD 4 d_bears_by)
abbrev st_bears : Stmt := top 45
abbrev N_bears : List Str := ["rule", "promises", "may"]
def s_bears_0 : DS := (sExpr (eCall 1 r_need_rule (aCons (eVar 0) aNil)))
def s_bears_1 : DS := (sExpr (eCall 1 r_need_promises (aCons (eVar 1) aNil)))
def s_bears_2 : DS := (sRet (eCall 3 r_bears_by (aCons (eVar 0) (aCons (eVar 1) (aCons (eCall 1 r_need_may (aCons (eVar 2) aNil)) aNil)))))
def d_bears : DS := (sSeq s_bears_0 (sSeq s_bears_1 s_bears_2))
def r_bears : Fw := pw (runD 3 d_bears)
abbrev st_keeping_in : Stmt := top 47
abbrev N_keeping_in : List Str := ["promises", "may", "absent", "rule"]
def s_keeping_in_0 : DS := (sExpr (eCall 1 r_need_promises (aCons (eVar 0) aNil)))
def s_keeping_in_1 : DS := (sExpr (eCall 1 r_need_may (aCons (eVar 1) aNil)))
def s_keeping_in_2 : DS := (sExpr (eCall 1 r_need_absent (aCons (eVar 2) aNil)))
def s_keeping_in_3 : DS := (sRet (eFz (aComp (iSeq (eCall 0 r_all_rules aNil)) (gN 3) (dTest (eCall 4 r_keeps_all (aCons (eVar 3) (aCons (eVar 0) (aCons (eVar 1) (aCons (eVar 2) aNil)))))) (eVar 3) [3])))
def d_keeping_in : DS := (sSeq s_keeping_in_0 (sSeq s_keeping_in_1 (sSeq s_keeping_in_2 s_keeping_in_3)))
def r_keeping_in : Fw := pw (runD 4 d_keeping_in)
abbrev st_changes_in : Stmt := top 48
abbrev N_changes_in : List Str := ["rule", "other", "one", "two"]
def s_changes_in_0 : DS := (sRet (eFn lenW (aCons (eFz (aComp (iZipW (eVar 0) (eVar 1)) (gT (gsCons (gN 2) (gsCons (gN 3) gsNil))) (dTest (eBin neM (eVar 2) (eVar 3))) (eC (.int 1)) [2, 3])) aNil)))
def d_changes_in : DS := s_changes_in_0
def r_changes_in : Fw := pw (runD 4 d_changes_in)
abbrev st_changes_between : Stmt := top 49
abbrev N_changes_between : List Str := ["rule", "other"]
def s_changes_between_0 : DS := (sRet (eCall 2 r_changes_in (aCons (eCall 1 r_need_rule (aCons (eVar 0) aNil)) (aCons (eCall 1 r_need_rule (aCons (eVar 1) aNil)) aNil))))
def d_changes_between : DS := s_changes_between_0
def r_changes_between : Fw := pw (runD 2 d_changes_between)
abbrev st_nearest_rules : Stmt := top 50
abbrev N_nearest_rules : List Str := ["rule", "promises", "may", "absent", "some", "least", "other"]
def s_nearest_rules_0 : DS := (sExpr (eCall 1 r_need_rule (aCons (eVar 0) aNil)))
def s_nearest_rules_1 : DS := (sSet 4 (eCall 3 r_keeping_in (aCons (eVar 1) (aCons (eVar 2) (aCons (eVar 3) aNil)))))
def s_nearest_rules_2 : DS := (sSet 5 (eMinD (eFz (aComp (iSeq (eVar 4)) (gN 6) dYes (eCall 2 r_changes_in (aCons (eVar 0) (aCons (eVar 6) aNil))) [6])) (eC (.int 0))))
def s_nearest_rules_3 : DS := (sRet (eFn tupleW (aCons (eFz (aComp (iSeq (eVar 4)) (gN 6) (dTest (eBin eqM (eCall 2 r_changes_in (aCons (eVar 0) (aCons (eVar 6) aNil))) (eVar 5))) (eVar 6) [6])) aNil)))
def d_nearest_rules : DS := (sSeq s_nearest_rules_0 (sSeq s_nearest_rules_1 (sSeq s_nearest_rules_2 s_nearest_rules_3)))
def r_nearest_rules : Fw := pw (runD 7 d_nearest_rules)
abbrev st_fewest_names : Stmt := top 51
abbrev N_fewest_names : List Str := ["promises", "may", "absent", "rule"]
def s_fewest_names_0 : DS := (sRet (eMinD (eFz (aComp (iSeq (eCall 3 r_keeping_in (aCons (eVar 0) (aCons (eVar 1) (aCons (eVar 2) aNil))))) (gN 3) dYes (eBin ixM (eVar 3) (eC (.int 0))) [3])) (eC .non)))
def d_fewest_names : DS := s_fewest_names_0
def r_fewest_names : Fw := pw (runD 4 d_fewest_names)
abbrev st__law_mixed : Stmt := top 53
abbrev N__law_mixed : List Str := ["_law_cell", "_law_k"]
def s__law_mixed_0 : DS := (sSet 0 (eBin modW (eFn intW (aCons (eVar 0) aNil)) (eC (.int 2147483647))))
def s__law_mixed_1 : DS := (sRet (eBin modW (eBin mulW (eBin modW (eBin addW (eBin addW (eBin mulW (eVar 0) (eBin addW (eC (.int 48271)) (eBin mulW (eBin mulW (eC (.int 2)) (eVar 1)) (eVar 1)))) (eBin mulW (eC (.int 69621)) (eVar 1))) (eC (.int 11))) (eC (.int 2147483647))) (eC (.int 69621))) (eC (.int 2147483629))))
def d__law_mixed : DS := (sSeq s__law_mixed_0 s__law_mixed_1)
def r__law_mixed : Fw := pw (runD 2 d__law_mixed)
abbrev st__law_begin : Stmt := top 54
abbrev N__law_begin : List Str := ["_law_script", "_law_cells", "_law_cell"]
def s__law_begin_0 : DS := (sSet 1 (eIf (dTest (eBin neM (eVar 0) (eLst aNil))) (eFz (aFn listW (aCons (eVar 0) aNil))) (eLst (aCons (eC (.int 0)) aNil))))
def s__law_begin_1 : DS := (sRet (eDict [("cells", (eVar 1)), ("lefts", (eNw (aComp (iSeq (eVar 1)) (gN 2) dYes (eIf (dTest (eBin geW (eVar 2) (eBin powW (eC (.int 10)) (eC (.int 18))))) (eVar 2) (eC (.int 0))) [2]))), ("at", (eC (.int 0))), ("room", (eC (.int 0)))]))
def d__law_begin : DS := (sSeq s__law_begin_0 s__law_begin_1)
def r__law_begin : Fw := runD 3 d__law_begin
abbrev st__law_draw : Stmt := top 55
abbrev N__law_draw : List Str := ["_law_state", "_law_many", "_law_at", "_law_place", "_law_left", "_law_number"]
def s__law_draw_0 : DS := (sSet 2 (eDget (eVar 0) (eC (.str "at"))))
def s__law_draw_1 : DS := (sSub (eVar 0) (eC (.str "at")) (eBin addW (eVar 2) (eC (.int 1))))
def s__law_draw_2 : DS := (sSet 3 (eBin modW (eFn intW (aCons (eVar 2) aNil)) (eFn lenW (aCons (eDget (eVar 0) (eC (.str "cells"))) aNil))))
def s__law_draw_3 : DS := (sSet 4 (eBin ixM (eDget (eVar 0) (eC (.str "lefts"))) (eVar 3)))
def s__law_draw_4 : DS := (sIf (dTest (eBin gtW (eVar 4) (eC (.int 0)))) (sSeq (sSub (eDget (eVar 0) (eC (.str "lefts"))) (eVar 3) (eBin fdivW (eVar 4) (eVar 1)))
    (sRet (eBin modW (eFn intW (aCons (eVar 4) aNil)) (eVar 1)))) sNil)
def s__law_draw_5 : DS := (sSet 5 (eCall 2 r__law_mixed (aCons (eCall 2 r__law_mixed (aCons (eBin ixM (eDget (eVar 0) (eC (.str "cells"))) (eVar 3)) (aCons (eVar 2) aNil))) (aCons (eBin addW (eC (.int 40)) (eVar 2)) aNil))))
def s__law_draw_6 : DS := (sRet (eBin modW (eBin fdivW (eFn intW (aCons (eBin addW (eBin mulW (eVar 5) (eC (.int 2147483647))) (eCall 2 r__law_mixed (aCons (eVar 5) (aCons (eBin addW (eC (.int 7)) (eVar 2)) aNil)))) aNil)) (eC (.int 64))) (eVar 1)))
def d__law_draw : DS := (sSeq s__law_draw_0 (sSeq s__law_draw_1 (sSeq s__law_draw_2 (sSeq s__law_draw_3 (sSeq s__law_draw_4 (sSeq s__law_draw_5 s__law_draw_6))))))
def r__law_draw : Fw := runD 6 d__law_draw
abbrev st__law_of : Stmt := top 56
abbrev N__law_of : List Str := ["_law_state", "_law_some"]
def s__law_of_0 : DS := (sRet (eBin ixM (eVar 1) (eCall 2 r__law_draw (aCons (eVar 0) (aCons (eFn lenW (aCons (eVar 1) aNil)) aNil)))))
def d__law_of : DS := s__law_of_0
def r__law_of : Fw := runD 2 d__law_of
abbrev st__law_mays : Stmt := top 57
abbrev N__law_mays : List Str := ["_law_state"]
def s__law_mays_0 : DS := (sRet (eBin ixM (eLst (aCons (eTup aNil) (aCons (eTup (aCons (eC (.str "let")) aNil)) (aCons (eTup (aCons (eC (.str "out")) aNil)) (aCons (eTup (aCons (eC (.str "let")) (aCons (eC (.str "out")) aNil))) (aCons (eTup (aCons (eC (.str "let")) (aCons (eC (.str "out")) aNil))) aNil)))))) (eCall 2 r__law_draw (aCons (eVar 0) (aCons (eC (.int 5)) aNil)))))
def d__law_mays : DS := s__law_mays_0
def r__law_mays : Fw := runD 1 d__law_mays
abbrev st__law_bound : Stmt := top 58
abbrev N__law_bound : List Str := ["_law_state"]
def s__law_bound_0 : DS := (sRet (eBin ixM (eLst (aCons (eC (.int 0)) (aCons (eC (.int 1)) (aCons (eC (.int 1)) (aCons (eC (.int 2)) (aCons (eC (.int 3)) (aCons (eC (.int 4)) (aCons (eC .non) (aCons (eC .non) aNil))))))))) (eCall 2 r__law_draw (aCons (eVar 0) (aCons (eC (.int 8)) aNil)))))
def d__law_bound : DS := s__law_bound_0
def r__law_bound : Fw := runD 1 d__law_bound
abbrev st__law_any_rule : Stmt := top 59
abbrev N__law_any_rule : List Str := ["_law_state", "_law_most", "_law_words"]
def s__law_any_rule_0 : DS := (sSet 1 (eBin addW (eC (.int 1)) (eCall 2 r__law_draw (aCons (eVar 0) (aCons (eC (.int 3)) aNil)))))
def s__law_any_rule_1 : DS := (sSet 2 (eLst (aCons (eBin ixM (eLst (aCons (eC (.str "line")) (aCons (eC (.str "seen")) aNil))) (eCall 2 r__law_draw (aCons (eVar 0) (aCons (eC (.int 2)) aNil)))) (aCons (eBin ixM (eLst (aCons (eC (.str "none")) (aCons (eC (.str "on")) aNil))) (eCall 2 r__law_draw (aCons (eVar 0) (aCons (eC (.int 2)) aNil)))) aNil))))
def s__law_any_rule_2 : DS := (sSet 2 (eBin addW (eVar 2) (eLst (aCons (eBin ixM (eLst (aCons (eC (.str "asks")) (aCons (eC (.str "old")) (aCons (eC (.str "tells")) aNil)))) (eCall 2 r__law_draw (aCons (eVar 0) (aCons (eC (.int 3)) aNil)))) (aCons (eBin ixM (eLst (aCons (eC (.str "quiet")) (aCons (eC (.str "told")) aNil))) (eCall 2 r__law_draw (aCons (eVar 0) (aCons (eC (.int 2)) aNil)))) aNil)))))
def s__law_any_rule_3 : DS := (sRet (eBin addW (eBin addW (eTup (aCons (eVar 1) (aCons (eCall 2 r__law_draw (aCons (eVar 0) (aCons (eBin addW (eVar 1) (eC (.int 1))) aNil))) aNil))) (eFn tupleW (aCons (eVar 2) aNil))) (eTup (aCons (eBin ixM (eLst (aCons (eC (.str "asks")) (aCons (eC (.str "claims")) aNil))) (eCall 2 r__law_draw (aCons (eVar 0) (aCons (eC (.int 2)) aNil)))) aNil))))
def d__law_any_rule : DS := (sSeq s__law_any_rule_0 (sSeq s__law_any_rule_1 (sSeq s__law_any_rule_2 s__law_any_rule_3)))
def r__law_any_rule : Fw := runD 3 d__law_any_rule
abbrev st__law_back_is_good : Stmt := top 60
abbrev N__law_back_is_good : List Str := ["_law_rule", "_law_may"]
def s__law_back_is_good_0 : DS := (sRet (eOr (eBin (inM true) (eC (.str "out")) (eVar 1)) (eOr (eBin eqM (eBin ixM (eVar 0) (eC (.int 4))) (eC (.str "tells"))) (eAnd (eBin eqM (eBin ixM (eVar 0) (eC (.int 4))) (eC (.str "asks"))) (eBin eqM (eBin ixM (eVar 0) (eC (.int 2))) (eC (.str "line")))))))
def d__law_back_is_good : DS := s__law_back_is_good_0
def r__law_back_is_good : Fw := pw (runD 2 d__law_back_is_good)
abbrev st__law_keeps : Stmt := top 61
abbrev N__law_keeps : List Str := ["_law_rule", "_law_promise", "_law_may", "_law_absent", "_law_most", "_law_few", "_law_ask", "_law_fill", "_law_back", "_law_let", "_law_lost", "_law_is_fresh"]
def s__law_keeps_0 : DS := (sAsg (eVar 0) (gT (gsCons (gN 4) (gsCons (gN 5) (gsCons (gN 6) (gsCons (gN 7) (gsCons (gN 8) (gsCons (gN 9) (gsCons (gN 10) gsNil)))))))))
def s__law_keeps_1 : DS := (sIf (dTest (eBin eqM (eVar 1) (eC (.str "place")))) (sRet (eOr (eBin neM (eVar 8) (eC (.str "asks"))) (eOr (eBin eqM (eVar 3) (eC (.int 0))) (eBin (inM true) (eC (.str "out")) (eVar 2))))) sNil)
def s__law_keeps_2 : DS := (sIf (dTest (eBin eqM (eVar 1) (eC (.str "door")))) (sSeq (sSet 11 (eOr (eBin eqM (eVar 3) (eC (.int 0))) (eOr (eBin neM (eVar 8) (eC (.str "old"))) (eBin (inM true) (eC (.str "out")) (eVar 2)))))
    (sRet (eOr (eBin eqM (eVar 5) (eVar 4)) (eAnd (eBin notNonW (eVar 3) (eC .non)) (eAnd (eBin leW (eVar 3) (eVar 5)) (eVar 11)))))) sNil)
def s__law_keeps_3 : DS := (sIf (dTest (eBin eqM (eVar 3) (eC (.int 0)))) (sRet (eOr (eBin eqM (eVar 10) (eC (.str "asks"))) (eBin eqM (eVar 7) (eC (.str "on"))))) sNil)
def s__law_keeps_4 : DS := (sIf (dTest (eBin eqM (eVar 5) (eC (.int 0)))) (sRet (eOr (eBin eqM (eVar 10) (eC (.str "asks"))) (eAnd (eBin eqM (eVar 7) (eC (.str "on"))) (eCall 2 r__law_back_is_good (aCons (eVar 0) (aCons (eVar 2) aNil)))))) sNil)
def s__law_keeps_5 : DS := (sIf (dOr (dTest (eBin eqM (eVar 7) (eC (.str "none")))) (dOr (dAnd (dTest (eBin eqM (eVar 9) (eC (.str "quiet")))) (dTest (eBin (inM false) (eC (.str "let")) (eVar 2)))) (dNot (dTest (eCall 2 r__law_back_is_good (aCons (eVar 0) (aCons (eVar 2) aNil))))))) (sRet (eC (.bl false))) sNil)
def s__law_keeps_6 : DS := (sRet (eOr (eBin ltW (eVar 5) (eVar 4)) (eAnd (eBin notNonW (eVar 3) (eC .non)) (eBin ltW (eVar 3) (eVar 4)))))
def d__law_keeps : DS := (sSeq s__law_keeps_0 (sSeq s__law_keeps_1 (sSeq s__law_keeps_2 (sSeq s__law_keeps_3 (sSeq s__law_keeps_4 (sSeq s__law_keeps_5 s__law_keeps_6))))))
def r__law_keeps : Fw := pw (runD 12 d__law_keeps)
abbrev st__law_changes : Stmt := top 62
abbrev N__law_changes : List Str := ["_law_one", "_law_other", "_law_mine", "_law_yours"]
def s__law_changes_0 : DS := (sRet (eFn lenW (aCons (eFz (aComp (iZipW (eVar 0) (eVar 1)) (gT (gsCons (gN 2) (gsCons (gN 3) gsNil))) (dTest (eBin neM (eVar 2) (eVar 3))) (eC (.int 1)) [2, 3])) aNil)))
def d__law_changes : DS := s__law_changes_0
def r__law_changes : Fw := pw (runD 4 d__law_changes)
abbrev st__law_bears_right : Stmt := top 63
abbrev N__law_bears_right : List Str := ["_law_state", "_law_rule", "_law_may", "_law_promises", "_law_truths", "_law_absent", "_law_due", "_law_most", "_law_promise"]
def s__law_bears_right_0 : DS := (sAsg (eTup (aCons (eCall 1 r__law_any_rule (aCons (eVar 0) aNil)) (aCons (eCall 1 r__law_mays (aCons (eVar 0) aNil)) aNil))) (gT (gsCons (gN 1) (gsCons (gN 2) gsNil))))
def s__law_bears_right_1 : DS := (sSet 3 (eCall 2 r__law_of (aCons (eVar 0) (aCons (eLst (aCons (eTup (aCons (eC (.str "door")) aNil)) (aCons (eTup (aCons (eC (.str "order")) aNil)) (aCons (eTup (aCons (eC (.str "place")) aNil)) (aCons (eTup (aCons (eC (.str "door")) (aCons (eC (.str "order")) aNil))) (aCons (eTup (aCons (eC (.str "door")) (aCons (eC (.str "order")) (aCons (eC (.str "place")) aNil)))) aNil)))))) aNil))))
def s__law_bears_right_2 : DS := (sSet 4 (eLstM aNil))
def b__law_bears_right_0 : DS := (sExpr (eApp (eVar 4) (eBin (inM true) (eC (.bl false)) (eFz (aComp (iSeq (eVar 3)) (gN 8) dYes (eCall 4 r_does_keep (aCons (eVar 1) (aCons (eVar 8) (aCons (eVar 2) (aCons (eVar 5) aNil))))) [8])))))
def s__law_bears_right_3 : DS := (sFor (iSeq (eTup (aCons (eC (.int 0)) (aCons (eC (.int 1)) (aCons (eC (.int 2)) (aCons (eC (.int 3)) (aCons (eC (.int 4)) (aCons (eC (.int 5)) (aCons (eC (.int 6)) (aCons (eC (.int 7)) (aCons (eC (.int 99)) (aCons (eC .non) aNil)))))))))))) (gN 5) b__law_bears_right_0)
def s__law_bears_right_4 : DS := (sIf (dTest (eBin neM (eVar 4) (eRev (eFz (aFn sortedW (aCons (eVar 4) aNil)))))) (sRet (eC (.bl false))) sNil)
def s__law_bears_right_5 : DS := (sSet 6 (eIf (dTest (eBin ixM (eVar 4) (eNeg (eC (.int 1))))) (eC .non) (eBin subW (eIdx (eVar 4) (eC (.bl false))) (eC (.int 1)))))
def s__law_bears_right_6 : DS := (sIf (dTest (eBin neS (eFn reprW (aCons (eLst (aCons (eCall 3 r_bears (aCons (eVar 1) (aCons (eVar 3) (aCons (eVar 2) aNil)))) (aCons (eCall 3 r_bears (aCons (eVar 1) (aCons (eVar 3) (aCons (eVar 2) aNil)))) aNil))) aNil)) (eFn reprW (aCons (eBin mulW (eLst (aCons (eVar 6) aNil)) (eC (.int 2))) aNil)))) (sRet (eC (.bl false))) sNil)
def s__law_bears_right_7 : DS := (sSet 7 (eCall 3 r_bears (aCons (eVar 1) (aCons (eTup (aCons (eC (.str "door")) (aCons (eC (.str "order")) (aCons (eC (.str "place")) aNil)))) (aCons (eTup (aCons (eC (.str "let")) (aCons (eC (.str "out")) aNil))) aNil)))))
def s__law_bears_right_8 : DS := (sRet (eAnd (eBin notNonW (eVar 7) (eC .non)) (eBin ltW (eVar 7) (eBin ixM (eVar 1) (eC (.int 0))))))
def d__law_bears_right : DS := (sSeq s__law_bears_right_0 (sSeq s__law_bears_right_1 (sSeq s__law_bears_right_2 (sSeq s__law_bears_right_3 (sSeq s__law_bears_right_4 (sSeq s__law_bears_right_5 (sSeq s__law_bears_right_6 (sSeq s__law_bears_right_7 s__law_bears_right_8))))))))
def r__law_bears_right : Fw := runD 9 d__law_bears_right
abbrev st_law : Stmt := top 64
abbrev N_law : List Str := ["_law_script", "_law_state", "_law_turn", "_law_rule", "_law_may", "_law_absent", "_law_promises", "_law_good", "_law_other", "_law_few", "_law_due", "_law_heard", "_law_names", "_law_every", "_law_most", "_law_promise", "_law_k"]
def s_law_0 : DS := (sSet 1 (eCall 1 r__law_begin (aCons (eVar 0) aNil)))
def b_law_0 : DS := (sIf (dTest (eBin (inM true) (eC (.bl false)) (eFz (aComp (iSeq (eVar 6)) (gN 15) dYes (eCall 4 r__law_keeps (aCons (eVar 8) (aCons (eVar 15) (aCons (eVar 4) (aCons (eVar 5) aNil))))) [15])))) (sExpr (eApp (eVar 7) (eVar 8))) sNil)
def b_law_1 : DS := (sSeq (sIf (dOr (dNot (dTest (eCall 1 r__law_bears_right (aCons (eVar 1) aNil)))) (dOr (dNot (dTest (eCall 1 r__law_bears_right (aCons (eVar 1) aNil)))) (dNot (dTest (eCall 1 r__law_bears_right (aCons (eVar 1) aNil)))))) (sRet (eC (.bl false))) sNil)
    (sSeq (sAsg (eTup (aCons (eCall 1 r__law_any_rule (aCons (eVar 1) aNil)) (aCons (eCall 1 r__law_mays (aCons (eVar 1) aNil)) (aCons (eCall 1 r__law_bound (aCons (eVar 1) aNil)) aNil)))) (gT (gsCons (gN 3) (gsCons (gN 4) (gsCons (gN 5) gsNil)))))
    (sSeq (sSet 6 (eCall 2 r__law_of (aCons (eVar 1) (aCons (eLst (aCons (eTup (aCons (eC (.str "door")) aNil)) (aCons (eTup (aCons (eC (.str "order")) aNil)) (aCons (eTup (aCons (eC (.str "place")) aNil)) (aCons (eTup (aCons (eC (.str "door")) (aCons (eC (.str "order")) aNil))) (aCons (eTup (aCons (eC (.str "door")) (aCons (eC (.str "order")) (aCons (eC (.str "place")) aNil)))) aNil)))))) aNil))))
    (sSeq (sSet 7 (eLstM aNil))
    (sSeq (sFor (iSeq (eCall 0 r_all_rules aNil)) (gN 8) b_law_0)
    (sSeq (sSet 9 (eFn minLW (aCons (eBin addW (eFz (aComp (iSeq (eFrz 7)) (gN 8) dYes (eCall 2 r__law_changes (aCons (eVar 3) (aCons (eVar 8) aNil))) [8])) (eLst (aCons (eC (.int 9)) aNil))) aNil)))
    (sSeq (sSet 10 (eFn tupleW (aCons (eFz (aFn sortedW (aCons (eFz (aComp (iSeq (eFrz 7)) (gN 8) (dTest (eBin eqM (eCall 2 r__law_changes (aCons (eVar 3) (aCons (eVar 8) aNil))) (eVar 9))) (eVar 8) [8])) aNil))) aNil)))
    (sSeq (sSet 11 (eLst (aCons (eCall 4 r_nearest_rules (aCons (eVar 3) (aCons (eVar 6) (aCons (eVar 4) (aCons (eVar 5) aNil))))) (aCons (eCall 4 r_nearest_rules (aCons (eVar 3) (aCons (eVar 6) (aCons (eVar 4) (aCons (eVar 5) aNil))))) aNil))))
    (sSeq (sIf (dOr (dTest (eBin neS (eFn reprW (aCons (eVar 11) aNil)) (eFn reprW (aCons (eBin mulW (eLst (aCons (eVar 10) aNil)) (eC (.int 2))) aNil)))) (dAnd (dTest (eBin (inM false) (eVar 3) (eVar 7))) (dTest (eBin neM (eVar 10) (eTup (aCons (eVar 3) aNil)))))) (sRet (eC (.bl false))) sNil)
    (sSeq (sSet 12 (eFn minLW (aCons (eBin addW (eFz (aComp (iSeq (eFrz 7)) (gN 8) dYes (eBin ixM (eVar 8) (eC (.int 0))) [8])) (eLst (aCons (eC (.int 9)) aNil))) aNil)))
    (sSeq (sIf (dTest (eBin neS (eFn reprW (aCons (eCall 3 r_fewest_names (aCons (eVar 6) (aCons (eVar 4) (aCons (eVar 5) aNil)))) aNil)) (eFn reprW (aCons (eIf (dTest (eBin eqM (eVar 12) (eC (.int 9)))) (eC .non) (eVar 12)) aNil)))) (sRet (eC (.bl false))) sNil)
    (sSeq (sSet 8 (eCall 1 r__law_any_rule (aCons (eVar 1) aNil)))
    (sSeq (sSet 11 (eLst (aCons (eCall 2 r_changes_between (aCons (eVar 3) (aCons (eVar 8) aNil))) (aCons (eCall 2 r_changes_between (aCons (eVar 3) (aCons (eVar 3) aNil))) (aCons (eCall 2 r_changes_between (aCons (eVar 3) (aCons (eVar 8) aNil))) aNil)))))
    (sIf (dTest (eBin neM (eVar 11) (eLst (aCons (eCall 2 r__law_changes (aCons (eVar 3) (aCons (eVar 8) aNil))) (aCons (eC (.int 0)) (aCons (eCall 2 r__law_changes (aCons (eVar 3) (aCons (eVar 8) aNil))) aNil)))))) (sRet (eC (.bl false))) sNil))))))))))))))
def s_law_1 : DS := (sFor (iRng (aCons (eBin addW (eC (.int 2)) (eFn minW (aCons (eFn lenW (aCons (eVar 0) aNil)) (aCons (eC (.int 6)) aNil)))) aNil)) (gN 2) b_law_1)
def s_law_2 : DS := (sSet 13 (eTup (aCons (eC (.str "door")) (aCons (eC (.str "order")) (aCons (eC (.str "place")) aNil)))))
def b_law_2 : DS := (sIf (dTest (eBin neM (eCall 3 r_bears (aCons (eTup (aCons (eVar 14) (aCons (eVar 14) (aCons (eC (.str "line")) (aCons (eC (.str "on")) (aCons (eC (.str "tells")) (aCons (eC (.str "told")) (aCons (eC (.str "asks")) aNil)))))))) (aCons (eVar 13) (aCons (eTup (aCons (eC (.str "let")) (aCons (eC (.str "out")) aNil))) aNil)))) (eBin subW (eVar 14) (eC (.int 1))))) (sRet (eC (.bl false))) sNil)
def s_law_3 : DS := (sFor (iSeq (eTup (aCons (eC (.int 1)) (aCons (eC (.int 2)) (aCons (eC (.int 3)) aNil))))) (gN 14) b_law_2)
def s_law_4 : DS := (sRet (eBin eqM (eFz (aComp (iSeq (eTup (aCons (eC (.int 0)) (aCons (eC (.int 1)) (aCons (eC (.int 2)) (aCons (eC (.int 3)) aNil)))))) (gN 16) dYes (eCall 3 r_fewest_names (aCons (eVar 13) (aCons (eTup (aCons (eC (.str "let")) (aCons (eC (.str "out")) aNil))) (aCons (eVar 16) aNil)))) [16])) (eLst (aCons (eC (.int 1)) (aCons (eC (.int 2)) (aCons (eC (.int 3)) (aCons (eC .non) aNil)))))))
def d_law : DS := (sSeq s_law_0 (sSeq s_law_1 (sSeq s_law_2 (sSeq s_law_3 s_law_4))))
def r_law : Fw := runD 17 d_law
/-- what stands behind the top -/
structure Txt (K : PySem.W.Frag) (mg : Str → Option Value) where
  m_all : mg "all" = none
  m_bool : mg "bool" = none
  m_enumerate : mg "enumerate" = none
  m_int : mg "int" = none
  m_isinstance : mg "isinstance" = none
  m_len : mg "len" = none
  m_list : mg "list" = none
  m_min : mg "min" = none
  m_range : mg "range" = none
  m_repr : mg "repr" = none
  m_sorted : mg "sorted" = none
  m_str : mg "str" = none
  m_tuple : mg "tuple" = none
  m_zip : mg "zip" = none
  c_LINE : GloW K mg "LINE" w_LINE
  c_ON : GloW K mg "ON" w_ON
  c_ASKS : GloW K mg "ASKS" w_ASKS
  c_OLD : GloW K mg "OLD" w_OLD
  c_TELLS : GloW K mg "TELLS" w_TELLS
  c_QUIET : GloW K mg "QUIET" w_QUIET
  c_MOST_NAMES : GloW K mg "MOST_NAMES" w_MOST_NAMES
  c_CHOICES : GloW K mg "CHOICES" w_CHOICES
  c_DOOR_PROMISE : GloW K mg "DOOR_PROMISE" w_DOOR_PROMISE
  c_ORDER_PROMISE : GloW K mg "ORDER_PROMISE" w_ORDER_PROMISE
  c_PROMISES : GloW K mg "PROMISES" w_PROMISES
  c_MAY_LET : GloW K mg "MAY_LET" w_MAY_LET
  c_MAY_OUT : GloW K mg "MAY_OUT" w_MAY_OUT
  c_MAYS : GloW K mg "MAYS" w_MAYS
  c_MOST_ABSENT : GloW K mg "MOST_ABSENT" w_MOST_ABSENT
  fd_is_integer : FuncData
  f_is_integer : FT K mg "is_integer" st_is_integer ["thing"] fd_is_integer
  fd_is_between : FuncData
  f_is_between : FT K mg "is_between" st_is_between ["thing", "least", "most"] fd_is_between
  fd_is_one_of : FuncData
  f_is_one_of : FT K mg "is_one_of" st_is_one_of ["some", "thing"] fd_is_one_of
  fd_need_rule : FuncData
  f_need_rule : FT K mg "need_rule" st_need_rule ["thing"] fd_need_rule
  fd_all_rules : FuncData
  f_all_rules : FT K mg "all_rules" st_all_rules [] fd_all_rules
  fd_need_promise : FuncData
  f_need_promise : FT K mg "need_promise" st_need_promise ["thing"] fd_need_promise
  fd_need_promises : FuncData
  f_need_promises : FT K mg "need_promises" st_need_promises ["thing"] fd_need_promises
  fd_need_may : FuncData
  f_need_may : FT K mg "need_may" st_need_may ["thing"] fd_need_may
  fd_need_absent : FuncData
  f_need_absent : FT K mg "need_absent" st_need_absent ["thing"] fd_need_absent
  fd_is_at_most : FuncData
  f_is_at_most : FT K mg "is_at_most" st_is_at_most ["absent", "number"] fd_is_at_most
  fd_do_renew : FuncData
  f_do_renew : FT K mg "do_renew" st_do_renew ["rule", "may"] fd_do_renew
  fd_keeps_order : FuncData
  f_keeps_order : FT K mg "keeps_order" st_keeps_order ["rule", "may", "absent"] fd_keeps_order
  fd_keeps_door : FuncData
  f_keeps_door : FT K mg "keeps_door" st_keeps_door ["rule", "may", "absent"] fd_keeps_door
  fd_keeps_by : FuncData
  f_keeps_by : FT K mg "keeps_by" st_keeps_by ["rule", "promise", "may", "absent"] fd_keeps_by
  fd_does_keep : FuncData
  f_does_keep : FT K mg "does_keep" st_does_keep ["rule", "promise", "may", "absent"] fd_does_keep
  fd_keeps_all : FuncData
  f_keeps_all : FT K mg "keeps_all" st_keeps_all ["rule", "promises", "may", "absent"] fd_keeps_all
  fd_bears_by : FuncData
  f_bears_by : FT K mg "bears_by" st_bears_by ["rule", "promises", "may"] fd_bears_by
  fd_bears : FuncData
  f_bears : FT K mg "bears" st_bears ["rule", "promises", "may"] fd_bears
  fd_keeping_in : FuncData
  f_keeping_in : FT K mg "keeping_in" st_keeping_in ["promises", "may", "absent"] fd_keeping_in
  fd_changes_in : FuncData
  f_changes_in : FT K mg "changes_in" st_changes_in ["rule", "other"] fd_changes_in
  fd_changes_between : FuncData
  f_changes_between : FT K mg "changes_between" st_changes_between ["rule", "other"] fd_changes_between
  fd_nearest_rules : FuncData
  f_nearest_rules : FT K mg "nearest_rules" st_nearest_rules ["rule", "promises", "may", "absent"] fd_nearest_rules
  fd_fewest_names : FuncData
  f_fewest_names : FT K mg "fewest_names" st_fewest_names ["promises", "may", "absent"] fd_fewest_names
  fd__law_mixed : FuncData
  f__law_mixed : FT K mg "_law_mixed" st__law_mixed ["_law_cell", "_law_k"] fd__law_mixed
  fd__law_begin : FuncData
  f__law_begin : FT K mg "_law_begin" st__law_begin ["_law_script"] fd__law_begin
  fd__law_draw : FuncData
  f__law_draw : FT K mg "_law_draw" st__law_draw ["_law_state", "_law_many"] fd__law_draw
  fd__law_of : FuncData
  f__law_of : FT K mg "_law_of" st__law_of ["_law_state", "_law_some"] fd__law_of
  fd__law_mays : FuncData
  f__law_mays : FT K mg "_law_mays" st__law_mays ["_law_state"] fd__law_mays
  fd__law_bound : FuncData
  f__law_bound : FT K mg "_law_bound" st__law_bound ["_law_state"] fd__law_bound
  fd__law_any_rule : FuncData
  f__law_any_rule : FT K mg "_law_any_rule" st__law_any_rule ["_law_state"] fd__law_any_rule
  fd__law_back_is_good : FuncData
  f__law_back_is_good : FT K mg "_law_back_is_good" st__law_back_is_good ["_law_rule", "_law_may"] fd__law_back_is_good
  fd__law_keeps : FuncData
  f__law_keeps : FT K mg "_law_keeps" st__law_keeps ["_law_rule", "_law_promise", "_law_may", "_law_absent"] fd__law_keeps
  fd__law_changes : FuncData
  f__law_changes : FT K mg "_law_changes" st__law_changes ["_law_one", "_law_other"] fd__law_changes
  fd__law_bears_right : FuncData
  f__law_bears_right : FT K mg "_law_bears_right" st__law_bears_right ["_law_state"] fd__law_bears_right
  fd_law : FuncData
  f_law : FT K mg "law" st_law ["_law_script"] fd_law
section
variable {P : Program} {w : World} {K : PySem.W.Frag} {mg : Str → Option Value} {base : Heap} {cl : Nat → Addr}
theorem sc_is_integer : FnScope N_is_integer ["thing"] (defScope st_is_integer) := ⟨rfl, rfl, rfl, by decide +kernel, rfl, by decide +kernel, by decide +kernel⟩
theorem ok_is_integer (T : Txt K mg) : FnG P w K mg base 1 (He.ga K "is_integer") T.fd_is_integer ["thing"] (spOf K cl 1 r_is_integer) := by
  refine fn_pw (fn_ok (N := N_is_integer) (d := d_is_integer) T.f_is_integer.F sc_is_integer rfl fun cdv A outer s H E hr => ?_)
  have tk := takes_of (X := cxOf (L2.CX P w) P w K mg base N_is_integer "is_integer" (defScope st_is_integer) (He.ga K "is_integer") cdv A outer s H E) (E := E) rfl rfl rfl rfl
  exact (ss_one (ss_ret (se_and (se_isi .int T.m_isinstance T.m_int (by decide +kernel) (sv 0)) (se_one (se_not (se_isi .bl T.m_isinstance T.m_bool (by decide +kernel) (sv 0)))))))
theorem sc_is_between : FnScope N_is_between ["thing", "least", "most"] (defScope st_is_between) := ⟨rfl, rfl, rfl, by decide +kernel, rfl, by decide +kernel, by decide +kernel⟩
theorem ok_is_between (T : Txt K mg) : FnG P w K mg base 2 (He.ga K "is_between") T.fd_is_between ["thing", "least", "most"] (spOf K cl 3 r_is_between) := by
  refine fn_pw (fn_ok (N := N_is_between) (d := d_is_between) T.f_is_between.F sc_is_between rfl fun cdv A outer s H E hr => ?_)
  have tk := takes_of (X := cxOf (L2.CX P w) P w K mg base N_is_between "is_between" (defScope st_is_between) (He.ga K "is_between") cdv A outer s H E) (E := E) rfl rfl rfl rfl
  exact (ss_one (ss_ret (se_and (se_call (ok_is_integer T) (hr.mono (by decide)) T.f_is_integer.g T.f_is_integer.F.kp T.f_is_integer.b tk (sa_cons (sv 0) sa_nil)) (se_one (se_chain op_le b_le op_le w_le (sv 1) (sv 0) (sv 2))))))
theorem sc_is_one_of : FnScope N_is_one_of ["some", "thing"] (defScope st_is_one_of) := ⟨rfl, rfl, rfl, by decide +kernel, rfl, by decide +kernel, by decide +kernel⟩
theorem ok_is_one_of (T : Txt K mg) : FnG P w K mg base 1 (He.ga K "is_one_of") T.fd_is_one_of ["some", "thing"] (spOf K cl 2 r_is_one_of) := by
  refine fn_pw (fn_ok (N := N_is_one_of) (d := d_is_one_of) T.f_is_one_of.F sc_is_one_of rfl fun cdv A outer s H E hr => ?_)
  have tk := takes_of (X := cxOf (L2.CX P w) P w K mg base N_is_one_of "is_one_of" (defScope st_is_one_of) (He.ga K "is_one_of") cdv A outer s H E) (E := E) rfl rfl rfl rfl
  exact (ss_one (ss_ret (se_and (se_isi .str T.m_isinstance T.m_str (by decide +kernel) (sv 1)) (se_one (se_cmp (op_inA (hu65 hr)) w_in (sv 1) (sv 0) rfl)))))
theorem sc_need_rule : FnScope N_need_rule ["thing"] (defScope st_need_rule) := ⟨rfl, rfl, rfl, by decide +kernel, rfl, by decide +kernel, by decide +kernel⟩
theorem ok_need_rule (T : Txt K mg) : FnG P w K mg base 3 (He.ga K "need_rule") T.fd_need_rule ["thing"] (spOf K cl 1 r_need_rule) := by
  refine fn_pw (fn_ok (N := N_need_rule) (d := d_need_rule) T.f_need_rule.F sc_need_rule rfl fun cdv A outer s H E hr => ?_)
  have tk := takes_of (X := cxOf (L2.CX P w) P w K mg base N_need_rule "need_rule" (defScope st_need_rule) (He.ga K "need_rule") cdv A outer s H E) (E := E) rfl rfl rfl rfl
  exact (ss_cons (ss_if (PW.pt (sw_or (st_not (st_val (se_isi .tup T.m_isinstance T.m_tuple (by decide +kernel) (sv 0)))) (sw_or1 (st_cmp (op_neD hr.units) w_ne (se_cb c_len w_len T.m_len boot_len (sa_cons (sv 0) sa_nil)) (se_op o_add w_add se_int (se_cb c_len w_len T.m_len boot_len (sa_cons (se_g T.c_CHOICES) sa_nil))) rfl)))) (ss_one ss_noraise) ss_nil)
    (ss_cons (ss_if (st_not (st_val (se_call (ok_is_between T) (hr.mono (by decide)) T.f_is_between.g T.f_is_between.F.kp T.f_is_between.b tk (sa_cons (se_ix ix_seq w_ix (sv 0) se_int) (sa_cons se_int (sa_cons (se_g T.c_MOST_NAMES) sa_nil)))))) (ss_one ss_noraise) ss_nil)
    (ss_cons (ss_if (st_not (st_val (se_call (ok_is_between T) (hr.mono (by decide)) T.f_is_between.g T.f_is_between.F.kp T.f_is_between.b tk (sa_cons (se_ix ix_seq w_ix (sv 0) se_int) (sa_cons se_int (sa_cons (se_ix ix_seq w_ix (sv 0) se_int) sa_nil)))))) (ss_one ss_noraise) ss_nil)
    (ss_cons (ss_for (passes_of rfl) rfl (si_enum T.m_enumerate (se_g T.c_CHOICES)) (sg_tup rfl (sgs_cons (sg_name (pg_name (i := 1) sc_need_rule.nd rfl (by first | exact Or.inl rfl | exact Or.inr rfl))) (sgs_cons (sg_name (pg_name (i := 2) sc_need_rule.nd rfl (by first | exact Or.inl rfl | exact Or.inr rfl))) sgs_nil)) (gsCons_len (gsCons_len gsNil_len))) (ss_one (ss_if (st_not (st_val (se_call (ok_is_one_of T) (hr.mono (by decide)) T.f_is_one_of.g T.f_is_one_of.F.kp T.f_is_one_of.b tk (sa_cons (sv 2) (sa_cons (se_ix ix_seq w_ix (sv 0) (se_op o_add w_add se_int (sv 1))) sa_nil))))) (ss_one ss_noraise) ss_nil)))
    (ss_one (ss_ret (sv 0)))))))
theorem sc_all_rules : FnScope N_all_rules [] (defScope st_all_rules) := ⟨rfl, rfl, rfl, by decide +kernel, rfl, by decide +kernel, by decide +kernel⟩
theorem ok_all_rules (T : Txt K mg) : FnG P w K mg base 1 (He.ga K "all_rules") T.fd_all_rules [] (spOf K cl 0 r_all_rules) := by
  refine fn_pw (fn_ok (N := N_all_rules) (d := d_all_rules) T.f_all_rules.F sc_all_rules rfl fun cdv A outer s H E hr => ?_)
  have tk := takes_of (X := cxOf (L2.CX P w) P w K mg base N_all_rules "all_rules" (defScope st_all_rules) (He.ga K "all_rules") cdv A outer s H E) (E := E) rfl rfl rfl rfl
  exact (ss_cons (ss_setLc2 (i := 0) (own := [("most", 2), ("few", 3)]) (vs1 := [3]) rfl sc_all_rules.nd rfl rfl (sw_true rfl rfl rfl (by decide +kernel)) (si_rng2 T.m_range (sa_cons se_int (sa_cons (se_op o_add w_add (se_g T.c_MOST_NAMES) se_int) sa_nil)) a2_len) (blkOk_by (N := N_all_rules) (sc := defScope st_all_rules) (by decide +kernel)) (by decide) (by decide) (by decide) (fun _ _ _ _ _ => (sg_name (pg_name (i := 2) sc_all_rules.nd rfl (by first | exact Or.inl rfl | exact Or.inr rfl)))) (fun _ _ _ _ _ => stc_nil) (fun _ _ _ _ _ => (si_rng1 T.m_range (sa_cons (se_op o_add w_add (sv 2) se_int) sa_nil) a1_len)) (fun _ _ _ _ _ => (sg_name (pg_name (i := 3) sc_all_rules.nd rfl (by first | exact Or.inl rfl | exact Or.inr rfl)))) (fun _ _ _ _ _ => stc_nil) (fun _ _ _ _ _ => (se_tup (sa_cons (sv 2) (sa_cons (sv 3) sa_nil)))))
    (ss_cons (ss_for (passes_of rfl) rfl (si_seq (se_g T.c_CHOICES)) (sg_name (pg_name (i := 1) sc_all_rules.nd rfl (by first | exact Or.inl rfl | exact Or.inr rfl))) (ss_one (ss_setLc2 (i := 0) (own := [("row", 4), ("word", 5)]) (vs1 := [5]) rfl sc_all_rules.nd rfl rfl (sw_true rfl rfl rfl (by decide +kernel)) (si_seq (sv 0)) (blkOk_by (N := N_all_rules) (sc := defScope st_all_rules) (by decide +kernel)) (by decide) (by decide) (by decide) (fun _ _ _ _ _ => (sg_name (pg_name (i := 4) sc_all_rules.nd rfl (by first | exact Or.inl rfl | exact Or.inr rfl)))) (fun _ _ _ _ _ => stc_nil) (fun _ _ _ _ _ => (si_seq (sv 1))) (fun _ _ _ _ _ => (sg_name (pg_name (i := 5) sc_all_rules.nd rfl (by first | exact Or.inl rfl | exact Or.inr rfl)))) (fun _ _ _ _ _ => stc_nil) (fun _ _ _ _ _ => (se_tup (sa_star (sv 4) (sa_cons (sv 5) sa_nil)))))))
    (ss_one (ss_ret (se_ct call_tuple_of w_tuple T.m_tuple (by decide +kernel) (sa_cons (sv 0) sa_nil))))))
theorem sc_need_promise : FnScope N_need_promise ["thing"] (defScope st_need_promise) := ⟨rfl, rfl, rfl, by decide +kernel, rfl, by decide +kernel, by decide +kernel⟩
theorem ok_need_promise (T : Txt K mg) : FnG P w K mg base 1 (He.ga K "need_promise") T.fd_need_promise ["thing"] (spOf K cl 1 r_need_promise) := by
  refine fn_pw (fn_ok (N := N_need_promise) (d := d_need_promise) T.f_need_promise.F sc_need_promise rfl fun cdv A outer s H E hr => ?_)
  have tk := takes_of (X := cxOf (L2.CX P w) P w K mg base N_need_promise "need_promise" (defScope st_need_promise) (He.ga K "need_promise") cdv A outer s H E) (E := E) rfl rfl rfl rfl
  exact (ss_cons (ss_if (PW.pt (sw_or (st_not (st_val (se_isi .str T.m_isinstance T.m_str (by decide +kernel) (sv 0)))) (sw_or1 (st_cmp (op_notInA (hu65 hr)) w_in (sv 0) (se_g T.c_PROMISES) rfl)))) (ss_one ss_noraise) ss_nil)
    (ss_one (ss_ret (sv 0))))
theorem sc_need_promises : FnScope N_need_promises ["thing"] (defScope st_need_promises) := ⟨rfl, rfl, rfl, by decide +kernel, rfl, by decide +kernel, by decide +kernel⟩
theorem ok_need_promises (T : Txt K mg) : FnG P w K mg base 1 (He.ga K "need_promises") T.fd_need_promises ["thing"] (spOf K cl 1 r_need_promises) := by
  refine fn_pw (fn_ok (N := N_need_promises) (d := d_need_promises) T.f_need_promises.F sc_need_promises rfl fun cdv A outer s H E hr => ?_)
  have tk := takes_of (X := cxOf (L2.CX P w) P w K mg base N_need_promises "need_promises" (defScope st_need_promises) (He.ga K "need_promises") cdv A outer s H E) (E := E) rfl rfl rfl rfl
  exact (ss_cons (ss_if (PW.pt (sw_or (st_not (st_val (se_isi .tup T.m_isinstance T.m_tuple (by decide +kernel) (sv 0)))) (sw_or1 (st_cmp (op_eqD hr.units) w_eq (sv 0) (se_tup sa_nil) rfl)))) (ss_one ss_noraise) ss_nil)
    (ss_cons (ss_if (st_not (st_val (se_cb (cr_all rfl) w_all T.m_all boot_all (sa_cons (se_fz (se_lc (own := [("one", 1)]) rfl sc_need_promises.nd (si_seq (sv 0)) (blkOk_by (N := N_need_promises) (sc := defScope st_need_promises) (by decide +kernel)) (by decide) (fun _ _ _ _ _ => (sg_name (pg_name (i := 1) sc_need_promises.nd rfl (by first | exact Or.inl rfl | exact Or.inr rfl)))) (fun _ _ _ _ _ => stc_nil) (fun _ _ _ _ _ => (se_and (se_isi .str T.m_isinstance T.m_str (by decide +kernel) (sv 1)) (se_one (se_cmp (op_inA (hu65 hr)) w_in (sv 1) (se_g T.c_PROMISES) rfl)))))) sa_nil)))) (ss_one ss_noraise) ss_nil)
    (ss_cons (ss_if (st_not (st_val (se_cb (cr_all rfl) w_all T.m_all boot_all (sa_cons (se_fz (se_lc (own := [("one", 1), ("other", 2)]) rfl sc_need_promises.nd (si_zip T.m_zip (sv 0) (se_sl (sv 0) (so_some se_int) so_none)) (blkOk_by (N := N_need_promises) (sc := defScope st_need_promises) (by decide +kernel)) (by decide) (fun _ _ _ _ _ => (sg_tup rfl (sgs_cons (sg_name (pg_name (i := 1) sc_need_promises.nd rfl (by first | exact Or.inl rfl | exact Or.inr rfl))) (sgs_cons (sg_name (pg_name (i := 2) sc_need_promises.nd rfl (by first | exact Or.inl rfl | exact Or.inr rfl))) sgs_nil)) (gsCons_len (gsCons_len gsNil_len)))) (fun _ _ _ _ _ => stc_nil) (fun _ _ _ _ _ => (se_cmp op_lt_str w_ltS (sv 1) (sv 2) rfl)))) sa_nil)))) (ss_one ss_noraise) ss_nil)
    (ss_one (ss_ret (sv 0))))))
theorem sc_need_may : FnScope N_need_may ["thing"] (defScope st_need_may) := ⟨rfl, rfl, rfl, by decide +kernel, rfl, by decide +kernel, by decide +kernel⟩
theorem ok_need_may (T : Txt K mg) : FnG P w K mg base 1 (He.ga K "need_may") T.fd_need_may ["thing"] (spOf K cl 1 r_need_may) := by
  refine fn_pw (fn_ok (N := N_need_may) (d := d_need_may) T.f_need_may.F sc_need_may rfl fun cdv A outer s H E hr => ?_)
  have tk := takes_of (X := cxOf (L2.CX P w) P w K mg base N_need_may "need_may" (defScope st_need_may) (He.ga K "need_may") cdv A outer s H E) (E := E) rfl rfl rfl rfl
  exact (ss_cons (ss_if (PW.pt (sw_or (st_not (st_val (se_isi .tup T.m_isinstance T.m_tuple (by decide +kernel) (sv 0)))) (sw_or (st_not (st_val (se_cb (cr_all rfl) w_all T.m_all boot_all (sa_cons (se_fz (se_lc (own := [("one", 1)]) rfl sc_need_may.nd (si_seq (sv 0)) (blkOk_by (N := N_need_may) (sc := defScope st_need_may) (by decide +kernel)) (by decide) (fun _ _ _ _ _ => (sg_name (pg_name (i := 1) sc_need_may.nd rfl (by first | exact Or.inl rfl | exact Or.inr rfl)))) (fun _ _ _ _ _ => stc_nil) (fun _ _ _ _ _ => (se_isi .str T.m_isinstance T.m_str (by decide +kernel) (sv 1))))) sa_nil)))) (sw_or1 (st_cmp (op_notInA (hu65 hr)) w_in (sv 0) (se_g T.c_MAYS) rfl))))) (ss_one ss_noraise) ss_nil)
    (ss_one (ss_ret (sv 0))))
theorem sc_need_absent : FnScope N_need_absent ["thing"] (defScope st_need_absent) := ⟨rfl, rfl, rfl, by decide +kernel, rfl, by decide +kernel, by decide +kernel⟩
theorem ok_need_absent (T : Txt K mg) : FnG P w K mg base 3 (He.ga K "need_absent") T.fd_need_absent ["thing"] (spOf K cl 1 r_need_absent) := by
  refine fn_pw (fn_ok (N := N_need_absent) (d := d_need_absent) T.f_need_absent.F sc_need_absent rfl fun cdv A outer s H E hr => ?_)
  have tk := takes_of (X := cxOf (L2.CX P w) P w K mg base N_need_absent "need_absent" (defScope st_need_absent) (He.ga K "need_absent") cdv A outer s H E) (E := E) rfl rfl rfl rfl
  exact (ss_cons (ss_if (PW.pt (sw_and (st_cmp op_notN w_notNon (sv 0) se_non rfl) (sw_and1 (st_not (st_val (se_call (ok_is_between T) (hr.mono (by decide)) T.f_is_between.g T.f_is_between.F.kp T.f_is_between.b tk (sa_cons (sv 0) (sa_cons se_int (sa_cons (se_g T.c_MOST_ABSENT) sa_nil))))))))) (ss_one ss_noraise) ss_nil)
    (ss_one (ss_ret (sv 0))))
theorem sc_is_at_most : FnScope N_is_at_most ["absent", "number"] (defScope st_is_at_most) := ⟨rfl, rfl, rfl, by decide +kernel, rfl, by decide +kernel, by decide +kernel⟩
theorem ok_is_at_most (T : Txt K mg) : FnG P w K mg base 1 (He.ga K "is_at_most") T.fd_is_at_most ["absent", "number"] (spOf K cl 2 r_is_at_most) := by
  refine fn_pw (fn_ok (N := N_is_at_most) (d := d_is_at_most) T.f_is_at_most.F sc_is_at_most rfl fun cdv A outer s H E hr => ?_)
  have tk := takes_of (X := cxOf (L2.CX P w) P w K mg base N_is_at_most "is_at_most" (defScope st_is_at_most) (He.ga K "is_at_most") cdv A outer s H E) (E := E) rfl rfl rfl rfl
  exact (ss_one (ss_ret (se_and (se_cmp op_notN w_notNon (sv 0) se_non rfl) (se_one (se_cmp op_le w_le (sv 0) (sv 1) rfl)))))
theorem sc_do_renew : FnScope N_do_renew ["rule", "may"] (defScope st_do_renew) := ⟨rfl, rfl, rfl, by decide +kernel, rfl, by decide +kernel, by decide +kernel⟩
theorem ok_do_renew (T : Txt K mg) : FnG P w K mg base 1 (He.ga K "do_renew") T.fd_do_renew ["rule", "may"] (spOf K cl 2 r_do_renew) := by
  refine fn_pw (fn_ok (N := N_do_renew) (d := d_do_renew) T.f_do_renew.F sc_do_renew rfl fun cdv A outer s H E hr => ?_)
  have tk := takes_of (X := cxOf (L2.CX P w) P w K mg base N_do_renew "do_renew" (defScope st_do_renew) (He.ga K "do_renew") cdv A outer s H E) (E := E) rfl rfl rfl rfl
  exact (ss_one (ss_ret (se_or (se_cmp (op_notInA (hu65 hr)) w_in (se_g T.c_MAY_OUT) (sv 1) rfl) (se_or (se_cmp (op_eqD hr.units) w_eq (se_ix ix_seq w_ix (sv 0) se_int) (se_g T.c_TELLS) rfl) (se_one (se_and (se_cmp (op_eqD hr.units) w_eq (se_ix ix_seq w_ix (sv 0) se_int) (se_g T.c_ASKS) rfl) (se_one (se_cmp (op_eqD hr.units) w_eq (se_ix ix_seq w_ix (sv 0) se_int) (se_g T.c_LINE) rfl))))))))
theorem sc_keeps_order : FnScope N_keeps_order ["rule", "may", "absent"] (defScope st_keeps_order) := ⟨rfl, rfl, rfl, by decide +kernel, rfl, by decide +kernel, by decide +kernel⟩
theorem ok_keeps_order (T : Txt K mg) : FnG P w K mg base 2 (He.ga K "keeps_order") T.fd_keeps_order ["rule", "may", "absent"] (spOf K cl 3 r_keeps_order) := by
  refine fn_pw (fn_ok (N := N_keeps_order) (d := d_keeps_order) T.f_keeps_order.F sc_keeps_order rfl fun cdv A outer s H E hr => ?_)
  have tk := takes_of (X := cxOf (L2.CX P w) P w K mg base N_keeps_order "keeps_order" (defScope st_keeps_order) (He.ga K "keeps_order") cdv A outer s H E) (E := E) rfl rfl rfl rfl
  exact (ss_cons (ss_asg (sv 0) (sg_tup rfl (sgs_cons (sg_name (pg_name (i := 3) sc_keeps_order.nd rfl (by first | exact Or.inl rfl | exact Or.inr rfl))) (sgs_cons (sg_name (pg_name (i := 4) sc_keeps_order.nd rfl (by first | exact Or.inl rfl | exact Or.inr rfl))) (sgs_cons (sg_name (pg_name (i := 5) sc_keeps_order.nd rfl (by first | exact Or.inl rfl | exact Or.inr rfl))) (sgs_cons (sg_name (pg_name (i := 6) sc_keeps_order.nd rfl (by first | exact Or.inl rfl | exact Or.inr rfl))) (sgs_cons (sg_name (pg_name (i := 7) sc_keeps_order.nd rfl (by first | exact Or.inl rfl | exact Or.inr rfl))) (sgs_cons (sg_name (pg_name (i := 8) sc_keeps_order.nd rfl (by first | exact Or.inl rfl | exact Or.inr rfl))) (sgs_cons (sg_name (pg_name (i := 9) sc_keeps_order.nd rfl (by first | exact Or.inl rfl | exact Or.inr rfl))) sgs_nil))))))) (gsCons_len (gsCons_len (gsCons_len (gsCons_len (gsCons_len (gsCons_len (gsCons_len gsNil_len)))))))))
    (ss_cons (ss_if (st_cmp (op_eqD hr.units) w_eq (sv 2) se_int rfl) (ss_one (ss_ret (se_or (se_cmp (op_eqD hr.units) w_eq (sv 9) (se_g T.c_ASKS) rfl) (se_one (se_cmp (op_eqD hr.units) w_eq (sv 6) (se_g T.c_ON) rfl))))) ss_nil)
    (ss_cons (ss_if (st_cmp (op_eqD hr.units) w_eq (sv 4) se_int rfl) (ss_one (ss_ret (se_or (se_cmp (op_eqD hr.units) w_eq (sv 9) (se_g T.c_ASKS) rfl) (se_one (se_and (se_cmp (op_eqD hr.units) w_eq (sv 6) (se_g T.c_ON) rfl) (se_one (se_call (ok_do_renew T) (hr.mono (by decide)) T.f_do_renew.g T.f_do_renew.F.kp T.f_do_renew.b tk (sa_cons (sv 0) (sa_cons (sv 1) sa_nil))))))))) ss_nil)
    (ss_cons (ss_if (PW.pt (sw_or (st_cmp (op_neD hr.units) w_ne (sv 6) (se_g T.c_ON) rfl) (sw_or (PW.pt (sw_and (st_cmp (op_eqD hr.units) w_eq (sv 8) (se_g T.c_QUIET) rfl) (sw_and1 (st_cmp (op_inA (hu65 hr)) w_in (se_g T.c_MAY_LET) (sv 1) rfl)))) (sw_or1 (st_not (st_val (se_call (ok_do_renew T) (hr.mono (by decide)) T.f_do_renew.g T.f_do_renew.F.kp T.f_do_renew.b tk (sa_cons (sv 0) (sa_cons (sv 1) sa_nil))))))))) (ss_one (ss_ret se_bl)) ss_nil)
    (ss_one (ss_ret (se_or (se_cmp op_lt w_lt (sv 4) (sv 3) rfl) (se_one (se_call (ok_is_at_most T) (hr.mono (by decide)) T.f_is_at_most.g T.f_is_at_most.F.kp T.f_is_at_most.b tk (sa_cons (sv 2) (sa_cons (se_op op_sub w_sub (sv 3) se_int) sa_nil)))))))))))
theorem sc_keeps_door : FnScope N_keeps_door ["rule", "may", "absent"] (defScope st_keeps_door) := ⟨rfl, rfl, rfl, by decide +kernel, rfl, by decide +kernel, by decide +kernel⟩
theorem ok_keeps_door (T : Txt K mg) : FnG P w K mg base 2 (He.ga K "keeps_door") T.fd_keeps_door ["rule", "may", "absent"] (spOf K cl 3 r_keeps_door) := by
  refine fn_pw (fn_ok (N := N_keeps_door) (d := d_keeps_door) T.f_keeps_door.F sc_keeps_door rfl fun cdv A outer s H E hr => ?_)
  have tk := takes_of (X := cxOf (L2.CX P w) P w K mg base N_keeps_door "keeps_door" (defScope st_keeps_door) (He.ga K "keeps_door") cdv A outer s H E) (E := E) rfl rfl rfl rfl
  exact (ss_cons (ss_if (st_cmp (op_eqD hr.units) w_eq (se_ix ix_seq w_ix (sv 0) se_int) (se_ix ix_seq w_ix (sv 0) se_int) rfl) (ss_one (ss_ret se_bl)) ss_nil)
    (ss_cons (ss_if (st_not (st_val (se_call (ok_is_at_most T) (hr.mono (by decide)) T.f_is_at_most.g T.f_is_at_most.F.kp T.f_is_at_most.b tk (sa_cons (sv 2) (sa_cons (se_ix ix_seq w_ix (sv 0) se_int) sa_nil))))) (ss_one (ss_ret se_bl)) ss_nil)
    (ss_one (ss_ret (se_or (se_cmp (op_eqD hr.units) w_eq (sv 2) se_int rfl) (se_or (se_cmp (op_neD hr.units) w_ne (se_ix ix_seq w_ix (sv 0) se_int) (se_g T.c_OLD) rfl) (se_one (se_cmp (op_notInA (hu65 hr)) w_in (se_g T.c_MAY_OUT) (sv 1) rfl))))))))
theorem sc_keeps_by : FnScope N_keeps_by ["rule", "promise", "may", "absent"] (defScope st_keeps_by) := ⟨rfl, rfl, rfl, by decide +kernel, rfl, by decide +kernel, by decide +kernel⟩
theorem ok_keeps_by (T : Txt K mg) : FnG P w K mg base 3 (He.ga K "keeps_by") T.fd_keeps_by ["rule", "promise", "may", "absent"] (spOf K cl 4 r_keeps_by) := by
  refine fn_pw (fn_ok (N := N_keeps_by) (d := d_keeps_by) T.f_keeps_by.F sc_keeps_by rfl fun cdv A outer s H E hr => ?_)
  have tk := takes_of (X := cxOf (L2.CX P w) P w K mg base N_keeps_by "keeps_by" (defScope st_keeps_by) (He.ga K "keeps_by") cdv A outer s H E) (E := E) rfl rfl rfl rfl
  exact (ss_cons (ss_if (st_cmp (op_eqD hr.units) w_eq (sv 1) (se_g T.c_ORDER_PROMISE) rfl) (ss_one (ss_ret (se_call (ok_keeps_order T) (hr.mono (by decide)) T.f_keeps_order.g T.f_keeps_order.F.kp T.f_keeps_order.b tk (sa_cons (sv 0) (sa_cons (sv 2) (sa_cons (sv 3) sa_nil)))))) ss_nil)
    (ss_cons (ss_if (st_cmp (op_eqD hr.units) w_eq (sv 1) (se_g T.c_DOOR_PROMISE) rfl) (ss_one (ss_ret (se_call (ok_keeps_door T) (hr.mono (by decide)) T.f_keeps_door.g T.f_keeps_door.F.kp T.f_keeps_door.b tk (sa_cons (sv 0) (sa_cons (sv 2) (sa_cons (sv 3) sa_nil)))))) ss_nil)
    (ss_one (ss_ret (se_or (se_cmp (op_neD hr.units) w_ne (se_ix ix_seq w_ix (sv 0) se_int) (se_g T.c_ASKS) rfl) (se_or (se_cmp (op_eqD hr.units) w_eq (sv 3) se_int rfl) (se_one (se_cmp (op_notInA (hu65 hr)) w_in (se_g T.c_MAY_OUT) (sv 2) rfl))))))))
theorem sc_does_keep : FnScope N_does_keep ["rule", "promise", "may", "absent"] (defScope st_does_keep) := ⟨rfl, rfl, rfl, by decide +kernel, rfl, by decide +kernel, by decide +kernel⟩
theorem ok_does_keep (T : Txt K mg) : FnG P w K mg base 4 (He.ga K "does_keep") T.fd_does_keep ["rule", "promise", "may", "absent"] (spOf K cl 4 r_does_keep) := by
  refine fn_pw (fn_ok (N := N_does_keep) (d := d_does_keep) T.f_does_keep.F sc_does_keep rfl fun cdv A outer s H E hr => ?_)
  have tk := takes_of (X := cxOf (L2.CX P w) P w K mg base N_does_keep "does_keep" (defScope st_does_keep) (He.ga K "does_keep") cdv A outer s H E) (E := E) rfl rfl rfl rfl
  exact (ss_cons (ss_expr (se_call (ok_need_rule T) (hr.mono (by decide)) T.f_need_rule.g T.f_need_rule.F.kp T.f_need_rule.b tk (sa_cons (sv 0) sa_nil)))
    (ss_cons (ss_expr (se_call (ok_need_promise T) (hr.mono (by decide)) T.f_need_promise.g T.f_need_promise.F.kp T.f_need_promise.b tk (sa_cons (sv 1) sa_nil)))
    (ss_one (ss_ret (se_call (ok_keeps_by T) (hr.mono (by decide)) T.f_keeps_by.g T.f_keeps_by.F.kp T.f_keeps_by.b tk (sa_cons (sv 0) (sa_cons (sv 1) (sa_cons (se_call (ok_need_may T) (hr.mono (by decide)) T.f_need_may.g T.f_need_may.F.kp T.f_need_may.b tk (sa_cons (sv 2) sa_nil)) (sa_cons (se_call (ok_need_absent T) (hr.mono (by decide)) T.f_need_absent.g T.f_need_absent.F.kp T.f_need_absent.b tk (sa_cons (sv 3) sa_nil)) sa_nil)))))))))
theorem sc_keeps_all : FnScope N_keeps_all ["rule", "promises", "may", "absent"] (defScope st_keeps_all) := ⟨rfl, rfl, rfl, by decide +kernel, rfl, by decide +kernel, by decide +kernel⟩
theorem ok_keeps_all (T : Txt K mg) : FnG P w K mg base 4 (He.ga K "keeps_all") T.fd_keeps_all ["rule", "promises", "may", "absent"] (spOf K cl 4 r_keeps_all) := by
  refine fn_pw (fn_ok (N := N_keeps_all) (d := d_keeps_all) T.f_keeps_all.F sc_keeps_all rfl fun cdv A outer s H E hr => ?_)
  have tk := takes_of (X := cxOf (L2.CX P w) P w K mg base N_keeps_all "keeps_all" (defScope st_keeps_all) (He.ga K "keeps_all") cdv A outer s H E) (E := E) rfl rfl rfl rfl
  exact (ss_one (ss_ret (se_cb (cr_all rfl) w_all T.m_all boot_all (sa_cons (se_fz (se_lc (own := [("promise", 4)]) rfl sc_keeps_all.nd (si_seq (sv 1)) (blkOk_by (N := N_keeps_all) (sc := defScope st_keeps_all) (by decide +kernel)) (by decide) (fun _ _ _ _ _ => (sg_name (pg_name (i := 4) sc_keeps_all.nd rfl (by first | exact Or.inl rfl | exact Or.inr rfl)))) (fun _ _ _ _ _ => stc_nil) (fun _ _ _ _ _ => (se_call (ok_keeps_by T) (hr.mono (by decide)) T.f_keeps_by.g T.f_keeps_by.F.kp T.f_keeps_by.b takes0 (sa_cons (sv 0) (sa_cons (sv 4) (sa_cons (sv 2) (sa_cons (sv 3) sa_nil)))))))) sa_nil))))
theorem sc_bears_by : FnScope N_bears_by ["rule", "promises", "may"] (defScope st_bears_by) := ⟨rfl, rfl, rfl, by decide +kernel, rfl, by decide +kernel, by decide +kernel⟩
theorem ok_bears_by (T : Txt K mg) : FnG P w K mg base 5 (He.ga K "bears_by") T.fd_bears_by ["rule", "promises", "may"] (spOf K cl 3 r_bears_by) := by
  refine fn_pw (fn_ok (N := N_bears_by) (d := d_bears_by) T.f_bears_by.F sc_bears_by rfl fun cdv A outer s H E hr => ?_)
  have tk := takes_of (X := cxOf (L2.CX P w) P w K mg base N_bears_by "bears_by" (defScope st_bears_by) (He.ga K "bears_by") cdv A outer s H E) (E := E) rfl rfl rfl rfl
  exact (ss_cons (ss_if (st_val (se_call (ok_keeps_all T) (hr.mono (by decide)) T.f_keeps_all.g T.f_keeps_all.F.kp T.f_keeps_all.b tk (sa_cons (sv 0) (sa_cons (sv 1) (sa_cons (sv 2) (sa_cons se_non sa_nil)))))) (ss_one (ss_ret se_non)) ss_nil)
    (ss_cons (ss_set (i := 3) sc_bears_by.nd rfl (by first | exact Or.inl rfl | exact Or.inr rfl) (se_neg se_int))
    (ss_cons (ss_while 100000 (passes_of rfl) (st_val (se_call (ok_keeps_all T) (hr.mono (by decide)) T.f_keeps_all.g T.f_keeps_all.F.kp T.f_keeps_all.b tk (sa_cons (sv 0) (sa_cons (sv 1) (sa_cons (sv 2) (sa_cons (se_op o_add w_add (sv 3) se_int) sa_nil)))))) (ss_one (ss_aug sc_bears_by.nd (i := 3) rfl (by first | exact Or.inl rfl | exact Or.inr rfl) se_int iop_add w_addI)))
    (ss_one (ss_ret (sv 3))))))
theorem sc_bears : FnScope N_bears ["rule", "promises", "may"] (defScope st_bears) := ⟨rfl, rfl, rfl, by decide +kernel, rfl, by decide +kernel, by decide +kernel⟩
theorem ok_bears (T : Txt K mg) : FnG P w K mg base 6 (He.ga K "bears") T.fd_bears ["rule", "promises", "may"] (spOf K cl 3 r_bears) := by
  refine fn_pw (fn_ok (N := N_bears) (d := d_bears) T.f_bears.F sc_bears rfl fun cdv A outer s H E hr => ?_)
  have tk := takes_of (X := cxOf (L2.CX P w) P w K mg base N_bears "bears" (defScope st_bears) (He.ga K "bears") cdv A outer s H E) (E := E) rfl rfl rfl rfl
  exact (ss_cons (ss_expr (se_call (ok_need_rule T) (hr.mono (by decide)) T.f_need_rule.g T.f_need_rule.F.kp T.f_need_rule.b tk (sa_cons (sv 0) sa_nil)))
    (ss_cons (ss_expr (se_call (ok_need_promises T) (hr.mono (by decide)) T.f_need_promises.g T.f_need_promises.F.kp T.f_need_promises.b tk (sa_cons (sv 1) sa_nil)))
    (ss_one (ss_ret (se_call (ok_bears_by T) (hr.mono (by decide)) T.f_bears_by.g T.f_bears_by.F.kp T.f_bears_by.b tk (sa_cons (sv 0) (sa_cons (sv 1) (sa_cons (se_call (ok_need_may T) (hr.mono (by decide)) T.f_need_may.g T.f_need_may.F.kp T.f_need_may.b tk (sa_cons (sv 2) sa_nil)) sa_nil))))))))
theorem sc_keeping_in : FnScope N_keeping_in ["promises", "may", "absent"] (defScope st_keeping_in) := ⟨rfl, rfl, rfl, by decide +kernel, rfl, by decide +kernel, by decide +kernel⟩
theorem ok_keeping_in (T : Txt K mg) : FnG P w K mg base 5 (He.ga K "keeping_in") T.fd_keeping_in ["promises", "may", "absent"] (spOf K cl 3 r_keeping_in) := by
  refine fn_pw (fn_ok (N := N_keeping_in) (d := d_keeping_in) T.f_keeping_in.F sc_keeping_in rfl fun cdv A outer s H E hr => ?_)
  have tk := takes_of (X := cxOf (L2.CX P w) P w K mg base N_keeping_in "keeping_in" (defScope st_keeping_in) (He.ga K "keeping_in") cdv A outer s H E) (E := E) rfl rfl rfl rfl
  exact (ss_cons (ss_expr (se_call (ok_need_promises T) (hr.mono (by decide)) T.f_need_promises.g T.f_need_promises.F.kp T.f_need_promises.b tk (sa_cons (sv 0) sa_nil)))
    (ss_cons (ss_expr (se_call (ok_need_may T) (hr.mono (by decide)) T.f_need_may.g T.f_need_may.F.kp T.f_need_may.b tk (sa_cons (sv 1) sa_nil)))
    (ss_cons (ss_expr (se_call (ok_need_absent T) (hr.mono (by decide)) T.f_need_absent.g T.f_need_absent.F.kp T.f_need_absent.b tk (sa_cons (sv 2) sa_nil)))
    (ss_one (ss_ret (se_fz (se_lc (own := [("rule", 3)]) rfl sc_keeping_in.nd (si_seq (se_call0 (ok_all_rules T) (hr.mono (by decide)) T.f_all_rules.g T.f_all_rules.F.kp T.f_all_rules.b tk)) (blkOk_by (N := N_keeping_in) (sc := defScope st_keeping_in) (by decide +kernel)) (by decide) (fun _ _ _ _ _ => (sg_name (pg_name (i := 3) sc_keeping_in.nd rfl (by first | exact Or.inl rfl | exact Or.inr rfl)))) (fun _ _ _ _ _ => (stc_one (st_val (se_call (ok_keeps_all T) (hr.mono (by decide)) T.f_keeps_all.g T.f_keeps_all.F.kp T.f_keeps_all.b takes0 (sa_cons (sv 3) (sa_cons (sv 0) (sa_cons (sv 1) (sa_cons (sv 2) sa_nil)))))))) (fun _ _ _ _ _ => (sv 3)))))))))
theorem sc_changes_in : FnScope N_changes_in ["rule", "other"] (defScope st_changes_in) := ⟨rfl, rfl, rfl, by decide +kernel, rfl, by decide +kernel, by decide +kernel⟩
theorem ok_changes_in (T : Txt K mg) : FnG P w K mg base 1 (He.ga K "changes_in") T.fd_changes_in ["rule", "other"] (spOf K cl 2 r_changes_in) := by
  refine fn_pw (fn_ok (N := N_changes_in) (d := d_changes_in) T.f_changes_in.F sc_changes_in rfl fun cdv A outer s H E hr => ?_)
  have tk := takes_of (X := cxOf (L2.CX P w) P w K mg base N_changes_in "changes_in" (defScope st_changes_in) (He.ga K "changes_in") cdv A outer s H E) (E := E) rfl rfl rfl rfl
  exact (ss_one (ss_ret (se_cb c_len w_len T.m_len boot_len (sa_cons (se_fz (se_lc (own := [("one", 2), ("two", 3)]) rfl sc_changes_in.nd (si_zip T.m_zip (sv 0) (sv 1)) (blkOk_by (N := N_changes_in) (sc := defScope st_changes_in) (by decide +kernel)) (by decide) (fun _ _ _ _ _ => (sg_tup rfl (sgs_cons (sg_name (pg_name (i := 2) sc_changes_in.nd rfl (by first | exact Or.inl rfl | exact Or.inr rfl))) (sgs_cons (sg_name (pg_name (i := 3) sc_changes_in.nd rfl (by first | exact Or.inl rfl | exact Or.inr rfl))) sgs_nil)) (gsCons_len (gsCons_len gsNil_len)))) (fun _ _ _ _ _ => (stc_one (st_cmp (op_neD hr.units) w_ne (sv 2) (sv 3) rfl))) (fun _ _ _ _ _ => se_int))) sa_nil))))
theorem sc_changes_between : FnScope N_changes_between ["rule", "other"] (defScope st_changes_between) := ⟨rfl, rfl, rfl, by decide +kernel, rfl, by decide +kernel, by decide +kernel⟩
theorem ok_changes_between (T : Txt K mg) : FnG P w K mg base 4 (He.ga K "changes_between") T.fd_changes_between ["rule", "other"] (spOf K cl 2 r_changes_between) := by
  refine fn_pw (fn_ok (N := N_changes_between) (d := d_changes_between) T.f_changes_between.F sc_changes_between rfl fun cdv A outer s H E hr => ?_)
  have tk := takes_of (X := cxOf (L2.CX P w) P w K mg base N_changes_between "changes_between" (defScope st_changes_between) (He.ga K "changes_between") cdv A outer s H E) (E := E) rfl rfl rfl rfl
  exact (ss_one (ss_ret (se_call (ok_changes_in T) (hr.mono (by decide)) T.f_changes_in.g T.f_changes_in.F.kp T.f_changes_in.b tk (sa_cons (se_call (ok_need_rule T) (hr.mono (by decide)) T.f_need_rule.g T.f_need_rule.F.kp T.f_need_rule.b tk (sa_cons (sv 0) sa_nil)) (sa_cons (se_call (ok_need_rule T) (hr.mono (by decide)) T.f_need_rule.g T.f_need_rule.F.kp T.f_need_rule.b tk (sa_cons (sv 1) sa_nil)) sa_nil)))))
theorem sc_nearest_rules : FnScope N_nearest_rules ["rule", "promises", "may", "absent"] (defScope st_nearest_rules) := ⟨rfl, rfl, rfl, by decide +kernel, rfl, by decide +kernel, by decide +kernel⟩
theorem ok_nearest_rules (T : Txt K mg) : FnG P w K mg base 6 (He.ga K "nearest_rules") T.fd_nearest_rules ["rule", "promises", "may", "absent"] (spOf K cl 4 r_nearest_rules) := by
  refine fn_pw (fn_ok (N := N_nearest_rules) (d := d_nearest_rules) T.f_nearest_rules.F sc_nearest_rules rfl fun cdv A outer s H E hr => ?_)
  have tk := takes_of (X := cxOf (L2.CX P w) P w K mg base N_nearest_rules "nearest_rules" (defScope st_nearest_rules) (He.ga K "nearest_rules") cdv A outer s H E) (E := E) rfl rfl rfl rfl
  exact (ss_cons (ss_expr (se_call (ok_need_rule T) (hr.mono (by decide)) T.f_need_rule.g T.f_need_rule.F.kp T.f_need_rule.b tk (sa_cons (sv 0) sa_nil)))
    (ss_cons (ss_set (i := 4) sc_nearest_rules.nd rfl (by first | exact Or.inl rfl | exact Or.inr rfl) (se_call (ok_keeping_in T) (hr.mono (by decide)) T.f_keeping_in.g T.f_keeping_in.F.kp T.f_keeping_in.b tk (sa_cons (sv 1) (sa_cons (sv 2) (sa_cons (sv 3) sa_nil)))))
    (ss_cons (ss_set (i := 5) sc_nearest_rules.nd rfl (by first | exact Or.inl rfl | exact Or.inr rfl) (se_minD rfl (hu65 hr) T.m_min boot_min (se_fz (se_lc (own := [("other", 6)]) rfl sc_nearest_rules.nd (si_seq (sv 4)) (blkOk_by (N := N_nearest_rules) (sc := defScope st_nearest_rules) (by decide +kernel)) (by decide) (fun _ _ _ _ _ => (sg_name (pg_name (i := 6) sc_nearest_rules.nd rfl (by first | exact Or.inl rfl | exact Or.inr rfl)))) (fun _ _ _ _ _ => stc_nil) (fun _ _ _ _ _ => (se_call (ok_changes_in T) (hr.mono (by decide)) T.f_changes_in.g T.f_changes_in.F.kp T.f_changes_in.b takes0 (sa_cons (sv 0) (sa_cons (sv 6) sa_nil)))))) se_int))
    (ss_one (ss_ret (se_ct call_tuple_of w_tuple T.m_tuple (by decide +kernel) (sa_cons (se_fz (se_lc (own := [("other", 6)]) rfl sc_nearest_rules.nd (si_seq (sv 4)) (blkOk_by (N := N_nearest_rules) (sc := defScope st_nearest_rules) (by decide +kernel)) (by decide) (fun _ _ _ _ _ => (sg_name (pg_name (i := 6) sc_nearest_rules.nd rfl (by first | exact Or.inl rfl | exact Or.inr rfl)))) (fun _ _ _ _ _ => (stc_one (st_cmp (op_eqD hr.units) w_eq (se_call (ok_changes_in T) (hr.mono (by decide)) T.f_changes_in.g T.f_changes_in.F.kp T.f_changes_in.b takes0 (sa_cons (sv 0) (sa_cons (sv 6) sa_nil))) (sv 5) rfl))) (fun _ _ _ _ _ => (sv 6)))) sa_nil)))))))
theorem sc_fewest_names : FnScope N_fewest_names ["promises", "may", "absent"] (defScope st_fewest_names) := ⟨rfl, rfl, rfl, by decide +kernel, rfl, by decide +kernel, by decide +kernel⟩
theorem ok_fewest_names (T : Txt K mg) : FnG P w K mg base 6 (He.ga K "fewest_names") T.fd_fewest_names ["promises", "may", "absent"] (spOf K cl 3 r_fewest_names) := by
  refine fn_pw (fn_ok (N := N_fewest_names) (d := d_fewest_names) T.f_fewest_names.F sc_fewest_names rfl fun cdv A outer s H E hr => ?_)
  have tk := takes_of (X := cxOf (L2.CX P w) P w K mg base N_fewest_names "fewest_names" (defScope st_fewest_names) (He.ga K "fewest_names") cdv A outer s H E) (E := E) rfl rfl rfl rfl
  exact (ss_one (ss_ret (se_minD rfl (hu65 hr) T.m_min boot_min (se_fz (se_lc (own := [("rule", 3)]) rfl sc_fewest_names.nd (si_seq (se_call (ok_keeping_in T) (hr.mono (by decide)) T.f_keeping_in.g T.f_keeping_in.F.kp T.f_keeping_in.b tk (sa_cons (sv 0) (sa_cons (sv 1) (sa_cons (sv 2) sa_nil))))) (blkOk_by (N := N_fewest_names) (sc := defScope st_fewest_names) (by decide +kernel)) (by decide) (fun _ _ _ _ _ => (sg_name (pg_name (i := 3) sc_fewest_names.nd rfl (by first | exact Or.inl rfl | exact Or.inr rfl)))) (fun _ _ _ _ _ => stc_nil) (fun _ _ _ _ _ => (se_ix ix_seq w_ix (sv 3) se_int)))) se_non)))
theorem sc__law_mixed : FnScope N__law_mixed ["_law_cell", "_law_k"] (defScope st__law_mixed) := ⟨rfl, rfl, rfl, by decide +kernel, rfl, by decide +kernel, by decide +kernel⟩
theorem ok__law_mixed (T : Txt K mg) : FnG P w K mg base 1 (He.ga K "_law_mixed") T.fd__law_mixed ["_law_cell", "_law_k"] (spOf K cl 2 r__law_mixed) := by
  refine fn_pw (fn_ok (N := N__law_mixed) (d := d__law_mixed) T.f__law_mixed.F sc__law_mixed rfl fun cdv A outer s H E hr => ?_)
  have tk := takes_of (X := cxOf (L2.CX P w) P w K mg base N__law_mixed "_law_mixed" (defScope st__law_mixed) (He.ga K "_law_mixed") cdv A outer s H E) (E := E) rfl rfl rfl rfl
  exact (ss_cons (ss_set (i := 0) sc__law_mixed.nd rfl (by first | exact Or.inl rfl | exact Or.inr rfl) (se_op op_mod w_mod (se_ct call_int1 w_int T.m_int (by decide +kernel) (sa_cons (sv 0) sa_nil)) se_int))
    (ss_one (ss_ret (se_op op_mod w_mod (se_op o_mul w_mul (se_op op_mod w_mod (se_op o_add w_add (se_op o_add w_add (se_op o_mul w_mul (sv 0) (se_op o_add w_add se_int (se_op o_mul w_mul (se_op o_mul w_mul se_int (sv 1)) (sv 1)))) (se_op o_mul w_mul se_int (sv 1))) se_int) se_int) se_int) se_int))))
theorem sc__law_begin : FnScope N__law_begin ["_law_script"] (defScope st__law_begin) := ⟨rfl, rfl, rfl, by decide +kernel, rfl, by decide +kernel, by decide +kernel⟩
theorem ok__law_begin (T : Txt K mg) : FnG P w K mg base 1 (He.ga K "_law_begin") T.fd__law_begin ["_law_script"] (spOf K cl 1 r__law_begin) := by
  refine fn_ok (N := N__law_begin) (d := d__law_begin) T.f__law_begin.F sc__law_begin rfl fun cdv A outer s H E hr => ?_
  have tk := takes_of (X := cxOf (L2.CX P w) P w K mg base N__law_begin "_law_begin" (defScope st__law_begin) (He.ga K "_law_begin") cdv A outer s H E) (E := E) rfl rfl rfl rfl
  exact (ss_cons (ss_set (i := 1) sc__law_begin.nd rfl (by first | exact Or.inl rfl | exact Or.inr rfl) (se_if (st_cmp (op_neD hr.units) w_ne (sv 0) (se_lst sa_nil) rfl) (se_fz (sn_ct call_list_of w_list T.m_list (by decide +kernel) (sa_cons (sv 0) sa_nil))) (se_lst (sa_cons se_int sa_nil))))
    (ss_one (ss_ret (se_dict (fs := [("cells", (eVar 1)), ("lefts", (eNw (aComp (iSeq (eVar 1)) (gN 2) dYes (eIf (dTest (eBin geW (eVar 2) (eBin powW (eC (.int 10)) (eC (.int 18))))) (eVar 2) (eC (.int 0))) [2]))), ("at", (eC (.int 0))), ("room", (eC (.int 0)))]) (pps_cons pe_str (sv 1) (pps_cons pe_str (se_nw (se_lc (own := [("_law_cell", 2)]) rfl sc__law_begin.nd (si_seq (sv 1)) (blkOk_by (N := N__law_begin) (sc := defScope st__law_begin) (by decide +kernel)) (by decide) (fun _ _ _ _ _ => (sg_name (pg_name (i := 2) sc__law_begin.nd rfl (by first | exact Or.inl rfl | exact Or.inr rfl)))) (fun _ _ _ _ _ => stc_nil) (fun _ _ _ _ _ => (se_if (st_cmp op_ge w_ge (sv 2) (se_op op_pow w_pow se_int se_int) rfl) (sv 2) se_int)))) (pps_cons pe_str se_int (pps_cons pe_str se_int pps_nil))))))))
theorem sc__law_draw : FnScope N__law_draw ["_law_state", "_law_many"] (defScope st__law_draw) := ⟨rfl, rfl, rfl, by decide +kernel, rfl, by decide +kernel, by decide +kernel⟩
theorem ok__law_draw (T : Txt K mg) : FnG P w K mg base 2 (He.ga K "_law_draw") T.fd__law_draw ["_law_state", "_law_many"] (spOf K cl 2 r__law_draw) := by
  refine fn_ok (N := N__law_draw) (d := d__law_draw) T.f__law_draw.F sc__law_draw rfl fun cdv A outer s H E hr => ?_
  have tk := takes_of (X := cxOf (L2.CX P w) P w K mg base N__law_draw "_law_draw" (defScope st__law_draw) (He.ga K "_law_draw") cdv A outer s H E) (E := E) rfl rfl rfl rfl
  exact (ss_cons (ss_set (i := 2) sc__law_draw.nd rfl (by first | exact Or.inl rfl | exact Or.inr rfl) (se_dget (hu1 hr) (sv 0) se_str))
    (ss_cons (ss_sub (hu1 hr) (se_op o_add w_add (sv 2) se_int) (sv 0) se_str)
    (ss_cons (ss_set (i := 3) sc__law_draw.nd rfl (by first | exact Or.inl rfl | exact Or.inr rfl) (se_op op_mod w_mod (se_ct call_int1 w_int T.m_int (by decide +kernel) (sa_cons (sv 2) sa_nil)) (se_cb c_len w_len T.m_len boot_len (sa_cons (se_dget (hu1 hr) (sv 0) se_str) sa_nil))))
    (ss_cons (ss_set (i := 4) sc__law_draw.nd rfl (by first | exact Or.inl rfl | exact Or.inr rfl) (se_ix ix_seq w_ix (se_dget (hu1 hr) (sv 0) se_str) (sv 3)))
    (ss_cons (ss_if (st_cmp op_gt w_gt (sv 4) se_int rfl) (ss_cons (ss_sub (hu1 hr) (se_op op_fdiv w_fdiv (sv 4) (sv 1)) (se_dget (hu1 hr) (sv 0) se_str) (sv 3))
    (ss_one (ss_ret (se_op op_mod w_mod (se_ct call_int1 w_int T.m_int (by decide +kernel) (sa_cons (sv 4) sa_nil)) (sv 1))))) ss_nil)
    (ss_cons (ss_set (i := 5) sc__law_draw.nd rfl (by first | exact Or.inl rfl | exact Or.inr rfl) (se_call (ok__law_mixed T) (hr.mono (by decide)) T.f__law_mixed.g T.f__law_mixed.F.kp T.f__law_mixed.b tk (sa_cons (se_call (ok__law_mixed T) (hr.mono (by decide)) T.f__law_mixed.g T.f__law_mixed.F.kp T.f__law_mixed.b tk (sa_cons (se_ix ix_seq w_ix (se_dget (hu1 hr) (sv 0) se_str) (sv 3)) (sa_cons (sv 2) sa_nil))) (sa_cons (se_op o_add w_add se_int (sv 2)) sa_nil))))
    (ss_one (ss_ret (se_op op_mod w_mod (se_op op_fdiv w_fdiv (se_ct call_int1 w_int T.m_int (by decide +kernel) (sa_cons (se_op o_add w_add (se_op o_mul w_mul (sv 5) se_int) (se_call (ok__law_mixed T) (hr.mono (by decide)) T.f__law_mixed.g T.f__law_mixed.F.kp T.f__law_mixed.b tk (sa_cons (sv 5) (sa_cons (se_op o_add w_add se_int (sv 2)) sa_nil)))) sa_nil)) se_int) (sv 1))))))))))
theorem sc__law_of : FnScope N__law_of ["_law_state", "_law_some"] (defScope st__law_of) := ⟨rfl, rfl, rfl, by decide +kernel, rfl, by decide +kernel, by decide +kernel⟩
theorem ok__law_of (T : Txt K mg) : FnG P w K mg base 3 (He.ga K "_law_of") T.fd__law_of ["_law_state", "_law_some"] (spOf K cl 2 r__law_of) := by
  refine fn_ok (N := N__law_of) (d := d__law_of) T.f__law_of.F sc__law_of rfl fun cdv A outer s H E hr => ?_
  have tk := takes_of (X := cxOf (L2.CX P w) P w K mg base N__law_of "_law_of" (defScope st__law_of) (He.ga K "_law_of") cdv A outer s H E) (E := E) rfl rfl rfl rfl
  exact (ss_one (ss_ret (se_ix ix_seq w_ix (sv 1) (se_call (ok__law_draw T) (hr.mono (by decide)) T.f__law_draw.g T.f__law_draw.F.kp T.f__law_draw.b tk (sa_cons (sv 0) (sa_cons (se_cb c_len w_len T.m_len boot_len (sa_cons (sv 1) sa_nil)) sa_nil))))))
theorem sc__law_mays : FnScope N__law_mays ["_law_state"] (defScope st__law_mays) := ⟨rfl, rfl, rfl, by decide +kernel, rfl, by decide +kernel, by decide +kernel⟩
theorem ok__law_mays (T : Txt K mg) : FnG P w K mg base 3 (He.ga K "_law_mays") T.fd__law_mays ["_law_state"] (spOf K cl 1 r__law_mays) := by
  refine fn_ok (N := N__law_mays) (d := d__law_mays) T.f__law_mays.F sc__law_mays rfl fun cdv A outer s H E hr => ?_
  have tk := takes_of (X := cxOf (L2.CX P w) P w K mg base N__law_mays "_law_mays" (defScope st__law_mays) (He.ga K "_law_mays") cdv A outer s H E) (E := E) rfl rfl rfl rfl
  exact (ss_one (ss_ret (se_ix ix_seq w_ix (se_lst (sa_cons (se_tup sa_nil) (sa_cons (se_tup (sa_cons se_str sa_nil)) (sa_cons (se_tup (sa_cons se_str sa_nil)) (sa_cons (se_tup (sa_cons se_str (sa_cons se_str sa_nil))) (sa_cons (se_tup (sa_cons se_str (sa_cons se_str sa_nil))) sa_nil)))))) (se_call (ok__law_draw T) (hr.mono (by decide)) T.f__law_draw.g T.f__law_draw.F.kp T.f__law_draw.b tk (sa_cons (sv 0) (sa_cons se_int sa_nil))))))
theorem sc__law_bound : FnScope N__law_bound ["_law_state"] (defScope st__law_bound) := ⟨rfl, rfl, rfl, by decide +kernel, rfl, by decide +kernel, by decide +kernel⟩
theorem ok__law_bound (T : Txt K mg) : FnG P w K mg base 3 (He.ga K "_law_bound") T.fd__law_bound ["_law_state"] (spOf K cl 1 r__law_bound) := by
  refine fn_ok (N := N__law_bound) (d := d__law_bound) T.f__law_bound.F sc__law_bound rfl fun cdv A outer s H E hr => ?_
  have tk := takes_of (X := cxOf (L2.CX P w) P w K mg base N__law_bound "_law_bound" (defScope st__law_bound) (He.ga K "_law_bound") cdv A outer s H E) (E := E) rfl rfl rfl rfl
  exact (ss_one (ss_ret (se_ix ix_seq w_ix (se_lst (sa_cons se_int (sa_cons se_int (sa_cons se_int (sa_cons se_int (sa_cons se_int (sa_cons se_int (sa_cons se_non (sa_cons se_non sa_nil))))))))) (se_call (ok__law_draw T) (hr.mono (by decide)) T.f__law_draw.g T.f__law_draw.F.kp T.f__law_draw.b tk (sa_cons (sv 0) (sa_cons se_int sa_nil))))))
theorem sc__law_any_rule : FnScope N__law_any_rule ["_law_state"] (defScope st__law_any_rule) := ⟨rfl, rfl, rfl, by decide +kernel, rfl, by decide +kernel, by decide +kernel⟩
theorem ok__law_any_rule (T : Txt K mg) : FnG P w K mg base 3 (He.ga K "_law_any_rule") T.fd__law_any_rule ["_law_state"] (spOf K cl 1 r__law_any_rule) := by
  refine fn_ok (N := N__law_any_rule) (d := d__law_any_rule) T.f__law_any_rule.F sc__law_any_rule rfl fun cdv A outer s H E hr => ?_
  have tk := takes_of (X := cxOf (L2.CX P w) P w K mg base N__law_any_rule "_law_any_rule" (defScope st__law_any_rule) (He.ga K "_law_any_rule") cdv A outer s H E) (E := E) rfl rfl rfl rfl
  exact (ss_cons (ss_set (i := 1) sc__law_any_rule.nd rfl (by first | exact Or.inl rfl | exact Or.inr rfl) (se_op o_add w_add se_int (se_call (ok__law_draw T) (hr.mono (by decide)) T.f__law_draw.g T.f__law_draw.F.kp T.f__law_draw.b tk (sa_cons (sv 0) (sa_cons se_int sa_nil)))))
    (ss_cons (ss_set (i := 2) sc__law_any_rule.nd rfl (by first | exact Or.inl rfl | exact Or.inr rfl) (se_lst (sa_cons (se_ix ix_seq w_ix (se_lst (sa_cons se_str (sa_cons se_str sa_nil))) (se_call (ok__law_draw T) (hr.mono (by decide)) T.f__law_draw.g T.f__law_draw.F.kp T.f__law_draw.b tk (sa_cons (sv 0) (sa_cons se_int sa_nil)))) (sa_cons (se_ix ix_seq w_ix (se_lst (sa_cons se_str (sa_cons se_str sa_nil))) (se_call (ok__law_draw T) (hr.mono (by decide)) T.f__law_draw.g T.f__law_draw.F.kp T.f__law_draw.b tk (sa_cons (sv 0) (sa_cons se_int sa_nil)))) sa_nil))))
    (ss_cons (ss_set (i := 2) sc__law_any_rule.nd rfl (by first | exact Or.inl rfl | exact Or.inr rfl) (se_op o_add w_add (sv 2) (se_lst (sa_cons (se_ix ix_seq w_ix (se_lst (sa_cons se_str (sa_cons se_str (sa_cons se_str sa_nil)))) (se_call (ok__law_draw T) (hr.mono (by decide)) T.f__law_draw.g T.f__law_draw.F.kp T.f__law_draw.b tk (sa_cons (sv 0) (sa_cons se_int sa_nil)))) (sa_cons (se_ix ix_seq w_ix (se_lst (sa_cons se_str (sa_cons se_str sa_nil))) (se_call (ok__law_draw T) (hr.mono (by decide)) T.f__law_draw.g T.f__law_draw.F.kp T.f__law_draw.b tk (sa_cons (sv 0) (sa_cons se_int sa_nil)))) sa_nil)))))
    (ss_one (ss_ret (se_op o_add w_add (se_op o_add w_add (se_tup (sa_cons (sv 1) (sa_cons (se_call (ok__law_draw T) (hr.mono (by decide)) T.f__law_draw.g T.f__law_draw.F.kp T.f__law_draw.b tk (sa_cons (sv 0) (sa_cons (se_op o_add w_add (sv 1) se_int) sa_nil))) sa_nil))) (se_ct call_tuple_of w_tuple T.m_tuple (by decide +kernel) (sa_cons (sv 2) sa_nil))) (se_tup (sa_cons (se_ix ix_seq w_ix (se_lst (sa_cons se_str (sa_cons se_str sa_nil))) (se_call (ok__law_draw T) (hr.mono (by decide)) T.f__law_draw.g T.f__law_draw.F.kp T.f__law_draw.b tk (sa_cons (sv 0) (sa_cons se_int sa_nil)))) sa_nil))))))))
theorem sc__law_back_is_good : FnScope N__law_back_is_good ["_law_rule", "_law_may"] (defScope st__law_back_is_good) := ⟨rfl, rfl, rfl, by decide +kernel, rfl, by decide +kernel, by decide +kernel⟩
theorem ok__law_back_is_good (T : Txt K mg) : FnG P w K mg base 1 (He.ga K "_law_back_is_good") T.fd__law_back_is_good ["_law_rule", "_law_may"] (spOf K cl 2 r__law_back_is_good) := by
  refine fn_pw (fn_ok (N := N__law_back_is_good) (d := d__law_back_is_good) T.f__law_back_is_good.F sc__law_back_is_good rfl fun cdv A outer s H E hr => ?_)
  have tk := takes_of (X := cxOf (L2.CX P w) P w K mg base N__law_back_is_good "_law_back_is_good" (defScope st__law_back_is_good) (He.ga K "_law_back_is_good") cdv A outer s H E) (E := E) rfl rfl rfl rfl
  exact (ss_one (ss_ret (se_or (se_cmp (op_notInA (hu65 hr)) w_in se_str (sv 1) rfl) (se_or (se_cmp (op_eqD hr.units) w_eq (se_ix ix_seq w_ix (sv 0) se_int) se_str rfl) (se_one (se_and (se_cmp (op_eqD hr.units) w_eq (se_ix ix_seq w_ix (sv 0) se_int) se_str rfl) (se_one (se_cmp (op_eqD hr.units) w_eq (se_ix ix_seq w_ix (sv 0) se_int) se_str rfl))))))))
theorem sc__law_keeps : FnScope N__law_keeps ["_law_rule", "_law_promise", "_law_may", "_law_absent"] (defScope st__law_keeps) := ⟨rfl, rfl, rfl, by decide +kernel, rfl, by decide +kernel, by decide +kernel⟩
theorem ok__law_keeps (T : Txt K mg) : FnG P w K mg base 2 (He.ga K "_law_keeps") T.fd__law_keeps ["_law_rule", "_law_promise", "_law_may", "_law_absent"] (spOf K cl 4 r__law_keeps) := by
  refine fn_pw (fn_ok (N := N__law_keeps) (d := d__law_keeps) T.f__law_keeps.F sc__law_keeps rfl fun cdv A outer s H E hr => ?_)
  have tk := takes_of (X := cxOf (L2.CX P w) P w K mg base N__law_keeps "_law_keeps" (defScope st__law_keeps) (He.ga K "_law_keeps") cdv A outer s H E) (E := E) rfl rfl rfl rfl
  exact (ss_cons (ss_asg (sv 0) (sg_tup rfl (sgs_cons (sg_name (pg_name (i := 4) sc__law_keeps.nd rfl (by first | exact Or.inl rfl | exact Or.inr rfl))) (sgs_cons (sg_name (pg_name (i := 5) sc__law_keeps.nd rfl (by first | exact Or.inl rfl | exact Or.inr rfl))) (sgs_cons (sg_name (pg_name (i := 6) sc__law_keeps.nd rfl (by first | exact Or.inl rfl | exact Or.inr rfl))) (sgs_cons (sg_name (pg_name (i := 7) sc__law_keeps.nd rfl (by first | exact Or.inl rfl | exact Or.inr rfl))) (sgs_cons (sg_name (pg_name (i := 8) sc__law_keeps.nd rfl (by first | exact Or.inl rfl | exact Or.inr rfl))) (sgs_cons (sg_name (pg_name (i := 9) sc__law_keeps.nd rfl (by first | exact Or.inl rfl | exact Or.inr rfl))) (sgs_cons (sg_name (pg_name (i := 10) sc__law_keeps.nd rfl (by first | exact Or.inl rfl | exact Or.inr rfl))) sgs_nil))))))) (gsCons_len (gsCons_len (gsCons_len (gsCons_len (gsCons_len (gsCons_len (gsCons_len gsNil_len)))))))))
    (ss_cons (ss_if (st_cmp (op_eqD hr.units) w_eq (sv 1) se_str rfl) (ss_one (ss_ret (se_or (se_cmp (op_neD hr.units) w_ne (sv 8) se_str rfl) (se_or (se_cmp (op_eqD hr.units) w_eq (sv 3) se_int rfl) (se_one (se_cmp (op_notInA (hu65 hr)) w_in se_str (sv 2) rfl)))))) ss_nil)
    (ss_cons (ss_if (st_cmp (op_eqD hr.units) w_eq (sv 1) se_str rfl) (ss_cons (ss_set (i := 11) sc__law_keeps.nd rfl (by first | exact Or.inl rfl | exact Or.inr rfl) (se_or (se_cmp (op_eqD hr.units) w_eq (sv 3) se_int rfl) (se_or (se_cmp (op_neD hr.units) w_ne (sv 8) se_str rfl) (se_one (se_cmp (op_notInA (hu65 hr)) w_in se_str (sv 2) rfl)))))
    (ss_one (ss_ret (se_or (se_cmp (op_eqD hr.units) w_eq (sv 5) (sv 4) rfl) (se_one (se_and (se_cmp op_notN w_notNon (sv 3) se_non rfl) (se_and (se_cmp op_le w_le (sv 3) (sv 5) rfl) (se_one (sv 11))))))))) ss_nil)
    (ss_cons (ss_if (st_cmp (op_eqD hr.units) w_eq (sv 3) se_int rfl) (ss_one (ss_ret (se_or (se_cmp (op_eqD hr.units) w_eq (sv 10) se_str rfl) (se_one (se_cmp (op_eqD hr.units) w_eq (sv 7) se_str rfl))))) ss_nil)
    (ss_cons (ss_if (st_cmp (op_eqD hr.units) w_eq (sv 5) se_int rfl) (ss_one (ss_ret (se_or (se_cmp (op_eqD hr.units) w_eq (sv 10) se_str rfl) (se_one (se_and (se_cmp (op_eqD hr.units) w_eq (sv 7) se_str rfl) (se_one (se_call (ok__law_back_is_good T) (hr.mono (by decide)) T.f__law_back_is_good.g T.f__law_back_is_good.F.kp T.f__law_back_is_good.b tk (sa_cons (sv 0) (sa_cons (sv 2) sa_nil))))))))) ss_nil)
    (ss_cons (ss_if (PW.pt (sw_or (st_cmp (op_eqD hr.units) w_eq (sv 7) se_str rfl) (sw_or (PW.pt (sw_and (st_cmp (op_eqD hr.units) w_eq (sv 9) se_str rfl) (sw_and1 (st_cmp (op_inA (hu65 hr)) w_in se_str (sv 2) rfl)))) (sw_or1 (st_not (st_val (se_call (ok__law_back_is_good T) (hr.mono (by decide)) T.f__law_back_is_good.g T.f__law_back_is_good.F.kp T.f__law_back_is_good.b tk (sa_cons (sv 0) (sa_cons (sv 2) sa_nil))))))))) (ss_one (ss_ret se_bl)) ss_nil)
    (ss_one (ss_ret (se_or (se_cmp op_lt w_lt (sv 5) (sv 4) rfl) (se_one (se_and (se_cmp op_notN w_notNon (sv 3) se_non rfl) (se_one (se_cmp op_lt w_lt (sv 3) (sv 4) rfl)))))))))))))
theorem sc__law_changes : FnScope N__law_changes ["_law_one", "_law_other"] (defScope st__law_changes) := ⟨rfl, rfl, rfl, by decide +kernel, rfl, by decide +kernel, by decide +kernel⟩
theorem ok__law_changes (T : Txt K mg) : FnG P w K mg base 1 (He.ga K "_law_changes") T.fd__law_changes ["_law_one", "_law_other"] (spOf K cl 2 r__law_changes) := by
  refine fn_pw (fn_ok (N := N__law_changes) (d := d__law_changes) T.f__law_changes.F sc__law_changes rfl fun cdv A outer s H E hr => ?_)
  have tk := takes_of (X := cxOf (L2.CX P w) P w K mg base N__law_changes "_law_changes" (defScope st__law_changes) (He.ga K "_law_changes") cdv A outer s H E) (E := E) rfl rfl rfl rfl
  exact (ss_one (ss_ret (se_cb c_len w_len T.m_len boot_len (sa_cons (se_fz (se_lc (own := [("_law_mine", 2), ("_law_yours", 3)]) rfl sc__law_changes.nd (si_zip T.m_zip (sv 0) (sv 1)) (blkOk_by (N := N__law_changes) (sc := defScope st__law_changes) (by decide +kernel)) (by decide) (fun _ _ _ _ _ => (sg_tup rfl (sgs_cons (sg_name (pg_name (i := 2) sc__law_changes.nd rfl (by first | exact Or.inl rfl | exact Or.inr rfl))) (sgs_cons (sg_name (pg_name (i := 3) sc__law_changes.nd rfl (by first | exact Or.inl rfl | exact Or.inr rfl))) sgs_nil)) (gsCons_len (gsCons_len gsNil_len)))) (fun _ _ _ _ _ => (stc_one (st_cmp (op_neD hr.units) w_ne (sv 2) (sv 3) rfl))) (fun _ _ _ _ _ => se_int))) sa_nil))))
theorem sc__law_bears_right : FnScope N__law_bears_right ["_law_state"] (defScope st__law_bears_right) := ⟨rfl, rfl, rfl, by decide +kernel, rfl, by decide +kernel, by decide +kernel⟩
theorem ok__law_bears_right (T : Txt K mg) : FnG P w K mg base 7 (He.ga K "_law_bears_right") T.fd__law_bears_right ["_law_state"] (spOf K cl 1 r__law_bears_right) := by
  refine fn_ok (N := N__law_bears_right) (d := d__law_bears_right) T.f__law_bears_right.F sc__law_bears_right rfl fun cdv A outer s H E hr => ?_
  have tk := takes_of (X := cxOf (L2.CX P w) P w K mg base N__law_bears_right "_law_bears_right" (defScope st__law_bears_right) (He.ga K "_law_bears_right") cdv A outer s H E) (E := E) rfl rfl rfl rfl
  exact (ss_cons (ss_asg (se_tup (sa_cons (se_call (ok__law_any_rule T) (hr.mono (by decide)) T.f__law_any_rule.g T.f__law_any_rule.F.kp T.f__law_any_rule.b tk (sa_cons (sv 0) sa_nil)) (sa_cons (se_call (ok__law_mays T) (hr.mono (by decide)) T.f__law_mays.g T.f__law_mays.F.kp T.f__law_mays.b tk (sa_cons (sv 0) sa_nil)) sa_nil))) (sg_tup rfl (sgs_cons (sg_name (pg_name (i := 1) sc__law_bears_right.nd rfl (by first | exact Or.inl rfl | exact Or.inr rfl))) (sgs_cons (sg_name (pg_name (i := 2) sc__law_bears_right.nd rfl (by first | exact Or.inl rfl | exact Or.inr rfl))) sgs_nil)) (gsCons_len (gsCons_len gsNil_len))))
    (ss_cons (ss_set (i := 3) sc__law_bears_right.nd rfl (by first | exact Or.inl rfl | exact Or.inr rfl) (se_call (ok__law_of T) (hr.mono (by decide)) T.f__law_of.g T.f__law_of.F.kp T.f__law_of.b tk (sa_cons (sv 0) (sa_cons (se_lst (sa_cons (se_tup (sa_cons se_str sa_nil)) (sa_cons (se_tup (sa_cons se_str sa_nil)) (sa_cons (se_tup (sa_cons se_str sa_nil)) (sa_cons (se_tup (sa_cons se_str (sa_cons se_str sa_nil))) (sa_cons (se_tup (sa_cons se_str (sa_cons se_str (sa_cons se_str sa_nil)))) sa_nil)))))) sa_nil))))
    (ss_cons (ss_set (i := 4) sc__law_bears_right.nd rfl (by first | exact Or.inl rfl | exact Or.inr rfl) (se_lstM sa_nil))
    (ss_cons (ss_for (passes_of rfl) rfl (si_seq (se_tup (sa_cons se_int (sa_cons se_int (sa_cons se_int (sa_cons se_int (sa_cons se_int (sa_cons se_int (sa_cons se_int (sa_cons se_int (sa_cons se_int (sa_cons se_non sa_nil)))))))))))) (sg_name (pg_name (i := 5) sc__law_bears_right.nd rfl (by first | exact Or.inl rfl | exact Or.inr rfl))) (ss_one (ss_expr (se_app (sv 4) (se_cmp (op_notInA (hu65 hr)) w_in se_bl (se_fz (se_lc (own := [("_law_promise", 8)]) rfl sc__law_bears_right.nd (si_seq (sv 3)) (blkOk_by (N := N__law_bears_right) (sc := defScope st__law_bears_right) (by decide +kernel)) (by decide) (fun _ _ _ _ _ => (sg_name (pg_name (i := 8) sc__law_bears_right.nd rfl (by first | exact Or.inl rfl | exact Or.inr rfl)))) (fun _ _ _ _ _ => stc_nil) (fun _ _ _ _ _ => (se_call (ok_does_keep T) (hr.mono (by decide)) T.f_does_keep.g T.f_does_keep.F.kp T.f_does_keep.b takes0 (sa_cons (sv 1) (sa_cons (sv 8) (sa_cons (sv 2) (sa_cons (sv 5) sa_nil)))))))) rfl)))))
    (ss_cons (ss_if (st_cmp (op_neD hr.units) w_ne (sv 4) (se_rev (se_fz (sn_cb (cr_sortD (hu65 hr)) w_sorted T.m_sorted (by decide +kernel) (sa_cons (sv 4) sa_nil)))) rfl) (ss_one (ss_ret se_bl)) ss_nil)
    (ss_cons (ss_set (i := 6) sc__law_bears_right.nd rfl (by first | exact Or.inl rfl | exact Or.inr rfl) (se_if (st_val (se_ix ix_seq w_ix (sv 4) (se_neg se_int))) se_non (se_op op_sub w_sub (se_idx (sv 4) se_bl) se_int)))
    (ss_cons (ss_if (st_cmp op_ne w_neS (se_cb (cr_repr (hu65 hr) hr.g) w_repr T.m_repr (by decide +kernel) (sa_cons (se_lst (sa_cons (se_call (ok_bears T) (hr.mono (by decide)) T.f_bears.g T.f_bears.F.kp T.f_bears.b tk (sa_cons (sv 1) (sa_cons (sv 3) (sa_cons (sv 2) sa_nil)))) (sa_cons (se_call (ok_bears T) (hr.mono (by decide)) T.f_bears.g T.f_bears.F.kp T.f_bears.b tk (sa_cons (sv 1) (sa_cons (sv 3) (sa_cons (sv 2) sa_nil)))) sa_nil))) sa_nil)) (se_cb (cr_repr (hu65 hr) hr.g) w_repr T.m_repr (by decide +kernel) (sa_cons (se_op o_mul w_mul (se_lst (sa_cons (sv 6) sa_nil)) se_int) sa_nil)) rfl) (ss_one (ss_ret se_bl)) ss_nil)
    (ss_cons (ss_set (i := 7) sc__law_bears_right.nd rfl (by first | exact Or.inl rfl | exact Or.inr rfl) (se_call (ok_bears T) (hr.mono (by decide)) T.f_bears.g T.f_bears.F.kp T.f_bears.b tk (sa_cons (sv 1) (sa_cons (se_tup (sa_cons se_str (sa_cons se_str (sa_cons se_str sa_nil)))) (sa_cons (se_tup (sa_cons se_str (sa_cons se_str sa_nil))) sa_nil)))))
    (ss_one (ss_ret (se_and (se_cmp op_notN w_notNon (sv 7) se_non rfl) (se_one (se_cmp op_lt w_lt (sv 7) (se_ix ix_seq w_ix (sv 1) se_int) rfl)))))))))))))
theorem sc_law : FnScope N_law ["_law_script"] (defScope st_law) := ⟨rfl, rfl, rfl, by decide +kernel, rfl, by decide +kernel, by decide +kernel⟩
theorem ok_law (T : Txt K mg) : FnG P w K mg base 8 (He.ga K "law") T.fd_law ["_law_script"] (spOf K cl 1 r_law) := by
  refine fn_ok (N := N_law) (d := d_law) T.f_law.F sc_law rfl fun cdv A outer s H E hr => ?_
  have tk := takes_of (X := cxOf (L2.CX P w) P w K mg base N_law "law" (defScope st_law) (He.ga K "law") cdv A outer s H E) (E := E) rfl rfl rfl rfl
  exact (ss_cons (ss_set (i := 1) sc_law.nd rfl (by first | exact Or.inl rfl | exact Or.inr rfl) (se_call (ok__law_begin T) (hr.mono (by decide)) T.f__law_begin.g T.f__law_begin.F.kp T.f__law_begin.b tk (sa_cons (sv 0) sa_nil)))
    (ss_cons (ss_for (passes_of rfl) rfl (si_rng1 T.m_range (sa_cons (se_op o_add w_add se_int (se_cb (call_min2 rfl) w_min T.m_min boot_min (sa_cons (se_cb c_len w_len T.m_len boot_len (sa_cons (sv 0) sa_nil)) (sa_cons se_int sa_nil)))) sa_nil) a1_len) (sg_name (pg_name (i := 2) sc_law.nd rfl (by first | exact Or.inl rfl | exact Or.inr rfl))) (ss_cons (ss_if (PW.pt (sw_or (st_not (st_val (se_call (ok__law_bears_right T) (hr.mono (by decide)) T.f__law_bears_right.g T.f__law_bears_right.F.kp T.f__law_bears_right.b tk (sa_cons (sv 1) sa_nil)))) (sw_or (st_not (st_val (se_call (ok__law_bears_right T) (hr.mono (by decide)) T.f__law_bears_right.g T.f__law_bears_right.F.kp T.f__law_bears_right.b tk (sa_cons (sv 1) sa_nil)))) (sw_or1 (st_not (st_val (se_call (ok__law_bears_right T) (hr.mono (by decide)) T.f__law_bears_right.g T.f__law_bears_right.F.kp T.f__law_bears_right.b tk (sa_cons (sv 1) sa_nil)))))))) (ss_one (ss_ret se_bl)) ss_nil)
    (ss_cons (ss_asg (se_tup (sa_cons (se_call (ok__law_any_rule T) (hr.mono (by decide)) T.f__law_any_rule.g T.f__law_any_rule.F.kp T.f__law_any_rule.b tk (sa_cons (sv 1) sa_nil)) (sa_cons (se_call (ok__law_mays T) (hr.mono (by decide)) T.f__law_mays.g T.f__law_mays.F.kp T.f__law_mays.b tk (sa_cons (sv 1) sa_nil)) (sa_cons (se_call (ok__law_bound T) (hr.mono (by decide)) T.f__law_bound.g T.f__law_bound.F.kp T.f__law_bound.b tk (sa_cons (sv 1) sa_nil)) sa_nil)))) (sg_tup rfl (sgs_cons (sg_name (pg_name (i := 3) sc_law.nd rfl (by first | exact Or.inl rfl | exact Or.inr rfl))) (sgs_cons (sg_name (pg_name (i := 4) sc_law.nd rfl (by first | exact Or.inl rfl | exact Or.inr rfl))) (sgs_cons (sg_name (pg_name (i := 5) sc_law.nd rfl (by first | exact Or.inl rfl | exact Or.inr rfl))) sgs_nil))) (gsCons_len (gsCons_len (gsCons_len gsNil_len)))))
    (ss_cons (ss_set (i := 6) sc_law.nd rfl (by first | exact Or.inl rfl | exact Or.inr rfl) (se_call (ok__law_of T) (hr.mono (by decide)) T.f__law_of.g T.f__law_of.F.kp T.f__law_of.b tk (sa_cons (sv 1) (sa_cons (se_lst (sa_cons (se_tup (sa_cons se_str sa_nil)) (sa_cons (se_tup (sa_cons se_str sa_nil)) (sa_cons (se_tup (sa_cons se_str sa_nil)) (sa_cons (se_tup (sa_cons se_str (sa_cons se_str sa_nil))) (sa_cons (se_tup (sa_cons se_str (sa_cons se_str (sa_cons se_str sa_nil)))) sa_nil)))))) sa_nil))))
    (ss_cons (ss_set (i := 7) sc_law.nd rfl (by first | exact Or.inl rfl | exact Or.inr rfl) (se_lstM sa_nil))
    (ss_cons (ss_for (passes_of rfl) rfl (si_seq (se_call0 (ok_all_rules T) (hr.mono (by decide)) T.f_all_rules.g T.f_all_rules.F.kp T.f_all_rules.b tk)) (sg_name (pg_name (i := 8) sc_law.nd rfl (by first | exact Or.inl rfl | exact Or.inr rfl))) (ss_one (ss_if (st_cmp (op_notInA (hu65 hr)) w_in se_bl (se_fz (se_lc (own := [("_law_promise", 15)]) rfl sc_law.nd (si_seq (sv 6)) (blkOk_by (N := N_law) (sc := defScope st_law) (by decide +kernel)) (by decide) (fun _ _ _ _ _ => (sg_name (pg_name (i := 15) sc_law.nd rfl (by first | exact Or.inl rfl | exact Or.inr rfl)))) (fun _ _ _ _ _ => stc_nil) (fun _ _ _ _ _ => (se_call (ok__law_keeps T) (hr.mono (by decide)) T.f__law_keeps.g T.f__law_keeps.F.kp T.f__law_keeps.b takes0 (sa_cons (sv 8) (sa_cons (sv 15) (sa_cons (sv 4) (sa_cons (sv 5) sa_nil)))))))) rfl) (ss_one (ss_expr (se_app (sv 7) (sv 8)))) ss_nil)))
    (ss_cons (ss_set (i := 9) sc_law.nd rfl (by first | exact Or.inl rfl | exact Or.inr rfl) (se_cb (cr_min rfl) w_minL T.m_min boot_min (sa_cons (se_op o_add w_add (se_fz (se_lc (own := [("_law_other", 8)]) rfl sc_law.nd (si_seq (se_frz 7)) (blkOk_by (N := N_law) (sc := defScope st_law) (by decide +kernel)) (by decide) (fun _ _ _ _ _ => (sg_name (pg_name (i := 8) sc_law.nd rfl (by first | exact Or.inl rfl | exact Or.inr rfl)))) (fun _ _ _ _ _ => stc_nil) (fun _ _ _ _ _ => (se_call (ok__law_changes T) (hr.mono (by decide)) T.f__law_changes.g T.f__law_changes.F.kp T.f__law_changes.b takes0 (sa_cons (sv 3) (sa_cons (sv 8) sa_nil)))))) (se_lst (sa_cons se_int sa_nil))) sa_nil)))
    (ss_cons (ss_set (i := 10) sc_law.nd rfl (by first | exact Or.inl rfl | exact Or.inr rfl) (se_ct call_tuple_of w_tuple T.m_tuple (by decide +kernel) (sa_cons (se_fz (sn_cb (cr_sortD (hu65 hr)) w_sorted T.m_sorted (by decide +kernel) (sa_cons (se_fz (se_lc (own := [("_law_other", 8)]) rfl sc_law.nd (si_seq (se_frz 7)) (blkOk_by (N := N_law) (sc := defScope st_law) (by decide +kernel)) (by decide) (fun _ _ _ _ _ => (sg_name (pg_name (i := 8) sc_law.nd rfl (by first | exact Or.inl rfl | exact Or.inr rfl)))) (fun _ _ _ _ _ => (stc_one (st_cmp (op_eqD hr.units) w_eq (se_call (ok__law_changes T) (hr.mono (by decide)) T.f__law_changes.g T.f__law_changes.F.kp T.f__law_changes.b takes0 (sa_cons (sv 3) (sa_cons (sv 8) sa_nil))) (sv 9) rfl))) (fun _ _ _ _ _ => (sv 8)))) sa_nil))) sa_nil)))
    (ss_cons (ss_set (i := 11) sc_law.nd rfl (by first | exact Or.inl rfl | exact Or.inr rfl) (se_lst (sa_cons (se_call (ok_nearest_rules T) (hr.mono (by decide)) T.f_nearest_rules.g T.f_nearest_rules.F.kp T.f_nearest_rules.b tk (sa_cons (sv 3) (sa_cons (sv 6) (sa_cons (sv 4) (sa_cons (sv 5) sa_nil))))) (sa_cons (se_call (ok_nearest_rules T) (hr.mono (by decide)) T.f_nearest_rules.g T.f_nearest_rules.F.kp T.f_nearest_rules.b tk (sa_cons (sv 3) (sa_cons (sv 6) (sa_cons (sv 4) (sa_cons (sv 5) sa_nil))))) sa_nil))))
    (ss_cons (ss_if (PW.pt (sw_or (st_cmp op_ne w_neS (se_cb (cr_repr (hu65 hr) hr.g) w_repr T.m_repr (by decide +kernel) (sa_cons (sv 11) sa_nil)) (se_cb (cr_repr (hu65 hr) hr.g) w_repr T.m_repr (by decide +kernel) (sa_cons (se_op o_mul w_mul (se_lst (sa_cons (sv 10) sa_nil)) se_int) sa_nil)) rfl) (sw_or1 (PW.pt (sw_and (st_cmp (op_inA (hu65 hr)) w_in (sv 3) (sv 7) rfl) (sw_and1 (st_cmp (op_neD hr.units) w_ne (sv 10) (se_tup (sa_cons (sv 3) sa_nil)) rfl))))))) (ss_one (ss_ret se_bl)) ss_nil)
    (ss_cons (ss_set (i := 12) sc_law.nd rfl (by first | exact Or.inl rfl | exact Or.inr rfl) (se_cb (cr_min rfl) w_minL T.m_min boot_min (sa_cons (se_op o_add w_add (se_fz (se_lc (own := [("_law_other", 8)]) rfl sc_law.nd (si_seq (se_frz 7)) (blkOk_by (N := N_law) (sc := defScope st_law) (by decide +kernel)) (by decide) (fun _ _ _ _ _ => (sg_name (pg_name (i := 8) sc_law.nd rfl (by first | exact Or.inl rfl | exact Or.inr rfl)))) (fun _ _ _ _ _ => stc_nil) (fun _ _ _ _ _ => (se_ix ix_seq w_ix (sv 8) se_int)))) (se_lst (sa_cons se_int sa_nil))) sa_nil)))
    (ss_cons (ss_if (st_cmp op_ne w_neS (se_cb (cr_repr (hu65 hr) hr.g) w_repr T.m_repr (by decide +kernel) (sa_cons (se_call (ok_fewest_names T) (hr.mono (by decide)) T.f_fewest_names.g T.f_fewest_names.F.kp T.f_fewest_names.b tk (sa_cons (sv 6) (sa_cons (sv 4) (sa_cons (sv 5) sa_nil)))) sa_nil)) (se_cb (cr_repr (hu65 hr) hr.g) w_repr T.m_repr (by decide +kernel) (sa_cons (se_if (st_cmp (op_eqD hr.units) w_eq (sv 12) se_int rfl) se_non (sv 12)) sa_nil)) rfl) (ss_one (ss_ret se_bl)) ss_nil)
    (ss_cons (ss_set (i := 8) sc_law.nd rfl (by first | exact Or.inl rfl | exact Or.inr rfl) (se_call (ok__law_any_rule T) (hr.mono (by decide)) T.f__law_any_rule.g T.f__law_any_rule.F.kp T.f__law_any_rule.b tk (sa_cons (sv 1) sa_nil)))
    (ss_cons (ss_set (i := 11) sc_law.nd rfl (by first | exact Or.inl rfl | exact Or.inr rfl) (se_lst (sa_cons (se_call (ok_changes_between T) (hr.mono (by decide)) T.f_changes_between.g T.f_changes_between.F.kp T.f_changes_between.b tk (sa_cons (sv 3) (sa_cons (sv 8) sa_nil))) (sa_cons (se_call (ok_changes_between T) (hr.mono (by decide)) T.f_changes_between.g T.f_changes_between.F.kp T.f_changes_between.b tk (sa_cons (sv 3) (sa_cons (sv 3) sa_nil))) (sa_cons (se_call (ok_changes_between T) (hr.mono (by decide)) T.f_changes_between.g T.f_changes_between.F.kp T.f_changes_between.b tk (sa_cons (sv 3) (sa_cons (sv 8) sa_nil))) sa_nil)))))
    (ss_one (ss_if (st_cmp (op_neD hr.units) w_ne (sv 11) (se_lst (sa_cons (se_call (ok__law_changes T) (hr.mono (by decide)) T.f__law_changes.g T.f__law_changes.F.kp T.f__law_changes.b tk (sa_cons (sv 3) (sa_cons (sv 8) sa_nil))) (sa_cons se_int (sa_cons (se_call (ok__law_changes T) (hr.mono (by decide)) T.f__law_changes.g T.f__law_changes.F.kp T.f__law_changes.b tk (sa_cons (sv 3) (sa_cons (sv 8) sa_nil))) sa_nil)))) rfl) (ss_one (ss_ret se_bl)) ss_nil))))))))))))))))
    (ss_cons (ss_set (i := 13) sc_law.nd rfl (by first | exact Or.inl rfl | exact Or.inr rfl) (se_tup (sa_cons se_str (sa_cons se_str (sa_cons se_str sa_nil)))))
    (ss_cons (ss_for (passes_of rfl) rfl (si_seq (se_tup (sa_cons se_int (sa_cons se_int (sa_cons se_int sa_nil))))) (sg_name (pg_name (i := 14) sc_law.nd rfl (by first | exact Or.inl rfl | exact Or.inr rfl))) (ss_one (ss_if (st_cmp (op_neD hr.units) w_ne (se_call (ok_bears T) (hr.mono (by decide)) T.f_bears.g T.f_bears.F.kp T.f_bears.b tk (sa_cons (se_tup (sa_cons (sv 14) (sa_cons (sv 14) (sa_cons se_str (sa_cons se_str (sa_cons se_str (sa_cons se_str (sa_cons se_str sa_nil)))))))) (sa_cons (sv 13) (sa_cons (se_tup (sa_cons se_str (sa_cons se_str sa_nil))) sa_nil)))) (se_op op_sub w_sub (sv 14) se_int) rfl) (ss_one (ss_ret se_bl)) ss_nil)))
    (ss_one (ss_ret (se_cmp (op_eqD hr.units) w_eq (se_fz (se_lc (own := [("_law_k", 16)]) rfl sc_law.nd (si_seq (se_tup (sa_cons se_int (sa_cons se_int (sa_cons se_int (sa_cons se_int sa_nil)))))) (blkOk_by (N := N_law) (sc := defScope st_law) (by decide +kernel)) (by decide) (fun _ _ _ _ _ => (sg_name (pg_name (i := 16) sc_law.nd rfl (by first | exact Or.inl rfl | exact Or.inr rfl)))) (fun _ _ _ _ _ => stc_nil) (fun _ _ _ _ _ => (se_call (ok_fewest_names T) (hr.mono (by decide)) T.f_fewest_names.g T.f_fewest_names.F.kp T.f_fewest_names.b takes0 (sa_cons (sv 13) (sa_cons (se_tup (sa_cons se_str (sa_cons se_str sa_nil))) (sa_cons (sv 16) sa_nil))))))) (se_lst (sa_cons se_int (sa_cons se_int (sa_cons se_int (sa_cons se_non sa_nil))))) rfl)))))))
end
def fa : List He.Fa := [.glo "is_integer", .glo "is_between", .glo "is_one_of", .glo "need_rule", .glo "all_rules", .glo "need_promise", .glo "need_promises", .glo "need_may", .glo "need_absent", .glo "is_at_most", .glo "do_renew", .glo "keeps_order", .glo "keeps_door", .glo "keeps_by", .glo "does_keep", .glo "keeps_all", .glo "bears_by", .glo "bears", .glo "keeping_in", .glo "changes_in", .glo "changes_between", .glo "nearest_rules", .glo "fewest_names", .glo "_law_mixed", .glo "_law_begin", .glo "_law_draw", .glo "_law_of", .glo "_law_mays", .glo "_law_bound", .glo "_law_any_rule", .glo "_law_back_is_good", .glo "_law_keeps", .glo "_law_changes", .glo "_law_bears_right", .glo "law", .free "all", .free "bool", .free "enumerate", .free "int", .free "isinstance", .free "len", .free "list", .free "min", .free "range", .free "repr", .free "sorted", .free "str", .free "tuple", .free "zip"]
def dd_is_integer : He.DefD := ⟨("is_integer", none), "is_integer", "is_integer", defArgs st_is_integer, defBody st_is_integer, defScope st_is_integer, [], []⟩
def dd_is_between : He.DefD := ⟨("is_between", none), "is_between", "is_between", defArgs st_is_between, defBody st_is_between, defScope st_is_between, [], []⟩
def dd_is_one_of : He.DefD := ⟨("is_one_of", none), "is_one_of", "is_one_of", defArgs st_is_one_of, defBody st_is_one_of, defScope st_is_one_of, [], []⟩
def dd_need_rule : He.DefD := ⟨("need_rule", none), "need_rule", "need_rule", defArgs st_need_rule, defBody st_need_rule, defScope st_need_rule, [], []⟩
def dd_all_rules : He.DefD := ⟨("all_rules", none), "all_rules", "all_rules", defArgs st_all_rules, defBody st_all_rules, defScope st_all_rules, [], []⟩
def dd_need_promise : He.DefD := ⟨("need_promise", none), "need_promise", "need_promise", defArgs st_need_promise, defBody st_need_promise, defScope st_need_promise, [], []⟩
def dd_need_promises : He.DefD := ⟨("need_promises", none), "need_promises", "need_promises", defArgs st_need_promises, defBody st_need_promises, defScope st_need_promises, [], []⟩
def dd_need_may : He.DefD := ⟨("need_may", none), "need_may", "need_may", defArgs st_need_may, defBody st_need_may, defScope st_need_may, [], []⟩
def dd_need_absent : He.DefD := ⟨("need_absent", none), "need_absent", "need_absent", defArgs st_need_absent, defBody st_need_absent, defScope st_need_absent, [], []⟩
def dd_is_at_most : He.DefD := ⟨("is_at_most", none), "is_at_most", "is_at_most", defArgs st_is_at_most, defBody st_is_at_most, defScope st_is_at_most, [], []⟩
def dd_do_renew : He.DefD := ⟨("do_renew", none), "do_renew", "do_renew", defArgs st_do_renew, defBody st_do_renew, defScope st_do_renew, [], []⟩
def dd_keeps_order : He.DefD := ⟨("keeps_order", none), "keeps_order", "keeps_order", defArgs st_keeps_order, defBody st_keeps_order, defScope st_keeps_order, [], []⟩
def dd_keeps_door : He.DefD := ⟨("keeps_door", none), "keeps_door", "keeps_door", defArgs st_keeps_door, defBody st_keeps_door, defScope st_keeps_door, [], []⟩
def dd_keeps_by : He.DefD := ⟨("keeps_by", none), "keeps_by", "keeps_by", defArgs st_keeps_by, defBody st_keeps_by, defScope st_keeps_by, [], []⟩
def dd_does_keep : He.DefD := ⟨("does_keep", none), "does_keep", "does_keep", defArgs st_does_keep, defBody st_does_keep, defScope st_does_keep, [], []⟩
def dd_keeps_all : He.DefD := ⟨("keeps_all", none), "keeps_all", "keeps_all", defArgs st_keeps_all, defBody st_keeps_all, defScope st_keeps_all, [], []⟩
def dd_bears_by : He.DefD := ⟨("bears_by", none), "bears_by", "bears_by", defArgs st_bears_by, defBody st_bears_by, defScope st_bears_by, [], []⟩
def dd_bears : He.DefD := ⟨("bears", none), "bears", "bears", defArgs st_bears, defBody st_bears, defScope st_bears, [], []⟩
def dd_keeping_in : He.DefD := ⟨("keeping_in", none), "keeping_in", "keeping_in", defArgs st_keeping_in, defBody st_keeping_in, defScope st_keeping_in, [], []⟩
def dd_changes_in : He.DefD := ⟨("changes_in", none), "changes_in", "changes_in", defArgs st_changes_in, defBody st_changes_in, defScope st_changes_in, [], []⟩
def dd_changes_between : He.DefD := ⟨("changes_between", none), "changes_between", "changes_between", defArgs st_changes_between, defBody st_changes_between, defScope st_changes_between, [], []⟩
def dd_nearest_rules : He.DefD := ⟨("nearest_rules", none), "nearest_rules", "nearest_rules", defArgs st_nearest_rules, defBody st_nearest_rules, defScope st_nearest_rules, [], []⟩
def dd_fewest_names : He.DefD := ⟨("fewest_names", none), "fewest_names", "fewest_names", defArgs st_fewest_names, defBody st_fewest_names, defScope st_fewest_names, [], []⟩
def dd__law_mixed : He.DefD := ⟨("_law_mixed", none), "_law_mixed", "_law_mixed", defArgs st__law_mixed, defBody st__law_mixed, defScope st__law_mixed, [], []⟩
def dd__law_begin : He.DefD := ⟨("_law_begin", none), "_law_begin", "_law_begin", defArgs st__law_begin, defBody st__law_begin, defScope st__law_begin, [], []⟩
def dd__law_draw : He.DefD := ⟨("_law_draw", none), "_law_draw", "_law_draw", defArgs st__law_draw, defBody st__law_draw, defScope st__law_draw, [], []⟩
def dd__law_of : He.DefD := ⟨("_law_of", none), "_law_of", "_law_of", defArgs st__law_of, defBody st__law_of, defScope st__law_of, [], []⟩
def dd__law_mays : He.DefD := ⟨("_law_mays", none), "_law_mays", "_law_mays", defArgs st__law_mays, defBody st__law_mays, defScope st__law_mays, [], []⟩
def dd__law_bound : He.DefD := ⟨("_law_bound", none), "_law_bound", "_law_bound", defArgs st__law_bound, defBody st__law_bound, defScope st__law_bound, [], []⟩
def dd__law_any_rule : He.DefD := ⟨("_law_any_rule", none), "_law_any_rule", "_law_any_rule", defArgs st__law_any_rule, defBody st__law_any_rule, defScope st__law_any_rule, [], []⟩
def dd__law_back_is_good : He.DefD := ⟨("_law_back_is_good", none), "_law_back_is_good", "_law_back_is_good", defArgs st__law_back_is_good, defBody st__law_back_is_good, defScope st__law_back_is_good, [], []⟩
def dd__law_keeps : He.DefD := ⟨("_law_keeps", none), "_law_keeps", "_law_keeps", defArgs st__law_keeps, defBody st__law_keeps, defScope st__law_keeps, [], []⟩
def dd__law_changes : He.DefD := ⟨("_law_changes", none), "_law_changes", "_law_changes", defArgs st__law_changes, defBody st__law_changes, defScope st__law_changes, [], []⟩
def dd__law_bears_right : He.DefD := ⟨("_law_bears_right", none), "_law_bears_right", "_law_bears_right", defArgs st__law_bears_right, defBody st__law_bears_right, defScope st__law_bears_right, [], []⟩
def dd_law : He.DefD := ⟨("law", none), "law", "law", defArgs st_law, defBody st_law, defScope st_law, [], []⟩
def fn : List He.DefD := [dd_is_integer, dd_is_between, dd_is_one_of, dd_need_rule, dd_all_rules, dd_need_promise, dd_need_promises, dd_need_may, dd_need_absent, dd_is_at_most, dd_do_renew, dd_keeps_order, dd_keeps_door, dd_keeps_by, dd_does_keep, dd_keeps_all, dd_bears_by, dd_bears, dd_keeping_in, dd_changes_in, dd_changes_between, dd_nearest_rules, dd_fewest_names, dd__law_mixed, dd__law_begin, dd__law_draw, dd__law_of, dd__law_mays, dd__law_bound, dd__law_any_rule, dd__law_back_is_good, dd__law_keeps, dd__law_changes, dd__law_bears_right, dd_law]
def ex (K : PySem.W.Frag) : Bool := allB [gloB K "LINE" w_LINE, gloB K "ON" w_ON, gloB K "ASKS" w_ASKS, gloB K "OLD" w_OLD, gloB K "TELLS" w_TELLS, gloB K "QUIET" w_QUIET, gloB K "MOST_NAMES" w_MOST_NAMES, gloB K "CHOICES" w_CHOICES, gloB K "DOOR_PROMISE" w_DOOR_PROMISE, gloB K "ORDER_PROMISE" w_ORDER_PROMISE, gloB K "PROMISES" w_PROMISES, gloB K "MAY_LET" w_MAY_LET, gloB K "MAY_OUT" w_MAY_OUT, gloB K "MAYS" w_MAYS, gloB K "MOST_ABSENT" w_MOST_ABSENT]
abbrev Rw : PySem.W.OpenRow := PySem.W.OpenLaw.row PySem.Challenge.rw_asklast_k11_whole_bearing_and_nearest_ru
abbrev hk : PySem.W.Hook := hookE 4 fa fn ex
def ob (s : PySem.W.SharedT) : He.AlD × Bool := obsEG 4 fa fn ex (HandSHeadRun.getT s)
theorem ob_eq (s : PySem.W.SharedT) : ob s = hk.obs s.abs := obsEG_eq (HandSHeadRun.getT_eq s)
def nm0 : List Str := ["AskError", "BadRule", "BadPromise", "BadMay", "BadAbsent", "LINE", "SEEN", "NONE", "ON", "ASKS", "OLD", "TELLS", "QUIET", "TOLD", "CLAIMS", "MOST_NAMES", "CHOICES", "is_integer", "is_between", "is_one_of", "need_rule", "all_rules", "DOOR_PROMISE", "ORDER_PROMISE", "PLACE_PROMISE", "PROMISES", "MAY_LET", "MAY_OUT", "MAYS", "MOST_ABSENT"]
def nm1 : List Str := ["need_promise", "need_promises", "need_may", "need_absent", "is_at_most", "do_renew", "keeps_order", "keeps_door", "keeps_by", "does_keep", "keeps_all", "bears_by", "bears", "keeping_in", "changes_in", "changes_between", "nearest_rules", "fewest_names", "_law_mixed", "_law_begin", "_law_draw", "_law_of", "_law_mays", "_law_bound", "_law_any_rule", "_law_back_is_good", "_law_keeps", "_law_changes", "_law_bears_right"]
def nms : List Str := nm0 ++ nm1
theorem run (w : World) : HandSHeadRun.RunEq Rw (PySem.W.view Rw.prog [64]) hk ob 8000 nms w := by
  intro os
  kernel_rfl
theorem facts {P : Program} {w : World} {K : PySem.W.Frag} {cl : Nat → Addr} {h : Heap} {mg : Str → Option Value} {f : Addr} (X : K.In h) (G : h.Ns mainGlobals mg) (hfa : mg ("law" : Str) = some (.ref f)) (c : SaysE fa fn ex K) :
    ∃ fd : FuncData, (∀ (s : Shared) (v : Value), BindsTo s fd ⟨[v], []⟩ [("_law_script", v)]) ∧ ∀ base : Heap, K.In base → base.Ns mainGlobals mg → FnG P w K mg base 8 f fd ["_law_script"] (spOf K cl 1 r_law) := by
  obtain ⟨fd_is_integer, F_is_integer⟩ := c.d.def_ 0 (d := dd_is_integer) rfl
  have g_is_integer := He.glo_ok X G (c.d.fact 0 (f := .glo "is_integer") rfl)
  have b_is_integer := FunD.bindsN (ps := ["thing"]) F_is_integer fun _ _ _ _ _ _ us hl => match us, hl with | [_], _ => rfl
  obtain ⟨fd_is_between, F_is_between⟩ := c.d.def_ 1 (d := dd_is_between) rfl
  have g_is_between := He.glo_ok X G (c.d.fact 1 (f := .glo "is_between") rfl)
  have b_is_between := FunD.bindsN (ps := ["thing", "least", "most"]) F_is_between fun _ _ _ _ _ _ us hl => match us, hl with | [_, _, _], _ => rfl
  obtain ⟨fd_is_one_of, F_is_one_of⟩ := c.d.def_ 2 (d := dd_is_one_of) rfl
  have g_is_one_of := He.glo_ok X G (c.d.fact 2 (f := .glo "is_one_of") rfl)
  have b_is_one_of := FunD.bindsN (ps := ["some", "thing"]) F_is_one_of fun _ _ _ _ _ _ us hl => match us, hl with | [_, _], _ => rfl
  obtain ⟨fd_need_rule, F_need_rule⟩ := c.d.def_ 3 (d := dd_need_rule) rfl
  have g_need_rule := He.glo_ok X G (c.d.fact 3 (f := .glo "need_rule") rfl)
  have b_need_rule := FunD.bindsN (ps := ["thing"]) F_need_rule fun _ _ _ _ _ _ us hl => match us, hl with | [_], _ => rfl
  obtain ⟨fd_all_rules, F_all_rules⟩ := c.d.def_ 4 (d := dd_all_rules) rfl
  have g_all_rules := He.glo_ok X G (c.d.fact 4 (f := .glo "all_rules") rfl)
  have b_all_rules := FunD.bindsN (ps := []) F_all_rules fun _ _ _ _ _ _ us hl => match us, hl with | [], _ => rfl
  obtain ⟨fd_need_promise, F_need_promise⟩ := c.d.def_ 5 (d := dd_need_promise) rfl
  have g_need_promise := He.glo_ok X G (c.d.fact 5 (f := .glo "need_promise") rfl)
  have b_need_promise := FunD.bindsN (ps := ["thing"]) F_need_promise fun _ _ _ _ _ _ us hl => match us, hl with | [_], _ => rfl
  obtain ⟨fd_need_promises, F_need_promises⟩ := c.d.def_ 6 (d := dd_need_promises) rfl
  have g_need_promises := He.glo_ok X G (c.d.fact 6 (f := .glo "need_promises") rfl)
  have b_need_promises := FunD.bindsN (ps := ["thing"]) F_need_promises fun _ _ _ _ _ _ us hl => match us, hl with | [_], _ => rfl
  obtain ⟨fd_need_may, F_need_may⟩ := c.d.def_ 7 (d := dd_need_may) rfl
  have g_need_may := He.glo_ok X G (c.d.fact 7 (f := .glo "need_may") rfl)
  have b_need_may := FunD.bindsN (ps := ["thing"]) F_need_may fun _ _ _ _ _ _ us hl => match us, hl with | [_], _ => rfl
  obtain ⟨fd_need_absent, F_need_absent⟩ := c.d.def_ 8 (d := dd_need_absent) rfl
  have g_need_absent := He.glo_ok X G (c.d.fact 8 (f := .glo "need_absent") rfl)
  have b_need_absent := FunD.bindsN (ps := ["thing"]) F_need_absent fun _ _ _ _ _ _ us hl => match us, hl with | [_], _ => rfl
  obtain ⟨fd_is_at_most, F_is_at_most⟩ := c.d.def_ 9 (d := dd_is_at_most) rfl
  have g_is_at_most := He.glo_ok X G (c.d.fact 9 (f := .glo "is_at_most") rfl)
  have b_is_at_most := FunD.bindsN (ps := ["absent", "number"]) F_is_at_most fun _ _ _ _ _ _ us hl => match us, hl with | [_, _], _ => rfl
  obtain ⟨fd_do_renew, F_do_renew⟩ := c.d.def_ 10 (d := dd_do_renew) rfl
  have g_do_renew := He.glo_ok X G (c.d.fact 10 (f := .glo "do_renew") rfl)
  have b_do_renew := FunD.bindsN (ps := ["rule", "may"]) F_do_renew fun _ _ _ _ _ _ us hl => match us, hl with | [_, _], _ => rfl
  obtain ⟨fd_keeps_order, F_keeps_order⟩ := c.d.def_ 11 (d := dd_keeps_order) rfl
  have g_keeps_order := He.glo_ok X G (c.d.fact 11 (f := .glo "keeps_order") rfl)
  have b_keeps_order := FunD.bindsN (ps := ["rule", "may", "absent"]) F_keeps_order fun _ _ _ _ _ _ us hl => match us, hl with | [_, _, _], _ => rfl
  obtain ⟨fd_keeps_door, F_keeps_door⟩ := c.d.def_ 12 (d := dd_keeps_door) rfl
  have g_keeps_door := He.glo_ok X G (c.d.fact 12 (f := .glo "keeps_door") rfl)
  have b_keeps_door := FunD.bindsN (ps := ["rule", "may", "absent"]) F_keeps_door fun _ _ _ _ _ _ us hl => match us, hl with | [_, _, _], _ => rfl
  obtain ⟨fd_keeps_by, F_keeps_by⟩ := c.d.def_ 13 (d := dd_keeps_by) rfl
  have g_keeps_by := He.glo_ok X G (c.d.fact 13 (f := .glo "keeps_by") rfl)
  have b_keeps_by := FunD.bindsN (ps := ["rule", "promise", "may", "absent"]) F_keeps_by fun _ _ _ _ _ _ us hl => match us, hl with | [_, _, _, _], _ => rfl
  obtain ⟨fd_does_keep, F_does_keep⟩ := c.d.def_ 14 (d := dd_does_keep) rfl
  have g_does_keep := He.glo_ok X G (c.d.fact 14 (f := .glo "does_keep") rfl)
  have b_does_keep := FunD.bindsN (ps := ["rule", "promise", "may", "absent"]) F_does_keep fun _ _ _ _ _ _ us hl => match us, hl with | [_, _, _, _], _ => rfl
  obtain ⟨fd_keeps_all, F_keeps_all⟩ := c.d.def_ 15 (d := dd_keeps_all) rfl
  have g_keeps_all := He.glo_ok X G (c.d.fact 15 (f := .glo "keeps_all") rfl)
  have b_keeps_all := FunD.bindsN (ps := ["rule", "promises", "may", "absent"]) F_keeps_all fun _ _ _ _ _ _ us hl => match us, hl with | [_, _, _, _], _ => rfl
  obtain ⟨fd_bears_by, F_bears_by⟩ := c.d.def_ 16 (d := dd_bears_by) rfl
  have g_bears_by := He.glo_ok X G (c.d.fact 16 (f := .glo "bears_by") rfl)
  have b_bears_by := FunD.bindsN (ps := ["rule", "promises", "may"]) F_bears_by fun _ _ _ _ _ _ us hl => match us, hl with | [_, _, _], _ => rfl
  obtain ⟨fd_bears, F_bears⟩ := c.d.def_ 17 (d := dd_bears) rfl
  have g_bears := He.glo_ok X G (c.d.fact 17 (f := .glo "bears") rfl)
  have b_bears := FunD.bindsN (ps := ["rule", "promises", "may"]) F_bears fun _ _ _ _ _ _ us hl => match us, hl with | [_, _, _], _ => rfl
  obtain ⟨fd_keeping_in, F_keeping_in⟩ := c.d.def_ 18 (d := dd_keeping_in) rfl
  have g_keeping_in := He.glo_ok X G (c.d.fact 18 (f := .glo "keeping_in") rfl)
  have b_keeping_in := FunD.bindsN (ps := ["promises", "may", "absent"]) F_keeping_in fun _ _ _ _ _ _ us hl => match us, hl with | [_, _, _], _ => rfl
  obtain ⟨fd_changes_in, F_changes_in⟩ := c.d.def_ 19 (d := dd_changes_in) rfl
  have g_changes_in := He.glo_ok X G (c.d.fact 19 (f := .glo "changes_in") rfl)
  have b_changes_in := FunD.bindsN (ps := ["rule", "other"]) F_changes_in fun _ _ _ _ _ _ us hl => match us, hl with | [_, _], _ => rfl
  obtain ⟨fd_changes_between, F_changes_between⟩ := c.d.def_ 20 (d := dd_changes_between) rfl
  have g_changes_between := He.glo_ok X G (c.d.fact 20 (f := .glo "changes_between") rfl)
  have b_changes_between := FunD.bindsN (ps := ["rule", "other"]) F_changes_between fun _ _ _ _ _ _ us hl => match us, hl with | [_, _], _ => rfl
  obtain ⟨fd_nearest_rules, F_nearest_rules⟩ := c.d.def_ 21 (d := dd_nearest_rules) rfl
  have g_nearest_rules := He.glo_ok X G (c.d.fact 21 (f := .glo "nearest_rules") rfl)
  have b_nearest_rules := FunD.bindsN (ps := ["rule", "promises", "may", "absent"]) F_nearest_rules fun _ _ _ _ _ _ us hl => match us, hl with | [_, _, _, _], _ => rfl
  obtain ⟨fd_fewest_names, F_fewest_names⟩ := c.d.def_ 22 (d := dd_fewest_names) rfl
  have g_fewest_names := He.glo_ok X G (c.d.fact 22 (f := .glo "fewest_names") rfl)
  have b_fewest_names := FunD.bindsN (ps := ["promises", "may", "absent"]) F_fewest_names fun _ _ _ _ _ _ us hl => match us, hl with | [_, _, _], _ => rfl
  obtain ⟨fd__law_mixed, F__law_mixed⟩ := c.d.def_ 23 (d := dd__law_mixed) rfl
  have g__law_mixed := He.glo_ok X G (c.d.fact 23 (f := .glo "_law_mixed") rfl)
  have b__law_mixed := FunD.bindsN (ps := ["_law_cell", "_law_k"]) F__law_mixed fun _ _ _ _ _ _ us hl => match us, hl with | [_, _], _ => rfl
  obtain ⟨fd__law_begin, F__law_begin⟩ := c.d.def_ 24 (d := dd__law_begin) rfl
  have g__law_begin := He.glo_ok X G (c.d.fact 24 (f := .glo "_law_begin") rfl)
  have b__law_begin := FunD.bindsN (ps := ["_law_script"]) F__law_begin fun _ _ _ _ _ _ us hl => match us, hl with | [_], _ => rfl
  obtain ⟨fd__law_draw, F__law_draw⟩ := c.d.def_ 25 (d := dd__law_draw) rfl
  have g__law_draw := He.glo_ok X G (c.d.fact 25 (f := .glo "_law_draw") rfl)
  have b__law_draw := FunD.bindsN (ps := ["_law_state", "_law_many"]) F__law_draw fun _ _ _ _ _ _ us hl => match us, hl with | [_, _], _ => rfl
  obtain ⟨fd__law_of, F__law_of⟩ := c.d.def_ 26 (d := dd__law_of) rfl
  have g__law_of := He.glo_ok X G (c.d.fact 26 (f := .glo "_law_of") rfl)
  have b__law_of := FunD.bindsN (ps := ["_law_state", "_law_some"]) F__law_of fun _ _ _ _ _ _ us hl => match us, hl with | [_, _], _ => rfl
  obtain ⟨fd__law_mays, F__law_mays⟩ := c.d.def_ 27 (d := dd__law_mays) rfl
  have g__law_mays := He.glo_ok X G (c.d.fact 27 (f := .glo "_law_mays") rfl)
  have b__law_mays := FunD.bindsN (ps := ["_law_state"]) F__law_mays fun _ _ _ _ _ _ us hl => match us, hl with | [_], _ => rfl
  obtain ⟨fd__law_bound, F__law_bound⟩ := c.d.def_ 28 (d := dd__law_bound) rfl
  have g__law_bound := He.glo_ok X G (c.d.fact 28 (f := .glo "_law_bound") rfl)
  have b__law_bound := FunD.bindsN (ps := ["_law_state"]) F__law_bound fun _ _ _ _ _ _ us hl => match us, hl with | [_], _ => rfl
  obtain ⟨fd__law_any_rule, F__law_any_rule⟩ := c.d.def_ 29 (d := dd__law_any_rule) rfl
  have g__law_any_rule := He.glo_ok X G (c.d.fact 29 (f := .glo "_law_any_rule") rfl)
  have b__law_any_rule := FunD.bindsN (ps := ["_law_state"]) F__law_any_rule fun _ _ _ _ _ _ us hl => match us, hl with | [_], _ => rfl
  obtain ⟨fd__law_back_is_good, F__law_back_is_good⟩ := c.d.def_ 30 (d := dd__law_back_is_good) rfl
  have g__law_back_is_good := He.glo_ok X G (c.d.fact 30 (f := .glo "_law_back_is_good") rfl)
  have b__law_back_is_good := FunD.bindsN (ps := ["_law_rule", "_law_may"]) F__law_back_is_good fun _ _ _ _ _ _ us hl => match us, hl with | [_, _], _ => rfl
  obtain ⟨fd__law_keeps, F__law_keeps⟩ := c.d.def_ 31 (d := dd__law_keeps) rfl
  have g__law_keeps := He.glo_ok X G (c.d.fact 31 (f := .glo "_law_keeps") rfl)
  have b__law_keeps := FunD.bindsN (ps := ["_law_rule", "_law_promise", "_law_may", "_law_absent"]) F__law_keeps fun _ _ _ _ _ _ us hl => match us, hl with | [_, _, _, _], _ => rfl
  obtain ⟨fd__law_changes, F__law_changes⟩ := c.d.def_ 32 (d := dd__law_changes) rfl
  have g__law_changes := He.glo_ok X G (c.d.fact 32 (f := .glo "_law_changes") rfl)
  have b__law_changes := FunD.bindsN (ps := ["_law_one", "_law_other"]) F__law_changes fun _ _ _ _ _ _ us hl => match us, hl with | [_, _], _ => rfl
  obtain ⟨fd__law_bears_right, F__law_bears_right⟩ := c.d.def_ 33 (d := dd__law_bears_right) rfl
  have g__law_bears_right := He.glo_ok X G (c.d.fact 33 (f := .glo "_law_bears_right") rfl)
  have b__law_bears_right := FunD.bindsN (ps := ["_law_state"]) F__law_bears_right fun _ _ _ _ _ _ us hl => match us, hl with | [_], _ => rfl
  obtain ⟨fd_law, F_law⟩ := c.d.def_ 34 (d := dd_law) rfl
  have g_law := He.glo_ok X G (c.d.fact 34 (f := .glo "law") rfl)
  have b_law := FunD.bindsN (ps := ["_law_script"]) F_law fun _ _ _ _ _ _ us hl => match us, hl with | [_], _ => rfl
  let T : Txt K mg := {
    m_all := He.free_ok X G (c.d.fact 35 (f := .free "all") rfl)
    m_bool := He.free_ok X G (c.d.fact 36 (f := .free "bool") rfl)
    m_enumerate := He.free_ok X G (c.d.fact 37 (f := .free "enumerate") rfl)
    m_int := He.free_ok X G (c.d.fact 38 (f := .free "int") rfl)
    m_isinstance := He.free_ok X G (c.d.fact 39 (f := .free "isinstance") rfl)
    m_len := He.free_ok X G (c.d.fact 40 (f := .free "len") rfl)
    m_list := He.free_ok X G (c.d.fact 41 (f := .free "list") rfl)
    m_min := He.free_ok X G (c.d.fact 42 (f := .free "min") rfl)
    m_range := He.free_ok X G (c.d.fact 43 (f := .free "range") rfl)
    m_repr := He.free_ok X G (c.d.fact 44 (f := .free "repr") rfl)
    m_sorted := He.free_ok X G (c.d.fact 45 (f := .free "sorted") rfl)
    m_str := He.free_ok X G (c.d.fact 46 (f := .free "str") rfl)
    m_tuple := He.free_ok X G (c.d.fact 47 (f := .free "tuple") rfl)
    m_zip := He.free_ok X G (c.d.fact 48 (f := .free "zip") rfl)
    c_LINE := gloB_ok X G (allB_at c.e 0 rfl)
    c_ON := gloB_ok X G (allB_at c.e 1 rfl)
    c_ASKS := gloB_ok X G (allB_at c.e 2 rfl)
    c_OLD := gloB_ok X G (allB_at c.e 3 rfl)
    c_TELLS := gloB_ok X G (allB_at c.e 4 rfl)
    c_QUIET := gloB_ok X G (allB_at c.e 5 rfl)
    c_MOST_NAMES := gloB_ok X G (allB_at c.e 6 rfl)
    c_CHOICES := gloB_ok X G (allB_at c.e 7 rfl)
    c_DOOR_PROMISE := gloB_ok X G (allB_at c.e 8 rfl)
    c_ORDER_PROMISE := gloB_ok X G (allB_at c.e 9 rfl)
    c_PROMISES := gloB_ok X G (allB_at c.e 10 rfl)
    c_MAY_LET := gloB_ok X G (allB_at c.e 11 rfl)
    c_MAY_OUT := gloB_ok X G (allB_at c.e 12 rfl)
    c_MAYS := gloB_ok X G (allB_at c.e 13 rfl)
    c_MOST_ABSENT := gloB_ok X G (allB_at c.e 14 rfl)
    fd_is_integer := fd_is_integer
    f_is_integer := ⟨F_is_integer, g_is_integer, b_is_integer⟩
    fd_is_between := fd_is_between
    f_is_between := ⟨F_is_between, g_is_between, b_is_between⟩
    fd_is_one_of := fd_is_one_of
    f_is_one_of := ⟨F_is_one_of, g_is_one_of, b_is_one_of⟩
    fd_need_rule := fd_need_rule
    f_need_rule := ⟨F_need_rule, g_need_rule, b_need_rule⟩
    fd_all_rules := fd_all_rules
    f_all_rules := ⟨F_all_rules, g_all_rules, b_all_rules⟩
    fd_need_promise := fd_need_promise
    f_need_promise := ⟨F_need_promise, g_need_promise, b_need_promise⟩
    fd_need_promises := fd_need_promises
    f_need_promises := ⟨F_need_promises, g_need_promises, b_need_promises⟩
    fd_need_may := fd_need_may
    f_need_may := ⟨F_need_may, g_need_may, b_need_may⟩
    fd_need_absent := fd_need_absent
    f_need_absent := ⟨F_need_absent, g_need_absent, b_need_absent⟩
    fd_is_at_most := fd_is_at_most
    f_is_at_most := ⟨F_is_at_most, g_is_at_most, b_is_at_most⟩
    fd_do_renew := fd_do_renew
    f_do_renew := ⟨F_do_renew, g_do_renew, b_do_renew⟩
    fd_keeps_order := fd_keeps_order
    f_keeps_order := ⟨F_keeps_order, g_keeps_order, b_keeps_order⟩
    fd_keeps_door := fd_keeps_door
    f_keeps_door := ⟨F_keeps_door, g_keeps_door, b_keeps_door⟩
    fd_keeps_by := fd_keeps_by
    f_keeps_by := ⟨F_keeps_by, g_keeps_by, b_keeps_by⟩
    fd_does_keep := fd_does_keep
    f_does_keep := ⟨F_does_keep, g_does_keep, b_does_keep⟩
    fd_keeps_all := fd_keeps_all
    f_keeps_all := ⟨F_keeps_all, g_keeps_all, b_keeps_all⟩
    fd_bears_by := fd_bears_by
    f_bears_by := ⟨F_bears_by, g_bears_by, b_bears_by⟩
    fd_bears := fd_bears
    f_bears := ⟨F_bears, g_bears, b_bears⟩
    fd_keeping_in := fd_keeping_in
    f_keeping_in := ⟨F_keeping_in, g_keeping_in, b_keeping_in⟩
    fd_changes_in := fd_changes_in
    f_changes_in := ⟨F_changes_in, g_changes_in, b_changes_in⟩
    fd_changes_between := fd_changes_between
    f_changes_between := ⟨F_changes_between, g_changes_between, b_changes_between⟩
    fd_nearest_rules := fd_nearest_rules
    f_nearest_rules := ⟨F_nearest_rules, g_nearest_rules, b_nearest_rules⟩
    fd_fewest_names := fd_fewest_names
    f_fewest_names := ⟨F_fewest_names, g_fewest_names, b_fewest_names⟩
    fd__law_mixed := fd__law_mixed
    f__law_mixed := ⟨F__law_mixed, g__law_mixed, b__law_mixed⟩
    fd__law_begin := fd__law_begin
    f__law_begin := ⟨F__law_begin, g__law_begin, b__law_begin⟩
    fd__law_draw := fd__law_draw
    f__law_draw := ⟨F__law_draw, g__law_draw, b__law_draw⟩
    fd__law_of := fd__law_of
    f__law_of := ⟨F__law_of, g__law_of, b__law_of⟩
    fd__law_mays := fd__law_mays
    f__law_mays := ⟨F__law_mays, g__law_mays, b__law_mays⟩
    fd__law_bound := fd__law_bound
    f__law_bound := ⟨F__law_bound, g__law_bound, b__law_bound⟩
    fd__law_any_rule := fd__law_any_rule
    f__law_any_rule := ⟨F__law_any_rule, g__law_any_rule, b__law_any_rule⟩
    fd__law_back_is_good := fd__law_back_is_good
    f__law_back_is_good := ⟨F__law_back_is_good, g__law_back_is_good, b__law_back_is_good⟩
    fd__law_keeps := fd__law_keeps
    f__law_keeps := ⟨F__law_keeps, g__law_keeps, b__law_keeps⟩
    fd__law_changes := fd__law_changes
    f__law_changes := ⟨F__law_changes, g__law_changes, b__law_changes⟩
    fd__law_bears_right := fd__law_bears_right
    f__law_bears_right := ⟨F__law_bears_right, g__law_bears_right, b__law_bears_right⟩
    fd_law := fd_law
    f_law := ⟨F_law, g_law, b_law⟩ }
  have e := hfa.symm.trans g_law
  cases e
  have b := FunD.bindsA (ps := ["_law_script"]) F_law fun _ _ _ _ _ _ us hl => match us, hl with | [_], _ => rfl
  exact ⟨fd_law, fun s v => b s [v] rfl, fun base _ _ => ok_law T⟩
end L

namespace L
open PySem PySem.Spec PyProof.Rows L2 Dn Rm
variable {m : Mem}
local macro_rules | `(tactic| wp_walk using $ts,*) => `(tactic| simp only [runD, start0, start1, start2, start3, start4, start5, sSeq, sSet, sRet, sExpr, sIf, sNil, sCont, sAsg, sSub, sFor, sPar, sAug, sPut, sPutA, eVar, eC, eBin, eFn, eCall, eAnd, eOr, eNot, eIf, eTup, eLst, eLstM, eIsi, eFz, eNw, aComp, iSeq, iEnumW, eFld, eMeth, eMake, eSl, oNone, oSome, eRev, eIdx, eChain, eApp, eFrz, dTest, dAnd, dOr, dNot, aNil, aCons, aStar, Dn.R.bind, R.thenS, List.length_cons, List.length_nil, List.length_map, List.replicate, List.set, List.getElem?_cons_zero, List.getElem?_cons_succ, List.cons_append, List.nil_append, Nat.reduceAdd, Nat.reduceSub, Nat.zero_add, if_true, if_false, Bool.false_eq_true, Bool.not_true, Bool.not_false, decide_true, decide_false, addW_i, subW_i, addI_i, intW_i, gtW_i, geW_i, ltW_i, leW_i, tupleW_l, tupleW_t, lenW_t, lenW_l, eqM_int, neM_int, inM_ints, inM_intsL, ixM_t, ixM_l, lstOf, seqOf, trkOf, wipeR, Nat.reduceLeDiff, rule0, rule1, rule2, rule3, rule4, rule5, rule6, gN, gT, gsCons, gsNil, Option.bind, GoesD, Bool.and_true, Bool.true_and, Bool.and_false, Bool.false_and, Bool.or_true, Bool.true_or, Bool.or_false, Bool.false_or, $[$ts:term],*])
theorem cLINE : w_LINE = .str "line" := rfl
theorem cON : w_ON = .str "on" := rfl
theorem pre_len {α : Type} {l pre post : List α} {x : α} {n : Nat} (h : l = pre ++ x :: post) (hl : l.length < n) : pre.length < n := by
  have := congrArg List.length h
  simp at this
  omega
theorem app_row (pre : List (Rm.Row × Nat)) (f : Rm.Row × Nat → Rm.Row) (x : Rm.Row × Nat) (w : W) (h : w = (f x).w) : [Cell.lst ((pre.map f).map Row.w ++ [w])] = [Cell.lst (((pre ++ [x]).map f).map Row.w)] := by
  rw [h]
  simp
theorem is_integer_int (p : Int) : r_is_integer [.int p] m = .ok (.bl true) m := by
  unfold r_is_integer
  exact pw_g (m1 := []) rfl (by kernel_rfl) rfl
theorem is_between_ok (a lo hi : Int) : r_is_between [.int a, .int lo, .int hi] m = .ok (.bl (decide (lo ≤ a) && decide (a ≤ hi))) m := by
  unfold r_is_between
  refine pw_g (m1 := []) rfl ?_ rfl
  unfold d_is_between s_is_between_0
  wp_walk using is_integer_int
  by_cases h : lo ≤ a
  · wp_walk using h
  · wp_walk using h
theorem one_of_ask (b : Bool) : r_is_one_of [.tup [.str "line", .str "seen"], .str (askS b)] m = .ok (.bl true) m := by cases b <;> kernel_rfl
theorem one_of_fill (b : Bool) : r_is_one_of [.tup [.str "none", .str "on"], .str (fillS b)] m = .ok (.bl true) m := by cases b <;> kernel_rfl
theorem one_of_back (b : Bk) : r_is_one_of [.tup [.str "asks", .str "old", .str "tells"], .str b.s] m = .ok (.bl true) m := by cases b <;> kernel_rfl
theorem one_of_let (b : Bool) : r_is_one_of [.tup [.str "quiet", .str "told"], .str (letS b)] m = .ok (.bl true) m := by cases b <;> kernel_rfl
theorem one_of_lost (b : Bool) : r_is_one_of [.tup [.str "asks", .str "claims"], .str (lostS b)] m = .ok (.bl true) m := by cases b <;> kernel_rfl
theorem need_rule_ok (r : Rule) (h : r.Ok) : r_need_rule [r.w] m = .ok r.w m := by
  unfold r_need_rule
  refine pw_g (m1 := []) (by rw [gWs_cons, g_rule]; rfl) ?_ (g_rule r)
  unfold d_need_rule s_need_rule_0 s_need_rule_1 s_need_rule_2 s_need_rule_3 s_need_rule_4
  have i0 : tyW [] r.w = some .tup := rfl
  have i1 : lenW [] [r.w] = some (.int 7) := rfl
  have i2 : lenW [] [w_CHOICES] = some (.int 5) := rfl
  have i3 : Ty.sub .tup .tup = true := rfl
  have i4 : w_MOST_NAMES = .int 3 := rfl
  have k1 := h.k1
  have k3 := h.k3
  have t0 := h.t0
  have tk := h.tk
  have i5 : ((7 : Int) == 2 + 5) = true := rfl
  wp_walk using i0, i1, i2, i3, i4, i5, is_between_ok, k1, k3, t0, tk
  simp only [w_CHOICES]
  wp_walk using Dn.numbered, loop
  unfold b_need_rule_0
  have e2 : ∀ m, ixM m r.w (.int (2 + ((0 : Nat) : Int))) = some (.str (askS r.line)) := fun _ => rfl
  have e3 : ∀ m, ixM m r.w (.int (2 + ((1 : Nat) : Int))) = some (.str (fillS r.on)) := fun _ => rfl
  have e4 : ∀ m, ixM m r.w (.int (2 + ((2 : Nat) : Int))) = some (.str r.bk.s) := fun _ => rfl
  have e5 : ∀ m, ixM m r.w (.int (2 + ((3 : Nat) : Int))) = some (.str (letS r.told)) := fun _ => rfl
  have e6 : ∀ m, ixM m r.w (.int (2 + ((4 : Nat) : Int))) = some (.str (lostS r.asks)) := fun _ => rfl
  wp_walk using e2, e3, e4, e5, e6, one_of_ask, one_of_fill, one_of_back, one_of_let, one_of_lost
/-! ### somebody is done -/
theorem struck_no {p : Int} {x : Rm.Row} (h : ¬ (x.h = .here ∧ x.ns.contains p = true)) : struck p x = x := if_neg h
def doneL (p : Int) (pre : Line) : Line := (pre.filter fun x => !(x.p == p)).map (struck p)
theorem hits_app (p : Int) (l : Line) (x : Rm.Row) : hits (l ++ [x]) p = hits l p ++ (if (decide (x.h = .here) && x.ns.contains p) = true then [(l.length : Int)] else []) := by
  unfold hits
  rw [List.zipIdx_append, List.filter_append, List.map_append]
  congr 1
  simp only [List.zipIdx_cons, List.zipIdx_nil, Nat.zero_add, List.filter_cons, List.filter_nil]
  split <;> simp
theorem strike_ok (p : Int) (ns : List Int) (a0 a1 a3 a4 a5 a6 a7 a8 a9 : Option W) : compL (gN 9) (dTest (eBin neM (eVar 9) (eVar 2))) (eVar 9) [9] (ns.map .int) [a0, a1, some (.int p), a3, a4, a5, a6, a7, a8, a9] m = .ok ((ns.filter fun n => !(n == p)).map .int) m :=
  compL_map .int (fun n => !(n == p)) .int (fun n => [a0, a1, some (.int p), a3, a4, a5, a6, a7, a8, some (.int n)]) ns (fun _ _ => rfl) (fun _ _ => rfl) fun _ _ _ => rfl
end L

/-! R6: the program's promises = the plain ones. -/
namespace L
open PySem PySem.Spec PyProof.Rows L2 Dn Rm
local macro_rules | `(tactic| wp_walk using $ts,*) => `(tactic| simp only [runD, start0, start1, start2, start3, start4, start5, sSeq, sSet, sRet, sExpr, sIf, sNil, sCont, sRetN, sPass, sBrk, sBad, sAsg, sSub, sFor, sPar, sAug, sPut, sPutA, eVar, eC, eBin, eFn, eCall, eAnd, eOr, eNot, eIf, eTup, eLst, eLstM, eIsi, eFz, eNw, aComp, iSeq, iEnumW, eFld, eMeth, eMake, eSl, oNone, oSome, eRev, eIdx, eChain, eApp, eFrz, dTest, dAnd, dOr, dNot, aNil, aCons, aStar, Dn.R.bind, R.thenS, List.length_cons, List.length_nil, List.length_map, List.replicate, List.set, List.getElem?_cons_zero, List.getElem?_cons_succ, List.cons_append, List.nil_append, Nat.reduceAdd, Nat.reduceSub, Nat.zero_add, if_true, if_false, Bool.false_eq_true, Bool.not_true, Bool.not_false, decide_true, decide_false, addW_i, subW_i, addI_i, intW_i, gtW_i, geW_i, ltW_i, leW_i, tupleW_l, tupleW_t, lenW_t, lenW_l, eqM_int, neM_int, inM_ints, inM_intsL, ixM_t, ixM_l, lstOf, seqOf, trkOf, wipeR, Nat.reduceLeDiff, rule0, rule1, rule2, rule3, rule4, rule5, rule6, gN, gT, gsCons, gsNil, Option.bind, GoesD, four_lt, and_self, Bool.and_true, Bool.true_and, Bool.and_false, Bool.false_and, Bool.or_true, Bool.true_or, Bool.or_false, Bool.false_or, $[$ts:term],*])
section
variable {m : Mem} {r : Rule}
theorem at_most_ok (a : Option Int) (n : Int) : r_is_at_most [absW a, .int n] m = .ok (.bl (atMost a n)) m := by
  unfold r_is_at_most
  refine pw_g (m1 := []) (by simp only [gWs_cons, g_abs, gW_int, gWs_nil, Bool.and_self]) ?_ rfl
  unfold d_is_at_most s_is_at_most_0
  cases a with
  | none => rfl
  | some i => rfl
theorem do_renew_ok (y : May) : r_do_renew [r.w, y.w] m = .ok (.bl (renews r y)) m := by
  unfold r_do_renew
  refine pw_g (m1 := []) (by simp only [gWs_cons, g_rule, g_may, gWs_nil, Bool.and_self]) ?_ rfl
  unfold d_do_renew s_do_renew_0 runD
  rw [start2, sRet_ok (eOr_ok (eBin_ok rfl rfl (may_out y)) fun _ => eOr_ok (eBin_ok rfl rfl (eq_bk r.bk .tells)) fun _ => eAnd_ok (eBin_ok rfl rfl (eq_bk r.bk .asks)) fun _ => eBin_ok rfl rfl (eq_line r.line))]
  rfl
abbrev koR (r : Rule) (y : May) (a : Option Int) : Rho := [some r.w, some y.w, some (absW a), some (.int r.k), some (.int r.t), some (.str (askS r.line)), some (.str (fillS r.on)), some (.str r.bk.s), some (.str (letS r.told)), some (.str (lostS r.asks))]
theorem int_eq (i j : Int) : eqM m (.int i) (.int j) = some (.bl (decide (i = j))) := by
  rw [eqM_int]
  congr 2
theorem keeps_order_ok (y : May) (a : Option Int) : r_keeps_order [r.w, y.w, absW a] m = .ok (.bl (keepsOrder r y a)) m := by
  unfold r_keeps_order
  refine pw_g (m1 := []) (by simp only [gWs_cons, g_rule, g_may, g_abs, gWs_nil, Bool.and_self]) ?_ rfl
  unfold d_keeps_order runD
  rw [start3]
  have s0 : s_keeps_order_0 [some r.w, some y.w, some (absW a), none, none, none, none, none, none, none] [] = .next (koR r y a) [] := rfl
  have dr : ∀ mm, eCall 2 r_do_renew (aCons (eVar 0) (aCons (eVar 1) aNil)) (koR r y a) mm = .ok (.bl (renews r y)) mm := fun mm => by
    have := do_renew_ok (m := mm) (r := r) y
    unfold koR
    wp_walk using this
  have am : ∀ mm, eCall 2 r_is_at_most (aCons (eVar 2) (aCons (eBin subW (eVar 3) (eC (.int 1))) aNil)) (koR r y a) mm = .ok (.bl (atMost a (r.k - 1))) mm := fun mm => by
    have := at_most_ok (m := mm) a (r.k - 1)
    unfold koR
    wp_walk using this
  show (match (sSeq s_keeps_order_0 _) [some r.w, some y.w, some (absW a), none, none, none, none, none, none, none] [] with | .ret w m1 => _ | .next _ m1 => _ | .exc x _ m1 => _ | _ => _) = _
  rw [seqN s0]
  unfold s_keeps_order_1 s_keeps_order_2 s_keeps_order_3 s_keeps_order_4 keepsOrder
  have t1 : dTest (eBin eqM (eVar 2) (eC (.int 0))) (koR r y a) [] = .ok (decide (a = some 0)) [] := dTest_ok (eBin_ok rfl rfl (abs_zero a))
  by_cases h1 : a = some 0
  · rw [if_pos h1, seqR (x := .bl (r.asks || r.on)) (m' := [])]
    rw [sIf_ok t1, decide_eq_true h1, if_pos rfl]
    exact sRet_ok (eOr_ok (eBin_ok rfl rfl (eq_asks r.asks)) fun _ => eBin_ok rfl rfl (eq_on r.on))
  · rw [if_neg h1, seqN (r' := koR r y a) (m' := []) (by rw [sIf_ok t1, decide_eq_false h1]; rfl)]
    have t2 : dTest (eBin eqM (eVar 4) (eC (.int 0))) (koR r y a) [] = .ok (decide (r.t = 0)) [] := dTest_ok (eBin_ok rfl rfl (int_eq r.t 0))
    by_cases h2 : r.t = 0
    · rw [if_pos h2, seqR (x := .bl (r.asks || (r.on && renews r y))) (m' := [])]
      rw [sIf_ok t2, decide_eq_true h2, if_pos rfl]
      exact sRet_ok (eOr_ok (eBin_ok rfl rfl (eq_asks r.asks)) fun _ => eAnd_ok (eBin_ok rfl rfl (eq_on r.on)) fun _ => dr [])
    · rw [if_neg h2, seqN (r' := koR r y a) (m' := []) (by rw [sIf_ok t2, decide_eq_false h2]; rfl)]
      have t3 : dOr (dTest (eBin neM (eVar 6) (eC w_ON))) (dOr (dAnd (dTest (eBin eqM (eVar 8) (eC w_QUIET))) (dTest (eBin (inM false) (eC w_MAY_LET) (eVar 1)))) (dNot (dTest (eCall 2 r_do_renew (aCons (eVar 0) (aCons (eVar 1) aNil)))))) (koR r y a) [] = .ok (!r.on || (!r.told && y.lt || !renews r y)) [] :=
        dOr_ok (dTest_ok (eBin_ok rfl rfl (ne_on r.on))) fun _ => dOr_ok (dAnd_ok (dTest_ok (eBin_ok rfl rfl (eq_quiet r.told))) fun _ => dTest_ok (eBin_ok rfl rfl (may_let y))) fun _ => dNot_ok (dTest_ok (dr []))
      cases h3 : (!r.on || (!r.told && y.lt || !renews r y)) with
      | true =>
        rw [if_pos rfl, seqR (x := .bl false) (m' := [])]
        rw [sIf_ok t3, h3]
        rfl
      | false =>
        rw [if_neg (by decide), seqN (r' := koR r y a) (m' := []) (by rw [sIf_ok t3, h3]; rfl)]
        rw [sRet_ok (eOr_ok (eBin_ok rfl rfl rfl) fun _ => am [])]
theorem keeps_door_ok (y : May) (a : Option Int) : r_keeps_door [r.w, y.w, absW a] m = .ok (.bl (keepsDoor r y a)) m := by
  unfold r_keeps_door
  refine pw_g (m1 := []) (by simp only [gWs_cons, g_rule, g_may, g_abs, gWs_nil, Bool.and_self]) ?_ rfl
  unfold d_keeps_door runD
  rw [start3]
  have am : ∀ mm, eCall 2 r_is_at_most (aCons (eVar 2) (aCons (eBin ixM (eVar 0) (eC (.int 1))) aNil)) [some r.w, some y.w, some (absW a)] mm = .ok (.bl (atMost a r.t)) mm := fun mm => by
    have := at_most_ok (m := mm) a r.t
    wp_walk using this
  unfold s_keeps_door_0 s_keeps_door_1 s_keeps_door_2 keepsDoor
  simp only [List.replicate]
  have t1 : dTest (eBin eqM (eBin ixM (eVar 0) (eC (.int 1))) (eBin ixM (eVar 0) (eC (.int 0)))) [some r.w, some y.w, some (absW a)] [] = .ok (decide (r.t = r.k)) [] := dTest_ok (eBin_ok (eBin_ok rfl rfl (rule1 r)) (eBin_ok rfl rfl (rule0 r)) (int_eq _ _))
  by_cases h1 : r.t = r.k
  · rw [if_pos h1, seqR (x := .bl true) (m' := [])]
    rw [sIf_ok t1, decide_eq_true h1]
    rfl
  · rw [if_neg h1, seqN (r' := [some r.w, some y.w, some (absW a)]) (m' := []) (by rw [sIf_ok t1, decide_eq_false h1]; rfl)]
    have t2 := dNot_ok (dTest_ok (am []))
    cases h2 : atMost a r.t with
    | false =>
      rw [if_pos rfl, seqR (x := .bl false) (m' := [])]
      rw [sIf_ok t2, h2]
      rfl
    | true =>
      rw [if_neg (by decide), seqN (r' := [some r.w, some y.w, some (absW a)]) (m' := []) (by rw [sIf_ok t2, h2]; rfl)]
      rw [sRet_ok (eOr_ok (eBin_ok rfl rfl (abs_zero a)) fun _ => eOr_ok (eBin_ok (eBin_ok rfl rfl (rule4 r)) rfl (ne_bk r.bk .old)) fun _ => eBin_ok rfl rfl (may_out y))]
theorem keeps_by_ok (p : Pr) (y : May) (a : Option Int) : r_keeps_by [r.w, .str p.s, y.w, absW a] m = .ok (.bl (keepB r p y a)) m := by
  unfold r_keeps_by
  refine pw_g (m1 := []) (by cases p <;> simp only [gWs_cons, g_rule, g_may, g_abs, gW_str, gWs_nil, Bool.and_self]) ?_ rfl
  have ko : ∀ mm, eCall 3 r_keeps_order (aCons (eVar 0) (aCons (eVar 2) (aCons (eVar 3) aNil))) [some r.w, some (.str p.s), some y.w, some (absW a)] mm = .ok (.bl (keepsOrder r y a)) mm := fun mm => by
    have := keeps_order_ok (m := mm) (r := r) y a
    wp_walk using this
  have kd : ∀ mm, eCall 3 r_keeps_door (aCons (eVar 0) (aCons (eVar 2) (aCons (eVar 3) aNil))) [some r.w, some (.str p.s), some y.w, some (absW a)] mm = .ok (.bl (keepsDoor r y a)) mm := fun mm => by
    have := keeps_door_ok (m := mm) (r := r) y a
    wp_walk using this
  unfold d_keeps_by runD
  rw [start4]
  simp only [List.replicate]
  unfold s_keeps_by_0 s_keeps_by_1 s_keeps_by_2
  have t1 : dTest (eBin eqM (eVar 1) (eC w_ORDER_PROMISE)) [some r.w, some (.str p.s), some y.w, some (absW a)] [] = .ok (decide (p = .order)) [] := dTest_ok (eBin_ok rfl rfl (eq_pr p .order))
  have t2 : dTest (eBin eqM (eVar 1) (eC w_DOOR_PROMISE)) [some r.w, some (.str p.s), some y.w, some (absW a)] [] = .ok (decide (p = .door)) [] := dTest_ok (eBin_ok rfl rfl (eq_pr p .door))
  cases p with
  | order =>
    rw [seqR (x := .bl (keepsOrder r y a)) (m' := [])]
    · rfl
    · rw [sIf_ok t1]
      exact sRet_ok (ko [])
  | door =>
    rw [seqN (r' := [some r.w, some (.str Pr.door.s), some y.w, some (absW a)]) (m' := []) (by rw [sIf_ok t1]; rfl), seqR (x := .bl (keepsDoor r y a)) (m' := [])]
    · rfl
    · rw [sIf_ok t2]
      exact sRet_ok (kd [])
  | place =>
    rw [seqN (r' := [some r.w, some (.str Pr.place.s), some y.w, some (absW a)]) (m' := []) (by rw [sIf_ok t1]; rfl), seqN (r' := [some r.w, some (.str Pr.place.s), some y.w, some (absW a)]) (m' := []) (by rw [sIf_ok t2]; rfl)]
    rw [sRet_ok (eOr_ok (eBin_ok (eBin_ok rfl rfl (rule4 r)) rfl (ne_bk r.bk .asks)) fun _ => eOr_ok (eBin_ok rfl rfl (abs_zero a)) fun _ => eBin_ok rfl rfl (may_out y))]
    rfl
end
end L

/-! R7: does_keep, all rules, rules_keeping. -/
namespace L
open PySem PySem.Spec PyProof.Rows L2 Dn Rm
local macro_rules | `(tactic| wp_walk using $ts,*) => `(tactic| simp only [runD, start0, start1, start2, start3, start4, start5, sSeq, sSet, sRet, sExpr, sIf, sNil, sCont, sRetN, sPass, sBrk, sBad, sAsg, sSub, sFor, sPar, sAug, sPut, sPutA, eVar, eC, eBin, eFn, eCall, eAnd, eOr, eNot, eIf, eTup, eLst, eLstM, eIsi, eFz, eNw, aComp, iSeq, iEnumW, eFld, eMeth, eMake, eSl, oNone, oSome, eRev, eIdx, eChain, eApp, eFrz, dTest, dAnd, dOr, dNot, aNil, aCons, aStar, Dn.R.bind, R.thenS, List.length_cons, List.length_nil, List.length_map, List.replicate, List.set, List.getElem?_cons_zero, List.getElem?_cons_succ, List.cons_append, List.nil_append, Nat.reduceAdd, Nat.reduceSub, Nat.zero_add, if_true, if_false, Bool.false_eq_true, Bool.not_true, Bool.not_false, decide_true, decide_false, addW_i, subW_i, addI_i, intW_i, gtW_i, geW_i, ltW_i, leW_i, tupleW_l, tupleW_t, lenW_t, lenW_l, eqM_int, neM_int, inM_ints, inM_intsL, ixM_t, ixM_l, lstOf, seqOf, trkOf, wipeR, Nat.reduceLeDiff, rule0, rule1, rule2, rule3, rule4, rule5, rule6, gN, gT, gsCons, gsNil, Option.bind, GoesD, four_lt, and_self, Bool.and_true, Bool.true_and, Bool.and_false, Bool.false_and, Bool.or_true, Bool.true_or, Bool.or_false, Bool.false_or, $[$ts:term],*])
section
variable {m : Mem} {r : Rule}
theorem all_rules_ok : r_all_rules [] m = .ok (.tup (allR.map Rule.w)) m := by kernel_rfl
theorem need_promise_ok (p : Pr) : r_need_promise [.str p.s] m = .ok (.str p.s) m := by cases p <;> kernel_rfl
theorem need_may_ok (y : May) : r_need_may [y.w] m = .ok y.w m := by
  obtain ⟨a, b⟩ := y
  cases a <;> cases b <;> kernel_rfl
def absOk (a : Option Int) : Prop := ∀ i, a = some i → 0 ≤ i ∧ i ≤ 99
theorem need_absent_ok (a : Option Int) (h : absOk a) : r_need_absent [absW a] m = .ok (absW a) m := by
  cases a with
  | none => kernel_rfl
  | some i =>
    obtain ⟨h1, h2⟩ := h i rfl
    unfold r_need_absent
    refine pw_g (m1 := []) rfl ?_ rfl
    unfold d_need_absent s_need_absent_0 s_need_absent_1
    have e : ∀ mm, notNonW mm (absW (some i)) .non = some (.bl true) := fun _ => rfl
    have c : w_MOST_ABSENT = .int 99 := rfl
    have ib := is_between_ok (m := []) i 0 99
    rw [decide_eq_true h1, decide_eq_true h2] at ib
    have ib' : r_is_between [absW (some i), .int 0, .int 99] [] = .ok (.bl true) [] := ib
    wp_walk using e, c, ib'
theorem does_keep_ok (hr : r.Ok) (p : Pr) (y : May) (a : Option Int) (h : absOk a) : r_does_keep [r.w, .str p.s, y.w, absW a] m = .ok (.bl (keepB r p y a)) m := by
  unfold r_does_keep
  refine pw_g (m1 := []) (by simp only [gWs_cons, g_rule, g_may, g_abs, gW_str, gWs_nil, Bool.and_self]) ?_ rfl
  unfold d_does_keep s_does_keep_0 s_does_keep_1 s_does_keep_2
  wp_walk using need_rule_ok r hr, need_promise_ok p, need_may_ok y, need_absent_ok a h, keeps_by_ok p y a
def psW (ps : List Pr) : W := .tup (ps.map fun p => .str p.s)
theorem g_ps (ps : List Pr) : gW (psW ps) = true := by
  unfold psW
  rw [gW_tup]
  exact gWs_map (fun p => rfl) ps
def keepAll (ps : List Pr) (y : May) (a : Option Int) (r : Rule) : Bool := ps.all fun p => keepB r p y a
theorem keeps_all_ok (ps : List Pr) (y : May) (a : Option Int) : r_keeps_all [r.w, psW ps, y.w, absW a] m = .ok (.bl (keepAll ps y a r)) m := by
  unfold r_keeps_all
  refine pw_g (m1 := []) (by simp only [gWs_cons, g_rule, g_ps, g_may, g_abs, gWs_nil, Bool.and_self]) ?_ rfl
  unfold d_keeps_all s_keeps_all_0
  have c1 : compL (gN 4) dYes (eCall 4 r_keeps_by (aCons (eVar 0) (aCons (eVar 4) (aCons (eVar 2) (aCons (eVar 3) aNil))))) [4] (ps.map fun p => .str p.s) [some r.w, some (psW ps), some y.w, some (absW a), none] [] = .ok (ps.map fun p => .bl (keepB r p y a)) [] :=
    compL_all (fun p : Pr => W.str p.s) (fun p => .bl (keepB r p y a)) (fun p => [some r.w, some (psW ps), some y.w, some (absW a), some (.str p.s)]) ps (fun _ _ => rfl) fun p _ => (by
      have := keeps_by_ok (m := []) (r := r) p y a
      wp_walk using this)
  unfold psW at c1 ⊢
  wp_walk using c1, allW_map
  rfl
def goodPs (ps : List Pr) : Prop := ps = [.door] ∨ ps = [.order] ∨ ps = [.place] ∨ ps = [.door, .order] ∨ ps = [.door, .place] ∨ ps = [.order, .place] ∨ ps = [.door, .order, .place]
theorem need_promises_ok (ps : List Pr) (h : goodPs ps) : r_need_promises [psW ps] m = .ok (psW ps) m := by
  rcases h with rfl | rfl | rfl | rfl | rfl | rfl | rfl <;> kernel_rfl
theorem g_rulesT (l : List Rule) : gW (.tup (l.map Rule.w)) = true := by rw [gW_tup]; exact gWs_map g_rule l
theorem g_rulesL (l : List Rule) : gW (.lst (l.map Rule.w)) = true := by rw [gW_lst]; exact gWs_map g_rule l
theorem keeping_in_ok (ps : List Pr) (h : goodPs ps) (y : May) (a : Option Int) (ha : absOk a) : r_keeping_in [psW ps, y.w, absW a] m = .ok (.lst ((allR.filter (keepAll ps y a)).map Rule.w)) m := by
  unfold r_keeping_in
  refine pw_g (m1 := []) (by simp only [gWs_cons, g_ps, g_may, g_abs, gWs_nil, Bool.and_self]) ?_ (g_rulesL _)
  unfold d_keeping_in s_keeping_in_0 s_keeping_in_1 s_keeping_in_2 s_keeping_in_3
  have c1 : compL (gN 3) (dTest (eCall 4 r_keeps_all (aCons (eVar 3) (aCons (eVar 0) (aCons (eVar 1) (aCons (eVar 2) aNil)))))) (eVar 3) [3] (allR.map Rule.w) [some (psW ps), some y.w, some (absW a), none] [] = .ok ((allR.filter (keepAll ps y a)).map Rule.w) [] :=
    compL_map Rule.w (keepAll ps y a) Rule.w (fun r => [some (psW ps), some y.w, some (absW a), some r.w]) allR (fun _ _ => rfl) (fun r _ => by
      have := keeps_all_ok (m := []) (r := r) ps y a
      wp_walk using this) fun _ _ _ => rfl
  wp_walk using need_promises_ok ps h, need_may_ok y, need_absent_ok a ha, all_rules_ok, c1
end
end L

/-! LK1: the law's own words for what rules keep. -/
namespace L
open PySem PySem.Spec PyProof.Rows L2 Dn Rm
local macro_rules | `(tactic| wp_walk using $ts,*) => `(tactic| simp only [runD, start0, start1, start2, start3, start4, start5, sSeq, sSet, sRet, sExpr, sIf, sNil, sCont, sRetN, sPass, sBrk, sBad, sAsg, sSub, sFor, sPar, sAug, sPut, sPutA, eVar, eC, eBin, eFn, eCall, eAnd, eOr, eNot, eIf, eTup, eLst, eLstM, eIsi, eFz, eNw, aComp, iSeq, iEnumW, eFld, eMeth, eMake, eSl, oNone, oSome, eRev, eIdx, eChain, eApp, eFrz, dTest, dAnd, dOr, dNot, aNil, aCons, aStar, Dn.R.bind, R.thenS, List.length_cons, List.length_nil, List.length_map, List.replicate, List.set, List.getElem?_cons_zero, List.getElem?_cons_succ, List.cons_append, List.nil_append, Nat.reduceAdd, Nat.reduceSub, Nat.zero_add, if_true, if_false, Bool.false_eq_true, Bool.not_true, Bool.not_false, decide_true, decide_false, addW_i, subW_i, addI_i, intW_i, gtW_i, geW_i, ltW_i, leW_i, tupleW_l, tupleW_t, lenW_t, lenW_l, eqM_int, neM_int, inM_ints, inM_intsL, ixM_t, ixM_l, lstOf, seqOf, trkOf, wipeR, Nat.reduceLeDiff, rule0, rule1, rule2, rule3, rule4, rule5, rule6, gN, gT, gsCons, gsNil, Option.bind, GoesD, four_lt, and_self, Bool.and_true, Bool.true_and, Bool.and_false, Bool.false_and, Bool.or_true, Bool.true_or, Bool.or_false, Bool.false_or, $[$ts:term],*])
section
variable {m : Mem} {r : Rule}
theorem lgood_ok (y : May) : r__law_back_is_good [r.w, y.w] m = .ok (.bl (renews r y)) m := by
  unfold r__law_back_is_good
  refine pw_g (m1 := []) (by simp only [gWs_cons, g_rule, g_may, gWs_nil, Bool.and_self]) ?_ rfl
  unfold d__law_back_is_good s__law_back_is_good_0 runD
  rw [start2, sRet_ok (eOr_ok (eBin_ok rfl rfl (may_out y)) fun _ => eOr_ok (eBin_ok rfl rfl (eq_bk r.bk .tells)) fun _ => eAnd_ok (eBin_ok rfl rfl (eq_bk r.bk .asks)) fun _ => eBin_ok rfl rfl (eq_line r.line))]
  rfl
abbrev lkR (r : Rule) (p : Pr) (y : May) (a : Option Int) (x : Option W) : Rho := [some r.w, some (.str p.s), some y.w, some (absW a), some (.int r.k), some (.int r.t), some (.str (askS r.line)), some (.str (fillS r.on)), some (.str r.bk.s), some (.str (letS r.told)), some (.str (lostS r.asks)), x]
theorem le_abs (a : Option Int) (n : Int) : a.isSome = true → leW m (absW a) (.int n) = some (.bl (atMost a n)) := fun h => by
  cases a with
  | none => cases h
  | some i => rfl
theorem lt_abs (a : Option Int) (n : Int) : a.isSome = true → ltW m (absW a) (.int n) = some (.bl (atMost a (n - 1))) := fun h => by
  cases a with
  | none => cases h
  | some i =>
    show some (W.bl (decide (i < n))) = some (.bl (decide (i ≤ n - 1)))
    congr 2
    rw [Bool.eq_iff_iff, decide_eq_true_eq, decide_eq_true_eq]
    omega
theorem some_most (a : Option Int) (n : Int) : (a.isSome && atMost a n) = atMost a n := by cases a <;> rfl
theorem lkeeps_ok (p : Pr) (y : May) (a : Option Int) : r__law_keeps [r.w, .str p.s, y.w, absW a] m = .ok (.bl (keepB r p y a)) m := by
  unfold r__law_keeps
  refine pw_g (m1 := []) (by simp only [gWs_cons, g_rule, g_may, g_abs, gW_str, gWs_nil, Bool.and_self]) ?_ rfl
  unfold d__law_keeps runD
  rw [start4]
  have s0 : s__law_keeps_0 [some r.w, some (.str p.s), some y.w, some (absW a), none, none, none, none, none, none, none, none] [] = .next (lkR r p y a none) [] := rfl
  have dr : ∀ mm, eCall 2 r__law_back_is_good (aCons (eVar 0) (aCons (eVar 2) aNil)) (lkR r p y a none) mm = .ok (.bl (renews r y)) mm := fun mm => by
    have := lgood_ok (m := mm) (r := r) y
    unfold lkR
    wp_walk using this
  simp only [List.replicate]
  rw [seqN s0]
  have t1 : dTest (eBin eqM (eVar 1) (eC (.str "place"))) (lkR r p y a none) [] = .ok (decide (p = .place)) [] := dTest_ok (eBin_ok rfl rfl (eq_pr p .place))
  have t2 : dTest (eBin eqM (eVar 1) (eC (.str "door"))) (lkR r p y a none) [] = .ok (decide (p = .door)) [] := dTest_ok (eBin_ok rfl rfl (eq_pr p .door))
  unfold s__law_keeps_1 s__law_keeps_2
  cases p with
  | place =>
    rw [seqR (x := .bl (keepsPlace r y a)) (m' := [])]
    · rfl
    · rw [sIf_ok t1]
      exact sRet_ok (eOr_ok (eBin_ok rfl rfl (ne_bk r.bk .asks)) fun _ => eOr_ok (eBin_ok rfl rfl (abs_zero a)) fun _ => eBin_ok rfl rfl (may_out y))
  | door =>
    rw [seqN (r' := lkR r .door y a none) (m' := []) (by rw [sIf_ok t1]; rfl), seqR (x := .bl (keepsDoor r y a)) (m' := [])]
    · rfl
    · rw [sIf_ok t2, decide_eq_true (rfl : Pr.door = Pr.door), if_pos rfl, seqN (sSet_ok (eOr_ok (eBin_ok rfl rfl (abs_zero a)) fun _ => eOr_ok (eBin_ok rfl rfl (ne_bk r.bk .old)) fun _ => eBin_ok rfl rfl (may_out y)))]
      rw [sRet_ok (eOr_ok (eBin_ok rfl rfl (int_eq r.t r.k)) fun _ => eAnd_ok (eBin_ok rfl rfl (abs_non a)) fun hs => eAnd_ok (eBin_ok rfl rfl (le_abs a r.t hs)) fun _ => rfl)]
      rw [← Bool.and_assoc, some_most]
      unfold keepsDoor
      by_cases h1 : r.t = r.k
      · simp [h1]
      · cases h2 : atMost a r.t <;> simp [h1]
  | order =>
    rw [seqN (r' := lkR r .order y a none) (m' := []) (by rw [sIf_ok t1]; rfl), seqN (r' := lkR r .order y a none) (m' := []) (by rw [sIf_ok t2]; rfl)]
    unfold s__law_keeps_3 s__law_keeps_4 s__law_keeps_5 s__law_keeps_6
    have kb : keepB r .order y a = keepsOrder r y a := rfl
    rw [kb]
    unfold keepsOrder
    have t3 : dTest (eBin eqM (eVar 3) (eC (.int 0))) (lkR r .order y a none) [] = .ok (decide (a = some 0)) [] := dTest_ok (eBin_ok rfl rfl (abs_zero a))
    by_cases h1 : a = some 0
    · rw [if_pos h1, seqR (x := .bl (r.asks || r.on)) (m' := [])]
      rw [sIf_ok t3, decide_eq_true h1, if_pos rfl]
      exact sRet_ok (eOr_ok (eBin_ok rfl rfl (eq_asks r.asks)) fun _ => eBin_ok rfl rfl (eq_on r.on))
    · rw [if_neg h1, seqN (r' := lkR r .order y a none) (m' := []) (by rw [sIf_ok t3, decide_eq_false h1]; rfl)]
      have t4 : dTest (eBin eqM (eVar 5) (eC (.int 0))) (lkR r .order y a none) [] = .ok (decide (r.t = 0)) [] := dTest_ok (eBin_ok rfl rfl (int_eq r.t 0))
      by_cases h2 : r.t = 0
      · rw [if_pos h2, seqR (x := .bl (r.asks || (r.on && renews r y))) (m' := [])]
        rw [sIf_ok t4, decide_eq_true h2, if_pos rfl]
        exact sRet_ok (eOr_ok (eBin_ok rfl rfl (eq_asks r.asks)) fun _ => eAnd_ok (eBin_ok rfl rfl (eq_on r.on)) fun _ => dr [])
      · rw [if_neg h2, seqN (r' := lkR r .order y a none) (m' := []) (by rw [sIf_ok t4, decide_eq_false h2]; rfl)]
        have t5 : dOr (dTest (eBin eqM (eVar 7) (eC (.str "none")))) (dOr (dAnd (dTest (eBin eqM (eVar 9) (eC (.str "quiet")))) (dTest (eBin (inM false) (eC (.str "let")) (eVar 2)))) (dNot (dTest (eCall 2 r__law_back_is_good (aCons (eVar 0) (aCons (eVar 2) aNil)))))) (lkR r .order y a none) [] = .ok (!r.on || (!r.told && y.lt || !renews r y)) [] :=
          dOr_ok (dTest_ok (eBin_ok rfl rfl (eq_none r.on))) fun _ => dOr_ok (dAnd_ok (dTest_ok (eBin_ok rfl rfl (eq_quiet r.told))) fun _ => dTest_ok (eBin_ok rfl rfl (may_let y))) fun _ => dNot_ok (dTest_ok (dr []))
        cases h3 : (!r.on || (!r.told && y.lt || !renews r y)) with
        | true =>
          rw [if_pos rfl, seqR (x := .bl false) (m' := [])]
          rw [sIf_ok t5, h3]
          rfl
        | false =>
          rw [if_neg (by decide), seqN (r' := lkR r .order y a none) (m' := []) (by rw [sIf_ok t5, h3]; rfl)]
          rw [sRet_ok (eOr_ok (eBin_ok rfl rfl rfl) fun _ => eAnd_ok (eBin_ok rfl rfl (abs_non a)) fun hs => eBin_ok rfl rfl (lt_abs a r.k hs)), some_most]
end
end L

/-! R8: what a rule bears, changes, nearest rules, fewest names. -/
namespace L
open PySem PySem.Spec PyProof.Rows L2 Dn Rm
local macro_rules | `(tactic| wp_walk using $ts,*) => `(tactic| simp only [runD, start0, start1, start2, start3, start4, start5, sSeq, sSet, sRet, sExpr, sIf, sNil, sCont, sRetN, sPass, sBrk, sBad, sAsg, sSub, sFor, sPar, sAug, sPut, sPutA, eVar, eC, eBin, eFn, eCall, eAnd, eOr, eNot, eIf, eTup, eLst, eLstM, eIsi, eFz, eNw, aComp, iSeq, iEnumW, eFld, eMeth, eMake, eSl, oNone, oSome, eRev, eIdx, eChain, eApp, eFrz, dTest, dAnd, dOr, dNot, aNil, aCons, aStar, Dn.R.bind, R.thenS, List.length_cons, List.length_nil, List.length_map, List.replicate, List.set, List.getElem?_cons_zero, List.getElem?_cons_succ, List.cons_append, List.nil_append, Nat.reduceAdd, Nat.reduceSub, Nat.zero_add, if_true, if_false, Bool.false_eq_true, Bool.not_true, Bool.not_false, decide_true, decide_false, addW_i, subW_i, addI_i, intW_i, gtW_i, geW_i, ltW_i, leW_i, tupleW_l, tupleW_t, lenW_t, lenW_l, eqM_int, neM_int, inM_ints, inM_intsL, ixM_t, ixM_l, lstOf, seqOf, trkOf, wipeR, Nat.reduceLeDiff, rule0, rule1, rule2, rule3, rule4, rule5, rule6, gN, gT, gsCons, gsNil, Option.bind, GoesD, four_lt, and_self, Bool.and_true, Bool.true_and, Bool.and_false, Bool.false_and, Bool.or_true, Bool.true_or, Bool.or_false, Bool.false_or, $[$ts:term],*])
section
variable {m : Mem} {r : Rule}
/-! ### all rules -/
theorem mem_allR (hr : r.Ok) : r ∈ allR := by
  have h1 : r.k = 1 ∨ r.k = 2 ∨ r.k = 3 := by have := hr.k1; have := hr.k3; omega
  have h2 : r.t = 0 ∨ r.t = 1 ∨ r.t = 2 ∨ r.t = 3 := by have := hr.t0; have := hr.tk; have := hr.k3; omega
  have h3 := hr.tk
  obtain ⟨k, t, a, b, c, d, e⟩ := r
  dsimp only at h1 h2 h3
  unfold allR
  refine List.mem_flatMap.mpr ⟨(k, t), ?_, List.mem_flatMap.mpr ⟨a, by cases a <;> simp, List.mem_flatMap.mpr ⟨b, by cases b <;> simp, List.mem_flatMap.mpr ⟨c, by cases c <;> simp, List.mem_flatMap.mpr ⟨d, by cases d <;> simp, List.mem_map.mpr ⟨e, by cases e <;> simp, rfl⟩⟩⟩⟩⟩⟩
  rcases h1 with rfl | rfl | rfl <;> rcases h2 with rfl | rfl | rfl | rfl <;> first | (exfalso; omega) | simp
/-! ### with fewer absent it is kept, too -/
theorem keepB_big (hr : r.Ok) (p : Pr) (y : May) (i : Int) (hi : 3 ≤ i) : keepB r p y (some i) = keepB r p y none := by
  have h0 : ¬ (some i = some (0 : Int)) := by intro q; injection q with q; omega
  have hn : ¬ ((none : Option Int) = some (0 : Int)) := by intro q; cases q
  cases p with
  | order =>
    have h1 : atMost (some i) (r.k - 1) = false := by
      have := hr.k3
      exact decide_eq_false (by omega)
    show keepsOrder r y (some i) = keepsOrder r y none
    unfold keepsOrder
    rw [if_neg h0, if_neg hn, h1]
    rfl
  | door =>
    show keepsDoor r y (some i) = keepsDoor r y none
    unfold keepsDoor
    by_cases h : r.t = r.k
    · rw [if_pos h, if_pos h]
    · have h1 : atMost (some i) r.t = false := by
        have := hr.k3; have := hr.tk
        exact decide_eq_false (by omega)
      rw [if_neg h, if_neg h, if_pos h1]
      rfl
  | place =>
    show keepsPlace r y (some i) = keepsPlace r y none
    unfold keepsPlace
    rw [decide_eq_false h0, decide_eq_false hn]
def monoB (r : Rule) (p : Pr) (y : May) : Bool := (!keepB r p y none || keepB r p y (some 2)) && ((!keepB r p y (some 2) || keepB r p y (some 1)) && (!keepB r p y (some 1) || keepB r p y (some 0)))
theorem mono_all : allR.all (fun r => [Pr.door, .order, .place].all fun p => [⟨false, false⟩, ⟨false, true⟩, ⟨true, false⟩, ⟨true, true⟩].all fun y => monoB r p y) = true := by kernel_rfl
theorem mono_at (hr : r.Ok) (p : Pr) (y : May) : monoB r p y = true := by
  have h := List.all_eq_true.mp mono_all r (mem_allR hr)
  have h2 := List.all_eq_true.mp h p (by cases p <;> simp)
  exact List.all_eq_true.mp h2 y (by obtain ⟨a, b⟩ := y; cases a <;> cases b <;> simp)
theorem keepAll_imp (ps : List Pr) (y : May) (a b : Option Int) (h : ∀ p, keepB r p y a = true → keepB r p y b = true) (ha : keepAll ps y a r = true) : keepAll ps y b r = true := by
  unfold keepAll at ha ⊢
  rw [List.all_eq_true] at ha ⊢
  exact fun p hp => h p (ha p hp)
theorem mono3 (hr : r.Ok) (ps : List Pr) (y : May) : keepAll ps y none r = true → keepAll ps y (some 2) r = true := keepAll_imp ps y _ _ fun p h => by
  have := mono_at hr p y
  unfold monoB at this
  rw [h] at this
  cases h2 : keepB r p y (some 2) with
  | true => rfl
  | false => rw [h2] at this; cases this
theorem mono2 (hr : r.Ok) (ps : List Pr) (y : May) : keepAll ps y (some 2) r = true → keepAll ps y (some 1) r = true := keepAll_imp ps y _ _ fun p h => by
  have := mono_at hr p y
  unfold monoB at this
  rw [h] at this
  cases h2 : keepB r p y (some 1) with
  | true => rfl
  | false => rw [h2] at this; cases h3 : keepB r p y none <;> rw [h3] at this <;> cases this
theorem mono1 (hr : r.Ok) (ps : List Pr) (y : May) : keepAll ps y (some 1) r = true → keepAll ps y (some 0) r = true := keepAll_imp ps y _ _ fun p h => by
  have := mono_at hr p y
  unfold monoB at this
  rw [h] at this
  cases h2 : keepB r p y (some 0) with
  | true => rfl
  | false => rw [h2] at this; cases h3 : keepB r p y none <;> cases h4 : keepB r p y (some 2) <;> rw [h3, h4] at this <;> cases this
theorem keepAll_big (hr : r.Ok) (ps : List Pr) (y : May) (i : Int) (hi : 3 ≤ i) : keepAll ps y (some i) r = keepAll ps y none r := by
  unfold keepAll
  congr 1
  funext p
  exact keepB_big hr p y i hi
/-- how many absent ones a rule bears: n of the first three numbers, or any -/
def bearV (ps : List Pr) (y : May) (r : Rule) : Option Int := if keepAll ps y none r then none else if keepAll ps y (some 2) r then some 2 else if keepAll ps y (some 1) r then some 1 else if keepAll ps y (some 0) r then some 0 else some (-1)
theorem bear_five (hr : r.Ok) (ps : List Pr) (y : May) :
    (keepAll ps y none r = true ∧ keepAll ps y (some 2) r = true ∧ keepAll ps y (some 1) r = true ∧ keepAll ps y (some 0) r = true ∧ bearV ps y r = none)
    ∨ (keepAll ps y none r = false ∧ keepAll ps y (some 2) r = true ∧ keepAll ps y (some 1) r = true ∧ keepAll ps y (some 0) r = true ∧ bearV ps y r = some 2)
    ∨ (keepAll ps y none r = false ∧ keepAll ps y (some 2) r = false ∧ keepAll ps y (some 1) r = true ∧ keepAll ps y (some 0) r = true ∧ bearV ps y r = some 1)
    ∨ (keepAll ps y none r = false ∧ keepAll ps y (some 2) r = false ∧ keepAll ps y (some 1) r = false ∧ keepAll ps y (some 0) r = true ∧ bearV ps y r = some 0)
    ∨ (keepAll ps y none r = false ∧ keepAll ps y (some 2) r = false ∧ keepAll ps y (some 1) r = false ∧ keepAll ps y (some 0) r = false ∧ bearV ps y r = some (-1)) := by
  have m3 := mono3 hr ps y
  have m2 := mono2 hr ps y
  have m1 := mono1 hr ps y
  unfold bearV
  cases h3 : keepAll ps y none r with
  | true =>
    have h2 := m3 h3
    have h1 := m2 h2
    exact .inl ⟨rfl, h2, h1, m1 h1, rfl⟩
  | false =>
    cases h2 : keepAll ps y (some 2) r with
    | true =>
      have h1 := m2 h2
      exact .inr (.inl ⟨rfl, rfl, h1, m1 h1, rfl⟩)
    | false =>
      cases h1 : keepAll ps y (some 1) r with
      | true => exact .inr (.inr (.inl ⟨rfl, rfl, rfl, m1 h1, rfl⟩))
      | false =>
        cases h0 : keepAll ps y (some 0) r with
        | true => exact .inr (.inr (.inr (.inl ⟨rfl, rfl, rfl, rfl, rfl⟩)))
        | false => exact .inr (.inr (.inr (.inr ⟨rfl, rfl, rfl, rfl, rfl⟩)))
/-! ### the loop -/
abbrev bwR (r : Rule) (ps : List Pr) (y : May) (f : Int) : Rho := [some r.w, some (psW ps), some y.w, some (.int f)]
abbrev bwC : DT := dTest (eCall 4 r_keeps_all (aCons (eVar 0) (aCons (eVar 1) (aCons (eVar 2) (aCons (eBin addW (eVar 3) (eC (.int 1))) aNil)))))
theorem bw_cond (ps : List Pr) (y : May) (f : Int) (mm : Mem) : bwC (bwR r ps y f) mm = .ok (keepAll ps y (some (f + 1)) r) mm := by
  have := keeps_all_ok (m := mm) (r := r) ps y (some (f + 1))
  have e : absW (some (f + 1)) = .int (f + 1) := rfl
  rw [e] at this
  unfold bwR bwC
  wp_walk using this
theorem bw_loop (ps : List Pr) (y : May) (B : Int) (hB : keepAll ps y (some (B + 1)) r = false) : ∀ (d n : Nat) (f : Int), f + (d : Int) = B → (∀ j, f < j → j ≤ B → keepAll ps y (some j) r = true) → whileL bwC b_bears_by_0 (n + d + 1) (bwR r ps y f) [] = .next (bwR r ps y B) []
  | 0, n, f, h, _ => by
    have e : f = B := by omega
    subst e
    rw [Nat.add_zero, whileL, bw_cond, hB]
    rfl
  | d + 1, n, f, h, ht => by
    have e : n + (d + 1) + 1 = (n + d + 1) + 1 := by omega
    rw [e, whileL, bw_cond, ht (f + 1) (by omega) (by omega)]
    have st : b_bears_by_0 (bwR r ps y f) [] = .next (bwR r ps y (f + 1)) [] := rfl
    simp only [R.thenS, if_true, st]
    exact bw_loop ps y B hB d n (f + 1) (by omega) fun j h1 h2 => ht j (by omega) h2
theorem bears_by_ok (hr : r.Ok) (ps : List Pr) (y : May) : r_bears_by [r.w, psW ps, y.w] m = .ok (absW (bearV ps y r)) m := by
  unfold r_bears_by
  refine pw_g (m1 := []) (by simp only [gWs_cons, g_rule, g_ps, g_may, gWs_nil, Bool.and_self]) ?_ (g_abs _)
  have k0 := fun mm => keeps_all_ok (m := mm) (r := r) ps y none
  have en : absW (none : Option Int) = .non := rfl
  rw [en] at k0
  have s1 : s_bears_by_1 [some r.w, some (psW ps), some y.w, none] [] = .next (bwR r ps y (-1)) [] := rfl
  have t0 : dTest (eCall 4 r_keeps_all (aCons (eVar 0) (aCons (eVar 1) (aCons (eVar 2) (aCons (eC .non) aNil))))) [some r.w, some (psW ps), some y.w, none] [] = .ok (keepAll ps y none r) [] := by
    wp_walk using k0
  unfold d_bears_by s_bears_by_0 runD
  rw [start3]
  simp only [List.replicate]
  have fin : ∀ B : Int, (∀ j, -1 < j → j ≤ B → keepAll ps y (some j) r = true) → keepAll ps y (some (B + 1)) r = false → keepAll ps y none r = false → -1 ≤ B → B ≤ 2 → bearV ps y r = some B → (match (sSeq (sIf (dTest (eCall 4 r_keeps_all (aCons (eVar 0) (aCons (eVar 1) (aCons (eVar 2) (aCons (eC .non) aNil)))))) (sRet (eC .non)) sNil) (sSeq s_bears_by_1 (sSeq s_bears_by_2 s_bears_by_3))) [some r.w, some (psW ps), some y.w, none] [] with | .ret w m1 => Dn.R.ok w m1 | .next _ m1 => .ok .non m1 | .exc x _ m1 => .exc x m1 | _ => .bad) = Dn.R.ok (absW (bearV ps y r)) [] := fun B h1 h2 h3 h4 h5 h6 => by
    obtain ⟨d, hd⟩ : ∃ d : Nat, -1 + (d : Int) = B := ⟨(B + 1).toNat, by omega⟩
    have s2 : s_bears_by_2 (bwR r ps y (-1)) [] = .next (bwR r ps y B) [] := by
      have := bw_loop (r := r) ps y B h2 d (99999 - d) (-1) hd h1
      have e : 99999 - d + d + 1 = 100000 := by omega
      rw [e] at this
      exact this
    rw [seqN (r' := [some r.w, some (psW ps), some y.w, none]) (m' := []) (by rw [sIf_ok t0, h3]; rfl), seqN s1, seqN s2, h6]
    rfl
  rcases bear_five hr ps y with ⟨h3, h2, h1, h0, hv⟩ | ⟨h3, h2, h1, h0, hv⟩ | ⟨h3, h2, h1, h0, hv⟩ | ⟨h3, h2, h1, h0, hv⟩ | ⟨h3, h2, h1, h0, hv⟩
  · rw [seqR (x := .non) (m' := []) (by rw [sIf_ok t0, h3]; rfl), hv]
    rfl
  · refine fin 2 (fun j a b => ?_) (by rw [keepAll_big hr ps y _ (by decide)]; exact h3) h3 (by decide) (by decide) hv
    have : j = 0 ∨ j = 1 ∨ j = 2 := by omega
    rcases this with rfl | rfl | rfl <;> assumption
  · refine fin 1 (fun j a b => ?_) h2 h3 (by decide) (by decide) hv
    have : j = 0 ∨ j = 1 := by omega
    rcases this with rfl | rfl <;> assumption
  · refine fin 0 (fun j a b => ?_) h1 h3 (by decide) (by decide) hv
    have : j = 0 := by omega
    subst this
    exact h0
  · refine fin (-1) (fun j a b => ?_) (by show keepAll ps y (some 0) r = false; exact h0) h3 (by decide) (by decide) hv
    omega
theorem bears_ok (hr : r.Ok) (ps : List Pr) (hp : goodPs ps) (y : May) : r_bears [r.w, psW ps, y.w] m = .ok (absW (bearV ps y r)) m := by
  unfold r_bears
  refine pw_g (m1 := []) (by simp only [gWs_cons, g_rule, g_ps, g_may, gWs_nil, Bool.and_self]) ?_ (g_abs _)
  unfold d_bears s_bears_0 s_bears_1 s_bears_2
  wp_walk using need_rule_ok r hr, need_promises_ok ps hp, need_may_ok y, bears_by_ok hr ps y
end
end L

/-! R9: changes, nearest rules, fewest names. -/
namespace L
open PySem PySem.Spec PyProof.Rows L2 Dn Rm
local macro_rules | `(tactic| wp_walk using $ts,*) => `(tactic| simp only [runD, start0, start1, start2, start3, start4, start5, sSeq, sSet, sRet, sExpr, sIf, sNil, sCont, sRetN, sPass, sBrk, sBad, sAsg, sSub, sFor, sPar, sAug, sPut, sPutA, eVar, eC, eBin, eFn, eCall, eAnd, eOr, eNot, eIf, eTup, eLst, eLstM, eIsi, eFz, eNw, aComp, iSeq, iEnumW, eFld, eMeth, eMake, eSl, oNone, oSome, eRev, eIdx, eChain, eApp, eFrz, dTest, dAnd, dOr, dNot, aNil, aCons, aStar, Dn.R.bind, R.thenS, List.length_cons, List.length_nil, List.length_map, List.replicate, List.set, List.getElem?_cons_zero, List.getElem?_cons_succ, List.cons_append, List.nil_append, Nat.reduceAdd, Nat.reduceSub, Nat.zero_add, if_true, if_false, Bool.false_eq_true, Bool.not_true, Bool.not_false, decide_true, decide_false, addW_i, subW_i, addI_i, intW_i, gtW_i, geW_i, ltW_i, leW_i, tupleW_l, tupleW_t, lenW_t, lenW_l, eqM_int, neM_int, inM_ints, inM_intsL, ixM_t, ixM_l, lstOf, seqOf, trkOf, wipeR, Nat.reduceLeDiff, rule0, rule1, rule2, rule3, rule4, rule5, rule6, gN, gT, gsCons, gsNil, Option.bind, GoesD, four_lt, and_self, Bool.and_true, Bool.true_and, Bool.and_false, Bool.false_and, Bool.or_true, Bool.true_or, Bool.or_false, Bool.false_or, $[$ts:term],*])
section
variable {m : Mem} {r : Rule}
def diffs (a b : Rule) : List (W × W × Bool) := [(.int a.k, .int b.k, !(a.k == b.k)), (.int a.t, .int b.t, !(a.t == b.t)), (.str (askS a.line), .str (askS b.line), a.line != b.line), (.str (fillS a.on), .str (fillS b.on), a.on != b.on), (.str a.bk.s, .str b.bk.s, !decide (a.bk = b.bk)), (.str (letS a.told), .str (letS b.told), a.told != b.told), (.str (lostS a.asks), .str (lostS b.asks), a.asks != b.asks)]
def chg (a b : Rule) : Int := (((diffs a b).filter (·.2.2)).length : Nat)
theorem ne_askS (a b : Bool) : neM m (.str (askS a)) (.str (askS b)) = some (.bl (a != b)) := by cases a <;> cases b <;> kernel_rfl
theorem ne_fillS (a b : Bool) : neM m (.str (fillS a)) (.str (fillS b)) = some (.bl (a != b)) := by cases a <;> cases b <;> kernel_rfl
theorem ne_letS (a b : Bool) : neM m (.str (letS a)) (.str (letS b)) = some (.bl (a != b)) := by cases a <;> cases b <;> kernel_rfl
theorem ne_lostS (a b : Bool) : neM m (.str (lostS a)) (.str (lostS b)) = some (.bl (a != b)) := by cases a <;> cases b <;> kernel_rfl
theorem diffs_ne (a b : Rule) (x : W × W × Bool) (h : x ∈ diffs a b) : neM m x.1 x.2.1 = some (.bl x.2.2) := by
  simp only [diffs, List.mem_cons, List.mem_nil_iff, or_false] at h
  rcases h with rfl | rfl | rfl | rfl | rfl | rfl | rfl
  · exact neM_int
  · exact neM_int
  · exact ne_askS _ _
  · exact ne_fillS _ _
  · exact ne_bk _ _
  · exact ne_letS _ _
  · exact ne_lostS _ _
theorem diffs_pairs (a b : Rule) : pairsW [.int a.k, .int a.t, .str (askS a.line), .str (fillS a.on), .str a.bk.s, .str (letS a.told), .str (lostS a.asks)] [.int b.k, .int b.t, .str (askS b.line), .str (fillS b.on), .str b.bk.s, .str (letS b.told), .str (lostS b.asks)] = (diffs a b).map fun x => .tup [x.1, x.2.1] := rfl
theorem chg_le (a b : Rule) : 0 ≤ chg a b ∧ chg a b ≤ 7 := by
  have h : ((diffs a b).filter (·.2.2)).length ≤ (diffs a b).length := List.length_filter_le _ _
  have h2 : (diffs a b).length = 7 := rfl
  unfold chg
  omega
theorem chg_zero (a b : Rule) : chg a b = 0 ↔ a = b := by
  obtain ⟨k, t, a1, a2, a3, a4, a5⟩ := a
  obtain ⟨k', t', b1, b2, b3, b4, b5⟩ := b
  unfold chg diffs
  constructor
  · intro h
    have h' : (List.filter (fun x : W × W × Bool => x.2.2) [(.int k, .int k', !(k == k')), (.int t, .int t', !(t == t')), (.str (askS a1), .str (askS b1), a1 != b1), (.str (fillS a2), .str (fillS b2), a2 != b2), (.str a3.s, .str b3.s, !decide (a3 = b3)), (.str (letS a4), .str (letS b4), a4 != b4), (.str (lostS a5), .str (lostS b5), a5 != b5)]).length = 0 := by exact_mod_cast h
    rw [List.length_eq_zero_iff, List.filter_eq_nil_iff] at h'
    simp only [List.mem_cons, List.mem_nil_iff, or_false, forall_eq_or_imp, forall_eq] at h'
    simp only [Rule.mk.injEq]
    simpa using h'
  · intro h
    injection h with h1 h2 h3 h4 h5 h6 h7
    subst h1 h2 h3 h4 h5 h6 h7
    simp
abbrev chR (a b : Rule) (x y : Option W) : Rho := [some a.w, some b.w, x, y]
theorem chg_comp (a b : Rule) (mm : Mem) : compL (gT (gsCons (gN 2) (gsCons (gN 3) gsNil))) (dTest (eBin neM (eVar 2) (eVar 3))) (eC (.int 1)) [2, 3] ((diffs a b).map fun x => W.tup [x.1, x.2.1]) (chR a b none none) mm = .ok (((diffs a b).filter (·.2.2)).map fun _ => W.int 1) mm :=
  compL_map (fun x : W × W × Bool => W.tup [x.1, x.2.1]) (·.2.2) (fun _ => .int 1) (fun x => chR a b (some x.1) (some x.2.1)) (diffs a b) (fun _ _ => rfl)
    (fun x hx => dTest_ok (eBin_ok rfl rfl (diffs_ne a b x hx))) fun _ _ _ => rfl
theorem changes_in_ok (a b : Rule) : r_changes_in [a.w, b.w] m = .ok (.int (chg a b)) m := by
  unfold r_changes_in
  refine pw_g (m1 := []) (by simp only [gWs_cons, g_rule, gWs_nil, Bool.and_self]) ?_ rfl
  have cc := chg_comp a b []
  have z : iZipW (eVar 0) (eVar 1) (chR a b none none) [] = .ok ((diffs a b).map fun x => W.tup [x.1, x.2.1]) [] := rfl
  unfold d_changes_in s_changes_in_0 runD
  rw [start2]
  simp only [List.replicate, sRet, eFn, aCons, aNil, eFz, aComp, z, cc, Dn.R.bind, R.thenS, lenW_l, List.length_map]
  rfl
theorem lchanges_ok (a b : Rule) : r__law_changes [a.w, b.w] m = .ok (.int (chg a b)) m := by
  unfold r__law_changes
  refine pw_g (m1 := []) (by simp only [gWs_cons, g_rule, gWs_nil, Bool.and_self]) ?_ rfl
  have cc := chg_comp a b []
  have z : iZipW (eVar 0) (eVar 1) (chR a b none none) [] = .ok ((diffs a b).map fun x => W.tup [x.1, x.2.1]) [] := rfl
  unfold d__law_changes s__law_changes_0 runD
  rw [start2]
  simp only [List.replicate, sRet, eFn, aCons, aNil, eFz, aComp, z, cc, Dn.R.bind, R.thenS, lenW_l, List.length_map]
  rfl
theorem changes_between_ok (a b : Rule) (ha : a.Ok) (hb : b.Ok) : r_changes_between [a.w, b.w] m = .ok (.int (chg a b)) m := by
  unfold r_changes_between
  refine pw_g (m1 := []) (by simp only [gWs_cons, g_rule, gWs_nil, Bool.and_self]) ?_ rfl
  unfold d_changes_between s_changes_between_0
  wp_walk using need_rule_ok a ha, need_rule_ok b hb, changes_in_ok a b
/-! ### the least of some numbers -/
theorem intsW_map : ∀ ns : List Int, intsW (ns.map .int) = some ns
  | [] => rfl
  | n :: ns => by rw [List.map_cons, intsW, intsW_map ns]; rfl
def minO (ns : List Int) (d : W) : W := if ns.isEmpty then d else .int (minI ns)
theorem minD_ok {f g : DE} {ρ : Rho} {mm : Mem} {ns : List Int} {d : W} (h1 : f ρ mm = .ok (.lst (ns.map .int)) mm) (h2 : g ρ mm = .ok d mm) : eMinD f g ρ mm = .ok (minO ns d) mm := by
  unfold eMinD
  simp only [h1, h2, Dn.R.bind, lstOf, intsW_map]
  cases ns <;> rfl
def leastC (r : Rule) (l : List Rule) : Int := if l.isEmpty then 0 else minI (l.map (chg r))
def nearR (r : Rule) (l : List Rule) : List Rule := l.filter fun s => decide (chg r s = leastC r l)
theorem nearestR_ok (hr : r.Ok) (ps : List Pr) (hp : goodPs ps) (y : May) (a : Option Int) (ha : absOk a) : r_nearest_rules [r.w, psW ps, y.w, absW a] m = .ok (.tup ((nearR r (allR.filter (keepAll ps y a))).map Rule.w)) m := by
  unfold r_nearest_rules
  refine pw_g (m1 := []) (by simp only [gWs_cons, g_rule, g_ps, g_may, g_abs, gWs_nil, Bool.and_self]) ?_ (g_rulesT _)
  unfold d_nearest_rules s_nearest_rules_0 s_nearest_rules_1 s_nearest_rules_2 s_nearest_rules_3
  generalize hl : allR.filter (keepAll ps y a) = l
  have kp := keeping_in_ok (m := []) ps hp y a ha
  rw [hl] at kp
  have c1 : ∀ x5 x6, compL (gN 6) dYes (eCall 2 r_changes_in (aCons (eVar 0) (aCons (eVar 6) aNil))) [6] (l.map Rule.w) [some r.w, some (psW ps), some y.w, some (absW a), some (.lst (l.map Rule.w)), x5, x6] [] = .ok ((l.map (chg r)).map .int) [] := fun x5 x6 => by
    rw [List.map_map]
    exact compL_all Rule.w (W.int ∘ chg r) (fun s => [some r.w, some (psW ps), some y.w, some (absW a), some (.lst (l.map Rule.w)), x5, some s.w]) l (fun _ _ => rfl) fun s _ => (by
      have := changes_in_ok (m := []) r s
      wp_walk using this
      rfl)
  have c2 : ∀ x6, compL (gN 6) (dTest (eBin eqM (eCall 2 r_changes_in (aCons (eVar 0) (aCons (eVar 6) aNil))) (eVar 5))) (eVar 6) [6] (l.map Rule.w) [some r.w, some (psW ps), some y.w, some (absW a), some (.lst (l.map Rule.w)), some (.int (leastC r l)), x6] [] = .ok ((nearR r l).map Rule.w) [] := fun x6 =>
    compL_map Rule.w (fun s => decide (chg r s = leastC r l)) Rule.w (fun s => [some r.w, some (psW ps), some y.w, some (absW a), some (.lst (l.map Rule.w)), some (.int (leastC r l)), some s.w]) l (fun _ _ => rfl) (fun s _ => (by
      have := changes_in_ok (m := []) r s
      refine dTest_ok (eBin_ok (x := .int (chg r s)) (y := .int (leastC r l)) ?_ rfl (int_eq _ _))
      wp_walk using this)) fun _ _ _ => rfl
  have mn : ∀ x5 x6, eMinD (eFz (aComp (iSeq (eVar 4)) (gN 6) dYes (eCall 2 r_changes_in (aCons (eVar 0) (aCons (eVar 6) aNil))) [6])) (eC (.int 0)) [some r.w, some (psW ps), some y.w, some (absW a), some (.lst (l.map Rule.w)), x5, x6] [] = .ok (.int (leastC r l)) [] := fun x5 x6 => by
    rw [minD_ok (ns := l.map (chg r)) (d := .int 0) (by wp_walk using c1) rfl]
    unfold minO leastC
    cases l <;> rfl
  wp_walk using need_rule_ok r hr, kp, mn, c2
def fewN (l : List Rule) : W := minO (l.map (·.k)) .non
theorem g_minO (ns : List Int) : gW (minO ns .non) = true := by unfold minO; cases ns <;> rfl
theorem fewest_names_ok (ps : List Pr) (hp : goodPs ps) (y : May) (a : Option Int) (ha : absOk a) : r_fewest_names [psW ps, y.w, absW a] m = .ok (fewN (allR.filter (keepAll ps y a))) m := by
  unfold r_fewest_names
  refine pw_g (m1 := []) (by simp only [gWs_cons, g_ps, g_may, g_abs, gWs_nil, Bool.and_self]) ?_ (g_minO _)
  unfold d_fewest_names s_fewest_names_0
  generalize hl : allR.filter (keepAll ps y a) = l
  have kp := keeping_in_ok (m := []) ps hp y a ha
  rw [hl] at kp
  have c1 : compL (gN 3) dYes (eBin ixM (eVar 3) (eC (.int 0))) [3] (l.map Rule.w) [some (psW ps), some y.w, some (absW a), none] [] = .ok ((l.map (·.k)).map .int) [] := by
    rw [List.map_map]
    exact compL_all Rule.w (W.int ∘ (·.k)) (fun s => [some (psW ps), some y.w, some (absW a), some s.w]) l (fun _ _ => rfl) fun s _ => rfl
  unfold runD
  rw [start3]
  simp only [List.replicate]
  rw [sRet_ok (minD_ok (ns := l.map (·.k)) (d := .non) (by wp_walk using kp, c1) rfl)]
  rfl
end
end L

namespace L
open PySem PySem.Spec PyProof.Rows L2 Dn Rm
local macro_rules | `(tactic| walk_at "den") => `(tactic| simp (disch := omega) only [runD, start0, start1, start2, start3, sSeq, sSet, sRet, sExpr, sIf, sAsg, sSub, sFor, sPar, eVar, eC, eBin, eFn, eCall, eAnd, eOr, eNot, eIf, eTup, eLst, eIsi, eDget, eNeg, dTest, dAnd, dOr, dNot, dYes, aNil, aCons, aStar, Dn.R.bind, R.thenS, List.length_cons, List.length_nil, List.replicate, List.set, List.getElem?_cons_zero, List.getElem?_cons_succ, List.cons_append, List.nil_append, Nat.reduceAdd, Nat.reduceSub, iOp, if_pos, if_neg, Nat.zero_add, mulW_i, modW_i, fdivW_i, addW_i, intW_i, gtW_i, geW_i])
def mixI (c k : Int) : Int := ((c % 2147483647) * (48271 + 2 * k * k) + 69621 * k + 11) % 2147483647 * 69621 % 2147483629
theorem mixed_ok (c k : Int) (m : Mem) (h0 : 0 ≤ k) (h1 : k < 1000000) : r__law_mixed [.int c, .int k] m = .ok (.int (mixI c k)) m := by
  unfold r__law_mixed
  refine pw_g (m1 := []) rfl ?_ rfl
  unfold d__law_mixed s__law_mixed_0 s__law_mixed_1
  walk_at "den"
  rfl
theorem mixI_lt (c k : Int) : 0 ≤ mixI c k ∧ mixI c k < 2147483629 := by
  unfold mixI
  exact ⟨Int.emod_nonneg _ (by decide), Int.emod_lt_of_pos _ (by decide)⟩
/-- the law's own state of draws: ls what is left of the great cells, cs the cells, at the turn -/
abbrev kS (x : String) : Key := .inr (Str.ofString x)
def dSl (cs : List Int) (i : Int) (x : W) : List (Key × W) := [(kS "cells", .lst (cs.map .int)), (kS "lefts", .ref 0), (kS "at", .int i), (kS "room", x)]
def dS (cs : List Int) (i : Int) (x : W) : Cell := .dct (dSl cs i x)
theorem g_at (cs : List Int) (i : Int) (x : W) : valW (dSl cs i x) (.inr (Str.ofString "at")) = some (.int i) := rfl
theorem g_cells (cs : List Int) (i : Int) (x : W) : valW (dSl cs i x) (.inr (Str.ofString "cells")) = some (.lst (cs.map .int)) := rfl
theorem g_lefts (cs : List Int) (i : Int) (x : W) : valW (dSl cs i x) (.inr (Str.ofString "lefts")) = some (.ref 0) := rfl
theorem p_at (cs : List Int) (i j : Int) (x : W) : putW (dSl cs i x) (.inr (Str.ofString "at")) (.int j) = dSl cs j x := rfl
theorem dSl_len (cs : List Int) (i : Int) (x : W) : (dSl cs i x).length = 4 := rfl
theorem keyW_s (x : Str) : keyW (.str x) = some (.inr x) := rfl
theorem at_in (ls : List Int) (j : Int) (h0 : 0 ≤ j) (h1 : j < ls.length) : ∃ v, atI (ls.map W.int) j = some (.int v) := by
  obtain ⟨n, rfl⟩ : ∃ n : Nat, j = n := ⟨j.toNat, by omega⟩
  have h2 : n < ls.length := by omega
  refine ⟨ls[n], atI_nat ?_⟩
  rw [List.getElem?_map, List.getElem?_eq_getElem h2]
  rfl
theorem ixN_in (n : Nat) (j : Int) (h0 : 0 ≤ j) (h1 : j < n) : ixN n j = some j.toNat := by
  unfold ixN
  rw [if_pos h0, if_pos h1]
theorem okWs_ints (n : Nat) : ∀ ns : List Int, okWs n (ns.map .int) = true
  | [] => rfl
  | _ :: ns => by rw [List.map_cons, okWs, okWs_ints n ns]; rfl
theorem pow18 {m : Mem} : powW m (.int 10) (.int 18) = some (.int 1000000000000000000) := by
  simp only [powW, iOp]
  rw [if_pos (by decide)]
  rfl
theorem lefts_ok (r : Rho) (m : Mem) (h : r.length = 3) : ∀ ns : List Int, ∃ ls : List Int, ls.length = ns.length ∧
    compL (gN 2) dYes (eIf (dTest (eBin geW (eVar 2) (eBin powW (eC (W.int 10)) (eC (W.int 18))))) (eVar 2) (eC (W.int 0))) [2] (ns.map .int) r m = .ok (ls.map .int) m
  | [] => ⟨[], rfl, rfl⟩
  | n :: ns => by
    obtain ⟨ls, h1, h2⟩ := lefts_ok r m h ns
    match r, h with
    | [a, b, c], _ =>
      have e : compL (gN 2) dYes (eIf (dTest (eBin geW (eVar 2) (eBin powW (eC (W.int 10)) (eC (W.int 18))))) (eVar 2) (eC (W.int 0))) [2] ((n :: ns).map .int) [a, b, c] m
          = (R.ok (W.int (if 1000000000000000000 ≤ n then n else 0)) m).bind fun y m2 => (compL (gN 2) dYes (eIf (dTest (eBin geW (eVar 2) (eBin powW (eC (W.int 10)) (eC (W.int 18))))) (eVar 2) (eC (W.int 0))) [2] (ns.map .int) [a, b, c] m2).bind fun ys m3 => .ok (y :: ys) m3 := by
        rw [List.map_cons, compL]
        simp only [gN, dYes, wipeR, eIf, dTest, eBin, eVar, eC, List.set, List.getElem?_cons_zero, List.getElem?_cons_succ, Dn.R.bind, geW_i, pow18]
        by_cases hn : (1000000000000000000 : Int) ≤ n
        · simp only [hn, decide_true, if_true, Dn.R.bind]
        · simp only [hn, decide_false, Bool.false_eq_true, if_false, Dn.R.bind]
      rw [e]
      simp only [Dn.R.bind, h2]
      exact ⟨(if 1000000000000000000 ≤ n then n else 0) :: ls, by simp [h1], rfl⟩
theorem begin_ok (ns : List Int) (h : ns.length ≤ 63) : ∃ cs ls : List Int, 0 < cs.length ∧ cs.length ≤ 63 ∧ ls.length = cs.length ∧ r__law_begin [.old (ns.map .int)] [] = .ok (.ref 1) [.lst (ls.map .int), dS cs 0 (.int 0)] := by
  have fin : ∀ (cs : List Int) (r0 : Option W) (m : Mem), ∃ ls : List Int, ls.length = cs.length ∧ (eDict [(Str.ofString "cells", eVar 1), (Str.ofString "lefts", eNw (aComp (iSeq (eVar 1)) (gN 2) dYes (eIf (dTest (eBin geW (eVar 2) (eBin powW (eC (W.int 10)) (eC (W.int 18))))) (eVar 2) (eC (W.int 0))) [2])), (Str.ofString "at", eC (W.int 0)), (Str.ofString "room", eC (W.int 0))] [r0, some (.lst (cs.map .int)), none] [] = .ok (.ref 1) [.lst (ls.map .int), dS cs 0 (.int 0)]) := fun cs r0 m => by
    obtain ⟨ls, h1, h2⟩ := lefts_ok [r0, some (.lst (cs.map .int)), none] [] rfl cs
    refine ⟨ls, h1, ?_⟩
    simp only [eDict, pairsD, eVar, List.getElem?_cons_succ, List.getElem?_cons_zero, Dn.R.bind, eNw, aComp, iSeq, h2, eC, List.length_nil, List.nil_append]
    rfl
  cases ns with
  | nil =>
    obtain ⟨ls, h1, h2⟩ := fin [0] (some (.old [])) []
    refine ⟨[0], ls, by simp, by simp, h1, ?_⟩
    unfold r__law_begin d__law_begin s__law_begin_0 s__law_begin_1
    have e : neM [] (W.old (List.map W.int [])) (W.lst []) = some (.bl false) := rfl
    walk_at "den"
    simp only [e, Dn.R.bind, Bool.false_eq_true, if_false]
    have h2' : eDict _ [some (.old []), some (.lst [.int 0]), none] [] = _ := h2
    simp only [List.map_nil]
    rw [h2']
  | cons n ns =>
    obtain ⟨ls, h1, h2⟩ := fin (n :: ns) (some (.old ((n :: ns).map .int))) []
    refine ⟨n :: ns, ls, by simp, h, h1, ?_⟩
    unfold r__law_begin d__law_begin s__law_begin_0 s__law_begin_1
    have e : neM [] (W.old (List.map W.int (n :: ns))) (W.lst []) = some (.bl true) := by
      simp only [neM, rsv, okW, okWs_ints, okWs, Bool.and_self, if_true]
      rfl
    walk_at "den"
    simp only [e, Dn.R.bind, if_true, eFz, aFn, aCons, eVar, List.getElem?_cons_zero, aNil, listW, seqOf]
    rw [h2]
/-! ### a draw -/
theorem draw_ok (cs ls : List Int) (i k : Int) (x : W) (rest : Mem) (hc : 0 < cs.length) (hc2 : cs.length ≤ 63) (hl : ls.length = cs.length) (hi : 0 ≤ i) (hi2 : i < 900000) (hk : 0 < k) (hk2 : k < 1000000) :
    ∃ (v : Int) (ls' : List Int), 0 ≤ v ∧ v < k ∧ ls'.length = cs.length ∧ r__law_draw [.ref 1, .int k] (.lst (ls.map .int) :: dS cs i x :: rest) = .ok (.int v) (.lst (ls'.map .int) :: dS cs (i + 1) x :: rest) := by
  have hp0 := Int.emod_nonneg i (show ((cs.length : Nat) : Int) ≠ 0 by omega)
  have hp1 := Int.emod_lt_of_pos i (show (0 : Int) < ((cs.length : Nat) : Int) by omega)
  obtain ⟨left, e1⟩ := at_in ls (i % cs.length) hp0 (by omega)
  obtain ⟨cell, e2⟩ := at_in cs (i % cs.length) hp0 (by omega)
  have e3 := ixN_in ls.length (i % cs.length) hp0 (by omega)
  have m1 := fun c : Int => mixed_ok c i (.lst (ls.map .int) :: .dct (dSl cs (i + 1) x) :: rest) hi (by omega)
  have m2 := fun c : Int => mixed_ok c (40 + i) (.lst (ls.map .int) :: .dct (dSl cs (i + 1) x) :: rest) (by omega) (by omega)
  have m3 := fun c : Int => mixed_ok c (7 + i) (.lst (ls.map .int) :: .dct (dSl cs (i + 1) x) :: rest) (by omega) (by omega)
  have b1 := fun c k : Int => (mixI_lt c k).1
  have b2 := fun c k : Int => (mixI_lt c k).2
  have mm : ∀ a b : Int, mulW (.lst (ls.map .int) :: .dct (dSl cs (i + 1) x) :: rest) (.int (mixI a b)) (.int 2147483647) = some (.int (mixI a b * 2147483647)) := fun a b => mulW_i (by have := b1 a b; omega) (by have := b2 a b; omega)
  have hn : (cs.length : Int) ≠ 0 := by omega
  have md : ∀ m : Mem, modW m (.int i) (.int (cs.length : Nat)) = some (.int (i % cs.length)) := fun m => modW_i (by omega)
  by_cases hg : 0 < left
  · refine ⟨left % k, ls.set (i % cs.length).toNat (left / k), Int.emod_nonneg _ (by omega), Int.emod_lt_of_pos _ hk, by simp [hl], ?_⟩
    unfold r__law_draw d__law_draw s__law_draw_0 s__law_draw_1 s__law_draw_2 s__law_draw_3 s__law_draw_4 s__law_draw_5 s__law_draw_6 dS
    simp (disch := omega) only [runD, start2, sSeq, sSet, sRet, sIf, sNil, eVar, eC, eBin, eFn, eCall, eDget, dTest, aNil, aCons, Dn.R.bind, R.thenS, List.length_cons, List.length_nil, List.length_map, List.replicate, List.set, List.getElem?_cons_zero, List.getElem?_cons_succ, Nat.reduceAdd, Nat.zero_add, if_true, addW_i, intW_i, gtW_i, keyW_s, g_at, g_cells, g_lefts, p_at, sSub, setM, dSl_len, show (4 < 16777216) = True from by decide, lenW, seqOf, Option.map, md, ixM, e1, e2, hg, decide_true, fdivW_i, modW_i, e3]
    rw [List.map_set]
  · refine ⟨(mixI (mixI cell i) (40 + i) * 2147483647 + mixI (mixI (mixI cell i) (40 + i)) (7 + i)) / 64 % k, ls, Int.emod_nonneg _ (by omega), Int.emod_lt_of_pos _ hk, hl, ?_⟩
    · unfold r__law_draw d__law_draw s__law_draw_0 s__law_draw_1 s__law_draw_2 s__law_draw_3 s__law_draw_4 s__law_draw_5 s__law_draw_6 dS
      simp (disch := omega) only [runD, start2, sSeq, sSet, sRet, sIf, sNil, eVar, eC, eBin, eFn, eCall, eDget, dTest, aNil, aCons, Dn.R.bind, R.thenS, List.length_cons, List.length_nil, List.length_map, List.replicate, List.set, List.getElem?_cons_zero, List.getElem?_cons_succ, Nat.reduceAdd, Nat.zero_add, if_true, addW_i, intW_i, gtW_i, keyW_s, g_at, g_cells, g_lefts, p_at, sSub, setM, dSl_len, show (4 < 16777216) = True from by decide, lenW, seqOf, Option.map, md, ixM, e1, e2, hg, decide_false, Bool.false_eq_true, if_false, m1, m2, m3, mm, fdivW_i, modW_i]
end L

namespace L
open PySem PySem.Spec PyProof.Rows L2 Dn Rm
local macro_rules | `(tactic| wp_walk using $ts,*) => `(tactic| simp only [runD, start0, start1, start2, start3, start4, start5, sSeq, sSet, sRet, sExpr, sIf, sNil, sCont, sRetN, sPass, sBrk, sBad, sAsg, sSub, sFor, sPar, sAug, sPut, sPutA, eVar, eC, eBin, eFn, eCall, eAnd, eOr, eNot, eIf, eTup, eLst, eLstM, eIsi, eFz, eNw, aComp, iSeq, iEnumW, eFld, eMeth, eMake, eSl, oNone, oSome, eRev, eIdx, eChain, eApp, eFrz, dTest, dAnd, dOr, dNot, aNil, aCons, aStar, Dn.R.bind, R.thenS, List.length_cons, List.length_nil, List.length_map, List.replicate, List.set, List.getElem?_cons_zero, List.getElem?_cons_succ, List.cons_append, List.nil_append, Nat.reduceAdd, Nat.reduceSub, Nat.zero_add, if_true, if_false, Bool.false_eq_true, Bool.not_true, Bool.not_false, decide_true, decide_false, addW_i, subW_i, addI_i, intW_i, gtW_i, geW_i, ltW_i, leW_i, tupleW_l, tupleW_t, lenW_t, lenW_l, eqM_int, neM_int, inM_ints, inM_intsL, ixM_t, ixM_l, lstOf, seqOf, trkOf, wipeR, Nat.reduceLeDiff, rule0, rule1, rule2, rule3, rule4, rule5, rule6, gN, gT, gsCons, gsNil, Option.bind, GoesD, four_lt, and_self, Bool.and_true, Bool.true_and, Bool.and_false, Bool.false_and, Bool.or_true, Bool.true_or, Bool.or_false, Bool.false_or, $[$ts:term],*])
section
/-- the memory while something is drawn -/
def stM (cs ls : List Int) (i : Int) (rest : Mem) : Mem := .lst (ls.map .int) :: dS cs i (.int 0) :: rest
structure StOk (cs ls : List Int) (i : Int) : Prop where
  c0 : 0 < cs.length
  c63 : cs.length ≤ 63
  ll : ls.length = cs.length
  i0 : 0 ≤ i
theorem draw_st {cs ls : List Int} {i : Int} (h : StOk cs ls i) (hi : i < 800000) (k : Int) (hk : 0 < k) (hk2 : k < 1000000) (rest : Mem) :
    ∃ (v : Int) (ls' : List Int), 0 ≤ v ∧ v < k ∧ StOk cs ls' (i + 1) ∧ r__law_draw [.ref 1, .int k] (stM cs ls i rest) = .ok (.int v) (stM cs ls' (i + 1) rest) := by
  obtain ⟨v, l1, a1, b1, c1, e1⟩ := draw_ok cs ls i k (.int 0) rest h.c0 h.c63 h.ll h.i0 (by omega) hk hk2
  exact ⟨v, l1, a1, b1, ⟨h.c0, h.c63, c1, by have := h.i0; omega⟩, e1⟩
theorem two_of (a b : Str) (f : Bool → Str) (ht : f true = a) (hf : f false = b) (v : Int) (h0 : 0 ≤ v) (h1 : v < 2) : ∃ k : Bool, atI [W.str a, W.str b] v = some (.str (f k)) := by
  have : v = 0 ∨ v = 1 := by omega
  rcases this with rfl | rfl
  · exact ⟨true, by rw [ht]; exact atI_get (n := 0) rfl rfl⟩
  · exact ⟨false, by rw [hf]; exact atI_get (n := 1) rfl rfl⟩
theorem three_of (a b : Str) (f : Bool → Str) (hf : f false = a) (ht : f true = b) (v : Int) (h0 : 0 ≤ v) (h1 : v < 3) : ∃ k : Bool, atI [W.str a, W.str b, W.str b] v = some (.str (f k)) := by
  have : v = 0 ∨ v = 1 ∨ v = 2 := by omega
  rcases this with rfl | rfl | rfl
  · exact ⟨false, by rw [hf]; exact atI_get (n := 0) rfl rfl⟩
  · exact ⟨true, by rw [ht]; exact atI_get (n := 1) rfl rfl⟩
  · exact ⟨true, by rw [ht]; exact atI_get (n := 2) rfl rfl⟩
theorem back_of (v : Int) (h0 : 0 ≤ v) (h1 : v < 3) : ∃ k : Bk, atI [W.str "asks", W.str "old", W.str "tells"] v = some (.str k.s) := by
  have : v = 0 ∨ v = 1 ∨ v = 2 := by omega
  rcases this with rfl | rfl | rfl
  · exact ⟨.asks, atI_get (n := 0) rfl rfl⟩
  · exact ⟨.old, atI_get (n := 1) rfl rfl⟩
  · exact ⟨.tells, atI_get (n := 2) rfl rfl⟩
theorem up_range (n : Nat) : upFrom 0 n = (List.range n).map fun i => W.int (i : Nat) := by
  refine List.ext_getElem? fun i => ?_
  by_cases hi : i < n
  · rw [upFrom_get 0 _ i hi, List.getElem?_map, List.getElem?_range hi]
    simp
  · rw [List.getElem?_eq_none (by rw [upFrom_len]; omega), List.getElem?_eq_none (by simp; omega)]
theorem rng2_a : (-(2 ^ 62) ≤ (0 : Int) ∧ (0 : Int) < 2 ^ 62) := ⟨by omega, by omega⟩
theorem rng2_b (n : Nat) (hlen : n < 100000) : -(2 ^ 62) ≤ ((n : Nat) : Int) ∧ ((n : Nat) : Int) < 2 ^ 62 ∧ ((n : Nat) : Int) - 0 ≤ 16777216 := ⟨by omega, by omega, by omega⟩
theorem rng2_c (n : Nat) : (((n : Nat) : Int) - 0).toNat = n := by omega
theorem rng2_ok (n : Nat) (hlen : n < 100000) (m : Mem) (f g : DE) (r : Rho) (hf : f r m = .ok (.int 0) m) (hg : g r m = .ok (.int (n : Nat)) m) : iRng (aCons f (aCons g aNil)) r m = .ok ((List.range n).map fun k => W.int (k : Nat)) m := by
  simp only [iRng, aCons, aNil, hf, hg, Dn.R.bind]
  rw [if_pos ⟨rng2_a, rng2_b n hlen⟩, rng2_c, up_range]
theorem rng1_b (n : Nat) (hlen : n < 100000) : -(2 ^ 62) ≤ ((n : Nat) : Int) ∧ ((n : Nat) : Int) ≤ 16777216 := ⟨by omega, by omega⟩
theorem rng1_ok (n : Nat) (hlen : n < 100000) (m : Mem) (f : DE) (r : Rho) (hf : f r m = .ok (.int (n : Nat)) m) : iRng (aCons f aNil) r m = .ok ((List.range n).map fun k => W.int (k : Nat)) m := by
  simp only [iRng, aCons, aNil, hf, Dn.R.bind]
  rw [if_pos (rng1_b n hlen), Int.toNat_natCast, up_range]
theorem minW_i {m : Mem} {i j : Int} : minW m [.int i, .int j] = some (.int (min i j)) := by
  simp only [minW]
  first | rfl | (congr 2; omega) | (split <;> congr 2 <;> omega)
theorem lenW_o {m : Mem} {xs : List W} : lenW m [.old xs] = some (.int (xs.length : Nat)) := rfl
end
end L

/-! PK: drawn mays, bounds, things; rows of rules shown. -/
namespace L
open PySem PySem.Spec PyProof.Rows L2 Dn Rm
local macro_rules | `(tactic| wp_walk using $ts,*) => `(tactic| simp only [runD, start0, start1, start2, start3, start4, start5, sSeq, sSet, sRet, sExpr, sIf, sNil, sCont, sRetN, sPass, sBrk, sBad, sAsg, sSub, sFor, sPar, sAug, sPut, sPutA, eVar, eC, eBin, eFn, eCall, eAnd, eOr, eNot, eIf, eTup, eLst, eLstM, eIsi, eFz, eNw, aComp, iSeq, iEnumW, eFld, eMeth, eMake, eSl, oNone, oSome, eRev, eIdx, eChain, eApp, eFrz, dTest, dAnd, dOr, dNot, aNil, aCons, aStar, Dn.R.bind, R.thenS, List.length_cons, List.length_nil, List.length_map, List.replicate, List.set, List.getElem?_cons_zero, List.getElem?_cons_succ, List.cons_append, List.nil_append, Nat.reduceAdd, Nat.reduceSub, Nat.zero_add, if_true, if_false, Bool.false_eq_true, Bool.not_true, Bool.not_false, decide_true, decide_false, addW_i, subW_i, addI_i, intW_i, gtW_i, geW_i, ltW_i, leW_i, tupleW_l, tupleW_t, lenW_t, lenW_l, eqM_int, neM_int, inM_ints, inM_intsL, ixM_t, ixM_l, lstOf, seqOf, trkOf, wipeR, Nat.reduceLeDiff, rule0, rule1, rule2, rule3, rule4, rule5, rule6, gN, gT, gsCons, gsNil, Option.bind, GoesD, four_lt, and_self, Bool.and_true, Bool.true_and, Bool.and_false, Bool.false_and, Bool.or_true, Bool.true_or, Bool.or_false, Bool.false_or, $[$ts:term],*])
section
theorem lmays_ok {cs ls : List Int} {i : Int} (h : StOk cs ls i) (hi : i < 700000) (rest : Mem) :
    ∃ (y : May) (ls' : List Int), StOk cs ls' (i + 1) ∧ r__law_mays [.ref 1] (stM cs ls i rest) = .ok y.w (stM cs ls' (i + 1) rest) := by
  obtain ⟨v, l1, a1, b1, h1, e1⟩ := draw_st h (by omega) 5 (by omega) (by omega) rest
  obtain ⟨y, ey⟩ : ∃ y : May, ∀ mm, ixM mm (.lst [.tup [], .tup [.str "let"], .tup [.str "out"], .tup [.str "let", .str "out"], .tup [.str "let", .str "out"]]) (.int v) = some y.w := by
    have : v = 0 ∨ v = 1 ∨ v = 2 ∨ v = 3 ∨ v = 4 := by omega
    rcases this with rfl | rfl | rfl | rfl | rfl
    · exact ⟨⟨false, false⟩, fun _ => atI_get (n := 0) rfl rfl⟩
    · exact ⟨⟨true, false⟩, fun _ => atI_get (n := 1) rfl rfl⟩
    · exact ⟨⟨false, true⟩, fun _ => atI_get (n := 2) rfl rfl⟩
    · exact ⟨⟨true, true⟩, fun _ => atI_get (n := 3) rfl rfl⟩
    · exact ⟨⟨true, true⟩, fun _ => atI_get (n := 4) rfl rfl⟩
  refine ⟨y, l1, h1, ?_⟩
  unfold r__law_mays d__law_mays s__law_mays_0
  simp only [runD, start1, sRet, eBin, eLst, eTup, aCons, aNil, eC, eVar, eCall, Dn.R.bind, R.thenS, List.length_cons, List.length_nil, List.replicate, List.getElem?_cons_zero, List.getElem?_cons_succ, Nat.reduceAdd, Nat.reduceLeDiff, if_true, e1, ey, Nat.zero_add, Nat.zero_le]
theorem lbound_ok {cs ls : List Int} {i : Int} (h : StOk cs ls i) (hi : i < 700000) (rest : Mem) :
    ∃ (a : Option Int) (ls' : List Int), absOk a ∧ StOk cs ls' (i + 1) ∧ r__law_bound [.ref 1] (stM cs ls i rest) = .ok (absW a) (stM cs ls' (i + 1) rest) := by
  obtain ⟨v, l1, a1, b1, h1, e1⟩ := draw_st h (by omega) 8 (by omega) (by omega) rest
  have ai : ∀ k : Int, 0 ≤ k → k ≤ 99 → absOk (some k) := fun k h1 h2 i e => by injection e with e; subst e; exact ⟨h1, h2⟩
  obtain ⟨a, ha, ea⟩ : ∃ a : Option Int, absOk a ∧ ∀ mm, ixM mm (.lst [.int 0, .int 1, .int 1, .int 2, .int 3, .int 4, .non, .non]) (.int v) = some (absW a) := by
    have : v = 0 ∨ v = 1 ∨ v = 2 ∨ v = 3 ∨ v = 4 ∨ v = 5 ∨ v = 6 ∨ v = 7 := by omega
    rcases this with rfl | rfl | rfl | rfl | rfl | rfl | rfl | rfl
    · exact ⟨some 0, ai _ (by decide) (by decide), fun _ => atI_get (n := 0) rfl rfl⟩
    · exact ⟨some 1, ai _ (by decide) (by decide), fun _ => atI_get (n := 1) rfl rfl⟩
    · exact ⟨some 1, ai _ (by decide) (by decide), fun _ => atI_get (n := 2) rfl rfl⟩
    · exact ⟨some 2, ai _ (by decide) (by decide), fun _ => atI_get (n := 3) rfl rfl⟩
    · exact ⟨some 3, ai _ (by decide) (by decide), fun _ => atI_get (n := 4) rfl rfl⟩
    · exact ⟨some 4, ai _ (by decide) (by decide), fun _ => atI_get (n := 5) rfl rfl⟩
    · exact ⟨none, (fun _ e => by cases e), fun _ => atI_get (n := 6) rfl rfl⟩
    · exact ⟨none, (fun _ e => by cases e), fun _ => atI_get (n := 7) rfl rfl⟩
  refine ⟨a, l1, ha, h1, ?_⟩
  unfold r__law_bound d__law_bound s__law_bound_0
  simp only [runD, start1, sRet, eBin, eLst, eTup, aCons, aNil, eC, eVar, eCall, Dn.R.bind, R.thenS, List.length_cons, List.length_nil, List.replicate, List.getElem?_cons_zero, List.getElem?_cons_succ, Nat.reduceAdd, Nat.reduceLeDiff, if_true, e1, ea, Nat.zero_add, Nat.zero_le]
theorem lof_ok {cs ls : List Int} {i : Int} (h : StOk cs ls i) (hi : i < 700000) (rest : Mem) (xs : List W) (hx : 0 < xs.length) (hx2 : xs.length < 1000) :
    ∃ (x : W) (ls' : List Int), x ∈ xs ∧ StOk cs ls' (i + 1) ∧ r__law_of [.ref 1, .lst xs] (stM cs ls i rest) = .ok x (stM cs ls' (i + 1) rest) := by
  obtain ⟨v, l1, a1, b1, h1, e1⟩ := draw_st h (by omega) ((xs.length : Nat) : Int) (by omega) (by omega) rest
  obtain ⟨n, rfl⟩ := Int.eq_ofNat_of_zero_le a1
  have hn : n < xs.length := by omega
  have ea : ∀ mm, ixM mm (.lst xs) (.int ((n : Nat) : Int)) = some (xs[n]) := fun _ => atI_get (n := n) rfl (List.getElem?_eq_getElem hn)
  refine ⟨xs[n], l1, List.getElem_mem hn, h1, ?_⟩
  unfold r__law_of d__law_of s__law_of_0
  simp only [runD, start2, sRet, eBin, eFn, aCons, aNil, eC, eVar, eCall, Dn.R.bind, R.thenS, List.length_cons, List.length_nil, List.replicate, List.getElem?_cons_zero, List.getElem?_cons_succ, Nat.reduceAdd, Nat.reduceLeDiff, if_true, lenW_l, e1, ea, Nat.zero_add, Nat.zero_le]
theorem rule_shB : allR.all (fun r => decide (shB r.w ≤ 90)) = true := by kernel_rfl
theorem rule_showable (r : Rule) (hr : r.Ok) : (toD r.w).showable = true := by
  have h1 : r.k = 1 ∨ r.k = 2 ∨ r.k = 3 := by have := hr.k1; have := hr.k3; omega
  have h2 : r.t = 0 ∨ r.t = 1 ∨ r.t = 2 ∨ r.t = 3 := by have := hr.t0; have := hr.tk; have := hr.k3; omega
  obtain ⟨k, t, a, b, c, d, e⟩ := r
  dsimp only at h1 h2
  rcases h1 with rfl | rfl | rfl <;> rcases h2 with rfl | rfl | rfl | rfl <;> kernel_rfl
/-- rows of some of the rules, told as texts -/
theorem repr_two {m : Mem} (f : Rule → Bool) : reprW m [.lst [.tup ((allR.filter f).map Rule.w), .tup ((allR.filter f).map Rule.w)]] = some (.str (toD (.lst [.tup ((allR.filter f).map Rule.w), .tup ((allR.filter f).map Rule.w)])).shown) := by
  have hk : ∀ r, r ∈ allR.filter f → shB r.w ≤ 90 := fun r hr => by
    have := List.all_eq_true.mp rule_shB r (List.mem_filter.mp hr).1
    simpa using this
  have hb := shBs_map hk
  have hl : (allR.filter f).length ≤ 432 := by rw [← allR_len]; exact List.length_filter_le _ _
  refine reprW_ok rfl ?_ ?_ ?_
  · have h1 : okWs 58 ((allR.filter f).map Rule.w) = true := okWs_map (ok_ruleW 57) _
    simp only [okW, okWs, h1, Bool.and_self]
  · have h1 : PyData.showableAll (toDs ((allR.filter f).map Rule.w)) = true := showable_all fun r hr => rule_showable r (allR_ok (List.mem_filter.mp hr).1)
    simp only [toD, toDs, PyData.showable, PyData.showableAll, h1, Bool.and_self]
  · simp only [shB, shBs]
    have : (allR.filter f).length * (90 + 2) ≤ 432 * 92 := Nat.mul_le_mul_right _ hl
    omega
theorem sorted_rules {m : Mem} {w : W} (f : Rule → Bool) (hw : lstOf m w = some ((allR.filter f).map Rule.w)) : sortedW m [w] = some ((allR.filter f).map Rule.w) := by
  have h1 : okWs 20 ((allR.filter f).map Rule.w) = true := okWs_map (ok_ruleW 19) _
  have h2 : alikeB ((allR.filter f).map Rule.w) = true := by
    unfold alikeB
    rw [List.all_eq_true]
    intro a ha
    rw [List.all_eq_true]
    intro b hb
    obtain ⟨x, _, rfl⟩ := List.mem_map.mp ha
    obtain ⟨y, _, rfl⟩ := List.mem_map.mp hb
    exact alike_rule x y
  have h3 : sortB ((allR.filter f).map Rule.w) = true := by
    unfold sortB
    rw [Bool.or_eq_true_iff]
    refine .inl ?_
    rw [List.all_eq_true]
    intro a ha
    obtain ⟨x, _, rfl⟩ := List.mem_map.mp ha
    rfl
  simp only [sortedW, hw, h1, h2, h3, Bool.and_self, if_true]
  rw [isort_map, sort_rules]
theorem no_false (f : Pr → Bool) (ps : List Pr) {m : Mem} : inM true m (.bl false) (.lst (ps.map fun p => .bl (f p))) = some (.bl (ps.all f)) := by
  have ok : okWs 60 (ps.map fun p => W.bl (f p)) = true := okWs_map (fun _ => rfl) ps
  have an : ∀ ps : List Pr, anyEq (.bl false) (ps.map fun p => .bl (f p)) = !ps.all f := fun ps => by
    induction ps with
    | nil => rfl
    | cons p ps ih =>
      rw [List.map_cons, anyEq, ih, List.all_cons, eqW]
      cases f p <;> rfl
  have rs : rsv m (.bl false) = .bl false := rfl
  have o3 : okW 60 (W.bl false) = true := rfl
  simp only [inM, seqOf, ok, rs, o3, an, Bool.and_self, if_true, Bool.not_not]
end
end L

/-! PR: a drawn rule, all alike often. -/
namespace L
open PySem PySem.Spec PyProof.Rows L2 Dn Rm
section
theorem lany_ok {cs ls : List Int} {i : Int} (h : StOk cs ls i) (hi : i < 700000) (rest : Mem) :
    ∃ (r : Rule) (ls' : List Int), r.Ok ∧ StOk cs ls' (i + 7) ∧ r__law_any_rule [.ref 1] (stM cs ls i rest) = .ok r.w (stM cs ls' (i + 7) rest) := by
  obtain ⟨v1, l1, a1, b1, h1, e1⟩ := draw_st h (by omega) 3 (by omega) (by omega) rest
  obtain ⟨v2, l2, a2, b2, h2, e2⟩ := draw_st h1 (by omega) 2 (by omega) (by omega) rest
  obtain ⟨v3, l3, a3, b3, h3, e3⟩ := draw_st h2 (by omega) 2 (by omega) (by omega) rest
  obtain ⟨v4, l4, a4, b4, h4, e4⟩ := draw_st h3 (by omega) 3 (by omega) (by omega) rest
  obtain ⟨v5, l5, a5, b5, h5, e5⟩ := draw_st h4 (by omega) 2 (by omega) (by omega) rest
  obtain ⟨v6, l6, a6, b6, h6, e6⟩ := draw_st h5 (by omega) (1 + v1 + 1) (by omega) (by omega) rest
  obtain ⟨v7, l7, a7, b7, h7, e7⟩ := draw_st h6 (by omega) 2 (by omega) (by omega) rest
  obtain ⟨k2, p2⟩ := two_of "line" "seen" askS rfl rfl v2 a2 b2
  obtain ⟨k3, p3⟩ := two_of "none" "on" (fun b => fillS (!b)) rfl rfl v3 a3 b3
  obtain ⟨k4, p4⟩ := back_of v4 a4 b4
  obtain ⟨k5, p5⟩ := two_of "quiet" "told" (fun b => letS (!b)) rfl rfl v5 a5 b5
  obtain ⟨k7, p7⟩ := two_of "asks" "claims" lostS rfl rfl v7 a7 b7
  have e : i + 1 + 1 + 1 + 1 + 1 + 1 + 1 = i + 7 := by omega
  refine ⟨⟨1 + v1, v6, k2, !k3, k4, !k5, k7⟩, l7, ⟨by simp only; omega, by simp only; omega, by simp only; omega, by simp only; omega⟩, by rw [← e]; exact h7, ?_⟩
  unfold r__law_any_rule d__law_any_rule s__law_any_rule_0 s__law_any_rule_1 s__law_any_rule_2 s__law_any_rule_3
  simp (disch := (simp)) only [runD, start1, sSeq, sSet, sRet, eVar, eC, eBin, eFn, eCall, eTup, eLst, aNil, aCons, Dn.R.bind, R.thenS, List.length_cons, List.length_nil, List.replicate, List.set, List.getElem?_cons_zero, List.getElem?_cons_succ, Nat.reduceAdd, Nat.zero_add, if_true, addW_i, addW_l, addW_t, tupleW_l, ixM, seqOf, e1, e2, e3, e4, e5, e6, e7, p2, p3, p4, p5, p7, Nat.reduceLeDiff, List.cons_append, List.nil_append]
  rw [e]
  rfl
end
end L

/-! P11a: what a rule bears, as the law asks it. -/
namespace L
open PySem PySem.Spec PyProof.Rows L2 Dn Rm
local macro_rules | `(tactic| wp_walk using $ts,*) => `(tactic| simp only [runD, start0, start1, start2, start3, start4, start5, sSeq, sSet, sRet, sExpr, sIf, sNil, sCont, sRetN, sPass, sBrk, sBad, sAsg, sSub, sFor, sPar, sAug, sPut, sPutA, eVar, eC, eBin, eFn, eCall, eAnd, eOr, eNot, eIf, eTup, eLst, eLstM, eIsi, eFz, eNw, aComp, iSeq, iEnumW, eFld, eMeth, eMake, eSl, oNone, oSome, eRev, eIdx, eChain, eApp, eFrz, dTest, dAnd, dOr, dNot, aNil, aCons, aStar, Dn.R.bind, R.thenS, List.length_cons, List.length_nil, List.length_map, List.replicate, List.set, List.getElem?_cons_zero, List.getElem?_cons_succ, List.cons_append, List.nil_append, Nat.reduceAdd, Nat.reduceSub, Nat.zero_add, if_true, if_false, Bool.false_eq_true, Bool.not_true, Bool.not_false, decide_true, decide_false, addW_i, subW_i, addI_i, intW_i, gtW_i, geW_i, ltW_i, leW_i, tupleW_l, tupleW_t, lenW_t, lenW_l, eqM_int, neM_int, inM_ints, inM_intsL, ixM_t, ixM_l, lstOf, seqOf, trkOf, wipeR, Nat.reduceLeDiff, rule0, rule1, rule2, rule3, rule4, rule5, rule6, gN, gT, gsCons, gsNil, Option.bind, GoesD, four_lt, and_self, Bool.and_true, Bool.true_and, Bool.and_false, Bool.false_and, Bool.or_true, Bool.true_or, Bool.or_false, Bool.false_or, $[$ts:term],*])
section
abbrev tenA : List (Option Int) := [some 0, some 1, some 2, some 3, some 4, some 5, some 6, some 7, some 99, none]
theorem tenA_ok (a : Option Int) (h : a ∈ tenA) : absOk a := by
  have ai : ∀ k : Int, 0 ≤ k → k ≤ 99 → absOk (some k) := fun k h1 h2 i e => by injection e with e; subst e; exact ⟨h1, h2⟩
  simp only [tenA, List.mem_cons, List.mem_nil_iff, or_false] at h
  rcases h with rfl | rfl | rfl | rfl | rfl | rfl | rfl | rfl | rfl | rfl
  all_goals first | exact ai _ (by decide) (by decide) | (intro _ e; cases e)
/-- the truths, and what is borne -/
def fiveT : List (List W × Option Int) := [
  (List.replicate 10 (.bl true), none),
  (List.replicate 3 (.bl true) ++ List.replicate 7 (.bl false), some 2),
  (List.replicate 2 (.bl true) ++ List.replicate 8 (.bl false), some 1),
  (List.replicate 1 (.bl true) ++ List.replicate 9 (.bl false), some 0),
  (List.replicate 10 (.bl false), some (-1))]
theorem truths_five {r : Rule} (hr : r.Ok) (ps : List Pr) (y : May) : (tenA.map fun a => W.bl (keepAll ps y a r), bearV ps y r) ∈ fiveT := by
  have big : ∀ i : Int, 3 ≤ i → keepAll ps y (some i) r = keepAll ps y none r := fun i hi => keepAll_big hr ps y i hi
  have e : (tenA.map fun a => W.bl (keepAll ps y a r)) = [.bl (keepAll ps y (some 0) r), .bl (keepAll ps y (some 1) r), .bl (keepAll ps y (some 2) r), .bl (keepAll ps y none r), .bl (keepAll ps y none r), .bl (keepAll ps y none r), .bl (keepAll ps y none r), .bl (keepAll ps y none r), .bl (keepAll ps y none r), .bl (keepAll ps y none r)] := by
    simp only [tenA, List.map_cons, List.map_nil, big 3 (by decide), big 4 (by decide), big 5 (by decide), big 6 (by decide), big 7 (by decide), big 99 (by decide)]
  rw [e]
  rcases bear_five hr ps y with ⟨h3, h2, h1, h0, hv⟩ | ⟨h3, h2, h1, h0, hv⟩ | ⟨h3, h2, h1, h0, hv⟩ | ⟨h3, h2, h1, h0, hv⟩ | ⟨h3, h2, h1, h0, hv⟩ <;> rw [h3, h2, h1, h0, hv]
  · exact .head _
  · exact .tail _ (.head _)
  · exact .tail _ (.tail _ (.head _))
  · exact .tail _ (.tail _ (.tail _ (.head _)))
  · exact .tail _ (.tail _ (.tail _ (.tail _ (.head _))))
/-- with all promises and events no rule bears as many as it has names -/
theorem bear_less {r : Rule} (hr : r.Ok) : ∃ b : Int, bearV [.door, .order, .place] ⟨true, true⟩ r = some b ∧ b < r.k := by
  have no : ∀ a : Option Int, (∀ i, a = some i → r.k ≤ i) → keepAll [.door, .order, .place] ⟨true, true⟩ a r = false := fun a ha => by
    have h0 : ¬ a = some 0 := fun e => by have := ha 0 e; have := hr.k1; omega
    have key : keepsDoor r ⟨true, true⟩ a = true → keepsOrder r ⟨true, true⟩ a = true → False := fun h1 h2 => by
      unfold keepsDoor at h1
      unfold keepsOrder at h2
      have k1 := hr.k1
      by_cases ht : r.t = r.k
      · have t0 : ¬ r.t = 0 := by omega
        rw [if_neg h0, if_neg t0, ht] at h2
        have am : atMost a (r.k - 1) = false := by
          cases a with
          | none => rfl
          | some i => exact decide_eq_false (by have := ha i rfl; omega)
        rw [am, decide_eq_false (Int.lt_irrefl _)] at h2
        split at h2 <;> cases h2
      · have am : atMost a r.t = false := by
          cases a with
          | none => rfl
          | some i => exact decide_eq_false (by have := ha i rfl; have := hr.tk; omega)
        rw [if_neg ht, if_pos am] at h1
        cases h1
    unfold keepAll
    cases h1 : keepsDoor r ⟨true, true⟩ a with
    | false =>
      show (keepsDoor r ⟨true, true⟩ a && _) = false
      rw [h1]; rfl
    | true =>
      cases h2 : keepsOrder r ⟨true, true⟩ a with
      | false =>
        show (keepsDoor r ⟨true, true⟩ a && (keepsOrder r ⟨true, true⟩ a && _)) = false
        rw [h1, h2]; rfl
      | true => exact (key h1 h2).elim
  have hn := no none (fun i e => by cases e)
  rcases bear_five hr [.door, .order, .place] ⟨true, true⟩ with ⟨h3, h2, h1, h0, hv⟩ | ⟨h3, h2, h1, h0, hv⟩ | ⟨h3, h2, h1, h0, hv⟩ | ⟨h3, h2, h1, h0, hv⟩ | ⟨h3, h2, h1, h0, hv⟩
  · rw [hn] at h3; cases h3
  · refine ⟨2, hv, ?_⟩
    by_cases q : r.k ≤ 2
    · have := no (some 2) (fun i e => by injection e with e; omega)
      rw [this] at h2; cases h2
    · omega
  · refine ⟨1, hv, ?_⟩
    by_cases q : r.k ≤ 1
    · have := no (some 1) (fun i e => by injection e with e; omega)
      rw [this] at h1; cases h1
    · omega
  · exact ⟨0, hv, by have := hr.k1; omega⟩
  · exact ⟨-1, hv, by have := hr.k1; omega⟩
abbrev fiveP : List W := [.tup [.str "door"], .tup [.str "order"], .tup [.str "place"], .tup [.str "door", .str "order"], .tup [.str "door", .str "order", .str "place"]]
theorem ps_five {x : W} (h : x ∈ fiveP) : ∃ ps, goodPs ps ∧ x = psW ps := by
  simp only [fiveP, List.mem_cons, List.mem_nil_iff, or_false] at h
  rcases h with rfl | rfl | rfl | rfl | rfl
  · exact ⟨[.door], .inl rfl, rfl⟩
  · exact ⟨[.order], .inr (.inl rfl), rfl⟩
  · exact ⟨[.place], .inr (.inr (.inl rfl)), rfl⟩
  · exact ⟨[.door, .order], .inr (.inr (.inr (.inl rfl))), rfl⟩
  · exact ⟨[.door, .order, .place], .inr (.inr (.inr (.inr (.inr (.inr rfl))))), rfl⟩
abbrev brR (r : Rule) (y : May) (ps : List Pr) (n : Nat) (a5 a6 a7 a8 : Option W) : Rho := [some (.ref 1), some r.w, some y.w, some (psW ps), some (.ref n), a5, a6, a7, a8]
theorem br_loop {r : Rule} (hr : r.Ok) (y : May) (ps : List Pr) (m : Mem) :
    ∃ a5, loop (gN 5) b__law_bears_right_0 (tenA.map absW) (brR r y ps m.length none none none none) (m ++ [.lst []]) = .next (brR r y ps m.length a5 none none none) (m ++ [.lst (tenA.map fun a => W.bl (keepAll ps y a r))]) := by
  obtain ⟨r', m', e1, ⟨a5, e2⟩, e3⟩ := loop_pre (t := gN 5) (body := b__law_bears_right_0) absW
    (fun pre r1 m1 => (∃ a5, r1 = brR r y ps m.length a5 none none none) ∧ m1 = m ++ [.lst (pre.map fun a => W.bl (keepAll ps y a r))])
    tenA (brR r y ps m.length none none none none) (m ++ [.lst []]) ⟨⟨_, rfl⟩, rfl⟩
    (fun pre a post r1 m1 hx ⟨⟨a5, h1⟩, h2⟩ => by
      subst h1 h2
      have ha : absOk a := tenA_ok a (by rw [hx]; exact List.mem_append_right _ (.head _))
      have hp : pre.length < 10 := by
        have := congrArg List.length hx
        simp at this
        omega
      have hl : pre.length < 16777216 := by omega
      have c2 : ∀ mm a8, compL (gN 8) dYes (eCall 4 r_does_keep (aCons (eVar 1) (aCons (eVar 8) (aCons (eVar 2) (aCons (eVar 5) aNil))))) [8] (ps.map fun p => .str p.s) [some (.ref 1), some r.w, some y.w, some (.tup (ps.map fun p => .str p.s)), some (.ref m.length), some (absW a), none, none, a8] mm = .ok (ps.map fun p => .bl (keepB r p y a)) mm := fun mm a8 =>
        compL_all (fun p : Pr => W.str p.s) (fun p => .bl (keepB r p y a)) (fun p => [some (.ref 1), some r.w, some y.w, some (.tup (ps.map fun p => .str p.s)), some (.ref m.length), some (absW a), none, none, some (.str p.s)]) ps (fun _ _ => rfl) fun p _ => (by
          have := does_keep_ok (m := mm) (r := r) hr p y a ha
          wp_walk using this)
      have gl : ∀ c, (m ++ [c])[m.length]? = some c := fun c => by simp
      have sl : ∀ c d, (m ++ [c]).set m.length d = m ++ [d] := fun c d => by simp
      have hk : (ps.all fun p => keepB r p y a) = keepAll ps y a r := rfl
      unfold Steps b__law_bears_right_0 brR psW
      rw [List.map_append]
      wp_walk using c2, no_false, hk, gl, sl, hl
      exact ⟨⟨_, rfl⟩, rfl⟩)
  subst e2 e3
  exact ⟨a5, e1⟩
theorem bears_right_ok {cs ls : List Int} {i : Int} (h : StOk cs ls i) (hi : i < 600000) (rest : Mem) :
    ∃ (ls' : List Int) (rest' : Mem), StOk cs ls' (i + 9) ∧ r__law_bears_right [.ref 1] (stM cs ls i rest) = .ok (.bl true) (stM cs ls' (i + 9) rest') := by
  obtain ⟨r, l1, hr, s1, e1⟩ := lany_ok h (by omega) rest
  obtain ⟨y, l2, s2, e2⟩ := lmays_ok s1 (by omega) rest
  obtain ⟨x, l3, hx, s3, e3⟩ := lof_ok s2 (by omega) rest fiveP (by decide) (by decide)
  obtain ⟨ps, hps, rfl⟩ := ps_five hx
  have ei : i + 7 + 1 + 1 = i + 9 := by omega
  rw [ei] at s3 e3
  obtain ⟨a5, e4⟩ := br_loop hr y ps (stM cs l3 (i + 9) rest)
  have five := truths_five hr ps y
  have bo := fun m => bears_ok (m := m) hr ps hps y
  obtain ⟨b, hb, hbk⟩ := bear_less hr
  have bf := fun m => bears_ok (m := m) hr [.door, .order, .place] (.inr (.inr (.inr (.inr (.inr (.inr rfl)))))) ⟨true, true⟩
  rw [hb] at bf
  have bf' : ∀ m, r_bears [r.w, .tup [.str "door", .str "order", .str "place"], .tup [.str "let", .str "out"]] m = .ok (.int b) m := bf
  generalize htl : (tenA.map fun a => W.bl (keepAll ps y a r)) = tl at five e4
  generalize hbv : bearV ps y r = bv at five bo
  have st0 : s__law_bears_right_0 [some (.ref 1), none, none, none, none, none, none, none, none] (stM cs ls i rest) = .next [some (.ref 1), some r.w, some y.w, none, none, none, none, none, none] (stM cs l2 (i + 7 + 1) rest) := by
    unfold s__law_bears_right_0
    wp_walk using e1, e2
  have st1 : s__law_bears_right_1 [some (.ref 1), some r.w, some y.w, none, none, none, none, none, none] (stM cs l2 (i + 7 + 1) rest) = .next [some (.ref 1), some r.w, some y.w, some (psW ps), none, none, none, none, none] (stM cs l3 (i + 9) rest) := by
    unfold s__law_bears_right_1
    wp_walk using e3
  have st2 : s__law_bears_right_2 [some (.ref 1), some r.w, some y.w, some (psW ps), none, none, none, none, none] (stM cs l3 (i + 9) rest) = .next (brR r y ps (stM cs l3 (i + 9) rest).length none none none none) (stM cs l3 (i + 9) rest ++ [.lst []]) := rfl
  have st3 : s__law_bears_right_3 (brR r y ps (stM cs l3 (i + 9) rest).length none none none none) (stM cs l3 (i + 9) rest ++ [.lst []]) = .next (brR r y ps (stM cs l3 (i + 9) rest).length a5 none none none) (stM cs l3 (i + 9) rest ++ [.lst tl]) := by
    unfold s__law_bears_right_3
    exact e4
  generalize hmm : stM cs l3 (i + 9) rest ++ [.lst tl] = mm at st3
  generalize hn : (stM cs l3 (i + 9) rest).length = n at st2 st3
  have at4 : mm[n]? = some (.lst tl) := by rw [← hmm, ← hn]; simp
  have st4 : s__law_bears_right_4 (brR r y ps n a5 none none none) mm = .next (brR r y ps n a5 none none none) mm := by
    have so : sortedW mm [.ref n] = some tl.reverse := by
      simp only [sortedW, lstOf, at4]
      simp only [fiveT, List.mem_cons, List.mem_nil_iff, or_false, Prod.mk.injEq] at five
      rcases five with ⟨rfl, _⟩ | ⟨rfl, _⟩ | ⟨rfl, _⟩ | ⟨rfl, _⟩ | ⟨rfl, _⟩ <;> kernel_rfl
    have ne : neM mm (.ref n) (.lst tl.reverse.reverse) = some (.bl false) := by
      have rs : rsv mm (.ref n) = .lst tl := by simp only [rsv, at4]
      rw [List.reverse_reverse]
      simp only [neM, rs]
      simp only [fiveT, List.mem_cons, List.mem_nil_iff, or_false, Prod.mk.injEq] at five
      rcases five with ⟨rfl, _⟩ | ⟨rfl, _⟩ | ⟨rfl, _⟩ | ⟨rfl, _⟩ | ⟨rfl, _⟩ <;> kernel_rfl
    unfold s__law_bears_right_4
    rw [sIf_ok (a := false)]
    · rfl
    · refine dTest_ok (eBin_ok (x := .ref n) (y := .lst tl.reverse.reverse) rfl ?_ ne)
      simp only [eRev, eFz, aFn, aCons, aNil, eVar, brR, List.getElem?_cons_zero, List.getElem?_cons_succ, Dn.R.bind, so, lstOf]
  have st5 : s__law_bears_right_5 (brR r y ps n a5 none none none) mm = .next (brR r y ps n a5 (some (absW bv)) none none) mm := by
    have fin : ∀ (b : Bool) (j : Int), ixM mm (.ref n) (.int (-1)) = some (.bl b) → (b = true → bv = none) → (b = false → idxW mm (.ref n) (.bl false) = some (.int j) ∧ bv = some (j - 1)) → s__law_bears_right_5 (brR r y ps n a5 none none none) mm = .next (brR r y ps n a5 (some (absW bv)) none none) mm := fun b j h1 h2 h3 => by
      have tr : trkOf mm (.ref n) = some tl := by simp only [trkOf, at4]
      have t1 : dTest (eBin ixM (eVar 4) (eNeg (eC (.int 1)))) (brR r y ps n a5 none none none) mm = .ok b mm := dTest_ok (eBin_ok rfl rfl h1)
      unfold s__law_bears_right_5
      refine sSet_ok (x := absW bv) ?_
      simp only [eIf, t1, Dn.R.bind]
      cases b with
      | true =>
        rw [h2 rfl]
        rfl
      | false =>
        obtain ⟨h4, h5⟩ := h3 rfl
        rw [h5]
        simp only [Bool.false_eq_true, if_false, eBin, eIdx, eVar, brR, eC, List.getElem?_cons_zero, List.getElem?_cons_succ, Dn.R.bind, tr, h4, subW_i]
        rfl
    simp only [fiveT, List.mem_cons, List.mem_nil_iff, or_false, Prod.mk.injEq] at five
    rcases five with ⟨ht, hb⟩ | ⟨ht, hb⟩ | ⟨ht, hb⟩ | ⟨ht, hb⟩ | ⟨ht, hb⟩ <;> subst ht hb
    · exact fin true 0 (by simp only [ixM, seqOf, at4]; kernel_rfl) (fun _ => rfl) (fun h => by cases h)
    · exact fin false 3 (by simp only [ixM, seqOf, at4]; kernel_rfl) (fun h => by cases h) (fun _ => ⟨by simp only [idxW, trkOf, at4]; kernel_rfl, rfl⟩)
    · exact fin false 2 (by simp only [ixM, seqOf, at4]; kernel_rfl) (fun h => by cases h) (fun _ => ⟨by simp only [idxW, trkOf, at4]; kernel_rfl, rfl⟩)
    · exact fin false 1 (by simp only [ixM, seqOf, at4]; kernel_rfl) (fun h => by cases h) (fun _ => ⟨by simp only [idxW, trkOf, at4]; kernel_rfl, rfl⟩)
    · exact fin false 0 (by simp only [ixM, seqOf, at4]; kernel_rfl) (fun h => by cases h) (fun _ => ⟨by simp only [idxW, trkOf, at4]; kernel_rfl, rfl⟩)
  have st6 : s__law_bears_right_6 (brR r y ps n a5 (some (absW bv)) none none) mm = .next (brR r y ps n a5 (some (absW bv)) none none) mm := by
    have rp : ∃ x, reprW mm [.lst [absW bv, absW bv]] = some (.str x) := by
      refine ⟨(toD (.lst [absW bv, absW bv])).shown, ?_⟩
      simp only [fiveT, List.mem_cons, List.mem_nil_iff, or_false, Prod.mk.injEq] at five
      rcases five with ⟨_, rfl⟩ | ⟨_, rfl⟩ | ⟨_, rfl⟩ | ⟨_, rfl⟩ | ⟨_, rfl⟩ <;> kernel_rfl
    obtain ⟨x, rp⟩ := rp
    have mu : mulW mm (.lst [absW bv]) (.int 2) = some (.lst [absW bv, absW bv]) := rfl
    unfold s__law_bears_right_6 brR
    wp_walk using bo, mu, rp, neS_same
  have st7 : s__law_bears_right_7 (brR r y ps n a5 (some (absW bv)) none none) mm = .next (brR r y ps n a5 (some (absW bv)) (some (.int b)) none) mm := by
    unfold s__law_bears_right_7 brR
    wp_walk using bf'
  have st8 : s__law_bears_right_8 (brR r y ps n a5 (some (absW bv)) (some (.int b)) none) mm = .ret (.bl true) mm := by
    unfold s__law_bears_right_8 brR
    have nn : notNonW mm (.int b) .non = some (.bl true) := rfl
    wp_walk using nn, decide_eq_true hbk
  refine ⟨l3, rest ++ [.lst tl], s3, ?_⟩
  unfold r__law_bears_right d__law_bears_right runD
  rw [start1]
  simp only [List.replicate]
  rw [seqN st0, seqN st1, seqN st2, seqN st3, seqN st4, seqN st5, seqN st6, seqN st7, st8, ← hmm]
  rfl
end
end L

/-! P11b: the law of bearing and of nearest rules. -/
namespace L
open PySem PySem.Spec PyProof.Rows L2 Dn Rm
local macro_rules | `(tactic| wp_walk using $ts,*) => `(tactic| simp only [runD, start0, start1, start2, start3, start4, start5, sSeq, sSet, sRet, sExpr, sIf, sNil, sCont, sRetN, sPass, sBrk, sBad, sAsg, sSub, sFor, sPar, sAug, sPut, sPutA, eVar, eC, eBin, eFn, eCall, eAnd, eOr, eNot, eIf, eTup, eLst, eLstM, eIsi, eFz, eNw, aComp, iSeq, iEnumW, eFld, eMeth, eMake, eSl, oNone, oSome, eRev, eIdx, eChain, eApp, eFrz, dTest, dAnd, dOr, dNot, aNil, aCons, aStar, Dn.R.bind, R.thenS, List.length_cons, List.length_nil, List.length_map, List.replicate, List.set, List.getElem?_cons_zero, List.getElem?_cons_succ, List.cons_append, List.nil_append, Nat.reduceAdd, Nat.reduceSub, Nat.zero_add, if_true, if_false, Bool.false_eq_true, Bool.not_true, Bool.not_false, decide_true, decide_false, addW_i, subW_i, addI_i, intW_i, gtW_i, geW_i, ltW_i, leW_i, tupleW_l, tupleW_t, lenW_t, lenW_l, eqM_int, neM_int, inM_ints, inM_intsL, ixM_t, ixM_l, lstOf, seqOf, trkOf, wipeR, Nat.reduceLeDiff, rule0, rule1, rule2, rule3, rule4, rule5, rule6, gN, gT, gsCons, gsNil, Option.bind, GoesD, four_lt, and_self, Bool.and_true, Bool.true_and, Bool.and_false, Bool.false_and, Bool.or_true, Bool.true_or, Bool.or_false, Bool.false_or, $[$ts:term],*])
section
/-! ### plain -/
theorem minI_app (d : Int) : ∀ ns : List Int, minI (ns ++ [d]) = if ns.isEmpty then d else min (minI ns) d
  | [] => rfl
  | [n] => rfl
  | n :: k :: ns => by
    have ih := minI_app d (k :: ns)
    have e : (n :: k :: ns) ++ [d] = n :: ((k :: ns) ++ [d]) := rfl
    have e2 : ∃ z zs, (k :: ns) ++ [d] = z :: zs := ⟨k, ns ++ [d], rfl⟩
    obtain ⟨z, zs, e2⟩ := e2
    rw [e, e2, minI, ← e2, ih]
    · simp only [List.isEmpty_cons, Bool.false_eq_true, if_false, minI]
      rw [Int.min_assoc]
    · intro q; cases q
theorem minI_le : ∀ (ns : List Int) (c : Int), ns ≠ [] → (∀ n, n ∈ ns → n ≤ c) → minI ns ≤ c
  | [], _, h, _ => absurd rfl h
  | [n], c, _, h => h n (.head _)
  | n :: k :: ns, c, _, h => by
    rw [minI]
    · exact Int.le_trans (Int.min_le_left _ _) (h n (.head _))
    · intro q; cases q
theorem minI_mem : ∀ (ns : List Int), ns ≠ [] → minI ns ∈ ns
  | [], h => absurd rfl h
  | [n], _ => .head _
  | n :: k :: ns, _ => by
    rw [minI]
    · have ih := minI_mem (k :: ns) (by intro q; cases q)
      have q : min n (minI (k :: ns)) = n ∨ min n (minI (k :: ns)) = minI (k :: ns) := by omega
      rcases q with e | e
      · rw [e]; exact .head _
      · rw [e]; exact .tail _ ih
    · intro q; cases q
theorem minI_lb : ∀ (ns : List Int) (n : Int), n ∈ ns → minI ns ≤ n
  | [], _, h => by cases h
  | [k], n, h => by simp at h; subst h; exact Int.le_refl _
  | j :: k :: ns, n, h => by
    rw [minI]
    · rcases List.mem_cons.mp h with rfl | h
      · exact Int.min_le_left _ _
      · exact Int.le_trans (Int.min_le_right _ _) (minI_lb (k :: ns) n h)
    · intro q; cases q
theorem few_nine (r : Rule) (l : List Rule) : minI (l.map (chg r) ++ [9]) = if l.isEmpty then 9 else leastC r l := by
  rw [minI_app]
  cases l with
  | nil => rfl
  | cons x l =>
    have h : minI ((x :: l).map (chg r)) ≤ 7 := minI_le _ 7 (by simp) fun n hn => by
      obtain ⟨s, _, rfl⟩ := List.mem_map.mp hn
      exact (chg_le r s).2
    simp only [List.map_cons, List.isEmpty_cons, Bool.false_eq_true, if_false, leastC] at h ⊢
    omega
theorem near_nine (r : Rule) (l : List Rule) : l.filter (fun s => decide (chg r s = if l.isEmpty then 9 else leastC r l)) = nearR r l := by
  cases l with
  | nil => rfl
  | cons x l => rfl
theorem nodup_filter_eq {α : Type} [DecidableEq α] {a : α} : ∀ {l : List α}, l.Nodup → a ∈ l → l.filter (fun x => decide (a = x)) = [a]
  | [], _, h => by cases h
  | x :: l, hn, h => by
    have hn' := List.nodup_cons.mp hn
    by_cases q : a = x
    · subst q
      rw [List.filter_cons, decide_eq_true rfl, if_pos rfl]
      congr 1
      rw [List.filter_eq_nil_iff]
      intro y hy e
      have : a = y := by simpa using e
      subst this
      exact hn'.1 hy
    · rw [List.filter_cons, decide_eq_false q, if_neg (by decide)]
      rcases List.mem_cons.mp h with e | h
      · exact absurd e q
      · exact nodup_filter_eq hn'.2 h
theorem near_self {r : Rule} {l : List Rule} (hn : l.Nodup) (h : r ∈ l) : nearR r l = [r] := by
  have hz : leastC r l = 0 := by
    cases l with
    | nil => cases h
    | cons x l =>
      have e : leastC r (x :: l) = minI ((x :: l).map (chg r)) := rfl
      have h1 := minI_lb ((x :: l).map (chg r)) (chg r r) (List.mem_map.mpr ⟨r, h, rfl⟩)
      have h2 := minI_mem ((x :: l).map (chg r)) (by simp)
      obtain ⟨s, _, h3⟩ := List.mem_map.mp h2
      have := (chg_le r s).1
      have h4 : chg r r = 0 := (chg_zero r r).mpr rfl
      omega
  unfold nearR
  rw [hz]
  have e : (fun s => decide (chg r s = 0)) = fun s => decide (r = s) := by
    funext s
    rw [Bool.eq_iff_iff, decide_eq_true_eq, decide_eq_true_eq, chg_zero]
  rw [e]
  exact nodup_filter_eq hn h
def codeR (r : Rule) : Nat := ((((((r.k.toNat * 4 + r.t.toNat) * 2 + (if r.line then 0 else 1)) * 2 + (if r.on then 1 else 0)) * 3 + (match r.bk with | .asks => 0 | .old => 1 | .tells => 2)) * 2 + (if r.told then 1 else 0)) * 2 + (if r.asks then 0 else 1))
theorem allR_codes : chainB (fun a b => decide (codeR a < codeR b)) allR = true := by kernel_rfl
theorem allR_nodup : allR.Nodup :=
  (chain_pw (fun a b c h1 h2 => by rw [decide_eq_true_eq] at *; omega) allR_codes).imp fun {a b} h e => by
    subst e
    rw [decide_eq_true_eq] at h
    omega
theorem eqW_askS (a b : Bool) : eqW (.str (askS a)) (.str (askS b)) = (a == b) := by cases a <;> cases b <;> kernel_rfl
theorem eqW_fillS (a b : Bool) : eqW (.str (fillS a)) (.str (fillS b)) = (a == b) := by cases a <;> cases b <;> kernel_rfl
theorem eqW_letS (a b : Bool) : eqW (.str (letS a)) (.str (letS b)) = (a == b) := by cases a <;> cases b <;> kernel_rfl
theorem eqW_lostS (a b : Bool) : eqW (.str (lostS a)) (.str (lostS b)) = (a == b) := by cases a <;> cases b <;> kernel_rfl
theorem eqW_bkS (a b : Bk) : eqW (.str a.s) (.str b.s) = decide (a = b) := by cases a <;> cases b <;> kernel_rfl
theorem eqW_tup (xs ys : List W) : eqW (.tup xs) (.tup ys) = eqWs xs ys := by rw [eqW]
theorem eqW_rule (a b : Rule) : eqW a.w b.w = decide (a = b) := by
  obtain ⟨k, t, a1, a2, a3, a4, a5⟩ := a
  obtain ⟨k', t', b1, b2, b3, b4, b5⟩ := b
  have h : eqW (Rule.w ⟨k, t, a1, a2, a3, a4, a5⟩) (Rule.w ⟨k', t', b1, b2, b3, b4, b5⟩) = (eqW (.int k) (.int k') && (eqW (.int t) (.int t') && (eqW (.str (askS a1)) (.str (askS b1)) && (eqW (.str (fillS a2)) (.str (fillS b2)) && (eqW (.str a3.s) (.str b3.s) && (eqW (.str (letS a4)) (.str (letS b4)) && (eqW (.str (lostS a5)) (.str (lostS b5)) && true))))))) := by
    unfold Rule.w
    rw [eqW_tup]
    simp only [eqWs]
  have e0 : ∀ i j : Int, eqW (.int i) (.int j) = (i == j) := fun _ _ => by rw [eqW]
  rw [h, eqW_askS, eqW_fillS, eqW_bkS, eqW_letS, eqW_lostS, e0, e0, Bool.eq_iff_iff]
  simp only [Bool.and_eq_true, beq_iff_eq, decide_eq_true_eq, Rule.mk.injEq, and_true]
theorem anyEq_rules (r : Rule) : ∀ l : List Rule, anyEq r.w (l.map Rule.w) = decide (r ∈ l)
  | [] => rfl
  | s :: l => by
    rw [List.map_cons, anyEq, anyEq_rules r l, eqW_rule, Bool.eq_iff_iff]
    simp only [Bool.or_eq_true, decide_eq_true_eq, List.mem_cons]
    constructor
    · rintro (h | h)
      · exact .inl h.symm
      · exact .inr h
    · rintro (h | h)
      · exact .inl h.symm
      · exact .inr h
theorem in_rules {m : Mem} {n : Nat} {l : List Rule} (r : Rule) (h : seqOf m (.ref n) = some (l.map Rule.w)) : inM false m r.w (.ref n) = some (.bl (decide (r ∈ l))) := by
  have o1 : okWs 60 (l.map Rule.w) = true := okWs_map (ok_ruleW 59) l
  have o2 : okW 60 r.w = true := ok_ruleW 59 r
  simp only [inM, h, o1, rsv_ok o2, o2, anyEq_rules, Bool.and_self, if_true, Bool.false_eq_true, if_false]
/-! ### the rules that keep, found by the law -/
abbrev k11 (r0 a2 a3 : Option W) (y : May) (a : Option Int) (ps : List Pr) (n : Nat) (a8 a9 a10 a11 a12 a13 a14 a15 a16 : Option W) : Rho := [r0, some (.ref 1), a2, a3, some y.w, some (absW a), some (psW ps), some (.ref n), a8, a9, a10, a11, a12, a13, a14, a15, a16]
theorem k11_loop (r0 a2 a3 b8 a9 a10 a11 a12 a13 a14 a15 a16 : Option W) (y : May) (a : Option Int) (ps : List Pr) (m : Mem) :
    ∃ a8, loop (gN 8) b_law_0 (allR.map Rule.w) (k11 r0 a2 a3 y a ps m.length b8 a9 a10 a11 a12 a13 a14 a15 a16) (m ++ [.lst []]) = .next (k11 r0 a2 a3 y a ps m.length a8 a9 a10 a11 a12 a13 a14 a15 a16) (m ++ [.lst ((allR.filter (keepAll ps y a)).map Rule.w)]) := by
  obtain ⟨r', m', e1, ⟨a8, e2⟩, e3⟩ := loop_pre (t := gN 8) (body := b_law_0) Rule.w
    (fun pre r1 m1 => (∃ a8, r1 = k11 r0 a2 a3 y a ps m.length a8 a9 a10 a11 a12 a13 a14 a15 a16) ∧ m1 = m ++ [.lst ((pre.filter (keepAll ps y a)).map Rule.w)])
    allR (k11 r0 a2 a3 y a ps m.length b8 a9 a10 a11 a12 a13 a14 a15 a16) (m ++ [.lst []]) ⟨⟨_, rfl⟩, rfl⟩
    (fun pre r post r1 m1 hx ⟨⟨a8, h1⟩, h2⟩ => by
      subst h1 h2
      have hp : pre.length < 432 := by
        have := congrArg List.length hx
        rw [allR_len, List.length_append, List.length_cons] at this
        omega
      have hl : (pre.filter (keepAll ps y a)).length < 16777216 := by
        have := List.length_filter_le (keepAll ps y a) pre
        omega
      have c1 : ∀ mm, compL (gN 15) dYes (eCall 4 r__law_keeps (aCons (eVar 8) (aCons (eVar 15) (aCons (eVar 4) (aCons (eVar 5) aNil))))) [15] (ps.map fun p => .str p.s) [r0, some (.ref 1), a2, a3, some y.w, some (absW a), some (.tup (ps.map fun p => .str p.s)), some (.ref m.length), some r.w, a9, a10, a11, a12, a13, a14, a15, a16] mm = .ok (ps.map fun p => .bl (keepB r p y a)) mm := fun mm =>
        compL_all (fun p : Pr => W.str p.s) (fun p => .bl (keepB r p y a)) (fun p => [r0, some (.ref 1), a2, a3, some y.w, some (absW a), some (.tup (ps.map fun p => .str p.s)), some (.ref m.length), some r.w, a9, a10, a11, a12, a13, a14, some (.str p.s), a16]) ps (fun _ _ => rfl) fun p _ => (by
          have := lkeeps_ok (m := mm) (r := r) p y a
          wp_walk using this)
      have gl : ∀ c, (m ++ [c])[m.length]? = some c := fun c => by simp
      have sl : ∀ c d, (m ++ [c]).set m.length d = m ++ [d] := fun c d => by simp
      unfold Steps b_law_0 k11 psW
      rw [List.filter_append, List.map_append, List.filter_cons]
      cases hk : keepAll ps y a r with
      | true =>
        have hk' : (ps.all fun p => keepB r p y a) = true := hk
        wp_walk using c1, no_false, hk', gl, sl, hl
        exact ⟨⟨_, rfl⟩, rfl⟩
      | false =>
        have hk' : (ps.all fun p => keepB r p y a) = false := hk
        wp_walk using c1, no_false, hk', gl, sl, hl
        exact ⟨⟨_, rfl⟩, by simp⟩)
  subst e2 e3
  exact ⟨a8, e1⟩
end
end L

/-! P11c: a turn of the law, and the law. -/
namespace L
open PySem PySem.Spec PyProof.Rows L2 Dn Rm
local macro_rules | `(tactic| wp_walk using $ts,*) => `(tactic| simp only [runD, start0, start1, start2, start3, start4, start5, sSeq, sSet, sRet, sExpr, sIf, sNil, sCont, sRetN, sPass, sBrk, sBad, sAsg, sSub, sFor, sPar, sAug, sPut, sPutA, eVar, eC, eBin, eFn, eCall, eAnd, eOr, eNot, eIf, eTup, eLst, eLstM, eIsi, eFz, eNw, aComp, iSeq, iEnumW, eFld, eMeth, eMake, eSl, oNone, oSome, eRev, eIdx, eChain, eApp, eFrz, dTest, dAnd, dOr, dNot, aNil, aCons, aStar, Dn.R.bind, R.thenS, List.length_cons, List.length_nil, List.length_map, List.replicate, List.set, List.getElem?_cons_zero, List.getElem?_cons_succ, List.cons_append, List.nil_append, Nat.reduceAdd, Nat.reduceSub, Nat.zero_add, if_true, if_false, Bool.false_eq_true, Bool.not_true, Bool.not_false, decide_true, decide_false, addW_i, subW_i, addI_i, intW_i, gtW_i, geW_i, ltW_i, leW_i, tupleW_l, tupleW_t, lenW_t, lenW_l, eqM_int, neM_int, inM_ints, inM_intsL, ixM_t, ixM_l, lstOf, seqOf, trkOf, wipeR, Nat.reduceLeDiff, rule0, rule1, rule2, rule3, rule4, rule5, rule6, gN, gT, gsCons, gsNil, Option.bind, GoesD, four_lt, and_self, Bool.and_true, Bool.true_and, Bool.and_false, Bool.false_and, Bool.or_true, Bool.true_or, Bool.or_false, Bool.false_or, $[$ts:term],*])
section
theorem near_filter (r : Rule) (k : Rule → Bool) : nearR r (allR.filter k) = allR.filter fun s => decide (chg r s = leastC r (allR.filter k)) && k s := by
  unfold nearR
  rw [List.filter_filter]
theorem minLW_nine {m : Mem} (ns : List Int) : minLW m [.lst (ns.map .int ++ [.int 9])] = some (.int (minI (ns ++ [9]))) := by
  have e : ns.map W.int ++ [.int 9] = (ns ++ [9]).map .int := by simp
  rw [e]
  simp only [minLW, lstOf, intsW_map]
  cases ns <;> rfl
theorem add_nine {m : Mem} (ns : List Int) (h : ns.length ≤ 1000) : addW m (.lst (ns.map .int)) (.lst [.int 9]) = some (.lst (ns.map .int ++ [.int 9])) := addW_l (by rw [List.length_map]; simp; omega)
theorem keep_len (k : Rule → Bool) : (allR.filter k).length ≤ 432 := by rw [← allR_len]; exact List.length_filter_le _ _
theorem names_nine (k : Rule → Bool) : ∃ v : Int, minI ((allR.filter k).map (·.k) ++ [9]) = v ∧ fewN (allR.filter k) = (if v = 9 then .non else .int v) ∧ 1 ≤ v ∧ (v ≤ 3 ∨ v = 9) := by
  refine ⟨_, rfl, ?_⟩
  rw [minI_app]
  have hm := minI_mem ((allR.filter k).map (·.k))
  have hok : ∀ s, s ∈ allR.filter k → 1 ≤ s.k ∧ s.k ≤ 3 := fun s hs => by
    have := allR_ok (List.mem_filter.mp hs).1
    exact ⟨this.k1, this.k3⟩
  generalize allR.filter k = l at hm hok
  cases l with
  | nil => exact ⟨rfl, by decide, .inr rfl⟩
  | cons x l =>
    have hm' := hm (by simp)
    obtain ⟨s, hs, he⟩ := List.mem_map.mp hm'
    have := hok s hs
    have e : (if ((x :: l).map (·.k)).isEmpty = true then (9 : Int) else min (minI ((x :: l).map (·.k))) 9) = minI ((x :: l).map (·.k)) := by
      rw [List.map_cons, List.isEmpty_cons, if_neg (by decide)]
      rw [List.map_cons] at he
      omega
    rw [e]
    refine ⟨?_, by omega, .inl (by omega)⟩
    rw [if_neg (by omega)]
    rfl
theorem repr_few {m : Mem} (v : Int) (h1 : 1 ≤ v) (h2 : v ≤ 3 ∨ v = 9) : ∃ x, reprW m [if v = 9 then .non else .int v] = some (.str x) := by
  have : v = 1 ∨ v = 2 ∨ v = 3 ∨ v = 9 := by omega
  refine ⟨(toD (if v = 9 then .non else .int v)).shown, ?_⟩
  rcases this with rfl | rfl | rfl | rfl <;> kernel_rfl
theorem turn11 {cs ls : List Int} {i : Int} (h : StOk cs ls i) (hi : i < 500000) (rest : Mem) (r0 a2 a3 a4 a5 a6 a7 a8 a9 a10 a11 a12 a13 a14 a15 a16 : Option W) :
    ∃ ls' rest' a3' a4' a5' a6' a7' a8' a9' a10' a11' a12', StOk cs ls' (i + 44) ∧ b_law_1 [r0, some (.ref 1), a2, a3, a4, a5, a6, a7, a8, a9, a10, a11, a12, a13, a14, a15, a16] (stM cs ls i rest) = .next [r0, some (.ref 1), a2, a3', a4', a5', a6', a7', a8', a9', a10', a11', a12', a13, a14, a15, a16] (stM cs ls' (i + 44) rest') := by
  obtain ⟨l1, t1, s1, e1⟩ := bears_right_ok h (by omega) rest
  obtain ⟨l2, t2, s2, e2⟩ := bears_right_ok s1 (by omega) t1
  obtain ⟨l3, t3, s3, e3⟩ := bears_right_ok s2 (by omega) t2
  obtain ⟨r, l4, hr, s4, e4⟩ := lany_ok s3 (by omega) t3
  obtain ⟨y, l5, s5, e5⟩ := lmays_ok s4 (by omega) t3
  obtain ⟨a, l6, ha, s6, e6⟩ := lbound_ok s5 (by omega) t3
  obtain ⟨x, l7, hx, s7, e7⟩ := lof_ok s6 (by omega) t3 fiveP (by decide) (by decide)
  obtain ⟨ps, hps, rfl⟩ := ps_five hx
  obtain ⟨b8, e8⟩ := k11_loop r0 a2 (some r.w) a8 a9 a10 a11 a12 a13 a14 a15 a16 y a ps (stM cs l7 (i + 9 + 9 + 9 + 7 + 1 + 1 + 1) t3)
  have hlen := keep_len (keepAll ps y a)
  have hnd : (allR.filter (keepAll ps y a)).Nodup := allR_nodup.sublist List.filter_sublist
  have nr := fun m => nearestR_ok (m := m) hr ps hps y a ha
  have fn := fun m => fewest_names_ok (m := m) ps hps y a ha
  obtain ⟨v, hv, hfew, v1, v2⟩ := names_nine (keepAll ps y a)
  have rp2 := fun m => repr_two (m := m) fun s => decide (chg r s = leastC r (allR.filter (keepAll ps y a))) && keepAll ps y a s
  have so := fun m w hw => sorted_rules (m := m) (w := w) (fun s => decide (chg r s = leastC r (allR.filter (keepAll ps y a))) && keepAll ps y a s) hw
  rw [← near_filter] at rp2 so
  have nn := near_nine r (allR.filter (keepAll ps y a))
  have fnine := few_nine r (allR.filter (keepAll ps y a))
  generalize hL : allR.filter (keepAll ps y a) = L at *
  generalize hM : stM cs l7 (i + 9 + 9 + 9 + 7 + 1 + 1 + 1) t3 = M at e8
  generalize hG : (if L.isEmpty = true then (9 : Int) else leastC r L) = few at nn fnine
  have M2 : ∃ q, M ++ [.lst (L.map Rule.w)] = q := ⟨_, rfl⟩
  obtain ⟨MM, hMM⟩ := M2
  have atn : MM[M.length]? = some (.lst (L.map Rule.w)) := by rw [← hMM]; simp
  have MF0 : ∃ q, M ++ [.fz (L.map Rule.w)] = q := ⟨_, rfl⟩
  obtain ⟨MF, hMF⟩ := MF0
  have setn : MM.set M.length (.fz (L.map Rule.w)) = MF := by rw [← hMM, ← hMF]; simp
  have atf : MF[M.length]? = some (.fz (L.map Rule.w)) := by rw [← hMF]; simp
  have hMM2 : MF = stM cs l7 (i + 9 + 9 + 9 + 7 + 1 + 1 + 1) (t3 ++ [.fz (L.map Rule.w)]) := by rw [← hMF, ← hM]; rfl
  obtain ⟨o, l9, ho, s9, e9⟩ := lany_ok s7 (by omega) (t3 ++ [.fz (L.map Rule.w)])
  rw [← hMM2] at e9
  rw [hMM] at e8
  have st0 : (sIf (dOr (dNot (dTest (eCall 1 r__law_bears_right (aCons (eVar 1) aNil)))) (dOr (dNot (dTest (eCall 1 r__law_bears_right (aCons (eVar 1) aNil)))) (dNot (dTest (eCall 1 r__law_bears_right (aCons (eVar 1) aNil)))))) (sRet (eC (.bl false))) sNil) [r0, some (.ref 1), a2, a3, a4, a5, a6, a7, a8, a9, a10, a11, a12, a13, a14, a15, a16] (stM cs ls i rest) = .next [r0, some (.ref 1), a2, a3, a4, a5, a6, a7, a8, a9, a10, a11, a12, a13, a14, a15, a16] (stM cs l3 (i + 9 + 9 + 9) t3) := by
    wp_walk using e1, e2, e3
  have st1 : (sAsg (eTup (aCons (eCall 1 r__law_any_rule (aCons (eVar 1) aNil)) (aCons (eCall 1 r__law_mays (aCons (eVar 1) aNil)) (aCons (eCall 1 r__law_bound (aCons (eVar 1) aNil)) aNil)))) (gT (gsCons (gN 3) (gsCons (gN 4) (gsCons (gN 5) gsNil))))) [r0, some (.ref 1), a2, a3, a4, a5, a6, a7, a8, a9, a10, a11, a12, a13, a14, a15, a16] (stM cs l3 (i + 9 + 9 + 9) t3) = .next [r0, some (.ref 1), a2, some r.w, some y.w, some (absW a), a6, a7, a8, a9, a10, a11, a12, a13, a14, a15, a16] (stM cs l6 (i + 9 + 9 + 9 + 7 + 1 + 1) t3) := by
    wp_walk using e4, e5, e6
  have st2 : (sSet 6 (eCall 2 r__law_of (aCons (eVar 1) (aCons (eLst (aCons (eTup (aCons (eC (.str "door")) aNil)) (aCons (eTup (aCons (eC (.str "order")) aNil)) (aCons (eTup (aCons (eC (.str "place")) aNil)) (aCons (eTup (aCons (eC (.str "door")) (aCons (eC (.str "order")) aNil))) (aCons (eTup (aCons (eC (.str "door")) (aCons (eC (.str "order")) (aCons (eC (.str "place")) aNil)))) aNil)))))) aNil)))) [r0, some (.ref 1), a2, some r.w, some y.w, some (absW a), a6, a7, a8, a9, a10, a11, a12, a13, a14, a15, a16] (stM cs l6 (i + 9 + 9 + 9 + 7 + 1 + 1) t3) = .next [r0, some (.ref 1), a2, some r.w, some y.w, some (absW a), some (psW ps), a7, a8, a9, a10, a11, a12, a13, a14, a15, a16] M := by
    rw [← hM]
    wp_walk using e7
  have st3 : (sSet 7 (eLstM aNil)) [r0, some (.ref 1), a2, some r.w, some y.w, some (absW a), some (psW ps), a7, a8, a9, a10, a11, a12, a13, a14, a15, a16] M = .next [r0, some (.ref 1), a2, some r.w, some y.w, some (absW a), some (psW ps), some (.ref M.length), a8, a9, a10, a11, a12, a13, a14, a15, a16] (M ++ [.lst []]) := rfl
  have st4 : (sFor (iSeq (eCall 0 r_all_rules aNil)) (gN 8) b_law_0) [r0, some (.ref 1), a2, some r.w, some y.w, some (absW a), some (psW ps), some (.ref M.length), a8, a9, a10, a11, a12, a13, a14, a15, a16] (M ++ [.lst []]) = .next [r0, some (.ref 1), a2, some r.w, some y.w, some (absW a), some (psW ps), some (.ref M.length), b8, a9, a10, a11, a12, a13, a14, a15, a16] MM := by
    have src : ∀ ρ mm, iSeq (eCall 0 r_all_rules aNil) ρ mm = .ok (allR.map Rule.w) mm := fun ρ mm => by
      have := all_rules_ok (m := mm)
      simp only [iSeq, eCall, aNil, Dn.R.bind, List.length_nil, if_true, this]
    rw [sFor, src]
    exact e8
  have st5 : (sSet 9 (eFn minLW (aCons (eBin addW (eFz (aComp (iSeq (eFrz 7)) (gN 8) dYes (eCall 2 r__law_changes (aCons (eVar 3) (aCons (eVar 8) aNil))) [8])) (eLst (aCons (eC (.int 9)) aNil))) aNil))) [r0, some (.ref 1), a2, some r.w, some y.w, some (absW a), some (psW ps), some (.ref M.length), b8, a9, a10, a11, a12, a13, a14, a15, a16] MM = .next [r0, some (.ref 1), a2, some r.w, some y.w, some (absW a), some (psW ps), some (.ref M.length), b8, some (.int few), a10, a11, a12, a13, a14, a15, a16] MF := by
    have c1 : compL (gN 8) dYes (eCall 2 r__law_changes (aCons (eVar 3) (aCons (eVar 8) aNil))) [8] (L.map Rule.w) [r0, some (.ref 1), a2, some r.w, some y.w, some (absW a), some (psW ps), some (.ref M.length), b8, a9, a10, a11, a12, a13, a14, a15, a16] MF = .ok ((L.map (chg r)).map .int) MF := by
      rw [List.map_map]
      exact compL_all Rule.w (W.int ∘ chg r) (fun s => [r0, some (.ref 1), a2, some r.w, some y.w, some (absW a), some (psW ps), some (.ref M.length), some s.w, a9, a10, a11, a12, a13, a14, a15, a16]) L (fun _ _ => rfl) fun s _ => (by
        have := lchanges_ok (m := MF) r s
        wp_walk using this
        rfl)
    have sq : iSeq (eFrz 7) [r0, some (.ref 1), a2, some r.w, some y.w, some (absW a), some (psW ps), some (.ref M.length), b8, a9, a10, a11, a12, a13, a14, a15, a16] MM = .ok (L.map Rule.w) MF := by
      simp only [iSeq, eFrz, List.getElem?_cons_zero, List.getElem?_cons_succ, Dn.R.bind, atn, setn]
    have ad := add_nine (m := MF) (L.map (chg r)) (by rw [List.length_map]; omega)
    have mn := minLW_nine (m := MF) (L.map (chg r))
    rw [fnine] at mn
    simp only [sSet, eFn, aCons, aNil, eBin, eFz, aComp, sq, c1, Dn.R.bind, eLst, eC, List.length_cons, List.length_nil, Nat.zero_add, Nat.reduceLeDiff, if_true, ad, mn, R.thenS, List.set]
  have st6 : (sSet 10 (eFn tupleW (aCons (eFz (aFn sortedW (aCons (eFz (aComp (iSeq (eFrz 7)) (gN 8) (dTest (eBin eqM (eCall 2 r__law_changes (aCons (eVar 3) (aCons (eVar 8) aNil))) (eVar 9))) (eVar 8) [8])) aNil))) aNil))) [r0, some (.ref 1), a2, some r.w, some y.w, some (absW a), some (psW ps), some (.ref M.length), b8, some (.int few), a10, a11, a12, a13, a14, a15, a16] MF = .next [r0, some (.ref 1), a2, some r.w, some y.w, some (absW a), some (psW ps), some (.ref M.length), b8, some (.int few), some (.tup ((nearR r L).map Rule.w)), a11, a12, a13, a14, a15, a16] MF := by
    have c2 : compL (gN 8) (dTest (eBin eqM (eCall 2 r__law_changes (aCons (eVar 3) (aCons (eVar 8) aNil))) (eVar 9))) (eVar 8) [8] (L.map Rule.w) [r0, some (.ref 1), a2, some r.w, some y.w, some (absW a), some (psW ps), some (.ref M.length), b8, some (.int few), a10, a11, a12, a13, a14, a15, a16] MF = .ok ((nearR r L).map Rule.w) MF := by
      rw [← nn]
      exact compL_map Rule.w (fun s => decide (chg r s = few)) Rule.w (fun s => [r0, some (.ref 1), a2, some r.w, some y.w, some (absW a), some (psW ps), some (.ref M.length), some s.w, some (.int few), a10, a11, a12, a13, a14, a15, a16]) L (fun _ _ => rfl) (fun s _ => (by
        have := lchanges_ok (m := MF) r s
        refine dTest_ok (eBin_ok (x := .int (chg r s)) (y := .int few) ?_ rfl (int_eq _ _))
        wp_walk using this)) fun _ _ _ => rfl
    have sq : iSeq (eFrz 7) [r0, some (.ref 1), a2, some r.w, some y.w, some (absW a), some (psW ps), some (.ref M.length), b8, some (.int few), a10, a11, a12, a13, a14, a15, a16] MF = .ok (L.map Rule.w) MF := by
      simp only [iSeq, eFrz, List.getElem?_cons_zero, List.getElem?_cons_succ, Dn.R.bind, atf]
    have so' := so MF (.lst ((nearR r L).map Rule.w)) rfl
    simp only [sSet, eFn, aFn, aCons, aNil, eFz, aComp, sq, c2, Dn.R.bind, so', tupleW_l, R.thenS, List.set]
  have st7 : (sSet 11 (eLst (aCons (eCall 4 r_nearest_rules (aCons (eVar 3) (aCons (eVar 6) (aCons (eVar 4) (aCons (eVar 5) aNil))))) (aCons (eCall 4 r_nearest_rules (aCons (eVar 3) (aCons (eVar 6) (aCons (eVar 4) (aCons (eVar 5) aNil))))) aNil)))) [r0, some (.ref 1), a2, some r.w, some y.w, some (absW a), some (psW ps), some (.ref M.length), b8, some (.int few), some (.tup ((nearR r L).map Rule.w)), a11, a12, a13, a14, a15, a16] MF = .next [r0, some (.ref 1), a2, some r.w, some y.w, some (absW a), some (psW ps), some (.ref M.length), b8, some (.int few), some (.tup ((nearR r L).map Rule.w)), some (.lst [.tup ((nearR r L).map Rule.w), .tup ((nearR r L).map Rule.w)]), a12, a13, a14, a15, a16] MF := by
    wp_walk using nr
  have st8 : (sIf (dOr (dTest (eBin neS (eFn reprW (aCons (eVar 11) aNil)) (eFn reprW (aCons (eBin mulW (eLst (aCons (eVar 10) aNil)) (eC (.int 2))) aNil)))) (dAnd (dTest (eBin (inM false) (eVar 3) (eVar 7))) (dTest (eBin neM (eVar 10) (eTup (aCons (eVar 3) aNil)))))) (sRet (eC (.bl false))) sNil) [r0, some (.ref 1), a2, some r.w, some y.w, some (absW a), some (psW ps), some (.ref M.length), b8, some (.int few), some (.tup ((nearR r L).map Rule.w)), some (.lst [.tup ((nearR r L).map Rule.w), .tup ((nearR r L).map Rule.w)]), a12, a13, a14, a15, a16] MF = .next [r0, some (.ref 1), a2, some r.w, some y.w, some (absW a), some (psW ps), some (.ref M.length), b8, some (.int few), some (.tup ((nearR r L).map Rule.w)), some (.lst [.tup ((nearR r L).map Rule.w), .tup ((nearR r L).map Rule.w)]), a12, a13, a14, a15, a16] MF := by
    have mu : ∀ mm (T : W), mulW mm (.lst [T]) (.int 2) = some (.lst [T, T]) := fun mm T => rfl
    have ir := in_rules (m := MF) (n := M.length) (l := L) r (by simp only [seqOf, atf])
    rw [sIf_ok (a := false)]
    · rfl
    · refine dOr_ok (a := false) (b := false) (dTest_ok ?_) fun _ => ?_
      · simp only [eBin, eFn, eLst, aCons, aNil, eVar, eC, Dn.R.bind, List.getElem?_cons_zero, List.getElem?_cons_succ, mu, rp2, neS_same, List.length_cons, List.length_nil, Nat.zero_add, Nat.reduceLeDiff, if_true]
      · by_cases q : r ∈ L
        · refine dAnd_ok (a := decide (r ∈ L)) (b := false) (dTest_ok (eBin_ok rfl rfl ir)) (fun _ => dTest_ok ?_) |>.trans ?_
          · rw [near_self hnd q]
            refine eBin_ok (x := .tup [r.w]) (y := .tup [r.w]) rfl rfl (neM_same ?_)
            rw [okW_tup]
            exact okWs_map (ok_ruleW 58) [r]
          · rw [Bool.and_false]
        · refine dAnd_ok (a := decide (r ∈ L)) (b := false) (dTest_ok (eBin_ok rfl rfl ir)) (fun h => ?_) |>.trans ?_
          · rw [decide_eq_false q] at h; cases h
          · rw [Bool.and_false]
  have st9 : (sSet 12 (eFn minLW (aCons (eBin addW (eFz (aComp (iSeq (eFrz 7)) (gN 8) dYes (eBin ixM (eVar 8) (eC (.int 0))) [8])) (eLst (aCons (eC (.int 9)) aNil))) aNil))) [r0, some (.ref 1), a2, some r.w, some y.w, some (absW a), some (psW ps), some (.ref M.length), b8, some (.int few), some (.tup ((nearR r L).map Rule.w)), some (.lst [.tup ((nearR r L).map Rule.w), .tup ((nearR r L).map Rule.w)]), a12, a13, a14, a15, a16] MF = .next [r0, some (.ref 1), a2, some r.w, some y.w, some (absW a), some (psW ps), some (.ref M.length), b8, some (.int few), some (.tup ((nearR r L).map Rule.w)), some (.lst [.tup ((nearR r L).map Rule.w), .tup ((nearR r L).map Rule.w)]), some (.int v), a13, a14, a15, a16] MF := by
    have c1 : compL (gN 8) dYes (eBin ixM (eVar 8) (eC (.int 0))) [8] (L.map Rule.w) [r0, some (.ref 1), a2, some r.w, some y.w, some (absW a), some (psW ps), some (.ref M.length), b8, some (.int few), some (.tup ((nearR r L).map Rule.w)), some (.lst [.tup ((nearR r L).map Rule.w), .tup ((nearR r L).map Rule.w)]), a12, a13, a14, a15, a16] MF = .ok ((L.map (·.k)).map .int) MF := by
      rw [List.map_map]
      exact compL_all Rule.w (W.int ∘ (·.k)) (fun s => [r0, some (.ref 1), a2, some r.w, some y.w, some (absW a), some (psW ps), some (.ref M.length), some s.w, some (.int few), some (.tup ((nearR r L).map Rule.w)), some (.lst [.tup ((nearR r L).map Rule.w), .tup ((nearR r L).map Rule.w)]), a12, a13, a14, a15, a16]) L (fun _ _ => rfl) fun s _ => rfl
    have sq : iSeq (eFrz 7) [r0, some (.ref 1), a2, some r.w, some y.w, some (absW a), some (psW ps), some (.ref M.length), b8, some (.int few), some (.tup ((nearR r L).map Rule.w)), some (.lst [.tup ((nearR r L).map Rule.w), .tup ((nearR r L).map Rule.w)]), a12, a13, a14, a15, a16] MF = .ok (L.map Rule.w) MF := by
      simp only [iSeq, eFrz, List.getElem?_cons_zero, List.getElem?_cons_succ, Dn.R.bind, atf]
    have ad := add_nine (m := MF) (L.map (·.k)) (by rw [List.length_map]; omega)
    have mn := minLW_nine (m := MF) (L.map (·.k))
    rw [hv] at mn
    simp only [sSet, eFn, aCons, aNil, eBin, eFz, aComp, sq, c1, Dn.R.bind, eLst, eC, List.length_cons, List.length_nil, Nat.zero_add, Nat.reduceLeDiff, if_true, ad, mn, R.thenS, List.set]
  have st10 : (sIf (dTest (eBin neS (eFn reprW (aCons (eCall 3 r_fewest_names (aCons (eVar 6) (aCons (eVar 4) (aCons (eVar 5) aNil)))) aNil)) (eFn reprW (aCons (eIf (dTest (eBin eqM (eVar 12) (eC (.int 9)))) (eC .non) (eVar 12)) aNil)))) (sRet (eC (.bl false))) sNil) [r0, some (.ref 1), a2, some r.w, some y.w, some (absW a), some (psW ps), some (.ref M.length), b8, some (.int few), some (.tup ((nearR r L).map Rule.w)), some (.lst [.tup ((nearR r L).map Rule.w), .tup ((nearR r L).map Rule.w)]), some (.int v), a13, a14, a15, a16] MF = .next [r0, some (.ref 1), a2, some r.w, some y.w, some (absW a), some (psW ps), some (.ref M.length), b8, some (.int few), some (.tup ((nearR r L).map Rule.w)), some (.lst [.tup ((nearR r L).map Rule.w), .tup ((nearR r L).map Rule.w)]), some (.int v), a13, a14, a15, a16] MF := by
    obtain ⟨x, rx⟩ := repr_few (m := MF) v v1 v2
    have fn' := fn MF
    rw [hfew] at fn'
    have e1 : eFn reprW (aCons (eCall 3 r_fewest_names (aCons (eVar 6) (aCons (eVar 4) (aCons (eVar 5) aNil)))) aNil) [r0, some (.ref 1), a2, some r.w, some y.w, some (absW a), some (psW ps), some (.ref M.length), b8, some (.int few), some (.tup ((nearR r L).map Rule.w)), some (.lst [.tup ((nearR r L).map Rule.w), .tup ((nearR r L).map Rule.w)]), some (.int v), a13, a14, a15, a16] MF = .ok (.str x) MF := by
      wp_walk using fn', rx
    have e2 : eFn reprW (aCons (eIf (dTest (eBin eqM (eVar 12) (eC (.int 9)))) (eC .non) (eVar 12)) aNil) [r0, some (.ref 1), a2, some r.w, some y.w, some (absW a), some (psW ps), some (.ref M.length), b8, some (.int few), some (.tup ((nearR r L).map Rule.w)), some (.lst [.tup ((nearR r L).map Rule.w), .tup ((nearR r L).map Rule.w)]), some (.int v), a13, a14, a15, a16] MF = .ok (.str x) MF := by
      have t : dTest (eBin eqM (eVar 12) (eC (.int 9))) [r0, some (.ref 1), a2, some r.w, some y.w, some (absW a), some (psW ps), some (.ref M.length), b8, some (.int few), some (.tup ((nearR r L).map Rule.w)), some (.lst [.tup ((nearR r L).map Rule.w), .tup ((nearR r L).map Rule.w)]), some (.int v), a13, a14, a15, a16] MF = .ok (decide (v = 9)) MF := dTest_ok (eBin_ok rfl rfl (int_eq v 9))
      simp only [eFn, aCons, aNil, eIf, t, Dn.R.bind]
      by_cases q : v = 9
      · rw [if_pos q] at rx
        simp only [decide_eq_true q, if_true, eC, Dn.R.bind, rx]
      · rw [if_neg q] at rx
        simp only [decide_eq_false q, Bool.false_eq_true, if_false, eVar, List.getElem?_cons_zero, List.getElem?_cons_succ, Dn.R.bind, rx]
    rw [sIf_ok (dTest_ok (eBin_ok e1 e2 (neS_same x)))]
    rfl
  have st11 : (sSet 8 (eCall 1 r__law_any_rule (aCons (eVar 1) aNil))) [r0, some (.ref 1), a2, some r.w, some y.w, some (absW a), some (psW ps), some (.ref M.length), b8, some (.int few), some (.tup ((nearR r L).map Rule.w)), some (.lst [.tup ((nearR r L).map Rule.w), .tup ((nearR r L).map Rule.w)]), some (.int v), a13, a14, a15, a16] MF = .next [r0, some (.ref 1), a2, some r.w, some y.w, some (absW a), some (psW ps), some (.ref M.length), some o.w, some (.int few), some (.tup ((nearR r L).map Rule.w)), some (.lst [.tup ((nearR r L).map Rule.w), .tup ((nearR r L).map Rule.w)]), some (.int v), a13, a14, a15, a16] (stM cs l9 (i + 9 + 9 + 9 + 7 + 1 + 1 + 1 + 7) (t3 ++ [.fz (L.map Rule.w)])) := by
    wp_walk using e9
  have st12 : (sSet 11 (eLst (aCons (eCall 2 r_changes_between (aCons (eVar 3) (aCons (eVar 8) aNil))) (aCons (eCall 2 r_changes_between (aCons (eVar 3) (aCons (eVar 3) aNil))) (aCons (eCall 2 r_changes_between (aCons (eVar 3) (aCons (eVar 8) aNil))) aNil))))) [r0, some (.ref 1), a2, some r.w, some y.w, some (absW a), some (psW ps), some (.ref M.length), some o.w, some (.int few), some (.tup ((nearR r L).map Rule.w)), some (.lst [.tup ((nearR r L).map Rule.w), .tup ((nearR r L).map Rule.w)]), some (.int v), a13, a14, a15, a16] (stM cs l9 (i + 9 + 9 + 9 + 7 + 1 + 1 + 1 + 7) (t3 ++ [.fz (L.map Rule.w)])) = .next [r0, some (.ref 1), a2, some r.w, some y.w, some (absW a), some (psW ps), some (.ref M.length), some o.w, some (.int few), some (.tup ((nearR r L).map Rule.w)), some (.lst [.int (chg r o), .int 0, .int (chg r o)]), some (.int v), a13, a14, a15, a16] (stM cs l9 (i + 9 + 9 + 9 + 7 + 1 + 1 + 1 + 7) (t3 ++ [.fz (L.map Rule.w)])) := by
    have c1 := fun m => changes_between_ok (m := m) r o hr ho
    have c2 := fun m => changes_between_ok (m := m) r r hr hr
    rw [(chg_zero r r).mpr rfl] at c2
    wp_walk using c1, c2
  have st13 : (sIf (dTest (eBin neM (eVar 11) (eLst (aCons (eCall 2 r__law_changes (aCons (eVar 3) (aCons (eVar 8) aNil))) (aCons (eC (.int 0)) (aCons (eCall 2 r__law_changes (aCons (eVar 3) (aCons (eVar 8) aNil))) aNil)))))) (sRet (eC (.bl false))) sNil) [r0, some (.ref 1), a2, some r.w, some y.w, some (absW a), some (psW ps), some (.ref M.length), some o.w, some (.int few), some (.tup ((nearR r L).map Rule.w)), some (.lst [.int (chg r o), .int 0, .int (chg r o)]), some (.int v), a13, a14, a15, a16] (stM cs l9 (i + 9 + 9 + 9 + 7 + 1 + 1 + 1 + 7) (t3 ++ [.fz (L.map Rule.w)])) = .next [r0, some (.ref 1), a2, some r.w, some y.w, some (absW a), some (psW ps), some (.ref M.length), some o.w, some (.int few), some (.tup ((nearR r L).map Rule.w)), some (.lst [.int (chg r o), .int 0, .int (chg r o)]), some (.int v), a13, a14, a15, a16] (stM cs l9 (i + 9 + 9 + 9 + 7 + 1 + 1 + 1 + 7) (t3 ++ [.fz (L.map Rule.w)])) := by
    have c1 := fun m => lchanges_ok (m := m) r o
    have ns : ∀ mm, neM mm (.lst [.int (chg r o), .int 0, .int (chg r o)]) (.lst [.int (chg r o), .int 0, .int (chg r o)]) = some (.bl false) := fun mm => neM_same rfl
    wp_walk using c1, ns
  have ee : i + 9 + 9 + 9 + 7 + 1 + 1 + 1 + 7 = i + 44 := by omega
  rw [ee] at s9 st11 st12 st13
  refine ⟨l9, t3 ++ [.fz (L.map Rule.w)], some r.w, some y.w, some (absW a), some (psW ps), some (.ref M.length), some o.w, some (.int few), some (.tup ((nearR r L).map Rule.w)), some (.lst [.int (chg r o), .int 0, .int (chg r o)]), some (.int v), s9, ?_⟩
  unfold b_law_1
  rw [seqN st0, seqN st1, seqN st2, seqN st3, seqN st4, seqN st5, seqN st6, seqN st7, seqN st8, seqN st9, seqN st10, seqN st11, seqN st12, st13]
theorem law_ok : LawOk (fun _ => 0) 63 r_law := fun ns h => by
  obtain ⟨cs, ls, hc, hc2, hl, e0⟩ := begin_ok ns h
  have st0 : StOk cs ls 0 := ⟨hc, hc2, hl, by decide⟩
  have e0' : r__law_begin [.old (ns.map .int)] [] = .ok (.ref 1) (stM cs ls 0 []) := e0
  obtain ⟨N, hN, hN7⟩ : ∃ N : Nat, (2 : Int) + min ((ns.length : Nat) : Int) 6 = (N : Nat) ∧ N ≤ 8 := ⟨2 + min ns.length 6, by omega, by omega⟩
  obtain ⟨r', m', e1, ls', i', rest', a2, a3, a4, a5, a6, a7, a8, a9, a10, a11, a12, q1, q2, q3, q4⟩ := loop_pre (t := gN 2) (body := b_law_1) (fun k : Nat => W.int (k : Nat))
    (fun pre r1 m1 => ∃ ls' i' rest' a2 a3 a4 a5 a6 a7 a8 a9 a10 a11 a12, StOk cs ls' i' ∧ i' ≤ 44 * (pre.length : Int) ∧ r1 = [some (.old (ns.map .int)), some (.ref 1), a2, a3, a4, a5, a6, a7, a8, a9, a10, a11, a12, none, none, none, none] ∧ m1 = stM cs ls' i' rest')
    (List.range N) [some (.old (ns.map .int)), some (.ref 1), none, none, none, none, none, none, none, none, none, none, none, none, none, none, none] (stM cs ls 0 [])
    ⟨ls, 0, [], none, none, none, none, none, none, none, none, none, none, none, st0, by simp, rfl, rfl⟩
    (fun pre x post r1 m1 hx ⟨ls', i', rest', a2, a3, a4, a5, a6, a7, a8, a9, a10, a11, a12, q1, q2, q3, q4⟩ => by
      subst q3 q4
      have hp : pre.length < 8 := by
        have := congrArg List.length hx
        simp at this
        omega
      obtain ⟨l2, rest2, b3, b4, b5, b6, b7, b8, b9, b10, b11, b12, s2, et⟩ := turn11 q1 (by omega) rest' (some (.old (ns.map .int))) (some (.int (x : Nat))) a3 a4 a5 a6 a7 a8 a9 a10 a11 a12 none none none none
      have g0 : gN 2 (W.int (x : Nat)) [some (.old (ns.map .int)), some (.ref 1), a2, a3, a4, a5, a6, a7, a8, a9, a10, a11, a12, none, none, none, none] = some [some (.old (ns.map .int)), some (.ref 1), some (.int (x : Nat)), a3, a4, a5, a6, a7, a8, a9, a10, a11, a12, none, none, none, none] := rfl
      unfold Steps
      rw [g0]
      show GoesD (b_law_1 _ _) _
      rw [et]
      refine ⟨l2, _, rest2, _, _, _, _, _, _, _, _, _, _, _, s2, ?_, rfl, rfl⟩
      simp
      omega)
  subst q3 q4
  generalize hmm : stM cs ls' i' rest' = mm at e1
  refine ⟨mm, ?_⟩
  have s0 : s_law_0 [some (.old (ns.map .int)), none, none, none, none, none, none, none, none, none, none, none, none, none, none, none, none] [] = .next [some (.old (ns.map .int)), some (.ref 1), none, none, none, none, none, none, none, none, none, none, none, none, none, none, none] (stM cs ls 0 []) := by
    unfold s_law_0
    wp_walk using e0'
  have s1 : s_law_1 [some (.old (ns.map .int)), some (.ref 1), none, none, none, none, none, none, none, none, none, none, none, none, none, none, none] (stM cs ls 0 []) = .next [some (.old (ns.map .int)), some (.ref 1), a2, a3, a4, a5, a6, a7, a8, a9, a10, a11, a12, none, none, none, none] mm := by
    unfold s_law_1
    have src := rng1_ok N (by omega) (stM cs ls 0 []) (eBin addW (eC (.int 2)) (eFn minW (aCons (eFn lenW (aCons (eVar 0) aNil)) (aCons (eC (.int 6)) aNil)))) [some (.old (ns.map .int)), some (.ref 1), none, none, none, none, none, none, none, none, none, none, none, none, none, none, none] (by
      wp_walk using lenW_o, minW_i, hN)
    rw [sFor, src]
    exact e1
  have s2 : s_law_2 [some (.old (ns.map .int)), some (.ref 1), a2, a3, a4, a5, a6, a7, a8, a9, a10, a11, a12, none, none, none, none] mm = .next [some (.old (ns.map .int)), some (.ref 1), a2, a3, a4, a5, a6, a7, a8, a9, a10, a11, a12, some (.tup [.str "door", .str "order", .str "place"]), none, none, none] mm := rfl
  have s3 : ∃ a14, s_law_3 [some (.old (ns.map .int)), some (.ref 1), a2, a3, a4, a5, a6, a7, a8, a9, a10, a11, a12, some (.tup [.str "door", .str "order", .str "place"]), none, none, none] mm = .next [some (.old (ns.map .int)), some (.ref 1), a2, a3, a4, a5, a6, a7, a8, a9, a10, a11, a12, some (.tup [.str "door", .str "order", .str "place"]), a14, none, none] mm := by
    obtain ⟨r', m', e1, ⟨a14, q1⟩, q2⟩ := loop_pre (t := gN 14) (body := b_law_2) (fun k : Int => W.int k)
      (fun pre r1 m1 => (∃ a14, r1 = [some (.old (ns.map .int)), some (.ref 1), a2, a3, a4, a5, a6, a7, a8, a9, a10, a11, a12, some (.tup [.str "door", .str "order", .str "place"]), a14, none, none]) ∧ m1 = mm) [1, 2, 3] [some (.old (ns.map .int)), some (.ref 1), a2, a3, a4, a5, a6, a7, a8, a9, a10, a11, a12, some (.tup [.str "door", .str "order", .str "place"]), none, none, none] mm ⟨⟨_, rfl⟩, rfl⟩
      (fun pre x post r1 m1 hx ⟨⟨a14, h1⟩, h2⟩ => by
        subst h1 h2
        have hx' : x = 1 ∨ x = 2 ∨ x = 3 := by
          have : x ∈ [(1 : Int), 2, 3] := by rw [hx]; exact List.mem_append_right _ (.head _)
          simpa using this
        have bb : ∀ m, r_bears [.tup [.int x, .int x, .str "line", .str "on", .str "tells", .str "told", .str "asks"], .tup [.str "door", .str "order", .str "place"], .tup [.str "let", .str "out"]] m = .ok (.int (x - 1)) m := fun m => by
          have := bears_ok (m := m) (r := ⟨x, x, true, true, .tells, true, true⟩) ⟨by simp only; omega, by simp only; omega, by simp only; omega, by simp only; omega⟩ [.door, .order, .place] (.inr (.inr (.inr (.inr (.inr (.inr rfl)))))) ⟨true, true⟩
          have e : bearV [.door, .order, .place] ⟨true, true⟩ ⟨x, x, true, true, .tells, true, true⟩ = some (x - 1) := by
            rcases hx' with rfl | rfl | rfl <;> kernel_rfl
          rw [e] at this
          exact this
        have ns : neM m1 (.int (x - 1)) (.int (x - 1)) = some (.bl false) := neM_same rfl
        unfold Steps b_law_2
        simp only [gN, List.length_cons, List.length_nil, Nat.reduceLT, Nat.reduceAdd, if_true, List.set]
        wp_walk using bb, ns
        exact ⟨⟨_, rfl⟩, trivial⟩)
    subst q1 q2
    exact ⟨a14, e1⟩
  obtain ⟨a14, s3⟩ := s3
  have s4 : s_law_4 [some (.old (ns.map .int)), some (.ref 1), a2, a3, a4, a5, a6, a7, a8, a9, a10, a11, a12, some (.tup [.str "door", .str "order", .str "place"]), a14, none, none] mm = .ret (.bl true) mm := by
    have ai : ∀ k : Int, 0 ≤ k → k ≤ 99 → absOk (some k) := fun k h1 h2 i e => by injection e with e; subst e; exact ⟨h1, h2⟩
    have c1 : compL (gN 16) dYes (eCall 3 r_fewest_names (aCons (eVar 13) (aCons (eTup (aCons (eC (.str "let")) (aCons (eC (.str "out")) aNil))) (aCons (eVar 16) aNil)))) [16] ([(0 : Int), 1, 2, 3].map W.int) [some (.old (ns.map .int)), some (.ref 1), a2, a3, a4, a5, a6, a7, a8, a9, a10, a11, a12, some (.tup [.str "door", .str "order", .str "place"]), a14, none, none] mm = .ok ([(0 : Int), 1, 2, 3].map fun k => fewN (allR.filter (keepAll [.door, .order, .place] ⟨true, true⟩ (some k)))) mm :=
      compL_all W.int (fun k => fewN (allR.filter (keepAll [.door, .order, .place] ⟨true, true⟩ (some k)))) (fun k => [some (.old (ns.map .int)), some (.ref 1), a2, a3, a4, a5, a6, a7, a8, a9, a10, a11, a12, some (.tup [.str "door", .str "order", .str "place"]), a14, none, some (.int k)]) [0, 1, 2, 3] (fun _ _ => rfl) fun k hk => (by
        have hk' : k = 0 ∨ k = 1 ∨ k = 2 ∨ k = 3 := by simpa using hk
        have := fewest_names_ok (m := mm) [.door, .order, .place] (.inr (.inr (.inr (.inr (.inr (.inr rfl)))))) ⟨true, true⟩ (some k) (ai k (by omega) (by omega))
        have t : r_fewest_names [.tup [.str "door", .str "order", .str "place"], .tup [.str "let", .str "out"], .int k] mm = .ok (fewN (allR.filter (keepAll [.door, .order, .place] ⟨true, true⟩ (some k)))) mm := this
        wp_walk using t)
    have fv : ([(0 : Int), 1, 2, 3].map fun k => fewN (allR.filter (keepAll [.door, .order, .place] ⟨true, true⟩ (some k)))) = [.int 1, .int 2, .int 3, .non] := by kernel_rfl
    rw [fv] at c1
    have es : eqM mm (.lst [.int 1, .int 2, .int 3, .non]) (.lst [.int 1, .int 2, .int 3, .non]) = some (.bl true) := eqM_same rfl
    have sq : ∀ ρ, iSeq (eTup (aCons (eC (.int 0)) (aCons (eC (.int 1)) (aCons (eC (.int 2)) (aCons (eC (.int 3)) aNil))))) ρ mm = .ok ([(0 : Int), 1, 2, 3].map W.int) mm := fun _ => rfl
    unfold s_law_4
    simp only [sRet, eBin, eFz, aComp, sq, c1, Dn.R.bind, eLst, aCons, aNil, eC, List.length_cons, List.length_nil, Nat.zero_add, Nat.reduceAdd, Nat.reduceLeDiff, if_true, es, R.thenS]
  unfold r_law d_law
  rw [runD, start1]
  simp only [List.replicate]
  rw [seqN s0, seqN s1, seqN s2, seqN s3, s4]
end
end L

open PySem PySem.W PySem.Calls PyProof.Rows
theorem PySem.Challenge.cw_asklast_k11_whole_bearing_and_nearest_ru_holds : PySem.Challenge.rw_asklast_k11_whole_bearing_and_nearest_ru.Holds := by
  w_on; o_law
  refine HandSHeadRun.head_any (r := OpenLaw.row PySem.Challenge.rw_asklast_k11_whole_bearing_and_nearest_ru) (q := view (OpenLaw.row PySem.Challenge.rw_asklast_k11_whole_bearing_and_nearest_ru).prog [64]) (H := L.hk) (ob := L.ob) (M := 8000) (loose := L.nms) (d := HandSHeadRun.topDef (OpenLaw.row PySem.Challenge.rw_asklast_k11_whole_bearing_and_nearest_ru).prog 64) (kwd := []) L.ob_eq
    (by kernel_rfl) (fun s => by kernel_rfl) L.run (by kernel_rfl) (by kernel_rfl) (by kernel_rfl) (by rfl) (by first | assumption | decide +kernel) (by decide +kernel) ⟨rfl, rfl, rfl, rfl, rfl, by decide +kernel⟩ ?hw ?hc
  case hw => w_witness2
  case hc =>
    refine Dn.walkW (l := PySem.Challenge.rw_asklast_k11_whole_bearing_and_nearest_ru) (k := 8) (x := "_law_script") (cl := fun _ _ => 0) rfl (by kernel_rfl) ⟨⟨rfl, by decide, by decide⟩, rfl⟩ L.law_ok ?F
    intro w mg fa h Y G hmg0
    obtain ⟨K, KX, c⟩ := Y
    have hmg : mg ("law" : PySem.Str) = some (.ref fa) := by
      have e : (HandSHeadRun.topDef (OpenLaw.row PySem.Challenge.rw_asklast_k11_whole_bearing_and_nearest_ru).prog 64).name = ("law" : PySem.Str) := by kernel_rfl
      rw [← e]
      exact hmg0
    obtain ⟨fd, hb, hF⟩ := L.facts (P := (PySem.Challenge.rw_asklast_k11_whole_bearing_and_nearest_ru).prog) (w := w) (cl := fun _ => 0) KX G hmg c
    exact ⟨K, fd, KX, hb, hF⟩
