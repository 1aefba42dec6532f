import PyProof.Rows.All
import Wide.All
import OpenK.AllK
import Wide.FinOn
import HandS.ForMost
import HandS.ForExc
import HandS.CallSlots
import HandS.TupAny
import HandS.Deep
import HandS.Star
import HandS.Style
import HandS.Defaults
import HandS.IsInst
import HandS.Zip
import KE.GoesMore
import HandS.TupLe
import HandS.Head0
import HandS.Head1
import HandS.Head2
import HandS.HeadEnd
import HandS.HeadHook1
import HandS.HeadHook2
import HandS.TupMul
import HandS.Conv
import KE.SortData
import HandS.SortRule
import HandS.NoneIn
import PySem.Challenge.RW_asklast_k05_whole_tidy_rules
set_option Elab.async false
set_option linter.all false
set_option maxRecDepth 100000
set_option maxHeartbeats 4000000
/-! D1: plain values W, the memory of what may change, results; how they stand in the layer's heap. -/
namespace Dn
open PySem PySem.Spec PyProof.Rows L2

/-- a value as plain data: tuples and settled lists by their items; what may change by its number in the memory -/
inductive W where
  | non | bl (b : Bool) | int (i : Int) | str (x : Str)
  | tup (xs : List W) | lst (xs : List W) | old (xs : List W) | ref (n : Nat) | raw (v : V)

/-- an object of the memory: a list that may change, one that is settled, a dict, an instance of the class c -/
inductive Cell where
  | lst (xs : List W) | fz (xs : List W) | dct (kvs : List (Key × W)) | ins (c : Nat) (fs : List (Str × W))

abbrev Mem := List Cell
structure Exn where
  cls : Nat
  fs : List (Str × W)

/-- how a run ends: a value, an error, or nothing is told -/
inductive R (α : Type) where
  | ok (a : α) (m : Mem) | exc (x : Exn) (m : Mem) | bad

def R.bind {α β : Type} (r : R α) (k : α → Mem → R β) : R β :=
  match r with
  | .ok a m => k a m
  | .exc x m => .exc x m
  | .bad => .bad
abbrev Rho := List (Option W)
abbrev DE := Rho → Mem → R W
abbrev DT := Rho → Mem → R Bool
abbrev DA := Rho → Mem → R (List W)
/-- how a statement ends -/
inductive RS where
  | next (r : Rho) (m : Mem) | brk (r : Rho) (m : Mem) | cont (r : Rho) (m : Mem) | ret (w : W) (m : Mem) | exc (x : Exn) (r : Rho) (m : Mem) | bad
abbrev DS := Rho → Mem → RS

/-! ### how plain values stand in the heap -/
/-- Z: lists that are settled; hold: what a loop of ours holds as it is; phi: where the memory's objects stand -/
structure Zn where
  Z : Addr → Prop
  hold : Addr → Prop
  phi : List Addr

def KList (K : PySem.W.Frag) (a : Addr) (xs : List V) : Prop :=
  ∃ (o : Obj) (its : Array Value) (n : Nat), K.lookup a = some o ∧ o.cls = .type "list" ∧ o.dict = none ∧ o.data = .seq its n ∧ its.size ≤ sizeLine ∧ Vals xs its.toList
/-- a list of the outside: the script, a module's own -/
def OldL (K : PySem.W.Frag) (H : Hp) (a : Addr) (xs : List V) : Prop := (∃ o, H a = some (.frz o (.lst xs))) ∨ KList K a xs
theorem OldL.sq {K : PySem.W.Frag} {H : Hp} {a : Addr} {xs : List V} (h : OldL K H a xs) : SqL K H a xs := by
  rcases h with h | h
  · exact .inl (.inr h)
  · exact .inr h

mutual
def RW (K : PySem.W.Frag) (z : Zn) (H : Hp) : W → V → Prop
  | .non, v => v = .non
  | .bl b, v => v = .bl b
  | .int i, v => v = .int i
  | .str x, v => v = .str x
  | .tup ws, v => ∃ a vs, v = .ref a ∧ SqT K H a vs ∧ RWs K z H ws vs
  | .lst ws, v => ∃ a vs, v = .ref a ∧ (z.Z a ∧ H a = some (.lst vs)) ∧ RWs K z H ws vs
  | .old ws, v => ∃ a vs, v = .ref a ∧ OldL K H a vs ∧ RWs K z H ws vs
  | .ref n, v => ∃ a, z.phi[n]? = some a ∧ v = .ref a
  | .raw u, v => v = u
def RWs (K : PySem.W.Frag) (z : Zn) (H : Hp) : List W → List V → Prop
  | [], vs => vs = []
  | w :: ws, vs => ∃ v r, vs = v :: r ∧ RW K z H w v ∧ RWs K z H ws r
end

/-- the heap goes on: tuples and settled lists stay, places stay -/
structure Ext0 (z : Zn) (H : Hp) (z' : Zn) (H' : Hp) : Prop where
  tups : ∀ a xs, H a = some (.tup xs) → H' a = some (.tup xs)
  frzs : ∀ a o u, H a = some (.frz o u) → H' a = some (.frz o u)
  zs : ∀ a, z.Z a → z'.Z a ∧ H' a = H a
  ph : ∀ (n : Nat) a, z.phi[n]? = some a → z'.phi[n]? = some a
/-- .. and what is held stays -/
structure Ext (z : Zn) (H : Hp) (z' : Zn) (H' : Hp) : Prop where
  e0 : Ext0 z H z' H'
  hs : ∀ a, z.hold a → z'.hold a ∧ H' a = H a
theorem Ext0.refl (z : Zn) (H : Hp) : Ext0 z H z H := ⟨fun _ _ h => h, fun _ _ _ h => h, fun _ h => ⟨h, rfl⟩, fun _ _ h => h⟩
theorem Ext0.trans {z z1 z2 : Zn} {H H1 H2 : Hp} (a : Ext0 z H z1 H1) (b : Ext0 z1 H1 z2 H2) : Ext0 z H z2 H2 :=
  ⟨fun c xs h => b.tups c xs (a.tups c xs h), fun c o u h => b.frzs c o u (a.frzs c o u h),
   fun c h => ⟨(b.zs c (a.zs c h).1).1, (b.zs c (a.zs c h).1).2.trans (a.zs c h).2⟩,
   fun n c h => b.ph n c (a.ph n c h)⟩
theorem Ext.refl (z : Zn) (H : Hp) : Ext z H z H := ⟨Ext0.refl z H, fun _ h => ⟨h, rfl⟩⟩
theorem Ext.trans {z z1 z2 : Zn} {H H1 H2 : Hp} (a : Ext z H z1 H1) (b : Ext z1 H1 z2 H2) : Ext z H z2 H2 :=
  ⟨a.e0.trans b.e0, fun c h => ⟨(b.hs c (a.hs c h).1).1, (b.hs c (a.hs c h).1).2.trans (a.hs c h).2⟩⟩

section
variable {K : PySem.W.Frag} {z z' : Zn} {H H' : Hp}
theorem Ext0.sqT (e : Ext0 z H z' H') {a : Addr} {xs : List V} (h : SqT K H a xs) : SqT K H' a xs := by
  rcases h with (h | ⟨o, h⟩) | h
  · exact .inl (.inl (e.tups _ _ h))
  · exact .inl (.inr ⟨o, e.frzs _ _ _ h⟩)
  · exact .inr h
theorem Ext0.oldL (e : Ext0 z H z' H') {a : Addr} {xs : List V} (h : OldL K H a xs) : OldL K H' a xs := by
  rcases h with ⟨o, h⟩ | h
  · exact .inl ⟨o, e.frzs _ _ _ h⟩
  · exact .inr h
mutual
theorem RW.ext0 (e : Ext0 z H z' H') : ∀ {w : W} {v : V}, RW K z H w v → RW K z' H' w v
  | .non, _, h => h
  | .bl _, _, h => h
  | .int _, _, h => h
  | .str _, _, h => h
  | .tup ws, _, ⟨a, vs, h1, h2, h3⟩ => ⟨a, vs, h1, e.sqT h2, RWs.ext0 e h3⟩
  | .lst ws, _, ⟨a, vs, h1, h2, h3⟩ => ⟨a, vs, h1, ⟨(e.zs a h2.1).1, (e.zs a h2.1).2.trans h2.2⟩, RWs.ext0 e h3⟩
  | .old ws, _, ⟨a, vs, h1, h2, h3⟩ => ⟨a, vs, h1, e.oldL h2, RWs.ext0 e h3⟩
  | .ref n, _, ⟨a, h1, h2⟩ => ⟨a, e.ph n a h1, h2⟩
  | .raw _, _, h => h
theorem RWs.ext0 (e : Ext0 z H z' H') : ∀ {ws : List W} {vs : List V}, RWs K z H ws vs → RWs K z' H' ws vs
  | [], _, h => h
  | _ :: _, _, ⟨v, r, h1, h2, h3⟩ => ⟨v, r, h1, RW.ext0 e h2, RWs.ext0 e h3⟩
end
theorem RW.ext (e : Ext z H z' H') {w : W} {v : V} (h : RW K z H w v) : RW K z' H' w v := h.ext0 e.e0
theorem RWs.ext (e : Ext z H z' H') {ws : List W} {vs : List V} (h : RWs K z H ws vs) : RWs K z' H' ws vs := h.ext0 e.e0
theorem RWs.length : ∀ {ws : List W} {vs : List V}, RWs K z H ws vs → vs.length = ws.length
  | [], _, h => by cases h; rfl
  | _ :: _, _, ⟨v, r, h1, h2, h3⟩ => by subst h1; simp [RWs.length h3]
theorem RWs.cons {w : W} {v : V} {ws : List W} {vs : List V} (h : RW K z H w v) (t : RWs K z H ws vs) : RWs K z H (w :: ws) (v :: vs) := ⟨v, vs, rfl, h, t⟩
theorem RWs.nil : RWs K z H [] [] := rfl
theorem RWs.append : ∀ {ws us : List W} {vs xs : List V}, RWs K z H ws vs → RWs K z H us xs → RWs K z H (ws ++ us) (vs ++ xs)
  | [], _, _, _, h, t => by cases h; exact t
  | _ :: _, _, _, _, ⟨v, r, h1, h2, h3⟩, t => by subst h1; exact ⟨v, _, rfl, h2, RWs.append h3 t⟩
theorem RWs.get : ∀ {ws : List W} {vs : List V} {i : Nat} {w : W}, RWs K z H ws vs → ws[i]? = some w → ∃ v, vs[i]? = some v ∧ RW K z H w v
  | [], _, _, _, _, e => by simp at e
  | _ :: _, _, 0, _, ⟨v, r, h1, h2, _⟩, e => by subst h1; simp at e; subst e; exact ⟨v, rfl, h2⟩
  | _ :: ws, _, i + 1, _, ⟨v, r, h1, _, h3⟩, e => by
    subst h1
    obtain ⟨u, q1, q2⟩ := RWs.get (i := i) h3 (by simpa using e)
    exact ⟨u, by simpa using q1, q2⟩
theorem RWs.get' : ∀ {ws : List W} {vs : List V} {i : Nat} {v : V}, RWs K z H ws vs → vs[i]? = some v → ∃ w, ws[i]? = some w ∧ RW K z H w v
  | [], _, _, _, h, e => by cases h; simp at e
  | w :: _, _, 0, _, ⟨v, r, h1, h2, _⟩, e => by subst h1; simp at e; subst e; exact ⟨w, rfl, h2⟩
  | _ :: ws, _, i + 1, _, ⟨v, r, h1, _, h3⟩, e => by
    subst h1
    obtain ⟨u, q1, q2⟩ := RWs.get' (i := i) h3 (by simpa using e)
    exact ⟨u, by simpa using q1, q2⟩
theorem RWs.take : ∀ {ws : List W} {vs : List V} (n : Nat), RWs K z H ws vs → RWs K z H (ws.take n) (vs.take n)
  | [], _, n, h => by cases h; simp [RWs]
  | _ :: _, _, 0, _ => by simp [RWs]
  | _ :: _, _, n + 1, ⟨v, r, h1, h2, h3⟩ => by subst h1; exact ⟨v, _, rfl, h2, RWs.take n h3⟩
theorem RWs.drop : ∀ {ws : List W} {vs : List V} (n : Nat), RWs K z H ws vs → RWs K z H (ws.drop n) (vs.drop n)
  | [], _, n, h => by cases h; simp [RWs]
  | _ :: _, _, 0, h => h
  | _ :: _, _, n + 1, ⟨v, r, h1, h2, h3⟩ => by subst h1; exact RWs.drop n h3
theorem RWs.reverse : ∀ {ws : List W} {vs : List V}, RWs K z H ws vs → RWs K z H ws.reverse vs.reverse
  | [], _, h => by cases h; simp [RWs]
  | _ :: _, _, ⟨v, r, h1, h2, h3⟩ => by
    subst h1
    rw [List.reverse_cons, List.reverse_cons]
    exact (RWs.reverse h3).append (.cons h2 .nil)
theorem RWs.set {w : W} {v : V} (hw : RW K z H w v) : ∀ {ws : List W} {vs : List V} (n : Nat), RWs K z H ws vs → RWs K z H (ws.set n w) (vs.set n v)
  | [], _, n, h => by cases h; simp [RWs]
  | _ :: _, _, 0, ⟨u, r, h1, h2, h3⟩ => by subst h1; exact ⟨v, _, rfl, hw, h3⟩
  | _ :: _, _, n + 1, ⟨u, r, h1, h2, h3⟩ => by subst h1; exact ⟨u, _, rfl, h2, RWs.set hw n h3⟩
end

/-- fields, dicts: the same names, the values related -/
def RFs (K : PySem.W.Frag) (z : Zn) (H : Hp) {α : Type} : List (α × W) → List (α × V) → Prop
  | [], vs => vs = []
  | (k, w) :: ws, vs => ∃ v r, vs = (k, v) :: r ∧ RW K z H w v ∧ RFs K z H ws r
section
variable {K : PySem.W.Frag} {z z' : Zn} {H H' : Hp} {α : Type}
theorem RFs.ext0 (e : Ext0 z H z' H') : ∀ {ws : List (α × W)} {vs : List (α × V)}, RFs K z H ws vs → RFs K z' H' ws vs
  | [], _, h => h
  | (k, w) :: _, _, ⟨v, r, h1, h2, h3⟩ => ⟨v, r, h1, h2.ext0 e, RFs.ext0 e h3⟩
theorem RFs.ext (e : Ext z H z' H') {ws : List (α × W)} {vs : List (α × V)} (h : RFs K z H ws vs) : RFs K z' H' ws vs := h.ext0 e.e0
theorem RFs.length : ∀ {ws : List (α × W)} {vs : List (α × V)}, RFs K z H ws vs → vs.length = ws.length
  | [], _, h => by cases h; rfl
  | (k, w) :: _, _, ⟨v, r, h1, h2, h3⟩ => by subst h1; simp [RFs.length h3]
theorem RFs.lookup [BEq α] {k : α} : ∀ {ws : List (α × W)} {vs : List (α × V)} {w : W}, RFs K z H ws vs → ws.lookup k = some w → ∃ v, vs.lookup k = some v ∧ RW K z H w v
  | [], _, _, _, e => by simp at e
  | (j, w) :: _, _, w', ⟨v, r, h1, h2, h3⟩, e => by
    subst h1
    rw [List.lookup_cons] at e ⊢
    cases q : k == j with
    | true => rw [q] at e; simp at e; subst e; exact ⟨v, rfl, h2⟩
    | false => rw [q] at e; exact RFs.lookup h3 (by simpa using e)
theorem RFs.lookup_none [BEq α] {k : α} : ∀ {ws : List (α × W)} {vs : List (α × V)}, RFs K z H ws vs → ws.lookup k = none → vs.lookup k = none
  | [], _, h, _ => by cases h; rfl
  | (j, w) :: _, _, ⟨v, r, h1, h2, h3⟩, e => by
    subst h1
    rw [List.lookup_cons] at e ⊢
    cases q : k == j with
    | true => rw [q] at e; simp at e
    | false => rw [q] at e; exact RFs.lookup_none h3 (by simpa using e)
end

def CellOk (K : PySem.W.Frag) (cl : Nat → Addr) (z : Zn) (H : Hp) (a : Addr) : Cell → Prop
  | .lst ws => ¬ z.Z a ∧ ¬ z.hold a ∧ ∃ vs, H a = some (.lst vs) ∧ RWs K z H ws vs
  | .fz ws => z.Z a ∧ ∃ vs, H a = some (.lst vs) ∧ RWs K z H ws vs
  | .dct kvs => ¬ z.hold a ∧ ∃ vs, H a = some (.dK vs) ∧ RFs K z H kvs vs
  | .ins c fs => ¬ z.hold a ∧ ∃ dx vs, H a = some (.ins (cl c) dx vs) ∧ RFs K z H fs vs
theorem CellOk.there {K : PySem.W.Frag} {cl : Nat → Addr} {z : Zn} {H : Hp} {a : Addr} {c : Cell} (h : CellOk K cl z H a c) : ∃ o, H a = some o := by
  cases c with
  | lst ws => obtain ⟨_, _, vs, e, _⟩ := h; exact ⟨_, e⟩
  | fz ws => obtain ⟨_, vs, e, _⟩ := h; exact ⟨_, e⟩
  | dct kvs => obtain ⟨_, vs, e, _⟩ := h; exact ⟨_, e⟩
  | ins c fs => obtain ⟨_, dx, vs, e, _⟩ := h; exact ⟨_, e⟩

structure MemOk (K : PySem.W.Frag) (cl : Nat → Addr) (z : Zn) (m : Mem) (H : Hp) : Prop where
  len : z.phi.length = m.length
  nd : z.phi.Nodup
  sep : ∀ a, z.Z a → ¬ z.hold a
  lz : ∀ a, z.Z a → ∃ xs, H a = some (.lst xs)
  lh : ∀ a, z.hold a → ∃ o, H a = some o
  cells : ∀ (n : Nat) a c, z.phi[n]? = some a → m[n]? = some c → CellOk K cl z H a c

def SlotsOk (K : PySem.W.Frag) (z : Zn) (H : Hp) (r : Rho) (s : L2.St) : Prop :=
  r.length = s.length ∧ ∀ (i : Nat) w, r[i]? = some (some w) → ∃ v, s[i]? = some (some v) ∧ RW K z H w v
structure Rel (K : PySem.W.Frag) (cl : Nat → Addr) (z : Zn) (r : Rho) (m : Mem) (s : L2.St) (H : Hp) : Prop where
  slots : SlotsOk K z H r s
  mem : MemOk K cl z m H

section
variable {K : PySem.W.Frag} {cl : Nat → Addr} {z z' : Zn} {H H' : Hp} {m : Mem} {r : Rho} {s : L2.St} {p : Addr} {o : HO}
theorem SlotsOk.ext0 (e : Ext0 z H z' H') (h : SlotsOk K z H r s) : SlotsOk K z' H' r s :=
  ⟨h.1, fun i w q => let ⟨v, q1, q2⟩ := h.2 i w q; ⟨v, q1, q2.ext0 e⟩⟩
theorem SlotsOk.ext (e : Ext z H z' H') (h : SlotsOk K z H r s) : SlotsOk K z' H' r s := h.ext0 e.e0
theorem SlotsOk.set {i : Nat} {w : W} {v : V} (h : SlotsOk K z H r s) (q : RW K z H w v) : SlotsOk K z H (r.set i (some w)) (s.set i (some v)) := by
  refine ⟨by simp [h.1], fun j u e => ?_⟩
  by_cases hj : i = j
  · subst hj
    rw [List.getElem?_set] at e ⊢
    rw [if_pos rfl] at e ⊢
    split at e
    · rename_i hl
      rw [if_pos (by rw [← h.1]; exact hl)]
      cases e
      exact ⟨v, rfl, q⟩
    · cases e
  · rw [List.getElem?_set_ne hj] at e ⊢
    exact h.2 j u e
theorem MemOk.z_ne (M : MemOk K cl z m H) (hp : H p = none) : ¬ z.Z p := fun q => by obtain ⟨xs, e⟩ := M.lz p q; rw [hp] at e; cases e
theorem MemOk.h_ne (M : MemOk K cl z m H) (hp : H p = none) : ¬ z.hold p := fun q => by obtain ⟨xs, e⟩ := M.lh p q; rw [hp] at e; cases e
theorem MemOk.p_ne (M : MemOk K cl z m H) (hp : H p = none) : p ∉ z.phi := fun q => by
  obtain ⟨n, hn, e⟩ := List.getElem_of_mem q
  have hm : n < m.length := by rw [← M.len]; exact hn
  obtain ⟨u, e2⟩ := (M.cells n p m[n] (by rw [List.getElem?_eq_getElem hn, e]) (List.getElem?_eq_getElem hm)).there
  rw [hp] at e2; cases e2
theorem upd_same_of (hp : H p = none) : Same H (upd H p o) := fun b u e => by rw [upd_ne (ne_of_none e hp)]; exact e
/-- all that is tracked stays -/
theorem MemOk.extS (M : MemOk K cl z m H) (hs : Same H H') : Ext z H z H' :=
  ⟨⟨fun a xs e => hs _ _ e, fun a ob u e => hs _ _ e, fun a q => ⟨q, by obtain ⟨xs, e⟩ := M.lz a q; rw [e]; exact hs _ _ e⟩, fun _ _ q => q⟩, fun a q => ⟨q, by obtain ⟨xs, e⟩ := M.lh a q; rw [e]; exact hs _ _ e⟩⟩
theorem CellOk.same {a : Addr} {c : Cell} (e : Ext z H z H') (hs : Same H H') (h : CellOk K cl z H a c) : CellOk K cl z H' a c := by
  cases c with
  | lst ws => obtain ⟨n1, n2, vs, q, r⟩ := h; exact ⟨n1, n2, vs, hs _ _ q, r.ext e⟩
  | fz ws => obtain ⟨n1, vs, q, r⟩ := h; exact ⟨n1, vs, hs _ _ q, r.ext e⟩
  | dct kvs => obtain ⟨n, vs, q, r⟩ := h; exact ⟨n, vs, hs _ _ q, r.ext e⟩
  | ins c fs => obtain ⟨n, dx, vs, q, r⟩ := h; exact ⟨n, dx, vs, hs _ _ q, r.ext e⟩
theorem MemOk.same (M : MemOk K cl z m H) (hs : Same H H') : MemOk K cl z m H' :=
  ⟨M.len, M.nd, M.sep, fun a q => let ⟨xs, e⟩ := M.lz a q; ⟨xs, hs _ _ e⟩, fun a q => let ⟨xs, e⟩ := M.lh a q; ⟨xs, hs _ _ e⟩,
   fun n a c h1 h2 => (M.cells n a c h1 h2).same (M.extS hs) hs⟩
theorem Rel.same (h : Rel K cl z r m s H) (hs : Same H H') : Rel K cl z r m s H' := ⟨h.slots.ext (h.mem.extS hs), h.mem.same hs⟩
theorem Rel.after (h : Rel K cl z r m s H) {m' : Mem} (e : Ext z H z' H') (M : MemOk K cl z' m' H') : Rel K cl z' r m' s H' := ⟨h.slots.ext e, M⟩

/-- a new list is settled -/
abbrev Zn.fz (z : Zn) (p : Addr) : Zn := { z with Z := fun a => a = p ∨ z.Z a }
/-- a new object is laid into the memory -/
abbrev Zn.lay (z : Zn) (p : Addr) : Zn := { z with phi := z.phi ++ [p] }
/-- .. is held, no longer held -/
abbrev Zn.hd (z : Zn) (p : Addr) : Zn := { z with hold := fun a => a = p ∨ z.hold a }
theorem CellOk.ext2 {a : Addr} {c : Cell} (e : Ext0 z H z' H') (hz : z'.Z a ↔ z.Z a) (hh : z'.hold a → z.hold a) (hs : H' a = H a) (h : CellOk K cl z H a c) : CellOk K cl z' H' a c := by
  cases c with
  | lst ws => obtain ⟨n1, n2, vs, q, r⟩ := h; exact ⟨fun x => n1 (hz.mp x), fun x => n2 (hh x), vs, hs.trans q, r.ext0 e⟩
  | fz ws => obtain ⟨n1, vs, q, r⟩ := h; exact ⟨hz.mpr n1, vs, hs.trans q, r.ext0 e⟩
  | dct kvs => obtain ⟨n, vs, q, r⟩ := h; exact ⟨fun x => n (hh x), vs, hs.trans q, r.ext0 e⟩
  | ins c fs => obtain ⟨n, dx, vs, q, r⟩ := h; exact ⟨fun x => n (hh x), dx, vs, hs.trans q, r.ext0 e⟩
/-- settle a list that is no one's -/
theorem MemOk.settle {xs : List V} (M : MemOk K cl z m H) (hp : H p = some (.lst xs)) (n1 : ¬ z.hold p) (n2 : p ∉ z.phi) : Ext z H (z.fz p) H ∧ MemOk K cl (z.fz p) m H := by
  have e : Ext z H (z.fz p) H := ⟨⟨fun _ _ h => h, fun _ _ _ h => h, fun _ h => ⟨.inr h, rfl⟩, fun _ _ h => h⟩, fun _ h => ⟨h, rfl⟩⟩
  refine ⟨e, M.len, M.nd, ?_, ?_, M.lh, fun n a c h1 h2 => ?_⟩
  · rintro a (rfl | q)
    · exact n1
    · exact M.sep a q
  · rintro a (rfl | q)
    · exact ⟨_, hp⟩
    · exact M.lz a q
  · have hne : a ≠ p := fun q => n2 (q ▸ List.mem_of_getElem? h1)
    refine (M.cells n a c h1 h2).ext2 e.e0 ⟨?_, .inr⟩ (fun x => x) rfl
    rintro (q | q)
    · exact absurd q hne
    · exact q
/-- lay an object that is no one's into the memory -/
theorem MemOk.lay {c : Cell} (M : MemOk K cl z m H) (n1 : ¬ z.Z p) (n2 : p ∉ z.phi) (hc : CellOk K cl (z.lay p) H p c) : Ext z H (z.lay p) H ∧ MemOk K cl (z.lay p) (m ++ [c]) H := by
  have e : Ext z H (z.lay p) H := ⟨⟨fun _ _ h => h, fun _ _ _ h => h, fun _ h => ⟨h, rfl⟩, fun n a h => by
    have hl := (List.getElem?_eq_some_iff.mp h).1
    show (z.phi ++ [p])[n]? = some a
    rw [List.getElem?_append_left hl]
    exact h⟩, fun _ h => ⟨h, rfl⟩⟩
  refine ⟨e, by simp [M.len], ?_, M.sep, M.lz, M.lh, fun n a c' h1 h2 => ?_⟩
  · show (z.phi ++ [p]).Nodup
    rw [List.nodup_append]
    refine ⟨M.nd, by simp, fun a ha b hb => ?_⟩
    simp at hb
    subst hb
    exact fun q => n2 (q ▸ ha)
  · have h1 : (z.phi ++ [p])[n]? = some a := h1
    by_cases hn : n < z.phi.length
    · rw [List.getElem?_append_left hn] at h1
      rw [List.getElem?_append_left (by rw [← M.len]; exact hn)] at h2
      exact (M.cells n a c' h1 h2).ext2 e.e0 Iff.rfl (fun x => x) rfl
    · have hn' : z.phi.length ≤ n := Nat.le_of_not_lt hn
      rw [List.getElem?_append_right hn'] at h1
      rw [List.getElem?_append_right (by rw [← M.len]; exact hn')] at h2
      have hk : n - z.phi.length = 0 := by
        have := (List.getElem?_eq_some_iff.mp h1).1
        simp at this
        omega
      rw [hk] at h1
      rw [← M.len, hk] at h2
      simp at h1 h2
      subst h1 h2
      exact hc
end
end Dn

/-! D2: what is left behind an expression, a test, an argument list, a statement; the first rules. -/
namespace Dn
open PySem PySem.Spec PyProof.Rows L2

/-- an error in the air -/
def XnOk (K : PySem.W.Frag) (cl : Nat → Addr) (z : Zn) (H : Hp) (x : Exn) (c : Value) (d : Option Addr) : Prop :=
  c = .ref (cl x.cls) ∧ ∃ dd fs, d = some dd ∧ H dd = some (.xd fs) ∧ RFs K z H x.fs fs
/-- what is the same for all parts of a body: the written part, the classes by number, the wish about errors -/
structure Gx where
  K : PySem.W.Frag
  cl : Nat → Addr
  Wx : WX

def Post {α β : Type} (g : Gx) (rel : Zn → Hp → α → β → Prop) (z : Zn) (H : Hp) (r : Rho) (s : L2.St) (q : R α) (Q : β → Hp → Prop) : Prop :=
  match q with
  | .ok a m => ∀ z' b H', Ext z H z' H' → Rel g.K g.cl z' r m s H' → rel z' H' a b → Q b H'
  | .exc x m => ∀ z' H' c d, Ext z H z' H' → Rel g.K g.cl z' r m s H' → XnOk g.K g.cl z' H' x c d → g.Wx c d s H'
  | .bad => False
def tG {α β : Type} (g : Gx) (rel : Zn → Hp → α → β → Prop) (f : Rho → Mem → R α) : L2.St → Hp → (β → Hp → Prop) → Prop :=
  fun s H Q => ∃ r m z, Rel g.K g.cl z r m s H ∧ Post g rel z H r s (f r m) Q
abbrev relB : Zn → Hp → Bool → Bool → Prop := fun _ _ a b => a = b
def tE (g : Gx) (f : DE) : TE := tG g (RW g.K) f
def tT (g : Gx) (f : DT) : TT := tG g relB f
def tA (g : Gx) (f : DA) : TA := tG g (RWs g.K) f

section
variable {α β γ δ : Type} {g : Gx} {rel : Zn → Hp → α → β → Prop} {rel2 : Zn → Hp → γ → δ → Prop} {z z1 : Zn} {H H1 : Hp} {r : Rho} {s : L2.St} {Q : δ → Hp → Prop} {Q1 : β → Hp → Prop}
theorem Post.mono {q : R γ} (e : Ext z H z1 H1) (h : Post g rel2 z H r s q Q) : Post g rel2 z1 H1 r s q Q := by
  cases q with
  | ok a m => exact fun z' b H' e' => h z' b H' (e.trans e')
  | exc x m => exact fun z' H' c d e' => h z' H' c d (e.trans e')
  | bad => exact h
theorem Post.bind {q : R α} {k : α → Mem → R γ} (h : Post g rel2 z H r s (q.bind k) Q)
    (hk : ∀ z1 a m1 b H1, Ext z H z1 H1 → Rel g.K g.cl z1 r m1 s H1 → rel z1 H1 a b → Post g rel2 z1 H1 r s (k a m1) Q → Q1 b H1) : Post g rel z H r s q Q1 := by
  cases q with
  | ok a m => exact fun z' b H' e R q => hk z' a m b H' e R q (Post.mono e h)
  | exc x m => exact h
  | bad => exact h
/-- the value is told: nothing happens -/
theorem Post.ret {a : γ} {b : δ} {m : Mem} (h : Post g rel2 z H r s (.ok a m) Q) (R : Rel g.K g.cl z r m s H) (q : rel2 z H a b) : Q b H := h z b H (Ext.refl _ _) R q
end

section
variable {X : Cx} {cl : Nat → Addr} {Wx : WX} {e a b : Expr} {pos : Pos}
abbrev gx (X : Cx) (cl : Nat → Addr) (Wx : WX) : Gx := ⟨X.K, cl, Wx⟩
theorem _root_.L2.PE.imp {t t' : TE} (h : PE X e t) (hi : ∀ s H Q, t' s H Q → t s H Q) : PE X e t' := ⟨fun pins sh s H Q I q => h.run pins sh s H Q I (hi _ _ _ q)⟩
theorem _root_.L2.PT.imp {t t' : TT} (h : PT X e t) (hi : ∀ s H Q, t' s H Q → t s H Q) : PT X e t' := ⟨fun pins sh s H Q I q => h.run pins sh s H Q I (hi _ _ _ q)⟩
theorem _root_.L2.PA.imp {es : List Expr} {t t' : TA} (h : PA X es t) (hi : ∀ s H Q, t' s H Q → t s H Q) : PA X es t' := ⟨fun po pins sh s H Q I q => h.run po pins sh s H Q I (hi _ _ _ q)⟩

/-! ### names, constants -/
def eVar (i : Nat) : DE := fun r m => match r[i]? with
  | some (some w) => .ok w m
  | _ => .bad
def eC (w : W) : DE := fun _ m => .ok w m
theorem se_v (i : Nat) {x : Str} (h : PE X (.Name x pos) (tVar i)) : PE X (.Name x pos) (tE (gx X cl Wx) (eVar i)) := by
  refine h.imp fun s H Q ⟨r, m, z, R, P⟩ => ?_
  unfold eVar at P
  split at P
  · rename_i w e
    obtain ⟨v, e1, q⟩ := R.slots.2 i w e
    exact ⟨v, e1, P.ret R q⟩
  · exact P.elim
theorem se_c {v : V} {w : W} (h : PE X e (tC v)) (hw : ∀ z H, RW X.K z H w v) : PE X e (tE (gx X cl Wx) (eC w)) :=
  h.imp fun s H Q ⟨r, m, z, R, P⟩ => P.ret R (hw z H)
theorem sv (i : Nat) {x : Str} (hN : X.N[i]? = some x := by rfl) (hv : Vis X.env.scope x := by first | exact Or.inl rfl | exact Or.inr (Or.inl rfl) | exact Or.inr (Or.inr rfl)) (hd : (x == ("__debug__" : Str)) = false := by decide)
    (hcd : (x == ("__classdict__" : Str)) = false := by decide) : PE X (.Name x pos) (tE (gx X cl Wx) (eVar i)) := se_v i (pe_var hN hv hd hcd)
theorem se_int {i : Int} {j : Nat} : PE X (.Constant (.int i) j pos) (tE (gx X cl Wx) (eC (.int i))) := se_c pe_int fun _ _ => rfl
theorem se_bl {i : Bool} {j : Nat} : PE X (.Constant (.bool i) j pos) (tE (gx X cl Wx) (eC (.bl i))) := se_c pe_bl fun _ _ => rfl
theorem se_str {i : Str} {j : Nat} : PE X (.Constant (.str i) j pos) (tE (gx X cl Wx) (eC (.str i))) := se_c pe_str fun _ _ => rfl
theorem se_non {j : Nat} : PE X (.Constant .none j pos) (tE (gx X cl Wx) (eC .non)) := se_c pe_non fun _ _ => rfl
/-- a module's constant: u its value, w as plain data -/
theorem se_glob {x : Str} {w : W} {v : V} {u : Value} (hm : X.mg x = some u) (r : RelV v u) (hw : ∀ z H, RW X.K z H w v) (hg : Gl X x := by rfl) (hd : (x == ("__debug__" : Str)) = false := by decide) : PE X (.Name x pos) (tE (gx X cl Wx) (eC w)) :=
  se_c (pe_glob hg hm r hd) hw

/-! ### operators -/
def eBin (o : Mem → W → W → Option W) (fa fb : DE) : DE := fun r m => (fa r m).bind fun a m1 => (fb r m1).bind fun b m2 => match o m2 a b with
  | some w => .ok w m2
  | none => .bad
def OpW (K : PySem.W.Frag) (cl : Nat → Addr) (o : Mem → W → W → Option W) (r : R2) : Prop := ∀ (z : Zn) (m : Mem) (H : Hp) (a b : W) (x y : V) (w : W) (Q : VK), MemOk K cl z m H → RW K z H a x → RW K z H b y → o m a b = some w →
  (∀ z' v H', Ext z H z' H' → MemOk K cl z' m H' → RW K z' H' w v → Q v H') → r x y H Q
theorem tE_bin {o : Mem → W → W → Option W} {rr : R2} {fa fb : DE} {s : L2.St} {H : Hp} {Q : VK} {g : Gx} (hw : OpW g.K g.cl o rr) (h : tE g (eBin o fa fb) s H Q) : tOp rr (tE g fa) (tE g fb) s H Q := by
  obtain ⟨r, m, z, R, P⟩ := h
  refine ⟨r, m, z, R, P.bind fun z1 a m1 x H1 E1 R1 r1 P1 => ?_⟩
  refine ⟨r, m1, z1, R1, P1.bind fun z2 b m2 y H2 E2 R2 r2 P2 => ?_⟩
  cases q : o m2 a b with
  | none => rw [q] at P2; exact P2.elim
  | some w =>
    rw [q] at P2
    exact hw z2 m2 H2 a b x y w Q R2.mem (RW.ext E2 r1) r2 q fun z' v H' e M rw' => P2 z' v H' e (R2.after e M) rw'
theorem se_op {op : Operator} {o : Mem → W → W → Option W} {rr : R2} {fa fb : DE} (ho : OpR X (binaryOp op) rr) (hw : OpW X.K cl o rr) (ha : PE X a (tE (gx X cl Wx) fa)) (hb : PE X b (tE (gx X cl Wx) fb)) :
    PE X (.BinOp a op b pos) (tE (gx X cl Wx) (eBin o fa fb)) := (pe_op ho ha hb).imp fun s H Q h => tE_bin (g := gx X cl Wx) hw h
theorem se_cmp {op : CmpOp} {o : Mem → W → W → Option W} {rr : R2} {fa fb : DE} (ho : OpR X (compareOp op) rr) (hw : OpW X.K cl o rr) (ha : PE X a (tE (gx X cl Wx) fa)) (hb : PE X b (tE (gx X cl Wx) fb)) (hm : behindInMarks op b = false) :
    PE X (.Compare a [op] [b] pos) (tE (gx X cl Wx) (eBin o fa fb)) := (pe_cmpR ho ha hb hm).imp fun s H Q h => tE_bin (g := gx X cl Wx) hw h
theorem se_ix {o : Mem → W → W → Option W} {rr : R2} {fa fb : DE} (ho : IxR X rr) (hw : OpW X.K cl o rr) (ha : PE X a (tE (gx X cl Wx) fa)) (hb : PE X b (tE (gx X cl Wx) fb)) (hs : PlainIx b := by exact fun _ _ => rfl) :
    PE X (.Subscript a b pos) (tE (gx X cl Wx) (eBin o fa fb)) := (pe_ix ho ha hb hs).imp fun s H Q h => tE_bin (g := gx X cl Wx) hw h
theorem OpW.or {K : PySem.W.Frag} {o : Mem → W → W → Option W} {o1 o2 : Mem → W → W → Option W} {r1 r2 : R2} (h1 : OpW K cl o1 r1) (h2 : OpW K cl o2 r2) (h : ∀ m a b w, o m a b = some w → o1 m a b = some w ∨ o2 m a b = some w) :
    OpW K cl o (fun x y H Q => r1 x y H Q ∨ r2 x y H Q) := fun z m H a b x y w Q M ra rb e k => (h m a b w e).elim (fun e => .inl (h1 z m H a b x y w Q M ra rb e k)) fun e => .inr (h2 z m H a b x y w Q M ra rb e k)
/-- a value as a test: a bool -/
def dTest (f : DE) : DT := fun r m => (f r m).bind fun w m1 => match w with
  | .bl b => .ok b m1
  | _ => .bad
theorem tT_test {f : DE} {s : L2.St} {H : Hp} {Q : Bool → Hp → Prop} {g : Gx} (h : tT g (dTest f) s H Q) : tTest (tE g f) s H Q := by
  obtain ⟨r, m, z, R, P⟩ := h
  refine ⟨r, m, z, R, P.bind fun z1 a m1 x H1 E1 R1 r1 P1 => ?_⟩
  cases a with
  | bl k =>
    have r1 : x = .bl k := r1
    exact ⟨k, r1, Post.ret (b := k) P1 R1 rfl⟩
  | _ => exact P1.elim
theorem st_cmp {op : CmpOp} {o : Mem → W → W → Option W} {rr : R2} {fa fb : DE} (ho : OpR X (compareOp op) rr) (hw : OpW X.K cl o rr) (ha : PE X a (tE (gx X cl Wx) fa)) (hb : PE X b (tE (gx X cl Wx) fb)) (hm : behindInMarks op b = false) :
    PT X (.Compare a [op] [b] pos) (tT (gx X cl Wx) (dTest (eBin o fa fb))) := (pt_cmpR ho ha hb hm).imp fun s H Q h => by
  have h' := tT_test h
  unfold tTest at h' ⊢
  exact tE_bin (g := gx X cl Wx) hw h'
/-- an expression whose value is a bool, as a test -/
theorem st_val {f : DE} (h : PE X e (tE (gx X cl Wx) f)) (he : ∀ whole, isTrue e X.env whole = (do let v ← whole; standAt e.pos; holding [v] (truthy v)) := by intro _; rfl) : PT X e (tT (gx X cl Wx) (dTest f)) :=
  (pt_val h he).imp fun s H Q h => tT_test h

/-! ### and, or, not, a if t else b -/
def dAnd (f h : DT) : DT := fun r m => (f r m).bind fun c m1 => if c = true then h r m1 else .ok false m1
def dOr (f h : DT) : DT := fun r m => (f r m).bind fun c m1 => if c = true then .ok true m1 else h r m1
def dNot (f : DT) : DT := fun r m => (f r m).bind fun c m1 => .ok (!c) m1
theorem sw_and1 {f : DT} (h : PT X a (tT (gx X cl Wx) f)) : PW X (.BoolOp .And [a] pos) (tT (gx X cl Wx) f) := pw_and1 h
theorem sw_or1 {f : DT} (h : PT X a (tT (gx X cl Wx) f)) : PW X (.BoolOp .Or [a] pos) (tT (gx X cl Wx) f) := pw_or1 h
theorem _root_.L2.PW.imp {t t' : TT} (h : PW X e t) (hi : ∀ s H Q, t' s H Q → t s H Q) : PW X e t' := ⟨fun wh pins sh s H Q I q => h.run wh pins sh s H Q I (hi _ _ _ q)⟩
theorem sw_and {f h : DT} {rest : List Expr} (ha : PT X a (tT (gx X cl Wx) f)) (hb : PW X (.BoolOp .And (b :: rest) pos) (tT (gx X cl Wx) h)) : PW X (.BoolOp .And (a :: b :: rest) pos) (tT (gx X cl Wx) (dAnd f h)) :=
  (pw_and ha hb).imp fun s H Q ⟨r, m, z, R, P⟩ => by
    refine ⟨r, m, z, R, P.bind fun z1 c m1 d H1 E1 R1 r1 P1 => ?_⟩
    have r1 : c = d := r1
    subst r1
    cases c with
    | true => exact ⟨r, m1, z1, R1, P1⟩
    | false => exact Post.ret (b := false) P1 R1 rfl
theorem sw_or {f h : DT} {rest : List Expr} (ha : PT X a (tT (gx X cl Wx) f)) (hb : PW X (.BoolOp .Or (b :: rest) pos) (tT (gx X cl Wx) h)) : PW X (.BoolOp .Or (a :: b :: rest) pos) (tT (gx X cl Wx) (dOr f h)) :=
  (pw_or ha hb).imp fun s H Q ⟨r, m, z, R, P⟩ => by
    refine ⟨r, m, z, R, P.bind fun z1 c m1 d H1 E1 R1 r1 P1 => ?_⟩
    have r1 : c = d := r1
    subst r1
    cases c with
    | false => exact ⟨r, m1, z1, R1, P1⟩
    | true => exact Post.ret (b := true) P1 R1 rfl
theorem st_not {f : DT} (ha : PT X a (tT (gx X cl Wx) f)) : PT X (.UnaryOp .Not a pos) (tT (gx X cl Wx) (dNot f)) :=
  (pt_not ha).imp fun s H Q ⟨r, m, z, R, P⟩ => by
    refine ⟨r, m, z, R, P.bind fun z1 c m1 d H1 E1 R1 r1 P1 => ?_⟩
    have r1 : c = d := r1
    subst r1
    exact Post.ret (b := !c) P1 R1 rfl
/-- as values -/
def eAnd (f h : DE) : DE := fun r m => (f r m).bind fun w m1 => match w with
  | .bl true => h r m1
  | .bl false => .ok (.bl false) m1
  | _ => .bad
def eOr (f h : DE) : DE := fun r m => (f r m).bind fun w m1 => match w with
  | .bl false => h r m1
  | .bl true => .ok (.bl true) m1
  | _ => .bad
def eNot (f : DE) : DE := fun r m => (f r m).bind fun w m1 => match w with
  | .bl b => .ok (.bl (!b)) m1
  | _ => .bad
theorem se_and {f h : DE} {rest : List Expr} (ha : PE X a (tE (gx X cl Wx) f)) (hb : PE X (.BoolOp .And (b :: rest) pos) (tE (gx X cl Wx) h)) : PE X (.BoolOp .And (a :: b :: rest) pos) (tE (gx X cl Wx) (eAnd f h)) :=
  (pe_and ha hb).imp fun s H Q ⟨r, m, z, R, P⟩ => by
    refine ⟨r, m, z, R, P.bind fun z1 c m1 d H1 E1 R1 r1 P1 => ?_⟩
    cases c with
    | bl k =>
      have r1 : d = .bl k := r1
      refine ⟨k, r1, ?_⟩
      cases k with
      | true => exact ⟨r, m1, z1, R1, P1⟩
      | false => exact Post.ret (b := V.bl false) P1 R1 rfl
    | _ => exact P1.elim
theorem se_or {f h : DE} {rest : List Expr} (ha : PE X a (tE (gx X cl Wx) f)) (hb : PE X (.BoolOp .Or (b :: rest) pos) (tE (gx X cl Wx) h)) : PE X (.BoolOp .Or (a :: b :: rest) pos) (tE (gx X cl Wx) (eOr f h)) :=
  (pe_or ha hb).imp fun s H Q ⟨r, m, z, R, P⟩ => by
    refine ⟨r, m, z, R, P.bind fun z1 c m1 d H1 E1 R1 r1 P1 => ?_⟩
    cases c with
    | bl k =>
      have r1 : d = .bl k := r1
      refine ⟨k, r1, ?_⟩
      cases k with
      | false => exact ⟨r, m1, z1, R1, P1⟩
      | true => exact Post.ret (b := V.bl true) P1 R1 rfl
    | _ => exact P1.elim
theorem se_one {op : BoolOp} {f : DE} (h : PE X a (tE (gx X cl Wx) f)) : PE X (.BoolOp op [a] pos) (tE (gx X cl Wx) f) := pe_one h
theorem se_not {f : DE} (ha : PE X a (tE (gx X cl Wx) f)) : PE X (.UnaryOp .Not a pos) (tE (gx X cl Wx) (eNot f)) :=
  (pe_not ha).imp fun s H Q ⟨r, m, z, R, P⟩ => by
    refine ⟨r, m, z, R, P.bind fun z1 c m1 d H1 E1 R1 r1 P1 => ?_⟩
    cases c with
    | bl k =>
      have r1 : d = .bl k := r1
      exact ⟨k, r1, Post.ret (b := V.bl (!k)) P1 R1 rfl⟩
    | _ => exact P1.elim
def eIf (c : DT) (f h : DE) : DE := fun r m => (c r m).bind fun k m1 => if k = true then f r m1 else h r m1
theorem se_if {c : Expr} {fc : DT} {f h : DE} (hc : PT X c (tT (gx X cl Wx) fc)) (ha : PE X a (tE (gx X cl Wx) f)) (hb : PE X b (tE (gx X cl Wx) h)) : PE X (.IfExp c a b pos) (tE (gx X cl Wx) (eIf fc f h)) :=
  (pe_ifExp hc ha hb).imp fun s H Q ⟨r, m, z, R, P⟩ => by
    refine ⟨r, m, z, R, P.bind fun z1 c m1 d H1 E1 R1 r1 P1 => ?_⟩
    have r1 : c = d := r1
    subst r1
    cases c with
    | true => exact ⟨r, m1, z1, R1, P1⟩
    | false => exact ⟨r, m1, z1, R1, P1⟩

/-! ### argument lists, tuples, lists -/
def aNil : DA := fun _ m => .ok [] m
def aCons (f : DE) (t : DA) : DA := fun r m => (f r m).bind fun w m1 => (t r m1).bind fun ws m2 => .ok (w :: ws) m2
theorem sa_nil : PA X [] (tA (gx X cl Wx) aNil) := pa_nil.imp fun s H Q ⟨r, m, z, R, P⟩ => Post.ret (b := ([] : List V)) P R rfl
theorem sa_cons {es : List Expr} {f : DE} {t : DA} (h : PE X e (tE (gx X cl Wx) f)) (ht : PA X es (tA (gx X cl Wx) t)) (hs : starEach (e :: es) X.env = (false, eval e X.env) :: starEach es X.env := by rfl) : PA X (e :: es) (tA (gx X cl Wx) (aCons f t)) :=
  (pa_cons h ht hs).imp fun s H Q ⟨r, m, z, R, P⟩ => by
    refine ⟨r, m, z, R, P.bind fun z1 w m1 x H1 E1 R1 r1 P1 => ?_⟩
    refine ⟨r, m1, z1, R1, P1.bind fun z2 ws m2 xs H2 E2 R2 r2 P2 => ?_⟩
    exact Post.ret (b := x :: xs) P2 R2 (RWs.cons (RW.ext E2 r1) r2)
/-- the items of a list or a tuple -/
def seqOf (m : Mem) : W → Option (List W)
  | .tup xs => some xs
  | .lst xs => some xs
  | .old xs => some xs
  | .ref n => match m[n]? with
    | some (.lst xs) => some xs
    | some (.fz xs) => some xs
    | _ => none
  | _ => none
/-- .. of a list -/
def lstOf (m : Mem) : W → Option (List W)
  | .lst xs => some xs
  | .old xs => some xs
  | .ref n => match m[n]? with
    | some (.lst xs) => some xs
    | some (.fz xs) => some xs
    | _ => none
  | _ => none
theorem MemOk.at {K : PySem.W.Frag} {z : Zn} {m : Mem} {H : Hp} {n : Nat} {a : Addr} (M : MemOk K cl z m H) (h : z.phi[n]? = some a) : ∃ c, m[n]? = some c ∧ CellOk K cl z H a c := by
  have hn : n < m.length := by rw [← M.len]; exact (List.getElem?_eq_some_iff.mp h).1
  exact ⟨m[n], List.getElem?_eq_getElem hn, M.cells n a _ h (List.getElem?_eq_getElem hn)⟩
theorem lst_at {K : PySem.W.Frag} {z : Zn} {m : Mem} {H : Hp} {w : W} {v : V} {xs : List W} (M : MemOk K cl z m H) (h : RW K z H w v) (e : lstOf m w = some xs) : ∃ a vs, v = .ref a ∧ SqL K H a vs ∧ RWs K z H xs vs := by
  cases w with
  | lst ys =>
    obtain ⟨a, vs, h1, h2, h3⟩ := h
    have e : ys = xs := by simpa [lstOf] using e
    subst e
    exact ⟨a, vs, h1, SqL.of h2.2, h3⟩
  | old ys =>
    obtain ⟨a, vs, h1, h2, h3⟩ := h
    have e : ys = xs := by simpa [lstOf] using e
    subst e
    exact ⟨a, vs, h1, h2.sq, h3⟩
  | ref n =>
    obtain ⟨a, h1, h2⟩ := h
    obtain ⟨c, e1, hc⟩ := M.at h1
    simp only [lstOf, e1] at e
    cases c with
    | lst ys =>
      obtain ⟨_, _, vs, q, rr⟩ := hc
      have e : ys = xs := by simpa using e
      subst e
      exact ⟨a, vs, h2, SqL.of q, rr⟩
    | fz ys =>
      obtain ⟨_, vs, q, rr⟩ := hc
      have e : ys = xs := by simpa using e
      subst e
      exact ⟨a, vs, h2, SqL.of q, rr⟩
    | _ => simp at e
  | _ => simp [lstOf] at e
theorem seq_at {K : PySem.W.Frag} {z : Zn} {m : Mem} {H : Hp} {w : W} {v : V} {xs : List W} (M : MemOk K cl z m H) (h : RW K z H w v) (e : seqOf m w = some xs) : ∃ a vs, v = .ref a ∧ (SqL K H a vs ∨ SqT K H a vs) ∧ RWs K z H xs vs := by
  cases w with
  | tup ys =>
    obtain ⟨a, vs, h1, h2, h3⟩ := h
    have e : ys = xs := by simpa [seqOf] using e
    subst e
    exact ⟨a, vs, h1, .inr h2, h3⟩
  | lst ys =>
    obtain ⟨a, vs, h1, h2, h3⟩ := lst_at M h (xs := xs) (by simpa [seqOf, lstOf] using e)
    exact ⟨a, vs, h1, .inl h2, h3⟩
  | old ys =>
    obtain ⟨a, vs, h1, h2, h3⟩ := lst_at M h (xs := xs) (by simpa [seqOf, lstOf] using e)
    exact ⟨a, vs, h1, .inl h2, h3⟩
  | ref n =>
    obtain ⟨a, vs, h1, h2, h3⟩ := lst_at M h (xs := xs) (by unfold lstOf; unfold seqOf at e; exact e)
    exact ⟨a, vs, h1, .inl h2, h3⟩
  | _ => simp [seqOf] at e
/-- .. of a list that is tracked: no module's, not the script -/
def trkOf (m : Mem) : W → Option (List W)
  | .lst xs => some xs
  | .ref n => match m[n]? with
    | some (.lst xs) => some xs
    | some (.fz xs) => some xs
    | _ => none
  | _ => none
theorem trk_at {K : PySem.W.Frag} {z : Zn} {m : Mem} {H : Hp} {w : W} {v : V} {xs : List W} (M : MemOk K cl z m H) (h : RW K z H w v) (e : trkOf m w = some xs) : ∃ a vs, v = .ref a ∧ H a = some (.lst vs) ∧ RWs K z H xs vs := by
  cases w with
  | lst ys =>
    obtain ⟨a, vs, h1, h2, h3⟩ := h
    have e : ys = xs := by simpa [trkOf] using e
    subst e
    exact ⟨a, vs, h1, h2.2, h3⟩
  | ref n =>
    obtain ⟨a, h1, h2⟩ := h
    obtain ⟨c, e1, hc⟩ := M.at h1
    simp only [trkOf, e1] at e
    cases c with
    | lst ys =>
      obtain ⟨_, _, vs, q, rr⟩ := hc
      have e : ys = xs := by simpa using e
      subst e
      exact ⟨a, vs, h2, q, rr⟩
    | fz ys =>
      obtain ⟨_, vs, q, rr⟩ := hc
      have e : ys = xs := by simpa using e
      subst e
      exact ⟨a, vs, h2, q, rr⟩
    | _ => simp at e
  | _ => simp [trkOf] at e
/-- *e, .. -/
def aStar (f : DE) (t : DA) : DA := fun r m => (f r m).bind fun w m1 => match seqOf m1 w with
  | some xs => (t r m1).bind fun ws m2 => .ok (xs ++ ws) m2
  | none => .bad
theorem sa_star {es : List Expr} {f : DE} {t : DA} {p : Pos} (h : PE X e (tE (gx X cl Wx) f)) (ht : PA X es (tA (gx X cl Wx) t)) (hs : starEach (.Starred e p :: es) X.env = (true, eval e X.env) :: starEach es X.env := by rfl) : PA X (.Starred e p :: es) (tA (gx X cl Wx) (aStar f t)) :=
  (StX.pa_star h ht hs).imp fun s H Q ⟨r, m, z, R, P⟩ => by
    refine ⟨r, m, z, R, P.bind fun z1 w m1 x H1 E1 R1 r1 P1 => ?_⟩
    cases q : seqOf m1 w with
    | none => rw [q] at P1; exact P1.elim
    | some ys =>
      rw [q] at P1
      obtain ⟨a, vs, e1, e2, e3⟩ := seq_at R1.mem r1 q
      refine ⟨a, vs, e1, e2.symm, r, m1, z1, R1, P1.bind fun z2 ws m2 xs H2 E2 R2 r2 P2 => ?_⟩
      exact Post.ret (b := vs ++ xs) P2 R2 ((RWs.ext E2 e3).append r2)
/-- a new tuple -/
theorem new_tup {K : PySem.W.Frag} {z : Zn} {m : Mem} {H : Hp} {p : Addr} {ws : List W} {vs : List V} (M : MemOk K cl z m H) (hp : H p = none) (h : RWs K z H ws vs) : Ext z H z (upd H p (.tup vs)) ∧ MemOk K cl z m (upd H p (.tup vs)) ∧ RW K z (upd H p (.tup vs)) (.tup ws) (.ref p) := by
  have hs := upd_same_of (o := .tup vs) hp
  exact ⟨M.extS hs, M.same hs, p, vs, rfl, SqT.of upd_same, RWs.ext (M.extS hs) h⟩
/-- a new list that is settled at once -/
theorem new_lst {K : PySem.W.Frag} {z : Zn} {m : Mem} {H : Hp} {p : Addr} {ws : List W} {vs : List V} (M : MemOk K cl z m H) (hp : H p = none) (h : RWs K z H ws vs) : Ext z H (z.fz p) (upd H p (.lst vs)) ∧ MemOk K cl (z.fz p) m (upd H p (.lst vs)) ∧ RW K (z.fz p) (upd H p (.lst vs)) (.lst ws) (.ref p) := by
  have hs := upd_same_of (o := .lst vs) hp
  have e := M.extS hs
  obtain ⟨e2, M2⟩ := (M.same hs).settle (p := p) upd_same (M.h_ne hp) (M.p_ne hp)
  exact ⟨e.trans e2, M2, p, vs, rfl, ⟨.inl rfl, upd_same⟩, RWs.ext (e.trans e2) h⟩
def eTup (t : DA) : DE := fun r m => (t r m).bind fun ws m1 => if ws.length ≤ 16777216 then .ok (.tup ws) m1 else .bad
def eLst (t : DA) : DE := fun r m => (t r m).bind fun ws m1 => if ws.length ≤ 16777216 then .ok (.lst ws) m1 else .bad
theorem sl_le {n : Nat} (h : n ≤ 16777216) : n ≤ sizeLine := by rw [sizeLine_eq]; exact h
theorem se_tup {es : List Expr} {x1} {t : DA} (h : PA X es (tA (gx X cl Wx) t)) : PE X (.Tuple es x1 pos) (tE (gx X cl Wx) (eTup t)) :=
  (pe_tup h).imp fun s H Q ⟨r, m, z, R, P⟩ => by
    refine ⟨r, m, z, R, P.bind fun z1 ws m1 vs H1 E1 R1 r1 P1 => ?_⟩
    split at P1
    · rename_i hl
      refine ⟨by rw [RWs.length r1]; exact sl_le hl, fun p hp => ?_⟩
      obtain ⟨e, M, q⟩ := new_tup (cl := cl) R1.mem hp r1
      exact P1 _ _ _ e (R1.after e M) q
    · exact P1.elim
theorem se_lst {es : List Expr} {t : DA} (h : PA X es (tA (gx X cl Wx) t)) : PE X (.List es pos) (tE (gx X cl Wx) (eLst t)) :=
  (pe_lst h).imp fun s H Q ⟨r, m, z, R, P⟩ => by
    refine ⟨r, m, z, R, P.bind fun z1 ws m1 vs H1 E1 R1 r1 P1 => ?_⟩
    split at P1
    · rename_i hl
      refine ⟨by rw [RWs.length r1]; exact sl_le hl, fun p hp => ?_⟩
      obtain ⟨e, M, q⟩ := new_lst (cl := cl) R1.mem hp r1
      exact P1 _ _ _ e (R1.after e M) q
    · exact P1.elim
/-- a new list that may change -/
theorem new_ref {K : PySem.W.Frag} {z : Zn} {m : Mem} {H : Hp} {p : Addr} {ws : List W} {vs : List V} (M : MemOk K cl z m H) (hp : H p = none) (h : RWs K z H ws vs) : Ext z H (z.lay p) (upd H p (.lst vs)) ∧ MemOk K cl (z.lay p) (m ++ [.lst ws]) (upd H p (.lst vs)) ∧ RW K (z.lay p) (upd H p (.lst vs)) (.ref m.length) (.ref p) := by
  have hs := upd_same_of (o := .lst vs) hp
  have e := M.extS hs
  have e2 : Ext z (upd H p (.lst vs)) (z.lay p) (upd H p (.lst vs)) := ⟨⟨fun _ _ h => h, fun _ _ _ h => h, fun _ h => ⟨h, rfl⟩, fun n a h => by
    have hl := (List.getElem?_eq_some_iff.mp h).1
    show (z.phi ++ [p])[n]? = some a
    rw [List.getElem?_append_left hl]
    exact h⟩, fun _ h => ⟨h, rfl⟩⟩
  obtain ⟨e3, M2⟩ := (M.same hs).lay (p := p) (c := .lst ws) (M.z_ne hp) (M.p_ne hp) ⟨M.z_ne hp, M.h_ne hp, vs, upd_same, RWs.ext (e.trans e2) h⟩
  refine ⟨e.trans e2, M2, p, ?_, rfl⟩
  show (z.phi ++ [p])[m.length]? = some p
  rw [← M.len]
  simp
def eLstM (t : DA) : DE := fun r m => (t r m).bind fun ws m1 => if ws.length ≤ 16777216 then .ok (.ref m1.length) (m1 ++ [.lst ws]) else .bad
theorem se_lstM {es : List Expr} {t : DA} (h : PA X es (tA (gx X cl Wx) t)) : PE X (.List es pos) (tE (gx X cl Wx) (eLstM t)) :=
  (pe_lst h).imp fun s H Q ⟨r, m, z, R, P⟩ => by
    refine ⟨r, m, z, R, P.bind fun z1 ws m1 vs H1 E1 R1 r1 P1 => ?_⟩
    split at P1
    · rename_i hl
      refine ⟨by rw [RWs.length r1]; exact sl_le hl, fun p hp => ?_⟩
      obtain ⟨e, M, q⟩ := new_ref (cl := cl) R1.mem hp r1
      exact P1 _ _ _ e (R1.after e M) q
    · exact P1.elim
end
end Dn

/-! D3: operators on plain values. -/
namespace Dn
open PySem PySem.Spec PyProof.Rows L2

section
variable {K : PySem.W.Frag} {cl : Nat → Addr} {X : Cx}
/-! ### ints -/
def iOp (f : Int → Int → Option W) : Mem → W → W → Option W
  | _, .int i, .int j => f i j
  | _, _, _ => none
theorem opw_int {f : Int → Int → Option W} {C : Int → Int → Prop} {h : Int → Int → V} (hf : ∀ i j w, f i j = some w → C i j ∧ ∀ z H, RW K z H w (h i j)) : OpW K cl (iOp f) (rI C h) := by
  intro z m H a b x y w Q M ra rb e k
  cases a with
  | int i =>
    cases b with
    | int j =>
      obtain ⟨c, q⟩ := hf i j w e
      exact ⟨i, j, ra, rb, c, k z _ H (Ext.refl _ _) M (q z H)⟩
    | _ => simp [iOp] at e
  | _ => simp [iOp] at e
theorem opw_int0 {f : Int → Int → Option W} {h : Int → Int → V} (hf : ∀ i j w, f i j = some w → ∀ z H, RW K z H w (h i j)) : OpW K cl (iOp f) (rI0 h) := by
  intro z m H a b x y w Q M ra rb e k
  cases a with
  | int i =>
    cases b with
    | int j => exact ⟨i, j, ra, rb, k z _ H (Ext.refl _ _) M (hf i j w e z H)⟩
    | _ => simp [iOp] at e
  | _ => simp [iOp] at e
def subW : Mem → W → W → Option W := iOp fun i j => some (.int (i - j))
def fdivW : Mem → W → W → Option W := iOp fun i j => if 0 < j ∧ j < 1073741824 then some (.int (i / j)) else none
def modW : Mem → W → W → Option W := iOp fun i j => if 0 < j then some (.int (i % j)) else none
def powW : Mem → W → W → Option W := iOp fun i j => if 0 ≤ j ∧ j ≤ 1000000 ∧ i.natAbs < 2 ^ 64 then some (.int (i ^ j.toNat)) else none
def ltW : Mem → W → W → Option W := iOp fun i j => some (.bl (decide (i < j)))
def leW : Mem → W → W → Option W := iOp fun i j => some (.bl (decide (i ≤ j)))
def gtW : Mem → W → W → Option W := iOp fun i j => some (.bl (decide (j < i)))
def geW : Mem → W → W → Option W := iOp fun i j => some (.bl (decide (j ≤ i)))
theorem w_sub : OpW K cl subW (rI0 fun i j => .int (i - j)) := opw_int0 fun i j w e z H => by cases e; rfl
theorem w_fdiv : OpW K cl fdivW (rI CDiv fun i j => .int (i / j)) := opw_int fun i j w e => by
  split at e
  · rename_i c; cases e; exact ⟨c, fun _ _ => rfl⟩
  · cases e
theorem w_mod : OpW K cl modW (rI (fun _ j => 0 < j) fun i j => .int (i % j)) := opw_int fun i j w e => by
  split at e
  · rename_i c; cases e; exact ⟨c, fun _ _ => rfl⟩
  · cases e
theorem w_pow : OpW K cl powW (rI CPow fun i j => .int (i ^ j.toNat)) := opw_int fun i j w e => by
  split at e
  · rename_i c; cases e; exact ⟨c, fun _ _ => rfl⟩
  · cases e
theorem w_lt : OpW K cl ltW (rI0 fun i j => .bl (decide (i < j))) := opw_int0 fun i j w e z H => by cases e; rfl
theorem w_le : OpW K cl leW (rI0 fun i j => .bl (decide (i ≤ j))) := opw_int0 fun i j w e z H => by cases e; rfl
theorem w_gt : OpW K cl gtW (rI0 fun i j => .bl (decide (j < i))) := opw_int0 fun i j w e z H => by cases e; rfl
theorem w_ge : OpW K cl geW (rI0 fun i j => .bl (decide (j ≤ i))) := opw_int0 fun i j w e z H => by cases e; rfl

/-! ### + and * -/
def addS : Mem → W → W → Option W
  | _, .str x, .str y => if x.length + y.length ≤ 16777216 then some (.str (x ++ y)) else none
  | _, _, _ => none
def addT : Mem → W → W → Option W
  | _, .tup xs, .tup ys => if xs.length + ys.length ≤ 16777216 then some (.tup (xs ++ ys)) else none
  | _, _, _ => none
def addL : Mem → W → W → Option W := fun m a b => match trkOf m a, trkOf m b with
  | some xs, some ys => if xs.length + ys.length ≤ 16777216 then some (.lst (xs ++ ys)) else none
  | _, _ => none
theorem w_addS : OpW K cl addS (fun x y H Q => ∃ i j, x = .str i ∧ y = .str j ∧ i.length + j.length ≤ sizeLine ∧ Q (.str (i ++ j)) H) := by
  intro z m H a b x y w Q M ra rb e k
  cases a with
  | str i =>
    cases b with
    | str j =>
      simp only [addS] at e
      split at e
      · rename_i c; cases e; exact ⟨i, j, ra, rb, sl_le c, k z _ H (Ext.refl _ _) M rfl⟩
      · cases e
    | _ => simp [addS] at e
  | _ => simp [addS] at e
theorem RWs.nil_iff {z : Zn} {H : Hp} {ws : List W} {vs : List V} (h : RWs K z H ws vs) : vs = [] ↔ ws = [] := by
  have := h.length
  constructor
  · intro q; subst q; exact List.length_eq_zero_iff.mp this.symm
  · intro q; subst q; exact List.length_eq_zero_iff.mp this
theorem w_addT : OpW K cl addT (rCatA K) := by
  intro z m H a b x y w Q M ra rb e k
  cases a with
  | tup xs =>
    cases b with
    | tup ys =>
      simp only [addT] at e
      split at e
      · rename_i c
        cases e
        obtain ⟨p, vs, e1, e2, e3⟩ := ra
        obtain ⟨q, us, f1, f2, f3⟩ := rb
        refine ⟨p, q, vs, us, e1, f1, e2, f2, ?_, fun hn => ?_, fun _ hn => ?_, fun _ _ l hl => ?_⟩
        · rw [e3.length, f3.length]; exact sl_le c
        · have hx : xs = [] := e3.nil_iff.mp hn
          subst hx
          exact k z _ H (Ext.refl _ _) M ⟨q, us, rfl, f2, f3⟩
        · have hx : ys = [] := f3.nil_iff.mp hn
          subst hx
          rw [List.append_nil] at k
          exact k z _ H (Ext.refl _ _) M ⟨p, vs, rfl, e2, e3⟩
        · obtain ⟨t1, t2, t3⟩ := new_tup (cl := cl) M hl (e3.append f3)
          exact k _ _ _ t1 t2 t3
      · cases e
    | _ => simp [addT] at e
  | _ => simp [addT] at e
theorem w_addL : OpW K cl addL rCat := by
  intro z m H a b x y w Q M ra rb e k
  unfold addL at e
  split at e
  · rename_i xs ys e1 e2
    split at e
    · rename_i c
      cases e
      obtain ⟨p, vs, a1, a2, a3⟩ := trk_at M ra e1
      obtain ⟨q, us, b1, b2, b3⟩ := trk_at M rb e2
      refine ⟨p, q, vs, us, a1, b1, a2, b2, by rw [a3.length, b3.length]; exact sl_le c, fun l hl => ?_⟩
      obtain ⟨t1, t2, t3⟩ := new_lst (cl := cl) M hl (a3.append b3)
      exact k _ _ _ t1 t2 t3
    · cases e
  · cases e
def addI : Mem → W → W → Option W := iOp fun i j => some (.int (i + j))
theorem w_addI : OpW K cl addI (rI0 fun i j => .int (i + j)) := opw_int0 fun i j w e z H => by cases e; rfl
def addW (m : Mem) (a b : W) : Option W := match a, b with
  | .int i, .int j => some (.int (i + j))
  | .str x, .str y => addS m (.str x) (.str y)
  | .tup x, .tup y => addT m (.tup x) (.tup y)
  | a, b => addL m a b
abbrev rAddW (K : PySem.W.Frag) : R2 := fun x y H Q => (rI0 fun i j => .int (i + j)) x y H Q ∨ (fun x y H Q => (fun x y H Q => ∃ i j, x = V.str i ∧ y = V.str j ∧ i.length + j.length ≤ sizeLine ∧ Q (V.str (i ++ j)) H) x y H Q ∨ (fun x y H Q => rCatA K x y H Q ∨ rCat x y H Q) x y H Q) x y H Q
theorem o_add : OpR X (binaryOp .Add) (rAddW X.K) := op_add.or (op_add_str.or (op_catA.or op_cat))
theorem w_add : OpW K cl addW (rAddW K) := by
  refine OpW.or (o1 := addI) (o2 := fun m a b => match a, b with
    | .str x, .str y => addS m (.str x) (.str y)
    | .tup x, .tup y => addT m (.tup x) (.tup y)
    | a, b => addL m a b) w_addI (OpW.or (o1 := addS) (o2 := fun m a b => match a, b with
    | .tup x, .tup y => addT m (.tup x) (.tup y)
    | a, b => addL m a b) w_addS (OpW.or (o1 := addT) (o2 := addL) w_addT w_addL ?_) ?_) ?_
  · intro m a b w e
    split at e
    · exact .inl e
    · exact .inr e
  · intro m a b w e
    split at e
    · exact .inl e
    · exact .inr e
    · exact .inr (by rename_i h1 h2; split <;> first | exact e | (rename_i h; exact absurd rfl (h2 _ _ rfl)))
  · intro m a b w e
    unfold addW at e
    split at e
    · exact .inl e
    · exact .inr e
    · exact .inr e
    · refine .inr ?_
      rename_i h1 h2 h3
      split
      · exact absurd rfl (h2 _ _ rfl)
      · exact absurd rfl (h3 _ _ rfl)
      · exact e
def mulI : Mem → W → W → Option W := iOp fun i j => if (-(2 ^ 64) < i ∧ i < 2 ^ 64) ∨ (-(2 ^ 64) < j ∧ j < 2 ^ 64) then some (.int (i * j)) else none
theorem w_mulI : OpW K cl mulI (rI CMul fun i j => .int (i * j)) := opw_int fun i j w e => by
  split at e
  · rename_i c; cases e; exact ⟨c, fun _ _ => rfl⟩
  · cases e
def mulL : Mem → W → W → Option W := fun m a b => match trkOf m a, b with
  | some xs, .int k => if -(2 ^ 63) ≤ k ∧ k < 2 ^ 63 ∧ xs.length * k.toNat ≤ 16777216 then some (.lst (List.replicate k.toNat xs).flatten) else none
  | _, _ => none
theorem RWs.rep {z : Zn} {H : Hp} {ws : List W} {vs : List V} (h : RWs K z H ws vs) : ∀ k : Nat, RWs K z H (List.replicate k ws).flatten (List.replicate k vs).flatten
  | 0 => rfl
  | k + 1 => by
    rw [List.replicate_succ, List.replicate_succ, List.flatten_cons, List.flatten_cons]
    exact h.append (RWs.rep h k)
theorem w_mulL : OpW K cl mulL rRep := by
  intro z m H a b x y w Q M ra rb e k
  unfold mulL at e
  split at e
  · rename_i xs j e1
    split at e
    · rename_i c
      cases e
      obtain ⟨p, vs, a1, a2, a3⟩ := trk_at M ra e1
      refine ⟨p, j, vs, a1, rb, a2, c.1, c.2.1, by rw [a3.length]; exact sl_le c.2.2, fun l hl => ?_⟩
      obtain ⟨t1, t2, t3⟩ := new_lst (cl := cl) M hl (a3.rep j.toNat)
      exact k _ _ _ t1 t2 t3
    · cases e
  · cases e
def mulW (m : Mem) (a b : W) : Option W := match a, b with
  | .int i, .int j => mulI m (.int i) (.int j)
  | a, b => mulL m a b
theorem o_mul : OpR X (binaryOp .Mult) (fun x y H Q => (rI CMul fun i j => .int (i * j)) x y H Q ∨ rRep x y H Q) := op_mul.or op_rep
theorem w_mul : OpW K cl mulW (fun x y H Q => (rI CMul fun i j => .int (i * j)) x y H Q ∨ rRep x y H Q) := by
  refine OpW.or (o1 := mulI) (o2 := mulL) w_mulI w_mulL ?_
  intro m a b w e
  unfold mulW at e
  split at e
  · exact .inl e
  · exact .inr e

/-! ### == and in, over data -/
mutual
def okW (n : Nat) : W → Bool
  | .non => true
  | .bl _ => true
  | .int _ => true
  | .str x => PyData.strOk x
  | .tup xs => match n with
    | 0 => false
    | k + 1 => okWs k xs
  | .lst xs => match n with
    | 0 => false
    | k + 1 => okWs k xs
  | .old xs => match n with
    | 0 => false
    | k + 1 => okWs k xs
  | .ref _ => false
  | .raw _ => false
def okWs (n : Nat) : List W → Bool
  | [] => true
  | w :: ws => okW n w && okWs n ws
end
mutual
def toD : W → PyData
  | .non => .none
  | .bl b => .bool b
  | .int i => .int i
  | .str x => .str x
  | .tup xs => .tuple (toDs xs)
  | .lst xs => .list (toDs xs)
  | .old xs => .list (toDs xs)
  | .ref _ => .none
  | .raw _ => .none
def toDs : List W → List PyData
  | [] => []
  | w :: ws => toD w :: toDs ws
end
mutual
def eqW : W → W → Bool
  | .non, .non => true
  | .bl a, .bl b => a == b
  | .bl a, .int j => (if a then 1 else 0) == j
  | .int i, .bl b => i == (if b then 1 else 0)
  | .int i, .int j => i == j
  | .str x, .str y => x == y
  | .tup xs, .tup ys => eqWs xs ys
  | .lst xs, .lst ys => eqWs xs ys
  | .lst xs, .old ys => eqWs xs ys
  | .old xs, .lst ys => eqWs xs ys
  | .old xs, .old ys => eqWs xs ys
  | _, _ => false
def eqWs : List W → List W → Bool
  | [], [] => true
  | x :: xs, y :: ys => eqW x y && eqWs xs ys
  | _, _ => false
end
mutual
theorem okW_lay : ∀ (n : Nat) (w : W), okW n w = true → (toD w).canLay0 = true ∧ (toD w).depth ≤ n
  | n, .non, _ => ⟨rfl, Nat.zero_le _⟩
  | n, .bl _, _ => ⟨rfl, Nat.zero_le _⟩
  | n, .int _, _ => ⟨rfl, Nat.zero_le _⟩
  | n, .str x, h => ⟨by simpa [toD, PyData.canLay0, okW] using h, by simp [toD, PyData.depth]⟩
  | 0, .tup xs, h => by simp [okW] at h
  | n + 1, .tup xs, h => by
    obtain ⟨h1, h2⟩ := okWs_lay n xs (by simpa [okW] using h)
    exact ⟨by simpa [toD, PyData.canLay0] using h1, by simpa [toD, PyData.depth] using h2⟩
  | 0, .lst xs, h => by simp [okW] at h
  | n + 1, .lst xs, h => by
    obtain ⟨h1, h2⟩ := okWs_lay n xs (by simpa [okW] using h)
    exact ⟨by simpa [toD, PyData.canLay0] using h1, by simpa [toD, PyData.depth] using h2⟩
  | 0, .old xs, h => by simp [okW] at h
  | n + 1, .old xs, h => by
    obtain ⟨h1, h2⟩ := okWs_lay n xs (by simpa [okW] using h)
    exact ⟨by simpa [toD, PyData.canLay0] using h1, by simpa [toD, PyData.depth] using h2⟩
  | n, .ref _, h => by simp [okW] at h
  | n, .raw _, h => by simp [okW] at h
theorem okWs_lay : ∀ (n : Nat) (ws : List W), okWs n ws = true → PyData.canLayAll0 (toDs ws) = true ∧ PyData.depthAll (toDs ws) ≤ n
  | n, [], _ => ⟨rfl, Nat.zero_le _⟩
  | n, w :: ws, h => by
    rw [okWs, Bool.and_eq_true_iff] at h
    obtain ⟨h1, h2⟩ := okW_lay n w h.1
    obtain ⟨h3, h4⟩ := okWs_lay n ws h.2
    exact ⟨by simp [toDs, PyData.canLayAll0, h1, h3], by simp only [toDs, PyData.depthAll]; omega⟩
end
theorem okW_shaped {n : Nat} {w : W} (h : okW n w = true) (hn : n ≤ 64) : SeqAt.shaped (toD w) = true := by
  obtain ⟨h1, h2⟩ := okW_lay n w h
  unfold SeqAt.shaped
  rw [h1, Bool.true_and]
  exact decide_eq_true (Nat.le_trans h2 hn)
mutual
theorem eqv_toD : ∀ (n k : Nat) (a b : W), okW n a = true → okW k b = true → PyData.eqv (toD a) (toD b) = eqW a b
  | n, k, .non, b, ha, hb => by cases b <;> first | rfl | simp [okW] at hb
  | n, k, .bl x, b, ha, hb => by cases b <;> first | rfl | simp [okW] at hb
  | n, k, .int x, b, ha, hb => by cases b <;> first | rfl | simp [okW] at hb
  | n, k, .str x, b, ha, hb => by cases b <;> first | rfl | simp [okW] at hb
  | 0, k, .tup xs, b, ha, hb => by simp [okW] at ha
  | n + 1, k, .tup xs, b, ha, hb => by
    cases b with
    | tup ys =>
      cases k with
      | zero => simp [okW] at hb
      | succ k =>
        simp only [toD, PyData.eqv, eqW]
        exact eqv_toDs n k xs ys (by simpa [okW] using ha) (by simpa [okW] using hb)
    | ref _ => simp [okW] at hb
    | raw _ => simp [okW] at hb
    | _ => rfl
  | 0, k, .lst xs, b, ha, hb => by simp [okW] at ha
  | n + 1, k, .lst xs, b, ha, hb => by
    cases b with
    | lst ys =>
      cases k with
      | zero => simp [okW] at hb
      | succ k =>
        simp only [toD, PyData.eqv, eqW]
        exact eqv_toDs n k xs ys (by simpa [okW] using ha) (by simpa [okW] using hb)
    | old ys =>
      cases k with
      | zero => simp [okW] at hb
      | succ k =>
        simp only [toD, PyData.eqv, eqW]
        exact eqv_toDs n k xs ys (by simpa [okW] using ha) (by simpa [okW] using hb)
    | ref _ => simp [okW] at hb
    | raw _ => simp [okW] at hb
    | _ => rfl
  | 0, k, .old xs, b, ha, hb => by simp [okW] at ha
  | n + 1, k, .old xs, b, ha, hb => by
    cases b with
    | lst ys =>
      cases k with
      | zero => simp [okW] at hb
      | succ k =>
        simp only [toD, PyData.eqv, eqW]
        exact eqv_toDs n k xs ys (by simpa [okW] using ha) (by simpa [okW] using hb)
    | old ys =>
      cases k with
      | zero => simp [okW] at hb
      | succ k =>
        simp only [toD, PyData.eqv, eqW]
        exact eqv_toDs n k xs ys (by simpa [okW] using ha) (by simpa [okW] using hb)
    | ref _ => simp [okW] at hb
    | raw _ => simp [okW] at hb
    | _ => rfl
  | n, k, .ref _, b, ha, hb => by simp [okW] at ha
  | n, k, .raw _, b, ha, hb => by simp [okW] at ha
theorem eqv_toDs : ∀ (n k : Nat) (as bs : List W), okWs n as = true → okWs k bs = true → PyData.eqvAll (toDs as) (toDs bs) = eqWs as bs
  | n, k, [], [], _, _ => rfl
  | n, k, [], _ :: _, _, _ => rfl
  | n, k, _ :: _, [], _, _ => rfl
  | n, k, a :: as, b :: bs, ha, hb => by
    rw [okWs, Bool.and_eq_true_iff] at ha hb
    simp only [toDs, PyData.eqvAll, eqWs]
    rw [eqv_toD n k a b ha.1 hb.1, eqv_toDs n k as bs ha.2 hb.2]
end
mutual
theorem dp_of {z : Zn} {H : Hp} : ∀ {n : Nat} {w : W} {v : V}, okW n w = true → RW K z H w v → Dp K H v (toD w)
  | _, .non, _, _, h => by cases h; exact .non
  | _, .bl _, _, _, h => by cases h; exact .bl _
  | _, .int _, _, _, h => by cases h; exact .int _
  | _, .str _, _, _, h => by cases h; exact .str _
  | 0, .tup ws, _, ho, _ => by simp [okW] at ho
  | n + 1, .tup ws, _, ho, ⟨a, vs, h1, h2, h3⟩ => by subst h1; exact .tup h2 (dps_of (n := n) (by simpa [okW] using ho) h3)
  | 0, .lst ws, _, ho, _ => by simp [okW] at ho
  | n + 1, .lst ws, _, ho, ⟨a, vs, h1, h2, h3⟩ => by subst h1; exact .lst (SqL.of h2.2) (dps_of (n := n) (by simpa [okW] using ho) h3)
  | 0, .old ws, _, ho, _ => by simp [okW] at ho
  | n + 1, .old ws, _, ho, ⟨a, vs, h1, h2, h3⟩ => by subst h1; exact .lst h2.sq (dps_of (n := n) (by simpa [okW] using ho) h3)
  | _, .ref _, _, ho, _ => by simp [okW] at ho
  | _, .raw _, _, ho, _ => by simp [okW] at ho
theorem dps_of {z : Zn} {H : Hp} : ∀ {n : Nat} {ws : List W} {vs : List V}, okWs n ws = true → RWs K z H ws vs → DpAll K H vs (toDs ws)
  | _, [], _, _, h => by cases h; exact .nil
  | _, _ :: _, _, ho, ⟨v, r, h1, h2, h3⟩ => by
    subst h1
    rw [okWs, Bool.and_eq_true_iff] at ho
    exact .cons (dp_of ho.1 h2) (dps_of ho.2 h3)
end
/-- a list that may change, as it is now -/
def rsv (m : Mem) : W → W
  | .ref n => match m[n]? with
    | some (.lst xs) => .lst xs
    | some (.fz xs) => .lst xs
    | _ => .ref n
  | w => w
theorem dp_rsv {z : Zn} {m : Mem} {H : Hp} {n : Nat} {w : W} {v : V} (M : MemOk K cl z m H) (ho : okW n (rsv m w) = true) (h : RW K z H w v) : Dp K H v (toD (rsv m w)) := by
  cases w with
  | ref i =>
    obtain ⟨a, h1, h2⟩ := h
    obtain ⟨c, e1, hc⟩ := M.at h1
    subst h2
    simp only [rsv, e1] at ho ⊢
    cases c with
    | lst ys =>
      obtain ⟨_, _, vs, q, rr⟩ := hc
      cases n with
      | zero => simp [okW] at ho
      | succ n => exact .lst (SqL.of q) (dps_of (n := n) (by simpa [okW] using ho) rr)
    | fz ys =>
      obtain ⟨_, vs, q, rr⟩ := hc
      cases n with
      | zero => simp [okW] at ho
      | succ n => exact .lst (SqL.of q) (dps_of (n := n) (by simpa [okW] using ho) rr)
    | _ => simp [okW] at ho
  | _ => exact dp_of ho h
def eqM (m : Mem) (a b : W) : Option W := if okW 60 (rsv m a) && okW 60 (rsv m b) then some (.bl (eqW (rsv m a) (rsv m b))) else none
def neM (m : Mem) (a b : W) : Option W := if okW 60 (rsv m a) && okW 60 (rsv m b) then some (.bl (!eqW (rsv m a) (rsv m b))) else none
theorem w_eq : OpW K cl eqM (rEqD K) := by
  intro z m H a b x y w Q M ra rb e k
  unfold eqM at e
  split at e
  · rename_i c
    rw [Bool.and_eq_true_iff] at c
    cases e
    refine ⟨_, _, dp_rsv M c.1 ra, dp_rsv M c.2 rb, okW_shaped c.1 (by decide), okW_shaped c.2 (by decide), ?_⟩
    rw [eqv_toD _ _ _ _ c.1 c.2]
    exact k z _ H (Ext.refl _ _) M rfl
  · cases e
theorem w_ne : OpW K cl neM (rNeD K) := by
  intro z m H a b x y w Q M ra rb e k
  unfold neM at e
  split at e
  · rename_i c
    rw [Bool.and_eq_true_iff] at c
    cases e
    refine ⟨_, _, dp_rsv M c.1 ra, dp_rsv M c.2 rb, okW_shaped c.1 (by decide), okW_shaped c.2 (by decide), ?_⟩
    rw [eqv_toD _ _ _ _ c.1 c.2]
    exact k z _ H (Ext.refl _ _) M rfl
  · cases e
/-! in, not in: of data, in lists and tuples -/
def rInA (K : PySem.W.Frag) (neg : Bool) : R2 := fun x y H Q => ∃ d ds, Dp K H x d ∧ (Dp K H y (.list ds) ∨ Dp K H y (.tuple ds)) ∧ SeqAt.shaped d = true ∧ SeqAt.shaped (.list ds) = true ∧ Q (.bl (if neg then !(ds.any fun z => PyData.eqv z d) else ds.any fun z => PyData.eqv z d)) H
theorem shaped_tl {ds : List PyData} (h : SeqAt.shaped (.list ds) = true) : SeqAt.shaped (.tuple ds) = true := h
theorem op_inA (hu : X.A.units + 65 < cLine) : OpR X (compareOp .In) (rInA X.K false) := by
  intro pins s σ H x y v u Q I rx ry h
  obtain ⟨d, ds, hd, he, sd, se, q⟩ := h
  obtain ⟨as, r1⟩ := Dp.reads I d x v hd rx
  rcases he with he | he
  · obtain ⟨bs, r2⟩ := Dp.reads I (.list ds) y u he ry
    exact SeqAt.in_list_reads r2 r1 (SeqAt.canLay_of_shaped se) (SeqAt.canLay_of_shaped sd) (room_in_shaped sd hu) ⟨.bl _, H, I, rfl, q⟩
  · obtain ⟨bs, r2⟩ := Dp.reads I (.tuple ds) y u he ry
    exact SeqAt.in_tuple_reads r2 r1 (SeqAt.canLay_of_shaped (shaped_tl se)) (SeqAt.canLay_of_shaped sd) (room_in_shaped sd hu) ⟨.bl _, H, I, rfl, q⟩
theorem op_notInA (hu : X.A.units + 65 < cLine) : OpR X (compareOp .NotIn) (rInA X.K true) := by
  intro pins s σ H x y v u Q I rx ry h
  obtain ⟨d, ds, hd, he, sd, se, q⟩ := h
  obtain ⟨as, r1⟩ := Dp.reads I d x v hd rx
  rcases he with he | he
  · obtain ⟨bs, r2⟩ := Dp.reads I (.list ds) y u he ry
    exact SeqAt.notIn_list_reads r2 r1 (SeqAt.canLay_of_shaped se) (SeqAt.canLay_of_shaped sd) (room_in_shaped sd hu) ⟨.bl _, H, I, rfl, q⟩
  · obtain ⟨bs, r2⟩ := Dp.reads I (.tuple ds) y u he ry
    exact SeqAt.notIn_tuple_reads r2 r1 (SeqAt.canLay_of_shaped (shaped_tl se)) (SeqAt.canLay_of_shaped sd) (room_in_shaped sd hu) ⟨.bl _, H, I, rfl, q⟩
def anyEq (a : W) : List W → Bool
  | [] => false
  | y :: ys => eqW y a || anyEq a ys
def inM (neg : Bool) (m : Mem) (a b : W) : Option W := match seqOf m b with
  | some ys => if okW 60 (rsv m a) && okWs 60 ys then some (.bl (if neg then !anyEq (rsv m a) ys else anyEq (rsv m a) ys)) else none
  | none => none
theorem any_toDs {n k : Nat} {a : W} (ha : okW n a = true) : ∀ {ys : List W}, okWs k ys = true → ((toDs ys).any fun z => PyData.eqv z (toD a)) = anyEq a ys
  | [], _ => rfl
  | y :: ys, h => by
    rw [okWs, Bool.and_eq_true_iff] at h
    simp only [toDs, List.any_cons, anyEq]
    rw [eqv_toD k n y a h.1 ha, any_toDs ha h.2]
theorem w_in {neg : Bool} : OpW K cl (inM neg) (rInA K neg) := by
  intro z m H a b x y w Q M ra rb e k
  unfold inM at e
  split at e
  · rename_i ys q
    split at e
    · rename_i c
      rw [Bool.and_eq_true_iff] at c
      cases e
      obtain ⟨p, vs, e1, e2, e3⟩ := seq_at M rb q
      subst e1
      refine ⟨toD (rsv m a), toDs ys, dp_rsv M c.1 ra, ?_, okW_shaped c.1 (by decide), okW_shaped (n := 61) (w := .lst ys) (by simpa [okW] using c.2) (by decide), ?_⟩
      · rcases e2 with e2 | e2
        · exact .inl (.lst e2 (dps_of c.2 e3))
        · exact .inr (.tup e2 (dps_of c.2 e3))
      · rw [any_toDs c.1 c.2]
        exact k z _ H (Ext.refl _ _) M rfl
    · cases e
  · cases e

/-! ### items -/
def ixM (m : Mem) (a b : W) : Option W := match seqOf m a, b with
  | some xs, .int i => atI xs i
  | _, _ => none
theorem atI_rel {z : Zn} {H : Hp} {ws : List W} {vs : List V} {i : Int} {w : W} (h : RWs K z H ws vs) (e : atI ws i = some w) : ∃ v, atI vs i = some v ∧ RW K z H w v := by
  unfold atI at e ⊢
  rw [h.length]
  cases q : ixN ws.length i with
  | none => rw [q] at e; cases e
  | some j =>
    rw [q] at e
    obtain ⟨v, e1, e2⟩ := h.get (i := j) (w := w) (by simpa using e)
    exact ⟨v, by simpa using e1, e2⟩
theorem w_ix : OpW K cl ixM (rIx K) := by
  intro z m H a b x y w Q M ra rb e k
  unfold ixM at e
  split at e
  · rename_i xs i q
    obtain ⟨p, vs, e1, e2, e3⟩ := seq_at M ra q
    obtain ⟨v, f1, f2⟩ := atI_rel e3 e
    rcases e2 with e2 | e2
    · exact .inl ⟨p, vs, i, v, e1, rb, e2, f1, k z _ H (Ext.refl _ _) M f2⟩
    · exact .inr (.inl ⟨p, vs, i, v, e1, rb, e2, f1, k z _ H (Ext.refl _ _) M f2⟩)
  · cases e
end
end Dn

/-! D4: statements, targets, loops. -/
namespace Dn
open PySem PySem.Spec PyProof.Rows L2

def PostS (g : Gx) (z : Zn) (H : Hp) (q : RS) (D : Ends) : Prop :=
  match q with
  | .next r m => ∀ z' s' H', Ext z H z' H' → Rel g.K g.cl z' r m s' H' → D.nx s' H'
  | .brk r m => ∀ z' s' H', Ext z H z' H' → Rel g.K g.cl z' r m s' H' → D.bk s' H'
  | .cont r m => ∀ z' s' H', Ext z H z' H' → Rel g.K g.cl z' r m s' H' → D.ct s' H'
  | .ret w m => ∀ z' v H', Ext z H z' H' → MemOk g.K g.cl z' m H' → RW g.K z' H' w v → D.rt v H'
  | .exc x r m => ∀ z' s' H' c d, Ext z H z' H' → Rel g.K g.cl z' r m s' H' → XnOk g.K g.cl z' H' x c d → g.Wx c d s' H'
  | .bad => False
def tS (g : Gx) (f : DS) : TS := fun D s H => ∃ r m z, Rel g.K g.cl z r m s H ∧ PostS g z H (f r m) D
def R.thenS {α : Type} (q : R α) (r : Rho) (k : α → Mem → RS) : RS :=
  match q with
  | .ok a m => k a m
  | .exc x m => .exc x r m
  | .bad => .bad

section
variable {α β : Type} {g : Gx} {rel : Zn → Hp → α → β → Prop} {z z1 : Zn} {H H1 : Hp} {r : Rho} {s : L2.St} {D : Ends} {Q1 : β → Hp → Prop}
theorem PostS.mono {q : RS} (e : Ext z H z1 H1) (h : PostS g z H q D) : PostS g z1 H1 q D := by
  cases q with
  | next r m => exact fun z' s' H' e' => h z' s' H' (e.trans e')
  | brk r m => exact fun z' s' H' e' => h z' s' H' (e.trans e')
  | cont r m => exact fun z' s' H' e' => h z' s' H' (e.trans e')
  | ret w m => exact fun z' v H' e' => h z' v H' (e.trans e')
  | exc x r m => exact fun z' s' H' c d e' => h z' s' H' c d (e.trans e')
  | bad => exact h
theorem PostS.bind {q : R α} {k : α → Mem → RS} (h : PostS g z H (q.thenS r k) D)
    (hk : ∀ z1 a m1 b H1, Ext z H z1 H1 → Rel g.K g.cl z1 r m1 s H1 → rel z1 H1 a b → PostS g z1 H1 (k a m1) D → Q1 b H1) : Post g rel z H r s q Q1 := by
  cases q with
  | ok a m => exact fun z' b H' e R q => hk z' a m b H' e R q (PostS.mono e h)
  | exc x m => exact fun z' H' c d e R q => h z' s H' c d e R q
  | bad => exact h
theorem PostS.next {m : Mem} (h : PostS g z H (.next r m) D) (R : Rel g.K g.cl z r m s H) : D.nx s H := h z s H (Ext.refl _ _) R
end

section
variable {X : Cx} {cl : Nat → Addr} {Wx : WX} {e a b : Expr} {pos : Pos} {st : Stmt}
theorem _root_.L2.PS.imp {t t' : TS} (h : PS X st t) (hi : ∀ D s H, t' D s H → t D s H) : PS X st t' := ⟨fun pins sh s H D I q => h.run pins sh s H D I (hi _ _ _ q)⟩
theorem _root_.L2.PSs.imp {sts : List Stmt} {t t' : TS} (h : PSs X sts t) (hi : ∀ D s H, t' D s H → t D s H) : PSs X sts t' := ⟨fun pins sh s H D I q => h.run pins sh s H D I (hi _ _ _ q)⟩
def sNil : DS := fun r m => .next r m
def sSeq (f h : DS) : DS := fun r m => match f r m with
  | .next r1 m1 => h r1 m1
  | q => q
theorem ss_nil : PSs X [] (tS (gx X cl Wx) sNil) := pss_nil.imp fun D s H ⟨r, m, z, R, P⟩ => P.next R
theorem ss_cons {rest : List Stmt} {f h : DS} (h1 : PS X st (tS (gx X cl Wx) f)) (h2 : PSs X rest (tS (gx X cl Wx) h)) : PSs X (st :: rest) (tS (gx X cl Wx) (sSeq f h)) :=
  (pss_cons h1 h2).imp fun D s H ⟨r, m, z, R, P⟩ => by
    refine ⟨r, m, z, R, ?_⟩
    unfold sSeq at P
    cases q : f r m with
    | next r1 m1 =>
      rw [q] at P
      exact fun z' s' H' e R' => ⟨r1, m1, z', R', PostS.mono e P⟩
    | brk r1 m1 => rw [q] at P; exact P
    | cont r1 m1 => rw [q] at P; exact P
    | ret w m1 => rw [q] at P; exact P
    | exc x r1 m1 => rw [q] at P; exact P
    | bad => rw [q] at P; exact P
theorem ss_one {f : DS} (h1 : PS X st (tS (gx X cl Wx) f)) : PSs X [st] (tS (gx X cl Wx) f) := pss_one h1
def sPass : DS := fun r m => .next r m
def sBrk : DS := fun r m => .brk r m
def sCont : DS := fun r m => .cont r m
theorem ss_pass : PS X (.Pass pos) (tS (gx X cl Wx) sPass) := ps_pass.imp fun D s H ⟨r, m, z, R, P⟩ => P.next R
theorem ss_break : PS X (.Break pos) (tS (gx X cl Wx) sBrk) := ps_break.imp fun D s H ⟨r, m, z, R, P⟩ => P z s H (Ext.refl _ _) R
theorem ss_continue : PS X (.Continue pos) (tS (gx X cl Wx) sCont) := ps_continue.imp fun D s H ⟨r, m, z, R, P⟩ => P z s H (Ext.refl _ _) R
def sExpr (f : DE) : DS := fun r m => (f r m).thenS r fun _ m1 => .next r m1
theorem ss_expr {f : DE} (he : PE X e (tE (gx X cl Wx) f)) (hs : swapsWith e none pos.line X.env = pure false := by rfl) : PS X (.Expr e pos) (tS (gx X cl Wx) (sExpr f)) :=
  (ps_expr he hs).imp fun D s H ⟨r, m, z, R, P⟩ => ⟨r, m, z, R, P.bind fun z1 w m1 v H1 E1 R1 r1 P1 => P1.next R1⟩
def sRet (f : DE) : DS := fun r m => (f r m).thenS r fun w m1 => .ret w m1
theorem ss_ret {f : DE} (he : PE X e (tE (gx X cl Wx) f)) : PS X (.Return (some e) pos) (tS (gx X cl Wx) (sRet f)) :=
  (ps_ret he).imp fun D s H ⟨r, m, z, R, P⟩ => ⟨r, m, z, R, P.bind fun z1 w m1 v H1 E1 R1 r1 P1 => P1 z1 v H1 (Ext.refl _ _) R1.mem r1⟩
def sRetN : DS := fun _ m => .ret .non m
theorem ss_retN : PS X (.Return none pos) (tS (gx X cl Wx) sRetN) := ps_retN.imp fun D s H ⟨r, m, z, R, P⟩ => P z _ H (Ext.refl _ _) R.mem rfl
def sIf (c : DT) (f h : DS) : DS := fun r m => (c r m).thenS r fun k m1 => if k = true then f r m1 else h r m1
theorem ss_if {c : Expr} {xs ys : List Stmt} {fc : DT} {f h : DS} (hc : PT X c (tT (gx X cl Wx) fc)) (ha : PSs X xs (tS (gx X cl Wx) f)) (hb : PSs X ys (tS (gx X cl Wx) h)) : PS X (.If c xs ys pos) (tS (gx X cl Wx) (sIf fc f h)) :=
  (ps_if hc ha hb).imp fun D s H ⟨r, m, z, R, P⟩ => by
    refine ⟨r, m, z, R, P.bind (rel := relB) fun z1 k m1 d H1 E1 R1 r1 P1 => ?_⟩
    have r1 : k = d := r1
    subst r1
    cases k with
    | true => exact ⟨r, m1, z1, R1, P1⟩
    | false => exact ⟨r, m1, z1, R1, P1⟩

/-! ### targets -/
abbrev DG := W → Rho → Option Rho
/-- the slots but those in js are as they were -/
def Agree (js : List Nat) (s s' : L2.St) : Prop := s'.length = s.length ∧ ∀ i : Nat, i ∉ js → s'[i]? = s[i]?
theorem Agree.refl (js : List Nat) (s : L2.St) : Agree js s s := ⟨rfl, fun _ _ => rfl⟩
theorem Agree.trans {js ks : List Nat} {s s1 s2 : L2.St} (a : Agree js s s1) (b : Agree ks s1 s2) : Agree (js ++ ks) s s2 :=
  ⟨b.1.trans a.1, fun i h => (b.2 i fun q => h (List.mem_append_right _ q)).trans (a.2 i fun q => h (List.mem_append_left _ q))⟩
theorem Agree.set (i : Nat) (s : L2.St) (v : Option V) : Agree [i] s (s.set i v) := ⟨by simp, fun j h => List.getElem?_set_ne (by intro q; exact h (by simp [q]))⟩
def tGt (K : PySem.W.Frag) (cl : Nat → Addr) (js : List Nat) (f : DG) : TG := fun v s H Q => ∃ w r m z, Rel K cl z r m s H ∧ RW K z H w v ∧ match f w r with
  | some r' => ∀ s', Rel K cl z r' m s' H → Agree js s s' → Q s' H
  | none => False
def tGts (K : PySem.W.Frag) (cl : Nat → Addr) (js : List Nat) (f : List W → Rho → Option Rho) : TGs := fun vs s H Q => ∃ ws r m z, Rel K cl z r m s H ∧ RWs K z H ws vs ∧ match f ws r with
  | some r' => ∀ s', Rel K cl z r' m s' H → Agree js s s' → Q s' H
  | none => False
def gN (i : Nat) : DG := fun w r => some (r.set i (some w))
def gsNil : List W → Rho → Option Rho := fun ws r => match ws with
  | [] => some r
  | _ => none
def gsCons (f : DG) (t : List W → Rho → Option Rho) : List W → Rho → Option Rho := fun ws r => match ws with
  | w :: ws => (f w r).bind fun r1 => t ws r1
  | [] => none
def gT (t : List W → Rho → Option Rho) : DG := fun w r => match w with
  | .tup ws => t ws r
  | _ => none
theorem _root_.L2.PG.imp {tg : Expr} {t t' : TG} (h : PG X tg t) (hi : ∀ v s H Q, t' v s H Q → t v s H Q) : PG X tg t' := ⟨fun pins sh s H v u Q I rv q => h.run pins sh s H v u Q I rv (hi _ _ _ _ q)⟩
theorem _root_.L2.PGs.imp {tg : List Expr} {t t' : TGs} (h : PGs X tg t) (hi : ∀ v s H Q, t' v s H Q → t v s H Q) : PGs X tg t' := ⟨fun pins sh s H v u Q I rv q => h.run pins sh s H v u Q I rv (hi _ _ _ _ q)⟩
theorem sg_name {i : Nat} {x : Str} (h : PG X (.Name x pos) (gName i)) : PG X (.Name x pos) (tGt X.K cl [i] (gN i)) :=
  h.imp fun v s H Q ⟨w, r, m, z, R, q, k⟩ => k _ ⟨R.slots.set q, R.mem⟩ (Agree.set i s _)
theorem sgs_nil : PGs X [] (tGts X.K cl [] gsNil) := pgs_nil.imp fun vs s H Q ⟨ws, r, m, z, R, q, k⟩ => by
  cases ws with
  | nil => exact ⟨q, k s R (Agree.refl _ _)⟩
  | cons w ws => exact k.elim
theorem sgs_cons {es : List Expr} {js ks : List Nat} {f : DG} {t : List W → Rho → Option Rho} (h1 : PG X e (tGt X.K cl js f)) (h2 : PGs X es (tGts X.K cl ks t))
    (hs : (assignEach (e :: es) X.env).map (·.2) = assign e X.env :: (assignEach es X.env).map (·.2) := by rfl) : PGs X (e :: es) (tGts X.K cl (js ++ ks) (gsCons f t)) :=
  (pgs_cons h1 h2 hs).imp fun vs s H Q ⟨ws, r, m, z, R, q, k⟩ => by
    cases ws with
    | nil => exact k.elim
    | cons w ws =>
      obtain ⟨v, vr, e1, q1, q2⟩ := q
      refine ⟨v, vr, e1, w, r, m, z, R, q1, ?_⟩
      simp only [gsCons] at k
      cases e2 : f w r with
      | none => rw [e2] at k; exact k.elim
      | some r1 =>
        rw [e2] at k
        refine fun s' R' a1 => ⟨ws, r1, m, z, R', q2, ?_⟩
        simp only [Option.bind] at k
        cases e3 : t ws r1 with
        | none => rw [e3] at k; exact k
        | some r2 => rw [e3] at k; exact fun s2 R2 a2 => k s2 R2 (a1.trans a2)
theorem sg_tup {es : List Expr} {x1 : Nat} {js : List Nat} {t : List W → Rho → Option Rho} {n : Nat} (hc : X.calm = true) (h : PGs X es (tGts X.K cl js t)) (ht : ∀ ws r r', t ws r = some r' → ws.length = n)
    (hn : (assignEach es X.env).length = n := by rfl) (hst : (assignEach es X.env).findIdx? (·.1) = none := by rfl) : PG X (.Tuple es x1 pos) (tGt X.K cl js (gT t)) :=
  (pg_tup hc h hn hst).imp fun v s H Q ⟨w, r, m, z, R, q, k⟩ => by
    cases w with
    | tup ws =>
      obtain ⟨p, vs, e1, e2, e3⟩ := q
      refine ⟨p, vs, e1, e2, ?_, ws, r, m, z, R, e3, k⟩
      simp only [gT] at k
      cases e4 : t ws r with
      | none => rw [e4] at k; exact k.elim
      | some r' => rw [e3.length]; exact ht ws r r' e4
    | _ => exact k.elim
theorem gsNil_len : ∀ ws r r', gsNil ws r = some r' → ws.length = 0 := fun ws r r' h => by
  cases ws with
  | nil => rfl
  | cons w ws => cases h
theorem gsCons_len {f : DG} {t : List W → Rho → Option Rho} {n : Nat} (ht : ∀ ws r r', t ws r = some r' → ws.length = n) : ∀ ws r r', gsCons f t ws r = some r' → ws.length = n + 1 := fun ws r r' h => by
  cases ws with
  | nil => cases h
  | cons w ws =>
    simp only [gsCons] at h
    cases e : f w r with
    | none => rw [e] at h; cases h
    | some r1 => rw [e] at h; rw [List.length_cons, ht ws r1 r' h]
/-- x = e; a, b, .. = e -/
def sAsg (f : DE) (t : DG) : DS := fun r m => (f r m).thenS r fun w m1 => match t w r with
  | some r' => .next r' m1
  | none => .bad
theorem ss_asg {tg : Expr} {js : List Nat} {f : DE} {t : DG} (he : PE X e (tE (gx X cl Wx) f)) (hg : PG X tg (tGt X.K cl js t)) (hs : swapsWithSole [tg] e pos.line X.env = pure false := by rfl) (hw : swappedStores [tg] e X.env = pure none := by rfl)
    (h1 : (assignEach [tg] X.env).map (·.2) = [assign tg X.env] := by rfl) : PS X (.Assign [tg] e pos) (tS (gx X cl Wx) (sAsg f t)) :=
  (ps_asg he hg hs hw h1).imp fun D s H ⟨r, m, z, R, P⟩ => ⟨r, m, z, R, P.bind fun z1 w m1 v H1 E1 R1 r1 P1 => by
    refine ⟨w, r, m1, z1, R1, r1, ?_⟩
    cases e2 : t w r with
    | none => rw [e2] at P1; exact P1
    | some r' => rw [e2] at P1; exact fun s' R' _ => P1 z1 s' H1 (Ext.refl _ _) R'⟩
def sSet (i : Nat) (f : DE) : DS := fun r m => (f r m).thenS r fun w m1 => .next (r.set i (some w)) m1
theorem ss_set {i : Nat} {x : Str} {f : DE} {pos' : Pos} (hN : X.N.Nodup) (hi : X.N[i]? = some x) (hx : Loc X.env.scope x) (he : PE X e (tE (gx X cl Wx) f)) (hs : swapsWith e (some (.Name x pos')) pos.line X.env = pure false := by rfl) (hf : X.fn x = true ∨ X.env.scope.names.lookup x = some .local := by first | exact .inl rfl | exact .inr rfl | assumption) :
    PS X (.Assign [.Name x pos'] e pos) (tS (gx X cl Wx) (sSet i f)) :=
  (ps_set hN hi hx he hs hf).imp fun D s H ⟨r, m, z, R, P⟩ => ⟨r, m, z, R, P.bind fun z1 w m1 v H1 E1 R1 r1 P1 => P1 z1 _ H1 (Ext.refl _ _) ⟨R1.slots.set r1, R1.mem⟩⟩
/-- a, b = x, y by names -/
def sPar (i j : Nat) (t : DA) : DS := fun r m => (t r m).thenS r fun ws m1 => match ws with
  | [u, w] => .next ((r.set i (some u)).set j (some w)) m1
  | _ => .bad
theorem ss_par {i j : Nat} {x y : Str} {t : DA} {px py pt : Pos} {kt k2 pt2} (hc : X.calm = true) (hN : X.N.Nodup) (hi : X.N[i]? = some x) (hj : X.N[j]? = some y) (hij : i ≠ j)
    (hx : X.env.scope.names.lookup x = some .local) (hy : X.env.scope.names.lookup y = some .local) (ha : PA X [a, b] (tA (gx X cl Wx) t))
    (hw : swappedStores [.Tuple [.Name x px, .Name y py] kt pt] (.Tuple [a, b] k2 pt2) X.env = pure (some [x, y]))
    (hs : swapsWithSole [.Tuple [.Name x px, .Name y py] kt pt] (.Tuple [a, b] k2 pt2) pos.line X.env = pure false := by rfl) :
    PS X (.Assign [.Tuple [.Name x px, .Name y py] kt pt] (.Tuple [a, b] k2 pt2) pos) (tS (gx X cl Wx) (sPar i j t)) :=
  (ps_par hc hN hi hj hij hx hy ha hw hs).imp fun D s H ⟨r, m, z, R, P⟩ => ⟨r, m, z, R, P.bind (rel := RWs X.K) fun z1 ws m1 vs H1 E1 R1 r1 P1 => by
    split at P1
    · rename_i u w
      obtain ⟨v, vr, e1, q1, v2, vr2, e2, q2, e3⟩ := r1
      subst e1 e2 e3
      exact ⟨v, v2, rfl, P1 z1 _ H1 (Ext.refl _ _) ⟨(R1.slots.set q1).set q2, R1.mem⟩⟩
    · exact P1.elim⟩
/-- x op= e -/
def sAug (i : Nat) (o : Mem → W → W → Option W) (f : DE) : DS := fun r m => match r[i]? with
  | some (some a) => (f r m).thenS r fun b m1 => match o m1 a b with
    | some w => .next (r.set i (some w)) m1
    | none => .bad
  | _ => .bad
theorem ss_aug {i : Nat} {x : Str} {f : DE} {op : Operator} {o : Mem → W → W → Option W} {rr : R2} {pos' : Pos} (hN : X.N.Nodup) (hi : X.N[i]? = some x) (hx : Loc X.env.scope x) (he : PE X e (tE (gx X cl Wx) f)) (ho : OpR X (inplaceOp op) rr) (hw : OpW X.K cl o rr) (hf : X.fn x = true ∨ X.env.scope.names.lookup x = some .local := by first | exact .inl rfl | exact .inr rfl | assumption) :
    PS X (.AugAssign (.Name x pos') op e pos) (tS (gx X cl Wx) (sAug i o f)) :=
  (ps_aug hN hi hx he (ti := rr) (fun pins sh s H x y v u Q I rx ry h => ho pins sh s H x y v u Q I rx ry h) hf).imp fun D s H ⟨r, m, z, R, P⟩ => by
    unfold sAug at P
    split at P
    · rename_i a e1
      obtain ⟨v, q1, q2⟩ := R.slots.2 i a e1
      refine ⟨v, q1, r, m, z, R, P.bind fun z1 b m1 y H1 E1 R1 r1 P1 => ?_⟩
      cases e3 : o m1 a b with
      | none => rw [e3] at P1; exact P1.elim
      | some w =>
        rw [e3] at P1
        exact hw z1 m1 H1 a b v y w _ R1.mem (q2.ext E1) r1 e3 fun z' u H' e M rw' => P1 z' _ H' e ⟨(R1.slots.ext e).set rw', M⟩
    · exact P.elim

/-! ### what is walked -/
/-- J tells ws, item by item, as long as the heap goes on -/
def Walks (K : PySem.W.Frag) (z : Zn) (H : Hp) (ws : List W) (J : It) : Prop := ws.length ≤ sizeLine ∧ ∀ z2 H2, Ext0 z H z2 H2 → ∀ i : Nat, (i = ws.length → J.stop i H2) ∧
  ∀ w, ws[i]? = some w → J.go i H2 ∧ ∀ x H3, J.yld i H2 x H3 → Same H2 H3 ∧ ∀ z3, Ext0 z2 H2 z3 H3 → RW K z3 H3 w x
def tI (g : Gx) (f : DA) : TI := fun s H Rr => tG g (Walks g.K) f s H Rr
theorem _root_.L2.PI.imp {tg : Expr} {t t' : TI} (h : PI X tg e t) (hi : ∀ s H Rr, t' s H Rr → t s H Rr) : PI X tg e t' := ⟨fun pins sh s H Rr I q => h.run pins sh s H Rr I (hi _ _ _ q)⟩
theorem _root_.L2.PI.or {tg : Expr} {t t' : TI} (h : PI X tg e t) (h' : PI X tg e t') : PI X tg e (fun s H Rr => t s H Rr ∨ t' s H Rr) := ⟨fun pins sh s H Rr I q => q.elim (fun q => h.run pins sh s H Rr I q) fun q => h'.run pins sh s H Rr I q⟩
/-- the items of a tuple or a settled list -/
def iSeq (f : DE) : DA := fun r m => (f r m).bind fun w m1 => match w with
  | .tup xs => .ok xs m1
  | .lst xs => .ok xs m1
  | .old xs => .ok xs m1
  | _ => .bad
theorem walks_t {K : PySem.W.Frag} {z : Zn} {H : Hp} {ws : List W} {vs : List V} {p : Addr} (hl : vs.length ≤ sizeLine) (h : SqT K H p vs) (q : RWs K z H ws vs) : Walks K z H ws (Itt K p) := ⟨by rw [← q.length]; exact hl, fun z2 H2 e i => by
  have h2 := e.sqT h
  have q2 := RWs.ext0 e q
  refine ⟨fun hi => ⟨vs, h2, by rw [q.length]; exact Nat.le_of_eq hi.symm⟩, fun w hw => ?_⟩
  obtain ⟨v, e1, e2⟩ := q2.get hw
  refine ⟨⟨vs, v, h2, e1⟩, fun x H3 y => ?_⟩
  obtain ⟨y1, y2⟩ := y
  subst y1
  refine ⟨Same.refl _, fun z3 e3 => ?_⟩
  have := y2 vs h2
  rw [e1] at this
  cases this
  exact e2.ext0 e3⟩
theorem walks_l {K : PySem.W.Frag} {z : Zn} {H : Hp} {ws : List W} {vs : List V} {p : Addr} (hl : vs.length ≤ sizeLine) (h : ∀ z2 H2, Ext0 z H z2 H2 → SqL K H2 p vs) (q : RWs K z H ws vs) : Walks K z H ws (Itl K p) := ⟨by rw [← q.length]; exact hl, fun z2 H2 e i => by
  have h2 := h z2 H2 e
  have q2 := RWs.ext0 e q
  refine ⟨fun hi => ⟨vs, h2, by rw [q.length]; exact Nat.le_of_eq hi.symm⟩, fun w hw => ?_⟩
  obtain ⟨v, e1, e2⟩ := q2.get hw
  refine ⟨⟨vs, v, h2, e1⟩, fun x H3 y => ?_⟩
  obtain ⟨y1, y2⟩ := y
  subst y1
  refine ⟨Same.refl _, fun z3 e3 => ?_⟩
  have := y2 vs h2
  rw [e1] at this
  cases this
  exact e2.ext0 e3⟩
theorem pi_inv {tg : Expr} {t : TI} (h : PI X tg e t) : PI X tg e (fun s H Rr => t s H fun J H' => (∃ pins s2, Inv X pins s H' s2) → Rr J H') := ⟨fun pins sh s H Rr I q =>
  thn (h.run pins sh s H _ I q) fun v s1 h1 => thn h1 fun itv s2 ⟨it, fp, tn, J, H', e, I2, T, st, f2, k⟩ => ⟨it, fp, tn, J, H', e, I2, T, st, f2, k ⟨_, _, I2⟩⟩⟩
theorem pe_inv {t : TE} (h : PE X e t) : PE X e (fun s H Q => t s H fun v H' => (∃ pins s2, Inv X pins s H' s2) → Q v H') := ⟨fun pins sh s H Q I q =>
  thn (h.run pins sh s H _ I q) fun v s1 ⟨x, H', I1, r1, k⟩ => ⟨x, H', I1, r1, k ⟨_, _, I1⟩⟩⟩
theorem si_seq {tg : Expr} {f : DE} (h : PE X e (tE (gx X cl Wx) f)) : PI X tg e (tI (gx X cl Wx) (iSeq f)) := by
  refine ⟨fun pins sh s H Rr I h0 => ?_⟩
  obtain ⟨r, m, z, R, P⟩ := h0
  cases q : f r m with
  | ok w m1 =>
    unfold iSeq at P
    rw [q] at P
    cases w with
    | tup ws =>
      refine (pi_inv (pi_tup (tg := tg) h)).run pins sh s H Rr I ⟨r, m, z, R, ?_⟩
      rw [q]
      intro z' b H' e1 R1 ⟨p, vs, a1, a2, a3⟩
      exact ⟨p, a1, ⟨vs, a2⟩, fun ⟨_, _, I1⟩ => P z' _ H' e1 R1 (walks_t (let ⟨_, _, _, hz⟩ := I1.tuple a2; hz) a2 a3)⟩
    | lst ws =>
      refine (pi_inv (pi_list (tg := tg) h)).run pins sh s H Rr I ⟨r, m, z, R, ?_⟩
      rw [q]
      intro z' b H' e1 R1 ⟨p, vs, a1, a2, a3⟩
      exact ⟨p, a1, ⟨vs, SqL.of a2.2⟩, fun ⟨_, _, I1⟩ => P z' _ H' e1 R1 (walks_l (let ⟨_, _, _, hz⟩ := I1.list (SqL.of a2.2); hz) (fun z2 H2 e2 => SqL.of ((e2.zs p a2.1).2.trans a2.2)) a3)⟩
    | old ws =>
      refine (pi_inv (pi_list (tg := tg) h)).run pins sh s H Rr I ⟨r, m, z, R, ?_⟩
      rw [q]
      intro z' b H' e1 R1 ⟨p, vs, a1, a2, a3⟩
      exact ⟨p, a1, ⟨vs, a2.sq⟩, fun ⟨_, _, I1⟩ => P z' _ H' e1 R1 (walks_l (let ⟨_, _, _, hz⟩ := I1.list a2.sq; hz) (fun z2 H2 e2 => (e2.oldL a2).sq) a3)⟩
    | _ => exact P.elim
  | exc x m1 =>
    unfold iSeq at P
    rw [q] at P
    refine (pi_tup (tg := tg) h).run pins sh s H Rr I ⟨r, m, z, R, ?_⟩
    rw [q]
    exact P
  | bad =>
    unfold iSeq at P
    rw [q] at P
    exact P.elim
/-- lo, lo + 1, .. -/
def upFrom (lo : Int) : Nat → List W
  | 0 => []
  | n + 1 => .int lo :: upFrom (lo + 1) n
theorem upFrom_len : ∀ (lo : Int) (n : Nat), (upFrom lo n).length = n
  | _, 0 => rfl
  | lo, n + 1 => by rw [upFrom, List.length_cons, upFrom_len]
theorem upFrom_get : ∀ (lo : Int) (n i : Nat), i < n → (upFrom lo n)[i]? = some (.int (lo + i))
  | _, 0, _, h => absurd h (Nat.not_lt_zero _)
  | lo, n + 1, 0, _ => by simp [upFrom]
  | lo, n + 1, i + 1, h => by
    rw [upFrom, List.getElem?_cons_succ, upFrom_get (lo + 1) n i (Nat.lt_of_succ_lt_succ h)]
    congr 2
    omega
theorem walks_r {K : PySem.W.Frag} {z : Zn} {H : Hp} {lo : Int} {n : Nat} (hn : n ≤ 16777216) : Walks K z H (upFrom lo n) (Itr lo n) := ⟨by rw [upFrom_len]; exact sl_le hn, fun z2 H2 e i => by
  refine ⟨fun hi => by rw [upFrom_len] at hi; exact Nat.le_of_eq hi.symm, fun w hw => ?_⟩
  have hi : i < n := by
    have := (List.getElem?_eq_some_iff.mp hw).1
    rw [upFrom_len] at this
    exact this
  rw [upFrom_get lo n i hi] at hw
  cases hw
  refine ⟨hi, fun x H3 y => ?_⟩
  obtain ⟨y1, y2⟩ := y
  subst y1 y2
  exact ⟨Same.refl _, fun z3 e3 => rfl⟩⟩
def iRng (t : DA) : DA := fun r m => (t r m).bind fun ws m1 => match ws with
  | [.int j] => if -(2 ^ 62) ≤ j ∧ j ≤ 16777216 then .ok (upFrom 0 j.toNat) m1 else .bad
  | [.int i, .int j] => if (-(2 ^ 62) ≤ i ∧ i < 2 ^ 62) ∧ -(2 ^ 62) ≤ j ∧ j < 2 ^ 62 ∧ j - i ≤ 16777216 then .ok (upFrom i (j - i).toNat) m1 else .bad
  | _ => .bad
theorem si_rng1 {tg : Expr} {t : DA} {p : Pos} (hm : X.mg "range" = none) (ha : PA X [a] (tA (gx X cl Wx) t)) (hl : ∀ r m ws m1, t r m = .ok ws m1 → ws.length = 1) (hg : Gl X "range" := by rfl) (hs : starEach [a] X.env = [(false, eval a X.env)] := by rfl) : PI X tg (.Call (.Name "range" p) [a] [] pos) (tI (gx X cl Wx) (iRng t)) :=
  (pi_range1 hg hm ha hs).imp fun s H Rr ⟨r, m, z, R, P⟩ => ⟨r, m, z, R, by
    unfold iRng at P
    cases q : t r m with
    | ok ws m1 =>
      rw [q] at P
      intro z' vs H' e1 R1 r1
      have P := Post.mono (g := gx X cl Wx) e1 P
      have hl1 := hl r m ws m1 q
      cases ws with
      | nil => cases hl1
      | cons w ws =>
        cases ws with
        | cons _ _ => cases hl1
        | nil =>
          obtain ⟨v, vr, f1, f2, f3⟩ := r1
          subst f1 f3
          cases w with
          | int j =>
            simp only [Dn.R.bind] at P
            split at P
            · rename_i c
              exact ⟨j, by rw [show v = .int j from f2], c.1, by omega, P z' _ H' (Ext.refl _ _) R1 (walks_r (by omega))⟩
            · exact P.elim
          | _ => exact P.elim
    | exc x m1 => rw [q] at P; exact P
    | bad => rw [q] at P; exact P⟩
theorem si_rng2 {tg : Expr} {t : DA} {p : Pos} (hm : X.mg "range" = none) (ha : PA X [a, b] (tA (gx X cl Wx) t)) (hl : ∀ r m ws m1, t r m = .ok ws m1 → ws.length = 2) (hg : Gl X "range" := by rfl) (hs : starEach [a, b] X.env = [(false, eval a X.env), (false, eval b X.env)] := by rfl) (hs2 : starEach [b] X.env = [(false, eval b X.env)] := by rfl) :
    PI X tg (.Call (.Name "range" p) [a, b] [] pos) (tI (gx X cl Wx) (iRng t)) :=
  (pi_range2 hg hm ha hs hs2).imp fun s H Rr ⟨r, m, z, R, P⟩ => ⟨r, m, z, R, by
    unfold iRng at P
    cases q : t r m with
    | ok ws m1 =>
      rw [q] at P
      intro z' vs H' e1 R1 r1
      have P := Post.mono (g := gx X cl Wx) e1 P
      have hl1 := hl r m ws m1 q
      match ws, hl1, r1, P with
      | [w, w2], _, r1, P =>
        obtain ⟨v, vr, f1, f2, v2, vr2, g1, g2, g3⟩ := r1
        subst f1 g1 g3
        simp only [Dn.R.bind] at P
        split at P
        · rename_i h; cases h
        · rename_i i j h
          cases h
          split at P
          · rename_i c
            exact ⟨i, j, by rw [show v = .int i from f2, show v2 = .int j from g2], ⟨c.1.1, c.1.2, c.2.1, c.2.2.1⟩, P z' _ H' (Ext.refl _ _) R1 (walks_r (by omega))⟩
          · exact P.elim
        · exact P.elim
    | exc x m1 => rw [q] at P; exact P
    | bad => rw [q] at P; exact P⟩
theorem a1_len {f : DE} : ∀ r m ws m1, aCons f aNil r m = .ok ws m1 → ws.length = 1 := fun r m ws m1 h => by
  unfold aCons aNil at h
  cases q : f r m with
  | ok w m2 => rw [q] at h; simp only [Dn.R.bind] at h; cases h; rfl
  | exc x m2 => rw [q] at h; cases h
  | bad => rw [q] at h; cases h
theorem a2_len {f h : DE} : ∀ r m ws m1, aCons f (aCons h aNil) r m = .ok ws m1 → ws.length = 2 := fun r m ws m1 h0 => by
  unfold aCons aNil at h0
  cases q : f r m with
  | ok w m2 =>
    rw [q] at h0
    simp only [Dn.R.bind] at h0
    cases q2 : h r m2 with
    | ok w2 m3 => rw [q2] at h0; simp only [Dn.R.bind] at h0; cases h0; rfl
    | exc x m3 => rw [q2] at h0; cases h0
    | bad => rw [q2] at h0; cases h0
  | exc x m2 => rw [q] at h0; cases h0
  | bad => rw [q] at h0; cases h0

/-! ### for -/
def loop (t : DG) (body : DS) : List W → Rho → Mem → RS
  | [], r, m => .next r m
  | w :: ws, r, m => match t w r with
    | none => .bad
    | some r1 => match body r1 m with
      | .next r2 m2 => loop t body ws r2 m2
      | .cont r2 m2 => loop t body ws r2 m2
      | .brk r2 m2 => .next r2 m2
      | .ret u m2 => .ret u m2
      | .exc x r2 m2 => .exc x r2 m2
      | .bad => .bad
def sFor (src : DA) (t : DG) (body : DS) : DS := fun r m => (src r m).thenS r fun ws m1 => loop t body ws r m1
theorem ss_for {tg iter : Expr} {js : List Nat} {body : List Stmt} {src : DA} {t : DG} {fb : DS} (hp : PassesOwn (model X.prog X.w) X.A X.env X.xe) (hc : X.calm = true) (hi : PI X tg iter (tI (gx X cl Wx) src)) (hg : PG X tg (tGt X.K cl js t)) (hb : PSs X body (tS (gx X cl Wx) fb))
    (hs : ∀ x, foldedSetIterable iter X.env x = pure x := by intro _; rfl) : PS X (.For tg iter body [] pos) (tS (gx X cl Wx) (sFor src t fb)) :=
  (ps_for hp hc hi hg hb hs).imp fun D s H ⟨r, m, z, R, P⟩ => ⟨r, m, z, R, P.bind (rel := Walks X.K) fun z1 ws m1 J H1 E1 R1 r1 P1 => by
    refine ⟨fun i k s' H' => ∃ r' m' z', k = ws.length - i ∧ i ≤ ws.length ∧ Rel X.K cl z' r' m' s' H' ∧ Ext z1 H1 z' H' ∧ PostS (gx X cl Wx) z' H' (loop t fb (ws.drop i) r' m') D, ⟨ws.length, r, m1, z1, by simp, Nat.zero_le _, R1, Ext.refl _ _, by simpa using P1⟩, ?_⟩
    rintro i k s2 H2 ⟨r2, m2, z2, rfl, hi2, R2, E2, P2⟩
    obtain ⟨hstop, hgo⟩ := r1.2 z2 H2 E2.e0 i
    by_cases hlt : i < ws.length
    · obtain ⟨g1, g2⟩ := hgo ws[i] (List.getElem?_eq_getElem hlt)
      rw [List.drop_eq_getElem_cons hlt] at P2
      simp only [loop] at P2
      refine .inr ⟨g1, fun s' H' => ∃ r' m' z', Rel X.K cl z' r' m' s' H' ∧ Ext z1 H1 z' H' ∧ PostS (gx X cl Wx) z' H' (loop t fb (ws.drop (i + 1)) r' m') D, fun s' H' ⟨r', m', z', a1, a2, a3⟩ => ⟨ws.length - (i + 1), by omega, r', m', z', rfl, hlt, a1, a2, a3⟩, fun x H3 y => ?_⟩
      obtain ⟨sm, q3⟩ := g2 x H3 y
      have E3 := R2.mem.extS sm
      have R3 := R2.same sm
      have P3 := PostS.mono E3 P2
      refine ⟨ws[i], r2, m2, z2, R3, q3 z2 E3.e0, ?_⟩
      cases q4 : t ws[i] r2 with
      | none => rw [q4] at P3; exact P3
      | some r4 =>
        rw [q4] at P3
        refine fun s4 R4 _ => ⟨r4, m2, z2, R4, ?_⟩
        simp only at P3
        cases q5 : fb r4 m2 with
        | next r5 m5 =>
          rw [q5] at P3
          exact fun z' s' H' e5 R5 => ⟨r5, m5, z', R5, (E2.trans E3).trans e5, PostS.mono e5 P3⟩
        | cont r5 m5 =>
          rw [q5] at P3
          exact fun z' s' H' e5 R5 => ⟨r5, m5, z', R5, (E2.trans E3).trans e5, PostS.mono e5 P3⟩
        | brk r5 m5 => rw [q5] at P3; exact P3
        | ret u m5 => rw [q5] at P3; exact P3
        | exc x r5 m5 => rw [q5] at P3; exact P3
        | bad => rw [q5] at P3; exact P3
    · have hi3 : ws.length ≤ i := Nat.le_of_not_lt hlt
      refine .inl ⟨hstop (Nat.le_antisymm hi2 hi3), ?_⟩
      rw [List.drop_eq_nil_of_le hi3] at P2
      exact P2.next R2⟩
end
end Dn

/-! D5: defs and their calls; list comprehensions. -/
namespace Dn
open PySem PySem.Spec PyProof.Rows L2

/-! ### a def -/
abbrev Fw := List W → Mem → R W
def PostF (K : PySem.W.Frag) (cl : Nat → Addr) (z : Zn) (H : Hp) (q : R W) (Q : VK) (E : XK) : Prop :=
  match q with
  | .ok w m => ∀ z' v H', Ext z H z' H' → MemOk K cl z' m H' → RW K z' H' w v → Q v H'
  | .exc x m => ∀ z' H' c d, Ext z H z' H' → MemOk K cl z' m H' → XnOk K cl z' H' x c d → E c d H'
  | .bad => False
/-- a def's promise: of n arguments it does what g tells -/
def spOf (K : PySem.W.Frag) (cl : Nat → Addr) (n : Nat) (g : Fw) : Sp := fun vs H Q E => ∃ ws m z, ws.length = n ∧ MemOk K cl z m H ∧ RWs K z H ws vs ∧ PostF K cl z H (g ws m) Q E
def startW (n : Nat) (ws : List W) : Rho := ws.map some ++ List.replicate (n - ws.length) none
/-- a body run from its arguments; n slots in all -/
def runD (n : Nat) (d : DS) : Fw := fun ws m => match d (startW n ws) m with
  | .ret w m1 => .ok w m1
  | .next _ m1 => .ok .non m1
  | .exc x _ m1 => .exc x m1
  | _ => .bad
theorem start_ok {K : PySem.W.Frag} {z : Zn} {H : Hp} {N : List Str} {ws : List W} {vs : List V} (h : RWs K z H ws vs) : SlotsOk K z H (startW N.length ws) (L2.start N vs) := by
  refine ⟨by unfold startW L2.start; simp [h.length], fun i w e => ?_⟩
  unfold startW at e
  unfold L2.start
  by_cases hi : i < ws.length
  · rw [List.getElem?_append_left (by simpa using hi)] at e
    rw [List.getElem?_append_left (by rw [List.length_map, h.length]; exact hi)]
    rw [List.getElem?_map] at e ⊢
    cases q : ws[i]? with
    | none => rw [q] at e; cases e
    | some u =>
      rw [q] at e
      simp at e
      subst e
      obtain ⟨v, q1, q2⟩ := h.get q
      exact ⟨v, by rw [q1]; rfl, q2⟩
  · rw [List.getElem?_append_right (by simpa using Nat.le_of_not_lt hi)] at e
    rw [List.getElem?_replicate] at e
    split at e <;> cases e

/-! ### a def's promise where nothing is being shown -/
structure RoomG (k : Nat) (A : Around) : Prop extends Room k A where
  g : A.guards = some []
theorem RoomG.mono {j k : Nat} {A : Around} (r : RoomG k A) (h : j ≤ k) : RoomG j A := ⟨r.toRoom.mono h, r.g⟩
theorem RoomG.deeper {k : Nat} {A : Around} (r : RoomG (k + 1) A) (env : Env) : RoomG k (A.deeper env) := ⟨r.toRoom.deeper env, r.g⟩
theorem RoomG.make {k : Nat} {A : Around} (r : RoomG (k + 1) A) (C : Addr) (us : List Value) (kw : List (Str × Value)) : RoomG k (A.under (.builtin "type.__call__" ⟨.ref C :: us, kw⟩)) := by
  refine ⟨r.toRoom.make C us kw, ?_⟩
  have e : (Code.builtin "type.__call__" ⟨Value.ref C :: us, kw⟩).guards = [] := by first | rfl | simp [Code.guards, Code.isGuard, guardIds]
  show pushGuards (Code.builtin "type.__call__" ⟨Value.ref C :: us, kw⟩).guards A.guards = some []
  rw [e]
  exact r.g
structure FnG (P : Program) (w : World) (K : PySem.W.Frag) (mg : Str → Option Value) (base : Heap) (k : Nat) (f : Addr) (fd : FuncData) (ps : List Str) (sp : Sp) : Prop where
  len : ∀ vs H Q E, sp vs H Q E → vs.length = ps.length
  run : ∀ (A : Around) (outer : List Env) (s : Shared) (H : Hp) (args : Args) (us : List Value) (vs : List V) (Q : VK) (E : XK), RoomG k A → Env0 P w K mg base A outer s H → BindsTo s fd args (ps.zip us) → Vals vs us → sp vs H Q E →
    codeAny (model P w) A (.call (.ref f) args) (CR (L2.CX P w) outer P w H s Q E) s
/-- the callee runs -/
theorem run_fnG {X : Cx} {k : Nat} {f : Addr} {fd : FuncData} {ps : List Str} {sp : Sp} {E : XK} {pins : List (Addr × Obj)} {σ : L2.St} {H : Hp} {s : Shared} {Q : VK} {us : List Value} {vs : List V} (F : FnG X.prog X.w X.K X.mg X.base k f fd ps sp) (hr : RoomG k X.A) (hb : Binds X.K fd ps [])
    (hx : PassesAt (L2.CX X.prog X.w) X σ E) (I : Inv X pins σ H s) (r : Vals vs us) (h : sp vs H Q E) : wpAny (model X.prog X.w) X.A (call (.ref f) us) (EP X pins σ Q) X.xe s := by
  have hl : us.length = ps.length := r.length.symm.trans (F.len vs H Q E h)
  have b := hb s us I.kIn (by simpa using hl)
  rw [List.append_nil] at b
  refine wpAny_call (codeAny_mono (F.run _ _ _ _ _ _ _ _ _ hr I.env0 b r h) fun rr s' hq => ?_)
  match rr, hq with
  | .error e, hq => exact hx pins H s e s' I hq
  | .ok (.ret u), hq => exact I.after hq
  | .ok .next, hq => exact hq.elim
  | .ok .brk, hq => exact hq.elim
  | .ok .cont, hq => exact hq.elim

section
variable {P : Program} {w : World} {K : PySem.W.Frag} {mg : Str → Option Value} {base : Heap} {cl : Nat → Addr} {x qual : Str} {params : Arguments} {body : List Stmt} {scope : Scope} {kws : List (Str × V)} {f : Addr} {fd : FuncData}
theorem fn_ok {N ps : List Str} {k n : Nat} {d : DS} (F : FunD K x qual params body scope [] kws f fd) (S : FnScope N ps scope) (hn : ps.length = n)
    (hb : ∀ (cdv : Value) (A : Around) (outer : List Env) (s : Shared) (H : Hp) (E : XK), RoomG k (A.deeper (envOfC qual scope s.heap.objs.size f cdv)) →
      PSs (cxOf (L2.CX P w) P w K mg base N qual scope f cdv A outer s H E) body (tS (gx (cxOf (L2.CX P w) P w K mg base N qual scope f cdv A outer s H E) cl (fun c d _ H => E c d H)) d)) :
    FnG P w K mg base (k + 1) f fd ps (spOf K cl n (runD N.length d)) := by
  have len : ∀ vs H Q E, spOf K cl n (runD N.length d) vs H Q E → vs.length = ps.length := fun vs H Q E ⟨ws, m, z, hl, M, rw', p⟩ => by rw [rw'.length, hl, hn]
  obtain ⟨oc, od, dV, kV, doc, pm, an, cdv, ct, osl, rfl, lk, hcd, _, _⟩ := F.ex
  refine ⟨len, fun A outer s H args us vs Q E hr e0 hbi rv hsp => ?_⟩
  have KX : K.In s.heap := e0.mod.kin.keeps fun b o e => (e0.bs b o e).1
  have hlim : s.heap.NoLimit := e0.mod.nolimit.keeps fun b o e => (e0.bs b o e).1
  refine codeAny_call_function hr.depth (KX _ _ lk) rfl S.co S.gen rfl (PySem.W.codeRec_of KX hcd) (hbi _ _ _ _ ?_)
  refine wpAny_newFunctionEnv_cells S.kind (fun y hy => (S.par y.1 (List.of_mem_zip hy).1).imp id fun q => ⟨q, PySem.W.cellsFrom_some _ _ _ (.inl q)⟩) fun env he s1 x => ?_
  subst he
  refine ⟨hlim.keeps x.toInCall.keep, codeAny_func ?_⟩
  have I := inv_start (E := E) (CX := L2.CX P w) S hr.hd e0 (len vs H Q E hsp) rv x
  obtain ⟨ws, m, z, hl, M, rw', p⟩ := hsp
  have hq : tS ⟨K, cl, fun c d _ H => E c d H⟩ d { nx := fun _ H' => Q .non H', rt := Q } (L2.start N vs) H := by
    refine ⟨startW N.length ws, m, z, ⟨start_ok rw', M⟩, ?_⟩
    show PostS ⟨K, cl, fun c d _ H => E c d H⟩ z H (d (startW N.length ws) m) _
    unfold runD at p
    cases q : d (startW N.length ws) m with
    | next r m1 => rw [q] at p; exact fun z' s' H' e R' => p z' .non H' e R'.mem rfl
    | ret u m1 => rw [q] at p; exact p
    | exc x r m1 => rw [q] at p; exact fun z' s' H' c d e R' => p z' H' c d e R'.mem
    | brk r m1 => rw [q] at p; exact p.elim
    | cont r m1 => rw [q] at p; exact p.elim
    | bad => rw [q] at p; exact p.elim
  refine wpAny_mono ((hb cdv A outer s H E (hr.deeper _)).run [] s1 (L2.start N vs) H _ I hq) (fun fl s' hs => ?_) fun e s' hs => hs
  match fl, hs with
  | .ret u, ⟨v, σ', H', J, rv', q⟩ => exact ⟨v, H', J.os, J.bare, J.base, J.hok, rv', q⟩
  | .next, ⟨σ', H', J, q⟩ => exact ⟨.non, H', J.os, J.bare, J.base, J.hok, rfl, q⟩
  | .brk, ⟨_, _, _, q⟩ => exact q.elim
  | .cont, ⟨_, _, _, q⟩ => exact q.elim
end

section
variable {X : Cx} {cl : Nat → Addr} {Wx : WX} {e a b : Expr} {pos : Pos}
/-- f(e, ..) -/
def eCall (n : Nat) (g : Fw) (t : DA) : DE := fun r m => (t r m).bind fun ws m1 => if ws.length = n then g ws m1 else .bad
theorem PostF.of {K : PySem.W.Frag} {z : Zn} {H : Hp} {r : Rho} {s : L2.St} {q : R W} {Q : VK} {m : Mem} (R : Rel K cl z r m s H) (h : Post ⟨K, cl, Wx⟩ (RW K) z H r s q Q) : PostF K cl z H q Q (WE Wx s) := by
  cases q with
  | ok w m1 => exact fun z' v H' e M rw' => h z' v H' e (R.after e M) rw'
  | exc x m1 => exact fun z' H' c d e M xn => h z' H' c d e (R.after e M) xn
  | bad => exact h
theorem se_call {k n : Nat} {f : Addr} {fd : FuncData} {ps : List Str} {g : Fw} {x : Str} {p : Pos} {es : List Expr} {t : DA} (F : FnG X.prog X.w X.K X.mg X.base k f fd ps (spOf X.K cl n g)) (hr : RoomG k X.A) (hm : X.mg x = some (.ref f)) (hk : PySem.W.keepIn X.K (.ref f) = true) (hb : Binds X.K fd ps []) (tk : Takes X Wx)
    (ha : PA X (e :: es) (tA (gx X cl Wx) t)) (hg : Gl X x := by rfl) (hdb : (x == ("__debug__" : Str)) = false := by decide) (he : starEach (e :: es) X.env = (false, eval e X.env) :: starEach es X.env := by rfl) (hpl : (backTo pos (starEach es X.env)).any (·.1) = false := by rfl) :
    PE X (.Call (.Name x p) (e :: es) [] pos) (tE (gx X cl Wx) (eCall n g t)) := by
  refine ⟨fun pins sh s H Q I ⟨r, m, z, R, P⟩ => wpAny_Call_Name_kw (ld_glob I hg hm ?_ hdb)⟩
  have hq : tA (gx X cl Wx) t s H fun vs H1 => spOf X.K cl n g vs H1 Q (WE Wx s) := by
    refine ⟨r, m, z, R, P.bind fun z1 ws m1 vs H1 E1 R1 r1 P1 => ?_⟩
    split at P1
    · rename_i hl
      exact ⟨ws, m1, z1, hl, R1.mem, r1, PostF.of R1 P1⟩
    · exact P1.elim
  exact PySem.W.callWith_K (h₀ := X.base) I.ok.mod.kin hk (thn (ha.run pos pins sh s H _ I hq) fun us s1 ⟨vs, H1, I1, rv, q⟩ => ⟨I1.kIn, run_fnG F hr hb (passAt tk s) I1 rv q⟩) he hpl
theorem se_call0 {k : Nat} {f : Addr} {fd : FuncData} {ps : List Str} {g : Fw} {x : Str} {p : Pos} (F : FnG X.prog X.w X.K X.mg X.base k f fd ps (spOf X.K cl 0 g)) (hr : RoomG k X.A) (hm : X.mg x = some (.ref f)) (hk : PySem.W.keepIn X.K (.ref f) = true) (hb : Binds X.K fd ps []) (tk : Takes X Wx)
    (hg : Gl X x := by rfl) (hdb : (x == ("__debug__" : Str)) = false := by decide) : PE X (.Call (.Name x p) [] [] pos) (tE (gx X cl Wx) (eCall 0 g aNil)) := by
  refine ⟨fun pins sh s H Q I ⟨r, m, z, R, P⟩ => wpAny_Call_Name_kw (ld_glob I hg hm ?_ hdb)⟩
  exact PySem.W.callWith_K0 I.kIn hk (run_fnG (us := []) F hr hb (passAt tk s) I .nil ⟨[], m, z, rfl, R.mem, rfl, PostF.of R P⟩)

/-! ### new lists -/
def relNew (K : PySem.W.Frag) (z : Zn) (H : Hp) (ws : List W) (v : V) : Prop := ∃ p vs, v = .ref p ∧ H p = some (.lst vs) ∧ RWs K z H ws vs ∧ ¬ z.Z p ∧ ¬ z.hold p ∧ p ∉ z.phi
def tN (g : Gx) (f : DA) : TE := tG g (relNew g.K) f
/-- settled at once -/
def eFz (f : DA) : DE := fun r m => (f r m).bind fun ws m1 => .ok (.lst ws) m1
theorem se_fz {f : DA} (h : PE X e (tN (gx X cl Wx) f)) : PE X e (tE (gx X cl Wx) (eFz f)) := h.imp fun s H Q ⟨r, m, z, R, P⟩ => by
  refine ⟨r, m, z, R, P.bind fun z1 ws m1 v H1 E1 R1 r1 P1 => ?_⟩
  obtain ⟨p, vs, e1, e2, e3, n1, n2, n3⟩ := r1
  subst e1
  obtain ⟨e4, M⟩ := R1.mem.settle e2 n2 n3
  exact P1 _ _ _ e4 (R1.after e4 M) ⟨p, vs, rfl, ⟨.inl rfl, e2⟩, RWs.ext e4 e3⟩
/-- one that may change -/
def eNw (f : DA) : DE := fun r m => (f r m).bind fun ws m1 => .ok (.ref m1.length) (m1 ++ [.lst ws])
theorem lay_lst {K : PySem.W.Frag} {z : Zn} {m : Mem} {H : Hp} {p : Addr} {ws : List W} {vs : List V} (M : MemOk K cl z m H) (e2 : H p = some (.lst vs)) (e3 : RWs K z H ws vs) (n1 : ¬ z.Z p) (n2 : ¬ z.hold p) (n3 : p ∉ z.phi) :
    Ext z H (z.lay p) H ∧ MemOk K cl (z.lay p) (m ++ [.lst ws]) H ∧ RW K (z.lay p) H (.ref m.length) (.ref p) := by
  have e4 : Ext z H (z.lay p) H := ⟨⟨fun _ _ h => h, fun _ _ _ h => h, fun _ h => ⟨h, rfl⟩, fun n a h => by
    have hl := (List.getElem?_eq_some_iff.mp h).1
    show (z.phi ++ [p])[n]? = some a
    rw [List.getElem?_append_left hl]
    exact h⟩, fun _ h => ⟨h, rfl⟩⟩
  obtain ⟨e5, M2⟩ := M.lay (p := p) (c := .lst ws) n1 n3 ⟨n1, n2, vs, e2, RWs.ext e4 e3⟩
  refine ⟨e4, M2, p, ?_, rfl⟩
  show (z.phi ++ [p])[m.length]? = some p
  rw [← M.len]
  simp
theorem se_nw {f : DA} (h : PE X e (tN (gx X cl Wx) f)) : PE X e (tE (gx X cl Wx) (eNw f)) := h.imp fun s H Q ⟨r, m, z, R, P⟩ => by
  refine ⟨r, m, z, R, P.bind fun z1 ws m1 v H1 E1 R1 r1 P1 => ?_⟩
  obtain ⟨p, vs, e1, e2, e3, n1, n2, n3⟩ := r1
  subst e1
  obtain ⟨e4, M, q⟩ := lay_lst (cl := cl) R1.mem e2 e3 n1 n2 n3
  exact P1 _ _ _ e4 (R1.after e4 M) q
/-- what is new in the heap -/
theorem new_rel {K : PySem.W.Frag} {z : Zn} {m : Mem} {H : Hp} {p : Addr} {ws : List W} {vs : List V} (M : MemOk K cl z m H) (hp : H p = none) (h : RWs K z H ws vs) : Ext z H z (upd H p (.lst vs)) ∧ MemOk K cl z m (upd H p (.lst vs)) ∧ relNew K z (upd H p (.lst vs)) ws (.ref p) := by
  have hs := upd_same_of (o := .lst vs) hp
  exact ⟨M.extS hs, M.same hs, p, vs, rfl, upd_same, RWs.ext (M.extS hs) h, M.z_ne hp, M.h_ne hp, M.p_ne hp⟩

/-! ### comprehensions -/
def wipeR (r : Rho) : List Nat → Rho
  | [] => r
  | v :: vs => (wipeR r vs).set v none
theorem set_none {K : PySem.W.Frag} {z : Zn} {H : Hp} {r : Rho} {s : L2.St} (h : SlotsOk K z H r s) (i : Nat) : SlotsOk K z H (r.set i none) (s.set i none) := by
  refine ⟨by simp [h.1], fun j u e => ?_⟩
  by_cases hj : i = j
  · subst hj
    rw [List.getElem?_set, if_pos rfl] at e
    split at e <;> cases e
  · rw [List.getElem?_set_ne hj] at e ⊢
    exact h.2 j u e
theorem wipe_ok {K : PySem.W.Frag} {z : Zn} {H : Hp} {r : Rho} {s : L2.St} (h : SlotsOk K z H r s) : ∀ vs : List Nat, SlotsOk K z H (wipeR r vs) (wipe s vs)
  | [] => h
  | v :: vs => by unfold wipeR wipe; exact set_none (wipe_ok h vs) v
theorem wipe_get (s : L2.St) (i : Nat) : ∀ vs : List Nat, (wipe s vs)[i]? = if i ∈ vs ∧ i < s.length then some none else s[i]?
  | [] => by simp [wipe]
  | v :: vs => by
    unfold wipe
    rw [List.getElem?_set, wipe_length, wipe_get s i vs]
    by_cases h : v = i
    · subst h
      by_cases hl : v < s.length
      · simp [hl]
      · simp [hl]
    · have h' : i ≠ v := fun q => h q.symm
      simp [h, h']
theorem wipe_agree {js vs : List Nat} {s s2 : L2.St} (h : Agree js (wipe s vs) s2) (hj : ∀ i ∈ js, i ∈ vs) : wipe s2 vs = wipe s vs := by
  have hl : s2.length = s.length := by rw [h.1, wipe_length]
  refine List.ext_getElem? fun i => ?_
  rw [wipe_get, wipe_get, hl]
  by_cases hi : i ∈ vs ∧ i < s.length
  · rw [if_pos hi, if_pos hi]
  · rw [if_neg hi, if_neg hi]
    by_cases hv : i ∈ vs
    · have hge : s.length ≤ i := Nat.le_of_not_lt fun q => hi ⟨hv, q⟩
      rw [List.getElem?_eq_none hge, List.getElem?_eq_none (by rw [hl]; exact hge)]
    · rw [h.2 i fun q => hv (hj i q), wipe_get, if_neg fun q => hv q.1]
def dYes : DT := fun _ m => .ok true m
def compL (t : DG) (c : DT) (f : DE) (vs : List Nat) : List W → Rho → Mem → R (List W)
  | [], _, m => .ok [] m
  | w :: ws, r, m => match t w (wipeR r vs) with
    | none => .bad
    | some r1 => match c r1 m with
      | .ok true m1 => match f r1 m1 with
        | .ok y m2 => (compL t c f vs ws r m2).bind fun ys m3 => .ok (y :: ys) m3
        | _ => .bad
      | .ok false m1 => compL t c f vs ws r m1
      | _ => .bad
def aComp (src : DA) (t : DG) (c : DT) (f : DE) (vs : List Nat) : DA := fun r m => (src r m).bind fun ws m1 => compL t c f vs ws r m1
abbrev noW : WX := fun _ _ _ _ => False
theorem stc_nil : PTs X [] (tT (gx X cl noW) dYes) := ⟨fun pins sh s H Q I ⟨r, m, z, R, P⟩ => pts_nil.run pins sh s H Q I (Post.ret (b := true) P R rfl)⟩
theorem stc_one {c : Expr} {fc : DT} (h : PT X c (tT (gx X cl noW) fc)) : PTs X [c] (tT (gx X cl noW) fc) := pts_one h
/-- hold what is no one's -/
theorem MemOk.hold {K : PySem.W.Frag} {z : Zn} {m : Mem} {H : Hp} {p : Addr} {o : HO} (M : MemOk K cl z m H) (e : H p = some o) (n1 : ¬ z.Z p) (n3 : p ∉ z.phi) : MemOk K cl (z.hd p) m H ∧ Ext z H (z.hd p) H := by
  have e0 : Ext z H (z.hd p) H := ⟨⟨fun _ _ h => h, fun _ _ _ h => h, fun _ h => ⟨h, rfl⟩, fun _ _ h => h⟩, fun _ h => ⟨.inr h, rfl⟩⟩
  refine ⟨⟨M.len, M.nd, ?_, M.lz, ?_, fun n a c h1 h2 => ?_⟩, e0⟩
  · rintro a hz (q | q)
    · subst q; exact n1 hz
    · exact M.sep a hz q
  · rintro a (q | q)
    · subst q; exact ⟨_, e⟩
    · exact M.lh a q
  · refine (M.cells n a c h1 h2).ext2 e0.e0 Iff.rfl ?_ rfl
    rintro (q | q)
    · exact absurd (q ▸ List.mem_of_getElem? h1) n3
    · exact q
/-- .. is held no longer, and has grown -/
abbrev Zn.un (z : Zn) (p : Addr) : Zn := { z with hold := fun a => a ≠ p ∧ z.hold a }
theorem MemOk.unhold {K : PySem.W.Frag} {z : Zn} {m : Mem} {H : Hp} {p : Addr} {o o' : HO} (M : MemOk K cl z m H) (hh : z.hold p) (e : H p = some o) (t1 : ∀ us, o ≠ .tup us := by intro _ h; cases h) (t2 : ∀ ob u, o ≠ .frz ob u := by intro _ _ h; cases h) :
    MemOk K cl (z.un p) m (upd H p o') ∧ Ext0 z H (z.un p) (upd H p o') ∧ ¬ z.Z p ∧ p ∉ z.phi := by
  have nz : ¬ z.Z p := fun q => M.sep p q hh
  have ne : ∀ {a : Addr}, z.Z a → a ≠ p := fun q z' => nz (z' ▸ q)
  have e0 : Ext0 z H (z.un p) (upd H p o') := ⟨fun a us q => by rw [upd_ne (ne_of q e fun z' => t1 us z'.symm)]; exact q, fun a ob u q => by rw [upd_ne (ne_of q e fun z' => t2 ob u z'.symm)]; exact q, fun a q => ⟨q, upd_ne (ne q)⟩, fun _ _ q => q⟩
  have cne : ∀ (n : Nat) a c, z.phi[n]? = some a → m[n]? = some c → a ≠ p := fun n a c h1 h2 q => by
    subst q
    have hc := M.cells n a c h1 h2
    cases c with
    | lst ws => exact hc.2.1 hh
    | fz ws => exact nz hc.1
    | dct kvs => exact hc.1 hh
    | ins c fs => exact hc.1 hh
  refine ⟨⟨M.len, M.nd, fun a q h => M.sep a q h.2, fun a q => ?_, fun a q => ?_, fun n a c h1 h2 => ?_⟩, e0, nz, fun q => ?_⟩
  · rw [upd_ne (ne q)]; exact M.lz a q
  · rw [upd_ne q.1]; exact M.lh a q.2
  · exact (M.cells n a c h1 h2).ext2 e0 Iff.rfl (fun q => q.2) (upd_ne (cne n a c h1 h2))
  · obtain ⟨n, hn, e1⟩ := List.getElem_of_mem q
    have hm : n < m.length := by rw [← M.len]; exact hn
    exact cne n p m[n] (by rw [List.getElem?_eq_getElem hn, e1]) (List.getElem?_eq_getElem hm) rfl
theorem tLc_of {g : Gx} {src : DA} {t : DG} {js vs : List Nat} {c : DT} {f : DE} {s : L2.St} {H : Hp} {Q : VK} (hj : ∀ i ∈ js, i ∈ vs) (h : tN g (aComp src t c f vs) s H Q) :
    tLc (tI g src) (tGt g.K g.cl js t) (tT ⟨g.K, g.cl, noW⟩ c) (tE ⟨g.K, g.cl, noW⟩ f) vs s H Q := by
  obtain ⟨r, m, z, R, P⟩ := h
  refine ⟨r, m, z, R, P.bind (rel := Walks g.K) fun z1 ws m1 J H1 E1 R1 r1 P1 D hD => ?_⟩
  have nz := R1.mem.z_ne hD
  have nh := R1.mem.h_ne hD
  have np := R1.mem.p_ne hD
  have hs1 := upd_same_of (o := .lst []) hD
  refine ⟨fun i k H' => ∃ m' z' as acc, k = ws.length - i ∧ i ≤ ws.length ∧ as.length ≤ i ∧ Rel g.K g.cl z' r m' s H' ∧ Ext z1 H1 z' H' ∧ (¬ z'.Z D ∧ ¬ z'.hold D ∧ D ∉ z'.phi) ∧ H' D = some (.lst acc) ∧ RWs g.K z' H' as acc ∧
    Post g (relNew g.K) z' H' r s ((compL t c f vs (ws.drop i) r m').bind fun ys m3 => .ok (as ++ ys) m3) Q, ⟨ws.length, m1, z1, [], [], by simp, Nat.zero_le _, Nat.zero_le _, R1.same hs1, R1.mem.extS hs1, ⟨nz, nh, np⟩, upd_same, rfl, ?_⟩, ?_⟩
  · refine Post.mono (R1.mem.extS hs1) ?_
    have e : ((compL t c f vs (ws.drop 0) r m1).bind fun ys m3 => .ok ([] ++ ys) m3) = compL t c f vs ws r m1 := by
      rw [List.drop_zero]
      cases compL t c f vs ws r m1 <;> rfl
    rw [e]
    exact P1
  · rintro i k H2 ⟨m2, z2, as, acc, rfl, hi2, hla, R2, E2, ⟨y1, y2, y3⟩, hD2, ra, P2⟩
    obtain ⟨hstop, hgo⟩ := r1.2 z2 H2 E2.e0 i
    by_cases hlt : i < ws.length
    · obtain ⟨g1, g2⟩ := hgo ws[i] (List.getElem?_eq_getElem hlt)
      rw [List.drop_eq_getElem_cons hlt] at P2
      refine .inr ⟨g1, fun H' => ∃ m' z' as acc, as.length ≤ i + 1 ∧ Rel g.K g.cl z' r m' s H' ∧ Ext z1 H1 z' H' ∧ (¬ z'.Z D ∧ ¬ z'.hold D ∧ D ∉ z'.phi) ∧ H' D = some (.lst acc) ∧ RWs g.K z' H' as acc ∧
        Post g (relNew g.K) z' H' r s ((compL t c f vs (ws.drop (i + 1)) r m').bind fun ys m3 => .ok (as ++ ys) m3) Q, fun H' ⟨m', z', as', acc', a0, a1, a2, a3, a4, a5, a6⟩ => ⟨ws.length - (i + 1), by omega, m', z', as', acc', rfl, hlt, a0, a1, a2, a3, a4, a5, a6⟩, fun x H3 y => ?_⟩
      obtain ⟨sm, q3⟩ := g2 x H3 y
      have E3 := R2.mem.extS sm
      have R3 := R2.same sm
      have hD3 : H3 D = some (.lst acc) := sm _ _ hD2
      obtain ⟨M4, E4⟩ := R3.mem.hold hD3 y1 y3
      have R4 : Rel g.K g.cl (z2.hd D) (wipeR r vs) m2 (wipe s vs) H3 := ⟨wipe_ok (R3.slots.ext E4) vs, M4⟩
      refine ⟨ws[i], wipeR r vs, m2, z2.hd D, R4, (q3 z2 E3.e0).ext E4, ?_⟩
      simp only [compL] at P2
      cases q4 : t ws[i] (wipeR r vs) with
      | none => rw [q4] at P2; exact P2.elim
      | some r4 =>
        rw [q4] at P2
        simp only at P2
        refine fun s4 R4' ag => ⟨wipe_agree ag hj, r4, m2, z2.hd D, R4', ?_⟩
        -- what is known behind the turn
        have back : ∀ {z5 : Zn} {H5 : Hp} {m5 : Mem} {r5 : Rho} {s5 : L2.St}, Ext (z2.hd D) H3 z5 H5 → Rel g.K g.cl z5 r5 m5 s5 H5 → ∀ (acc' : List V) (as' : List W), as'.length ≤ i + 1 → RWs g.K z5 H5 as' acc' →
            Post g (relNew g.K) z2 H2 r s ((compL t c f vs (ws.drop (i + 1)) r m5).bind fun ys m3 => .ok (as' ++ ys) m3) Q →
            ∃ m' z' as acc, as.length ≤ i + 1 ∧ Rel g.K g.cl z' r m' s (upd H5 D (.lst acc')) ∧ Ext z1 H1 z' (upd H5 D (.lst acc')) ∧ (¬ z'.Z D ∧ ¬ z'.hold D ∧ D ∉ z'.phi) ∧ upd H5 D (.lst acc') D = some (.lst acc) ∧ RWs g.K z' (upd H5 D (.lst acc')) as acc ∧
              Post g (relNew g.K) z' (upd H5 D (.lst acc')) r s ((compL t c f vs (ws.drop (i + 1)) r m').bind fun ys m3 => .ok (as ++ ys) m3) Q := by
          intro z5 H5 m5 r5 s5 e5 R5 acc' as' hla' ra' P5
          have hh5 : z5.hold D := (e5.hs D (.inl rfl)).1
          have hx5 : H5 D = some (.lst acc) := (e5.hs D (.inl rfl)).2.trans hD3
          obtain ⟨M6, e6, n6, p6⟩ := R5.mem.unhold (o' := .lst acc') hh5 hx5
          have e25 : Ext z2 H2 z5 H5 := (E3.trans E4).trans e5
          have hne : ∀ a, z2.hold a → a ≠ D := fun a ha q => by rw [q] at ha; exact y2 ha
          have e26 : Ext z2 H2 (z5.un D) (upd H5 D (.lst acc')) := ⟨e25.e0.trans e6, fun a ha => ⟨⟨hne a ha, (e25.hs a ha).1⟩, by rw [upd_ne (hne a ha)]; exact (e25.hs a ha).2⟩⟩
          exact ⟨m5, z5.un D, as', acc', hla', ⟨R2.slots.ext e26, M6⟩, E2.trans e26, ⟨n6, fun q => q.1 rfl, p6⟩, upd_same, RWs.ext0 e6 ra', Post.mono e26 P5⟩
        cases q5 : c r4 m2 with
        | ok b m5 =>
          rw [q5] at P2
          intro z5 b' H5 e5 R5 rb
          have rb : b = b' := rb
          subst rb
          have hx5 : H5 D = some (.lst acc) := (e5.hs D (.inl rfl)).2.trans hD3
          have ra5 : RWs g.K z5 H5 as acc := RWs.ext ((E3.trans E4).trans e5) ra
          cases b with
          | true =>
            simp only at P2
            rw [if_pos rfl]
            refine ⟨r4, m5, z5, R5, ?_⟩
            cases q6 : f r4 m5 with
            | ok yv m6 =>
              rw [q6] at P2
              intro z6 v H6 e6 R6 rv
              refine ⟨acc, (e6.hs D (e5.hs D (.inl rfl)).1).2.trans hx5, ?_, ?_⟩
              · have := ra.length
                have h2 := r1.1
                omega
              · refine back (e5.trans e6) R6 (acc ++ [v]) (as ++ [yv]) (by simp; omega) ((RWs.ext e6 ra5).append (.cons rv .nil)) ?_
                have e7 : ((compL t c f vs (ws.drop (i + 1)) r m6).bind fun ys m3 => .ok (as ++ [yv] ++ ys) m3) = (((compL t c f vs (ws.drop (i + 1)) r m6).bind fun ys m3 => .ok (yv :: ys) m3).bind fun ys m3 => .ok (as ++ ys) m3) := by
                  cases compL t c f vs (ws.drop (i + 1)) r m6 <;> simp [Dn.R.bind]
                rw [e7]
                exact P2
            | exc x m6 => rw [q6] at P2; exact P2.elim
            | bad => rw [q6] at P2; exact P2.elim
          | false =>
            simp only at P2
            rw [if_neg Bool.false_ne_true]
            have hb := back e5 R5 acc as (by omega) ra5 P2
            have hid : upd H5 D (.lst acc) = H5 := by
              funext a
              by_cases ha : a = D
              · rw [ha, upd_same, hx5]
              · exact upd_ne ha
            rw [hid] at hb
            exact hb
        | exc x m5 => rw [q5] at P2; exact P2.elim
        | bad => rw [q5] at P2; exact P2.elim
    · have hi3 : ws.length ≤ i := Nat.le_of_not_lt hlt
      refine .inl ⟨hstop (Nat.le_antisymm hi2 hi3), ?_⟩
      rw [List.drop_eq_nil_of_le hi3] at P2
      have P2 : Post g (relNew g.K) z2 H2 r s (.ok (as ++ []) m2) Q := P2
      rw [List.append_nil] at P2
      exact Post.ret P2 R2 ⟨D, acc, rfl, hD2, ra, y1, y2, y3⟩
end
end Dn

/-! D6: comprehensions as rules; built-ins; slices; methods of lists. -/
namespace Dn
open PySem PySem.Spec PyProof.Rows L2
section
variable {X : Cx} {cl : Nat → Addr} {Wx : WX} {e a b : Expr} {pos : Pos}
theorem se_lc {elt tg iter : Expr} {ifs : List Expr} {scope : Scope} {own : List (Str × Nat)} {js : List Nat} {src : DA} {t : DG} {c : DT} {f : DE} (hc : X.calm = true) (hN : X.N.Nodup) (hi : PI X tg iter (tI (gx X cl Wx) src)) (ok : BlkOk X.N X.env.scope scope own) (hj : ∀ i ∈ js, i ∈ own.map (·.2))
    (hg : ∀ (s : Shared) (H : Hp) (C : Addr) (cs : List (Str × Addr)) (fp : List Addr), PG (X.blk s H scope (compEnvC scope cs C X.env) fp) tg (tGt X.K cl js t))
    (ht : ∀ (s : Shared) (H : Hp) (C : Addr) (cs : List (Str × Addr)) (fp : List Addr), PTs (X.blk s H scope (compEnvC scope cs C X.env) fp) ifs (tT (gx (X.blk s H scope (compEnvC scope cs C X.env) fp) cl noW) c))
    (he : ∀ (s : Shared) (H : Hp) (C : Addr) (cs : List (Str × Addr)) (fp : List Addr), PE (X.blk s H scope (compEnvC scope cs C X.env) fp) elt (tE (gx (X.blk s H scope (compEnvC scope cs C X.env) fp) cl noW) f)) (hs : ∀ x, foldedSetIterable iter X.env x = pure x := by intro _; rfl) :
    PE X (.ListComp elt [⟨tg, iter, ifs, 0⟩] scope pos) (tN (gx X cl Wx) (aComp src t c f (own.map (·.2)))) :=
  (pe_lc (own := own) hc hN hi ok hg ht he hs).imp fun s H Q h => tLc_of (g := gx X cl Wx) hj h
theorem ss_setLc {i : Nat} {y : Str} {py spos : Pos} {elt tg iter : Expr} {ifs : List Expr} {scope : Scope} {own : List (Str × Nat)} {js : List Nat} {src : DA} {t : DG} {c : DT} {f : DE} (hc : X.calm = true) (hN : X.N.Nodup) (hy : X.N[i]? = some y) (hyl : X.env.scope.names.lookup y = some .local)
    (hsw : swapsWith (.ListComp elt [⟨tg, iter, ifs, 0⟩] scope pos) (some (.Name y py)) spos.line X.env = pure true) (hi : PI X tg iter (tI (gx X cl Wx) src)) (ok : BlkOk X.N X.env.scope scope own) (hj : ∀ i ∈ js, i ∈ own.map (·.2))
    (hg : ∀ (s : Shared) (H : Hp) (C : Addr) (cs : List (Str × Addr)) (fp : List Addr), PG (X.blk s H scope (compEnvC scope cs C X.env) fp) tg (tGt X.K cl js t))
    (ht : ∀ (s : Shared) (H : Hp) (C : Addr) (cs : List (Str × Addr)) (fp : List Addr), PTs (X.blk s H scope (compEnvC scope cs C X.env) fp) ifs (tT (gx (X.blk s H scope (compEnvC scope cs C X.env) fp) cl noW) c))
    (he : ∀ (s : Shared) (H : Hp) (C : Addr) (cs : List (Str × Addr)) (fp : List Addr), PE (X.blk s H scope (compEnvC scope cs C X.env) fp) elt (tE (gx (X.blk s H scope (compEnvC scope cs C X.env) fp) cl noW) f)) (hs : ∀ x, foldedSetIterable iter X.env x = pure x := by intro _; rfl) :
    PS X (.Assign [.Name y py] (.ListComp elt [⟨tg, iter, ifs, 0⟩] scope pos) spos) (tS (gx X cl Wx) (sSet i (eFz (aComp src t c f (own.map (·.2)))))) :=
  (L2.ps_setLc (own := own) hc hN hy hyl hsw hi ok hg ht he hs).imp fun D s H ⟨r, m, z, R, P⟩ => by
    refine tLc_of (g := gx X cl Wx) (c := c) (f := f) hj ⟨r, m, z, R, ?_⟩
    unfold sSet eFz at P
    cases q : aComp src t c f (own.map (·.2)) r m with
    | ok ws m1 =>
      rw [q] at P
      intro z1 v H1 E1 R1 ⟨p, vs, e1, e2, e3, n1, n2, n3⟩
      subst e1
      obtain ⟨e4, M⟩ := R1.mem.settle e2 n2 n3
      have R2 := R1.after e4 M
      exact P _ _ _ (E1.trans e4) ⟨R2.slots.set (w := .lst ws) ⟨p, vs, rfl, ⟨.inl rfl, e2⟩, RWs.ext e4 e3⟩, R2.mem⟩
    | exc x m1 => rw [q] at P; exact fun z' H' c d e R q => P z' s H' c d e R q
    | bad => rw [q] at P; exact P
theorem ss_setLcM {i : Nat} {y : Str} {py spos : Pos} {elt tg iter : Expr} {ifs : List Expr} {scope : Scope} {own : List (Str × Nat)} {js : List Nat} {src : DA} {t : DG} {c : DT} {f : DE} (hc : X.calm = true) (hN : X.N.Nodup) (hy : X.N[i]? = some y) (hyl : X.env.scope.names.lookup y = some .local)
    (hsw : swapsWith (.ListComp elt [⟨tg, iter, ifs, 0⟩] scope pos) (some (.Name y py)) spos.line X.env = pure true) (hi : PI X tg iter (tI (gx X cl Wx) src)) (ok : BlkOk X.N X.env.scope scope own) (hj : ∀ i ∈ js, i ∈ own.map (·.2))
    (hg : ∀ (s : Shared) (H : Hp) (C : Addr) (cs : List (Str × Addr)) (fp : List Addr), PG (X.blk s H scope (compEnvC scope cs C X.env) fp) tg (tGt X.K cl js t))
    (ht : ∀ (s : Shared) (H : Hp) (C : Addr) (cs : List (Str × Addr)) (fp : List Addr), PTs (X.blk s H scope (compEnvC scope cs C X.env) fp) ifs (tT (gx (X.blk s H scope (compEnvC scope cs C X.env) fp) cl noW) c))
    (he : ∀ (s : Shared) (H : Hp) (C : Addr) (cs : List (Str × Addr)) (fp : List Addr), PE (X.blk s H scope (compEnvC scope cs C X.env) fp) elt (tE (gx (X.blk s H scope (compEnvC scope cs C X.env) fp) cl noW) f)) (hs : ∀ x, foldedSetIterable iter X.env x = pure x := by intro _; rfl) :
    PS X (.Assign [.Name y py] (.ListComp elt [⟨tg, iter, ifs, 0⟩] scope pos) spos) (tS (gx X cl Wx) (sSet i (eNw (aComp src t c f (own.map (·.2)))))) :=
  (L2.ps_setLc (own := own) hc hN hy hyl hsw hi ok hg ht he hs).imp fun D s H ⟨r, m, z, R, P⟩ => by
    refine tLc_of (g := gx X cl Wx) (c := c) (f := f) hj ⟨r, m, z, R, ?_⟩
    unfold sSet eNw at P
    cases q : aComp src t c f (own.map (·.2)) r m with
    | ok ws m1 =>
      rw [q] at P
      intro z1 v H1 E1 R1 ⟨p, vs, e1, e2, e3, n1, n2, n3⟩
      subst e1
      obtain ⟨e4, M, q4⟩ := lay_lst (cl := cl) R1.mem e2 e3 n1 n2 n3
      have R2 := R1.after e4 M
      exact P _ _ _ (E1.trans e4) ⟨R2.slots.set q4, R2.mem⟩
    | exc x m1 => rw [q] at P; exact fun z' H' c d e R q => P z' s H' c d e R q
    | bad => rw [q] at P; exact P

/-! ### built-ins, by what they make of plain values -/
def ClW (K : PySem.W.Frag) (cl : Nat → Addr) (o : Mem → List W → Option W) (r : List V → Hp → VK → Prop) : Prop := ∀ (z : Zn) (m : Mem) (H : Hp) (ws : List W) (vs : List V) (w : W) (Q : VK), MemOk K cl z m H → RWs K z H ws vs → o m ws = some w →
  (∀ z' v H', Ext z H z' H' → MemOk K cl z' m H' → RW K z' H' w v → Q v H') → r vs H Q
def ClN (K : PySem.W.Frag) (cl : Nat → Addr) (o : Mem → List W → Option (List W)) (r : List V → Hp → VK → Prop) : Prop := ∀ (z : Zn) (m : Mem) (H : Hp) (ws : List W) (vs : List V) (us : List W) (Q : VK), MemOk K cl z m H → RWs K z H ws vs → o m ws = some us →
  (∀ z' v H', Ext z H z' H' → MemOk K cl z' m H' → relNew K z' H' us v → Q v H') → r vs H Q
def eFn (o : Mem → List W → Option W) (t : DA) : DE := fun r m => (t r m).bind fun ws m1 => match o m1 ws with
  | some w => .ok w m1
  | none => .bad
def aFn (o : Mem → List W → Option (List W)) (t : DA) : DA := fun r m => (t r m).bind fun ws m1 => match o m1 ws with
  | some us => .ok us m1
  | none => .bad
theorem tE_fn {g : Gx} {o : Mem → List W → Option W} {rr : List V → Hp → VK → Prop} {t : DA} {s : L2.St} {H : Hp} {Q : VK} (hw : ClW g.K g.cl o rr) (h : tE g (eFn o t) s H Q) : tA g t s H fun vs H1 => rr vs H1 Q := by
  obtain ⟨r, m, z, R, P⟩ := h
  refine ⟨r, m, z, R, P.bind fun z1 ws m1 vs H1 E1 R1 r1 P1 => ?_⟩
  cases q : o m1 ws with
  | none => rw [q] at P1; exact P1.elim
  | some w => rw [q] at P1; exact hw z1 m1 H1 ws vs w Q R1.mem r1 q fun z' v H' e M rw' => P1 z' v H' e (R1.after e M) rw'
theorem tN_fn {g : Gx} {o : Mem → List W → Option (List W)} {rr : List V → Hp → VK → Prop} {t : DA} {s : L2.St} {H : Hp} {Q : VK} (hw : ClN g.K g.cl o rr) (h : tN g (aFn o t) s H Q) : tA g t s H fun vs H1 => rr vs H1 Q := by
  obtain ⟨r, m, z, R, P⟩ := h
  refine ⟨r, m, z, R, P.bind fun z1 ws m1 vs H1 E1 R1 r1 P1 => ?_⟩
  cases q : o m1 ws with
  | none => rw [q] at P1; exact P1.elim
  | some us => rw [q] at P1; exact hw z1 m1 H1 ws vs us Q R1.mem r1 q fun z' v H' e M rw' => P1 z' v H' e (R1.after e M) rw'
section
variable {o : Mem → List W → Option W} {oN : Mem → List W → Option (List W)} {rr : List V → Hp → VK → Prop} {id T : String} {x : Str} {p : Pos} {es : List Expr} {t : DA}
theorem se_cb (hc : CallR X (.builtin id) rr) (hw : ClW X.K cl o rr) (hm : X.mg x = none) (hv : bootBuiltins x = some (.builtin id)) (ha : PA X (e :: es) (tA (gx X cl Wx) t)) (hg : Gl X x := by rfl) (hn : x ≠ "__name__" := by decide) (hdb : (x == ("__debug__" : Str)) = false := by decide)
    (he : starEach (e :: es) X.env = (false, eval e X.env) :: starEach es X.env := by rfl) (hpl : (backTo pos (starEach es X.env)).any (·.1) = false := by rfl) : PE X (.Call (.Name x p) (e :: es) [] pos) (tE (gx X cl Wx) (eFn o t)) :=
  (pe_callB hc hg hm hv ha hn hdb he hpl).imp fun s H Q h => tE_fn (g := gx X cl Wx) hw h
theorem se_ct (hc : CallR X (.type T) rr) (hw : ClW X.K cl o rr) (hm : X.mg x = none) (hv : bootBuiltins x = some (.type T)) (ha : PA X (e :: es) (tA (gx X cl Wx) t)) (hg : Gl X x := by rfl) (hn : x ≠ "__name__" := by decide) (hdb : (x == ("__debug__" : Str)) = false := by decide)
    (he : starEach (e :: es) X.env = (false, eval e X.env) :: starEach es X.env := by rfl) (hpl : (backTo pos (starEach es X.env)).any (·.1) = false := by rfl) : PE X (.Call (.Name x p) (e :: es) [] pos) (tE (gx X cl Wx) (eFn o t)) :=
  (pe_callTy hc hg hm hv ha hn hdb he hpl).imp fun s H Q h => tE_fn (g := gx X cl Wx) hw h
theorem sn_ct (hc : CallR X (.type T) rr) (hw : ClN X.K cl oN rr) (hm : X.mg x = none) (hv : bootBuiltins x = some (.type T)) (ha : PA X (e :: es) (tA (gx X cl Wx) t)) (hg : Gl X x := by rfl) (hn : x ≠ "__name__" := by decide) (hdb : (x == ("__debug__" : Str)) = false := by decide)
    (he : starEach (e :: es) X.env = (false, eval e X.env) :: starEach es X.env := by rfl) (hpl : (backTo pos (starEach es X.env)).any (·.1) = false := by rfl) : PE X (.Call (.Name x p) (e :: es) [] pos) (tN (gx X cl Wx) (aFn oN t)) :=
  (pe_callTy hc hg hm hv ha hn hdb he hpl).imp fun s H Q h => tN_fn (g := gx X cl Wx) hw h
theorem sn_cb (hc : CallR X (.builtin id) rr) (hw : ClN X.K cl oN rr) (hm : X.mg x = none) (hv : bootBuiltins x = some (.builtin id)) (ha : PA X (e :: es) (tA (gx X cl Wx) t)) (hg : Gl X x := by rfl) (hn : x ≠ "__name__" := by decide) (hdb : (x == ("__debug__" : Str)) = false := by decide)
    (he : starEach (e :: es) X.env = (false, eval e X.env) :: starEach es X.env := by rfl) (hpl : (backTo pos (starEach es X.env)).any (·.1) = false := by rfl) : PE X (.Call (.Name x p) (e :: es) [] pos) (tN (gx X cl Wx) (aFn oN t)) :=
  (pe_callB hc hg hm hv ha hn hdb he hpl).imp fun s H Q h => tN_fn (g := gx X cl Wx) hw h
end
section
variable {K : PySem.W.Frag}
theorem RWs.one {z : Zn} {H : Hp} {w : W} {vs : List V} (h : RWs K z H [w] vs) : ∃ v, vs = [v] ∧ RW K z H w v := by
  obtain ⟨v, r, e1, e2, e3⟩ := h
  cases e3
  exact ⟨v, e1, e2⟩
theorem RWs.two {z : Zn} {H : Hp} {w u : W} {vs : List V} (h : RWs K z H [w, u] vs) : ∃ v x, vs = [v, x] ∧ RW K z H w v ∧ RW K z H u x := by
  obtain ⟨v, r, e1, e2, h2⟩ := h
  obtain ⟨x, f1, f2⟩ := h2.one
  subst f1
  exact ⟨v, x, e1, e2, f2⟩
def lenW (m : Mem) : List W → Option W
  | [.str x] => if x.length ≤ 16777216 then some (.int x.length) else none
  | [.ref n] => match m[n]? with
    | some (.lst xs) => some (.int xs.length)
    | some (.fz xs) => some (.int xs.length)
    | _ => none
  | [w] => (seqOf m w).map fun xs => .int xs.length
  | _ => none
abbrev rLenW (K : PySem.W.Frag) : List V → Hp → VK → Prop := fun xs H Q => (∃ p ys, xs = [V.ref p] ∧ (SqL K H p ys ∨ SqT K H p ys) ∧ Q (.int ys.length) H) ∨ (∃ z, xs = [V.str z] ∧ z.length ≤ sizeLine ∧ Q (.int z.length) H)
theorem c_len : CallR X (.builtin "len") (rLenW X.K) := call_len_seq.or call_len_str
theorem w_len : ClW K cl lenW (rLenW K) := by
  intro z m H ws vs w Q M rws e k
  match ws, e, rws with
  | [u], e, rws =>
    obtain ⟨v, e1, e2⟩ := rws.one
    subst e1
    have seqs : ∀ {xs : List W}, seqOf m u = some xs → w = .int xs.length → rLenW K [v] H Q := fun {xs} q ew => by
      obtain ⟨p, us, f1, f2, f3⟩ := seq_at M e2 q
      subst f1
      refine .inl ⟨p, us, rfl, f2, ?_⟩
      rw [f3.length]
      exact k z _ H (Ext.refl _ _) M (by rw [ew]; rfl)
    cases u with
    | str x =>
      simp only [lenW] at e
      split at e
      · rename_i c
        cases e
        have e2 : v = .str x := e2
        subst e2
        exact .inr ⟨x, rfl, sl_le c, k z _ H (Ext.refl _ _) M rfl⟩
      · cases e
    | ref n =>
      simp only [lenW] at e
      cases q : m[n]? with
      | none => rw [q] at e; cases e
      | some c =>
        rw [q] at e
        cases c with
        | lst xs => exact seqs (xs := xs) (by simp [seqOf, q]) (by simpa using e.symm)
        | fz xs => exact seqs (xs := xs) (by simp [seqOf, q]) (by simpa using e.symm)
        | _ => cases e
    | tup xs => exact seqs (xs := xs) rfl (by simpa [lenW, seqOf] using e.symm)
    | lst xs => exact seqs (xs := xs) rfl (by simpa [lenW, seqOf] using e.symm)
    | old xs => exact seqs (xs := xs) rfl (by simpa [lenW, seqOf] using e.symm)
    | non => simp [lenW, seqOf] at e
    | bl _ => simp [lenW, seqOf] at e
    | int _ => simp [lenW, seqOf] at e
    | raw _ => simp [lenW, seqOf] at e
  | [], e, _ => cases e
  | _ :: _ :: _, e, _ => simp [lenW] at e
def tupleW (m : Mem) : List W → Option W
  | [w] => (seqOf m w).map .tup
  | _ => none
theorem w_tuple : ClW K cl tupleW (fun xs H Q => ∃ p ys, xs = [V.ref p] ∧ ((SqL K H p ys ∧ ∀ l, H l = none → Q (.ref l) (upd H l (.tup ys))) ∨ (SqT K H p ys ∧ Q (.ref p) H))) := by
  intro z m H ws vs w Q M rws e k
  match ws, e, rws with
  | [u], e, rws =>
    obtain ⟨v, e1, e2⟩ := rws.one
    subst e1
    simp only [tupleW] at e
    cases q : seqOf m u with
    | none => rw [q] at e; cases e
    | some xs =>
      rw [q] at e
      have e : w = .tup xs := by simpa using e.symm
      subst e
      obtain ⟨p, us, f1, f2, f3⟩ := seq_at M e2 q
      subst f1
      refine ⟨p, us, rfl, ?_⟩
      rcases f2 with f2 | f2
      · refine .inl ⟨f2, fun l hl => ?_⟩
        obtain ⟨t1, t2, t3⟩ := new_tup (cl := cl) M hl f3
        exact k _ _ _ t1 t2 t3
      · exact .inr ⟨f2, k z _ H (Ext.refl _ _) M ⟨p, us, rfl, f2, f3⟩⟩
  | [], e, _ => cases e
  | _ :: _ :: _, e, _ => simp [tupleW] at e
def listW (m : Mem) : List W → Option (List W)
  | [w] => seqOf m w
  | _ => none
theorem w_list : ClN K cl listW (fun xs H Q => ∃ p ys, xs = [V.ref p] ∧ (SqL K H p ys ∨ SqT K H p ys) ∧ ∀ l, H l = none → Q (.ref l) (upd H l (.lst ys))) := by
  intro z m H ws vs us Q M rws e k
  match ws, e, rws with
  | [u], e, rws =>
    obtain ⟨v, e1, e2⟩ := rws.one
    subst e1
    obtain ⟨p, us, f1, f2, f3⟩ := seq_at M e2 e
    subst f1
    refine ⟨p, us, rfl, f2, fun l hl => ?_⟩
    obtain ⟨t1, t2, t3⟩ := new_rel (cl := cl) M hl f3
    exact k _ _ _ t1 t2 t3
  | [], e, _ => cases e
  | _ :: _ :: _, e, _ => simp [listW] at e
def intW (_ : Mem) : List W → Option W
  | [.int i] => some (.int i)
  | [.bl b] => some (.int (if b then 1 else 0))
  | _ => none
theorem w_int : ClW K cl intW (fun xs H Q => (∃ i, xs = [V.int i] ∧ Q (.int i) H) ∨ ∃ k, xs = [V.bl k] ∧ Q (.int (if k then 1 else 0)) H) := by
  intro z m H ws vs w Q M rws e k
  match ws, e, rws with
  | [.int i], e, rws =>
    obtain ⟨v, e1, e2⟩ := rws.one
    have e2 : v = .int i := e2
    subst e1 e2
    cases e
    exact .inl ⟨i, rfl, k z _ H (Ext.refl _ _) M rfl⟩
  | [.bl b], e, rws =>
    obtain ⟨v, e1, e2⟩ := rws.one
    have e2 : v = .bl b := e2
    subst e1 e2
    cases e
    exact .inr ⟨b, rfl, k z _ H (Ext.refl _ _) M rfl⟩
end

/-! ### isinstance with a built-in class -/
inductive Ty where
  | non | bl | int | str | tup | lst | dct
def Ty.name : Ty → String
  | .non => "NoneType"
  | .bl => "bool"
  | .int => "int"
  | .str => "str"
  | .tup => "tuple"
  | .lst => "list"
  | .dct => "dict"
def Ty.sub : Ty → Ty → Bool
  | .non, .non => true
  | .bl, .bl => true
  | .bl, .int => true
  | .int, .int => true
  | .str, .str => true
  | .tup, .tup => true
  | .lst, .lst => true
  | .dct, .dct => true
  | _, _ => false
theorem Ty.kit (a b : Ty) (hb : b ≠ .non) : kitB a.name b.name = some (a.sub b) := by
  cases a <;> cases b <;> first | exact absurd rfl hb | decide +kernel
def tyW (m : Mem) : W → Option Ty
  | .non => some .non
  | .bl _ => some .bl
  | .int _ => some .int
  | .str _ => some .str
  | .tup _ => some .tup
  | .lst _ => some .lst
  | .old _ => some .lst
  | .ref n => match m[n]? with
    | some (.lst _) => some .lst
    | some (.fz _) => some .lst
    | some (.dct _) => some .dct
    | _ => none
  | .raw _ => none
theorem ty_of {K : PySem.W.Frag} {z : Zn} {m : Mem} {H : Hp} {w : W} {v : V} {t : Ty} (M : MemOk K cl z m H) (h : RW K z H w v) (e : tyW m w = some t) : TyX K H v (.type t.name) := by
  cases w with
  | non => cases e; cases h; exact .base .non
  | bl b => cases e; cases h; exact .base (.bl b)
  | int i => cases e; cases h; exact .base (.int i)
  | str x => cases e; cases h; exact .base (.str x)
  | tup xs =>
    cases e
    obtain ⟨p, vs, h1, h2, _⟩ := h
    subst h1
    rcases h2 with (h2 | ⟨o, h2⟩) | ⟨o, its, n, h2, h3, _⟩
    · exact .base (.tup h2)
    · exact .fTuple h2
    · exact .kTuple h2 h3
  | lst xs =>
    cases e
    obtain ⟨p, vs, h1, h2, _⟩ := h
    subst h1
    exact .base (.lst h2.2)
  | old xs =>
    cases e
    obtain ⟨p, vs, h1, h2, _⟩ := h
    subst h1
    rcases h2 with ⟨o, h2⟩ | ⟨o, its, n, h2, h3, _⟩
    · exact .base (.frz h2)
    · exact .kList h2 h3
  | ref n =>
    obtain ⟨p, h1, h2⟩ := h
    subst h2
    obtain ⟨c, e1, hc⟩ := M.at h1
    simp only [tyW, e1] at e
    cases c with
    | lst ys => cases e; obtain ⟨_, _, vs, q, _⟩ := hc; exact .base (.lst q)
    | fz ys => cases e; obtain ⟨_, vs, q, _⟩ := hc; exact .base (.lst q)
    | dct kvs => cases e; obtain ⟨_, vs, q, _⟩ := hc; exact .base (.dK q)
    | ins c fs => cases e
  | raw u => cases e
def eIsi (T : Ty) (f : DE) : DE := fun r m => (f r m).bind fun w m1 => match tyW m1 w with
  | some t => .ok (.bl (t.sub T)) m1
  | none => .bad
theorem se_isi (T : Ty) {f : DE} {tn : Str} {p p2 : Pos} (hm : X.mg "isinstance" = none) (hm2 : X.mg tn = none) (hv : bootBuiltins tn = some (.type T.name)) (h : PE X e (tE (gx X cl Wx) f)) (hT : T ≠ .non := by intro h; cases h) (hg : Gl X "isinstance" := by rfl) (hg2 : Gl X tn := by rfl)
    (hn2 : tn ≠ "__name__" := by decide) (hdb2 : (tn == ("__debug__" : Str)) = false := by decide)
    (he1 : starEach [e, .Name tn p2] X.env = (false, eval e X.env) :: starEach [.Name tn p2] X.env := by rfl) (he2 : starEach [.Name tn p2] X.env = (false, eval (.Name tn p2) X.env) :: starEach [] X.env := by rfl) (hpl : (backTo pos (starEach [.Name tn p2] X.env)).any (·.1) = false := by rfl) :
    PE X (.Call (.Name "isinstance" p) [e, .Name tn p2] [] pos) (tE (gx X cl Wx) (eIsi T f)) :=
  (pe_callB call_isi hg hm (by decide +kernel) (pa_cons h (pa_cons (pe_bltn (v := .ty T.name) hg2 hm2 hv rfl hn2 hdb2) pa_nil he2) he1) (by decide) (by decide) he1 hpl).imp fun s H Q ⟨r, m, z, R, P⟩ => by
    refine ⟨r, m, z, R, P.bind fun z1 w m1 v H1 E1 R1 r1 P1 => ?_⟩
    cases q : tyW m1 w with
    | none => rw [q] at P1; exact P1.elim
    | some t =>
      rw [q] at P1
      exact ⟨v, .ty T.name, .type t.name, .type T.name, t.sub T, rfl, .ty _, ty_of R1.mem r1 q, kit_ty (Ty.kit t T hT), Post.ret (b := V.bl (t.sub T)) P1 R1 rfl⟩

/-! ### slices -/
def cutW (xs : List W) (lo hi : Option Int) : List W := (xs.drop (HT.sIx xs.length 0 lo)).take (HT.sIx xs.length xs.length hi - HT.sIx xs.length 0 lo)
theorem cut_rel {K : PySem.W.Frag} {z : Zn} {H : Hp} {ws : List W} {vs : List V} (h : RWs K z H ws vs) (lo hi : Option Int) : RWs K z H (cutW ws lo hi) (cutV vs lo hi) := by
  unfold cutW cutV
  rw [h.length]
  exact (h.drop _).take _
abbrev DO := Rho → Mem → R (Option Int)
abbrev relO : Zn → Hp → Option Int → Option Int → Prop := fun _ _ a b => a = b
def tO (g : Gx) (f : DO) : L2.St → Hp → (Option Int → Hp → Prop) → Prop := tG g relO f
def oNone : DO := fun _ m => .ok none m
def oSome (f : DE) : DO := fun r m => (f r m).bind fun w m1 => match w with
  | .int i => .ok (some i) m1
  | _ => .bad
theorem _root_.L2.PO.imp {oe : Option Expr} {t t' : TO} (h : PO X oe t) (hi : ∀ s H Q, t' s H Q → t s H Q) : PO X oe t' := ⟨fun pins sh s H Q I q => h.run pins sh s H Q I (hi _ _ _ q)⟩
theorem so_none : PO X none (tO (gx X cl Wx) oNone) := po_none.imp fun s H Q ⟨r, m, z, R, P⟩ => Post.ret (b := (none : Option Int)) P R rfl
theorem so_some {f : DE} (h : PE X e (tE (gx X cl Wx) f)) : PO X (some e) (tO (gx X cl Wx) (oSome f)) := (po_some h).imp fun s H Q ⟨r, m, z, R, P⟩ => by
  refine ⟨r, m, z, R, P.bind fun z1 w m1 v H1 E1 R1 r1 P1 => ?_⟩
  cases w with
  | int i => exact ⟨i, r1, Post.ret (b := some i) P1 R1 rfl⟩
  | _ => exact P1.elim
def eSl (f : DE) (lo hi : DO) : DE := fun r m => (f r m).bind fun w m1 => (lo r m1).bind fun l m2 => (hi r m2).bind fun u m3 => match w with
  | .tup xs => .ok (.tup (cutW xs l u)) m3
  | .str x => if x.length ≤ 16777216 then .ok (.str (cutS x l u)) m3 else .bad
  | w => match lstOf m3 w with
    | some xs => .ok (.lst (cutW xs l u)) m3
    | none => .bad
abbrev rSlW (K : PySem.W.Frag) : V → Option Int → Option Int → Hp → VK → Prop := fun x lo hi H Q => rSlL K x lo hi H Q ∨ (fun x lo hi H Q => rSlA K x lo hi H Q ∨ rSlS x lo hi H Q) x lo hi H Q
theorem sl_W : SlR X (rSlW X.K) := sl_list.or (sl_tupA.or sl_str)
theorem se_sl {f : DE} {lo hi : Option Expr} {fl fh : DO} {p2 : Pos} (h : PE X e (tE (gx X cl Wx) f)) (hl : PO X lo (tO (gx X cl Wx) fl)) (hh : PO X hi (tO (gx X cl Wx) fh)) : PE X (.Subscript e (.Slice lo hi none p2) pos) (tE (gx X cl Wx) (eSl f fl fh)) :=
  (pe_slice sl_W h hl hh).imp fun s H Q ⟨r, m, z, R, P⟩ => by
    refine ⟨r, m, z, R, P.bind fun z1 w m1 v H1 E1 R1 r1 P1 => ?_⟩
    refine ⟨r, m1, z1, R1, P1.bind (rel := relO) fun z2 l m2 l' H2 E2 R2 r2 P2 => ?_⟩
    have r2 : l = l' := r2
    subst r2
    refine ⟨r, m2, z2, R2, P2.bind (rel := relO) fun z3 u m3 u' H3 E3 R3 r3 P3 => ?_⟩
    have r3 : u = u' := r3
    subst r3
    have rw3 : RW X.K z3 H3 w v := (RW.ext E2 r1).ext E3
    have lsts : ∀ {xs : List W}, lstOf m3 w = some xs → Post (gx X cl Wx) (RW X.K) z3 H3 r s (.ok (.lst (cutW xs l u)) m3) Q → rSlW X.K v l u H3 Q := fun {xs} q P => by
      obtain ⟨p, vs, f1, f2, f3⟩ := lst_at R3.mem rw3 q
      refine .inl ⟨p, vs, f1, f2, fun l' hl' => ?_⟩
      obtain ⟨t1, t2, t3⟩ := new_lst (cl := cl) R3.mem hl' (cut_rel f3 l u)
      exact P _ _ _ t1 (R3.after t1 t2) t3
    cases w with
    | tup xs =>
      obtain ⟨p, vs, f1, f2, f3⟩ := rw3
      refine .inr (.inl ⟨p, vs, f1, f2, fun hw => ?_, fun _ l' hl' => ?_⟩)
      · refine P3 z3 _ H3 (Ext.refl _ _) R3 ⟨p, vs, rfl, f2, ?_⟩
        have e1 : cutW xs l u = xs := by
          unfold cutW
          rw [← f3.length, hw.1, hw.2]
          simp [f3.length]
        rw [e1]
        exact f3
      · obtain ⟨t1, t2, t3⟩ := new_tup (cl := cl) R3.mem hl' (cut_rel f3 l u)
        exact P3 _ _ _ t1 (R3.after t1 t2) t3
    | str x =>
      simp only at P3
      split at P3
      · rename_i c
        have rw3 : v = .str x := rw3
        subst rw3
        exact .inr (.inr ⟨x, rfl, sl_le c, P3 z3 _ H3 (Ext.refl _ _) R3 rfl⟩)
      · exact P3.elim
    | lst xs => exact lsts (xs := xs) rfl P3
    | old xs => exact lsts (xs := xs) rfl P3
    | ref n =>
      cases q : lstOf m3 (.ref n) with
      | none => simp only [q] at P3; exact P3.elim
      | some xs => simp only [q] at P3; exact lsts q P3
    | non => exact P3.elim
    | bl _ => exact P3.elim
    | int _ => exact P3.elim
    | raw _ => exact P3.elim
/-- xs[::-1] of a list -/
def eRev (f : DE) : DE := fun r m => (f r m).bind fun w m1 => match lstOf m1 w with
  | some xs => .ok (.lst xs.reverse) m1
  | none => .bad
theorem se_rev {f : DE} {k : Nat} {p1 p2 p3 : Pos} (h : PE X e (tE (gx X cl Wx) f)) : PE X (.Subscript e (.Slice none none (some (.UnaryOp .USub (.Constant (.int 1) k p1) p2)) p3) pos) (tE (gx X cl Wx) (eRev f)) :=
  (pe_revL h).imp fun s H Q ⟨r, m, z, R, P⟩ => by
    refine ⟨r, m, z, R, P.bind fun z1 w m1 v H1 E1 R1 r1 P1 => ?_⟩
    cases q : lstOf m1 w with
    | none => rw [q] at P1; exact P1.elim
    | some xs =>
      rw [q] at P1
      obtain ⟨p, vs, f1, f2, f3⟩ := lst_at R1.mem r1 q
      refine ⟨p, vs, f1, f2, fun l hl => ?_⟩
      obtain ⟨t1, t2, t3⟩ := new_lst (cl := cl) R1.mem hl f3.reverse
      exact P1 _ _ _ t1 (R1.after t1 t2) t3
/-- - e -/
def eNeg (f : DE) : DE := fun r m => (f r m).bind fun w m1 => match w with
  | .int i => .ok (.int (-i)) m1
  | _ => .bad
theorem se_neg {f : DE} (h : PE X e (tE (gx X cl Wx) f)) : PE X (.UnaryOp .USub e pos) (tE (gx X cl Wx) (eNeg f)) :=
  (pe_un un_neg h).imp fun s H Q ⟨r, m, z, R, P⟩ => by
    refine ⟨r, m, z, R, P.bind fun z1 w m1 v H1 E1 R1 r1 P1 => ?_⟩
    cases w with
    | int i => exact ⟨i, r1, Post.ret (b := V.int (-i)) P1 R1 rfl⟩
    | _ => exact P1.elim
end
end Dn

/-! D7: what changes: lists, dicts; chains; while. -/
namespace Dn
open PySem PySem.Spec PyProof.Rows L2
def Cell.mut : Cell → Bool
  | .fz _ => false
  | _ => true
section
variable {K : PySem.W.Frag} {cl : Nat → Addr} {z : Zn} {m : Mem} {H : Hp}
theorem nodup_ixA {l : List Addr} {i j : Nat} {x : Addr} (hN : l.Nodup) (a : l[i]? = some x) (b : l[j]? = some x) : i = j := by
  obtain ⟨h1, e1⟩ := List.getElem?_eq_some_iff.mp a
  obtain ⟨h2, e2⟩ := List.getElem?_eq_some_iff.mp b
  exact (List.getElem_inj hN).mp (e1.trans e2.symm)
/-- an object of the memory is written -/
theorem MemOk.write {n : Nat} {a : Addr} {c c' : Cell} {o' : HO} (M : MemOk K cl z m H) (hp : z.phi[n]? = some a) (hc : m[n]? = some c) (hm : c.mut = true) (new : Ext z H z (upd H a o') → CellOk K cl z (upd H a o') a c') :
    Ext z H z (upd H a o') ∧ MemOk K cl z (m.set n c') (upd H a o') := by
  have hcell := M.cells n a c hp hc
  have nz : ¬ z.Z a := fun q => by
    cases c with
    | lst ws => exact hcell.1 q
    | fz ws => cases hm
    | dct kvs => obtain ⟨_, vs, e, _⟩ := hcell; obtain ⟨xs, e2⟩ := M.lz a q; rw [e] at e2; cases e2
    | ins c fs => obtain ⟨_, dx, vs, e, _⟩ := hcell; obtain ⟨xs, e2⟩ := M.lz a q; rw [e] at e2; cases e2
  have nh : ¬ z.hold a := fun q => by
    cases c with
    | lst ws => exact hcell.2.1 q
    | fz ws => cases hm
    | dct kvs => exact hcell.1 q
    | ins c fs => exact hcell.1 q
  have nt : ∀ b us, H b = some (.tup us) → b ≠ a := fun b us e q => by
    subst q
    cases c with
    | lst ws => obtain ⟨_, _, vs, e2, _⟩ := hcell; rw [e] at e2; cases e2
    | fz ws => cases hm
    | dct kvs => obtain ⟨_, vs, e2, _⟩ := hcell; rw [e] at e2; cases e2
    | ins c fs => obtain ⟨_, dx, vs, e2, _⟩ := hcell; rw [e] at e2; cases e2
  have nf : ∀ b ob u, H b = some (.frz ob u) → b ≠ a := fun b ob u e q => by
    subst q
    cases c with
    | lst ws => obtain ⟨_, _, vs, e2, _⟩ := hcell; rw [e] at e2; cases e2
    | fz ws => cases hm
    | dct kvs => obtain ⟨_, vs, e2, _⟩ := hcell; rw [e] at e2; cases e2
    | ins c fs => obtain ⟨_, dx, vs, e2, _⟩ := hcell; rw [e] at e2; cases e2
  have ez : ∀ b, z.Z b → b ≠ a := fun b q e => nz (e ▸ q)
  have eh : ∀ b, z.hold b → b ≠ a := fun b q e => nh (e ▸ q)
  have ex : Ext z H z (upd H a o') := ⟨⟨fun b us e => by rw [upd_ne (nt b us e)]; exact e, fun b ob u e => by rw [upd_ne (nf b ob u e)]; exact e, fun b q => ⟨q, upd_ne (ez b q)⟩, fun _ _ q => q⟩, fun b q => ⟨q, upd_ne (eh b q)⟩⟩
  refine ⟨ex, by simp [M.len], M.nd, M.sep, fun b q => by rw [upd_ne (ez b q)]; exact M.lz b q, fun b q => by rw [upd_ne (eh b q)]; exact M.lh b q, fun k b d h1 h2 => ?_⟩
  by_cases hk : n = k
  · subst hk
    rw [hp] at h1
    cases h1
    rw [List.getElem?_set_self (List.getElem?_eq_some_iff.mp hc).1] at h2
    cases h2
    exact new ex
  · rw [List.getElem?_set_ne hk] at h2
    have hne : b ≠ a := fun q => by
      subst q
      exact hk (nodup_ixA M.nd hp h1)
    exact (M.cells k b d h1 h2).ext2 ex.e0 Iff.rfl (fun x => x) (upd_ne hne)
/-- a list of the memory is settled -/
theorem MemOk.freeze {n : Nat} {a : Addr} {ws : List W} (M : MemOk K cl z m H) (hp : z.phi[n]? = some a) (hc : m[n]? = some (.lst ws)) :
    Ext z H (z.fz a) H ∧ MemOk K cl (z.fz a) (m.set n (.fz ws)) H ∧ RW K (z.fz a) H (.lst ws) (.ref a) := by
  obtain ⟨n1, n2, vs, e, rr⟩ := M.cells n a _ hp hc
  have ex : Ext z H (z.fz a) H := ⟨⟨fun _ _ h => h, fun _ _ _ h => h, fun _ h => ⟨.inr h, rfl⟩, fun _ _ h => h⟩, fun _ h => ⟨h, rfl⟩⟩
  refine ⟨ex, ⟨by simp [M.len], M.nd, ?_, ?_, M.lh, fun k b d h1 h2 => ?_⟩, a, vs, rfl, ⟨.inl rfl, e⟩, RWs.ext ex rr⟩
  · rintro b (q | q)
    · subst q; exact n2
    · exact M.sep b q
  · rintro b (q | q)
    · subst q; exact ⟨_, e⟩
    · exact M.lz b q
  · by_cases hk : n = k
    · subst hk
      have h1 : z.phi[n]? = some b := h1
      rw [hp] at h1
      cases h1
      rw [List.getElem?_set_self (List.getElem?_eq_some_iff.mp hc).1] at h2
      cases h2
      exact ⟨.inl rfl, vs, e, RWs.ext ex rr⟩
    · rw [List.getElem?_set_ne hk] at h2
      have h1 : z.phi[k]? = some b := h1
      have hne : b ≠ a := fun q => by
        subst q
        exact hk (nodup_ixA M.nd hp h1)
      refine (M.cells k b d h1 h2).ext2 ex.e0 ⟨?_, .inr⟩ (fun x => x) rfl
      rintro (q | q)
      · exact absurd q hne
      · exact q
end

section
variable {X : Cx} {cl : Nat → Addr} {Wx : WX} {e a b o : Expr} {pos : Pos}
/-- a name whose list is settled from here on -/
def eFrz (i : Nat) : DE := fun r m => match r[i]? with
  | some (some (.ref n)) => match m[n]? with
    | some (.lst ws) => .ok (.lst ws) (m.set n (.fz ws))
    | some (.fz ws) => .ok (.lst ws) m
    | _ => .bad
  | some (some (.lst ws)) => .ok (.lst ws) m
  | _ => .bad
theorem se_frz (i : Nat) {x : Str} (hN : X.N[i]? = some x := by rfl) (hv : Vis X.env.scope x := by first | exact Or.inl rfl | exact Or.inr (Or.inl rfl) | exact Or.inr (Or.inr rfl)) (hd : (x == ("__debug__" : Str)) = false := by decide)
    (hcd : (x == ("__classdict__" : Str)) = false := by decide) : PE X (.Name x pos) (tE (gx X cl Wx) (eFrz i)) := (pe_var hN hv hd hcd).imp fun s H Q ⟨r, m, z, R, P⟩ => by
  unfold eFrz at P
  split at P
  · rename_i n e1
    obtain ⟨v, q1, p, q2, q3⟩ := R.slots.2 i _ e1
    subst q3
    refine ⟨_, q1, ?_⟩
    split at P
    · rename_i ws e2
      obtain ⟨ex, M, rw'⟩ := R.mem.freeze q2 e2
      exact P _ _ _ ex (R.after ex M) rw'
    · rename_i ws e2
      obtain ⟨h1, vs, h2, h3⟩ := R.mem.cells n p _ q2 e2
      exact P z _ H (Ext.refl _ _) R ⟨p, vs, rfl, ⟨h1, h2⟩, h3⟩
    · exact P.elim
  · rename_i ws e1
    obtain ⟨v, q1, q2⟩ := R.slots.2 i _ e1
    exact ⟨v, q1, P.ret R q2⟩
  · exact P.elim
/-- xs.append(e) -/
def eApp (fo fe : DE) : DE := fun r m => (fo r m).bind fun w m1 => match w with
  | .ref n => match m1[n]? with
    | some (.lst _) => (fe r m1).bind fun y m2 => match m2[n]? with
      | some (.lst xs) => if xs.length < 16777216 then .ok .non (m2.set n (.lst (xs ++ [y]))) else .bad
      | _ => .bad
    | _ => .bad
  | _ => .bad
theorem sl_lt {n : Nat} (h : n < 16777216) : n < sizeLine := by rw [sizeLine_eq]; exact h
theorem se_app {fo fe : DE} {apos : Pos} (ho : PE X o (tE (gx X cl Wx) fo)) (he : PE X e (tE (gx X cl Wx) fe))
    (hbase : attributeBase o "append" X.env (eval o X.env) = eval o X.env := by rfl)
    (hfew : ((backTo pos (starEach [e] X.env)).all (fun x => !x.1) && (backToKw pos (keywordEach [] X.env)).all (fun x => x.1.isSome)
      && decide ([e].length + ([] : List Keyword).length + (if ([] : List Keyword).isEmpty then 0 else 1) < 30)) = true := by rfl)
    (hline : (apos.endLine == pos.line) = true := by rfl) (hs : starEach [e] X.env = (false, eval e X.env) :: starEach [] X.env := by rfl) (hplain : (backTo pos (starEach [] X.env)).any (·.1) = false := by rfl) :
    PE X (.Call (.Attribute o "append" apos) [e] [] pos) (tE (gx X cl Wx) (eApp fo fe)) :=
  (pe_bm PySem.F.plainAttrs_list PySem.F.slot_list_append PySem.F.type_list_append mt_append ho (pa_cons he pa_nil hs) hbase hfew hline hs hplain).imp fun s H Q ⟨r, m, z, R, P⟩ => by
    refine ⟨r, m, z, R, P.bind fun z1 w m1 v H1 E1 R1 r1 P1 => ?_⟩
    cases w with
    | ref n =>
      obtain ⟨p, q1, q2⟩ := r1
      subst q2
      simp only at P1
      split at P1
      · rename_i ys e1
        obtain ⟨_, _, vs, h1, _⟩ := R1.mem.cells n p _ q1 e1
        refine ⟨.inl ⟨rfl, vs, SqL.of h1⟩, r, m1, z1, R1, P1.bind fun z2 y m2 v2 H2 E2 R2 r2 P2 => ?_⟩
        have q3 := E2.e0.ph n p q1
        split at P2
        · rename_i xs e2
          split at P2
          · rename_i hl
            obtain ⟨n1, n2, us, h2, h3⟩ := R2.mem.cells n p _ q3 e2
            refine ⟨p, us, v2, rfl, rfl, h2, by rw [h3.length]; exact sl_lt hl, ?_⟩
            obtain ⟨ex, M⟩ := R2.mem.write (c' := .lst (xs ++ [y])) (o' := .lst (us ++ [v2])) q3 e2 rfl fun ex => ⟨n1, n2, _, upd_same, (RWs.ext ex h3).append (.cons (r2.ext ex) .nil)⟩
            exact P2 _ _ _ ex (R2.after ex M) rfl
          · exact P2.elim
        · exact P2.elim
      · exact P1.elim
    | _ => exact P1.elim
/-- xs.extend(ys), ys a list -/
def eExt (fo fe : DE) : DE := fun r m => (fo r m).bind fun w m1 => match w with
  | .ref n => match m1[n]? with
    | some (.lst _) => (fe r m1).bind fun y m2 => match m2[n]?, trkOf m2 y with
      | some (.lst xs), some ys => if xs.length + ys.length ≤ 16777216 then .ok .non (m2.set n (.lst (xs ++ ys))) else .bad
      | _, _ => .bad
    | _ => .bad
  | _ => .bad
theorem se_ext {fo fe : DE} {apos : Pos} (ho : PE X o (tE (gx X cl Wx) fo)) (he : PE X e (tE (gx X cl Wx) fe))
    (hbase : attributeBase o "extend" X.env (eval o X.env) = eval o X.env := by rfl)
    (hfew : ((backTo pos (starEach [e] X.env)).all (fun x => !x.1) && (backToKw pos (keywordEach [] X.env)).all (fun x => x.1.isSome)
      && decide ([e].length + ([] : List Keyword).length + (if ([] : List Keyword).isEmpty then 0 else 1) < 30)) = true := by rfl)
    (hline : (apos.endLine == pos.line) = true := by rfl) (hs : starEach [e] X.env = (false, eval e X.env) :: starEach [] X.env := by rfl) (hplain : (backTo pos (starEach [] X.env)).any (·.1) = false := by rfl) :
    PE X (.Call (.Attribute o "extend" apos) [e] [] pos) (tE (gx X cl Wx) (eExt fo fe)) :=
  (pe_bm PySem.F.plainAttrs_list PySem.F.slot_list_extend PySem.F.type_list_extend mt_extend ho (pa_cons he pa_nil hs) hbase hfew hline hs hplain).imp fun s H Q ⟨r, m, z, R, P⟩ => by
    refine ⟨r, m, z, R, P.bind fun z1 w m1 v H1 E1 R1 r1 P1 => ?_⟩
    cases w with
    | ref n =>
      obtain ⟨p, q1, q2⟩ := r1
      subst q2
      simp only at P1
      split at P1
      · rename_i ys e1
        obtain ⟨_, _, vs, h1, _⟩ := R1.mem.cells n p _ q1 e1
        refine ⟨.inl ⟨rfl, vs, SqL.of h1⟩, r, m1, z1, R1, P1.bind fun z2 y m2 v2 H2 E2 R2 r2 P2 => ?_⟩
        have q3 := E2.e0.ph n p q1
        split at P2
        · rename_i xs ys e2 e3
          split at P2
          · rename_i hl
            obtain ⟨n1, n2, us, h2, h3⟩ := R2.mem.cells n p _ q3 e2
            obtain ⟨p2, us2, g1, g2, g3⟩ := trk_at R2.mem r2 e3
            subst g1
            refine ⟨p, p2, us, us2, rfl, rfl, h2, g2, by rw [h3.length, g3.length]; exact sl_le hl, ?_⟩
            obtain ⟨ex, M⟩ := R2.mem.write (c' := .lst (xs ++ ys)) (o' := .lst (us ++ us2)) q3 e2 rfl fun ex => ⟨n1, n2, _, upd_same, (RWs.ext ex h3).append (RWs.ext ex g3)⟩
            exact P2 _ _ _ ex (R2.after ex M) rfl
          · exact P2.elim
        · exact P2.elim
      · exact P1.elim
    | _ => exact P1.elim

/-! ### dicts by texts and ints -/
def keyW : W → Option Key
  | .int i => some (.inl i)
  | .str x => some (.inr x)
  | _ => none
theorem key_rel {K : PySem.W.Frag} {z : Zn} {H : Hp} {w : W} {v : V} {k : Key} (h : RW K z H w v) (e : keyW w = some k) : v = kV k := by
  cases w with
  | int i => cases e; exact h
  | str x => cases e; exact h
  | _ => cases e
def valW (kvs : List (Key × W)) (k : Key) : Option W := match kvs with
  | [] => none
  | (j, w) :: r => if j = k then some w else valW r k
def hasW (kvs : List (Key × W)) (k : Key) : Bool := match kvs with
  | [] => false
  | (j, _) :: r => decide (j = k) || hasW r k
def setW (kvs : List (Key × W)) (k : Key) (w : W) : List (Key × W) := match kvs with
  | [] => []
  | (j, u) :: r => (if j = k then (j, w) else (j, u)) :: setW r k w
def putW (kvs : List (Key × W)) (k : Key) (w : W) : List (Key × W) := if hasW kvs k = true then setW kvs k w else kvs ++ [(k, w)]
section
variable {K : PySem.W.Frag} {z : Zn} {H : Hp}
theorem valW_some {k : Key} : ∀ {kvs : List (Key × W)} {vs : List (Key × V)} {w : W}, RFs K z H kvs vs → valW kvs k = some w → ∃ v, valV vs k = some v ∧ RW K z H w v
  | [], _, _, _, e => by cases e
  | (j, u) :: r, _, w, ⟨v, vr, h1, h2, h3⟩, e => by
    subst h1
    simp only [valW] at e
    by_cases hj : j = k
    · rw [if_pos hj] at e; cases e; exact ⟨v, valV_pos hj, h2⟩
    · rw [if_neg hj] at e
      obtain ⟨v', a1, a2⟩ := valW_some h3 e
      exact ⟨v', by rw [valV_neg hj]; exact a1, a2⟩
theorem valW_none {k : Key} : ∀ {kvs : List (Key × W)} {vs : List (Key × V)}, RFs K z H kvs vs → valW kvs k = none → valV vs k = none
  | [], _, h, _ => by cases h; rfl
  | (j, u) :: r, _, ⟨v, vr, h1, h2, h3⟩, e => by
    subst h1
    simp only [valW] at e
    by_cases hj : j = k
    · rw [if_pos hj] at e; cases e
    · rw [if_neg hj] at e
      rw [valV_neg hj]
      exact valW_none h3 e
theorem RFs.append {α : Type} : ∀ {as bs : List (α × W)} {us vs : List (α × V)}, RFs K z H as us → RFs K z H bs vs → RFs K z H (as ++ bs) (us ++ vs)
  | [], _, _, _, h, t => by cases h; exact t
  | (k, w) :: _, _, _, _, ⟨v, r, h1, h2, h3⟩, t => by subst h1; exact ⟨v, _, rfl, h2, RFs.append h3 t⟩
theorem hasW_any {k : Key} : ∀ {kvs : List (Key × W)} {vs : List (Key × V)}, RFs K z H kvs vs → (vs.any fun kv => decide (kv.1 = k)) = hasW kvs k
  | [], _, h => by cases h; rfl
  | (j, w) :: _, _, ⟨v, r, h1, h2, h3⟩ => by
    subst h1
    simp only [List.any_cons, hasW]
    rw [hasW_any h3]
theorem setW_rel {k : Key} {w : W} {v : V} (hw : RW K z H w v) : ∀ {kvs : List (Key × W)} {vs : List (Key × V)}, RFs K z H kvs vs → RFs K z H (setW kvs k w) (vs.map fun kv => if kv.1 = k then (kv.1, v) else kv)
  | [], _, h => by cases h; rfl
  | (j, u) :: _, _, ⟨x, r, h1, h2, h3⟩ => by
    subst h1
    simp only [setW, List.map_cons]
    by_cases hj : j = k
    · rw [if_pos hj, if_pos hj]; exact ⟨v, _, rfl, hw, setW_rel hw h3⟩
    · rw [if_neg hj, if_neg hj]; exact ⟨x, _, rfl, h2, setW_rel hw h3⟩
theorem putW_rel {k : Key} {w : W} {v : V} {kvs : List (Key × W)} {vs : List (Key × V)} (hw : RW K z H w v) (h : RFs K z H kvs vs) : RFs K z H (putW kvs k w) (putK vs k v) := by
  unfold putW putK
  rw [hasW_any h]
  split
  · exact setW_rel hw h
  · exact h.append ⟨v, [], rfl, hw, rfl⟩
end
def eDget (fo fi : DE) : DE := fun r m => (fo r m).bind fun w m1 => (fi r m1).bind fun k m2 => match w with
  | .ref n => match m2[n]?, keyW k with
    | some (.dct kvs), some key => match valW kvs key with
      | some u => .ok u m2
      | none => .bad
    | _, _ => .bad
  | _ => .bad
theorem se_dget {fo fi : DE} {i : Expr} (hu : X.A.units + 1 < cLine) (ho : PE X o (tE (gx X cl Wx) fo)) (hi : PE X i (tE (gx X cl Wx) fi)) (hs : NoSl i := by exact fun _ _ => rfl) : PE X (.Subscript o i pos) (tE (gx X cl Wx) (eDget fo fi)) :=
  (pe_dget hu ho hi hs).imp fun s H Q ⟨r, m, z, R, P⟩ => by
    refine ⟨r, m, z, R, P.bind fun z1 w m1 v H1 E1 R1 r1 P1 => ?_⟩
    refine ⟨r, m1, z1, R1, P1.bind fun z2 k m2 y H2 E2 R2 r2 P2 => ?_⟩
    cases w with
    | ref n =>
      obtain ⟨p, q1, q2⟩ := RW.ext E2 r1
      subst q2
      simp only at P2
      split at P2
      · rename_i kvs key e1 e2
        split at P2
        · rename_i u e3
          obtain ⟨_, vs, h1, h2⟩ := R2.mem.cells n p _ q1 e1
          obtain ⟨x, g1, g2⟩ := valW_some h2 e3
          have hy := key_rel r2 e2
          subst hy
          exact ⟨p, x, rfl, by rw [← g1]; exact DGet.k h1, P2 z2 x H2 (Ext.refl _ _) R2 g2⟩
        · exact P2.elim
      · exact P2.elim
    | _ => exact P2.elim
/-- o[i] = e, of a list or a dict -/
def setM (m : Mem) (o i v : W) : Option Mem := match o with
  | .ref n => match m[n]? with
    | some (.lst xs) => match i with
      | .int k => (ixN xs.length k).map fun j => m.set n (.lst (xs.set j v))
      | _ => none
    | some (.dct kvs) => match keyW i with
      | some key => if kvs.length < 16777216 then some (m.set n (.dct (putW kvs key v))) else none
      | none => none
    | _ => none
  | _ => none
def rSetD : V → V → V → Hp → (Hp → Prop) → Prop := fun o i v H Q => ∃ a H', o = .ref a ∧ DPut H a i v H' ∧ Q H'
theorem set_dict (hu : X.A.units + 1 < cLine) : PSet X rSetD := by
  intro pins s σ H o i v ov iv u Q I ro ri rv h
  obtain ⟨a, H', ex, g, q⟩ := h
  subst ex
  obtain rfl : ov = Value.ref a := ro
  exact d_setItem hu I g ri rv fun s4 I4 => ⟨H', I4, q⟩
theorem PSet.or {t t' : TSet} (h : PSet X t) (h' : PSet X t') : PSet X (fun o i v H Q => t o i v H Q ∨ t' o i v H Q) := fun pins s σ H o i v ov iv u Q I ro ri rv q => q.elim (fun q => h pins s σ H o i v ov iv u Q I ro ri rv q) fun q => h' pins s σ H o i v ov iv u Q I ro ri rv q
def sSub (fo fi fv : DE) : DS := fun r m => (fv r m).thenS r fun v m1 => (fo r m1).thenS r fun w m2 => (fi r m2).thenS r fun i m3 => match setM m3 w i v with
  | some m4 => .next r m4
  | none => .bad
theorem ss_sub {fo fi fv : DE} {i : Expr} {p2 : Pos} (hu : X.A.units + 1 < cLine) (hv : PE X e (tE (gx X cl Wx) fv)) (ho : PE X o (tE (gx X cl Wx) fo)) (hi : PE X i (tE (gx X cl Wx) fi))
    (ha : ∀ v, assign (.Subscript o i p2) X.env v = (do
      let ov ← holding [v] (eval o X.env)
      let iv ← holding [v, ov] (eval i X.env)
      standAt p2
      holding [v, ov, iv] (setItem ov iv v)
      release [v, ov, iv] []) := by intro _; rfl)
    (hs : swapsWithSole [.Subscript o i p2] e pos.line X.env = pure false := by rfl) (hw : swappedStores [.Subscript o i p2] e X.env = pure none := by rfl)
    (h1 : (assignEach [.Subscript o i p2] X.env).map (·.2) = [assign (.Subscript o i p2) X.env] := by rfl) : PS X (.Assign [.Subscript o i p2] e pos) (tS (gx X cl Wx) (sSub fo fi fv)) :=
  (ps_asg hv (pg_sub ho hi (PSet.or set_list (set_dict hu)) ha) hs hw h1).imp fun D s H ⟨r, m, z, R, P⟩ => ⟨r, m, z, R, P.bind fun z1 v m1 x H1 E1 R1 r1 P1 => by
    refine ⟨r, m1, z1, R1, P1.bind fun z2 w m2 y H2 E2 R2 r2 P2 => ?_⟩
    refine ⟨r, m2, z2, R2, P2.bind fun z3 k m3 u H3 E3 R3 r3 P3 => ?_⟩
    have r1 : RW X.K z3 H3 v x := (RW.ext E2 r1).ext E3
    cases w with
    | ref n =>
      obtain ⟨p, q1, q2⟩ := RW.ext E3 r2
      subst q2
      simp only [setM] at P3
      cases q : m3[n]? with
      | none => rw [q] at P3; exact P3.elim
      | some c =>
        rw [q] at P3
        cases c with
        | lst xs =>
          cases k with
          | int j =>
            have r3 : u = .int j := r3
            subst r3
            simp only at P3
            cases q4 : ixN xs.length j with
            | none => rw [q4] at P3; exact P3.elim
            | some l =>
              rw [q4] at P3
              obtain ⟨n1, n2, us, h2, h3⟩ := R3.mem.cells n p _ q1 q
              refine .inl ⟨p, us, j, l, rfl, rfl, h2, by rw [h3.length]; exact q4, ?_⟩
              obtain ⟨ex, M⟩ := R3.mem.write (c' := .lst (xs.set l v)) (o' := .lst (us.set l x)) q1 q rfl fun ex => ⟨n1, n2, _, upd_same, RWs.set (r1.ext ex) l (RWs.ext ex h3)⟩
              exact P3 _ _ _ ex (R3.after ex M)
          | _ => exact P3.elim
        | dct kvs =>
          simp only at P3
          cases q4 : keyW k with
          | none => rw [q4] at P3; exact P3.elim
          | some key =>
            rw [q4] at P3
            simp only at P3
            by_cases hl : kvs.length < 16777216
            · rw [if_pos hl] at P3
              obtain ⟨n2, us, h2, h3⟩ := R3.mem.cells n p _ q1 q
              have hy := key_rel r3 q4
              subst hy
              refine .inr ⟨p, _, rfl, DPut.k h2 (by rw [h3.length]; exact sl_lt hl), ?_⟩
              obtain ⟨ex, M⟩ := R3.mem.write (c' := .dct (putW kvs key v)) (o' := .dK (putK us key x)) q1 q rfl fun ex => ⟨n2, _, upd_same, putW_rel (r1.ext ex) (RFs.ext ex h3)⟩
              exact P3 _ _ _ ex (R3.after ex M)
            · rw [if_neg hl] at P3; exact P3.elim
        | fz xs => exact P3.elim
        | ins c fs => exact P3.elim
    | _ => exact P3.elim⟩
/-- {"k": e, ..} -/
def pairsD : List (Str × DE) → Rho → Mem → R (List (Key × W))
  | [], _, m => .ok [] m
  | (k, f) :: t, r, m => (f r m).bind fun w m1 => (pairsD t r m1).bind fun ws m2 => .ok ((.inr k, w) :: ws) m2
def relP (K : PySem.W.Frag) (z : Zn) (H : Hp) (kws : List (Key × W)) (ps : List (V × V)) : Prop := ∃ vs : List (Key × V), RFs K z H kws vs ∧ ps = vs.map fun kv => (kV kv.1, kv.2)
theorem pairs_of {g : Gx} {s : L2.St} {r : Rho} : ∀ {fs : List (Str × DE)} {m : Mem} {z : Zn} {H : Hp} {Q : List (V × V) → Hp → Prop}, Rel g.K g.cl z r m s H → Post g (relP g.K) z H r s (pairsD fs r m) Q → tPairs (fs.map fun kf => (tC (.str kf.1), tE g kf.2)) s H Q
  | [], m, z, H, Q, R, P => Post.ret (b := ([] : List (V × V))) P R ⟨[], rfl, rfl⟩
  | (k, f) :: t, m, z, H, Q, R, P => by
    refine ⟨r, m, z, R, P.bind fun z1 w m1 v H1 E1 R1 r1 P1 => ?_⟩
    refine pairs_of (fs := t) R1 (P1.bind fun z2 ws m2 ps H2 E2 R2 r2 P2 => ?_)
    obtain ⟨vs, a1, a2⟩ := r2
    exact Post.ret (b := (V.str k, v) :: ps) P2 R2 ⟨(.inr k, v) :: vs, ⟨v, vs, rfl, RW.ext E2 r1, a1⟩, by rw [a2]; rfl⟩
def mergeW (kvs more : List (Key × W)) : List (Key × W) := match more with
  | [] => kvs
  | (k, w) :: r => mergeW (putW kvs k w) r
theorem mergeW_rel {K : PySem.W.Frag} {z : Zn} {H : Hp} : ∀ {more kvs : List (Key × W)} {mv vs : List (Key × V)}, RFs K z H more mv → RFs K z H kvs vs → RFs K z H (mergeW kvs more) (mergeK vs mv)
  | [], _, _, _, h, t => by cases h; exact t
  | (k, w) :: _, _, _, _, ⟨v, r, h1, h2, h3⟩, t => by
    subst h1
    show RFs K z H (mergeW (putW _ k w) _) (mergeK (putK _ k v) r)
    exact mergeW_rel h3 (putW_rel h2 t)
def eDict (fs : List (Str × DE)) : DE := fun r m => (pairsD fs r m).bind fun kws m1 => if kws.length ≤ 15 then .ok (.ref m1.length) (m1 ++ [.dct (mergeW [] kws)]) else .bad
theorem se_dict {keys : List (Option Expr)} {values : List Expr} {fs : List (Str × DE)} (h : PPs X pos keys values (fs.map fun kf => (tC (.str kf.1), tE (gx X cl Wx) kf.2))) (hall : keys.all (·.isSome) = true := by rfl) (hl : keys.length = values.length := by rfl) (h0 : keys ≠ [] := by intro h; cases h)
    (h15 : keys.length ≤ 15 := by decide) : PE X (.Dict keys values pos) (tE (gx X cl Wx) (eDict fs)) :=
  (pe_disp h hall hl h0 h15).imp fun s H Q ⟨r, m, z, R, P⟩ p hp => by
    have hs := upd_same_of (o := .dK []) hp
    have R1 := R.same hs
    have E1 := R.mem.extS hs
    have nz := R.mem.z_ne hp
    have nh := R.mem.h_ne hp
    have np := R.mem.p_ne hp
    obtain ⟨M2, E2⟩ := R1.mem.hold (p := p) upd_same nz np
    have R2 := R1.after E2 M2
    unfold eDict at P
    refine pairs_of (g := gx X cl Wx) R2 ?_
    cases q : pairsD fs r m with
    | ok kws m1 =>
      rw [q] at P
      intro z3 ps H3 E3 R3 ⟨vs, a1, a2⟩
      have hh : z3.hold p := (E3.hs p (.inl rfl)).1
      have hp3 : H3 p = some (.dK []) := (E3.hs p (.inl rfl)).2.trans upd_same
      simp only [Dn.R.bind] at P
      split at P
      · rename_i c
        refine ⟨hp3, vs, a2, by rw [a1.length]; exact c, ?_⟩
        obtain ⟨M4, e4, n4, p4⟩ := R3.mem.unhold (o' := .dK (mergeK [] vs)) hh hp3
        have e14 : Ext z H (z3.un p) (upd H3 p (.dK (mergeK [] vs))) := by
          have e3 : Ext z H z3 H3 := (E1.trans E2).trans E3
          refine ⟨e3.e0.trans e4, fun b hb => ?_⟩
          have hne : b ≠ p := fun q => nh (q ▸ hb)
          exact ⟨⟨hne, (e3.hs b hb).1⟩, by rw [upd_ne hne]; exact (e3.hs b hb).2⟩
        have e5 : Ext (z3.un p) (upd H3 p (.dK (mergeK [] vs))) ((z3.un p).lay p) (upd H3 p (.dK (mergeK [] vs))) := ⟨⟨fun _ _ h => h, fun _ _ _ h => h, fun _ h => ⟨h, rfl⟩, fun n a h => by
          have hl := (List.getElem?_eq_some_iff.mp h).1
          show (z3.phi ++ [p])[n]? = some a
          rw [List.getElem?_append_left hl]
          exact h⟩, fun _ h => ⟨h, rfl⟩⟩
        obtain ⟨e6, M6⟩ := M4.lay (p := p) (c := .dct (mergeW [] kws)) n4 p4 ⟨fun q => q.1 rfl, _, upd_same, (mergeW_rel (kvs := []) (vs := []) (a1.ext0 e4) rfl).ext e5⟩
        refine P _ _ _ (e14.trans e5) ((R.after e14 M4).after e5 M6) ⟨p, ?_, rfl⟩
        show (z3.phi ++ [p])[m1.length]? = some p
        have hlen : z3.phi.length = m1.length := R3.mem.len
        rw [← hlen]
        simp
      · exact P.elim
    | exc x m1 => rw [q] at P; exact fun z' H' c d e R q => P z' H' c d ((E1.trans E2).trans e) R q
    | bad => rw [q] at P; exact P

/-! ### chains, is None -/
def eChain (o1 o2 : Mem → W → W → Option W) (fa fb fc : DE) : DE := fun r m => (fa r m).bind fun a m1 => (fb r m1).bind fun b m2 => match o1 m2 a b with
  | some (.bl true) => (fc r m2).bind fun c m3 => match o2 m3 b c with
    | some w => .ok w m3
    | none => .bad
  | some (.bl false) => .ok (.bl false) m2
  | _ => .bad
/-- an operator that changes nothing and tells a bool -/
def OpB (K : PySem.W.Frag) (cl : Nat → Addr) (o : Mem → W → W → Option W) (r : R2) : Prop := ∀ (z : Zn) (m : Mem) (H : Hp) (a b : W) (x y : V) (k : Bool) (Q : VK), MemOk K cl z m H → RW K z H a x → RW K z H b y → o m a b = some (.bl k) → Q (.bl k) H → r x y H Q
theorem tE_chain {g : Gx} {o1 o2 : Mem → W → W → Option W} {r1 r2 : R2} {fa fb fc : DE} {s : L2.St} {H : Hp} {Q : VK} (h1 : OpB g.K g.cl o1 r1) (h2 : OpW g.K g.cl o2 r2) (h : tE g (eChain o1 o2 fa fb fc) s H Q) : tChain r1 r2 (tE g fa) (tE g fb) (tE g fc) s H Q := by
  obtain ⟨r, m, z, R, P⟩ := h
  refine ⟨r, m, z, R, P.bind fun z1 a m1 x H1 E1 R1 ra P1 => ?_⟩
  refine ⟨r, m1, z1, R1, P1.bind fun z2 b m2 y H2 E2 R2 rb P2 => ?_⟩
  split at P2
  · rename_i q
    refine h1 z2 m2 H2 a b x y true _ R2.mem (RW.ext E2 ra) rb q ⟨true, rfl, ?_⟩
    rw [if_pos rfl]
    refine ⟨r, m2, z2, R2, P2.bind fun z3 c m3 u H3 E3 R3 rc P3 => ?_⟩
    cases q3 : o2 m3 b c with
    | none => rw [q3] at P3; exact P3.elim
    | some w => rw [q3] at P3; exact h2 z3 m3 H3 b c y u w Q R3.mem (RW.ext E3 rb) rc q3 fun z' v H' e M rw' => P3 z' v H' e (R3.after e M) rw'
  · rename_i q
    refine h1 z2 m2 H2 a b x y false _ R2.mem (RW.ext E2 ra) rb q ⟨false, rfl, ?_⟩
    rw [if_neg Bool.false_ne_true]
    exact Post.ret (b := V.bl false) P2 R2 rfl
  · exact P2.elim
theorem se_chain {op op' : CmpOp} {o1 o2 : Mem → W → W → Option W} {r1 r2 : R2} {c : Expr} {fa fb fc : DE} (ho : OpR X (compareOp op) r1) (hw : OpB X.K cl o1 r1) (ho' : OpR X (compareOp op') r2) (hw' : OpW X.K cl o2 r2) (ha : PE X a (tE (gx X cl Wx) fa)) (hb : PE X b (tE (gx X cl Wx) fb)) (hc : PE X c (tE (gx X cl Wx) fc))
    (hm : lastMarks [op, op'] [b, c] = false := by with_unfolding_all rfl) : PE X (.Compare a [op, op'] [b, c] pos) (tE (gx X cl Wx) (eChain o1 o2 fa fb fc)) :=
  (pe_chain ho ho' ha hb hc hm).imp fun s H Q h => tE_chain (g := gx X cl Wx) hw hw' h
theorem st_chain {op op' : CmpOp} {o1 o2 : Mem → W → W → Option W} {r1 r2 : R2} {c : Expr} {fa fb fc : DE} (ho : OpR X (compareOp op) r1) (hw : OpB X.K cl o1 r1) (ho' : OpR X (compareOp op') r2) (hw' : OpW X.K cl o2 r2) (ha : PE X a (tE (gx X cl Wx) fa)) (hb : PE X b (tE (gx X cl Wx) fb)) (hc : PE X c (tE (gx X cl Wx) fc))
    (hm : lastMarks [op, op'] [b, c] = false := by with_unfolding_all rfl) : PT X (.Compare a [op, op'] [b, c] pos) (tT (gx X cl Wx) (dTest (eChain o1 o2 fa fb fc))) :=
  (pt_chain ho ho' ha hb hc hm).imp fun s H Q h => by
    have h' := tT_test h
    unfold tTest at h' ⊢
    exact tE_chain (g := gx X cl Wx) hw hw' h'
theorem opb_int {K : PySem.W.Frag} {f : Int → Int → Bool} {h : Int → Int → Bool} (hf : ∀ i j, f i j = h i j) : OpB K cl (iOp fun i j => some (.bl (f i j))) (rI0 fun i j => .bl (h i j)) := by
  intro z m H a b x y k Q M ra rb e q
  cases a with
  | int i =>
    cases b with
    | int j =>
      simp only [iOp] at e
      cases e
      exact ⟨i, j, ra, rb, by rw [hf] at q; exact q⟩
    | _ => simp [iOp] at e
  | _ => simp [iOp] at e
theorem b_lt {K : PySem.W.Frag} : OpB K cl ltW (rI0 fun i j => .bl (decide (i < j))) := opb_int fun _ _ => rfl
theorem b_le {K : PySem.W.Frag} : OpB K cl leW (rI0 fun i j => .bl (decide (i ≤ j))) := opb_int fun _ _ => rfl
def isNonW (_ : Mem) (a b : W) : Option W := match b with
  | .non => match a with
    | .non => some (.bl true)
    | .raw _ => none
    | _ => some (.bl false)
  | _ => none
def notNonW (_ : Mem) (a b : W) : Option W := match b with
  | .non => match a with
    | .non => some (.bl false)
    | .raw _ => none
    | _ => some (.bl true)
  | _ => none
theorem non_dec {K : PySem.W.Frag} {z : Zn} {H : Hp} {a : W} {x : V} (h : RW K z H a x) (hr : ∀ u, a ≠ .raw u) : decide (x = .non) = (match a with | .non => true | _ => false) := by
  cases a with
  | non => cases h; rfl
  | bl _ => cases h; rfl
  | int _ => cases h; rfl
  | str _ => cases h; rfl
  | tup _ => obtain ⟨_, _, e, _⟩ := h; subst e; rfl
  | lst _ => obtain ⟨_, _, e, _⟩ := h; subst e; rfl
  | old _ => obtain ⟨_, _, e, _⟩ := h; subst e; rfl
  | ref _ => obtain ⟨_, _, e⟩ := h; subst e; rfl
  | raw u => exact absurd rfl (hr u)
theorem w_isNon {K : PySem.W.Frag} : OpW K cl isNonW (fun x y H Q => y = .non ∧ Q (.bl (decide (x = .non))) H) := by
  intro z m H a b x y w Q M ra rb e k
  cases b with
  | non =>
    refine ⟨rb, ?_⟩
    have hr : ∀ u, a ≠ .raw u := fun u q => by subst q; simp [isNonW] at e
    rw [non_dec ra hr]
    cases a <;> first | (simp only [isNonW] at e; cases e; exact k z _ H (Ext.refl _ _) M rfl) | simp [isNonW] at e
  | _ => simp [isNonW] at e
theorem w_notNon {K : PySem.W.Frag} : OpW K cl notNonW (fun x y H Q => y = .non ∧ Q (.bl (!decide (x = .non))) H) := by
  intro z m H a b x y w Q M ra rb e k
  cases b with
  | non =>
    refine ⟨rb, ?_⟩
    have hr : ∀ u, a ≠ .raw u := fun u q => by subst q; simp [notNonW] at e
    rw [non_dec ra hr]
    cases a <;> first | (simp only [notNonW] at e; cases e; exact k z _ H (Ext.refl _ _) M rfl) | simp [notNonW] at e
  | _ => simp [notNonW] at e

/-! ### while, by fuel -/
def whileL (c : DT) (body : DS) : Nat → Rho → Mem → RS
  | 0, _, _ => .bad
  | n + 1, r, m => (c r m).thenS r fun k m1 => if k = true then match body r m1 with
      | .next r2 m2 => whileL c body n r2 m2
      | .cont r2 m2 => whileL c body n r2 m2
      | .brk r2 m2 => .next r2 m2
      | q => q
    else .next r m1
def sWhile (n : Nat) (c : DT) (body : DS) : DS := fun r m => whileL c body n r m
theorem ss_while {c : Expr} {body : List Stmt} {fc : DT} {fb : DS} (n : Nat) (hp : PassesOwn (model X.prog X.w) X.A X.env X.xe) (hc : PT X c (tT (gx X cl Wx) fc)) (hb : PSs X body (tS (gx X cl Wx) fb)) : PS X (.While c body [] pos) (tS (gx X cl Wx) (sWhile n fc fb)) :=
  (ps_while hp hc hb).imp fun D s H ⟨r, m, z, R, P⟩ => by
    refine ⟨fun k s' H' => ∃ r' m' z', Rel X.K cl z' r' m' s' H' ∧ PostS (gx X cl Wx) z' H' (whileL fc fb k r' m') D, ⟨n, r, m, z, R, P⟩, ?_⟩
    rintro k s2 H2 ⟨r2, m2, z2, R2, P2⟩
    cases k with
    | zero => exact P2.elim
    | succ k =>
      refine ⟨r2, m2, z2, R2, P2.bind (rel := relB) fun z3 b m3 b' H3 E3 R3 rb P3 => ?_⟩
      have rb : b = b' := rb
      subst rb
      cases b with
      | false => rw [if_neg Bool.false_ne_true] at P3 ⊢; exact P3.next R3
      | true =>
        rw [if_pos rfl] at P3 ⊢
        refine ⟨fun s' H' => ∃ r' m' z', Rel X.K cl z' r' m' s' H' ∧ PostS (gx X cl Wx) z' H' (whileL fc fb k r' m') D, fun s' H' h => ⟨k, Nat.lt_succ_self k, h⟩, r2, m3, z3, R3, ?_⟩
        cases q5 : fb r2 m3 with
        | next r5 m5 => rw [q5] at P3; exact fun z' s' H' e5 R5 => ⟨r5, m5, z', R5, PostS.mono e5 P3⟩
        | cont r5 m5 => rw [q5] at P3; exact fun z' s' H' e5 R5 => ⟨r5, m5, z', R5, PostS.mono e5 P3⟩
        | brk r5 m5 => rw [q5] at P3; exact P3
        | ret u m5 => rw [q5] at P3; exact P3
        | exc x r5 m5 => rw [q5] at P3; exact P3
        | bad => rw [q5] at P3; exact P3
end
end Dn

/-! D8: enumerate of tuples and lists, zip, comprehensions with two clauses. -/
namespace Dn
open PySem PySem.Spec PyProof.Rows L2
open PySem.Sem (wp)
open PySem.AutoSeq1 (wpAny_loadPart')
/-! ### enumerate(a tuple) -/
theorem meets_enumerate_newT (l : Addr) (items : Array Value) (n : Nat) (dct : Option Addr) (sl : Array (Option Value)) :
    Meets (Builtin.«enumerate.__new__» ⟨[.type "enumerate", .ref l], []⟩) (fun _ R s => s.heap.get? l = some { cls := .type "tuple", dict := dct, data := .seq items n, slots := sl } ∧
      R (.ok (.ret (.ref (s.heap.push { cls := .type "tuple_iterator", data := .fields #[.ref l, .int 0 0] }).objs.size)))
        { s with heap := (s.heap.push { cls := .type "tuple_iterator", data := .fields #[.ref l, .int 0 0] }).push { cls := .type "enumerate", data := .fields #[.none, .bool false, .ref s.heap.objs.size, rawInt 0, .none, .none] } }) :=
  .of_wp fun prog w A R s h => by
    obtain ⟨hp, g, d, tk, os⟩ := s; obtain ⟨hl, h⟩ := h
    have hsub := sub_enumerate
    have hL : Heap.IsTuple (Shared.heap ⟨hp, g, d, tk, os⟩) l items := ⟨_, hl, rfl, n, rfl⟩
    wp_walk using wpAny_loadPart' hl
    refine wpAny_stack_any fun st => wpAny_pure ?_
    split
    · rename_i c _ _ _ _ _
      cases (c == Value.type "enumerate")
      · wp_walk using wpAny_loadPart' hl, wpAny_pyIter_tuple hL
        exact ⟨_, rfl, h⟩
      · wp_walk using wpAny_loadPart' hl, wpAny_pyIter_tuple hL
        exact ⟨_, rfl, h⟩
    · wp_walk using wpAny_loadPart' hl, wpAny_pyIter_tuple hL
      exact ⟨_, rfl, h⟩
section
variable {prog : Program} {w : World} {A : Around} {E : Value → Shared → Prop} {s : Shared}
theorem call_enumerate_tuple {l : Addr} {items : Array Value} {Q : Value → Shared → Prop} (hL : s.heap.IsTuple l items)
    (h : ∀ h', IsEnum h' (s.heap.objs.size + 1) s.heap.objs.size 0 .none → h'.IsTupleIter s.heap.objs.size l 0 → h'.objs.size = s.heap.objs.size + 2 →
      (∀ b o, s.heap.get? b = some o → h'.get? b = some o) → Q (.ref (s.heap.objs.size + 1)) { s with heap := h' }) :
    wpAny (model prog w) A (call (.type "enumerate") [.ref l]) Q E s := by
  obtain ⟨⟨c, dct, dt, sl⟩, hl, hc, n, hd⟩ := hL
  replace hc : c = .type "tuple" := hc
  replace hd : dt = .seq items n := hd
  subst hc hd
  refine callType_new F.called_enumerate (by decide) (F.typeCall_enumerate_1 _) (F.newCall_enumerate_1 _) (fun obj => F.args_object_init_2 obj _) F.entry_enumerate_new
    (meets_enumerate_newT l items n dct sl) ⟨hl, ?_⟩
  have hz : (s.heap.push { cls := .type "tuple_iterator", data := .fields #[.ref l, .int 0 0] }).objs.size = s.heap.objs.size + 1 := Heap.size_push ..
  show _ ∧ _
  rw [hz]
  have he : IsEnum ((s.heap.push { cls := .type "tuple_iterator", data := .fields #[.ref l, .int 0 0] }).push
      { cls := .type "enumerate", data := .fields #[.none, .bool false, .ref s.heap.objs.size, rawInt 0, .none, .none] }) (s.heap.objs.size + 1) s.heap.objs.size 0 .none := by
    have := Heap.get?_push_size (s.heap.push { cls := .type "tuple_iterator", data := .fields #[.ref l, .int 0 0] })
      (o := { cls := .type "enumerate", data := .fields #[.none, .bool false, .ref s.heap.objs.size, rawInt 0, .none, .none] }) rfl
    rw [hz] at this; exact this
  refine ⟨⟨_, he, rfl⟩, h _ he ⟨_, Heap.get?_push_of_some _ (Heap.get?_push_size _ rfl), rfl, rfl⟩ (by rw [Heap.size_push, hz]) fun b o x => Heap.get?_push_of_some _ (Heap.get?_push_of_some _ x)⟩
end
/-- the tuple at a, each item in a new pair -/
def IteT (K : PySem.W.Frag) (a : Addr) : It :=
  ⟨fun i H => ∃ (xs : List V) (x : V), SqT K H a xs ∧ xs[i]? = some x, fun i H v H' => ∃ T x, v = .ref T ∧ H T = none ∧ H' = upd H T (.tup [.int (i : Nat), x]) ∧ ∀ xs, SqT K H a xs → xs[i]? = some x, fun i H => ∃ xs : List V, SqT K H a xs ∧ xs.length = i⟩
theorem turn_enumT {P : Program} {w : World} {K : PySem.W.Frag} {elts : List Expr} {kk : Nat} {tpos : Pos} (a e it : Addr) (hai : a ≠ it) (hae : a ≠ e) :
    Turn P w K (.Tuple elts kk tpos) (IteT K a) [e, it] e (fun i h => (∃ old, IsEnum h e it ((i : Nat) : Int) old) ∧ h.IsTupleIter it a i ∧ e ≠ it) where
  mem := by simp
  obj := fun i h st b hb => by
    obtain ⟨⟨old, he⟩, ⟨o, ho, hc, hd⟩, _⟩ := st
    have e' : b = e ∨ b = it := by simpa using hb
    rcases e' with z | z
    · rw [z]; exact ⟨_, he, fun v q => nomatch q⟩
    · rw [z]; exact ⟨o, ho, fun v q => by rw [hd] at q; cases q⟩
  keep := fun i h h' st k => let ⟨⟨old, he⟩, hi, hne⟩ := st; ⟨⟨old, k e (by simp) _ he⟩, hi.at fun o q => k it (by simp) o q, hne⟩
  item := by
    intro X hP hw hK hc i pins s σ H E I hf st hg
    subst hP hw hK
    obtain ⟨⟨old, he⟩, hit, hne⟩ := st
    obtain ⟨xs, x, hq, hx⟩ := hg
    obtain ⟨its, rv, p, hz⟩ := I.tuple hq
    obtain ⟨u, hu, ru⟩ := rv.get hx
    have hel : e < s.heap.objs.size := Heap.lt_size he
    have hil : it < s.heap.objs.size := by obtain ⟨_, q, _⟩ := hit; exact Heap.lt_size q
    have hlt : i < its.toArray.size := by
      rw [List.size_toArray]
      exact (List.getElem?_eq_some_iff.mp hu).1
    refine wpAny_pyNext_enum_itemD (Draws.tuple (A := X.A.in1) (I.ok.hd hc) it a hai its.toArray) he ⟨hit, p⟩ hlt hne (by simp; exact ⟨hne, fun q => hae q.symm⟩) fun y h' tk hy ho hit' hT hsz hk => ?_
    have hy : y = u := by
      have h1 : its.toArray[i]? = some y := hy
      have h2 : its.toArray[i]? = some u := by simpa using hu
      rw [h2] at h1
      exact (Option.some.inj h1).symm
    subst hy
    refine ⟨_, rfl, wpAny_letOwnedTupleGo_enum (s := { s with heap := h', toks := tk + 1 }) ho fun h'' he' sb => ?_⟩
    have hT2 : h''.get? s.heap.objs.size = some { cls := .type "tuple", data := .seq #[.int i tk, y] } := (sb.2 _ (Nat.ne_of_gt hel)).trans hT
    have new : ObjOk X.prog X.w (upd H s.heap.objs.size (.tup [.int (i : Nat), x])) h'' s.heap.objs.size (.tup [.int (i : Nat), x]) :=
      ⟨by show 2 ≤ sizeLine; decide, [.int i tk, y], .cons ⟨_, rfl⟩ (.cons ru .nil), ⟨_, hT2, rfl, _, rfl⟩⟩
    have I1 : Inv X pins σ (upd H s.heap.objs.size (.tup [.int (i : Nat), x])) { s with heap := h'', toks := tk + 1 } :=
      I.turnedNew (ch := [e, it]) (fun b ob hb q => (sb.2 b (fun z => hb (by simp [z]))).trans (hk b ob (fun z => hb (by simp [z])) (fun z => hb (by simp [z])) q)) hf (Nat.le_refl _) new
    refine ⟨.ref s.heap.objs.size, _, I1, rfl, ⟨_, x, rfl, I.hok.fresh (Nat.le_refl _), rfl, fun ys hy => by rw [I.tuple_inj hy hq]; exact hx⟩, ⟨⟨y, ?_⟩, hit'.1.at fun o q => (sb.2 it (Ne.symm hne)).trans q, hne⟩, fun b hb => ?_⟩
    · have e1 : ((i + 1 : Nat) : Int) = (i : Int) + 1 := by omega
      rw [e1]; exact he'
    · have hb' : b < s.heap.objs.size := by
        have e' : b = e ∨ b = it := by simpa using hb
        rcases e' with z | z
        · rw [z]; exact hel
        · rw [z]; exact hil
      rw [upd_ne (Nat.ne_of_lt hb')]
      exact (hf b hb).1
  done := by
    intro X hP hw hK hc i pins s σ H E I hf st hg
    subst hP hw hK
    obtain ⟨⟨old, he⟩, hit, hne⟩ := st
    obtain ⟨xs, hq, hx⟩ := hg
    obtain ⟨its, rv, p, hz⟩ := I.tuple hq
    obtain ⟨f0, f1, f2, f3, f4, f5⟩ := hf it (by simp)
    have hl := rv.length
    have hs : its.toArray.size = i := by rw [List.size_toArray]; omega
    exact wpAny_pyNext_enum_endD (Draws.tuple (A := X.A.in1) (I.ok.hd hc) it a hai its.toArray) he (by rw [hs]; exact ⟨hit, p⟩) fun h' eb => ⟨rfl, I.turned (t' := s.toks) (fun b o hb q => eb b o hb q) f0 f1 f3 f4 f5⟩
  self := fun A i s Q E st h => let ⟨⟨_, he⟩, _⟩ := st; wpAny_pyIter_enum he h
def iEnumT (K : PySem.W.Frag) (ta : TA) : TI := fun σ H R => ta σ H fun vs H1 => ∃ a xs, vs = [.ref a] ∧ SqT K H1 a xs ∧ R (IteT K a) H1
theorem pi_enumT {X : Cx} {e : Expr} {ta : TA} {p pos tpos : Pos} {elts : List Expr} {kk : Nat} (hg : Gl X "enumerate") (hm : X.mg "enumerate" = none) (ha : PA X [e] ta) (hs : starEach [e] X.env = [(false, eval e X.env)] := by rfl) :
    PI X (.Tuple elts kk tpos) (.Call (.Name "enumerate" p) [e] [] pos) (iEnumT X.K ta) := by
  refine ⟨fun pins s σ H R I h => ?_⟩
  refine Call_ (ld_blt I hg hm boot_enumerate (PyProof.Rows.callWith_type1 (thn (ha.run pos pins s σ H _ I h) fun us s1 ⟨vs, H1, I1, r1, q1⟩ => ?_) hs rfl))
  obtain ⟨a, xs, ex, hq, q⟩ := q1
  subst ex
  cases r1 with
  | cons r rr =>
    cases rr
    cases r
    obtain ⟨its, rv, p', hz⟩ := I1.tuple hq
    have hlt : a < s1.heap.objs.size := p'.lt
    refine call_enumerate_tuple p' fun h' he hit hsz hk => wpAny_pyIter_enum he ?_
    have I2 : Inv X pins σ H1 { s1 with heap := h' } := I1.kept (t' := s1.toks) hk
    refine ⟨s1.heap.objs.size + 1, [s1.heap.objs.size + 1, s1.heap.objs.size], _, _, H1, rfl, I2, turn_enumT a (s1.heap.objs.size + 1) s1.heap.objs.size (Nat.ne_of_lt hlt) (Nat.ne_of_lt (Nat.lt_succ_of_lt hlt)), ⟨⟨.none, he⟩, hit, Nat.succ_ne_self _⟩, fun b hb => ?_, q⟩
    have e' : b = s1.heap.objs.size + 1 ∨ b = s1.heap.objs.size := by simpa using hb
    have hle : s1.heap.objs.size ≤ b := by
      rcases e' with z | z
      · rw [z]; exact Nat.le_add_right _ _
      · rw [z]; exact Nat.le_refl _
    exact I1.fpOk hle (I1.hok.fresh hle)

section
variable {X : Cx} {cl : Nat → Addr} {Wx : WX} {e a b : Expr} {pos : Pos}
/-- enumerate(e) -/
def numbered (i : Nat) : List W → List W
  | [] => []
  | w :: ws => .tup [.int (i : Nat), w] :: numbered (i + 1) ws
theorem numbered_len : ∀ (i : Nat) (ws : List W), (numbered i ws).length = ws.length
  | _, [] => rfl
  | i, _ :: ws => by rw [numbered, List.length_cons, List.length_cons, numbered_len]
theorem numbered_get : ∀ (j i : Nat) (ws : List W) (w : W), (numbered j ws)[i]? = some w → ∃ u, ws[i]? = some u ∧ w = .tup [.int ((j + i : Nat) : Int), u]
  | _, _, [], _, h => by simp [numbered] at h
  | j, 0, u :: ws, w, h => by simp [numbered] at h; exact ⟨u, rfl, by simpa using h.symm⟩
  | j, i + 1, u :: ws, w, h => by
    rw [numbered, List.getElem?_cons_succ] at h
    obtain ⟨v, h1, h2⟩ := numbered_get (j + 1) i ws w h
    exact ⟨v, by simpa using h1, by rw [h2]; congr 3; omega⟩
def iEnumW (f : DE) : DA := fun r m => (f r m).bind fun w m1 => match w with
  | .tup xs => .ok (numbered 0 xs) m1
  | .lst xs => .ok (numbered 0 xs) m1
  | .old xs => .ok (numbered 0 xs) m1
  | _ => .bad
theorem walks_eT {K : PySem.W.Frag} {z : Zn} {H : Hp} {ws : List W} {vs : List V} {p : Addr} (hl : vs.length ≤ sizeLine) (h : SqT K H p vs) (q : RWs K z H ws vs) : Walks K z H (numbered 0 ws) (IteT K p) := ⟨by rw [numbered_len, ← q.length]; exact hl, fun z2 H2 e i => by
  have h2 := e.sqT h
  have q2 := RWs.ext0 e q
  rw [numbered_len]
  refine ⟨fun hi => ⟨vs, h2, by rw [q.length]; exact hi.symm⟩, fun w hw => ?_⟩
  obtain ⟨u, e1, e2⟩ := numbered_get 0 i ws w hw
  obtain ⟨v, e3, e4⟩ := q2.get e1
  refine ⟨⟨vs, v, h2, e3⟩, fun x H3 y => ?_⟩
  obtain ⟨T, x', y1, y2, y3, y4⟩ := y
  subst y1 y3
  have hv := y4 vs h2
  rw [e3] at hv
  cases hv
  refine ⟨upd_same_of y2, fun z3 e5 => ?_⟩
  rw [e2]
  refine ⟨T, _, rfl, SqT.of upd_same, ⟨_, _, rfl, ?_, _, _, rfl, e4.ext0 e5, rfl⟩⟩
  show V.int _ = V.int _
  congr 1
  omega⟩
theorem walks_eL {K : PySem.W.Frag} {z : Zn} {H : Hp} {ws : List W} {vs : List V} {p : Addr} (hl : vs.length ≤ sizeLine) (h : ∀ z2 H2, Ext0 z H z2 H2 → SqL K H2 p vs) (q : RWs K z H ws vs) : Walks K z H (numbered 0 ws) (Ite K p) := ⟨by rw [numbered_len, ← q.length]; exact hl, fun z2 H2 e i => by
  have h2 := h z2 H2 e
  have q2 := RWs.ext0 e q
  rw [numbered_len]
  refine ⟨fun hi => ⟨vs, h2, by rw [q.length]; exact Nat.le_of_eq hi.symm⟩, fun w hw => ?_⟩
  obtain ⟨u, e1, e2⟩ := numbered_get 0 i ws w hw
  obtain ⟨v, e3, e4⟩ := q2.get e1
  refine ⟨⟨vs, v, h2, e3⟩, fun x H3 y => ?_⟩
  obtain ⟨T, x', y1, y2, y3, y4⟩ := y
  subst y1 y3
  have hv := y4 vs h2
  rw [e3] at hv
  cases hv
  refine ⟨upd_same_of y2, fun z3 e5 => ?_⟩
  rw [e2]
  refine ⟨T, _, rfl, SqT.of upd_same, ⟨_, _, rfl, ?_, _, _, rfl, e4.ext0 e5, rfl⟩⟩
  show V.int _ = V.int _
  congr 1
  omega⟩
theorem si_enum {elts : List Expr} {kk : Nat} {tpos p : Pos} {f : DE} (hm : X.mg "enumerate" = none) (h : PE X e (tE (gx X cl Wx) f)) (hg : Gl X "enumerate" := by rfl) (hs : starEach [e] X.env = (false, eval e X.env) :: starEach [] X.env := by rfl) :
    PI X (.Tuple elts kk tpos) (.Call (.Name "enumerate" p) [e] [] pos) (tI (gx X cl Wx) (iEnumW f)) := by
  have hs' : starEach [e] X.env = [(false, eval e X.env)] := hs
  refine ⟨fun pins sh s H Rr I h0 => ?_⟩
  obtain ⟨r, m, z, R, P⟩ := h0
  cases q : f r m with
  | ok w m1 =>
    unfold iEnumW at P
    rw [q] at P
    cases w with
    | tup ws =>
      refine (pi_inv (pi_enumT hg hm (pa_cons h pa_nil hs) hs')).run pins sh s H Rr I ⟨r, m, z, R, ?_⟩
      rw [q]
      intro z' b H' e1 R1 ⟨p, vs, a1, a2, a3⟩
      exact ⟨p, vs, by rw [a1], a2, fun ⟨_, _, I1⟩ => P z' _ H' e1 R1 (walks_eT (let ⟨_, _, _, hz⟩ := I1.tuple a2; hz) a2 a3)⟩
    | lst ws =>
      refine (pi_inv (pi_enum hg hm (pa_cons h pa_nil hs) hs')).run pins sh s H Rr I ⟨r, m, z, R, ?_⟩
      rw [q]
      intro z' b H' e1 R1 ⟨p, vs, a1, a2, a3⟩
      exact ⟨p, vs, by rw [a1], SqL.of a2.2, fun ⟨_, _, I1⟩ => P z' _ H' e1 R1 (walks_eL (let ⟨_, _, _, hz⟩ := I1.list (SqL.of a2.2); hz) (fun z2 H2 e2 => SqL.of ((e2.zs p a2.1).2.trans a2.2)) a3)⟩
    | old ws =>
      refine (pi_inv (pi_enum hg hm (pa_cons h pa_nil hs) hs')).run pins sh s H Rr I ⟨r, m, z, R, ?_⟩
      rw [q]
      intro z' b H' e1 R1 ⟨p, vs, a1, a2, a3⟩
      exact ⟨p, vs, by rw [a1], a2.sq, fun ⟨_, _, I1⟩ => P z' _ H' e1 R1 (walks_eL (let ⟨_, _, _, hz⟩ := I1.list a2.sq; hz) (fun z2 H2 e2 => (e2.oldL a2).sq) a3)⟩
    | _ => exact P.elim
  | exc x m1 =>
    unfold iEnumW at P
    rw [q] at P
    refine (pi_enumT hg hm (pa_cons h pa_nil hs) hs').run pins sh s H Rr I ⟨r, m, z, R, ?_⟩
    rw [q]
    exact P
  | bad =>
    unfold iEnumW at P
    rw [q] at P
    exact P.elim
/-- zip(a, b), two tuples or two settled lists -/
def pairsW : List W → List W → List W
  | x :: xs, y :: ys => .tup [x, y] :: pairsW xs ys
  | _, _ => []
theorem pairsW_get : ∀ (xs ys : List W) (i : Nat) (w : W), (pairsW xs ys)[i]? = some w → ∃ u v, xs[i]? = some u ∧ ys[i]? = some v ∧ w = .tup [u, v]
  | [], _, _, _, h => by simp [pairsW] at h
  | _ :: _, [], _, _, h => by simp [pairsW] at h
  | x :: xs, y :: ys, 0, w, h => by simp [pairsW] at h; exact ⟨x, y, rfl, rfl, h.symm⟩
  | x :: xs, y :: ys, i + 1, w, h => by
    rw [pairsW, List.getElem?_cons_succ] at h
    obtain ⟨u, v, h1, h2, h3⟩ := pairsW_get xs ys i w h
    exact ⟨u, v, by simpa using h1, by simpa using h2, h3⟩
theorem pairsW_len : ∀ (xs ys : List W), (pairsW xs ys).length = min xs.length ys.length
  | [], _ => by simp [pairsW]
  | _ :: _, [] => by simp [pairsW]
  | _ :: xs, _ :: ys => by rw [pairsW, List.length_cons, pairsW_len, List.length_cons, List.length_cons]; omega
def iZipW (fa fb : DE) : DA := fun r m => (fa r m).bind fun u m1 => (fb r m1).bind fun v m2 => match u, v with
  | .tup xs, .tup ys => .ok (pairsW xs ys) m2
  | .lst xs, .lst ys => .ok (pairsW xs ys) m2
  | _, _ => .bad
theorem si_zip {elts : List Expr} {kk : Nat} {tpos p : Pos} {fa fb : DE} (hm : X.mg "zip" = none) (ha : PE X a (tE (gx X cl Wx) fa)) (hb : PE X b (tE (gx X cl Wx) fb)) (hg : Gl X "zip" := by rfl) (hs : starEach [a, b] X.env = (false, eval a X.env) :: starEach [b] X.env := by rfl) (hs2 : starEach [b] X.env = (false, eval b X.env) :: starEach [] X.env := by rfl) (hpl : (backTo pos (starEach [b] X.env)).any (·.1) = false := by rfl) :
    PI X (.Tuple elts kk tpos) (.Call (.Name "zip" p) [a, b] [] pos) (tI (gx X cl Wx) (iZipW fa fb)) :=
  (pi_inv (RZ.pi_zipA hg hm (pa_cons ha (pa_cons hb pa_nil hs2) hs) hs hpl)).imp fun s H Rr ⟨r, m, z, R, P⟩ => by
    refine ⟨r, m, z, R, P.bind fun z1 u m1 x H1 E1 R1 r1 P1 => ?_⟩
    refine ⟨r, m1, z1, R1, P1.bind fun z2 v m2 y H2 E2 R2 r2 P2 => ?_⟩
    replace r1 := RW.ext E2 r1
    split at P2
    · rename_i xs ys
      obtain ⟨p, vs, a1, a2, a3⟩ := r1
      obtain ⟨p2, us, b1, b2, b3⟩ := r2
      refine ⟨p, p2, vs, us, by rw [a1, b1], .inr ⟨a2, b2, fun ⟨_, _, I1⟩ => P2 z2 _ H2 (Ext.refl _ _) R2 ⟨?_, fun z3 H3 e3 i => ?_⟩⟩⟩
      · obtain ⟨_, _, _, hz⟩ := I1.tuple a2
        rw [pairsW_len, ← a3.length]
        exact Nat.le_trans (Nat.min_le_left _ _) hz
      · have h3 := e3.sqT a2
        have h4 := e3.sqT b2
        refine ⟨fun hi => ⟨vs, us, h3, h4, ?_⟩, fun w hw => ?_⟩
        · rw [pairsW_len, ← a3.length, ← b3.length] at hi
          omega
        · obtain ⟨u1, u2, g1, g2, g3⟩ := pairsW_get xs ys i w hw
          obtain ⟨w1, k1, k2⟩ := (RWs.ext0 e3 a3).get g1
          obtain ⟨w2, k3, k4⟩ := (RWs.ext0 e3 b3).get g2
          refine ⟨⟨vs, us, w1, w2, h3, h4, k1, k3⟩, fun x' H4 y' => ?_⟩
          obtain ⟨T, x1, x2, y1, y2, y3, y4, y5⟩ := y'
          subst y1 y3
          have q1 := y4 vs h3
          have q2 := y5 us h4
          rw [k1] at q1
          rw [k3] at q2
          cases q1
          cases q2
          refine ⟨upd_same_of y2, fun z4 e5 => ?_⟩
          rw [g3]
          exact ⟨T, _, rfl, SqT.of upd_same, ⟨_, _, rfl, k2.ext0 e5, _, _, rfl, k4.ext0 e5, rfl⟩⟩
    · rename_i xs ys
      obtain ⟨p, vs, a1, a2, a3⟩ := r1
      obtain ⟨p2, us, b1, b2, b3⟩ := r2
      refine ⟨p, p2, vs, us, by rw [a1, b1], .inl ⟨SqL.of a2.2, SqL.of b2.2, fun ⟨_, _, I1⟩ => P2 z2 _ H2 (Ext.refl _ _) R2 ⟨?_, fun z3 H3 e3 i => ?_⟩⟩⟩
      · obtain ⟨_, _, _, hz⟩ := I1.list (SqL.of a2.2)
        rw [pairsW_len, ← a3.length]
        exact Nat.le_trans (Nat.min_le_left _ _) hz
      · have h3 : SqL X.K H3 p vs := SqL.of ((e3.zs p a2.1).2.trans a2.2)
        have h4 : SqL X.K H3 p2 us := SqL.of ((e3.zs p2 b2.1).2.trans b2.2)
        refine ⟨fun hi => ⟨vs, us, h3, h4, ?_⟩, fun w hw => ?_⟩
        · rw [pairsW_len, ← a3.length, ← b3.length] at hi
          omega
        · obtain ⟨u1, u2, g1, g2, g3⟩ := pairsW_get xs ys i w hw
          obtain ⟨w1, k1, k2⟩ := (RWs.ext0 e3 a3).get g1
          obtain ⟨w2, k3, k4⟩ := (RWs.ext0 e3 b3).get g2
          refine ⟨⟨vs, us, w1, w2, h3, h4, k1, k3⟩, fun x' H4 y' => ?_⟩
          obtain ⟨T, x1, x2, y1, y2, y3, y4, y5⟩ := y'
          subst y1 y3
          have q1 := y4 vs h3
          have q2 := y5 us h4
          rw [k1] at q1
          rw [k3] at q2
          cases q1
          cases q2
          refine ⟨upd_same_of y2, fun z4 e5 => ?_⟩
          rw [g3]
          exact ⟨T, _, rfl, SqT.of upd_same, ⟨_, _, rfl, k2.ext0 e5, _, _, rfl, k4.ext0 e5, rfl⟩⟩
    · exact P2.elim
end
end Dn

/-! D9: list comprehensions with two clauses. -/
namespace Dn
open PySem PySem.Spec PyProof.Rows L2
def chkL (xs : List W) (m : Mem) : R (List W) := if xs.length ≤ 16777216 then .ok xs m else .bad
def compL2 (t : DG) (c : DT) (src1 : DA) (t1 : DG) (c1 : DT) (f : DE) (vs vs1 : List Nat) : List W → Rho → Mem → R (List W)
  | [], _, m => .ok [] m
  | w :: ws, r, m => match t w (wipeR r vs) with
    | none => .bad
    | some r1 => match c r1 m with
      | .ok true m1 => match src1 r1 m1 with
        | .ok us m2 => (compL t1 c1 f vs1 us r1 m2).bind fun ys m3 => (compL2 t c src1 t1 c1 f vs vs1 ws r m3).bind fun zs m4 => .ok (ys ++ zs) m4
        | _ => .bad
      | .ok false m1 => compL2 t c src1 t1 c1 f vs vs1 ws r m1
      | _ => .bad
def aComp2 (src : DA) (t : DG) (c : DT) (src1 : DA) (t1 : DG) (c1 : DT) (f : DE) (vs vs1 : List Nat) : DA := fun r m => (src r m).bind fun ws m1 => (compL2 t c src1 t1 c1 f vs vs1 ws r m1).bind chkL
section
variable {t t1 : DG} {c c1 : DT} {src1 : DA} {f : DE} {vs vs1 : List Nat}
theorem compL_calm : ∀ (ws : List W) (r : Rho) (m : Mem), compL t c f vs ws r m = .bad ∨ ∃ ys m', compL t c f vs ws r m = .ok ys m'
  | [], r, m => .inr ⟨[], m, rfl⟩
  | w :: ws, r, m => by
    simp only [compL]
    split
    · exact .inl rfl
    · split
      · split
        · rename_i y m2 _
          rcases compL_calm ws r m2 with h | ⟨ys, m', h⟩
          · rw [h]; exact .inl rfl
          · rw [h]; exact .inr ⟨_, _, rfl⟩
        · exact .inl rfl
      · exact compL_calm ws r _
      · exact .inl rfl
theorem compL2_calm : ∀ (ws : List W) (r : Rho) (m : Mem), compL2 t c src1 t1 c1 f vs vs1 ws r m = .bad ∨ ∃ ys m', compL2 t c src1 t1 c1 f vs vs1 ws r m = .ok ys m'
  | [], r, m => .inr ⟨[], m, rfl⟩
  | w :: ws, r, m => by
    simp only [compL2]
    split
    · exact .inl rfl
    · split
      · split
        · rename_i us m2 _
          rcases compL_calm (t := t1) (c := c1) (f := f) (vs := vs1) us _ m2 with h | ⟨ys, m', h⟩
          · rw [h]; exact .inl rfl
          · rw [h]
            simp only [Dn.R.bind]
            rcases compL2_calm ws r m' with h2 | ⟨zs, m4, h2⟩
            · rw [h2]; exact .inl rfl
            · rw [h2]; exact .inr ⟨_, _, rfl⟩
        · exact .inl rfl
      · exact compL2_calm ws r _
      · exact .inl rfl
end
section
variable {g : Gx} {src : DA} {t t1 : DG} {js js1 vs vs1 : List Nat} {c c1 : DT} {src1 : DA} {f : DE} {s : L2.St} {H : Hp} {Q : VK}
theorem tLc2_of (hj : ∀ i ∈ js, i ∈ vs) (hj1 : ∀ i ∈ js1, i ∈ vs1) (h : tN g (aComp2 src t c src1 t1 c1 f vs vs1) s H Q) :
    tLc2 (tI g src) (tGt g.K g.cl js t) (tT ⟨g.K, g.cl, noW⟩ c) (tI ⟨g.K, g.cl, noW⟩ src1) (tGt g.K g.cl js1 t1) (tT ⟨g.K, g.cl, noW⟩ c1) (tE ⟨g.K, g.cl, noW⟩ f) vs vs1 s H Q := by
  obtain ⟨r, m, z, Rl, P⟩ := h
  refine ⟨r, m, z, Rl, P.bind (rel := Walks g.K) fun z1 ws m1 J H1 E1 R1 r1 P1 D hD => ?_⟩
  have nz := R1.mem.z_ne hD
  have nh := R1.mem.h_ne hD
  have np := R1.mem.p_ne hD
  have hs1 := upd_same_of (o := .lst []) hD
  -- what is left behind i items, as being made so far
  let K2 : Nat → List W → Mem → R (List W) := fun i as m' => (compL2 t c src1 t1 c1 f vs vs1 (ws.drop i) r m').bind fun ys m3 => chkL (as ++ ys) m3
  have K2len : ∀ i as m', K2 i as m' = .bad ∨ ∃ xs m3, K2 i as m' = .ok xs m3 ∧ as.length ≤ 16777216 := fun i as m' => by
    show ((compL2 t c src1 t1 c1 f vs vs1 (ws.drop i) r m').bind fun ys m3 => chkL (as ++ ys) m3) = .bad ∨ ∃ xs m3, ((compL2 t c src1 t1 c1 f vs vs1 (ws.drop i) r m').bind fun ys m3 => chkL (as ++ ys) m3) = .ok xs m3 ∧ as.length ≤ 16777216
    rcases compL2_calm (t := t) (c := c) (src1 := src1) (t1 := t1) (c1 := c1) (f := f) (vs := vs) (vs1 := vs1) (ws.drop i) r m' with q | ⟨ys, m3, q⟩
    · rw [q]; exact .inl rfl
    · rw [q]
      simp only [Dn.R.bind, chkL]
      by_cases hl : (as ++ ys).length ≤ 16777216
      · rw [if_pos hl]
        exact .inr ⟨_, _, rfl, by rw [List.length_append] at hl; omega⟩
      · rw [if_neg hl]; exact .inl rfl
  let Iv : Nat → List W → Hp → Mem → Zn → List V → Prop := fun i as H' m' z' acc => Rel g.K g.cl z' r m' s H' ∧ Ext z1 H1 z' H' ∧ (¬ z'.Z D ∧ ¬ z'.hold D ∧ D ∉ z'.phi) ∧ H' D = some (.lst acc) ∧ RWs g.K z' H' as acc ∧ Post g (relNew g.K) z' H' r s (K2 i as m') Q
  refine ⟨fun i k H' => k = ws.length - i ∧ i ≤ ws.length ∧ ∃ m' z' as acc, Iv i as H' m' z' acc, ⟨ws.length, by simp, Nat.zero_le _, m1, z1, [], [], R1.same hs1, R1.mem.extS hs1, ⟨nz, nh, np⟩, upd_same, rfl, ?_⟩, ?_⟩
  · refine Post.mono (R1.mem.extS hs1) ?_
    have e : K2 0 [] m1 = (compL2 t c src1 t1 c1 f vs vs1 ws r m1).bind chkL := by
      show ((compL2 t c src1 t1 c1 f vs vs1 (ws.drop 0) r m1).bind fun ys m3 => chkL ([] ++ ys) m3) = _
      rw [List.drop_zero]
      cases compL2 t c src1 t1 c1 f vs vs1 ws r m1 <;> rfl
    rw [e]
    exact P1
  · rintro i k H2 ⟨rfl, hi2, m2, z2, as, acc, R2, E2, ⟨y1, y2, y3⟩, hD2, ra, P2⟩
    obtain ⟨hstop, hgo⟩ := r1.2 z2 H2 E2.e0 i
    by_cases hlt : i < ws.length
    · obtain ⟨g1, g2⟩ := hgo ws[i] (List.getElem?_eq_getElem hlt)
      have P2 : Post g (relNew g.K) z2 H2 r s ((compL2 t c src1 t1 c1 f vs vs1 (ws.drop i) r m2).bind fun ys m3 => chkL (as ++ ys) m3) Q := P2
      rw [List.drop_eq_getElem_cons hlt] at P2
      refine .inr ⟨g1, fun H' => ∃ m' z' as acc, Iv (i + 1) as H' m' z' acc, fun H' h => ⟨ws.length - (i + 1), by omega, rfl, hlt, h⟩, fun x H3 y => ?_⟩
      obtain ⟨sm, q3⟩ := g2 x H3 y
      have E3 := R2.mem.extS sm
      have R3 := R2.same sm
      have hD3 : H3 D = some (.lst acc) := sm _ _ hD2
      obtain ⟨M4, E4⟩ := R3.mem.hold hD3 y1 y3
      have R4 : Rel g.K g.cl (z2.hd D) (wipeR r vs) m2 (wipe s vs) H3 := ⟨wipe_ok (R3.slots.ext E4) vs, M4⟩
      refine ⟨ws[i], wipeR r vs, m2, z2.hd D, R4, (q3 z2 E3.e0).ext E4, ?_⟩
      simp only [compL2] at P2
      cases q4 : t ws[i] (wipeR r vs) with
      | none => rw [q4] at P2; exact P2.elim
      | some r4 =>
        rw [q4] at P2
        simp only at P2
        refine fun s4 R4' ag => ⟨wipe_agree ag hj, r4, m2, z2.hd D, R4', ?_⟩
        -- z5 holds D, whose list is whatever it is; all else goes on from z2
        let Go : Zn → Hp → Prop := fun z5 H5 => Ext0 z2 H2 z5 H5 ∧ (∀ a, z2.hold a → z5.hold a ∧ H5 a = H2 a) ∧ z5.hold D
        have go4 : Go (z2.hd D) H3 := ⟨(E3.trans E4).e0, (E3.trans E4).hs, .inl rfl⟩
        have goE : ∀ {z5 z6 : Zn} {H5 H6 : Hp}, Go z5 H5 → Ext z5 H5 z6 H6 → Go z6 H6 := fun {z5 z6 H5 H6} a b => ⟨a.1.trans b.e0, fun d hd => ⟨(b.hs d (a.2.1 d hd).1).1, (b.hs d (a.2.1 d hd).1).2.trans (a.2.1 d hd).2⟩, (b.hs D a.2.2).1⟩
        have hne : ∀ a, z2.hold a → a ≠ D := fun a ha q => by rw [q] at ha; exact y2 ha
        -- D grows while it is held
        have grow : ∀ {z5 : Zn} {H5 : Hp} {m5 : Mem} {r5 : Rho} {s5 : L2.St} {old : List V} (new : List V), Go z5 H5 → H5 D = some (.lst old) → Rel g.K g.cl z5 r5 m5 s5 H5 → Go z5 (upd H5 D (.lst new)) ∧ Ext0 z5 H5 z5 (upd H5 D (.lst new)) ∧ Rel g.K g.cl z5 r5 m5 s5 (upd H5 D (.lst new)) := by
          intro z5 H5 m5 r5 s5 old new go5 h5 R5
          obtain ⟨M6, e6, n6, p6⟩ := R5.mem.unhold (o' := .lst new) go5.2.2 h5
          have e7 : Ext0 z5 H5 z5 (upd H5 D (.lst new)) := ⟨e6.tups, e6.frzs, e6.zs, e6.ph⟩
          obtain ⟨M8, _⟩ := M6.hold (p := D) upd_same n6 p6
          have hz : ((z5.un D).hd D) = z5 := by
            show Zn.mk _ _ _ = z5
            have : (fun a => a = D ∨ a ≠ D ∧ z5.hold a) = z5.hold := by
              funext a
              refine propext ⟨?_, fun h => ?_⟩
              · rintro (q | q)
                · rw [q]; exact go5.2.2
                · exact q.2
              · by_cases ha : a = D
                · exact .inl ha
                · exact .inr ⟨ha, h⟩
            rw [this]
          rw [hz] at M8
          refine ⟨⟨go5.1.trans e7, fun a ha => ⟨(go5.2.1 a ha).1, by rw [upd_ne (hne a ha)]; exact (go5.2.1 a ha).2⟩, go5.2.2⟩, e7, R5.slots.ext0 e7, M8⟩
        have done : ∀ {z5 : Zn} {H5 : Hp} {m5 : Mem} {r5 : Rho} {s5 : L2.St} {acc' : List V} {as' : List W}, Go z5 H5 → H5 D = some (.lst acc') → Rel g.K g.cl z5 r5 m5 s5 H5 → RWs g.K z5 H5 as' acc' → Post g (relNew g.K) z2 H2 r s (K2 (i + 1) as' m5) Q →
            ∃ m' z' as acc, Iv (i + 1) as H5 m' z' acc := by
          intro z5 H5 m5 r5 s5 acc' as' go5 h5 R5 ra' P5
          obtain ⟨M6, e6, n6, p6⟩ := R5.mem.unhold (o' := .lst acc') go5.2.2 h5
          have hid : upd H5 D (.lst acc') = H5 := by
            funext a
            by_cases ha : a = D
            · rw [ha, upd_same, h5]
            · exact upd_ne ha
          rw [hid] at M6 e6
          have e26 : Ext z2 H2 (z5.un D) H5 := ⟨go5.1.trans e6, fun a ha => ⟨⟨hne a ha, (go5.2.1 a ha).1⟩, (go5.2.1 a ha).2⟩⟩
          exact ⟨m5, z5.un D, as', acc', ⟨R2.slots.ext e26, M6⟩, E2.trans e26, ⟨n6, fun q => q.1 rfl, p6⟩, h5, RWs.ext0 e6 ra', Post.mono e26 P5⟩
        cases q5 : c r4 m2 with
        | ok b m5 =>
          rw [q5] at P2
          intro z5 b' H5 e5 R5 rb
          have rb : b = b' := rb
          subst rb
          have go5 := goE go4 e5
          have hx5 : H5 D = some (.lst acc) := (e5.hs D (.inl rfl)).2.trans hD3
          have ra5 : RWs g.K z5 H5 as acc := RWs.ext0 go5.1 ra
          cases b with
          | true =>
            simp only at P2
            rw [if_pos rfl]
            refine ⟨r4, m5, z5, R5, ?_⟩
            cases q6 : src1 r4 m5 with
            | ok us m6 =>
              rw [q6] at P2
              simp only at P2
              intro z6 J1 H6 e6 R6 wk
              have go6 := goE go5 e6
              have hx6 : H6 D = some (.lst acc) := (e6.hs D go5.2.2).2.trans hx5
              have ra6 : RWs g.K z6 H6 as acc := RWs.ext0 go6.1 ra
              -- the inner walk
              have P6 : Post g (relNew g.K) z2 H2 r s ((compL t1 c1 f vs1 (us.drop 0) r4 m6).bind fun ys m3 => K2 (i + 1) (as ++ ys) m3) Q := by
                rw [List.drop_zero]
                have e7 : ((compL t1 c1 f vs1 us r4 m6).bind fun ys m3 => K2 (i + 1) (as ++ ys) m3) = (((compL t1 c1 f vs1 us r4 m6).bind fun ys m3 => (compL2 t c src1 t1 c1 f vs vs1 (ws.drop (i + 1)) r m3).bind fun zs m4 => .ok (ys ++ zs) m4).bind fun ys m3 => chkL (as ++ ys) m3) := by
                  cases compL t1 c1 f vs1 us r4 m6 with
                  | ok ys m7 =>
                    show ((compL2 t c src1 t1 c1 f vs vs1 (ws.drop (i + 1)) r m7).bind fun zs m3 => chkL (as ++ ys ++ zs) m3) = _
                    simp only [Dn.R.bind]
                    cases compL2 t c src1 t1 c1 f vs vs1 (ws.drop (i + 1)) r m7 with
                    | ok zs m8 => simp only [List.append_assoc]
                    | exc x m8 => rfl
                    | bad => rfl
                  | exc x m7 => rfl
                  | bad => rfl
                rw [e7]
                exact P2
              refine ⟨fun j k H' => k = us.length - j ∧ j ≤ us.length ∧ ∃ m' z' as' acc', Go z' H' ∧ H' D = some (.lst acc') ∧ Rel g.K g.cl z' r4 m' s4 H' ∧ Ext0 z6 H6 z' H' ∧ RWs g.K z' H' as' acc' ∧
                Post g (relNew g.K) z2 H2 r s ((compL t1 c1 f vs1 (us.drop j) r4 m').bind fun ys m3 => K2 (i + 1) (as' ++ ys) m3) Q, ⟨us.length, by simp, Nat.zero_le _, m6, z6, as, acc, go6, hx6, R6, Ext0.refl _ _, ra6, P6⟩, ?_⟩
              rintro j k H7 ⟨rfl, hj2, m7, z7, as7, acc7, go7, hx7, R7, E7, ra7, P7⟩
              obtain ⟨hstop1, hgo1⟩ := wk.2 z7 H7 E7 j
              by_cases hlt1 : j < us.length
              · obtain ⟨k1, k2⟩ := hgo1 us[j] (List.getElem?_eq_getElem hlt1)
                rw [List.drop_eq_getElem_cons hlt1] at P7
                refine .inr ⟨k1, fun H' => ∃ m' z' as' acc', Go z' H' ∧ H' D = some (.lst acc') ∧ Rel g.K g.cl z' r4 m' s4 H' ∧ Ext0 z6 H6 z' H' ∧ RWs g.K z' H' as' acc' ∧
                  Post g (relNew g.K) z2 H2 r s ((compL t1 c1 f vs1 (us.drop (j + 1)) r4 m').bind fun ys m3 => K2 (i + 1) (as' ++ ys) m3) Q, fun H' h => ⟨us.length - (j + 1), by omega, rfl, hlt1, h⟩, fun x1 H8 yy => ?_⟩
                obtain ⟨sm8, q8⟩ := k2 x1 H8 yy
                have E8 := R7.mem.extS sm8
                have R8 := R7.same sm8
                have go8 := goE go7 E8
                have hx8 : H8 D = some (.lst acc7) := sm8 _ _ hx7
                have R8' : Rel g.K g.cl z7 (wipeR r4 vs1) m7 (wipe s4 vs1) H8 := ⟨wipe_ok R8.slots vs1, R8.mem⟩
                refine ⟨us[j], wipeR r4 vs1, m7, z7, R8', q8 z7 E8.e0, ?_⟩
                simp only [compL] at P7
                cases q9 : t1 us[j] (wipeR r4 vs1) with
                | none => rw [q9] at P7; exact P7.elim
                | some r9 =>
                  rw [q9] at P7
                  simp only at P7
                  refine fun s9 R9 ag9 => ⟨wipe_agree ag9 hj1, r9, m7, z7, R9, ?_⟩
                  cases q10 : c1 r9 m7 with
                  | ok b m10 =>
                    rw [q10] at P7
                    intro z10 b' H10 e10 R10 rb
                    have rb : b = b' := rb
                    subst rb
                    have go10 := goE go8 e10
                    have hx10 : H10 D = some (.lst acc7) := (e10.hs D go8.2.2).2.trans hx8
                    have E610 : Ext0 z6 H6 z10 H10 := (E7.trans E8.e0).trans e10.e0
                    have ra10 : RWs g.K z10 H10 as7 acc7 := RWs.ext0 (E8.e0.trans e10.e0) ra7
                    have R10' : Rel g.K g.cl z10 r4 m10 s4 H10 := ⟨R7.slots.ext0 (E8.e0.trans e10.e0), R10.mem⟩
                    cases b with
                    | true =>
                      simp only at P7
                      rw [if_pos rfl]
                      refine ⟨r9, m10, z10, R10, ?_⟩
                      cases q11 : f r9 m10 with
                      | ok yv m11 =>
                        rw [q11] at P7
                        simp only at P7
                        intro z11 v H11 e11 R11 rv
                        have go11 := goE go10 e11
                        have hx11 : H11 D = some (.lst acc7) := (e11.hs D go10.2.2).2.trans hx10
                        have P11 : Post g (relNew g.K) z2 H2 r s ((compL t1 c1 f vs1 (us.drop (j + 1)) r4 m11).bind fun ys m3 => K2 (i + 1) (as7 ++ [yv] ++ ys) m3) Q := by
                          have e7 : ((compL t1 c1 f vs1 (us.drop (j + 1)) r4 m11).bind fun ys m3 => K2 (i + 1) (as7 ++ [yv] ++ ys) m3) = (((compL t1 c1 f vs1 (us.drop (j + 1)) r4 m11).bind fun ys m3 => .ok (yv :: ys) m3).bind fun ys m3 => K2 (i + 1) (as7 ++ ys) m3) := by
                            cases compL t1 c1 f vs1 (us.drop (j + 1)) r4 m11 <;> simp [Dn.R.bind]
                          rw [e7]
                          exact P7
                        refine ⟨acc7, hx11, ?_, ?_⟩
                        · have hl : (as7 ++ [yv]).length ≤ 16777216 := by
                            rcases compL_calm (t := t1) (c := c1) (f := f) (vs := vs1) (us.drop (j + 1)) r4 m11 with hb | ⟨ys, m12, hb⟩
                            · rw [hb] at P11; exact P11.elim
                            · rw [hb] at P11
                              have P11 : Post g (relNew g.K) z2 H2 r s (K2 (i + 1) (as7 ++ [yv] ++ ys) m12) Q := P11
                              rcases K2len (i + 1) (as7 ++ [yv] ++ ys) m12 with hb2 | ⟨_, _, _, hb2⟩
                              · rw [hb2] at P11; exact P11.elim
                              · rw [List.length_append] at hb2; omega
                          have h2 := ra7.length
                          rw [List.length_append, List.length_singleton] at hl
                          rw [h2]
                          exact sl_lt (by omega)
                        · obtain ⟨gg, ee, RR⟩ := grow (acc7 ++ [v]) go11 hx11 R11
                          refine ⟨m11, z11, as7 ++ [yv], acc7 ++ [v], gg, upd_same, ⟨R10'.slots.ext0 (e11.e0.trans ee), RR.mem⟩, (E610.trans e11.e0).trans ee, RWs.ext0 ee ((RWs.ext e11 ra10).append (.cons rv .nil)), P11⟩
                      | exc x m11 => rw [q11] at P7; exact P7.elim
                      | bad => rw [q11] at P7; exact P7.elim
                    | false =>
                      simp only at P7
                      rw [if_neg Bool.false_ne_true]
                      exact ⟨m10, z10, as7, acc7, go10, hx10, R10', E610, ra10, P7⟩
                  | exc x m10 => rw [q10] at P7; exact P7.elim
                  | bad => rw [q10] at P7; exact P7.elim
              · have hj3 : us.length ≤ j := Nat.le_of_not_lt hlt1
                refine .inl ⟨hstop1 (Nat.le_antisymm hj2 hj3), ?_⟩
                rw [List.drop_eq_nil_of_le hj3] at P7
                have P7 : Post g (relNew g.K) z2 H2 r s (K2 (i + 1) (as7 ++ []) m7) Q := P7
                rw [List.append_nil] at P7
                exact done go7 hx7 R7 ra7 P7
            | exc x m6 => rw [q6] at P2; exact P2.elim
            | bad => rw [q6] at P2; exact P2.elim
          | false =>
            simp only at P2
            rw [if_neg Bool.false_ne_true]
            exact done go5 hx5 R5 ra5 P2
        | exc x m5 => rw [q5] at P2; exact P2.elim
        | bad => rw [q5] at P2; exact P2.elim
    · have hi3 : ws.length ≤ i := Nat.le_of_not_lt hlt
      refine .inl ⟨hstop (Nat.le_antisymm hi2 hi3), ?_⟩
      have P2 : Post g (relNew g.K) z2 H2 r s ((compL2 t c src1 t1 c1 f vs vs1 (ws.drop i) r m2).bind fun ys m3 => chkL (as ++ ys) m3) Q := P2
      rw [List.drop_eq_nil_of_le hi3] at P2
      have P2 : Post g (relNew g.K) z2 H2 r s (chkL (as ++ []) m2) Q := P2
      rw [List.append_nil] at P2
      unfold chkL at P2
      split at P2
      · exact Post.ret P2 R2 ⟨D, acc, rfl, hD2, ra, y1, y2, y3⟩
      · exact P2.elim
end
end Dn
namespace Dn
open PySem PySem.Spec PyProof.Rows L2
section
variable {X : Cx} {cl : Nat → Addr} {Wx : WX} {e a b : Expr} {pos : Pos}
theorem se_lc2 {elt tg iter tg1 iter1 : Expr} {ifs ifs1 : List Expr} {scope : Scope} {own : List (Str × Nat)} {js js1 vs1 : List Nat} {src src1 : DA} {t t1 : DG} {c c1 : DT} {f : DE} (hc : X.calm = true) (hN : X.N.Nodup) (hi : PI X tg iter (tI (gx X cl Wx) src)) (ok : BlkOk X.N X.env.scope scope own) (hj : ∀ i ∈ js, i ∈ own.map (·.2)) (hj1 : ∀ i ∈ js1, i ∈ vs1) (hv : ∀ i ∈ vs1, i ∈ own.map (·.2))
    (hg : ∀ (s : Shared) (H : Hp) (C : Addr) (cs : List (Str × Addr)) (fp : List Addr), PG (X.blk s H scope (compEnvC scope cs C X.env) fp) tg (tGt X.K cl js t))
    (ht : ∀ (s : Shared) (H : Hp) (C : Addr) (cs : List (Str × Addr)) (fp : List Addr), PTs (X.blk s H scope (compEnvC scope cs C X.env) fp) ifs (tT (gx (X.blk s H scope (compEnvC scope cs C X.env) fp) cl noW) c))
    (hi1 : ∀ (s : Shared) (H : Hp) (C : Addr) (cs : List (Str × Addr)) (fp : List Addr), PI (X.blk s H scope (compEnvC scope cs C X.env) fp) tg1 iter1 (tI (gx (X.blk s H scope (compEnvC scope cs C X.env) fp) cl noW) src1))
    (hg1 : ∀ (s : Shared) (H : Hp) (C : Addr) (cs : List (Str × Addr)) (fp : List Addr), PG (X.blk s H scope (compEnvC scope cs C X.env) fp) tg1 (tGt X.K cl js1 t1))
    (ht1 : ∀ (s : Shared) (H : Hp) (C : Addr) (cs : List (Str × Addr)) (fp : List Addr), PTs (X.blk s H scope (compEnvC scope cs C X.env) fp) ifs1 (tT (gx (X.blk s H scope (compEnvC scope cs C X.env) fp) cl noW) c1))
    (he : ∀ (s : Shared) (H : Hp) (C : Addr) (cs : List (Str × Addr)) (fp : List Addr), PE (X.blk s H scope (compEnvC scope cs C X.env) fp) elt (tE (gx (X.blk s H scope (compEnvC scope cs C X.env) fp) cl noW) f)) (hs : ∀ x, foldedSetIterable iter X.env x = pure x := by intro _; rfl) (hs1 : ∀ env x, foldedSetIterable iter1 env x = pure x := by intro _ _; rfl) :
    PE X (.ListComp elt [⟨tg, iter, ifs, 0⟩, ⟨tg1, iter1, ifs1, 0⟩] scope pos) (tN (gx X cl Wx) (aComp2 src t c src1 t1 c1 f (own.map (·.2)) vs1)) :=
  (pe_lc2 (own := own) hc hN hi ok hv hg ht hi1 hg1 ht1 he hs hs1).imp fun s H Q h => tLc2_of (g := gx X cl Wx) hj hj1 h
theorem ss_setLc2 {i : Nat} {y : Str} {py spos : Pos} {elt tg iter tg1 iter1 : Expr} {ifs ifs1 : List Expr} {scope : Scope} {own : List (Str × Nat)} {js js1 vs1 : List Nat} {src src1 : DA} {t t1 : DG} {c c1 : DT} {f : DE} (hc : X.calm = true) (hN : X.N.Nodup) (hy : X.N[i]? = some y) (hyl : X.env.scope.names.lookup y = some .local)
    (hsw : swapsWith (.ListComp elt [⟨tg, iter, ifs, 0⟩, ⟨tg1, iter1, ifs1, 0⟩] scope pos) (some (.Name y py)) spos.line X.env = pure true) (hi : PI X tg iter (tI (gx X cl Wx) src)) (ok : BlkOk X.N X.env.scope scope own) (hj : ∀ i ∈ js, i ∈ own.map (·.2)) (hj1 : ∀ i ∈ js1, i ∈ vs1) (hv : ∀ i ∈ vs1, i ∈ own.map (·.2))
    (hg : ∀ (s : Shared) (H : Hp) (C : Addr) (cs : List (Str × Addr)) (fp : List Addr), PG (X.blk s H scope (compEnvC scope cs C X.env) fp) tg (tGt X.K cl js t))
    (ht : ∀ (s : Shared) (H : Hp) (C : Addr) (cs : List (Str × Addr)) (fp : List Addr), PTs (X.blk s H scope (compEnvC scope cs C X.env) fp) ifs (tT (gx (X.blk s H scope (compEnvC scope cs C X.env) fp) cl noW) c))
    (hi1 : ∀ (s : Shared) (H : Hp) (C : Addr) (cs : List (Str × Addr)) (fp : List Addr), PI (X.blk s H scope (compEnvC scope cs C X.env) fp) tg1 iter1 (tI (gx (X.blk s H scope (compEnvC scope cs C X.env) fp) cl noW) src1))
    (hg1 : ∀ (s : Shared) (H : Hp) (C : Addr) (cs : List (Str × Addr)) (fp : List Addr), PG (X.blk s H scope (compEnvC scope cs C X.env) fp) tg1 (tGt X.K cl js1 t1))
    (ht1 : ∀ (s : Shared) (H : Hp) (C : Addr) (cs : List (Str × Addr)) (fp : List Addr), PTs (X.blk s H scope (compEnvC scope cs C X.env) fp) ifs1 (tT (gx (X.blk s H scope (compEnvC scope cs C X.env) fp) cl noW) c1))
    (he : ∀ (s : Shared) (H : Hp) (C : Addr) (cs : List (Str × Addr)) (fp : List Addr), PE (X.blk s H scope (compEnvC scope cs C X.env) fp) elt (tE (gx (X.blk s H scope (compEnvC scope cs C X.env) fp) cl noW) f)) (hs : ∀ x, foldedSetIterable iter X.env x = pure x := by intro _; rfl) (hs1 : ∀ env x, foldedSetIterable iter1 env x = pure x := by intro _ _; rfl) :
    PS X (.Assign [.Name y py] (.ListComp elt [⟨tg, iter, ifs, 0⟩, ⟨tg1, iter1, ifs1, 0⟩] scope pos) spos) (tS (gx X cl Wx) (sSet i (eFz (aComp2 src t c src1 t1 c1 f (own.map (·.2)) vs1)))) :=
  (L2.ps_setLc2 (own := own) hc hN hy hyl hsw hi ok hv hg ht hi1 hg1 ht1 he hs hs1).imp fun D s H ⟨r, m, z, R, P⟩ => by
    refine tLc2_of (g := gx X cl Wx) (c := c) (src1 := src1) (c1 := c1) (f := f) hj hj1 ⟨r, m, z, R, ?_⟩
    unfold sSet eFz at P
    cases q : aComp2 src t c src1 t1 c1 f (own.map (·.2)) vs1 r m with
    | ok ws m1 =>
      rw [q] at P
      intro z1 v H1 E1 R1 ⟨p, us, e1, e2, e3, n1, n2, n3⟩
      subst e1
      obtain ⟨e4, M⟩ := R1.mem.settle e2 n2 n3
      have R2 := R1.after e4 M
      exact P _ _ _ (E1.trans e4) ⟨R2.slots.set (w := .lst ws) ⟨p, us, rfl, ⟨.inl rfl, e2⟩, RWs.ext e4 e3⟩, R2.mem⟩
    | exc x m1 => rw [q] at P; exact fun z' H' c d e R q => P z' s H' c d e R q
    | bad => rw [q] at P; exact P
end
end Dn

/-! D10: t >= u of flat tuples of ints and texts. -/
namespace Dn
open PySem PySem.Spec PyProof.Rows L2
/-- two flat values of one kind -/
def pairOk : V → V → Bool
  | .int _, .int _ => true
  | .str _, .str _ => true
  | _, _ => false
def ge1V : V → V → Bool
  | .int i, .int j => decide (j ≤ i)
  | .str x, .str y => !decide (x.cps.toList < y.cps.toList)
  | _, _ => false
def geVs : List V → List V → Bool
  | x :: xs, y :: ys => if x = y then geVs xs ys else ge1V x y
  | [], _ :: _ => false
  | _, [] => true
def pairsOk : List V → List V → Bool
  | x :: xs, y :: ys => pairOk x y && pairsOk xs ys
  | _, _ => true
theorem lexAt_ge : ∀ (us vs : List V) (d : V) (i : Nat) (a b : List V) (ha : a.length = i) (hb : b.length = i),
    Ob.lexAt (fun j => decide ((a ++ us).getD j d = (b ++ vs).getD j d)) (fun j => ge1V ((a ++ us).getD j d) ((b ++ vs).getD j d)) (decide (us.length ≥ vs.length)) i (min us.length vs.length) = geVs us vs
  | [], [], d, i, a, b, _, _ => by simp [geVs, Ob.lexAt]
  | [], _ :: _, d, i, a, b, _, _ => by simp [geVs, Ob.lexAt]
  | _ :: _, [], d, i, a, b, _, _ => by simp [geVs, Ob.lexAt]
  | x :: us, y :: vs, d, i, a, b, ha, hb => by
    have e1 : min (x :: us).length (y :: vs).length = min us.length vs.length + 1 := by simp only [List.length_cons]; omega
    rw [e1, Ob.lexAt_succ]
    have g1 : (a ++ x :: us).getD i d = x := by subst ha; simp
    have g2 : (b ++ y :: vs).getD i d = y := by subst hb; simp
    have e2 : decide ((x :: us).length ≥ (y :: vs).length) = decide (us.length ≥ vs.length) := by simp
    have ih := lexAt_ge us vs d (i + 1) (a ++ [x]) (b ++ [y]) (by simp [ha]) (by simp [hb])
    rw [e2, g1, g2]
    simp only [List.append_assoc, List.singleton_append] at ih
    rw [geVs, ← ih]
    by_cases h : x = y
    · simp [h]
    · simp [h]
def rGeT (K : PySem.W.Frag) : R2 := fun x y H Q => ∃ (a b : Addr) (us vs : List V), x = .ref a ∧ y = .ref b ∧ SqT K H a us ∧ SqT K H b vs ∧ pairsOk us vs = true ∧ Q (.bl (geVs us vs)) H
theorem pairsOk_at : ∀ {us vs : List V} {j : Nat} {x y : V}, pairsOk us vs = true → us[j]? = some x → vs[j]? = some y → pairOk x y = true
  | [], _, _, _, _, _, h, _ => by simp at h
  | _ :: _, [], _, _, _, _, _, h => by simp at h
  | a :: us, b :: vs, 0, x, y, h, h1, h2 => by
    simp at h1 h2
    subst h1 h2
    exact (Bool.and_eq_true_iff.mp h).1
  | a :: us, b :: vs, j + 1, x, y, h, h1, h2 => pairsOk_at (us := us) (vs := vs) (j := j) (Bool.and_eq_true_iff.mp h).2 (by simpa using h1) (by simpa using h2)
theorem op_geT {X : Cx} (hu : X.A.units < cLine) : OpR X (compareOp .GtE) (rGeT X.K) := by
  intro pins s σ H x y v u Q I rx ry h
  obtain ⟨a, b, us, vs, rfl, rfl, ha, hb, hp, q⟩ := h
  cases rx
  cases ry
  obtain ⟨its, r1, p1, _⟩ := I.tuple ha
  obtain ⟨its2, r2, p2, _⟩ := I.tuple hb
  have e1 : its.toArray.size = us.length := by rw [List.size_toArray]; exact r1.length.symm
  have e2 : its2.toArray.size = vs.length := by rw [List.size_toArray]; exact r2.length.symm
  have both : ∀ j (h1 : j < its.toArray.size) (h2 : j < its2.toArray.size), ∃ x y, us.getD j .non = x ∧ vs.getD j .non = y ∧ RelV x its.toArray[j] ∧ RelV y its2.toArray[j] ∧ pairOk x y = true := fun j h1 h2 => by
    have h1' : j < us.length := by rw [← e1]; exact h1
    have h2' : j < vs.length := by rw [← e2]; exact h2
    obtain ⟨u1, g1, g2⟩ := r1.get (List.getElem?_eq_getElem h1')
    obtain ⟨u2, g3, g4⟩ := r2.get (List.getElem?_eq_getElem h2')
    have f1 : its.toArray[j] = u1 := by
      have : its.toArray[j]? = some u1 := by simpa using g1
      rw [Array.getElem?_eq_getElem h1] at this
      exact Option.some.inj this
    have f2 : its2.toArray[j] = u2 := by
      have : its2.toArray[j]? = some u2 := by simpa using g3
      rw [Array.getElem?_eq_getElem h2] at this
      exact Option.some.inj this
    refine ⟨us[j], vs[j], by simp [h1'], by simp [h2'], by rw [f1]; exact g2, by rw [f2]; exact g4, ?_⟩
    exact pairsOk_at hp (List.getElem?_eq_getElem h1') (List.getElem?_eq_getElem h2')
  have R := Ob.RcOp.tuples_ge (A := X.A) (s := s) (e := fun j => decide (([] ++ us).getD j .non = ([] ++ vs).getD j .non)) (r := fun j => ge1V (([] ++ us).getD j .non) (([] ++ vs).getD j .non)) p1 p2 hu (fun j h1 h2 => by
    obtain ⟨x, y, f1, f2, f3, f4, f5⟩ := both j h1 h2
    show SeqAt.EqAt _ _ _ _ (decide (us.getD j .non = vs.getD j .non))
    rw [f1, f2]
    cases x with
    | int i =>
      cases y with
      | int k =>
        obtain ⟨t, et⟩ := f3
        obtain ⟨t', et'⟩ := f4
        rw [et, et', dec_int]
        exact SeqAt.EqAt.int_int _ _ _ _
      | _ => cases f5
    | str i =>
      cases y with
      | str k =>
        obtain ⟨t, et⟩ := f3
        obtain ⟨t', et'⟩ := f4
        rw [et, et', dec_str]
        exact SeqAt.EqAt.str_str _ _ _ _
      | _ => cases f5
    | _ => cases f5) (fun j h1 h2 _ => by
    obtain ⟨x, y, f1, f2, f3, f4, f5⟩ := both j h1 h2
    simp only [List.nil_append]
    rw [f1, f2]
    cases x with
    | int i =>
      cases y with
      | int k =>
        obtain ⟨t, et⟩ := f3
        obtain ⟨t', et'⟩ := f4
        rw [et, et']
        exact Ob.RcOp.ge_int _ _ _ _
      | _ => cases f5
    | str i =>
      cases y with
      | str k =>
        obtain ⟨t, et⟩ := f3
        obtain ⟨t', et'⟩ := f4
        rw [et, et']
        exact fun _ _ _ _ h => PySem.P.ge_str h
      | _ => cases f5
    | _ => cases f5)
  rw [e1, e2, lexAt_ge us vs .non 0 [] [] rfl rfl] at R
  have z : wpAny (model X.prog X.w) X.A (compareOp .GtE (.ref a) (.ref b)) (EP X pins σ Q) X.xe s := R X.prog X.w X.xe (EP X pins σ Q) ⟨.bl _, H, I, rfl, q⟩
  exact z
def flatW : W → Option V
  | .int i => some (.int i)
  | .str x => some (.str x)
  | _ => none
def flatWs : List W → Option (List V)
  | [] => some []
  | w :: ws => match flatW w, flatWs ws with
    | some v, some vs => some (v :: vs)
    | _, _ => none
theorem flat_rel {K : PySem.W.Frag} {z : Zn} {H : Hp} : ∀ {ws : List W} {vs us : List V}, RWs K z H ws vs → flatWs ws = some us → vs = us
  | [], _, _, h, e => by cases h; cases e; rfl
  | w :: ws, _, us, ⟨v, r, h1, h2, h3⟩, e => by
    subst h1
    simp only [flatWs] at e
    cases q : flatW w with
    | none => rw [q] at e; cases e
    | some x =>
      cases q2 : flatWs ws with
      | none => rw [q, q2] at e; cases e
      | some xs =>
        rw [q, q2] at e
        cases e
        rw [flat_rel h3 q2]
        cases w with
        | int i => cases q; rw [show v = V.int i from h2]
        | str i => cases q; rw [show v = V.str i from h2]
        | _ => cases q
def geT (_ : Mem) (a b : W) : Option W := match a, b with
  | .tup xs, .tup ys => match flatWs xs, flatWs ys with
    | some us, some vs => if pairsOk us vs = true then some (.bl (geVs us vs)) else none
    | _, _ => none
  | _, _ => none
theorem w_geT {K : PySem.W.Frag} {cl : Nat → Addr} : OpW K cl geT (rGeT K) := by
  intro z m H a b x y w Q M ra rb e k
  unfold geT at e
  split at e
  · rename_i xs ys
    split at e
    · rename_i us vs q1 q2
      split at e
      · rename_i c
        cases e
        obtain ⟨p, vs1, e1, e2, e3⟩ := ra
        obtain ⟨p2, vs2, f1, f2, f3⟩ := rb
        have g1 := flat_rel e3 q1
        have g2 := flat_rel f3 q2
        subst g1 g2
        exact ⟨p, p2, vs1, vs2, e1, f1, e2, f2, c, k z _ H (Ext.refl _ _) M rfl⟩
      · cases e
    · cases e
  · cases e
end Dn

/-! D11: what the top leaves, as facts; the law's end. -/
namespace Dn
open PySem PySem.Spec PyProof.Rows L2
/-! ### constants of the module -/
mutual
def valB (K : PySem.W.Frag) : W → Value → Bool
  | .non, u => match u with
    | .none => true
    | _ => false
  | .bl b, u => match u with
    | .bool c => b == c
    | _ => false
  | .int i, u => match u with
    | .int j _ => decide (i = j)
    | _ => false
  | .str x, u => match u with
    | .str y _ => decide (x = y)
    | _ => false
  | .tup ws, u => match u with
    | .ref a => match K.lookup a with
      | some ⟨.type c, _, .seq its _, _⟩ => decide (c = "tuple") && (decide (its.size ≤ sizeLine) && valsB K ws its.toList)
      | _ => false
    | _ => false
  | .old ws, u => match u with
    | .ref a => match K.lookup a with
      | some ⟨.type c, none, .seq its _, _⟩ => decide (c = "list") && (decide (its.size ≤ sizeLine) && valsB K ws its.toList)
      | _ => false
    | _ => false
  | _, _ => false
def valsB (K : PySem.W.Frag) : List W → List Value → Bool
  | [], us => us.isEmpty
  | w :: ws, us => match us with
    | u :: us => valB K w u && valsB K ws us
    | [] => false
end
mutual
theorem valB_ok {K : PySem.W.Frag} : ∀ (w : W) (u : Value), valB K w u = true → ∃ v, RelV v u ∧ ∀ z H, RW K z H w v
  | .non, u, h => by
    cases u with
    | none => exact ⟨.non, rfl, fun _ _ => rfl⟩
    | _ => simp [valB] at h
  | .bl b, u, h => by
    cases u with
    | bool c => have e : b = c := by simpa [valB] using h
                subst e; exact ⟨.bl b, rfl, fun _ _ => rfl⟩
    | _ => simp [valB] at h
  | .int b, u, h => by
    cases u with
    | int c t => have e : b = c := by simpa [valB] using h
                 subst e; exact ⟨.int b, ⟨t, rfl⟩, fun _ _ => rfl⟩
    | _ => simp [valB] at h
  | .str b, u, h => by
    cases u with
    | str c t => have e : b = c := by simpa [valB] using h
                 subst e; exact ⟨.str b, ⟨t, rfl⟩, fun _ _ => rfl⟩
    | _ => simp [valB] at h
  | .tup ws, u, h => by
    cases u with
    | ref a =>
      simp only [valB] at h
      split at h
      · rename_i c od its n osl q
        simp only [Bool.and_eq_true, decide_eq_true_eq] at h
        obtain ⟨vs, r, k⟩ := valsB_ok ws its.toList h.2.2
        exact ⟨.ref a, rfl, fun z H => ⟨a, vs, rfl, .inr ⟨_, its, n, q, by rw [h.1], rfl, h.2.1, r⟩, k z H⟩⟩
      · cases h
    | _ => simp [valB] at h
  | .old ws, u, h => by
    cases u with
    | ref a =>
      simp only [valB] at h
      split at h
      · rename_i c its n osl q
        simp only [Bool.and_eq_true, decide_eq_true_eq] at h
        obtain ⟨vs, r, k⟩ := valsB_ok ws its.toList h.2.2
        exact ⟨.ref a, rfl, fun z H => ⟨a, vs, rfl, .inr ⟨_, its, n, q, by rw [h.1], rfl, rfl, h.2.1, r⟩, k z H⟩⟩
      · cases h
    | _ => simp [valB] at h
  | .lst ws, u, h => by simp [valB] at h
  | .ref ws, u, h => by simp [valB] at h
  | .raw ws, u, h => by simp [valB] at h
theorem valsB_ok {K : PySem.W.Frag} : ∀ (ws : List W) (us : List Value), valsB K ws us = true → ∃ vs, Vals vs us ∧ ∀ z H, RWs K z H ws vs
  | [], us, h => by
    cases us with
    | nil => exact ⟨[], .nil, fun _ _ => rfl⟩
    | cons u us => simp [valsB] at h
  | w :: ws, us, h => by
    cases us with
    | nil => simp [valsB] at h
    | cons u us =>
      simp only [valsB, Bool.and_eq_true] at h
      obtain ⟨v, r1, k1⟩ := valB_ok w u h.1
      obtain ⟨vs, r2, k2⟩ := valsB_ok ws us h.2
      exact ⟨v :: vs, .cons r1 r2, fun z H => ⟨v, vs, rfl, k1 z H, k2 z H⟩⟩
end
/-- the module's name x stands for w -/
def gloB (K : PySem.W.Frag) (x : Str) (w : W) : Bool := match PySem.W.nsIn K mainGlobals x with
  | some (some u) => valB K w u
  | _ => false
def GloW (K : PySem.W.Frag) (mg : Str → Option Value) (x : Str) (w : W) : Prop := ∃ u v, mg x = some u ∧ RelV v u ∧ ∀ z H, RW K z H w v
theorem gloB_ok {K : PySem.W.Frag} {h : Heap} {mg : Str → Option Value} {x : Str} {w : W} (X : K.In h) (G : h.Ns mainGlobals mg) (c : gloB K x w = true) : GloW K mg x w := by
  unfold gloB at c
  split at c
  · rename_i u q
    obtain ⟨v, r, k⟩ := valB_ok w u c
    exact ⟨u, v, PySem.W.mg_of X G q, r, k⟩
  · cases c
theorem se_g {X : Cx} {cl : Nat → Addr} {Wx : WX} {pos : Pos} {x : Str} {w : W} (h : GloW X.K X.mg x w) (hg : Gl X x := by rfl) (hd : (x == ("__debug__" : Str)) = false := by decide) : PE X (.Name x pos) (tE (gx X cl Wx) (eC w)) := by
  obtain ⟨u, v, h1, h2, h3⟩ := h
  exact se_glob h1 h2 h3 hg hd
/-! ### a def of the module -/
structure FT (K : PySem.W.Frag) (mg : Str → Option Value) (x : Str) (st : Stmt) (ps : List Str) (fd : FuncData) : Prop where
  F : FunD K x x (defArgs st) (defBody st) (defScope st) [] [] (He.ga K x) fd
  g : mg x = some (.ref (He.ga K x))
  b : Binds K fd ps []
theorem hu65 {A : Around} {k : Nat} (hr : RoomG k A) : A.units + 65 < cLine := by have := hr.un; omega
/-! ### the head's hook, with a test of one's own -/
def obsE (fa : List He.Fa) (fn : List He.DefD) (ex : PySem.W.Frag → Bool) (K : PySem.W.Frag) : He.AlD × Bool := (He.obsD fa fn K, ex K)
structure SaysE (fa : List He.Fa) (fn : List He.DefD) (ex : PySem.W.Frag → Bool) (K : PySem.W.Frag) : Prop where
  d : He.SaysD fa fn K
  e : ex K = true
def obsEG (n : Nat) (fa : List He.Fa) (fn : List He.DefD) (ex : PySem.W.Frag → Bool) (g : Addr → Option Obj) : He.AlD × Bool := obsE fa fn ex (He.frG g (He.asD g n))
theorem saysE_of {fa : List He.Fa} {fn : List He.DefD} {ex : PySem.W.Frag → Bool} {K : PySem.W.Frag} (e : obsE fa fn ex K = (He.valD fn, true)) : SaysE fa fn ex K := by
  unfold obsE at e
  exact ⟨(Prod.mk.inj e).1, (Prod.mk.inj e).2⟩
def hookE (n : Nat) (fa : List He.Fa) (fn : List He.DefD) (ex : PySem.W.Frag → Bool) : PySem.W.Hook where
  α := He.AlD × Bool
  obs := fun s => obsEG n fa fn ex s.heap.get?
  val := fun _ => (He.valD fn, true)
  says := fun _ h => ∃ K : PySem.W.Frag, K.In h ∧ SaysE fa fn ex K
  of := fun _ s e => ⟨He.frG s.heap.get? (He.asD s.heap.get? n), He.frG_in, saysE_of e⟩
  keeps := fun _ _ _ ⟨K, hK, c⟩ k => ⟨K, PySem.W.Frag.In.keeps hK k, c⟩
theorem obsEG_eq {n : Nat} {fa : List He.Fa} {fn : List He.DefD} {ex : PySem.W.Frag → Bool} {g : Addr → Option Obj} {s : Shared} (h : ∀ a, g a = s.heap.get? a) : obsEG n fa fn ex g = (hookE n fa fn ex).obs s := by
  have e : g = s.heap.get? := funext h
  rw [e] <;> rfl
/-- one test of several -/
def allB (bs : List Bool) : Bool := bs.all id
theorem allB_at {bs : List Bool} (h : allB bs = true) (i : Nat) {b : Bool} (hb : bs[i]? = some b) : b = true := by
  have := List.all_eq_true.mp h b (List.mem_of_getElem? hb)
  exact this
/-! ### the law's end -/
/-- the law told as a run over plain values gives True for every script -/
def LawOk (cl : Nat → Addr) (n : Nat) (g : Fw) : Prop := ∀ ns : List Int, ns.length ≤ n → ∃ m, g [.old (ns.map .int)] [] = .ok (.bl true) m
theorem rws_ints {K : PySem.W.Frag} {z : Zn} {H : Hp} : ∀ ns : List Int, RWs K z H (ns.map .int) (ns.map V.int)
  | [] => rfl
  | n :: ns => ⟨_, _, rfl, rfl, rws_ints ns⟩
theorem law_end {K : PySem.W.Frag} {cl : Nat → Addr} {n : Nat} {g : Fw} (h : LawOk cl n g) {H : Hp} {a : Addr} {ns : List Int} (hl : ns.length ≤ n) (hO : Only H) (hS : SqL K H a (ns.map V.int)) : spOf K cl 1 g [.ref a] H (fun v _ => v = .bl true) fun _ _ _ => False := by
  obtain ⟨m, e⟩ := h ns hl
  refine ⟨[.old (ns.map .int)], [], ⟨fun _ => False, fun _ => False, []⟩, rfl, ⟨rfl, .nil, fun _ q => q.elim, fun _ q => q.elim, fun _ q => q.elim, fun n a c q => by simp at q⟩, ⟨.ref a, [], rfl, ⟨a, ns.map V.int, rfl, ?_, rws_ints ns⟩, rfl⟩, ?_⟩
  · rcases hS with (hS | ⟨o, hS⟩) | hS
    · rcases hO a with z | ⟨o, xs, z⟩
      · rw [hS] at z; cases z
      · rw [hS] at z; cases z
    · exact .inl ⟨o, hS⟩
    · exact .inr hS
  · rw [e]
    exact fun z' v H' _ _ q => q
end Dn
namespace Dn
open PySem PySem.Spec PyProof.Rows L2
/-- what is never come to -/
def sBad : DS := fun _ _ => .bad
theorem ss_noraise {X : Cx} {cl : Nat → Addr} {Wx : WX} {st : Stmt} : PS X st (tS (gx X cl Wx) sBad) := (ps_never (st := st)).imp fun D s H ⟨r, m, z, R, P⟩ => P
end Dn

/-! D11b: the law's end. -/
namespace Dn
open PySem PySem.Spec PyProof.Rows L2
theorem hu1 {A : Around} {k : Nat} (hr : RoomG k A) : A.units + 1 < cLine := by have := hr.un; omega
section
variable {P : Program} {w : World} {K : PySem.W.Frag} {mg mb : Str → Option Value} {k : Nat} {fa a : Addr} {fd : FuncData} {x : Str} {g : Fw} {cl : Nat → Addr} {s₁ : Shared} {vs : List Value} {ns : List Int}
/-- an abstract heap that tracks the script and nothing else, or nothing at all -/
structure Script (P : Program) (w : World) (K : PySem.W.Frag) (a : Addr) (ns : List Int) (s : Shared) (H : Hp) : Prop where
  only : Only H
  seq : SqL K H a (ns.map V.int)
  hok : HOk P w H s.heap
  at_ : ∀ b, H b ≠ none → b = a
  no : H a ≠ none → K.lookup a = none
theorem script_at (KX : K.In s₁.heap) (ha : s₁.heap.get? a = some { cls := .type "list", data := .seq vs.toArray }) (hi : IntsAre vs ns) (hl : ns.length ≤ sizeLine) : ∃ H, Script P w K a ns s₁ H := by
  have rv := vals_ints hi
  have lv := hi.length
  cases hk : K.lookup a with
  | some o =>
    have e := KX a o hk
    rw [ha] at e
    cases e
    exact ⟨fun _ => none, fun _ => .inl rfl, .inr ⟨_, vs.toArray, _, hk, rfl, rfl, rfl, by rw [List.size_toArray, lv]; exact hl, by simpa using rv⟩, fun b u q => (nomatch q), fun b q => absurd rfl q, fun q => absurd rfl q⟩
  | none =>
    refine ⟨fun b => if b = a then some (.frz { cls := .type "list", data := .seq vs.toArray } (.lst (ns.map V.int))) else none, fun b => ?_, .inl (.inr ⟨_, if_pos rfl⟩), fun b u q => ?_, fun b q => ?_, fun _ => hk⟩
    · by_cases hb : b = a
      · exact .inr ⟨_, _, if_pos hb⟩
      · exact .inl (if_neg hb)
    · by_cases hb : b = a
      · simp only [hb, if_true] at q
        cases q
        subst hb
        exact ⟨ha, by simpa using hl, vs, _, rv, ha⟩
      · simp only [hb, if_false] at q
        cases q
    · by_cases hb : b = a
      · exact hb
      · exact absurd (if_neg hb) q
theorem lawG (KX : K.In s₁.heap) (hns : s₁.heap.Ns mainGlobals mg) (hb : s₁.heap.Ns builtinsNs mb) (hbb : ∀ x : Str, x ≠ "__name__" → mb x = bootBuiltins x) (hlim : s₁.heap.NoLimit) (hg : s₁.gens = #[])
    (ha : s₁.heap.get? a = some { cls := .type "list", data := .seq vs.toArray }) (hi : IntsAre vs ns) (h63 : ns.length ≤ 63) (hr : RoomG k callerA) (hl : LawOk (fun _ => 0) 63 g)
    (F : ∀ base : Heap, K.In base → base.Ns mainGlobals mg → FnG P w K mg base k fa fd [x] (spOf K cl 1 g)) (hbind : ∀ (s : Shared) (u : Value), BindsTo s fd ⟨[u], []⟩ [(x, u)]) :
    codeAny (model P w) callerA (.call (.ref fa) ⟨[.ref a], []⟩) (fun r s' => r = .ok (.ret (.bool true)) ∧ OldK s₁.heap s'.heap ∧ s'.os = s₁.os ∧ AllBare s'.gens) s₁ := by
  obtain ⟨H, S⟩ := script_at (P := P) (w := w) KX ha hi (Nat.le_trans h63 (by decide))
  have free : ∀ {b : Addr} {o : Obj} {es : Array DictEntry} {ep : Nat}, s₁.heap.get? b = some o → o.data = .dict es ep → H b = none := fun {b o es ep} e d => by
    cases q : H b with
    | none => rfl
    | some u =>
      have hba := S.at_ b (by rw [q]; exact Option.some_ne_none _)
      subst hba
      rw [ha] at e
      cases e
      cases d
  have ns_ok : ∀ {b : Addr} {m : Str → Option Value}, s₁.heap.Ns b m → (hidT s₁.heap H).Ns b m := fun ⟨o, es, ep, e, d, r⟩ => ⟨o, es, ep, hidT_get e (free e d), d, r⟩
  have kb : K.In (hidT s₁.heap H) := fun b o e => hidT_get (KX b o e) (by
    cases q : H b with
    | none => rfl
    | some u =>
      have hne : H b ≠ none := by rw [q]; exact Option.some_ne_none _
      have hba := S.at_ b hne
      subst hba
      rw [S.no hne] at e
      cases e)
  have hM : Mod K mg (hidT s₁.heap H) := ⟨kb, ns_ok hns, ⟨mb, ns_ok hb, hbb⟩, let ⟨mc, h1, h2⟩ := hlim; ⟨mc, ns_ok h1, h2⟩⟩
  have e0 : Env0 P w K mg (hidT s₁.heap H) callerA [] s₁ H := ⟨rfl, hM, fun b o e => of_hidT e, Nat.le_of_eq (hidT_size _ _), trivial, fun b q => (nomatch q), S.hok, .of_eq hg⟩
  have hsp := law_end (K := K) (cl := cl) (fun ns h => hl ns h) h63 S.only S.seq
  refine codeAny_mono ((F _ kb (ns_ok hns)).run callerA [] s₁ H ⟨[.ref a], []⟩ [.ref a] [.ref a] _ _ hr e0 (hbind s₁ (.ref a)) (.cons rfl .nil) hsp) fun r s' h => ?_
  match r, h with
  | .error e, h =>
    obtain ⟨_, _, _, _, _, _, _, _, _, _, _, _, q⟩ := h
    exact q.elim
  | .ok .next, h => exact h.elim
  | .ok .brk, h => exact h.elim
  | .ok .cont, h => exact h.elim
  | .ok (.ret u), ⟨v, H', os, bare, un, hok', rv, q⟩ =>
    have q' : v = .bl true := q
    subst q'
    have ru : u = Value.bool true := rv
    subst ru
    refine ⟨rfl, OldK.of_keep fun b o e => ?_, os, bare⟩
    rcases S.only b with q | ⟨ob, xs, q⟩
    · exact un.keep b o e q (fun z => nomatch z) (fun z => nomatch z)
    · have h1 := (S.hok b _ q).1
      rw [e] at h1
      rw [Option.some.inj h1]
      exact (hok' b _ (un.frzs b ob _ q)).1
end
/-- the law's end, where what is raised is told over the world -/
theorem walkW {l : PySem.W.OpenLaw} {k : Nat} {q : Program} {loose : List Str} {XP : (Str → Option Value) → Heap → Prop} {YP : World → Heap → Prop} {d : DefRec} {x : Str} {g : Fw} {cl : PySem.W.Frag → Nat → Addr}
    (hm : l.most = some 63) (hd : d.params.defaults = []) (hr : RoomG k callerA) (hl : LawOk (fun _ => 0) 63 g)
    (F : ∀ (w : World) (mg : Str → Option Value) (fa : Addr) (h : Heap), YP w h → h.Ns mainGlobals mg → mg d.name = some (.ref fa) →
      ∃ (K : PySem.W.Frag) (fd : FuncData), K.In h ∧ (∀ (s : Shared) (u : Value), BindsTo s fd ⟨[u], []⟩ [(x, u)]) ∧ ∀ base : Heap, K.In base → base.Ns mainGlobals mg → FnG l.prog w K mg base k fa fd [x] (spOf K (cl K) 1 g)) :
    PySem.W.WalkO q loose XP YP l.row.toRowW d [] (fun f vs => PySem.call f vs) := by
  refine Att.attach_call hm hd fun w s₀ s₁ mg mb fa o pm cd doc a vs ns G Y ho hd' hcd hmg hobj hints hlen hg => ?_
  obtain ⟨K, fd, KX, hb, hF⟩ := F w mg fa _ Y G.T.g hmg
  exact lawG KX G.T.g G.T.b G.T.builtins G.T.nolimit hg hobj hints hlen hr hl hF hb
end Dn

/-! D12: instances: fields, methods, making. -/
namespace Dn
open PySem PySem.Spec PyProof.Rows L2
/-! ### fields -/
def fldOf (c : Nat) (f : Str) (m : Mem) (w : W) : Option W := match w with
  | .ref n => match m[n]? with
    | some (.ins c' fs) => if c' = c then fs.lookup f else none
    | _ => none
  | _ => none
def insOf (c : Nat) (m : Mem) (w : W) : Option (Nat × List (Str × W)) := match w with
  | .ref n => match m[n]? with
    | some (.ins c' fs) => if c' = c then some (n, fs) else none
    | _ => none
  | _ => none
section
variable {K : PySem.W.Frag} {cl : Nat → Addr} {z : Zn} {m : Mem} {H : Hp}
theorem ins_at {c n : Nat} {w : W} {v : V} {fs : List (Str × W)} (M : MemOk K cl z m H) (h : RW K z H w v) (e : insOf c m w = some (n, fs)) :
    w = .ref n ∧ m[n]? = some (.ins c fs) ∧ ∃ a dx vs, z.phi[n]? = some a ∧ v = .ref a ∧ H a = some (.ins (cl c) dx vs) ∧ RFs K z H fs vs := by
  unfold insOf at e
  split at e
  · rename_i k
    split at e
    · rename_i c' fs' q
      split at e
      · rename_i hc
        cases e
        subst hc
        obtain ⟨a, h1, h2⟩ := h
        obtain ⟨_, dx, vs, q1, q2⟩ := M.cells _ a _ h1 q
        exact ⟨rfl, q, a, dx, vs, h1, h2, q1, q2⟩
      · cases e
    · cases e
  · cases e
theorem fld_ins {c : Nat} {f : Str} {w u : W} (e : fldOf c f m w = some u) : ∃ n fs, insOf c m w = some (n, fs) ∧ fs.lookup f = some u := by
  unfold fldOf at e
  unfold insOf
  split at e
  · split at e
    · split at e
      · rename_i hc
        exact ⟨_, _, if_pos hc, e⟩
      · cases e
    · cases e
  · cases e
def putFW (f : Str) (v : W) : List (Str × W) → List (Str × W)
  | [] => [(f, v)]
  | (g, x) :: r => if g = f then (g, v) :: r else (g, x) :: putFW f v r
theorem putFW_ok {f : Str} {w : W} {v : V} (hv : RW K z H w v) : ∀ {fs : List (Str × W)} {vs : List (Str × V)}, RFs K z H fs vs → RFs K z H (putFW f w fs) (putF f v vs)
  | [], _, h => by cases h; exact ⟨v, [], rfl, hv, rfl⟩
  | (g, x) :: r, _, ⟨y, t, h1, h2, h3⟩ => by
    subst h1
    unfold putFW putF
    by_cases hg : g = f
    · rw [if_pos hg, if_pos hg]; exact ⟨v, t, rfl, hv, h3⟩
    · rw [if_neg hg, if_neg hg]; exact ⟨y, _, rfl, h2, putFW_ok hv h3⟩
theorem put_mem {c n : Nat} {a dx : Addr} {f : Str} {w : W} {v : V} {fs : List (Str × W)} {vs : List (Str × V)} (M : MemOk K cl z m H) (h1 : z.phi[n]? = some a) (h2 : m[n]? = some (.ins c fs)) (h3 : RFs K z H fs vs) (hv : RW K z H w v) :
    Ext z H z (upd H a (.ins (cl c) dx (putF f v vs))) ∧ MemOk K cl z (m.set n (.ins c (putFW f w fs))) (upd H a (.ins (cl c) dx (putF f v vs))) := by
  have nh := (M.cells n a _ h1 h2).1
  exact M.write h1 h2 rfl fun e => ⟨nh, dx, _, upd_same, (putFW_ok hv h3).ext e⟩
end
section
variable {X : Cx} {cl : Nat → Addr} {Wx : WX} {e a o : Expr} {pos : Pos}
def eFld (c : Nat) (f : Str) (fa : DE) : DE := fun r m => (fa r m).bind fun w m1 => match fldOf c f m1 w with
  | some u => .ok u m1
  | none => .bad
theorem se_fld {c : Nat} {f : Str} {fa : DE} (hc : Cls X.K (cl c)) (hn : NoAttr X.K (cl c) f) (ha : PE X e (tE (gx X cl Wx) fa)) (hb : attributeBase e f X.env (eval e X.env) = eval e X.env := by rfl) :
    PE X (.Attribute e f pos) (tE (gx X cl Wx) (eFld c f fa)) :=
  (pe_fld ha hb).imp fun s H Q ⟨r, m, z, R, P⟩ => by
    refine ⟨r, m, z, R, P.bind fun z1 w m1 v H1 E1 R1 r1 P1 => ?_⟩
    cases q : fldOf c f m1 w with
    | none => rw [q] at P1; exact P1.elim
    | some u =>
      rw [q] at P1
      obtain ⟨n, fs, q1, q2⟩ := fld_ins q
      obtain ⟨_, _, b, dx, vs, q3, q4, q5, q6⟩ := ins_at R1.mem r1 q1
      obtain ⟨y, q7, q8⟩ := q6.lookup q2
      exact ⟨b, cl c, dx, vs, y, q4, q5, hc, hn, q7, P1.ret R1 q8⟩
/-- o.f = e -/
def sPut (c : Nat) (f : Str) (fo fv : DE) : DS := fun r m => (fv r m).thenS r fun y m1 => (fo r m1).thenS r fun w m2 => match insOf c m2 w with
  | some (n, fs) => if fs.length < 1000 then .next r (m2.set n (.ins c (putFW f y fs))) else .bad
  | none => .bad
theorem ss_put {c : Nat} {f : Str} {fo fv : DE} {pos' : Pos} (hc : Cls X.K (cl c)) (hn : NoAttr X.K (cl c) f) (ho : PE X o (tE (gx X cl Wx) fo)) (hv : PE X e (tE (gx X cl Wx) fv))
    (hs : swapsWith e (some (.Attribute o f pos')) pos.line X.env = pure false := by rfl) : PS X (.Assign [.Attribute o f pos'] e pos) (tS (gx X cl Wx) (sPut c f fo fv)) :=
  (ps_fld ho hv hs).imp fun D s H ⟨r, m, z, R, P⟩ => by
    refine ⟨r, m, z, R, P.bind fun z1 y m1 u H1 E1 R1 r1 P1 => ?_⟩
    refine ⟨r, m1, z1, R1, P1.bind fun z2 w m2 v H2 E2 R2 r2 P2 => ?_⟩
    cases q : insOf c m2 w with
    | none => rw [q] at P2; exact P2.elim
    | some nf =>
      obtain ⟨n, fs⟩ := nf
      rw [q] at P2
      simp only at P2
      split at P2
      · rename_i hl
        obtain ⟨_, q2, b, dx, vs, q3, q4, q5, q6⟩ := ins_at R2.mem r2 q
        obtain ⟨e1, M1⟩ := put_mem (dx := dx) (f := f) R2.mem q3 q2 q6 (RW.ext E2 r1)
        exact ⟨b, cl c, dx, vs, q4, q5, hc, hn, by rw [q6.length]; exact hl, P2 z2 s _ e1 (R2.after e1 M1)⟩
      · exact P2.elim
/-- o.f op= e -/
def sPutA (c : Nat) (f : Str) (op : Mem → W → W → Option W) (fo fv : DE) : DS := fun r m => (fo r m).thenS r fun w m1 => match fldOf c f m1 w with
  | none => .bad
  | some x => (fv r m1).thenS r fun y m2 => match op m2 x y with
    | none => .bad
    | some u => match insOf c m2 w with
      | some (n, fs) => if fs.length < 1000 then .next r (m2.set n (.ins c (putFW f u fs))) else .bad
      | none => .bad
theorem ss_putA {c : Nat} {f : Str} {fo fv : DE} {op : Operator} {ow : Mem → W → W → Option W} {rr : R2} {pos' : Pos} (hc : Cls X.K (cl c)) (hn : NoAttr X.K (cl c) f) (ho : PE X o (tE (gx X cl Wx) fo)) (hv : PE X e (tE (gx X cl Wx) fv)) (hop : OpR X (inplaceOp op) rr) (hw : OpW X.K cl ow rr) :
    PS X (.AugAssign (.Attribute o f pos') op e pos) (tS (gx X cl Wx) (sPutA c f ow fo fv)) :=
  (ps_fldaug (rd := rr) ho hv (fun pins sh s H x y u v Q I rx ry h => hop pins sh s H x y u v Q I rx ry h)).imp fun D s H ⟨r, m, z, R, P⟩ => by
    refine ⟨r, m, z, R, P.bind fun z1 w m1 v H1 E1 R1 r1 P1 => ?_⟩
    cases q : fldOf c f m1 w with
    | none => rw [q] at P1; exact P1.elim
    | some x =>
      rw [q] at P1
      obtain ⟨n, fs, q1, q2⟩ := fld_ins q
      obtain ⟨_, _, b, dx, vs, q3, q4, q5, q6⟩ := ins_at R1.mem r1 q1
      obtain ⟨xv, q7, q8⟩ := q6.lookup q2
      refine ⟨b, cl c, dx, vs, xv, q4, q5, hc, hn, q7, r, m1, z1, R1, P1.bind fun z2 y m2 yv H2 E2 R2 r2 P2 => ?_⟩
      cases q9 : ow m2 x y with
      | none => rw [q9] at P2; exact P2.elim
      | some u =>
        rw [q9] at P2
        simp only at P2
        refine hw z2 m2 H2 x y xv yv u _ R2.mem (RW.ext E2 q8) r2 q9 fun z3 uv H3 E3 M3 ru => ?_
        cases p1 : insOf c m2 w with
        | none => rw [p1] at P2; exact P2.elim
        | some nf =>
          obtain ⟨n', fs'⟩ := nf
          rw [p1] at P2
          simp only at P2
          split at P2
          · rename_i hl
            obtain ⟨_, p2, b', dx', vs', p3, p4, p5, p6⟩ := ins_at M3 (RW.ext (E2.trans E3) r1) p1
            have eb : b' = b := by rw [q4] at p4; cases p4; rfl
            subst eb
            obtain ⟨e1, M1⟩ := put_mem (dx := dx') (f := f) M3 p3 p2 p6 ru
            exact ⟨dx', vs', p5, by rw [p6.length]; exact hl, P2 z3 s _ (E3.trans e1) (R2.after (E3.trans e1) M1)⟩
          · exact P2.elim
/-! ### methods -/
def eMeth (c : Nat) (mn : Str) (n : Nat) (g : Fw) (fo : DE) (t : DA) : DE := fun r m => (fo r m).bind fun w m1 => match insOf c m1 w with
  | some (_, fs) => match fs.lookup mn with
    | none => (t r m1).bind fun ws m2 => if ws.length + 1 = n then g (w :: ws) m2 else .bad
    | some _ => .bad
  | none => .bad
theorem se_meth {k n c : Nat} {f : Addr} {fd : FuncData} {ps : List Str} {g : Fw} {mn : Str} {apos : Pos} {es : List Expr} {fo : DE} {t : DA} {pl : Sem Bool} (F : FnG X.prog X.w X.K X.mg X.base k f fd ps (spOf X.K cl n g)) (hr : RoomG k X.A) (hc : Cls X.K (cl c)) (hm : Meth X.K (cl c) mn f) (hb : Binds X.K fd ps []) (tk : Takes X Wx)
    (ho : PE X o (tE (gx X cl Wx) fo)) (ha : PA X (e :: es) (tA (gx X cl Wx) t))
    (hst : starEach (e :: es) X.env = (false, eval e X.env) :: starEach es X.env := by rfl) (hpl : (backTo pos (starEach es X.env)).any (·.1) = false := by rfl)
    (ht : eval (.Call (.Attribute o mn apos) (e :: es) [] pos) X.env = (do
      let ov ← eval o X.env
      standAt apos.atName
      let (f, first) ← holding [ov] (getMethod ov mn pl)
      callWith pos f first (backTo pos (starEach (e :: es) X.env)) (backToKw pos (keywordEach [] X.env))) := by rfl) :
    PE X (.Call (.Attribute o mn apos) (e :: es) [] pos) (tE (gx X cl Wx) (eMeth c mn n g fo t)) := by
  refine ⟨fun pins sh s H Q I ⟨r, m, z, R, P⟩ => ?_⟩
  refine PySem.W.methodCall_KW (pl := pl) (thn (ho.run pins sh s H _ I ⟨r, m, z, R, P.bind (Q1 := fun v H1 => ∃ b dx vs, v = .ref b ∧ H1 b = some (.ins (cl c) dx vs) ∧ vs.lookup mn = none ∧ tA (gx X cl Wx) t s H1 fun us H2 => spOf X.K cl n g (v :: us) H2 Q (WE Wx s)) fun z1 w m1 v H1 E1 R1 r1 P1 => ?_⟩) fun u s1 ⟨x, H1, I1, rx, b, dx, vs, ex, ea, l, q⟩ => ?_) ht
  · cases q : insOf c m1 w with
    | none => rw [q] at P1; exact P1.elim
    | some nf =>
      obtain ⟨n0, fs⟩ := nf
      rw [q] at P1
      simp only at P1
      obtain ⟨_, _, b, dx, vs, q3, q4, q5, q6⟩ := ins_at R1.mem r1 q
      cases q7 : fs.lookup mn with
      | some _ => rw [q7] at P1; exact P1.elim
      | none =>
        rw [q7] at P1
        simp only at P1
        refine ⟨b, dx, vs, q4, q5, q6.lookup_none q7, r, m1, z1, R1, P1.bind fun z2 ws m2 us H2 E2 R2 r2 P2 => ?_⟩
        split at P2
        · rename_i hl
          exact ⟨w :: ws, m2, z2, by simpa using hl, R2.mem, .cons (RW.ext E2 r1) r2, PostF.of R2 P2⟩
        · exact P2.elim
  · subst ex
    obtain rfl : u = Value.ref b := rx
    refine getmeth_ok I1 ea hc hm l ?_
    refine PySem.W.callWith_K (first := [.ref b]) (h₀ := X.base) I.ok.mod.kin hm.kp (thn (ha.run pos pins s1 s H1 _ I1 q) fun us s2 ⟨ws, H2, I2, r2, q2⟩ => ⟨I2.kIn, ?_⟩) hst hpl
    exact run_fnG (us := .ref b :: us) (vs := .ref b :: ws) F hr hb (passAt tk s) I2 (.cons rfl r2) q2
theorem se_meth0 {k n c : Nat} {f : Addr} {fd : FuncData} {ps : List Str} {g : Fw} {mn : Str} {apos : Pos} {fo : DE} {pl : Sem Bool} (F : FnG X.prog X.w X.K X.mg X.base k f fd ps (spOf X.K cl n g)) (hr : RoomG k X.A) (hc : Cls X.K (cl c)) (hm : Meth X.K (cl c) mn f) (hb : Binds X.K fd ps []) (tk : Takes X Wx)
    (ho : PE X o (tE (gx X cl Wx) fo))
    (ht : eval (.Call (.Attribute o mn apos) [] [] pos) X.env = (do
      let ov ← eval o X.env
      standAt apos.atName
      let (f, first) ← holding [ov] (getMethod ov mn pl)
      callWith pos f first (backTo pos (starEach [] X.env)) (backToKw pos (keywordEach [] X.env))) := by rfl) :
    PE X (.Call (.Attribute o mn apos) [] [] pos) (tE (gx X cl Wx) (eMeth c mn n g fo aNil)) := by
  refine ⟨fun pins sh s H Q I ⟨r, m, z, R, P⟩ => ?_⟩
  refine PySem.W.methodCall_KW (pl := pl) (thn (ho.run pins sh s H _ I ⟨r, m, z, R, P.bind (Q1 := fun v H1 => ∃ b dx vs, v = .ref b ∧ H1 b = some (.ins (cl c) dx vs) ∧ vs.lookup mn = none ∧ spOf X.K cl n g [v] H1 Q (WE Wx s)) fun z1 w m1 v H1 E1 R1 r1 P1 => ?_⟩) fun u s1 ⟨x, H1, I1, rx, b, dx, vs, ex, ea, l, q⟩ => ?_) ht
  · cases q : insOf c m1 w with
    | none => rw [q] at P1; exact P1.elim
    | some nf =>
      obtain ⟨n0, fs⟩ := nf
      rw [q] at P1
      simp only at P1
      obtain ⟨_, _, b, dx, vs, q3, q4, q5, q6⟩ := ins_at R1.mem r1 q
      cases q7 : fs.lookup mn with
      | some _ => rw [q7] at P1; exact P1.elim
      | none =>
        rw [q7] at P1
        simp only [aNil, Dn.R.bind, List.length_nil, Nat.zero_add] at P1
        split at P1
        · rename_i hl
          exact ⟨b, dx, vs, q4, q5, q6.lookup_none q7, [w], m1, z1, by simpa using hl, R1.mem, .cons r1 .nil, PostF.of R1 P1⟩
        · exact P1.elim
  · subst ex
    obtain rfl : u = Value.ref b := rx
    refine getmeth_ok I1 ea hc hm l ?_
    exact PySem.W.callWith_K0 (first := [.ref b]) I1.kIn hm.kp (run_fnG (us := [.ref b]) (vs := [.ref b]) F hr hb (passAt tk s) I1 (.cons rfl .nil) q)
/-! ### a new instance -/
def eMake (c n : Nat) (g : Fw) (t : DA) : DE := fun r m => (t r m).bind fun ws m1 => if ws.length + 1 = n then (g (.ref m1.length :: ws) (m1 ++ [.ins c []])).bind fun u m2 => match u with
    | .non => .ok (.ref m1.length) m2
    | _ => .bad
  else .bad
/-- what is made: the object and its dict -/
theorem made_mem {K : PySem.W.Frag} {z : Zn} {m : Mem} {H : Hp} {c : Nat} {x dx : Addr} (M : MemOk K cl z m H) (hx : H x = none) (hd : H dx = none) (hne : dx ≠ x) :
    Ext z H (z.lay x) (upd (upd H dx (.own x)) x (.ins (cl c) dx [])) ∧ MemOk K cl (z.lay x) (m ++ [.ins c []]) (upd (upd H dx (.own x)) x (.ins (cl c) dx [])) ∧ RW K (z.lay x) (upd (upd H dx (.own x)) x (.ins (cl c) dx [])) (.ref m.length) (.ref x) := by
  have hx2 : upd H dx (.own x) x = none := by rw [upd_ne fun q => hne q.symm]; exact hx
  have s1 : Same H (upd H dx (.own x)) := upd_same_of hd
  have s2 : Same (upd H dx (.own x)) (upd (upd H dx (.own x)) x (.ins (cl c) dx [])) := upd_same_of hx2
  have sm : Same H (upd (upd H dx (.own x)) x (.ins (cl c) dx [])) := fun b u q => s2 b u (s1 b u q)
  obtain ⟨e2, M2⟩ := (M.same sm).lay (p := x) (c := .ins c []) (M.z_ne hx) (M.p_ne hx) ⟨M.h_ne hx, dx, [], upd_same, rfl⟩
  refine ⟨(M.extS sm).trans e2, M2, x, ?_, rfl⟩
  show (z.phi ++ [x])[m.length]? = some x
  rw [← M.len]
  simp
/-- C(..) where what is raised is wished for at the caller's slots -/
theorem run_mk {k n c : Nat} {f : Addr} {fd : FuncData} {ps : List Str} {g : Fw} {pins : List (Addr × Obj)} {s : L2.St} {H : Hp} {sh : Shared} {Q : VK} {us : List Value} {vs : List V} {ws : List W} {r : Rho} {m : Mem} {z : Zn}
    (hM : Mk X.K (cl c) f) (F : FnG X.prog X.w X.K X.mg X.base k f fd ps (spOf X.K cl n g)) (hr : RoomG (k + 1) X.A) (hb : Binds X.K fd ps []) (tk : Takes X Wx) (I : Inv X pins s H sh) (rv : Vals vs us)
    (R : Rel X.K cl z r m s H) (rw' : RWs X.K z H ws vs) (hl : ws.length + 1 = n)
    (P : Post (gx X cl Wx) (RW X.K) z H r s ((g (.ref m.length :: ws) (m ++ [.ins c []])).bind fun u m2 => match u with
      | .non => .ok (.ref m.length) m2
      | _ => .bad) Q) : wpAny (model X.prog X.w) X.A (call (.ref (cl c)) us) (EP X pins s Q) X.xe sh := by
  have fx : H (sh.heap.objs.size + 1) = none := I.hok.fresh (Nat.le_succ _)
  have fd' : H sh.heap.objs.size = none := I.hok.fresh (Nat.le_refl _)
  obtain ⟨e1, M1, q1⟩ := made_mem (c := c) R.mem fx fd' (Nat.ne_of_lt (Nat.lt_succ_self _))
  have R1 := R.after e1 M1
  have hq : spOf X.K cl n g (.ref (sh.heap.objs.size + 1) :: vs) (upd (upd H sh.heap.objs.size (.own (sh.heap.objs.size + 1))) (sh.heap.objs.size + 1) (.ins (cl c) sh.heap.objs.size [])) (fun v H2 => v = .non ∧ Q (.ref (sh.heap.objs.size + 1)) H2) (WE Wx s) := by
    refine ⟨.ref m.length :: ws, _, _, by simpa using hl, M1, .cons q1 (RWs.ext e1 rw'), ?_⟩
    refine PostF.of R1 (Post.bind (Post.mono e1 P) fun z2 u m2 v H2 E2 R2 r2 P2 => ?_)
    cases u with
    | non =>
      have r2 : v = .non := r2
      exact ⟨r2, P2.ret R2 (RW.ext E2 q1)⟩
    | _ => exact P2.elim
  have I2 := Inv.made (C := cl c) I
  have rv2 : Vals (V.ref (sh.heap.objs.size + 1) :: vs) (Value.ref (sh.heap.objs.size + 1) :: us) := .cons rfl rv
  have hl2 : (Value.ref (sh.heap.objs.size + 1) :: us ++ []).length = ps.length := by
    have e2 := rv2.length
    rw [F.len _ _ _ _ hq] at e2
    rw [List.append_nil]
    exact e2.symm
  have hbb := hb _ (Value.ref (sh.heap.objs.size + 1) :: us) I2.kIn hl2
  rw [List.append_nil] at hbb
  refine wpAny_call (make_map (f := f) I.kIn hM.makes hM.init (beq_iff_eq.mp hM.fn) (codeAny_mono (F.run _ X.stack _ _ _ _ _ _ _ (hr.make (cl c) us []) (I2.env0.make (cl c) us []) hbb rv2 hq) fun rr s' hq' => ?_))
  cases rr with
  | error er => exact passAt tk s pins _ _ er s' I2 hq'
  | ok fl =>
    cases fl with
    | ret u =>
      obtain ⟨v, H', I3, rv3, ev, q3⟩ := I2.after hq'
      subst ev
      exact ⟨rv3, ⟨V.ref (sh.heap.objs.size + 1), H', I3, rfl, q3⟩⟩
    | next => exact hq'.elim
    | brk => exact hq'.elim
    | cont => exact hq'.elim
theorem se_make {k n c : Nat} {f : Addr} {fd : FuncData} {ps : List Str} {g : Fw} {x : Str} {p : Pos} {es : List Expr} {t : DA} (hM : Mk X.K (cl c) f) (F : FnG X.prog X.w X.K X.mg X.base k f fd ps (spOf X.K cl n g)) (hr : RoomG (k + 1) X.A) (hm : X.mg x = some (.ref (cl c))) (hb : Binds X.K fd ps []) (tk : Takes X Wx)
    (ha : PA X (e :: es) (tA (gx X cl Wx) t)) (hg : Gl X x := by rfl) (hdb : (x == ("__debug__" : Str)) = false := by decide) (he : starEach (e :: es) X.env = (false, eval e X.env) :: starEach es X.env := by rfl) (hpl : (backTo pos (starEach es X.env)).any (·.1) = false := by rfl) :
    PE X (.Call (.Name x p) (e :: es) [] pos) (tE (gx X cl Wx) (eMake c n g t)) := by
  refine ⟨fun pins sh s H Q I ⟨r, m, z, R, P⟩ => ?_⟩
  refine wpAny_Call_Name_kw (ld_glob I hg hm ?_ hdb)
  refine PySem.W.callWith_K (h₀ := X.base) I.ok.mod.kin hM.kp (thn (ha.run pos pins sh s H (fun vs H1 => ∃ ws m1 z1, Rel X.K cl z1 r m1 s H1 ∧ RWs X.K z1 H1 ws vs ∧ Post (gx X cl Wx) (RW X.K) z1 H1 r s (if ws.length + 1 = n then (g (.ref m1.length :: ws) (m1 ++ [.ins c []])).bind fun u m2 => match u with
    | .non => .ok (.ref m1.length) m2
    | _ => .bad
  else .bad) Q) I ⟨r, m, z, R, P.bind fun z1 ws m1 vs H1 E1 R1 r1 P1 => ⟨ws, m1, z1, R1, r1, P1⟩⟩) fun us s1 ⟨vs, H1, I1, rv, ws, m1, z1, R1, r1, P1⟩ => ⟨I1.kIn, ?_⟩) he hpl
  split at P1
  · rename_i hl
    exact run_mk hM F hr hb tk I1 rv R1 r1 hl P1
  · exact P1.elim
theorem se_make0 {k c : Nat} {f : Addr} {fd : FuncData} {ps : List Str} {g : Fw} {x : Str} {p : Pos} (hM : Mk X.K (cl c) f) (F : FnG X.prog X.w X.K X.mg X.base k f fd ps (spOf X.K cl 1 g)) (hr : RoomG (k + 1) X.A) (hm : X.mg x = some (.ref (cl c))) (hb : Binds X.K fd ps []) (tk : Takes X Wx)
    (hg : Gl X x := by rfl) (hdb : (x == ("__debug__" : Str)) = false := by decide) : PE X (.Call (.Name x p) [] [] pos) (tE (gx X cl Wx) (eMake c 1 g aNil)) := by
  refine ⟨fun pins sh s H Q I ⟨r, m, z, R, P⟩ => ?_⟩
  refine wpAny_Call_Name_kw (ld_glob I hg hm ?_ hdb)
  exact PySem.W.callWith_K0 I.kIn hM.kp (run_mk (us := []) (vs := []) (ws := []) hM F hr hb tk I .nil R rfl rfl P)
end
end Dn

/-! D13: more built-in calls: tuples repeated, any, all, min, max, index, is of boolsW, list(range). -/
namespace Dn
open PySem PySem.Spec PyProof.Rows L2
theorem tm_one (l : Addr) (items : Array Value) (n : Nat) (dd : Option Addr) (sl : Array (Option Value)) (x : Int) (u : Tok) (c0 : (decide (x < -(2 ^ 63)) || decide (x ≥ 2 ^ 63)) = false) (c1 : (items.isEmpty || x == 1) = true) :
    Meets (Builtin.«tuple.__mul__» ⟨[.ref l, .int x u], []⟩) (fun _ R s => s.heap.get? l = some { cls := .type "tuple", dict := dd, data := .seq items n, slots := sl } ∧ R (.ok (.ret (Value.ref l))) s) :=
  .of_wp fun prog w A R s h => by
    obtain ⟨hp, g, d, tk, os⟩ := s
    obtain ⟨hl, h⟩ := h
    have f1 := AutoSeq1.idx_int
    wp_walk using wpAny_loadPart' hl
    repeat (first
      | (refine wpAny_ite_false (decide_eq_false (by rw [c0]; exact Bool.false_ne_true)) ?_; wp_walk using wpAny_loadPart' hl)
      | (refine wpAny_ite_true (decide_eq_true c1) ?_; wp_walk using wpAny_loadPart' hl))
    exact ⟨_, rfl, h⟩
theorem tm_zero (l : Addr) (items : Array Value) (n : Nat) (dd : Option Addr) (sl : Array (Option Value)) (x : Int) (u : Tok) (c0 : (decide (x < -(2 ^ 63)) || decide (x ≥ 2 ^ 63)) = false) (c1 : (items.isEmpty || x == 1) = false) (c2 : (decide (x ≤ 0) || items.isEmpty) = true) :
    Meets (Builtin.«tuple.__mul__» ⟨[.ref l, .int x u], []⟩) (fun _ R s => s.heap.get? l = some { cls := .type "tuple", dict := dd, data := .seq items n, slots := sl } ∧
      R (.ok (.ret (Value.ref s.heap.objs.size))) { s with heap := s.heap.push { cls := Value.type "tuple", data := Data.seq #[] }, toks := s.toks }) :=
  .of_wp fun prog w A R s h => by
    obtain ⟨hp, g, d, tk, os⟩ := s
    obtain ⟨hl, h⟩ := h
    have f1 := AutoSeq1.idx_int
    wp_walk using wpAny_loadPart' hl
    repeat (first
      | (refine wpAny_ite_false (decide_eq_false (by rw [c0]; exact Bool.false_ne_true)) ?_; wp_walk using wpAny_loadPart' hl)
      | (refine wpAny_ite_false (decide_eq_false (by rw [c1]; exact Bool.false_ne_true)) ?_; wp_walk using wpAny_loadPart' hl)
      | (refine wpAny_ite_true (decide_eq_true c2) ?_; wp_walk using wpAny_loadPart' hl))
    exact ⟨_, rfl, h⟩
def rRepS (K : PySem.W.Frag) : R2 := fun x y H Q => ∃ l k xs, x = .ref l ∧ y = .int k ∧ SqT K H l xs ∧ xs ≠ [] ∧ ((k = 1 ∧ Q (.ref l) H) ∨ (k = 0 ∧ ∀ p, H p = none → Q (.ref p) (upd H p (.tup []))))
section
variable {X : Cx} {K : PySem.W.Frag} {cl : Nat → Addr}
theorem op_repS : OpR X (binaryOp .Mult) (rRepS X.K) := by
  intro pins s σ H x y v u Q I rx ry h
  obtain ⟨l, k, xs, rfl, rfl, hT, hne, hk⟩ := h
  cases rx
  obtain ⟨t, rfl⟩ := ry
  obtain ⟨its, r, ⟨⟨cls, dd, data, sl⟩, ho, hc, n, hd⟩, hs⟩ := I.tuple hT
  simp only at hc hd
  subst hc hd
  have hi : its.toArray.isEmpty = false := by
    cases its with
    | nil => exact absurd (List.eq_nil_of_length_eq_zero r.length) hne
    | cons a b => rfl
  have c0 : (decide (k < -(2 ^ 63)) || decide (k ≥ 2 ^ 63)) = false := by
    rcases hk with ⟨rfl, _⟩ | ⟨rfl, _⟩ <;> decide
  refine wpAny_binaryOp_repeat_ref (T := "tuple") (U := "int") (by decide) ⟨_, ho, rfl⟩ (fun s' => typeIs_int s' k t) noFill_tuple_mul F.fills_int_mul F.slot_int_rmul repeat_tuple F.slot_int_index.lookup
    (call_meets F.slot_int_rmul (typeIs_int s k t) F.entry_int_rmul (F.args_int_rmul_2 _ _) (int_rmul_tuple k t l its.toArray n dd sl) ⟨ho, rfl, ⟨_, ho, rfl⟩, ?_⟩)
  rcases hk with ⟨rfl, q⟩ | ⟨rfl, q⟩
  · exact call_meets F.slot_tuple_mul ⟨_, ho, rfl⟩ F.entry_tuple_mul (F.args_tuple_mul_2 _ _) (tm_one l its.toArray n dd sl 1 t c0 (by rw [hi]; rfl)) ⟨ho, .ref l, H, I, rfl, q⟩
  · refine call_meets F.slot_tuple_mul ⟨_, ho, rfl⟩ F.entry_tuple_mul (F.args_tuple_mul_2 _ _) (tm_zero l its.toArray n dd sl 0 t c0 (by rw [hi]; rfl) (by rw [hi]; rfl)) ⟨ho, ?_⟩
    refine ⟨.ref s.heap.objs.size, _, I.laid (t' := s.toks) (o := .tup []) (fun b ob q => Heap.get?_push_of_some _ q) (Nat.le_refl _) ?_, rfl, q _ (I.hok.fresh (Nat.le_refl _))⟩
    exact ⟨Nat.zero_le _, [], .nil, IsTup.new _ _⟩
def mulT : Mem → W → W → Option W := fun _ a b => match a, b with
  | .tup (x :: xs), .int k => if k = 0 then some (.tup []) else if k = 1 then some (.tup (x :: xs)) else if 2 ≤ k ∧ k ≤ 1000 ∧ xs.length < 1000 then some (.tup (List.replicate k.toNat (x :: xs)).flatten) else none
  | _, _ => none
theorem w_mulT : OpW K cl mulT (fun x y H Q => rRepT K x y H Q ∨ rRepS K x y H Q) := by
  intro z m H a b x y w Q M ra rb e k
  unfold mulT at e
  split at e
  · rename_i u us j
    obtain ⟨p, vs, a1, a2, a3⟩ := ra
    have hne : vs ≠ [] := fun h => by rw [h] at a3; obtain ⟨_, _, h1, _⟩ := a3; cases h1
    split at e
    · rename_i hj
      cases e
      refine .inr ⟨p, j, vs, a1, rb, a2, hne, .inr ⟨hj, fun l hl => ?_⟩⟩
      have hs := upd_same_of (o := .tup []) hl
      exact k z (.ref l) _ (M.extS hs) (M.same hs) ⟨l, [], rfl, .inl (.inl upd_same), rfl⟩
    · split at e
      · rename_i hj
        cases e
        exact .inr ⟨p, j, vs, a1, rb, a2, hne, .inl ⟨hj, k z (.ref p) H (Ext.refl _ _) M ⟨p, vs, rfl, a2, a3⟩⟩⟩
      · split at e
        · rename_i hj
          cases e
          refine .inl ⟨p, j, vs, a1, rb, a2, hne, hj.1, hj.2.1, by rw [a3.length]; exact hj.2.2, fun l hl => ?_⟩
          have hs := upd_same_of (o := .tup (List.replicate j.toNat vs).flatten) hl
          exact k z (.ref l) _ (M.extS hs) (M.same hs) ⟨l, _, rfl, .inl (.inl upd_same), RWs.ext (M.extS hs) (a3.rep j.toNat)⟩
        · cases e
  · cases e
theorem o_mulT : OpR X (binaryOp .Mult) (fun x y H Q => rRepT X.K x y H Q ∨ rRepS X.K x y H Q) := op_repT.or op_repS
/-! ### any, all, min, max -/
def boolsW : List W → Option (List Bool)
  | [] => some []
  | .bl b :: ws => (boolsW ws).map (b :: ·)
  | _ => none
theorem boolsW_ok {z : Zn} {H : Hp} : ∀ {ws : List W} {bs : List Bool} {vs : List V}, boolsW ws = some bs → RWs K z H ws vs → vs = bs.map V.bl
  | [], bs, vs, e, h => by cases e; exact h
  | .bl b :: ws, bs, vs, e, ⟨v, r, h1, h2, h3⟩ => by
    simp only [boolsW, Option.map_eq_some_iff] at e
    obtain ⟨cs, e1, e2⟩ := e
    subst e2 h1
    rw [boolsW_ok e1 h3]
    have h2 : v = .bl b := h2
    rw [h2]; rfl
  | .non :: _, _, _, e, _ => by simp [boolsW] at e
  | .int _ :: _, _, _, e, _ => by simp [boolsW] at e
  | .str _ :: _, _, _, e, _ => by simp [boolsW] at e
  | .tup _ :: _, _, _, e, _ => by simp [boolsW] at e
  | .lst _ :: _, _, _, e, _ => by simp [boolsW] at e
  | .old _ :: _, _, _, e, _ => by simp [boolsW] at e
  | .ref _ :: _, _, _, e, _ => by simp [boolsW] at e
  | .raw _ :: _, _, _, e, _ => by simp [boolsW] at e
def intsW : List W → Option (List Int)
  | [] => some []
  | .int b :: ws => (intsW ws).map (b :: ·)
  | _ => none
theorem intsW_ok {z : Zn} {H : Hp} : ∀ {ws : List W} {bs : List Int} {vs : List V}, intsW ws = some bs → RWs K z H ws vs → vs = bs.map V.int
  | [], bs, vs, e, h => by cases e; exact h
  | .int b :: ws, bs, vs, e, ⟨v, r, h1, h2, h3⟩ => by
    simp only [intsW, Option.map_eq_some_iff] at e
    obtain ⟨cs, e1, e2⟩ := e
    subst e2 h1
    rw [intsW_ok e1 h3]
    have h2 : v = .int b := h2
    rw [h2]; rfl
  | .non :: _, _, _, e, _ => by simp [intsW] at e
  | .bl _ :: _, _, _, e, _ => by simp [intsW] at e
  | .str _ :: _, _, _, e, _ => by simp [intsW] at e
  | .tup _ :: _, _, _, e, _ => by simp [intsW] at e
  | .lst _ :: _, _, _, e, _ => by simp [intsW] at e
  | .old _ :: _, _, _, e, _ => by simp [intsW] at e
  | .ref _ :: _, _, _, e, _ => by simp [intsW] at e
  | .raw _ :: _, _, _, e, _ => by simp [intsW] at e
def anyW (m : Mem) : List W → Option W
  | [w] => match trkOf m w with
    | some ws => (boolsW ws).map fun bs => .bl (bs.any id)
    | none => none
  | _ => none
def allW (m : Mem) : List W → Option W
  | [w] => match trkOf m w with
    | some ws => (boolsW ws).map fun bs => .bl (bs.all id)
    | none => none
  | _ => none
theorem w_any : ClW K cl anyW (rAny K) := by
  intro z m H ws vs w Q M rws e k
  match ws, e, rws with
  | [u], e, rws =>
    obtain ⟨v, e1, e2⟩ := rws.one
    subst e1
    simp only [anyW] at e
    split at e
    · rename_i us q
      simp only [Option.map_eq_some_iff] at e
      obtain ⟨bs, e3, e4⟩ := e
      subst e4
      obtain ⟨p, xs, a1, a2, a3⟩ := trk_at M e2 q
      have := boolsW_ok e3 a3
      subst this a1
      exact ⟨p, bs, rfl, SqL.of a2, k z _ H (Ext.refl _ _) M rfl⟩
    · cases e
theorem w_all : ClW K cl allW (rAll K) := by
  intro z m H ws vs w Q M rws e k
  match ws, e, rws with
  | [u], e, rws =>
    obtain ⟨v, e1, e2⟩ := rws.one
    subst e1
    simp only [allW] at e
    split at e
    · rename_i us q
      simp only [Option.map_eq_some_iff] at e
      obtain ⟨bs, e3, e4⟩ := e
      subst e4
      obtain ⟨p, xs, a1, a2, a3⟩ := trk_at M e2 q
      have := boolsW_ok e3 a3
      subst this a1
      exact ⟨p, bs, rfl, SqL.of a2, k z _ H (Ext.refl _ _) M rfl⟩
    · cases e
def maxW (_ : Mem) : List W → Option W
  | [.int i, .int j] => some (.int (if j > i then j else i))
  | _ => none
def minW (_ : Mem) : List W → Option W
  | [.int i, .int j] => some (.int (if j < i then j else i))
  | _ => none
theorem w_max : ClW K cl maxW (fun xs H Q => ∃ i j, xs = [.int i, .int j] ∧ Q (.int (if j > i then j else i)) H) := by
  intro z m H ws vs w Q M rws e k
  unfold maxW at e
  split at e
  · rename_i i j
    cases e
    obtain ⟨v, r, h1, h2, v2, r2, h3, h4, h5⟩ := rws
    have h2 : v = .int i := h2
    have h4 : v2 = .int j := h4
    have h5 : r2 = [] := h5
    subst h1 h2 h3 h4 h5
    exact ⟨i, j, rfl, k z _ H (Ext.refl _ _) M rfl⟩
  · cases e
theorem w_min : ClW K cl minW (fun xs H Q => ∃ i j, xs = [.int i, .int j] ∧ Q (.int (if j < i then j else i)) H) := by
  intro z m H ws vs w Q M rws e k
  unfold minW at e
  split at e
  · rename_i i j
    cases e
    obtain ⟨v, r, h1, h2, v2, r2, h3, h4, h5⟩ := rws
    have h2 : v = .int i := h2
    have h4 : v2 = .int j := h4
    have h5 : r2 = [] := h5
    subst h1 h2 h3 h4 h5
    exact ⟨i, j, rfl, k z _ H (Ext.refl _ _) M rfl⟩
  · cases e
/-! ### is of boolsW -/
def isBW (_ : Mem) (a b : W) : Option W := match a, b with
  | .bl x, .bl y => some (.bl (decide (x = y)))
  | _, _ => none
theorem w_isB : OpW K cl isBW rIsB := by
  intro z m H a b x y w Q M ra rb e k
  unfold isBW at e
  split at e
  · cases e
    exact ⟨_, _, ra, rb, k z _ H (Ext.refl _ _) M rfl⟩
  · cases e
end
end Dn

/-! D14: list(range ..), xs.index(x). -/
namespace Dn
open PySem PySem.Spec PyProof.Rows L2
section
variable {X : Cx} {K : PySem.W.Frag} {cl : Nat → Addr} {Wx : WX} {a b e o : Expr} {pos : Pos}
def rgW (a b : Int) : List W := (List.range (b - a).toNat).map fun i => W.int (a + (i : Nat))
theorem rgW_ok {z : Zn} {H : Hp} (a b : Int) : RWs K z H (rgW a b) (rgV a b) := by
  unfold rgW rgV
  generalize List.range (b - a).toNat = l
  induction l with
  | nil => exact rfl
  | cons i l ih => exact ⟨_, _, rfl, rfl, ih⟩
def aRg1 (f : DE) : DA := fun r m => (f r m).bind fun w m1 => match w with
  | .int n => if 0 ≤ n ∧ n ≤ 16777216 then .ok (rgW 0 n) m1 else .bad
  | _ => .bad
def aRg2 (f g : DE) : DA := fun r m => (f r m).bind fun w m1 => (g r m1).bind fun u m2 => match w, u with
  | .int i, .int j => if 0 ≤ i ∧ j ≤ 16777216 ∧ i ≤ 16777216 ∧ 0 ≤ j then .ok (rgW i j) m2 else .bad
  | _, _ => .bad
theorem sn_lrg1 {f : DE} {p p2 pos2 : Pos} (hc : X.calm = true) (hl : X.mg "list" = none) (hr : X.mg "range" = none) (ha : PE X a (tE (gx X cl Wx) f)) (gl : Gl X "list" := by rfl) (gr : Gl X "range" := by rfl)
    (na : starEach [a] X.env = (false, eval a X.env) :: starEach [] X.env := by rfl) (nb : starEach [.Call (.Name "range" p2) [a] [] pos2] X.env = (false, eval (.Call (.Name "range" p2) [a] [] pos2) X.env) :: starEach [] X.env := by rfl) :
    PE X (.Call (.Name "list" p) [.Call (.Name "range" p2) [a] [] pos2] [] pos) (tN (gx X cl Wx) (aRg1 f)) :=
  (pe_listRg hc gl hl (prg_1 gr hr ha na) nb).imp fun s H Q ⟨r, m, z, R, P⟩ => by
    refine ⟨r, m, z, R, P.bind fun z1 w m1 v H1 E1 R1 r1 P1 => ?_⟩
    cases w with
    | int n =>
      have r1 : v = .int n := r1
      simp only at P1
      split at P1
      · rename_i h
        refine ⟨n, r1, RgOk.of_le (by omega) h.2 (by omega) h.1, fun q hq => ?_⟩
        obtain ⟨e1, M1, q1⟩ := new_rel (cl := cl) R1.mem hq (rgW_ok 0 n)
        exact P1 z1 _ _ e1 (R1.after e1 M1) q1
      · exact P1.elim
    | _ => exact P1.elim
theorem sn_lrg2 {f g : DE} {p p2 pos2 : Pos} (hc : X.calm = true) (hl : X.mg "list" = none) (hr : X.mg "range" = none) (ha : PE X a (tE (gx X cl Wx) f)) (hb : PE X b (tE (gx X cl Wx) g)) (gl : Gl X "list" := by rfl) (gr : Gl X "range" := by rfl)
    (na : starEach [a, b] X.env = (false, eval a X.env) :: starEach [b] X.env := by rfl) (nb : starEach [b] X.env = (false, eval b X.env) :: starEach [] X.env := by rfl) (hp : (backTo pos2 (starEach [b] X.env)).any (·.1) = false := by rfl)
    (nc : starEach [.Call (.Name "range" p2) [a, b] [] pos2] X.env = (false, eval (.Call (.Name "range" p2) [a, b] [] pos2) X.env) :: starEach [] X.env := by rfl) :
    PE X (.Call (.Name "list" p) [.Call (.Name "range" p2) [a, b] [] pos2] [] pos) (tN (gx X cl Wx) (aRg2 f g)) :=
  (pe_listRg hc gl hl (prg_2 gr hr ha hb na nb hp) nc).imp fun s H Q ⟨r, m, z, R, P⟩ => by
    refine ⟨r, m, z, R, P.bind fun z1 w m1 v H1 E1 R1 r1 P1 => ?_⟩
    refine ⟨r, m1, z1, R1, P1.bind fun z2 u m2 v2 H2 E2 R2 r2 P2 => ?_⟩
    split at P2
    · rename_i i j
      have r1 : v = .int i := r1
      have r2 : v2 = .int j := r2
      split at P2
      · rename_i h
        refine ⟨i, j, r1, r2, RgOk.of_le h.1 h.2.1 h.2.2.1 h.2.2.2, fun q hq => ?_⟩
        obtain ⟨e1, M1, q1⟩ := new_rel (cl := cl) R2.mem hq (rgW_ok i j)
        exact P2 z2 _ _ e1 (R2.after e1 M1) q1
      · exact P2.elim
    · exact P2.elim
/-! ### xs.index(x) -/
def toV : W → Option V
  | .non => some .non
  | .bl b => some (.bl b)
  | .int i => some (.int i)
  | .str x => some (.str x)
  | _ => none
theorem toV_ok {z : Zn} {H : Hp} {w : W} {v u : V} (e : toV w = some u) (h : RW K z H w v) : v = u ∧ flatV u = true := by
  cases w <;> simp only [toV, Option.some.injEq] at e
  all_goals first
    | (subst e; exact ⟨h, rfl⟩)
    | cases e
def toVs : List W → Option (List V)
  | [] => some []
  | w :: ws => match toV w, toVs ws with
    | some v, some vs => some (v :: vs)
    | _, _ => none
theorem toVs_ok {z : Zn} {H : Hp} : ∀ {ws : List W} {us vs : List V}, toVs ws = some us → RWs K z H ws vs → vs = us ∧ us.all flatV = true
  | [], us, vs, e, h => by cases e; exact ⟨h, rfl⟩
  | w :: ws, us, vs, e, ⟨v, r, h1, h2, h3⟩ => by
    simp only [toVs] at e
    split at e
    · rename_i u us' e1 e2
      cases e
      obtain ⟨q1, q2⟩ := toV_ok e1 h2
      obtain ⟨q3, q4⟩ := toVs_ok e2 h3
      subst h1 q1 q3
      exact ⟨rfl, by rw [List.all_cons, q2, q4]; rfl⟩
    · cases e
def findV (y : V) : List V → Option Nat
  | [] => none
  | x :: xs => match eqV x y with
    | true => some 0
    | false => (findV y xs).map (· + 1)
theorem findV_ok {y : V} : ∀ {ys : List V} {j : Nat}, findV y ys = some j → ∃ z, ys[j]? = some z ∧ eqV z y = true ∧ ∀ (m : Nat) (z' : V), m < j → ys[m]? = some z' → eqV z' y = false
  | [], _, e => by cases e
  | x :: xs, j, e => by
    simp only [findV] at e
    split at e
    · rename_i h
      cases e
      exact ⟨x, rfl, h, fun m z' hm => absurd hm (Nat.not_lt_zero _)⟩
    · rename_i h
      simp only [Option.map_eq_some_iff] at e
      obtain ⟨i, e1, e2⟩ := e
      subst e2
      obtain ⟨z, q1, q2, q3⟩ := findV_ok e1
      refine ⟨z, by simpa using q1, q2, fun m z' hm hz => ?_⟩
      cases m with
      | zero => simp at hz; subst hz; exact h
      | succ m => exact q3 m z' (by omega) (by simpa using hz)
def idxW (m : Mem) (w y : W) : Option W := match trkOf m w with
  | some ws => match toVs ws, toV y with
    | some us, some u => (findV u us).map fun j => .int (j : Nat)
    | _, _ => none
  | none => none
def eIdx (fo fe : DE) : DE := fun r m => (fo r m).bind fun w m1 => match trkOf m1 w with
  | some _ => (fe r m1).bind fun y m2 => match idxW m2 w y with
    | some u => .ok u m2
    | none => .bad
  | none => .bad
theorem se_idx {fo fe : DE} {apos : Pos} (ho : PE X o (tE (gx X cl Wx) fo)) (he : PE X e (tE (gx X cl Wx) fe))
    (hbase : attributeBase o "index" X.env (eval o X.env) = eval o X.env := by rfl)
    (hfew : ((backTo pos (starEach [e] X.env)).all (fun x => !x.1) && (backToKw pos (keywordEach [] X.env)).all (fun x => x.1.isSome)
      && decide ([e].length + ([] : List Keyword).length + (if ([] : List Keyword).isEmpty then 0 else 1) < 30)) = true := by rfl)
    (hline : (apos.endLine == pos.line) = true := by rfl) (hs : starEach [e] X.env = (false, eval e X.env) :: starEach [] X.env := by rfl) (hplain : (backTo pos (starEach [] X.env)).any (·.1) = false := by rfl) :
    PE X (.Call (.Attribute o "index" apos) [e] [] pos) (tE (gx X cl Wx) (eIdx fo fe)) :=
  (pe_bm PySem.F.plainAttrs_list PySem.F.slot_list_index PySem.F.type_list_index mt_index ho (pa_cons he pa_nil hs) hbase hfew hline hs hplain).imp fun s H Q ⟨r, m, z, R, P⟩ => by
    refine ⟨r, m, z, R, P.bind fun z1 w m1 v H1 E1 R1 r1 P1 => ?_⟩
    split at P1
    · rename_i ws e1
      obtain ⟨p, vs, a1, a2, a3⟩ := trk_at R1.mem r1 e1
      subst a1
      refine ⟨.inl ⟨rfl, vs, SqL.of a2⟩, r, m1, z1, R1, P1.bind fun z2 y m2 v2 H2 E2 R2 r2 P2 => ?_⟩
      split at P2
      · rename_i u e2
        unfold idxW at e2
        split at e2
        · rename_i ws2 e3
          split at e2
          · rename_i us yv e4 e5
            simp only [Option.map_eq_some_iff] at e2
            obtain ⟨j, e6, e7⟩ := e2
            subst e7
            obtain ⟨p2, vs2, b1, b2, b3⟩ := trk_at R2.mem (RW.ext E2 r1) e3
            cases b1
            obtain ⟨c1, c2⟩ := toVs_ok e4 b3
            obtain ⟨c3, c4⟩ := toV_ok e5 r2
            subst c1 c3
            obtain ⟨zv, d1, d2, d3⟩ := findV_ok e6
            exact ⟨p, vs2, v2, j, zv, rfl, rfl, SqL.of b2, c4, c2, d1, d2, d3, P2.ret R2 rfl⟩
          · cases e2
        · cases e2
      · exact P2.elim
    · exact P1.elim
end
end Dn

/-! D15: a method of a class of the module. -/
namespace Dn
open PySem PySem.Spec PyProof.Rows L2
def clsItem (s : Stmt) (j : Nat) : Stmt := match s with
  | .ClassDef _ _ _ b _ _ _ _ _ _ _ => b.getD j (.Pass ⟨0, 0, 0, 0⟩)
  | _ => .Pass ⟨0, 0, 0, 0⟩
structure FM (K : PySem.W.Frag) (C m q : Str) (st : Stmt) (ps : List Str) (fd : FuncData) : Prop where
  F : FunD K m q (defArgs st) (defBody st) (defScope st) [] [] (He.ma K (He.ga K C) m) fd
  b : Binds K fd ps []
end Dn

/-! D16: a call of plain data alone: the callee's memory is its own, what it gives is settled. -/
namespace Dn
open PySem PySem.Spec PyProof.Rows L2

mutual
def gW : W → Bool
  | .non => true
  | .bl _ => true
  | .int _ => true
  | .str _ => true
  | .tup xs => gWs xs
  | .lst xs => gWs xs
  | .old xs => gWs xs
  | .ref _ => false
  | .raw _ => true
def gWs : List W → Bool
  | [] => true
  | w :: ws => gW w && gWs ws
end
mutual
/-- what is told, with what f tells in the place of the memory's objects -/
def frzA (f : Nat → Option W) : W → Option W
  | .non => some .non
  | .bl b => some (.bl b)
  | .int i => some (.int i)
  | .str x => some (.str x)
  | .tup xs => (frzAs f xs).map .tup
  | .lst xs => (frzAs f xs).map .lst
  | .old xs => (frzAs f xs).map .old
  | .ref n => f n
  | .raw v => some (.raw v)
def frzAs (f : Nat → Option W) : List W → Option (List W)
  | [] => some []
  | w :: ws => match frzA f w with
    | some w' => (frzAs f ws).map fun r => w' :: r
    | none => none
end
/-- the lists of the memory settled -/
def frzR (m : Mem) : Nat → Nat → Option W
  | 0, _ => none
  | k + 1, n => match m[n]? with
    | some (.lst xs) => (frzAs (frzR m k) xs).map .lst
    | some (.fz xs) => (frzAs (frzR m k) xs).map .lst
    | _ => none
def frzW (m : Mem) (k : Nat) (w : W) : Option W := frzA (frzR m k) w
def frzF (m : Mem) (k : Nat) : List (Str × W) → Option (List (Str × W))
  | [] => some []
  | (x, w) :: r => match frzW m k w with
    | some w' => (frzF m k r).map fun q => (x, w') :: q
    | none => none
/-- of plain data alone, by a memory of its own -/
def pw (g : Fw) : Fw := fun ws m => if gWs ws = true then match g ws [] with
    | .ok w m1 => match frzW m1 6 w with
      | some w' => .ok w' m
      | none => .bad
    | .exc x m1 => match frzF m1 6 x.fs with
      | some fs => .exc ⟨x.cls, fs⟩ m
      | none => .bad
    | .bad => .bad
  else .bad

section
variable {K : PySem.W.Frag} {cl : Nat → Addr} {z z' : Zn} {H H' : Hp} {m : Mem}
mutual
theorem RW.ground (hz : ∀ a, z.Z a → z'.Z a) : ∀ {w : W} {v : V}, gW w = true → RW K z H w v → RW K z' H w v
  | .non, _, _, h => h
  | .bl _, _, _, h => h
  | .int _, _, _, h => h
  | .str _, _, _, h => h
  | .tup ws, _, g, ⟨a, vs, h1, h2, h3⟩ => ⟨a, vs, h1, h2, RWs.ground hz (by simpa [gW] using g) h3⟩
  | .lst ws, _, g, ⟨a, vs, h1, h2, h3⟩ => ⟨a, vs, h1, ⟨hz a h2.1, h2.2⟩, RWs.ground hz (by simpa [gW] using g) h3⟩
  | .old ws, _, g, ⟨a, vs, h1, h2, h3⟩ => ⟨a, vs, h1, h2, RWs.ground hz (by simpa [gW] using g) h3⟩
  | .ref n, _, g, _ => by simp [gW] at g
  | .raw _, _, _, h => h
theorem RWs.ground (hz : ∀ a, z.Z a → z'.Z a) : ∀ {ws : List W} {vs : List V}, gWs ws = true → RWs K z H ws vs → RWs K z' H ws vs
  | [], _, _, h => h
  | _ :: _, _, g, ⟨v, r, h1, h2, h3⟩ => by
    rw [gWs, Bool.and_eq_true_iff] at g
    exact ⟨v, r, h1, RW.ground hz g.1 h2, RWs.ground hz g.2 h3⟩
end
theorem frzAs_some {f : Nat → Option W} {xs : List W} {c : List W → W} {w : W} (h : (frzAs f xs).map c = some w) : ∃ ys, frzAs f xs = some ys ∧ c ys = w := by
  cases q : frzAs f xs with
  | none => rw [q] at h; cases h
  | some ys => rw [q] at h; cases h; exact ⟨ys, rfl, rfl⟩
mutual
theorem RW.frA {f : Nat → Option W} (hz : ∀ a, z.Z a → z'.Z a) (hf : ∀ n u v, f n = some u → RW K z H (.ref n) v → RW K z' H u v) : ∀ {w u : W} {v : V}, frzA f w = some u → RW K z H w v → RW K z' H u v
  | .non, _, _, e, h => by simp [frzA] at e; subst e; exact h
  | .bl _, _, _, e, h => by simp [frzA] at e; subst e; exact h
  | .int _, _, _, e, h => by simp [frzA] at e; subst e; exact h
  | .str _, _, _, e, h => by simp [frzA] at e; subst e; exact h
  | .tup ws, _, _, e, ⟨a, vs, h1, h2, h3⟩ => by
    rw [frzA] at e
    obtain ⟨ys, e1, e2⟩ := frzAs_some e
    subst e2
    exact ⟨a, vs, h1, h2, RWs.frA hz hf e1 h3⟩
  | .lst ws, _, _, e, ⟨a, vs, h1, h2, h3⟩ => by
    rw [frzA] at e
    obtain ⟨ys, e1, e2⟩ := frzAs_some e
    subst e2
    exact ⟨a, vs, h1, ⟨hz a h2.1, h2.2⟩, RWs.frA hz hf e1 h3⟩
  | .old ws, _, _, e, ⟨a, vs, h1, h2, h3⟩ => by
    rw [frzA] at e
    obtain ⟨ys, e1, e2⟩ := frzAs_some e
    subst e2
    exact ⟨a, vs, h1, h2, RWs.frA hz hf e1 h3⟩
  | .ref n, _, _, e, h => hf n _ _ (by rw [frzA] at e; exact e) h
  | .raw _, _, _, e, h => by simp [frzA] at e; subst e; exact h
theorem RWs.frA {f : Nat → Option W} (hz : ∀ a, z.Z a → z'.Z a) (hf : ∀ n u v, f n = some u → RW K z H (.ref n) v → RW K z' H u v) : ∀ {ws us : List W} {vs : List V}, frzAs f ws = some us → RWs K z H ws vs → RWs K z' H us vs
  | [], _, _, e, h => by simp [frzAs] at e; subst e; exact h
  | w :: ws, _, _, e, ⟨v, r, h1, h2, h3⟩ => by
    rw [frzAs] at e
    split at e
    · rename_i w' e1
      cases q : frzAs f ws with
      | none => rw [q] at e; cases e
      | some ys =>
        rw [q] at e
        simp at e
        subst e
        exact ⟨v, r, h1, RW.frA hz hf e1 h2, RWs.frA hz hf q h3⟩
    · cases e
end
theorem RW.frR (M : MemOk K cl z m H) (hz : ∀ a, z.Z a → z'.Z a) (hp : ∀ a xs, a ∈ z.phi → H a = some (.lst xs) → z'.Z a) : ∀ (k n : Nat) (u : W) (v : V), frzR m k n = some u → RW K z H (.ref n) v → RW K z' H u v
  | 0, _, _, _, e, _ => by simp [frzR] at e
  | k + 1, n, u, v, e, ⟨a, h1, h2⟩ => by
    obtain ⟨c, q1, q2⟩ := M.at h1
    have ha : a ∈ z.phi := List.mem_of_getElem? h1
    cases c with
    | lst ws =>
      simp only [frzR, q1] at e
      obtain ⟨ys, e1, e2⟩ := frzAs_some e
      subst e2
      obtain ⟨_, _, vs, q3, q4⟩ := q2
      exact ⟨a, vs, h2, ⟨hp a vs ha q3, q3⟩, RWs.frA hz (RW.frR M hz hp k) e1 q4⟩
    | fz ws =>
      simp only [frzR, q1] at e
      obtain ⟨ys, e1, e2⟩ := frzAs_some e
      subst e2
      obtain ⟨_, vs, q3, q4⟩ := q2
      exact ⟨a, vs, h2, ⟨hp a vs ha q3, q3⟩, RWs.frA hz (RW.frR M hz hp k) e1 q4⟩
    | dct _ => simp [frzR, q1] at e
    | ins _ _ => simp [frzR, q1] at e
theorem RW.frozen (M : MemOk K cl z m H) (hz : ∀ a, z.Z a → z'.Z a) (hp : ∀ a xs, a ∈ z.phi → H a = some (.lst xs) → z'.Z a) (k : Nat) {w u : W} {v : V} (e : frzW m k w = some u) (h : RW K z H w v) : RW K z' H u v := RW.frA hz (RW.frR M hz hp k) e h
theorem RFs.frozen (M : MemOk K cl z m H) (hz : ∀ a, z.Z a → z'.Z a) (hp : ∀ a xs, a ∈ z.phi → H a = some (.lst xs) → z'.Z a) (k : Nat) : ∀ {ws us : List (Str × W)} {vs : List (Str × V)}, frzF m k ws = some us → RFs K z H ws vs → RFs K z' H us vs
  | [], _, _, e, h => by simp [frzF] at e; subst e; exact h
  | (x, w) :: ws, _, _, e, ⟨v, r, h1, h2, h3⟩ => by
    simp only [frzF] at e
    split at e
    · rename_i w' e1
      cases q : frzF m k ws with
      | none => rw [q] at e; cases e
      | some ys =>
        rw [q] at e
        simp at e
        subst e
        exact ⟨v, r, h1, RW.frozen M hz hp k e1 h2, RFs.frozen M hz hp k q h3⟩
    · cases e
/-- the callee's view: all of the memory is held -/
abbrev Zn.own (z : Zn) : Zn := { Z := z.Z, hold := fun a => z.hold a ∨ a ∈ z.phi ∧ ¬ z.Z a, phi := [] }
/-- the caller's again: what the callee's memory has of lists is settled -/
abbrev Zn.out (z z' : Zn) (H' : Hp) : Zn := { Z := fun a => z'.Z a ∨ a ∈ z'.phi ∧ ∃ xs, H' a = some (.lst xs), hold := z.hold, phi := z.phi }
theorem MemOk.own (M : MemOk K cl z m H) : MemOk K cl z.own [] H := by
  refine ⟨rfl, List.nodup_nil, ?_, M.lz, ?_, ?_⟩
  · rintro a q (h | ⟨_, h⟩)
    · exact M.sep a q h
    · exact h q
  · rintro a (h | ⟨h, _⟩)
    · exact M.lh a h
    · obtain ⟨n, e⟩ := List.getElem?_of_mem h
      obtain ⟨c, _, hc⟩ := M.at e
      exact hc.there
  · intro n a c h
    simp at h
theorem CellOk.nohold {a : Addr} {c : Cell} (M : MemOk K cl z m H) (h : CellOk K cl z H a c) : ¬ z.hold a := by
  cases c with
  | lst ws => exact h.2.1
  | fz ws => exact M.sep a h.1
  | dct kvs => exact h.1
  | ins c fs => exact h.1
theorem MemOk.back {m' : Mem} (M : MemOk K cl z m H) (e : Ext z.own H z' H') (M' : MemOk K cl z' m' H') : Ext z H (z.out z' H') H' ∧ MemOk K cl (z.out z' H') m H' := by
  have np : ∀ a, a ∈ z'.phi → ¬ z'.hold a := fun a h => by
    obtain ⟨n, e1⟩ := List.getElem?_of_mem h
    obtain ⟨c, _, hc⟩ := M'.at e1
    exact hc.nohold M'
  have e0 : Ext0 z H (z.out z' H') H' := ⟨e.e0.tups, e.e0.frzs, fun a q => ⟨.inl (e.e0.zs a q).1, (e.e0.zs a q).2⟩, fun _ _ h => h⟩
  have ex : Ext z H (z.out z' H') H' := ⟨e0, fun a q => ⟨q, (e.hs a (.inl q)).2⟩⟩
  refine ⟨ex, M.len, M.nd, ?_, ?_, ?_, ?_⟩
  · rintro a (q | ⟨q, _⟩) h
    · exact M'.sep a q (e.hs a (.inl h)).1
    · exact np a q (e.hs a (.inl h)).1
  · rintro a (q | ⟨_, q⟩)
    · exact M'.lz a q
    · exact q
  · intro a q
    rw [(e.hs a (.inl q)).2]
    exact M.lh a q
  · intro n a c h1 h2
    have hc := M.cells n a c h1 h2
    have ha : a ∈ z.phi := List.mem_of_getElem? h1
    by_cases hz : z.Z a
    · refine hc.ext2 e0 ⟨fun _ => hz, fun _ => .inl (e.e0.zs a hz).1⟩ (fun q => q) (e.e0.zs a hz).2
    · have hh := e.hs a (.inr ⟨ha, hz⟩)
      refine hc.ext2 e0 ⟨?_, fun q => absurd q hz⟩ (fun q => q) hh.2
      rintro (q | ⟨q, _⟩)
      · exact absurd hh.1 (M'.sep a q)
      · exact absurd hh.1 (np a q)
theorem spOf_pw {n : Nat} {g : Fw} {vs : List V} {Q : VK} {E : XK} (h : spOf K cl n (pw g) vs H Q E) : spOf K cl n g vs H Q E := by
  obtain ⟨ws, m, z, hl, M, rw', p⟩ := h
  unfold pw at p
  split at p
  · rename_i hg
    refine ⟨ws, [], z.own, hl, M.own, RWs.ground (z := z) (z' := z.own) (fun a q => q) hg rw', ?_⟩
    cases q : g ws [] with
    | bad => rw [q] at p; exact p
    | ok w m1 =>
      rw [q] at p
      simp only at p
      intro z' v H' e M' r
      split at p
      · rename_i w' e1
        obtain ⟨ex, M2⟩ := M.back e M'
        exact p _ v H' ex M2 (RW.frozen (z' := z.out z' H') M' (fun a q => .inl q) (fun a xs q1 q2 => .inr ⟨q1, xs, q2⟩) 6 e1 r)
      · exact p.elim
    | exc x m1 =>
      rw [q] at p
      simp only at p
      intro z' H' c d e M' r
      split at p
      · rename_i fs e1
        obtain ⟨ex, M2⟩ := M.back e M'
        obtain ⟨r1, dd, fs', r2, r3, r4⟩ := r
        exact p _ H' c d ex M2 ⟨r1, dd, fs', r2, r3, RFs.frozen (z' := z.out z' H') M' (fun a q => .inl q) (fun a xs q1 q2 => .inr ⟨q1, xs, q2⟩) 6 e1 r4⟩
      · exact p.elim
  · exact p.elim
theorem fn_pw {P : Program} {w : World} {mg : Str → Option Value} {base : Heap} {k n : Nat} {f : Addr} {fd : FuncData} {ps : List Str} {g : Fw} (F : FnG P w K mg base k f fd ps (spOf K cl n g)) : FnG P w K mg base k f fd ps (spOf K cl n (pw g)) :=
  ⟨fun vs H Q E h => F.len vs H Q E (spOf_pw h), fun A outer s H args us vs Q E hr e0 hb rv h => F.run A outer s H args us vs Q E hr e0 hb rv (spOf_pw h)⟩
end
theorem pw_ok {g : Fw} {ws : List W} {m m1 : Mem} {w w' : W} (h1 : gWs ws = true) (h2 : g ws [] = .ok w m1) (h3 : frzW m1 6 w = some w') : pw g ws m = .ok w' m := by
  unfold pw
  rw [if_pos h1, h2]
  simp only [h3]
end Dn

/-! D17: sorted of a list of data. -/
namespace Dn
open PySem PySem.Spec PyProof.Rows L2

/-! ### insertion, the same as the library's sort -/
section
variable {α : Type} (le : α → α → Bool)
def insB (a : α) : List α → List α
  | [] => [a]
  | b :: l => if le a b = true then a :: b :: l else b :: insB a l
def isort : List α → List α
  | [] => []
  | a :: l => insB le a (isort l)
theorem insB_at {a : α} : ∀ {l r : List α}, (∀ b, b ∈ l → (!le a b) = true) → (∀ b, r.head? = some b → le a b = true) → insB le a (l ++ r) = l ++ a :: r
  | [], [], _, _ => rfl
  | [], b :: r, _, h => by simp [insB, h b rfl]
  | b :: l, r, h1, h2 => by
    have hb : le a b = false := by simpa using h1 b (.head _)
    rw [List.cons_append, insB, hb, if_neg (by decide), insB_at (fun c q => h1 c (.tail _ q)) h2]
    rfl
theorem isort_eq (tr : ∀ a b c : α, le a b = true → le b c = true → le a c = true) (to : ∀ a b : α, (le a b || le b a) = true) : ∀ l : List α, l.mergeSort le = isort le l
  | [] => by simp [isort]
  | a :: l => by
    obtain ⟨l1, l2, e1, e2, h⟩ := List.mergeSort_cons (le := le) (fun a b c => tr a b c) (fun a b => to a b) a l
    have ss := List.pairwise_mergeSort (le := le) (fun a b c => tr a b c) (fun a b => to a b) (a :: l)
    rw [e1] at ss ⊢
    rw [isort, ← isort_eq tr to l, e2, insB_at le h]
    intro b hb
    have s2 := (List.pairwise_append.mp ss).2.1
    cases l2 with
    | nil => cases hb
    | cons c r =>
      simp at hb
      subst hb
      exact (List.pairwise_cons.mp s2).1 _ (.head _)
theorem isort_map {β : Type} {f : β → α} : ∀ l : List β, isort le (l.map f) = (isort (fun x y => le (f x) (f y)) l).map f
  | [] => rfl
  | x :: l => by
    have ins : ∀ l : List β, insB le (f x) (l.map f) = (insB (fun x y => le (f x) (f y)) x l).map f := fun l => by
      induction l with
      | nil => rfl
      | cons y l ih =>
        simp only [List.map_cons, insB]
        split
        · rfl
        · rw [ih]; rfl
    rw [List.map_cons, isort, isort_map l, ins, isort]
theorem insB_perm (a : α) : ∀ l : List α, (insB le a l).Perm (a :: l)
  | [] => .refl _
  | b :: l => by
    unfold insB
    split
    · exact .refl _
    · exact ((insB_perm a l).cons b).trans (List.Perm.swap a b l)
theorem isort_perm : ∀ l : List α, (isort le l).Perm l
  | [] => .refl _
  | a :: l => (insB_perm le a _).trans ((isort_perm l).cons a)
end
theorem dataLe_isort {β : Type} (k : β → PyData) (l : List β) : l.mergeSort (PySem.W.dataLe false k) = isort (PySem.W.dataLe false k) l := by
  have t : PySem.W.TotalLe (PySem.W.dataLe false k) := PySem.W.sortLe_total (listOrd itemOrd) false fun b => PySem.W.keyToks (k b)
  exact isort_eq _ t.trans (fun a b => Bool.or_eq_true_iff.mpr (t.total a b)) l

/-! ### sorted -/
def rSortD (K : PySem.W.Frag) : List V → Hp → VK → Prop := fun vs H Q => ∃ (a : Addr) (ps : List (PyData × V)), vs = [.ref a] ∧ SqL K H a (ps.map (·.2)) ∧ (∀ p, p ∈ ps → Dp K H p.2 p.1 ∧ p.1.depth ≤ 20) ∧
  PySem.W.AllAlike (ps.map (·.1)) ∧ PySem.W.Sortable (ps.map (·.1)) ∧ ∀ q, H q = none → Q (.ref q) (upd H q (.lst ((isort (PySem.W.dataLe false (·.1)) ps).map (·.2))))
theorem each_vals : ∀ {ps : List (PyData × V)} {us : List Value}, Vals (ps.map (·.2)) us → PySem.W.EachIs (fun u (p : PyData × V) => RelV p.2 u) us ps
  | [], _, h => by cases h; exact .nil
  | p :: ps, _, h => by
    cases h with
    | cons h1 h2 => exact .cons h1 (each_vals h2)
theorem vals_each : ∀ {ps : List (PyData × V)} {us : List Value}, PySem.W.EachIs (fun u (p : PyData × V) => RelV p.2 u) us ps → Vals (ps.map (·.2)) us
  | _, _, .nil => .nil
  | _, _, .cons h1 h2 => .cons h1 (vals_each h2)
theorem each_reads {X : Cx} {pins : List (Addr × Obj)} {σ : L2.St} {H : Hp} {s : Shared} (I : Inv X pins σ H s) : ∀ {ps : List (PyData × V)} {us : List Value}, (∀ p, p ∈ ps → Dp X.K H p.2 p.1 ∧ p.1.depth ≤ 20) → Vals (ps.map (·.2)) us → PySem.W.EachIs (fun u (p : PyData × V) => ∃ as, Reads s.heap u p.1 as) us ps
  | [], _, _, h => by cases h; exact .nil
  | p :: ps, _, hd, h => by
    cases h with
    | cons h1 h2 => exact .cons (Dp.reads I p.1 p.2 _ (hd p (.head _)).1 h1) (each_reads I (fun q m => hd q (.tail _ m)) h2)
theorem cr_sortD {X : Cx} (hu : X.A.units + 65 < cLine) : CallR X (.builtin "sorted") (rSortD X.K) := by
  intro pins s σ H vs us Q I r h
  obtain ⟨a, ps, rfl, hs, hd, hal, hk, q⟩ := h
  obtain ⟨its, rv, hl, hz⟩ := I.list hs
  obtain ⟨u, rfl, ru⟩ := vals1 r
  obtain rfl : u = Value.ref a := ru
  have hlen : ps.length ≤ sizeLine := by simpa using hz
  refine PySem.W.sorted_data (enc := fun p : PyData × V => p.1) (bs := ps) (R := fun u (p : PyData × V) => RelV p.2 u) hl.isList (each_vals rv) (each_reads I hd rv) hal hk hlen (fun p m => by have := (hd p m).2; omega) fun out ho he => ?_
  rw [dataLe_isort] at he
  have vv := vals_each he
  obtain ⟨n, hn⟩ := sortedAll_at s.heap its (List.toArray out)
  refine ⟨.ref (s.heap.objs.size + 1), _, I.laid (t' := s.toks) (o := .lst ((isort (PySem.W.dataLe false (·.1)) ps).map (·.2))) (fun b o e => sortedAll_old e) (Nat.le_succ _) ⟨?_, out, n, vv, hn⟩, rfl, q _ (I.hok.fresh (Nat.le_succ _))⟩
  rw [List.length_map, (isort_perm _ ps).length_eq]
  exact hlen
def alikeB (ws : List W) : Bool := ws.all fun a => ws.all fun b => PySem.W.alike (toD a) (toD b)
def tupB : W → Bool
  | .tup (_ :: _) => true
  | _ => false
def plainB : W → Bool
  | .bl _ => true
  | .int _ => true
  | .str _ => true
  | .lst _ => true
  | _ => false
def sortB (ws : List W) : Bool := ws.all tupB || ws.all plainB
def leD (a b : W) : Bool := PySem.W.dataLe false toD a b
def sortedW (m : Mem) : List W → Option (List W)
  | [w] => match lstOf m w with
    | some ws => if okWs 20 ws && (alikeB ws && sortB ws) then some (isort leD ws) else none
    | none => none
  | _ => none
section
variable {K : PySem.W.Frag} {cl : Nat → Addr}
theorem rws_zip {z : Zn} {H : Hp} : ∀ {ws : List W} {vs : List V}, RWs K z H ws vs → ∃ zs : List (W × V), zs.map (·.1) = ws ∧ zs.map (·.2) = vs ∧ ∀ p, p ∈ zs → RW K z H p.1 p.2
  | [], _, h => by cases h; exact ⟨[], rfl, rfl, fun p h => by cases h⟩
  | w :: ws, _, ⟨v, r, h1, h2, h3⟩ => by
    subst h1
    obtain ⟨zs, e1, e2, e3⟩ := rws_zip h3
    refine ⟨(w, v) :: zs, by simp [e1], by simp [e2], fun p h => ?_⟩
    rcases List.mem_cons.mp h with rfl | h
    · exact h2
    · exact e3 p h
theorem zip_rws {z : Zn} {H : Hp} : ∀ {zs : List (W × V)}, (∀ p, p ∈ zs → RW K z H p.1 p.2) → RWs K z H (zs.map (·.1)) (zs.map (·.2))
  | [], _ => rfl
  | p :: zs, h => ⟨p.2, _, rfl, h p (.head _), zip_rws fun q m => h q (.tail _ m)⟩
theorem okWs_mem {n : Nat} : ∀ {ws : List W}, okWs n ws = true → ∀ w, w ∈ ws → okW n w = true
  | [], _, _, h => by cases h
  | x :: ws, h, w, m => by
    rw [okWs, Bool.and_eq_true_iff] at h
    rcases List.mem_cons.mp m with rfl | m
    · exact h.1
    · exact okWs_mem h.2 w m
theorem w_sorted : ClN K cl sortedW (rSortD K) := by
  intro z m H ws vs us Q M rws e k
  match ws, e, rws with
  | [u], e, rws =>
    obtain ⟨v, e1, e2⟩ := rws.one
    subst e1
    simp only [sortedW] at e
    split at e
    · rename_i xs ex
      split at e
      · rename_i c
        rw [Bool.and_eq_true_iff, Bool.and_eq_true_iff] at c
        obtain ⟨c1, c2, c3⟩ := c
        cases e
        obtain ⟨a, vs, f1, f2, f3⟩ := lst_at M e2 ex
        subst f1
        obtain ⟨zs, g1, g2, g3⟩ := rws_zip f3
        have okz : ∀ p, p ∈ zs → okW 20 p.1 = true := fun p hp => okWs_mem c1 p.1 (by rw [← g1]; exact List.mem_map.mpr ⟨p, hp, rfl⟩)
        have em : ∀ (f : W → PyData), (zs.map fun p => (f p.1, p.2)).map (·.1) = xs.map f := fun f => by rw [← g1, List.map_map, List.map_map]; rfl
        have e2m : (zs.map fun p => (toD p.1, p.2)).map (·.2) = vs := by rw [← g2, List.map_map]; rfl
        refine ⟨a, zs.map fun p => (toD p.1, p.2), rfl, by rw [e2m]; exact f2, ?_, ?_, ?_, fun q hq => ?_⟩
        · intro p hp
          obtain ⟨w, hw, rfl⟩ := List.mem_map.mp hp
          exact ⟨dp_of (okz w hw) (g3 w hw), (okW_lay 20 w.1 (okz w hw)).2⟩
        · rw [em]
          intro d hd d' hd'
          obtain ⟨w, hw, rfl⟩ := List.mem_map.mp hd
          obtain ⟨w', hw', rfl⟩ := List.mem_map.mp hd'
          exact (List.all_eq_true.mp ((List.all_eq_true.mp c2) w hw)) w' hw'
        · rw [em]
          rcases Bool.or_eq_true_iff.mp c3 with h | h
          · refine .inl fun d hd => ?_
            obtain ⟨w, hw, rfl⟩ := List.mem_map.mp hd
            have := (List.all_eq_true.mp h) w hw
            cases w with
            | tup ys =>
              cases ys with
              | nil => cases this
              | cons y ys => exact ⟨toD y, toDs ys, by simp [toD, toDs]⟩
            | _ => cases this
          · refine .inr fun d hd => ?_
            obtain ⟨w, hw, rfl⟩ := List.mem_map.mp hd
            have := (List.all_eq_true.mp h) w hw
            cases w with
            | bl b => exact ⟨by simp [toD], fun xs => by simp [toD]⟩
            | int b => exact ⟨by simp [toD], fun xs => by simp [toD]⟩
            | str b => exact ⟨by simp [toD], fun xs => by simp [toD]⟩
            | lst b => exact ⟨by simp [toD], fun xs => by simp [toD]⟩
            | _ => cases this
        · have i1 : (isort (PySem.W.dataLe false (·.1)) (zs.map fun p => (toD p.1, p.2))).map (·.2) = (isort (fun p p' : W × V => leD p.1 p'.1) zs).map (·.2) := by
            rw [isort_map, List.map_map]
            rfl
          have i2 : isort leD xs = (isort (fun p p' : W × V => leD p.1 p'.1) zs).map (·.1) := by
            rw [← g1, isort_map]
          rw [i2] at k
          show Q (.ref q) (upd H q (.lst ((isort (PySem.W.dataLe false (·.1)) (zs.map fun p => (toD p.1, p.2))).map (·.2))))
          rw [i1]
          obtain ⟨t1, t2, t3⟩ := new_rel (cl := cl) M hq (zip_rws (zs := isort (fun p p' : W × V => leD p.1 p'.1) zs) fun p hp => g3 p ((isort_perm _ zs).mem_iff.mp hp))
          exact k _ _ _ t1 t2 t3
      · cases e
    · cases e
  | [], e, _ => cases e
  | _ :: _ :: _, e, _ => simp [sortedW] at e
theorem boot_sorted : bootBuiltins "sorted" = some (.builtin "sorted") := by decide +kernel
end
end Dn

/-! D18: targets that store into lists: a[i], b[j] = e. -/
namespace Dn
open PySem PySem.Spec PyProof.Rows L2
section
variable {X : Cx} {cl : Nat → Addr} {Wx : WX} {e o : Expr} {pos : Pos}
abbrev DM := W → Rho → Mem → RS
def PostM (g : Gx) (z : Zn) (H : Hp) (q : RS) (Q : L2.St → Hp → Prop) : Prop := match q with
  | .next r m => ∀ z' s' H', Ext z H z' H' → Rel g.K g.cl z' r m s' H' → Q s' H'
  | _ => False
def tGm (g : Gx) (f : DM) : TG := fun v s H Q => ∃ w r m z, Rel g.K g.cl z r m s H ∧ RW g.K z H w v ∧ PostM g z H (f w r m) Q
def tGms (g : Gx) (f : List W → Rho → Mem → RS) : TGs := fun vs s H Q => ∃ ws r m z, Rel g.K g.cl z r m s H ∧ RWs g.K z H ws vs ∧ PostM g z H (f ws r m) Q
theorem PostM.mono {g : Gx} {z z1 : Zn} {H H1 : Hp} {q : RS} {Q : L2.St → Hp → Prop} (e : Ext z H z1 H1) (h : PostM g z H q Q) : PostM g z1 H1 q Q := by
  cases q with
  | next r m => exact fun z' s' H' e' => h z' s' H' (e.trans e')
  | _ => exact h
def gmN (i : Nat) : DM := fun w r m => .next (r.set i (some w)) m
def gmSub (fo fi : DE) : DM := fun v r m => match fo r m with
  | .ok w m1 => match fi r m1 with
    | .ok i m2 => match setM m2 w i v with
      | some m3 => .next r m3
      | none => .bad
    | _ => .bad
  | _ => .bad
def gmsNil : List W → Rho → Mem → RS := fun ws r m => match ws with
  | [] => .next r m
  | _ => .bad
def gmsCons (f : DM) (t : List W → Rho → Mem → RS) : List W → Rho → Mem → RS := fun ws r m => match ws with
  | w :: ws => match f w r m with
    | .next r1 m1 => t ws r1 m1
    | _ => .bad
  | [] => .bad
def gmT (n : Nat) (t : List W → Rho → Mem → RS) : DM := fun w r m => match w with
  | .tup ws => if ws.length = n then t ws r m else .bad
  | _ => .bad
theorem set_rel {K : PySem.W.Frag} {z : Zn} {m m' : Mem} {H : Hp} {w k v : W} {y u x : V} {Q : Hp → Prop} (M : MemOk K cl z m H) (ro : RW K z H w y) (r3 : RW K z H k u) (r1 : RW K z H v x) (e : setM m w k v = some m')
    (kk : ∀ z' H', Ext z H z' H' → MemOk K cl z' m' H' → Q H') : rSetL y u x H Q ∨ rSetD y u x H Q := by
  cases w with
  | ref n =>
    obtain ⟨p, q1, q2⟩ := ro
    subst q2
    simp only [setM] at e
    cases q : m[n]? with
    | none => rw [q] at e; cases e
    | some c =>
      rw [q] at e
      cases c with
      | lst xs =>
        cases k with
        | int j =>
          have r3 : u = .int j := r3
          subst r3
          simp only at e
          cases q4 : ixN xs.length j with
          | none => rw [q4] at e; cases e
          | some l =>
            rw [q4] at e
            cases e
            obtain ⟨n1, n2, us, h2, h3⟩ := M.cells n p _ q1 q
            refine .inl ⟨p, us, j, l, rfl, rfl, h2, by rw [h3.length]; exact q4, ?_⟩
            obtain ⟨ex, M2⟩ := M.write (c' := .lst (xs.set l v)) (o' := .lst (us.set l x)) q1 q rfl fun ex => ⟨n1, n2, _, upd_same, RWs.set (r1.ext ex) l (RWs.ext ex h3)⟩
            exact kk _ _ ex M2
        | _ => cases e
      | dct kvs =>
        simp only at e
        cases q4 : keyW k with
        | none => rw [q4] at e; cases e
        | some key =>
          rw [q4] at e
          simp only at e
          by_cases hl : kvs.length < 16777216
          · rw [if_pos hl] at e
            cases e
            obtain ⟨n2, us, h2, h3⟩ := M.cells n p _ q1 q
            have hy := key_rel r3 q4
            subst hy
            refine .inr ⟨p, _, rfl, DPut.k h2 (by rw [h3.length]; exact sl_lt hl), ?_⟩
            obtain ⟨ex, M2⟩ := M.write (c' := .dct (putW kvs key v)) (o' := .dK (putK us key x)) q1 q rfl fun ex => ⟨n2, _, upd_same, putW_rel (r1.ext ex) (RFs.ext ex h3)⟩
            exact kk _ _ ex M2
          · rw [if_neg hl] at e; cases e
      | fz xs => cases e
      | ins c fs => cases e
  | _ => cases e
theorem sm_name {i : Nat} {x : Str} (h : PG X (.Name x pos) (gName i)) : PG X (.Name x pos) (tGm (gx X cl Wx) (gmN i)) :=
  h.imp fun v s H Q ⟨w, r, m, z, R, q, k⟩ => k z _ H (Ext.refl _ _) ⟨R.slots.set q, R.mem⟩
theorem sm_sub {fo fi : DE} {i : Expr} (hu : X.A.units + 1 < cLine) (ho : PE X o (tE (gx X cl Wx) fo)) (hi : PE X i (tE (gx X cl Wx) fi))
    (ha : ∀ v, assign (.Subscript o i pos) X.env v = (do
      let ov ← holding [v] (eval o X.env)
      let iv ← holding [v, ov] (eval i X.env)
      standAt pos
      holding [v, ov, iv] (setItem ov iv v)
      release [v, ov, iv] []) := by intro _; rfl) : PG X (.Subscript o i pos) (tGm (gx X cl Wx) (gmSub fo fi)) :=
  (pg_sub ho hi (PSet.or set_list (set_dict hu)) ha).imp fun v s H Q ⟨w, r, m, z, R, q, P⟩ => by
    unfold gmSub at P
    refine ⟨r, m, z, R, ?_⟩
    cases e1 : fo r m with
    | exc x m1 => rw [e1] at P; exact P.elim
    | bad => rw [e1] at P; exact P.elim
    | ok w1 m1 =>
      rw [e1] at P
      simp only at P
      intro z1 y H1 E1 R1 r1
      refine ⟨r, m1, z1, R1, ?_⟩
      cases e2 : fi r m1 with
      | exc x m2 => rw [e2] at P; exact P.elim
      | bad => rw [e2] at P; exact P.elim
      | ok i2 m2 =>
        rw [e2] at P
        simp only at P
        intro z2 u H2 E2 R2 r2
        cases e3 : setM m2 w1 i2 w with
        | none => rw [e3] at P; exact P.elim
        | some m3 =>
          rw [e3] at P
          have P := PostM.mono (E1.trans E2) P
          exact set_rel R2.mem (RW.ext E2 r1) r2 (RW.ext (E1.trans E2) q) e3 fun z' H' ex M => P z' s H' ex (R2.after ex M)
theorem sms_nil : PGs X [] (tGms (gx X cl Wx) gmsNil) := pgs_nil.imp fun vs s H Q ⟨ws, r, m, z, R, q, k⟩ => by
  cases ws with
  | nil => exact ⟨q, k z s H (Ext.refl _ _) R⟩
  | cons w ws => exact k.elim
theorem sms_cons {es : List Expr} {f : DM} {t : List W → Rho → Mem → RS} (h1 : PG X e (tGm (gx X cl Wx) f)) (h2 : PGs X es (tGms (gx X cl Wx) t))
    (hs : (assignEach (e :: es) X.env).map (·.2) = assign e X.env :: (assignEach es X.env).map (·.2) := by rfl) : PGs X (e :: es) (tGms (gx X cl Wx) (gmsCons f t)) :=
  (pgs_cons h1 h2 hs).imp fun vs s H Q ⟨ws, r, m, z, R, q, k⟩ => by
    cases ws with
    | nil => exact k.elim
    | cons w ws =>
      obtain ⟨v, vr, e1, q1, q2⟩ := q
      refine ⟨v, vr, e1, w, r, m, z, R, q1, ?_⟩
      simp only [gmsCons] at k
      cases e2 : f w r m with
      | next r1 m1 =>
        rw [e2] at k
        exact fun z' s' H' ex R' => ⟨ws, r1, m1, z', R', RWs.ext ex q2, PostM.mono ex k⟩
      | _ => rw [e2] at k; exact k.elim
theorem sm_tup {es : List Expr} {x1 : Nat} {t : List W → Rho → Mem → RS} {n : Nat} (hc : X.calm = true) (h : PGs X es (tGms (gx X cl Wx) t))
    (hn : (assignEach es X.env).length = n := by rfl) (hst : (assignEach es X.env).findIdx? (·.1) = none := by rfl) : PG X (.Tuple es x1 pos) (tGm (gx X cl Wx) (gmT n t)) :=
  (pg_tup hc h hn hst).imp fun v s H Q ⟨w, r, m, z, R, q, k⟩ => by
    cases w with
    | tup ws =>
      obtain ⟨p, vs, e1, e2, e3⟩ := q
      simp only [gmT] at k
      split at k
      · rename_i hl
        exact ⟨p, vs, e1, e2, by rw [e3.length]; exact hl, ws, r, m, z, R, e3, k⟩
      · exact k.elim
    | _ => exact k.elim
def sAsgM (f : DE) (t : DM) : DS := fun r m => (f r m).thenS r fun w m1 => match t w r m1 with
  | .next r' m2 => .next r' m2
  | _ => .bad
theorem ss_asgM {tg : Expr} {f : DE} {t : DM} (he : PE X e (tE (gx X cl Wx) f)) (hg : PG X tg (tGm (gx X cl Wx) t)) (hs : swapsWithSole [tg] e pos.line X.env = pure false := by rfl) (hw : swappedStores [tg] e X.env = pure none := by rfl)
    (h1 : (assignEach [tg] X.env).map (·.2) = [assign tg X.env] := by rfl) : PS X (.Assign [tg] e pos) (tS (gx X cl Wx) (sAsgM f t)) :=
  (ps_asg he hg hs hw h1).imp fun D s H ⟨r, m, z, R, P⟩ => ⟨r, m, z, R, P.bind fun z1 w m1 v H1 E1 R1 r1 P1 => by
    refine ⟨w, r, m1, z1, R1, r1, ?_⟩
    cases e2 : t w r m1 with
    | next r' m2 => rw [e2] at P1; exact fun z' s' H' ex R' => P1 z' s' H' ex R'
    | _ => rw [e2] at P1; exact P1.elim⟩
/-- a, b, c = x, y, z by names -/
def sPar3 (i j l : Nat) (t : DA) : DS := fun r m => (t r m).thenS r fun ws m1 => match ws with
  | [u, v, w] => .next (((r.set i (some u)).set j (some v)).set l (some w)) m1
  | _ => .bad
theorem ss_par3 {i j l : Nat} {x y z : Str} {a b c : Expr} {t : DA} {px py pz pt : Pos} {kt k2 pt2} (hc : X.calm = true) (hN : X.N.Nodup) (hi : X.N[i]? = some x) (hj : X.N[j]? = some y) (hl : X.N[l]? = some z) (hij : i ≠ j) (hil : i ≠ l) (hjl : j ≠ l)
    (hx : X.env.scope.names.lookup x = some .local) (hy : X.env.scope.names.lookup y = some .local) (hz : X.env.scope.names.lookup z = some .local) (ha : PA X [a, b, c] (tA (gx X cl Wx) t))
    (hw : swappedStores [.Tuple [.Name x px, .Name y py, .Name z pz] kt pt] (.Tuple [a, b, c] k2 pt2) X.env = pure (some [x, y, z]))
    (hs : swapsWithSole [.Tuple [.Name x px, .Name y py, .Name z pz] kt pt] (.Tuple [a, b, c] k2 pt2) pos.line X.env = pure false := by rfl) :
    PS X (.Assign [.Tuple [.Name x px, .Name y py, .Name z pz] kt pt] (.Tuple [a, b, c] k2 pt2) pos) (tS (gx X cl Wx) (sPar3 i j l t)) :=
  (ps_par3 hc hN hi hj hl hij hil hjl hx hy hz ha hw hs).imp fun D s H ⟨r, m, z, R, P⟩ => ⟨r, m, z, R, P.bind (rel := RWs X.K) fun z1 ws m1 vs H1 E1 R1 r1 P1 => by
    split at P1
    · obtain ⟨v, vr, e1, q1, v2, vr2, e2, q2, v3, vr3, e3, q3, e4⟩ := r1
      subst e1 e2 e3 e4
      exact ⟨v, v2, v3, rfl, P1 z1 _ H1 (Ext.refl _ _) ⟨((R1.slots.set q1).set q2).set q3, R1.mem⟩⟩
    · exact P1.elim⟩
/-- (a, b, ..) = a tuple or a list of that length -/
def gmU (n : Nat) (t : List W → Rho → Mem → RS) : DM := fun w r m => match seqOf m w with
  | some ws => if ws.length = n then t ws r m else .bad
  | none => .bad
theorem pg_any {es : List Expr} {k : Nat} {t : TGs} {n : Nat} (hc : X.calm = true) (h : PGs X es t)
    (hn : (assignEach es X.env).length = n := by rfl) (hst : (assignEach es X.env).findIdx? (·.1) = none := by rfl) : PG X (.Tuple es k pos) (fun v s H Q => gTup X.K n t v s H Q ∨ gUnl X.K n t v s H Q) :=
  ⟨fun pins sh s H v u Q I rv q => q.elim (fun q => (pg_tup hc h hn hst).run pins sh s H v u Q I rv q) fun q => (pg_unl hc h hn hst).run pins sh s H v u Q I rv q⟩
theorem sm_unp {es : List Expr} {x1 : Nat} {t : List W → Rho → Mem → RS} {n : Nat} (hc : X.calm = true) (h : PGs X es (tGms (gx X cl Wx) t))
    (hn : (assignEach es X.env).length = n := by rfl) (hst : (assignEach es X.env).findIdx? (·.1) = none := by rfl) : PG X (.Tuple es x1 pos) (tGm (gx X cl Wx) (gmU n t)) :=
  (pg_any hc h hn hst).imp fun v s H Q ⟨w, r, m, z, R, q, k⟩ => by
    unfold gmU at k
    cases e0 : seqOf m w with
    | none => rw [e0] at k; exact k.elim
    | some ws =>
      rw [e0] at k
      simp only at k
      split at k
      · rename_i hl
        obtain ⟨p, vs, e1, e2, e3⟩ := seq_at R.mem q e0
        rcases e2 with e2 | e2
        · exact .inr ⟨p, vs, e1, e2, by rw [e3.length]; exact hl, ws, r, m, z, R, e3, k⟩
        · exact .inl ⟨p, vs, e1, e2, by rw [e3.length]; exact hl, ws, r, m, z, R, e3, k⟩
      · exact k.elim
def loopM (t : DM) (body : DS) : List W → Rho → Mem → RS
  | [], r, m => .next r m
  | w :: ws, r, m => match t w r m with
    | .next r1 m1 => match body r1 m1 with
      | .next r2 m2 => loopM t body ws r2 m2
      | .cont r2 m2 => loopM t body ws r2 m2
      | .brk r2 m2 => .next r2 m2
      | .ret u m2 => .ret u m2
      | .exc x r2 m2 => .exc x r2 m2
      | .bad => .bad
    | _ => .bad
def sForM (src : DA) (t : DM) (body : DS) : DS := fun r m => (src r m).thenS r fun ws m1 => loopM t body ws r m1
theorem ss_forM {tg iter : Expr} {body : List Stmt} {src : DA} {t : DM} {fb : DS} (hp : PassesOwn (model X.prog X.w) X.A X.env X.xe) (hc : X.calm = true) (hi : PI X tg iter (tI (gx X cl Wx) src)) (hg : PG X tg (tGm (gx X cl Wx) t)) (hb : PSs X body (tS (gx X cl Wx) fb))
    (hs : ∀ x, foldedSetIterable iter X.env x = pure x := by intro _; rfl) : PS X (.For tg iter body [] pos) (tS (gx X cl Wx) (sForM src t fb)) :=
  (ps_for hp hc hi hg hb hs).imp fun D s H ⟨r, m, z, R, P⟩ => ⟨r, m, z, R, P.bind (rel := Walks X.K) fun z1 ws m1 J H1 E1 R1 r1 P1 => by
    refine ⟨fun i k s' H' => ∃ r' m' z', k = ws.length - i ∧ i ≤ ws.length ∧ Rel X.K cl z' r' m' s' H' ∧ Ext z1 H1 z' H' ∧ PostS (gx X cl Wx) z' H' (loopM t fb (ws.drop i) r' m') D, ⟨ws.length, r, m1, z1, by simp, Nat.zero_le _, R1, Ext.refl _ _, by simpa using P1⟩, ?_⟩
    rintro i k s2 H2 ⟨r2, m2, z2, rfl, hi2, R2, E2, P2⟩
    obtain ⟨hstop, hgo⟩ := r1.2 z2 H2 E2.e0 i
    by_cases hlt : i < ws.length
    · obtain ⟨g1, g2⟩ := hgo ws[i] (List.getElem?_eq_getElem hlt)
      rw [List.drop_eq_getElem_cons hlt] at P2
      simp only [loopM] at P2
      refine .inr ⟨g1, fun s' H' => ∃ r' m' z', Rel X.K cl z' r' m' s' H' ∧ Ext z1 H1 z' H' ∧ PostS (gx X cl Wx) z' H' (loopM t fb (ws.drop (i + 1)) r' m') D, fun s' H' ⟨r', m', z', a1, a2, a3⟩ => ⟨ws.length - (i + 1), by omega, r', m', z', rfl, hlt, a1, a2, a3⟩, fun x H3 y => ?_⟩
      obtain ⟨sm, q3⟩ := g2 x H3 y
      have E3 := R2.mem.extS sm
      have R3 := R2.same sm
      have P3 := PostS.mono E3 P2
      refine ⟨ws[i], r2, m2, z2, R3, q3 z2 E3.e0, ?_⟩
      cases q4 : t ws[i] r2 m2 with
      | next r4 m4 =>
        rw [q4] at P3
        intro z4 s4 H4 e4 R4
        have P4 := PostS.mono e4 P3
        refine ⟨r4, m4, z4, R4, ?_⟩
        simp only at P4
        cases q5 : fb r4 m4 with
        | next r5 m5 =>
          rw [q5] at P4
          exact fun z' s' H' e5 R5 => ⟨r5, m5, z', R5, ((E2.trans E3).trans e4).trans e5, PostS.mono e5 P4⟩
        | cont r5 m5 =>
          rw [q5] at P4
          exact fun z' s' H' e5 R5 => ⟨r5, m5, z', R5, ((E2.trans E3).trans e4).trans e5, PostS.mono e5 P4⟩
        | brk r5 m5 => rw [q5] at P4; exact P4
        | ret u m5 => rw [q5] at P4; exact P4
        | exc x r5 m5 => rw [q5] at P4; exact P4
        | bad => rw [q5] at P4; exact P4
      | _ => rw [q4] at P3; exact P3.elim
    · have hi3 : ws.length ≤ i := Nat.le_of_not_lt hlt
      refine .inl ⟨hstop (Nat.le_antisymm hi2 hi3), ?_⟩
      rw [List.drop_eq_nil_of_le hi3] at P2
      exact P2.next R2⟩
/-! ### max, min of a list of ints -/
def maxI : List Int → Int
  | [] => 0
  | [n] => n
  | n :: ns => max n (maxI ns)
def minI : List Int → Int
  | [] => 0
  | [n] => n
  | n :: ns => min n (minI ns)
theorem maxI_is : ∀ ns : List Int, ns ≠ [] → maxI ns ∈ ns ∧ ∀ y, y ∈ ns → y ≤ maxI ns
  | [], h => absurd rfl h
  | [n], _ => ⟨.head _, fun y h => by simp at h; subst h; exact Int.le_refl _⟩
  | n :: k :: ns, _ => by
    obtain ⟨h1, h2⟩ := maxI_is (k :: ns) (by simp)
    rw [maxI]
    refine ⟨?_, fun y h => ?_⟩
    · by_cases c : n ≤ maxI (k :: ns)
      · rw [Int.max_eq_right c]; exact .tail _ h1
      · rw [Int.max_eq_left (by omega)]; exact .head _
    · rcases List.mem_cons.mp h with rfl | h
      · exact Int.le_max_left _ _
      · exact Int.le_trans (h2 y h) (Int.le_max_right _ _)
    all_goals simp
theorem minI_is : ∀ ns : List Int, ns ≠ [] → minI ns ∈ ns ∧ ∀ y, y ∈ ns → minI ns ≤ y
  | [], h => absurd rfl h
  | [n], _ => ⟨.head _, fun y h => by simp at h; subst h; exact Int.le_refl _⟩
  | n :: k :: ns, _ => by
    obtain ⟨h1, h2⟩ := minI_is (k :: ns) (by simp)
    rw [minI]
    refine ⟨?_, fun y h => ?_⟩
    · by_cases c : n ≤ minI (k :: ns)
      · rw [Int.min_eq_left c]; exact .head _
      · rw [Int.min_eq_right (by omega)]; exact .tail _ h1
    · rcases List.mem_cons.mp h with rfl | h
      · exact Int.min_le_left _ _
      · exact Int.le_trans (Int.min_le_right _ _) (h2 y h)
    all_goals simp
def maxLW (m : Mem) : List W → Option W
  | [w] => match lstOf m w with
    | some ws => match intsW ws with
      | some (n :: ns) => some (.int (maxI (n :: ns)))
      | _ => none
    | none => none
  | _ => none
def minLW (m : Mem) : List W → Option W
  | [w] => match lstOf m w with
    | some ws => match intsW ws with
      | some (n :: ns) => some (.int (minI (n :: ns)))
      | _ => none
    | none => none
  | _ => none
theorem ints_rel {K : PySem.W.Frag} {z : Zn} {H : Hp} : ∀ {ws : List W} {vs : List V} {ns : List Int}, RWs K z H ws vs → intsW ws = some ns → vs = ns.map V.int
  | [], _, _, h, e => by cases h; cases e; rfl
  | w :: ws, _, ns, ⟨v, r, h1, h2, h3⟩, e => by
    subst h1
    cases w with
    | int i =>
      simp only [intsW] at e
      cases q : intsW ws with
      | none => rw [q] at e; cases e
      | some ks =>
        rw [q] at e
        simp at e
        subst e
        rw [ints_rel h3 q, show v = .int i from h2]
        rfl
    | _ => simp [intsW] at e
theorem w_maxL {K : PySem.W.Frag} : ClW K cl maxLW (rMax K) := by
  intro z m H ws vs w Q M rws e k
  match ws, e, rws with
  | [u], e, rws =>
    obtain ⟨v, e1, e2⟩ := rws.one
    subst e1
    simp only [maxLW] at e
    split at e
    · rename_i xs ex
      split at e
      · rename_i n ns ei
        cases e
        obtain ⟨a, us, f1, f2, f3⟩ := lst_at M e2 ex
        subst f1
        have f4 := ints_rel f3 ei
        subst f4
        refine ⟨a, n :: ns, rfl, f2, by simp, fun i h1 h2 => ?_⟩
        obtain ⟨g1, g2⟩ := maxI_is (n :: ns) (by simp)
        have : i = maxI (n :: ns) := Int.le_antisymm (g2 i h1) (h2 _ g1)
        subst this
        exact k z _ H (Ext.refl _ _) M rfl
      · cases e
    · cases e
  | [], e, _ => cases e
  | _ :: _ :: _, e, _ => simp [maxLW] at e
theorem w_minL {K : PySem.W.Frag} : ClW K cl minLW (rMin K) := by
  intro z m H ws vs w Q M rws e k
  match ws, e, rws with
  | [u], e, rws =>
    obtain ⟨v, e1, e2⟩ := rws.one
    subst e1
    simp only [minLW] at e
    split at e
    · rename_i xs ex
      split at e
      · rename_i n ns ei
        cases e
        obtain ⟨a, us, f1, f2, f3⟩ := lst_at M e2 ex
        subst f1
        have f4 := ints_rel f3 ei
        subst f4
        refine ⟨a, n :: ns, rfl, f2, by simp, fun i h1 h2 => ?_⟩
        obtain ⟨g1, g2⟩ := minI_is (n :: ns) (by simp)
        have : i = minI (n :: ns) := Int.le_antisymm (h2 _ g1) (g2 i h1)
        subst this
        exact k z _ H (Ext.refl _ _) M rfl
      · cases e
    · cases e
  | [], e, _ => cases e
  | _ :: _ :: _, e, _ => simp [minLW] at e
end
end Dn

/-! D19: is not of bools. -/
namespace Dn
open PySem PySem.Spec PyProof.Rows L2
section
variable {K : PySem.W.Frag} {cl : Nat → Addr}
def notBW (_ : Mem) (a b : W) : Option W := match a, b with
  | .bl x, .bl y => some (.bl (!decide (x = y)))
  | _, _ => none
theorem w_notB : OpW K cl notBW rNotB := by
  intro z m H a b x y w Q M ra rb e k
  unfold notBW at e
  split at e
  · cases e
    exact ⟨_, _, ra, rb, k z _ H (Ext.refl _ _) M rfl⟩
  · cases e
end
end Dn

/-! Q1: plain lemmas over denotations. -/
namespace Dn
open PySem PySem.Spec PyProof.Rows L2

/-! ### ground data, settling -/
mutual
theorem frzA_g (f : Nat → Option W) : ∀ w : W, gW w = true → frzA f w = some w
  | .non, _ => by simp [frzA]
  | .bl _, _ => by simp [frzA]
  | .int _, _ => by simp [frzA]
  | .str _, _ => by simp [frzA]
  | .tup xs, h => by
    rw [gW] at h
    simp [frzA, frzAs_g f xs h]
  | .lst xs, h => by
    rw [gW] at h
    simp [frzA, frzAs_g f xs h]
  | .old xs, h => by
    rw [gW] at h
    simp [frzA, frzAs_g f xs h]
  | .ref n, h => by simp [gW] at h
  | .raw _, _ => by simp [frzA]
theorem frzAs_g (f : Nat → Option W) : ∀ ws : List W, gWs ws = true → frzAs f ws = some ws
  | [], _ => by simp [frzAs]
  | w :: ws, h => by
    rw [gWs, Bool.and_eq_true_iff] at h
    simp [frzAs, frzA_g f w h.1, frzAs_g f ws h.2]
end
theorem frzW_g (m : Mem) (k : Nat) (w : W) (h : gW w = true) : frzW m k w = some w := frzA_g _ w h
theorem frzW_lst0 {m : Mem} {k n : Nat} {xs : List W} (h : m[n]? = some (.lst xs)) (g : gWs xs = true) : frzW m (k + 1) (.ref n) = some (.lst xs) := by
  rw [frzW, frzA]
  simp only [frzR, h, frzAs_g _ xs g, Option.map_some]
theorem pw_g {g : Fw} {ws : List W} {m m1 : Mem} {w : W} (h1 : gWs ws = true) (h2 : g ws [] = .ok w m1) (h3 : gW w = true) : pw g ws m = .ok w m := pw_ok h1 h2 (frzW_g m1 6 w h3)
theorem gWs_map {α : Type} {f : α → W} (h : ∀ x, gW (f x) = true) : ∀ l : List α, gWs (l.map f) = true
  | [] => rfl
  | x :: l => by rw [List.map_cons, gWs, h x, gWs_map h l]; rfl
theorem gWs_ints (l : List Int) : gWs (l.map .int) = true := gWs_map (fun _ => rfl) l
theorem gW_tup (xs : List W) : gW (.tup xs) = gWs xs := by rw [gW]
theorem gW_lst (xs : List W) : gW (.lst xs) = gWs xs := by rw [gW]
theorem gWs_cons (x : W) (xs : List W) : gWs (x :: xs) = (gW x && gWs xs) := by rw [gWs]
theorem gWs_nil : gWs [] = true := rfl
theorem gW_int (i : Int) : gW (.int i) = true := rfl
theorem gW_str (x : Str) : gW (.str x) = true := rfl
theorem gW_bl (b : Bool) : gW (.bl b) = true := rfl
theorem gW_non : gW .non = true := rfl
theorem gWs_append : ∀ xs ys : List W, gWs (xs ++ ys) = (gWs xs && gWs ys)
  | [], ys => by simp [gWs]
  | x :: xs, ys => by rw [List.cons_append, gWs, gWs_append xs ys, gWs, Bool.and_assoc]

/-! ### data that can be compared -/
theorem okWs_map {α : Type} {f : α → W} {n : Nat} (h : ∀ x, okW n (f x) = true) : ∀ l : List α, okWs n (l.map f) = true
  | [] => rfl
  | x :: l => by rw [List.map_cons, okWs, h x, okWs_map h l]; rfl
theorem okWs_int (n : Nat) (l : List Int) : okWs n (l.map .int) = true := okWs_map (fun _ => rfl) l
theorem okW_tup (n : Nat) (xs : List W) : okW (n + 1) (.tup xs) = okWs n xs := by rw [okW]
theorem okW_lst (n : Nat) (xs : List W) : okW (n + 1) (.lst xs) = okWs n xs := by rw [okW]
theorem okWs_append (n : Nat) : ∀ xs ys : List W, okWs n (xs ++ ys) = (okWs n xs && okWs n ys)
  | [], ys => by simp [okWs]
  | x :: xs, ys => by rw [List.cons_append, okWs, okWs_append n xs ys, okWs, Bool.and_assoc]
mutual
theorem eqW_refl : ∀ (n : Nat) (w : W), okW n w = true → eqW w w = true
  | _, .non, _ => rfl
  | _, .bl b, _ => by cases b <;> rfl
  | _, .int i, _ => by simp [eqW]
  | _, .str x, _ => by simp [eqW]
  | 0, .tup xs, h => by simp [okW] at h
  | n + 1, .tup xs, h => by rw [okW] at h; rw [eqW]; exact eqWs_refl n xs h
  | 0, .lst xs, h => by simp [okW] at h
  | n + 1, .lst xs, h => by rw [okW] at h; rw [eqW]; exact eqWs_refl n xs h
  | 0, .old xs, h => by simp [okW] at h
  | n + 1, .old xs, h => by rw [okW] at h; rw [eqW]; exact eqWs_refl n xs h
  | _, .ref _, h => by simp [okW] at h
  | _, .raw _, h => by simp [okW] at h
theorem eqWs_refl : ∀ (n : Nat) (ws : List W), okWs n ws = true → eqWs ws ws = true
  | _, [], _ => rfl
  | n, w :: ws, h => by
    rw [okWs, Bool.and_eq_true_iff] at h
    rw [eqWs, eqW_refl n w h.1, eqWs_refl n ws h.2]
    rfl
end
theorem rsv_ok {m : Mem} {n : Nat} {w : W} (h : okW n w = true) : rsv m w = w := by
  cases w <;> first | rfl | (simp [okW] at h)
theorem eqM_ok {m : Mem} {a b : W} (ha : okW 60 a = true) (hb : okW 60 b = true) : eqM m a b = some (.bl (eqW a b)) := by
  unfold eqM
  rw [rsv_ok ha, rsv_ok hb, ha, hb]
  rfl
theorem neM_ok {m : Mem} {a b : W} (ha : okW 60 a = true) (hb : okW 60 b = true) : neM m a b = some (.bl (!eqW a b)) := by
  unfold neM
  rw [rsv_ok ha, rsv_ok hb, ha, hb]
  rfl
theorem eqM_same {m : Mem} {a : W} (ha : okW 60 a = true) : eqM m a a = some (.bl true) := by rw [eqM_ok ha ha, eqW_refl 60 a ha]
theorem neM_same {m : Mem} {a : W} (ha : okW 60 a = true) : neM m a a = some (.bl false) := by rw [neM_ok ha ha, eqW_refl 60 a ha]; rfl
theorem eqM_int {m : Mem} {i j : Int} : eqM m (.int i) (.int j) = some (.bl (i == j)) := rfl
theorem neM_int {m : Mem} {i j : Int} : neM m (.int i) (.int j) = some (.bl (!(i == j))) := rfl
theorem eqWs_ints : ∀ xs ys : List Int, eqWs (xs.map .int) (ys.map .int) = decide (xs = ys)
  | [], [] => rfl
  | [], _ :: _ => rfl
  | _ :: _, [] => rfl
  | x :: xs, y :: ys => by
    rw [List.map_cons, List.map_cons, eqWs, eqWs_ints xs ys, eqW]
    by_cases h : x = y
    · subst h; simp
    · simp [h]
theorem eqWs_nil_map {α : Type} {f : α → W} (l : List α) : eqWs (l.map f) [] = l.isEmpty := by cases l <;> rfl
theorem anyEq_ints (p : Int) : ∀ l : List Int, anyEq (.int p) (l.map .int) = l.contains p
  | [] => rfl
  | x :: l => by
    rw [List.map_cons, anyEq, anyEq_ints p l, List.contains_cons, eqW]
    have e : (x == p) = (p == x) := by
      by_cases h : p = x
      · subst h; rfl
      · rw [beq_eq_false_iff_ne.mpr h, beq_eq_false_iff_ne.mpr fun q => h q.symm]
    rw [e]
theorem inM_ints {m : Mem} {p : Int} {l : List Int} {neg : Bool} : inM neg m (.int p) (.tup (l.map .int)) = some (.bl (if neg then !l.contains p else l.contains p)) := by
  simp only [inM, seqOf, okWs_int, rsv, okW, Bool.and_self, if_true, anyEq_ints]
theorem inM_intsL {m : Mem} {p : Int} {l : List Int} {neg : Bool} : inM neg m (.int p) (.lst (l.map .int)) = some (.bl (if neg then !l.contains p else l.contains p)) := by
  simp only [inM, seqOf, okWs_int, rsv, okW, Bool.and_self, if_true, anyEq_ints]

/-! ### items, slices -/
theorem atI_get {α : Type} {xs : List α} {i : Int} {n : Nat} {x : α} (hi : i = n) (h : xs[n]? = some x) : atI xs i = some x := by
  subst hi
  have hn := (List.getElem?_eq_some_iff.mp h).1
  unfold atI ixN
  rw [if_pos (by omega), if_pos (by omega)]
  simpa using h
theorem cut_to {xs : List W} {k : Nat} : cutW xs none (some (k : Int)) = xs.take k := by
  unfold cutW
  rw [HT.sIx_none, HT.sIx_nat]
  simp only [List.drop_zero, Nat.sub_zero]
  rw [List.take_eq_take_iff]
  omega
theorem cut_from {xs : List W} {k : Nat} : cutW xs (some (k : Int)) none = xs.drop k := by
  unfold cutW
  rw [HT.sIx_none, HT.sIx_nat]
  by_cases h : k ≤ xs.length
  · rw [Nat.min_eq_left h]
    exact List.take_of_length_le (by simp)
  · have h : xs.length ≤ k := by omega
    rw [Nat.min_eq_right h, List.drop_eq_nil_of_le h]
    simp
theorem cut_toI {xs : List W} {k : Int} (h : 0 ≤ k) : cutW xs none (some k) = xs.take k.toNat := by
  obtain ⟨n, rfl⟩ : ∃ n : Nat, k = n := ⟨k.toNat, by omega⟩
  rw [cut_to]; rfl
theorem cut_fromI {xs : List W} {k : Int} (h : 0 ≤ k) : cutW xs (some k) none = xs.drop k.toNat := by
  obtain ⟨n, rfl⟩ : ∃ n : Nat, k = n := ⟨k.toNat, by omega⟩
  rw [cut_from]; rfl
theorem cut_all {xs : List W} : cutW xs none none = xs := by
  unfold cutW
  rw [HT.sIx_none, HT.sIx_none]
  simp

/-! ### comprehensions -/
theorem compL_map {α : Type} {t : DG} {c : DT} {f : DE} {vs : List Nat} {r : Rho} {m : Mem} (w : α → W) (p : α → Bool) (g : α → W) (rr : α → Rho) :
    ∀ l : List α, (∀ x, x ∈ l → t (w x) (wipeR r vs) = some (rr x)) → (∀ x, x ∈ l → c (rr x) m = .ok (p x) m) → (∀ x, x ∈ l → p x = true → f (rr x) m = .ok (g x) m) → compL t c f vs (l.map w) r m = .ok ((l.filter p).map g) m
  | [], _, _, _ => rfl
  | x :: l, h1, h2, h3 => by
    have ih := compL_map (c := c) (f := f) w p g rr l (fun y q => h1 y (.tail _ q)) (fun y q => h2 y (.tail _ q)) fun y q => h3 y (.tail _ q)
    rw [List.map_cons, compL, h1 x (.head _)]
    simp only [h2 x (.head _)]
    cases q : p x with
    | true =>
      simp only [h3 x (.head _) q, ih, Dn.R.bind, List.filter_cons, q, if_true, List.map_cons]
    | false =>
      simp only [ih, List.filter_cons, q, Bool.false_eq_true, if_false]
/-- .. all of them -/
theorem compL_all {α : Type} {t : DG} {f : DE} {vs : List Nat} {r : Rho} {m : Mem} (w : α → W) (g : α → W) (rr : α → Rho) (l : List α)
    (h1 : ∀ x, x ∈ l → t (w x) (wipeR r vs) = some (rr x)) (h3 : ∀ x, x ∈ l → f (rr x) m = .ok (g x) m) : compL t dYes f vs (l.map w) r m = .ok (l.map g) m := by
  have := compL_map (c := dYes) w (fun _ => true) g rr l h1 (fun _ _ => rfl) fun x q _ => h3 x q
  rwa [List.filter_eq_self.mpr fun _ _ => rfl] at this

/-! ### loops -/
theorem loop_ex {α β : Type} {t : DG} {body : DS} (w : α → W) (P : β → Rho → Mem → Prop) (step : β → α → β) :
    ∀ (l : List α) (b : β) (r : Rho) (m : Mem), (∀ b x r m, x ∈ l → P b r m → ∃ r1 r2 m2, t (w x) r = some r1 ∧ (body r1 m = .next r2 m2 ∨ body r1 m = .cont r2 m2) ∧ P (step b x) r2 m2) → P b r m →
      ∃ r' m', loop t body (l.map w) r m = .next r' m' ∧ P (l.foldl step b) r' m'
  | [], b, r, m, _, h => ⟨r, m, rfl, h⟩
  | x :: l, b, r, m, hs, h => by
    obtain ⟨r1, r2, m2, e1, e2, h2⟩ := hs b x r m (.head _) h
    obtain ⟨r', m', e3, h3⟩ := loop_ex w P step l (step b x) r2 m2 (fun b y r m q => hs b y r m (.tail _ q)) h2
    refine ⟨r', m', ?_, h3⟩
    rw [List.map_cons, loop, e1]
    rcases e2 with e2 | e2 <;> simp only [e2, e3]
/-- the body passes, and leaves Q -/
def GoesD (q : RS) (Q : Rho → Mem → Prop) : Prop := match q with
  | .next r m => Q r m
  | .cont r m => Q r m
  | _ => False
def Steps (t : DG) (body : DS) (wx : W) (r : Rho) (m : Mem) (Q : Rho → Mem → Prop) : Prop := match t wx r with
  | none => False
  | some r1 => GoesD (body r1 m) Q
theorem loop_pre {α : Type} {t : DG} {body : DS} (w : α → W) (P : List α → Rho → Mem → Prop) (l : List α) (r : Rho) (m : Mem) (h0 : P [] r m)
    (hs : ∀ pre x post r m, l = pre ++ x :: post → P pre r m → Steps t body (w x) r m (P (pre ++ [x]))) :
    ∃ r' m', loop t body (l.map w) r m = .next r' m' ∧ P l r' m' := by
  have go : ∀ (post pre : List α) (r : Rho) (m : Mem), l = pre ++ post → P pre r m → ∃ r' m', loop t body (post.map w) r m = .next r' m' ∧ P l r' m' := by
    intro post
    induction post with
    | nil => intro pre r m e h; rw [List.append_nil] at e; subst e; exact ⟨r, m, rfl, h⟩
    | cons x post ih =>
      intro pre r m e h
      have h2 := hs pre x post r m e h
      unfold Steps at h2
      rw [List.map_cons, loop]
      cases e1 : t (w x) r with
      | none => simp only [e1] at h2
      | some r1 =>
        simp only [e1] at h2 ⊢
        cases e2 : body r1 m with
        | next r2 m2 =>
          simp only [e2, GoesD] at h2 ⊢
          exact ih (pre ++ [x]) _ _ (by rw [e]; simp) h2
        | cont r2 m2 =>
          simp only [e2, GoesD] at h2 ⊢
          exact ih (pre ++ [x]) _ _ (by rw [e]; simp) h2
        | brk r2 m2 => simp only [e2, GoesD] at h2
        | ret u m2 => simp only [e2, GoesD] at h2
        | exc y r2 m2 => simp only [e2, GoesD] at h2
        | bad => simp only [e2, GoesD] at h2
  exact go l [] r m rfl h0
/-- .. or it gives something back -/
def GoesR (q : RS) (P : Rho → Mem → Prop) (Q : W → Mem → Prop) : Prop := match q with
  | .next r m => P r m
  | .cont r m => P r m
  | .ret w m => Q w m
  | _ => False
def StepsR (t : DG) (body : DS) (wx : W) (r : Rho) (m : Mem) (P : Rho → Mem → Prop) (Q : W → Mem → Prop) : Prop := match t wx r with
  | none => False
  | some r1 => GoesR (body r1 m) P Q
theorem loop_ret {α : Type} {t : DG} {body : DS} (w : α → W) (P : List α → Rho → Mem → Prop) (Q : W → Mem → Prop) (l : List α) (r : Rho) (m : Mem) (h0 : P [] r m)
    (hs : ∀ pre x post r m, l = pre ++ x :: post → P pre r m → StepsR t body (w x) r m (P (pre ++ [x])) Q) :
    (∃ r' m', loop t body (l.map w) r m = .next r' m' ∧ P l r' m') ∨ ∃ u m', loop t body (l.map w) r m = .ret u m' ∧ Q u m' := by
  have go : ∀ (post pre : List α) (r : Rho) (m : Mem), l = pre ++ post → P pre r m → (∃ r' m', loop t body (post.map w) r m = .next r' m' ∧ P l r' m') ∨ ∃ u m', loop t body (post.map w) r m = .ret u m' ∧ Q u m' := by
    intro post
    induction post with
    | nil => intro pre r m e h; rw [List.append_nil] at e; subst e; exact .inl ⟨r, m, rfl, h⟩
    | cons x post ih =>
      intro pre r m e h
      have h2 := hs pre x post r m e h
      unfold StepsR at h2
      rw [List.map_cons, loop]
      cases e1 : t (w x) r with
      | none => simp only [e1] at h2
      | some r1 =>
        simp only [e1] at h2 ⊢
        cases e2 : body r1 m with
        | next r2 m2 =>
          simp only [e2, GoesR] at h2 ⊢
          exact ih (pre ++ [x]) _ _ (by rw [e]; simp) h2
        | cont r2 m2 =>
          simp only [e2, GoesR] at h2 ⊢
          exact ih (pre ++ [x]) _ _ (by rw [e]; simp) h2
        | brk r2 m2 => simp only [e2, GoesR] at h2
        | ret u m2 =>
          simp only [e2, GoesR] at h2 ⊢
          exact .inr ⟨u, m2, rfl, h2⟩
        | exc y r2 m2 => simp only [e2, GoesR] at h2
        | bad => simp only [e2, GoesR] at h2
  exact go l [] r m rfl h0
theorem numbered_map {α : Type} {w : α → W} : ∀ (l : List α) (i : Nat), numbered i (l.map w) = (l.zipIdx i).map fun x => W.tup [.int (x.2 : Nat), w x.1]
  | [], i => rfl
  | x :: l, i => by rw [List.map_cons, numbered, List.zipIdx_cons, List.map_cons, numbered_map l (i + 1)]
theorem fold_app {α β : Type} (f : α → β) : ∀ (l : List α) (acc : List β), l.foldl (fun a x => a ++ [f x]) acc = acc ++ l.map f
  | [], acc => by simp
  | x :: l, acc => by rw [List.foldl_cons, fold_app f l, List.map_cons, List.append_assoc]; rfl
theorem fold_appIf {α β : Type} (p : α → Bool) (f : α → β) : ∀ (l : List α) (acc : List β), l.foldl (fun a x => if p x = true then a ++ [f x] else a) acc = acc ++ (l.filter p).map f
  | [], acc => by simp
  | x :: l, acc => by
    rw [List.foldl_cons, fold_appIf p f l, List.filter_cons]
    cases q : p x <;> simp [q]
theorem boolsW_map {α : Type} (p : α → Bool) : ∀ l : List α, boolsW (l.map fun x => .bl (p x)) = some (l.map p)
  | [] => rfl
  | x :: l => by
    rw [List.map_cons, List.map_cons, boolsW, boolsW_map p l]
    rfl
theorem anyW_map {α : Type} {m : Mem} (p : α → Bool) (l : List α) : anyW m [.lst (l.map fun x => .bl (p x))] = some (.bl (l.any p)) := by
  simp only [anyW, trkOf, boolsW_map, Option.map_some]
  congr 2
  rw [List.any_map]
  rfl
theorem allW_map {α : Type} {m : Mem} (p : α → Bool) (l : List α) : allW m [.lst (l.map fun x => .bl (p x))] = some (.bl (l.all p)) := by
  simp only [allW, trkOf, boolsW_map, Option.map_some]
  congr 2
  rw [List.all_map]
  rfl
end Dn

/-! M1: rooms, in plain words. -/
namespace Rm
open PySem PySem.Spec PyProof.Rows L2 Dn

inductive How where
  | here | out | lost | away
  deriving DecidableEq
inductive Bk where
  | asks | old | tells
  deriving DecidableEq
def How.s : How → Str
  | .here => "here"
  | .out => "out"
  | .lost => "lost"
  | .away => "away"
def Bk.s : Bk → Str
  | .asks => "asks"
  | .old => "old"
  | .tells => "tells"
structure Rule where
  k : Int
  t : Int
  line : Bool
  on : Bool
  bk : Bk
  told : Bool
  asks : Bool
  deriving DecidableEq
def askS (b : Bool) : Str := if b then "line" else "seen"
def fillS (b : Bool) : Str := if b then "on" else "none"
def letS (b : Bool) : Str := if b then "told" else "quiet"
def lostS (b : Bool) : Str := if b then "asks" else "claims"
def Rule.w (r : Rule) : W := .tup [.int r.k, .int r.t, .str (askS r.line), .str (fillS r.on), .str r.bk.s, .str (letS r.told), .str (lostS r.asks)]
structure Rule.Ok (r : Rule) : Prop where
  k1 : 1 ≤ r.k
  k3 : r.k ≤ 3
  t0 : 0 ≤ r.t
  tk : r.t ≤ r.k
structure Row where
  p : Int
  h : How
  ns : List Int
  deriving DecidableEq
abbrev Line := List Row
def Row.w (x : Row) : W := .tup [.int x.p, .str x.h.s, .tup (x.ns.map .int)]
def lineW (l : Line) : W := .tup (l.map Row.w)

/-! ### what people do -/
def known (r : Rule) (h : How) : Bool := match h with
  | .here => true
  | .out => r.line
  | .away => r.line
  | .lost => false
def nearest (r : Rule) (l : Line) (i : Nat) : List Int := ((((l.take i).filter fun x => known r x.h).map (·.p)).reverse).take r.k.toNat
def take1 (r : Rule) (l : Line) (spots : List Int) (x : Row × Nat) : Row := if (spots.contains (x.2 : Int) && decide (x.1.h = .here)) = true then ⟨x.1.p, x.1.h, nearest r l x.2⟩ else x.1
def renewed (r : Rule) (l : Line) (spots : List Int) : Line := l.zipIdx.map (take1 r l spots)
def asHow (l : Line) (i : Nat) (h : How) : Line := match l[i]? with
  | some x => l.take i ++ ⟨x.p, h, if h = .away then [] else x.ns⟩ :: l.drop (i + 1)
  | none => l
def struck (p : Int) (x : Row) : Row := if x.h = .here ∧ x.ns.contains p = true then ⟨x.p, x.h, x.ns.filter fun n => !(n == p)⟩ else x
def hits (l : Line) (p : Int) : List Int := (l.zipIdx.filter fun x => decide (x.1.h = .here) && x.1.ns.contains p).map fun x => (x.2 : Int)
def without (r : Rule) (l : Line) (p : Int) : Line :=
  renewed r ((l.filter fun x => !(x.p == p)).map (struck p)) (if r.on = true then hits (l.filter fun x => !(x.p == p)) p else [])
def forgetting (l : Line) : Line := if (l.any fun x => decide (x.h = .here)) = true then l else (l.filter fun x => !decide (x.h = .away)).map fun x => ⟨x.p, .lost, x.ns⟩
def bare (l : Line) : List Int := (l.zipIdx.filter fun x => x.1.ns.isEmpty).map fun x => (x.2 : Int)
def askedAgain (r : Rule) (l : Line) : Line := if r.asks = true then renewed r l (bare l) else l
def here (l : Line) : List Int := (l.filter fun x => decide (x.h = .here)).map (·.p)
def claims (r : Rule) (l : Line) : List Int := (l.filter fun x => decide (x.h = .here) && (decide ((x.ns.length : Int) ≤ r.t) && !(x.ns.any fun n => (here l).contains n))).map (·.p)

inductive Pw where
  | back | leave | lett | out | vanish
  deriving DecidableEq
def Pw.s : Pw → Str
  | .back => "back"
  | .leave => "leave"
  | .lett => "let"
  | .out => "out"
  | .vanish => "vanish"
inductive Ev where
  | come | door | pers (w : Pw) (p : Int)
  deriving DecidableEq
def Ev.w : Ev → W
  | .come => .tup [.str "come"]
  | .door => .tup [.str "door"]
  | .pers x p => .tup [.str x.s, .int p]
structure Room where
  line : Line
  came : Int
  served : List Int
  deriving DecidableEq
def howIs (l : Line) (p : Int) : Option How := ((l.filter fun x => x.p == p).map (·.h)).head?
def howW : Option How → W
  | some h => .str h.s
  | none => .non
def canBe (r : Rule) (R : Room) : Ev → Bool
  | .come => decide (R.came < 12)
  | .door => !(here R.line).isEmpty
  | .pers .back p => (decide (howIs R.line p = some .out) || decide (howIs R.line p = some .lost)) && (!(decide (howIs R.line p = some .lost) && decide (r.bk = .asks)) || decide (R.came < 12))
  | .pers x p => decide (howIs R.line p = some .here) && (!decide (x = .lett) || decide (R.came < 12))
def putIn (r : Rule) (R : Room) (i : Nat) : Room := ⟨renewed r (R.line.take i ++ ⟨R.came, .here, []⟩ :: R.line.drop i) [(i : Int)], R.came + 1, R.served⟩
def upTo (a b : Nat) : List Int := (List.range (b - a)).map fun i => ((a + i : Nat) : Int)
def renewFrom (r : Rule) (R : Room) (i : Nat) : Room := ⟨renewed r R.line (upTo i R.line.length), R.came, R.served⟩
def bringBack (r : Rule) (R : Room) (i : Nat) : Room :=
  if r.bk = .asks ∧ (R.line[i]?.map (·.h)) = some .lost then putIn r ⟨R.line.take i ++ R.line.drop (i + 1), R.came, R.served⟩ (R.line.length - 1)
  else match r.bk with
    | .tells => renewFrom r ⟨asHow R.line i .here, R.came, R.served⟩ i
    | .old => ⟨asHow R.line i .here, R.came, R.served⟩
    | .asks => ⟨renewed r (asHow R.line i .here) [(i : Int)], R.came, R.served⟩
def openDoor (r : Rule) (R : Room) : Room := match claims r (askedAgain r R.line) with
  | [p] => ⟨without r (askedAgain r R.line) p, R.came, R.served ++ [p]⟩
  | _ => ⟨askedAgain r R.line, R.came, R.served⟩
def spotOf (l : Line) (p : Int) : Nat := l.findIdx fun x => x.p == p
def doPers (r : Rule) (R : Room) (x : Pw) (p : Int) : Room := match x with
  | .lett => if r.told = true then renewFrom r (putIn r R (spotOf R.line p + 1)) (spotOf R.line p + 2) else putIn r R (spotOf R.line p + 1)
  | .leave => ⟨without r R.line p, R.came, R.served⟩
  | .back => bringBack r R (spotOf R.line p)
  | .out => ⟨asHow R.line (spotOf R.line p) .out, R.came, R.served⟩
  | .vanish => ⟨asHow R.line (spotOf R.line p) .away, R.came, R.served⟩
def doRaw (r : Rule) (R : Room) : Ev → Room
  | .come => putIn r R R.line.length
  | .door => openDoor r R
  | .pers x p => doPers r R x p
def doEv (r : Rule) (R : Room) (e : Ev) : Room := ⟨forgetting (doRaw r R e).line, (doRaw r R e).came, (doRaw r R e).served⟩
def room0 : Room := ⟨[], 0, []⟩
def behind (r : Rule) (es : List Ev) : Room := es.foldl (doEv r) room0
/-- each of a row can be -/
def isRow (r : Rule) (R : Room) : List Ev → Bool
  | [] => true
  | e :: es => canBe r R e && isRow r (doEv r R e) es
end Rm

/-! M2: words and lines as plain values. -/
namespace Rm
open PySem PySem.Spec PyProof.Rows L2 Dn
variable {m : Mem}
theorem start0 {n : Nat} : startW n [] = List.replicate n none := by simp [startW]
theorem start1 {n : Nat} {a : W} : startW (n + 1) [a] = some a :: List.replicate n none := rfl
theorem start2 {n : Nat} {a b : W} : startW (n + 2) [a, b] = some a :: some b :: List.replicate n none := by simp [startW]
theorem start3 {n : Nat} {a b c : W} : startW (n + 3) [a, b, c] = some a :: some b :: some c :: List.replicate n none := by simp [startW]
theorem start4 {n : Nat} {a b c d : W} : startW (n + 4) [a, b, c, d] = some a :: some b :: some c :: some d :: List.replicate n none := by simp [startW]
theorem start5 {n : Nat} {a b c d e : W} : startW (n + 5) [a, b, c, d, e] = some a :: some b :: some c :: some d :: some e :: List.replicate n none := by simp [startW]
theorem mulW_i {i j : Int} (a : -(2 ^ 64) < i) (b : i < 2 ^ 64) : mulW m (.int i) (.int j) = some (.int (i * j)) := by simp only [mulW, mulI, iOp]; exact if_pos (.inl ⟨a, b⟩)
theorem modW_i {i j : Int} (a : 0 < j) : modW m (.int i) (.int j) = some (.int (i % j)) := by simp only [modW, iOp]; exact if_pos a
theorem fdivW_i {i j : Int} (a : 0 < j) (b : j < 1073741824) : fdivW m (.int i) (.int j) = some (.int (i / j)) := by simp only [fdivW, iOp]; exact if_pos ⟨a, b⟩
theorem addW_i {i j : Int} : addW m (.int i) (.int j) = some (.int (i + j)) := rfl
theorem subW_i {i j : Int} : subW m (.int i) (.int j) = some (.int (i - j)) := rfl
theorem addI_i {i j : Int} : addI m (.int i) (.int j) = some (.int (i + j)) := rfl
theorem intW_i {i : Int} : intW m [.int i] = some (.int i) := rfl
theorem gtW_i {i j : Int} : gtW m (.int i) (.int j) = some (.bl (decide (j < i))) := rfl
theorem geW_i {i j : Int} : geW m (.int i) (.int j) = some (.bl (decide (j ≤ i))) := rfl
theorem ltW_i {i j : Int} : ltW m (.int i) (.int j) = some (.bl (decide (i < j))) := rfl
theorem leW_i {i j : Int} : leW m (.int i) (.int j) = some (.bl (decide (i ≤ j))) := rfl
theorem maxW_i {i j : Int} : maxW m [.int i, .int j] = some (.int (max i j)) := by
  simp only [maxW]
  congr 2
  by_cases h : j > i
  · rw [if_pos h, Int.max_eq_right (by omega)]
  · rw [if_neg h, Int.max_eq_left (by omega)]
theorem addW_l {xs ys : List W} (h : xs.length + ys.length ≤ 16777216) : addW m (.lst xs) (.lst ys) = some (.lst (xs ++ ys)) := by
  show addL m (.lst xs) (.lst ys) = _
  simp only [addL, trkOf]
  exact if_pos h
theorem addW_t {xs ys : List W} (h : xs.length + ys.length ≤ 16777216) : addW m (.tup xs) (.tup ys) = some (.tup (xs ++ ys)) := by
  show addT m (.tup xs) (.tup ys) = _
  simp only [addT]
  exact if_pos h
theorem tupleW_l {xs : List W} : tupleW m [.lst xs] = some (.tup xs) := rfl
theorem tupleW_t {xs : List W} : tupleW m [.tup xs] = some (.tup xs) := rfl
theorem tupleW_r {n : Nat} {xs : List W} (h : m[n]? = some (.lst xs)) : tupleW m [.ref n] = some (.tup xs) := by simp only [tupleW, seqOf, h, Option.map]
theorem lenW_t {xs : List W} : lenW m [.tup xs] = some (.int (xs.length : Nat)) := rfl
theorem lenW_l {xs : List W} : lenW m [.lst xs] = some (.int (xs.length : Nat)) := rfl
theorem lenW_r {n : Nat} {xs : List W} (h : m[n]? = some (.lst xs)) : lenW m [.ref n] = some (.int (xs.length : Nat)) := by simp only [lenW, h]
theorem ixM_t {xs : List W} {i : Int} : ixM m (.tup xs) (.int i) = atI xs i := rfl
theorem ixM_l {xs : List W} {i : Int} : ixM m (.lst xs) (.int i) = atI xs i := rfl
/-! ### words -/
theorem eq_how (h k : How) : eqM m (.str h.s) (.str k.s) = some (.bl (decide (h = k))) := by cases h <;> cases k <;> kernel_rfl
theorem ne_how (h k : How) : neM m (.str h.s) (.str k.s) = some (.bl (!decide (h = k))) := by cases h <;> cases k <;> kernel_rfl
theorem eq_bk (h k : Bk) : eqM m (.str h.s) (.str k.s) = some (.bl (decide (h = k))) := by cases h <;> cases k <;> kernel_rfl
theorem ne_bk (h k : Bk) : neM m (.str h.s) (.str k.s) = some (.bl (!decide (h = k))) := by cases h <;> cases k <;> kernel_rfl
theorem eq_pw (h k : Pw) : eqM m (.str h.s) (.str k.s) = some (.bl (decide (h = k))) := by cases h <;> cases k <;> kernel_rfl
theorem ne_pw (h k : Pw) : neM m (.str h.s) (.str k.s) = some (.bl (!decide (h = k))) := by cases h <;> cases k <;> kernel_rfl
theorem eq_line (b : Bool) : eqM m (.str (askS b)) (.str "line") = some (.bl b) := by cases b <;> kernel_rfl
theorem eq_on (b : Bool) : eqM m (.str (fillS b)) (.str "on") = some (.bl b) := by cases b <;> kernel_rfl
theorem eq_told (b : Bool) : eqM m (.str (letS b)) (.str "told") = some (.bl b) := by cases b <;> kernel_rfl
theorem eq_asks (b : Bool) : eqM m (.str (lostS b)) (.str "asks") = some (.bl b) := by cases b <;> kernel_rfl
theorem ne_asks (b : Bool) : neM m (.str (lostS b)) (.str "asks") = some (.bl (!b)) := by cases b <;> kernel_rfl
theorem eq_howW (h : Option How) (k : How) : eqM m (howW h) (.str k.s) = some (.bl (decide (h = some k))) := by
  cases h with
  | none => cases k <;> kernel_rfl
  | some h => cases h <;> cases k <;> kernel_rfl
theorem ne_howW (h : Option How) (k : How) : neM m (howW h) (.str k.s) = some (.bl (!decide (h = some k))) := by
  cases h with
  | none => cases k <;> kernel_rfl
  | some h => cases h <;> cases k <;> kernel_rfl
theorem in_howW (h : Option How) : inM false m (howW h) (.tup [.str How.out.s, .str How.lost.s]) = some (.bl (decide (h = some .out) || decide (h = some .lost))) := by
  cases h with
  | none => kernel_rfl
  | some h => cases h <;> kernel_rfl
theorem in_line (h : How) (r : Rule) (e : r.line = true) : inM false m (.str h.s) (.tup [.str How.here.s, .str How.out.s, .str How.away.s]) = some (.bl (known r h)) := by
  cases h <;> simp only [known, e] <;> kernel_rfl
theorem in_seen (h : How) (r : Rule) (e : r.line = false) : inM false m (.str h.s) (.tup [.str How.here.s]) = some (.bl (known r h)) := by
  cases h <;> simp only [known, e] <;> kernel_rfl
theorem isNon_how (h : Option How) : isNonW m (howW h) .non = some (.bl h.isNone) := by cases h <;> kernel_rfl
/-! ### rules, rows, lines -/
theorem rule0 (r : Rule) : ixM m r.w (.int 0) = some (.int r.k) := rfl
theorem rule1 (r : Rule) : ixM m r.w (.int 1) = some (.int r.t) := rfl
theorem rule2 (r : Rule) : ixM m r.w (.int 2) = some (.str (askS r.line)) := rfl
theorem rule3 (r : Rule) : ixM m r.w (.int 3) = some (.str (fillS r.on)) := rfl
theorem rule4 (r : Rule) : ixM m r.w (.int 4) = some (.str r.bk.s) := rfl
theorem rule5 (r : Rule) : ixM m r.w (.int 5) = some (.str (letS r.told)) := rfl
theorem rule6 (r : Rule) : ixM m r.w (.int 6) = some (.str (lostS r.asks)) := rfl
theorem g_rule (r : Rule) : gW r.w = true := by kernel_rfl
theorem g_row (x : Row) : gW x.w = true := by
  simp only [Row.w, gW_tup, gWs_cons, gW_int, gW_str, gWs_ints, gWs_nil, Bool.and_self]
theorem gs_rows (l : Line) : gWs (l.map Row.w) = true := gWs_map g_row l
theorem g_line (l : Line) : gW (lineW l) = true := by rw [lineW, gW_tup]; exact gs_rows l
theorem g_lineT (l : Line) : gW (.tup (l.map Row.w)) = true := g_line l
theorem g_intsT (l : List Int) : gW (.tup (l.map .int)) = true := by rw [gW_tup]; exact gWs_ints l
theorem g_intsL (l : List Int) : gW (.lst (l.map .int)) = true := by rw [gW_lst]; exact gWs_ints l
theorem strOk_how (h : How) : PyData.strOk h.s = true := by cases h <;> kernel_rfl
theorem ok_row (n : Nat) (x : Row) : okW (n + 2) x.w = true := by
  simp only [Row.w, okW_tup, okWs, okW, strOk_how, okWs_int, Bool.and_self]
theorem ok_lineT (n : Nat) (l : Line) : okW (n + 3) (.tup (l.map Row.w)) = true := by rw [okW_tup]; exact okWs_map (ok_row n) l
theorem ok_intsT (n : Nat) (l : List Int) : okW (n + 1) (.tup (l.map .int)) = true := by rw [okW_tup]; exact okWs_int n l
theorem ok_intsL (n : Nat) (l : List Int) : okW (n + 1) (.lst (l.map .int)) = true := by rw [okW_lst]; exact okWs_int n l
theorem eq_nilT (l : List Int) : eqM m (.tup (l.map .int)) (.tup []) = some (.bl l.isEmpty) := by
  rw [eqM_ok (ok_intsT 59 l) (by kernel_rfl), eqW, eqWs_nil_map]
theorem ne_nilL {α : Type} {f : α → W} (l : List α) (h : ∀ x, okW 59 (f x) = true) : neM m (.lst (l.map f)) (.lst []) = some (.bl (!l.isEmpty)) := by
  rw [neM_ok (by rw [okW_lst]; exact okWs_map h l) (by kernel_rfl), eqW, eqWs_nil_map]
theorem idx_ints : ∀ (l : List Int) (p : Int), p ∈ l → idxW m (.lst (l.map .int)) (.int p) = some (.int ((l.findIdx fun x => x == p : Nat) : Int)) := fun l p h => by
  have e : ∀ l : List Int, toVs (l.map .int) = some (l.map V.int) := fun l => by
    induction l with
    | nil => rfl
    | cons x l ih => simp only [List.map_cons, toVs, toV, ih]
  have f : ∀ l : List Int, p ∈ l → findV (.int p) (l.map V.int) = some (l.findIdx fun x => x == p) := fun l => by
    induction l with
    | nil => intro h; cases h
    | cons x l ih =>
      intro h
      rw [List.map_cons, findV, List.findIdx_cons]
      have q : eqV (.int x) (.int p) = (x == p) := rfl
      rw [q]
      cases c : x == p with
      | true => rfl
      | false =>
        have hp : p ∈ l := by
          rcases List.mem_cons.mp h with rfl | h
          · simp at c
          · exact h
        simp only [ih hp, Option.map, cond]
  simp only [idxW, trkOf, e, toV, f l h, Option.map]
theorem rg_ints (a b : Nat) : rgW (a : Int) (b : Int) = (upTo a b).map .int := by
  have e : ((b : Int) - (a : Int)).toNat = b - a := by omega
  simp only [rgW, upTo, List.map_map, e]
  refine List.map_congr_left fun i _ => ?_
  simp
end Rm

/-! M3: a room as an instance in the memory. -/
namespace Rm
open PySem PySem.Spec PyProof.Rows L2 Dn
def roomF (r : Rule) (R : Rm.Room) (k : Nat) : List (Str × W) := [("own_rule", r.w), ("line_now", .tup (R.line.map Row.w)), ("came_so_far", .int R.came), ("served_so_far", .ref k)]
/-- the memory with a room at n, its list of those who were served at n + 1 -/
def putR (m : Mem) (n : Nat) (r : Rule) (R : Rm.Room) : Mem := (m.set n (.ins 0 (roomF r R (n + 1)))).set (n + 1) (.lst (R.served.map .int))
section
variable {m : Mem} {n : Nat} {r : Rule}
theorem putR_len (R : Rm.Room) : (putR m n r R).length = m.length := by simp [putR]
theorem putR_get (hn : n + 1 < m.length) (R : Rm.Room) : (putR m n r R)[n]? = some (.ins 0 (roomF r R (n + 1))) := by
  unfold putR
  rw [List.getElem?_set_ne (by omega), List.getElem?_set_self (by omega)]
theorem putR_srv (hn : n + 1 < m.length) (R : Rm.Room) : (putR m n r R)[n + 1]? = some (.lst (R.served.map .int)) := by
  unfold putR
  rw [List.getElem?_set_self (by simpa using hn)]
theorem putR_put (R R' : Rm.Room) : putR (putR m n r R) n r R' = putR m n r R' := by
  unfold putR
  rw [List.set_comm _ _ (show n + 1 ≠ n by omega), List.set_set, List.set_set]
theorem ins_put (hn : n + 1 < m.length) (R : Rm.Room) : insOf 0 (putR m n r R) (.ref n) = some (n, roomF r R (n + 1)) := by
  simp only [insOf, putR_get hn, if_true]
theorem f_rule (hn : n + 1 < m.length) (R : Rm.Room) : fldOf 0 "own_rule" (putR m n r R) (.ref n) = some r.w := by
  simp only [fldOf, putR_get hn, if_true]
  rfl
theorem f_line (hn : n + 1 < m.length) (R : Rm.Room) : fldOf 0 "line_now" (putR m n r R) (.ref n) = some (.tup (R.line.map Row.w)) := by
  simp only [fldOf, putR_get hn, if_true]
  kernel_rfl
theorem f_came (hn : n + 1 < m.length) (R : Rm.Room) : fldOf 0 "came_so_far" (putR m n r R) (.ref n) = some (.int R.came) := by
  simp only [fldOf, putR_get hn, if_true]
  kernel_rfl
theorem f_served (hn : n + 1 < m.length) (R : Rm.Room) : fldOf 0 "served_so_far" (putR m n r R) (.ref n) = some (.ref (n + 1)) := by
  simp only [fldOf, putR_get hn, if_true]
  kernel_rfl
theorem four_lt : ((4 : Nat) < 1000) = True := eq_true (by decide)
theorem roomF_len (R : Rm.Room) (k : Nat) : (roomF r R k).length = 4 := rfl
theorem p_line (R : Rm.Room) (l : Line) (k : Nat) : putFW "line_now" (.tup (l.map Row.w)) (roomF r R k) = roomF r ⟨l, R.came, R.served⟩ k := by kernel_rfl
theorem p_came (R : Rm.Room) (c : Int) (k : Nat) : putFW "came_so_far" (.int c) (roomF r R k) = roomF r ⟨R.line, c, R.served⟩ k := by kernel_rfl
theorem set_line (R : Rm.Room) (l : Line) : (putR m n r R).set n (.ins 0 (putFW "line_now" (.tup (l.map Row.w)) (roomF r R (n + 1)))) = putR m n r ⟨l, R.came, R.served⟩ := by
  rw [p_line]
  unfold putR
  rw [List.set_comm _ _ (show n + 1 ≠ n by omega), List.set_set]
theorem set_came (R : Rm.Room) (c : Int) : (putR m n r R).set n (.ins 0 (putFW "came_so_far" (.int c) (roomF r R (n + 1)))) = putR m n r ⟨R.line, c, R.served⟩ := by
  rw [p_came]
  unfold putR
  rw [List.set_comm _ _ (show n + 1 ≠ n by omega), List.set_set]
theorem set_served (R : Rm.Room) (p : Int) : (putR m n r R).set (n + 1) (.lst (R.served.map .int ++ [.int p])) = putR m n r ⟨R.line, R.came, R.served ++ [p]⟩ := by
  unfold putR
  rw [List.set_set]
  simp only [List.map_append, List.map_cons, List.map_nil]
  rfl
theorem no_put_in (R : Rm.Room) (k : Nat) : (roomF r R k).lookup ("put_in" : Str) = none := by kernel_rfl
theorem no_renew_from (R : Rm.Room) (k : Nat) : (roomF r R k).lookup ("renew_from" : Str) = none := by kernel_rfl
theorem no_bring_back (R : Rm.Room) (k : Nat) : (roomF r R k).lookup ("bring_back" : Str) = none := by kernel_rfl
theorem no_open_door (R : Rm.Room) (k : Nat) : (roomF r R k).lookup ("open_door" : Str) = none := by kernel_rfl
theorem no_do_personal (R : Rm.Room) (k : Nat) : (roomF r R k).lookup ("do_personal" : Str) = none := by kernel_rfl
theorem no_do (R : Rm.Room) (k : Nat) : (roomF r R k).lookup ("do" : Str) = none := by kernel_rfl
theorem no_how_is (R : Rm.Room) (k : Nat) : (roomF r R k).lookup ("how_is" : Str) = none := by kernel_rfl
theorem no_are_here (R : Rm.Room) (k : Nat) : (roomF r R k).lookup ("are_here" : Str) = none := by kernel_rfl
theorem no_can_be (R : Rm.Room) (k : Nat) : (roomF r R k).lookup ("can_be" : Str) = none := by kernel_rfl
end
/-! ### lengths -/
theorem renewed_len (r : Rule) (l : Line) (s : List Int) : (renewed r l s).length = l.length := by simp [renewed]
theorem asHow_len (l : Line) (i : Nat) (h : How) : (asHow l i h).length = l.length := by
  unfold asHow
  split
  · rename_i x e
    have := (List.getElem?_eq_some_iff.mp e).1
    simp
    omega
  · rfl
theorem without_len (r : Rule) (l : Line) (p : Int) : (without r l p).length ≤ l.length := by
  unfold without
  rw [renewed_len, List.length_map]
  exact List.length_filter_le _ _
theorem forgetting_len (l : Line) : (forgetting l).length ≤ l.length := by
  unfold forgetting
  split
  · exact Nat.le_refl _
  · rw [List.length_map]; exact List.length_filter_le _ _
theorem asked_len (r : Rule) (l : Line) : (askedAgain r l).length = l.length := by
  unfold askedAgain
  split
  · exact renewed_len _ _ _
  · rfl
theorem putIn_len (r : Rule) (R : Rm.Room) (i : Nat) : (putIn r R i).line.length = R.line.length + 1 := by
  simp only [putIn, renewed_len, List.length_append, List.length_cons, List.length_take, List.length_drop]
  omega
theorem renewFrom_len (r : Rule) (R : Rm.Room) (i : Nat) : (renewFrom r R i).line.length = R.line.length := by simp only [renewFrom, renewed_len]
theorem bringBack_len (r : Rule) (R : Rm.Room) (i : Nat) : (bringBack r R i).line.length ≤ R.line.length + 1 := by
  unfold bringBack
  split
  · rw [putIn_len]
    simp only [List.length_append, List.length_take, List.length_drop]
    omega
  · split
    · rw [renewFrom_len, asHow_len]; omega
    · simp only [asHow_len]; omega
    · simp only [renewed_len, asHow_len]; omega
theorem doRaw_len (r : Rule) (R : Rm.Room) (e : Ev) : (doRaw r R e).line.length ≤ R.line.length + 1 := by
  unfold doRaw
  split
  · rw [putIn_len]; omega
  · unfold openDoor
    split
    · refine Nat.le_trans (without_len _ _ _) ?_
      rw [asked_len]; omega
    · simp only [asked_len]; omega
  · unfold doPers
    split
    · split
      · rw [renewFrom_len, putIn_len]; omega
      · rw [putIn_len]; omega
    · exact Nat.le_trans (without_len _ _ _) (Nat.le_succ _)
    · exact bringBack_len _ _ _
    · simp only [asHow_len]; omega
    · simp only [asHow_len]; omega
theorem doEv_len (r : Rule) (R : Rm.Room) (e : Ev) : (doEv r R e).line.length ≤ R.line.length + 1 :=
  Nat.le_trans (forgetting_len _) (doRaw_len r R e)
theorem doRaw_srv (r : Rule) (R : Rm.Room) (e : Ev) : (doRaw r R e).served.length ≤ R.served.length + 1 := by
  unfold doRaw
  split
  · simp [putIn]
  · unfold openDoor
    split <;> simp
  · unfold doPers
    split
    · split <;> simp [renewFrom, putIn]
    · simp
    · unfold bringBack
      split
      · simp [putIn]
      · split <;> simp [renewFrom]
    · simp
    · simp
theorem doEv_srv (r : Rule) (R : Rm.Room) (e : Ev) : (doEv r R e).served.length ≤ R.served.length + 1 := doRaw_srv r R e
end Rm

/-! M4: rows of events, faults, gaps. -/
namespace Rm
open PySem PySem.Spec PyProof.Rows L2 Dn
inductive Ft where
  | door | order | place
  deriving DecidableEq
def Ft.s : Ft → Str
  | .door => "door"
  | .order => "order"
  | .place => "place"
def faultW (x : Ft × Int) : W := .tup [.str x.1.s, .int x.2]
def fault3W (x : Nat × Ft × Int) : W := .tup [.int (x.1 : Nat), .str x.2.1.s, .int x.2.2]
def claimsNow (r : Rule) (l : Line) : List Int := claims r (askedAgain r l)
def doorFaults (r : Rule) (R : Rm.Room) : List (Ft × Int) := match here R.line with
  | [] => []
  | h :: _ => ((claimsNow r R.line).filter fun p => !(p == h)).map (fun p => (Ft.order, p)) ++ (if (claimsNow r R.line).contains h = true then [] else [(Ft.door, h)])
def faultsNow (r : Rule) (R : Rm.Room) : Ev → List (Ft × Int)
  | .door => doorFaults r R
  | .pers .back p => if r.bk = .asks ∧ howIs R.line p = some .lost ∧ (R.line.getLast?.map (·.p)) ≠ some p then [(Ft.place, p)] else []
  | _ => []
def faultsFrom (r : Rule) (R : Rm.Room) (i : Nat) : List Ev → List (Nat × Ft × Int)
  | [] => []
  | e :: es => (faultsNow r R e).map (fun x => (i, x)) ++ faultsFrom r (doEv r R e) (i + 1) es
theorem faultsFrom_app (r : Rule) : ∀ (es : List Ev) (R : Rm.Room) (i : Nat) (e : Ev), faultsFrom r R i (es ++ [e]) = faultsFrom r R i es ++ (faultsNow r (es.foldl (doEv r) R) e).map fun x => (i + es.length, x)
  | [], R, i, e => by simp [faultsFrom]
  | x :: es, R, i, e => by
    rw [List.cons_append, faultsFrom, faultsFrom_app r es, faultsFrom, List.append_assoc, List.foldl_cons, List.length_cons]
    rw [show i + 1 + es.length = i + (es.length + 1) by omega]
def absentIn (l : Line) : Nat := (l.filter fun x => !decide (x.h = .here)).length
def mostStep (r : Rule) (a : Rm.Room × Int) (e : Ev) : Rm.Room × Int := (doEv r a.1 e, max a.2 (absentIn (doEv r a.1 e).line : Int))
def mostAbsent (r : Rule) (es : List Ev) : Int := (es.foldl (mostStep r) (room0, 0)).2
theorem most_room (r : Rule) : ∀ (es : List Ev) (a : Rm.Room × Int), (es.foldl (mostStep r) a).1 = es.foldl (doEv r) a.1
  | [], _ => rfl
  | e :: es, a => by rw [List.foldl_cons, List.foldl_cons, most_room r es]; rfl
def gapStep (a : List (Int × Int) × Int) (x : Row) : List (Int × Int) × Int := if x.h = .here then (a.1 ++ [(x.p, a.2)], 0) else if x.h = .lost then a else (a.1, a.2 + 1)
def gapsIn (l : Line) : List (Int × Int) := (l.foldl gapStep ([], 0)).1
def pairW (x : Int × Int) : W := .tup [.int x.1, .int x.2]
theorem g_pair (x : Int × Int) : gW (pairW x) = true := rfl
theorem g_fault3 (x : Nat × Ft × Int) : gW (fault3W x) = true := rfl
theorem gap_len (l : Line) : ∀ a : List (Int × Int) × Int, (l.foldl gapStep a).1.length ≤ a.1.length + l.length := by
  induction l with
  | nil => intro a; simp
  | cons x l ih =>
    intro a
    rw [List.foldl_cons]
    refine Nat.le_trans (ih _) ?_
    unfold gapStep
    split
    · simp; omega
    · split
      · simp
      · simp
theorem howIs_mem {l : Line} {p : Int} {h : How} (e : howIs l p = some h) : p ∈ l.map (·.p) := by
  unfold howIs at e
  have : (l.filter fun x => x.p == p) ≠ [] := by
    intro q
    rw [q] at e
    cases e
  obtain ⟨x, hx⟩ := List.exists_mem_of_ne_nil _ this
  rw [List.mem_filter] at hx
  exact List.mem_map.mpr ⟨x, hx.1, by simpa using hx.2⟩
theorem mem_howIs {l : Line} {p : Int} (e : p ∈ l.map (·.p)) : ∃ h, howIs l p = some h := by
  obtain ⟨x, hx, e⟩ := List.mem_map.mp e
  unfold howIs
  have : x ∈ (l.filter fun x => x.p == p) := List.mem_filter.mpr ⟨hx, by simpa using e⟩
  cases q : l.filter fun x => x.p == p with
  | nil => rw [q] at this; cases this
  | cons y ys => exact ⟨y.h, rfl⟩
/-- whom an event names is in the line -/
def named (R : Rm.Room) : Ev → Prop
  | .pers _ p => p ∈ R.line.map (·.p)
  | _ => True
theorem can_named {r : Rule} {R : Rm.Room} {e : Ev} (h : canBe r R e = true) : named R e := by
  cases e with
  | come => trivial
  | door => trivial
  | pers x p =>
    cases q : howIs R.line p with
    | some k => exact howIs_mem q
    | none => cases x <;> simp [canBe, q] at h
theorem row_at {r : Rule} {e : Ev} {post : List Ev} : ∀ {pre : List Ev} {R : Rm.Room}, isRow r R (pre ++ e :: post) = true → canBe r (pre.foldl (doEv r) R) e = true
  | [], R, h => by
    rw [List.nil_append, isRow, Bool.and_eq_true_iff] at h
    exact h.1
  | x :: pre, R, h => by
    rw [List.cons_append, isRow, Bool.and_eq_true_iff] at h
    exact row_at (pre := pre) (R := doEv r R x) h.2
theorem behind_len (r : Rule) : ∀ (es : List Ev) (R : Rm.Room), (es.foldl (doEv r) R).line.length ≤ R.line.length + es.length
  | [], R => Nat.le_refl _
  | e :: es, R => by
    rw [List.foldl_cons, List.length_cons]
    have := behind_len r es (doEv r R e)
    have := doEv_len r R e
    omega
theorem behind_srv (r : Rule) : ∀ (es : List Ev) (R : Rm.Room), (es.foldl (doEv r) R).served.length ≤ R.served.length + es.length
  | [], R => Nat.le_refl _
  | e :: es, R => by
    rw [List.foldl_cons, List.length_cons]
    have := behind_srv r es (doEv r R e)
    have := doEv_srv r R e
    omega
theorem g_ev (e : Ev) : gW e.w = true := by cases e <;> rfl
theorem g_evs (es : List Ev) : gW (.tup (es.map Ev.w)) = true := by rw [gW_tup]; exact gWs_map g_ev es
theorem putR_app (m : Mem) (a b : Cell) (r : Rule) (R : Rm.Room) : putR (m ++ [a, b]) m.length r R = m ++ [.ins 0 (roomF r R (m.length + 1)), .lst (R.served.map .int)] := by
  unfold putR
  rw [List.set_append_right _ _ (Nat.le_refl _), List.set_append_right _ _ (by omega)]
  rw [show m.length - m.length = 0 by omega, show m.length + 1 - m.length = 1 by omega]
  rfl
theorem app_len (m : Mem) (a b : Cell) : m.length + 1 < (m ++ [a, b]).length := by simp
end Rm

/-! M5: a line as a list of lists: settled, or each row an object of the memory. -/
namespace Rm
open PySem PySem.Spec PyProof.Rows L2 Dn
def rowL (x : Row) : List W := [.int x.p, .str x.h.s, .tup (x.ns.map .int)]
def rowS (x : Row) : W := .lst (rowL x)
def roomW (R : Rm.Room) : W := .tup [.lst (R.line.map rowS), .int R.came, .lst (R.served.map .int)]
theorem gs_rowL (x : Row) : gWs (rowL x) = true := by simp only [rowL, gWs_cons, gW_int, gW_str, g_intsT, gWs_nil, Bool.and_self]
theorem g_rowS (x : Row) : gW (rowS x) = true := by rw [rowS, gW_lst]; exact gs_rowL x
theorem g_rows (l : Line) : gW (.lst (l.map rowS)) = true := by rw [gW_lst]; exact gWs_map g_rowS l
theorem g_room (R : Rm.Room) : gW (roomW R) = true := by simp only [roomW, gW_tup, gWs_cons, g_rows, gW_int, g_intsL, gWs_nil, Bool.and_self]
theorem okS_rowL (n : Nat) (x : Row) : okWs (n + 1) (rowL x) = true := by simp only [rowL, okWs, okW, strOk_how, okWs_int, Bool.and_self]
theorem ok_rowS (n : Nat) (x : Row) : okW (n + 2) (rowS x) = true := by rw [rowS, okW_lst]; exact okS_rowL n x
/-- what stands there are these rows -/
def Sees (m : Mem) (zs : List (W × Row)) : Prop := ∀ z, z ∈ zs → seqOf m z.1 = some (rowL z.2)
theorem sees_settled (m : Mem) (l : Line) : Sees m (l.map fun x => (rowS x, x)) := fun z h => by
  obtain ⟨x, _, rfl⟩ := List.mem_map.mp h
  rfl
theorem fst_settled (l : Line) : ((l.map fun x => (rowS x, x)).map (·.1)) = l.map rowS := by rw [List.map_map]; rfl
theorem snd_settled (l : Line) : ((l.map fun x => (rowS x, x)).map (·.2)) = l := by
  rw [List.map_map]
  exact List.map_id l
/-- rows of the memory -/
def refZ (ns : List Nat) (l : Line) : List (W × Row) := (ns.zip l).map fun z => (.ref z.1, z.2)
def HoldsAt (m : Mem) (ns : List Nat) (l : Line) : Prop := ns.length = l.length ∧ ns.Nodup ∧ ∀ (i n : Nat) (x : Row), ns[i]? = some n → l[i]? = some x → m[n]? = some (.lst (rowL x))
theorem refZ_fst {ns : List Nat} {l : Line} (h : ns.length = l.length) : (refZ ns l).map (·.1) = ns.map .ref := by
  unfold refZ
  rw [List.map_map]
  have : ((fun z : W × Row => z.1) ∘ fun z : Nat × Row => (W.ref z.1, z.2)) = (W.ref ∘ Prod.fst) := rfl
  rw [this, ← List.map_map, List.map_fst_zip (Nat.le_of_eq h)]
theorem refZ_snd {ns : List Nat} {l : Line} (h : ns.length = l.length) : (refZ ns l).map (·.2) = l := by
  unfold refZ
  rw [List.map_map]
  have : ((fun z : W × Row => z.2) ∘ fun z : Nat × Row => (W.ref z.1, z.2)) = Prod.snd := rfl
  rw [this, List.map_snd_zip (Nat.le_of_eq h.symm)]
theorem HoldsAt.sees {m : Mem} {ns : List Nat} {l : Line} (h : HoldsAt m ns l) : Sees m (refZ ns l) := fun z hz => by
  obtain ⟨y, hy, rfl⟩ := List.mem_map.mp hz
  obtain ⟨i, hi⟩ := List.getElem?_of_mem hy
  rw [List.getElem?_zip_eq_some] at hi
  simp only [seqOf, h.2.2 i y.1 y.2 hi.1 hi.2]
/-- the memory with these rows written -/
def wr (m : Mem) : List Nat → Line → Mem
  | n :: ns, x :: l => (wr m ns l).set n (.lst (rowL x))
  | _, _ => m
theorem wr_len (m : Mem) : ∀ (ns : List Nat) (l : Line), (wr m ns l).length = m.length
  | [], _ => by simp [wr]
  | _ :: _, [] => by simp [wr]
  | n :: ns, x :: l => by simp [wr, wr_len m ns l]
theorem wr_other (m : Mem) {k : Nat} : ∀ (ns : List Nat) (l : Line), k ∉ ns → (wr m ns l)[k]? = m[k]?
  | [], _, _ => by simp [wr]
  | _ :: _, [], _ => by simp [wr]
  | n :: ns, x :: l, h => by
    rw [wr, List.getElem?_set_ne (fun q => h (by simp [q])), wr_other m ns l fun q => h (.tail _ q)]
theorem wr_at (m : Mem) : ∀ (ns : List Nat) (l : Line) (i n : Nat) (x : Row), ns.Nodup → (∀ n, n ∈ ns → n < m.length) → ns[i]? = some n → l[i]? = some x → (wr m ns l)[n]? = some (.lst (rowL x))
  | [], _, _, _, _, _, _, h, _ => by simp at h
  | _ :: _, [], _, _, _, _, _, _, h => by simp at h
  | k :: ns, y :: l, 0, n, x, hn, hb, h1, h2 => by
    simp at h1 h2
    subst h1 h2
    rw [wr, List.getElem?_set_self (by rw [wr_len]; exact hb _ (.head _))]
  | k :: ns, y :: l, i + 1, n, x, hn, hb, h1, h2 => by
    have hn' := List.nodup_cons.mp hn
    have hm : n ∈ ns := List.mem_of_getElem? (i := i) (by simpa using h1)
    have hne : k ≠ n := fun q => hn'.1 (by rw [q]; exact hm)
    rw [wr, List.getElem?_set_ne hne]
    exact wr_at m ns l i n x hn'.2 (fun n q => hb n (.tail _ q)) (by simpa using h1) (by simpa using h2)
theorem HoldsAt.bound {m : Mem} {ns : List Nat} {l : Line} (h : HoldsAt m ns l) : ∀ n, n ∈ ns → n < m.length := fun n hn => by
  obtain ⟨i, hi⟩ := List.getElem?_of_mem hn
  have hil : i < l.length := by rw [← h.1]; exact (List.getElem?_eq_some_iff.mp hi).1
  have := h.2.2 i n l[i] hi (List.getElem?_eq_getElem hil)
  exact (List.getElem?_eq_some_iff.mp this).1
theorem HoldsAt.wr {m : Mem} {ns : List Nat} {l l' : Line} (h : HoldsAt m ns l) (hl : l'.length = l.length) : HoldsAt (wr m ns l') ns l' :=
  ⟨h.1.trans hl.symm, h.2.1, fun i n x h1 h2 => wr_at m ns l' i n x h.2.1 h.bound h1 h2⟩
theorem HoldsAt.self {m : Mem} : ∀ {ns : List Nat} {l : Line}, HoldsAt m ns l → Rm.wr m ns l = m
  | [], l, h => by simp [Rm.wr]
  | _ :: _, [], h => by simp [Rm.wr]
  | n :: ns, x :: l, h => by
    have ht : HoldsAt m ns l := ⟨by simpa using h.1, (List.nodup_cons.mp h.2.1).2, fun i k y h1 h2 => h.2.2 (i + 1) k y (by simpa using h1) (by simpa using h2)⟩
    rw [Rm.wr, ht.self]
    have := h.2.2 0 n x rfl rfl
    exact List.ext_getElem? fun k => by
      by_cases c : n = k
      · subst c
        rw [List.getElem?_set_self (List.getElem?_eq_some_iff.mp this).1, this]
      · rw [List.getElem?_set_ne c]
theorem wr_wr {m : Mem} : ∀ {ns : List Nat} {l l' : Line}, ns.Nodup → ns.length = l.length → l'.length = l.length → wr (wr m ns l) ns l' = wr m ns l'
  | [], _, _, _, _, _ => by simp [wr]
  | n :: ns, [], _, _, h, _ => by simp at h
  | n :: ns, x :: l, [], _, _, h => by simp at h
  | n :: ns, x :: l, y :: l', hn, h1, h2 => by
    have hn' := List.nodup_cons.mp hn
    have sw : ∀ (ks : List Nat) (q : Line) (M : Mem) (c : Cell), n ∉ ks → wr (M.set n c) ks q = (wr M ks q).set n c := fun ks => by
      induction ks with
      | nil => intro q M c _; simp [wr]
      | cons k ks ih =>
        intro q M c hk
        cases q with
        | nil => simp [wr]
        | cons z q =>
          rw [wr, wr, ih q M c fun w => hk (.tail _ w), List.set_comm _ _ (fun w => hk (by simp [w]))]
    rw [wr, wr, wr, sw ns l' _ _ hn'.1, wr_wr hn'.2 (by simpa using h1) (by simpa using h2), List.set_set]
theorem wr_set {m : Mem} : ∀ {ns : List Nat} {l : Line} {i n : Nat} {x : Row}, ns.Nodup → ns.length = l.length → ns[i]? = some n → (wr m ns l).set n (.lst (rowL x)) = wr m ns (l.set i x)
  | [], _, _, _, _, _, _, h => by simp at h
  | _ :: _, [], _, _, _, _, h, _ => by simp at h
  | k :: ns, y :: l, 0, n, x, _, _, h => by
    simp at h
    subst h
    rw [wr, List.set_set, List.set_cons_zero, wr]
  | k :: ns, y :: l, i + 1, n, x, hn, hl, h => by
    have hn' := List.nodup_cons.mp hn
    have h : ns[i]? = some n := by simpa using h
    have hm : n ∈ ns := List.mem_of_getElem? h
    have hne : k ≠ n := fun q => hn'.1 (by rw [q]; exact hm)
    rw [wr, List.set_comm _ _ hne, wr_set hn'.2 (by simpa using hl) h, List.set_cons_succ, wr]
theorem wr_app {m m' : Mem} : ∀ {ns : List Nat} {l : Line}, (∀ n, n ∈ ns → n < m.length) → wr (m ++ m') ns l = wr m ns l ++ m'
  | [], _, _ => by simp [wr]
  | _ :: _, [], _ => by simp [wr]
  | n :: ns, x :: l, h => by
    rw [wr, wr, wr_app fun k q => h k (.tail _ q), List.set_append_left _ _ (by rw [wr_len]; exact h n (.head _))]
theorem HoldsAt.app {m m' : Mem} {ns : List Nat} {l : Line} (h : HoldsAt m ns l) : HoldsAt (m ++ m') ns l := ⟨h.1, h.2.1, fun i n x h1 h2 => by
  rw [List.getElem?_append_left (h.bound n (List.mem_of_getElem? h1))]
  exact h.2.2 i n x h1 h2⟩
/-- some of the rows -/
theorem HoldsAt.sub {m : Mem} {ns ns' : List Nat} {l l' : Line} (h : HoldsAt m ns l) (hl : ns'.length = l'.length) (hs : (ns'.zip l').Sublist (ns.zip l)) : HoldsAt m ns' l' := by
  have e1 : (ns'.zip l').map (·.1) = ns' := List.map_fst_zip (Nat.le_of_eq hl)
  have e2 : (ns.zip l).map (·.1) = ns := List.map_fst_zip (Nat.le_of_eq h.1)
  refine ⟨hl, ?_, fun i n x h1 h2 => ?_⟩
  · have := hs.map (·.1)
    rw [e1, e2] at this
    exact h.2.1.sublist this
  · have : (n, x) ∈ ns'.zip l' := List.mem_of_getElem? (i := i) (List.getElem?_zip_eq_some.mpr ⟨h1, h2⟩)
    obtain ⟨j, hj⟩ := List.getElem?_of_mem (hs.subset this)
    rw [List.getElem?_zip_eq_some] at hj
    exact h.2.2 j n x hj.1 hj.2
end Rm

/-! M6: loops with targets of the memory, copies of rows, rows settled. -/
namespace Dn
open PySem PySem.Spec PyProof.Rows L2
def StepsM (t : DM) (body : DS) (wx : W) (r : Rho) (m : Mem) (Q : Rho → Mem → Prop) : Prop := match t wx r m with
  | .next r1 m1 => GoesD (body r1 m1) Q
  | _ => False
theorem loopM_pre {α : Type} {t : DM} {body : DS} (w : α → W) (P : List α → Rho → Mem → Prop) (l : List α) (r : Rho) (m : Mem) (h0 : P [] r m)
    (hs : ∀ pre x post r m, l = pre ++ x :: post → P pre r m → StepsM t body (w x) r m (P (pre ++ [x]))) :
    ∃ r' m', loopM t body (l.map w) r m = .next r' m' ∧ P l r' m' := by
  have go : ∀ (post pre : List α) (r : Rho) (m : Mem), l = pre ++ post → P pre r m → ∃ r' m', loopM t body (post.map w) r m = .next r' m' ∧ P l r' m' := by
    intro post
    induction post with
    | nil => intro pre r m e h; rw [List.append_nil] at e; subst e; exact ⟨r, m, rfl, h⟩
    | cons x post ih =>
      intro pre r m e h
      have h2 := hs pre x post r m e h
      unfold StepsM at h2
      rw [List.map_cons, loopM]
      cases e1 : t (w x) r m with
      | next r1 m1 =>
        simp only [e1] at h2 ⊢
        cases e2 : body r1 m1 with
        | next r2 m2 =>
          simp only [e2, GoesD] at h2 ⊢
          exact ih (pre ++ [x]) _ _ (by rw [e]; simp) h2
        | cont r2 m2 =>
          simp only [e2, GoesD] at h2 ⊢
          exact ih (pre ++ [x]) _ _ (by rw [e]; simp) h2
        | brk r2 m2 => simp only [e2, GoesD] at h2
        | ret u m2 => simp only [e2, GoesD] at h2
        | exc y r2 m2 => simp only [e2, GoesD] at h2
        | bad => simp only [e2, GoesD] at h2
      | cont r1 m1 => simp only [e1] at h2
      | brk r1 m1 => simp only [e1] at h2
      | ret u m1 => simp only [e1] at h2
      | exc y r1 m1 => simp only [e1] at h2
      | bad => simp only [e1] at h2
  exact go l [] r m rfl h0
end Dn
namespace Rm
open PySem PySem.Spec PyProof.Rows L2 Dn
theorem seqOf_app {m m' : Mem} {w : W} {xs : List W} (h : seqOf m w = some xs) : seqOf (m ++ m') w = some xs := by
  cases w with
  | ref n =>
    simp only [seqOf] at h ⊢
    cases q : m[n]? with
    | none => rw [q] at h; cases h
    | some c =>
      have hn := (List.getElem?_eq_some_iff.mp q).1
      rw [List.getElem?_append_left hn, q]
      rw [q] at h
      exact h
  | _ => exact h
theorem Sees.app {m m' : Mem} {zs : List (W × Row)} (h : Sees m zs) : Sees (m ++ m') zs := fun z hz => seqOf_app (h z hz)
/-- copies of rows -/
theorem compL_copy {t : DG} {f : DE} {vs : List Nat} {r : Rho} (rr : W × Row → Rho) : ∀ (zs : List (W × Row)) (m : Mem), Sees m zs → (∀ z, z ∈ zs → t z.1 (wipeR r vs) = some (rr z)) →
    (∀ (z : W × Row) (m : Mem), z ∈ zs → seqOf m z.1 = some (rowL z.2) → f (rr z) m = .ok (.ref m.length) (m ++ [.lst (rowL z.2)])) →
    compL t dYes f vs (zs.map (·.1)) r m = .ok ((List.range' m.length zs.length).map .ref) (m ++ zs.map fun z => .lst (rowL z.2))
  | [], m, _, _, _ => by simp [compL]
  | z :: zs, m, hs, h1, h2 => by
    have e1 := h2 z m (.head _) (hs z (.head _))
    have hs' : Sees (m ++ [.lst (rowL z.2)]) zs := Sees.app fun y hy => hs y (.tail _ hy)
    have ih := compL_copy (f := f) rr zs (m ++ [.lst (rowL z.2)]) hs' (fun y hy => h1 y (.tail _ hy)) fun y m hy => h2 y m (.tail _ hy)
    rw [List.map_cons, compL, h1 z (.head _)]
    simp only [dYes, e1, ih, Dn.R.bind]
    simp [List.range'_succ]
theorem copies_hold (m : Mem) (l : Line) : HoldsAt (m ++ l.map fun x => .lst (rowL x)) (List.range' m.length l.length) l := by
  refine ⟨by simp, List.nodup_range', fun i n x h1 h2 => ?_⟩
  have hi : i < l.length := (List.getElem?_eq_some_iff.mp h2).1
  rw [List.getElem?_range' hi] at h1
  simp at h1
  subst h1
  rw [List.getElem?_append_right (by omega), List.getElem?_map]
  rw [show m.length + i - m.length = i by omega, h2]
  rfl
/-- rows settled -/
theorem frz_rows {m : Mem} {k : Nat} : ∀ {ns : List Nat} {l : Line}, HoldsAt m ns l → frzAs (frzR m (k + 1)) (ns.map .ref) = some (l.map rowS)
  | [], l, h => by
    have : l = [] := List.length_eq_zero_iff.mp h.1.symm
    subst this
    simp [frzAs]
  | n :: ns, [], h => by have := h.1; simp at this
  | n :: ns, x :: l, h => by
    have ht : HoldsAt m ns l := ⟨by simpa using h.1, (List.nodup_cons.mp h.2.1).2, fun i k y h1 h2 => h.2.2 (i + 1) k y (by simpa using h1) (by simpa using h2)⟩
    have h0 := h.2.2 0 n x rfl rfl
    have e0 : frzR m (k + 1) n = some (rowS x) := by
      simp only [frzR, h0, frzAs_g _ _ (gs_rowL x), Option.map_some]
      rfl
    rw [List.map_cons, frzAs, frzA, e0]
    simp only [frz_rows ht, Option.map_some, List.map_cons]
theorem frz_room {m : Mem} {k : Nat} {ns : List Nat} {l : Line} {c : Int} {s : List Int} (h : HoldsAt m ns l) : frzW m (k + 1) (.tup [.lst (ns.map .ref), .int c, .lst (s.map .int)]) = some (roomW ⟨l, c, s⟩) := by
  have e1 : frzA (frzR m (k + 1)) (.lst (ns.map .ref)) = some (.lst (l.map rowS)) := by rw [frzA, frz_rows h]; rfl
  have e3 : frzA (frzR m (k + 1)) (.lst (s.map .int)) = some (.lst (s.map .int)) := frzA_g _ _ (g_intsL s)
  have e2 : frzA (frzR m (k + 1)) (.int c) = some (.int c) := by rw [frzA]
  rw [frzW, frzA, frzAs, e1]
  simp only [frzAs, e2, e3, Option.map_some]
  rfl
end Rm

/-! M7: people in the line are distinct; all events that can be. -/
namespace Rm
open PySem PySem.Spec PyProof.Rows L2 Dn
def ps (l : Line) : List Int := l.map (·.p)
theorem ps_renewed (r : Rule) (l : Line) (s : List Int) : ps (renewed r l s) = ps l := by
  unfold ps renewed
  rw [List.map_map]
  have : ((fun x : Row => x.p) ∘ take1 r l s) = (fun x : Row => x.p) ∘ Prod.fst := by
    funext x
    simp only [Function.comp, take1]
    split <;> rfl
  rw [this, ← List.map_map, List.zipIdx_map_fst]
theorem ps_asHow (l : Line) (i : Nat) (h : How) : ps (asHow l i h) = ps l := by
  unfold asHow
  split
  · rename_i x e
    have hi := (List.getElem?_eq_some_iff.mp e).1
    unfold ps
    rw [List.map_append, List.map_cons]
    conv => rhs; rw [← List.take_append_drop i l, List.map_append, List.drop_eq_getElem_cons hi, List.map_cons]
    rw [(List.getElem?_eq_some_iff.mp e).2]
  · rfl
theorem ps_struck (p : Int) (l : Line) : ps (l.map (struck p)) = ps l := by
  unfold ps
  rw [List.map_map]
  refine List.map_congr_left fun x _ => ?_
  simp only [Function.comp, struck]
  split <;> rfl
theorem ps_without (r : Rule) (l : Line) (p : Int) : ps (without r l p) = (ps l).filter fun q => !(q == p) := by
  unfold without
  rw [ps_renewed, ps_struck]
  unfold ps
  rw [List.filter_map]
  rfl
theorem ps_forgetting (l : Line) : (ps (forgetting l)).Sublist (ps l) := by
  unfold forgetting
  split
  · exact List.Sublist.refl _
  · unfold ps
    rw [List.map_map]
    exact List.filter_sublist.map _
theorem ps_asked (r : Rule) (l : Line) : ps (askedAgain r l) = ps l := by
  unfold askedAgain
  split
  · exact ps_renewed _ _ _
  · rfl
/-- distinct people, all of whom came -/
structure Fine (R : Rm.Room) : Prop where
  nd : (ps R.line).Nodup
  lt : ∀ p, p ∈ ps R.line → 0 ≤ p ∧ p < R.came
  c0 : 0 ≤ R.came
theorem Fine.putIn {r : Rule} {R : Rm.Room} (h : Fine R) (i : Nat) : Fine (Rm.putIn r R i) := by
  have e : ps (Rm.putIn r R i).line = (ps R.line).take i ++ R.came :: (ps R.line).drop i := by
    show ps (renewed r _ _) = _
    rw [ps_renewed]
    unfold ps
    rw [List.map_append, List.map_cons, List.map_take, List.map_drop]
  have hp : ((ps R.line).take i ++ R.came :: (ps R.line).drop i).Perm (R.came :: ps R.line) := by
    refine List.perm_middle.trans ?_
    rw [List.take_append_drop]
  refine ⟨?_, fun p hp2 => ?_, by have := h.c0; show 0 ≤ R.came + 1; omega⟩
  · rw [e, hp.nodup_iff]
    exact List.nodup_cons.mpr ⟨fun q => by have := (h.lt _ q).2; omega, h.nd⟩
  · rw [e, hp.mem_iff] at hp2
    have := h.c0
    rcases List.mem_cons.mp hp2 with rfl | q
    · show 0 ≤ R.came ∧ R.came < R.came + 1
      omega
    · have := h.lt p q
      show 0 ≤ p ∧ p < R.came + 1
      omega
theorem Fine.sub {R R' : Rm.Room} (h : Fine R) (hs : (ps R'.line).Sublist (ps R.line)) (hc : R'.came = R.came) : Fine R' :=
  ⟨h.nd.sublist hs, fun p q => by rw [hc]; exact h.lt p (hs.subset q), by rw [hc]; exact h.c0⟩
theorem Fine.doRaw {r : Rule} {R : Rm.Room} (h : Fine R) (e : Ev) : Fine (Rm.doRaw r R e) := by
  cases e with
  | come => exact h.putIn _
  | door =>
    show Fine (openDoor r R)
    unfold openDoor
    split
    · refine h.sub ?_ rfl
      show (ps (without r _ _)).Sublist _
      rw [ps_without, ps_asked]
      exact List.filter_sublist
    · exact h.sub (by show (ps (askedAgain r R.line)).Sublist _; rw [ps_asked]; exact List.Sublist.refl _) rfl
  | pers x p =>
    cases x with
    | lett =>
      show Fine (if r.told = true then _ else _)
      split
      · exact (h.putIn (spotOf R.line p + 1)).sub (by show (ps (renewed r _ _)).Sublist _; rw [ps_renewed]; exact List.Sublist.refl _) rfl
      · exact h.putIn _
    | leave => exact h.sub (by show (ps (without r R.line p)).Sublist _; rw [ps_without]; exact List.filter_sublist) rfl
    | out => exact h.sub (by show (ps (asHow R.line _ _)).Sublist _; rw [ps_asHow]; exact List.Sublist.refl _) rfl
    | vanish => exact h.sub (by show (ps (asHow R.line _ _)).Sublist _; rw [ps_asHow]; exact List.Sublist.refl _) rfl
    | back =>
      show Fine (bringBack r R _)
      unfold bringBack
      split
      · have h2 : Fine ⟨R.line.take (spotOf R.line p) ++ R.line.drop (spotOf R.line p + 1), R.came, R.served⟩ := h.sub (by
          show (ps (_ ++ _)).Sublist _
          unfold ps
          have hs : (R.line.take (spotOf R.line p) ++ R.line.drop (spotOf R.line p + 1)).Sublist (R.line.take (spotOf R.line p) ++ R.line.drop (spotOf R.line p)) := (List.Sublist.refl _).append (by rw [← List.drop_drop (i := 1)]; exact List.drop_sublist _ _)
          rw [List.take_append_drop] at hs
          exact hs.map _) rfl
        exact h2.putIn _
      · split
        · exact h.sub (by show (ps (renewed r _ _)).Sublist _; rw [ps_renewed, ps_asHow]; exact List.Sublist.refl _) rfl
        · exact h.sub (by show (ps (asHow R.line _ _)).Sublist _; rw [ps_asHow]; exact List.Sublist.refl _) rfl
        · exact h.sub (by show (ps (renewed r _ _)).Sublist _; rw [ps_renewed, ps_asHow]; exact List.Sublist.refl _) rfl
theorem Fine.doEv {r : Rule} {R : Rm.Room} (h : Fine R) (e : Ev) : Fine (Rm.doEv r R e) := (h.doRaw (r := r) e).sub (ps_forgetting _) rfl
theorem fine0 : Fine room0 := ⟨List.nodup_nil, (fun p h => nomatch h), (by decide)⟩
theorem fine_fold (r : Rule) : ∀ (es : List Ev) (R : Rm.Room), Fine R → Fine (es.foldl (Rm.doEv r) R)
  | [], R, h => h
  | e :: es, R, h => fine_fold r es _ (h.doEv e)
theorem fine_behind (r : Rule) (es : List Ev) : Fine (behind r es) := fine_fold r es room0 fine0
theorem howIs_at {l : Line} (h : (ps l).Nodup) {x : Row} (hx : x ∈ l) : howIs l x.p = some x.h := by
  unfold howIs
  have : (l.filter fun y => y.p == x.p) = [x] := by
    induction l with
    | nil => cases hx
    | cons y l ih =>
      have h' := List.nodup_cons.mp h
      rcases List.mem_cons.mp hx with rfl | hx
      · rw [List.filter_cons_of_pos (by simp), List.filter_eq_nil_iff.mpr]
        intro z hz q
        exact h'.1 (List.mem_map.mpr ⟨z, hz, by simpa using q⟩)
      · rw [List.filter_cons_of_neg, ih h'.2 hx]
        intro q
        exact h'.1 (List.mem_map.mpr ⟨x, hx, by simp at q; exact q.symm⟩)
  rw [this]
  rfl
/-! ### all events that can be -/
def evsBase (l : Line) : List Ev := l.map (fun x => Ev.pers .back x.p) ++ l.map (fun x => Ev.pers .leave x.p) ++ l.map (fun x => Ev.pers .lett x.p) ++ l.map (fun x => Ev.pers .out x.p) ++ l.map (fun x => Ev.pers .vanish x.p) ++ [.come, .door]
def evs (r : Rule) (R : Rm.Room) : List Ev := (evsBase R.line).filter (canBe r R)
def evsS (r : Rule) (R : Rm.Room) : List Ev := isort (fun a b => leD a.w b.w) (evs r R)
theorem evsS_mem {r : Rule} {R : Rm.Room} {e : Ev} : e ∈ evsS r R ↔ e ∈ evs r R := (isort_perm _ _).mem_iff
theorem evs_can {r : Rule} {R : Rm.Room} {e : Ev} (h : e ∈ evsS r R) : canBe r R e = true := (List.mem_filter.mp (evsS_mem.mp h)).2
theorem evsBase_len (l : Line) : (evsBase l).length = 5 * l.length + 2 := by
  simp [evsBase]
  omega
theorem evsS_len (r : Rule) (R : Rm.Room) : (evsS r R).length ≤ 5 * R.line.length + 2 := by
  rw [evsS, (isort_perm _ _).length_eq, ← evsBase_len]
  exact List.length_filter_le _ _
theorem alike_ev (a b : Ev) : PySem.W.alike (toD a.w) (toD b.w) = true := by
  cases a <;> cases b <;> kernel_rfl
theorem ok_ev (n : Nat) (e : Ev) : okW (n + 1) e.w = true := by
  cases e with
  | come => simp only [Ev.w, okW_tup, okWs, okW, Bool.and_true]; kernel_rfl
  | door => simp only [Ev.w, okW_tup, okWs, okW, Bool.and_true]; kernel_rfl
  | pers x p =>
    simp only [Ev.w, okW_tup, okWs, okW, Bool.and_true]
    cases x <;> kernel_rfl
theorem tup_ev (e : Ev) : tupB e.w = true := by cases e <;> rfl
theorem sorted_evs {m : Mem} (es : List Ev) : sortedW m [.lst (es.map Ev.w)] = some ((isort (fun a b => leD a.w b.w) es).map Ev.w) := by
  have h1 : okWs 20 (es.map Ev.w) = true := okWs_map (ok_ev 19) es
  have h2 : alikeB (es.map Ev.w) = true := by
    unfold alikeB
    rw [List.all_eq_true]
    intro a ha
    rw [List.all_eq_true]
    intro b hb
    obtain ⟨x, _, rfl⟩ := List.mem_map.mp ha
    obtain ⟨y, _, rfl⟩ := List.mem_map.mp hb
    exact alike_ev x y
  have h3 : sortB (es.map Ev.w) = true := by
    unfold sortB
    rw [Bool.or_eq_true_iff]
    refine .inl ?_
    rw [List.all_eq_true]
    intro a ha
    obtain ⟨x, _, rfl⟩ := List.mem_map.mp ha
    exact tup_ev x
  simp only [sortedW, lstOf, h1, h2, h3, Bool.and_self, if_true]
  rw [isort_map]
/-- the same with those who are here alone -/
theorem evs_here {r : Rule} {R : Rm.Room} (h : Fine R) : (R.line.map (fun x : Row => Ev.pers .back x.p) ++ (here R.line).map (fun p => Ev.pers .leave p) ++ (here R.line).map (fun p => Ev.pers .lett p) ++ (here R.line).map (fun p => Ev.pers .out p) ++ (here R.line).map (fun p => Ev.pers .vanish p) ++ [Ev.come, Ev.door]).filter (canBe r R) = evs r R := by
  have key : ∀ x : Pw, x ≠ .back → ((here R.line).map fun p => Ev.pers x p).filter (canBe r R) = (R.line.map fun y => Ev.pers x y.p).filter (canBe r R) := fun x hx => by
    unfold here
    rw [List.map_map, List.filter_map, List.filter_map, List.filter_filter]
    congr 1
    refine List.filter_congr fun y hy => ?_
    simp only [Function.comp]
    have hh := howIs_at h.nd hy
    by_cases c : y.h = .here
    · simp [c]
    · have : canBe r R (.pers x y.p) = false := by
        cases x with
        | back => exact absurd rfl hx
        | _ => simp [canBe, hh, c]
      rw [this]
      simp
  unfold evs evsBase
  simp only [List.filter_append]
  rw [key .leave (by decide), key .lett (by decide), key .out (by decide), key .vanish (by decide)]
end Rm

/-! M8: tidy rules: whoever is here has the nearest names; claims by gaps. -/
namespace Rm
structure Tidy (r : Rule) : Prop where
  line : r.line = true
  on : r.on = true
  told : r.told = true
  bk : r.bk ≠ .old
def ahd (r : Rule) (l : Line) : List Int := (l.filter fun x => known r x.h).map (·.p)
theorem nearest_ahd (r : Rule) (l : Line) (i : Nat) : nearest r l i = ((ahd r (l.take i)).reverse).take r.k.toNat := rfl
def Neat (r : Rule) (l : Line) : Prop := ∀ i x, l[i]? = some x → x.h = .here → x.ns = nearest r l i
/-- who and how alone count for the names -/
def ph (l : Line) : List (Int × How) := l.map fun x => (x.p, x.h)
theorem ahd_ph (r : Rule) (l : Line) : ahd r l = ((ph l).filter fun y => known r y.2).map (·.1) := by
  unfold ahd ph
  rw [List.filter_map, List.map_map]
  rfl
theorem ahd_of {r : Rule} {l l' : Line} (h : ph l = ph l') : ahd r l = ahd r l' := by rw [ahd_ph, ahd_ph, h]
theorem ph_take (l : Line) (i : Nat) : ph (l.take i) = (ph l).take i := by unfold ph; rw [List.map_take]
theorem nearest_of {r : Rule} {l l' : Line} {i : Nat} (h : (ph l).take i = (ph l').take i) : nearest r l i = nearest r l' i := by
  rw [nearest_ahd, nearest_ahd, ahd_of (l := l.take i) (l' := l'.take i) (by rw [ph_take, ph_take, h])]
theorem take1_p (r : Rule) (l : Line) (s : List Int) (x : Row × Nat) : (take1 r l s x).p = x.1.p := by unfold take1; split <;> rfl
theorem take1_h (r : Rule) (l : Line) (s : List Int) (x : Row × Nat) : (take1 r l s x).h = x.1.h := by unfold take1; split <;> rfl
theorem ph_renewed (r : Rule) (l : Line) (s : List Int) : ph (renewed r l s) = ph l := by
  unfold ph renewed
  rw [List.map_map]
  have : ((fun x : Row => (x.p, x.h)) ∘ take1 r l s) = (fun x : Row => (x.p, x.h)) ∘ fun x : Row × Nat => x.1 := by
    funext x
    simp only [Function.comp, take1_p, take1_h]
  rw [this, ← List.map_map, List.zipIdx_map_fst]
theorem renewed_at {r : Rule} {l : Line} {s : List Int} {i : Nat} {x : Row} (h : (renewed r l s)[i]? = some x) : ∃ y, l[i]? = some y ∧ x = take1 r l s (y, i) := by
  unfold renewed at h
  rw [List.getElem?_map, List.getElem?_zipIdx] at h
  cases q : l[i]? with
  | none => rw [q] at h; cases h
  | some y =>
    rw [q] at h
    simp at h
    exact ⟨y, rfl, h.symm⟩
theorem neat_renewed {r : Rule} {l : Line} {s : List Int} (h : ∀ (i : Nat) (x : Row), l[i]? = some x → x.h = .here → (i : Int) ∈ s ∨ x.ns = nearest r l i) : Neat r (renewed r l s) := fun i x hx hh => by
  obtain ⟨y, hy, rfl⟩ := renewed_at hx
  rw [take1_h] at hh
  have e : nearest r (renewed r l s) i = nearest r l i := nearest_of (by rw [ph_renewed])
  rw [e]
  unfold take1
  cases hc : s.contains (i : Int) with
  | true =>
    have hh' : y.h = .here := hh
    simp [hh']
  | false =>
    rcases h i y hy hh with q | q
    · have : s.contains (i : Int) = true := by simpa using q
      rw [this] at hc; cases hc
    · simpa using q
theorem neat_end {r : Rule} {l : Line} (h : Neat r l) (c : Int) : Neat r (renewed r (l.take l.length ++ ⟨c, .here, []⟩ :: l.drop l.length) [(l.length : Int)]) := by
  refine neat_renewed fun i x hx hh => ?_
  rw [List.take_length, List.drop_length] at hx ⊢
  by_cases hi : i < l.length
  · rw [List.getElem?_append_left hi] at hx
    refine .inr ?_
    rw [h i x hx hh]
    refine nearest_of ?_
    unfold ph
    rw [List.map_append, List.take_append_of_le_length (by rw [List.length_map]; omega)]
  · have : i = l.length := by
      have := (List.getElem?_eq_some_iff.mp hx).1
      simp at this
      omega
    exact .inl (by rw [this]; exact .head _)
theorem upTo_mem {a b i : Nat} (h1 : a ≤ i) (h2 : i < b) : (i : Int) ∈ upTo a b := by
  unfold upTo
  refine List.mem_map.mpr ⟨i - a, List.mem_range.mpr (by omega), ?_⟩
  congr 1
  omega
theorem neat_from {r : Rule} {l : Line} {j : Nat} (h : ∀ i x, i < j → l[i]? = some x → x.h = .here → x.ns = nearest r l i) : Neat r (renewed r l (upTo j l.length)) :=
  neat_renewed fun i x hx hh => by
    by_cases hi : i < j
    · exact .inr (h i x hi hx hh)
    · exact .inl (upTo_mem (by omega) (List.getElem?_eq_some_iff.mp hx).1)
theorem neat_let {r : Rule} {l : Line} (h : Neat r l) (c : Int) (j : Nat) (hj : j ≤ l.length) : Neat r (renewed r (renewed r (l.take j ++ ⟨c, .here, []⟩ :: l.drop j) [(j : Int)]) (upTo (j + 1) (renewed r (l.take j ++ ⟨c, .here, []⟩ :: l.drop j) [(j : Int)]).length)) := by
  refine neat_from fun i x hi hx hh => ?_
  have e : nearest r (renewed r (l.take j ++ ⟨c, .here, []⟩ :: l.drop j) [(j : Int)]) i = nearest r (l.take j ++ ⟨c, .here, []⟩ :: l.drop j) i := nearest_of (by rw [ph_renewed])
  rw [e]
  obtain ⟨y, hy, rfl⟩ := renewed_at hx
  rw [take1_h] at hh
  by_cases hij : i < j
  · have hy' : l[i]? = some y := by
      rw [List.getElem?_append_left (by rw [List.length_take]; omega), List.getElem?_take] at hy
      rwa [if_pos hij] at hy
    have hn : ([(j : Int)].contains (i : Int)) = false := by simp; omega
    unfold take1
    rw [hn]
    simp only [Bool.false_and, Bool.false_eq_true, if_false]
    rw [h i y hy' hh]
    refine nearest_of ?_
    unfold ph
    rw [List.map_append, List.take_append_of_le_length (by rw [List.length_map, List.length_take]; omega), List.map_take, List.take_take, Nat.min_eq_left (by omega)]
  · have : i = j := by omega
    subst this
    unfold take1
    have hn : ([(i : Int)].contains (i : Int)) = true := by simp
    have hh' : y.h = .here := hh
    rw [hn]
    simp [hh']
theorem filter_idx {f : Row → Bool} : ∀ {l : Line} {i : Nat} {x : Row}, (l.filter f)[i]? = some x → ∃ j, l[j]? = some x ∧ (l.take j).filter f = (l.filter f).take i
  | [], i, x, h => by simp at h
  | a :: l, i, x, h => by
    rw [List.filter_cons] at h
    cases q : f a with
    | true =>
      rw [q] at h
      simp only [if_true] at h
      cases i with
      | zero => exact ⟨0, by simpa using h, by simp⟩
      | succ i =>
        obtain ⟨j, e1, e2⟩ := filter_idx (l := l) (by simpa using h)
        exact ⟨j + 1, by simpa using e1, by simp [List.filter_cons, q, e2]⟩
    | false =>
      rw [q] at h
      simp only [Bool.false_eq_true, if_false] at h
      obtain ⟨j, e1, e2⟩ := filter_idx (l := l) h
      exact ⟨j + 1, by simpa using e1, by simp [List.filter_cons, q, e2]⟩
theorem take_filter (p : Int) : ∀ (xs : List Int) (k : Nat), p ∉ xs.take k → (xs.filter fun q => !(q == p)).take k = xs.take k
  | [], _, _ => by simp
  | _ :: _, 0, _ => by simp
  | a :: xs, k + 1, h => by
    rw [List.take_succ_cons] at h
    have ha : (a == p) = false := by
      rw [beq_eq_false_iff_ne]
      intro q
      exact h (by simp [q])
    rw [List.filter_cons, ha]
    simp only [Bool.not_false, if_true]
    rw [List.take_succ_cons, List.take_succ_cons, take_filter p xs k fun q => h (.tail _ q)]
theorem ph_struck (p : Int) (l : Line) : ph (l.map (struck p)) = ph l := by
  unfold ph
  rw [List.map_map]
  refine List.map_congr_left fun x _ => ?_
  simp only [Function.comp, struck]
  split <;> rfl
theorem neat_without {r : Rule} {l : Line} (hon : r.on = true) (h : Neat r l) (p : Int) : Neat r (without r l p) := by
  unfold without
  rw [if_pos hon]
  refine neat_renewed fun i x hx hh => ?_
  rw [List.getElem?_map] at hx
  cases hy : (l.filter fun x => !(x.p == p))[i]? with
  | none => rw [hy] at hx; cases hx
  | some y =>
    rw [hy] at hx
    have hx' : struck p y = x := by simpa using hx
    have hyh : y.h = .here := by
      rw [← hx'] at hh
      unfold struck at hh
      split at hh <;> exact hh
    by_cases hp : y.ns.contains p = true
    · refine .inl ?_
      unfold hits
      refine List.mem_map.mpr ⟨(y, i), List.mem_filter.mpr ⟨?_, by simp [hyh, by simpa using hp]⟩, rfl⟩
      rw [List.mem_zipIdx_iff_getElem?]
      exact hy
    · refine .inr ?_
      have ex : x = y := by
        rw [← hx']
        unfold struck
        rw [if_neg (fun q => hp q.2)]
      subst ex
      obtain ⟨j, e1, e2⟩ := filter_idx hy
      have hn := h j x e1 hyh
      rw [hn]
      rw [nearest_ahd, nearest_ahd]
      have hph : ahd r (((l.filter fun x => !(x.p == p)).map (struck p)).take i) = (ahd r (l.take j)).filter fun q => !(q == p) := by
        rw [← List.map_take, ahd_of (ph_struck p _), ← e2]
        unfold ahd
        rw [List.filter_map, List.filter_filter, List.filter_filter]
        congr 1
        refine List.filter_congr fun z _ => ?_
        simp only [Function.comp]
        rw [Bool.and_comm]
      rw [hph, ← List.filter_reverse]
      refine (take_filter p _ _ ?_).symm
      rw [← nearest_ahd, ← hn]
      simpa using hp
theorem asHow_at {l : Line} {i : Nat} {x : Row} (h : How) (hx : l[i]? = some x) : asHow l i h = l.take i ++ ⟨x.p, h, if h = .away then [] else x.ns⟩ :: l.drop (i + 1) := by
  unfold asHow
  rw [hx]
theorem asHow_other {l : Line} {i j : Nat} {x y : Row} (h : How) (hx : l[i]? = some x) (hj : j ≠ i) (hy : (asHow l i h)[j]? = some y) : l[j]? = some y := by
  have hi := (List.getElem?_eq_some_iff.mp hx).1
  rw [asHow_at h hx] at hy
  by_cases hlt : j < i
  · rw [List.getElem?_append_left (by rw [List.length_take]; omega), List.getElem?_take, if_pos hlt] at hy
    exact hy
  · rw [List.getElem?_append_right (by rw [List.length_take]; omega), List.length_take, Nat.min_eq_left (by omega)] at hy
    rw [show j - i = (j - i - 1) + 1 by omega, List.getElem?_cons_succ, List.getElem?_drop] at hy
    rwa [show i + 1 + (j - i - 1) = j by omega] at hy
theorem asHow_self {l : Line} {i : Nat} {x y : Row} (h : How) (hx : l[i]? = some x) (hy : (asHow l i h)[i]? = some y) : y.h = h := by
  have hi := (List.getElem?_eq_some_iff.mp hx).1
  rw [asHow_at h hx, List.getElem?_append_right (by rw [List.length_take]; omega), List.length_take, Nat.min_eq_left (by omega), Nat.sub_self, List.getElem?_cons_zero] at hy
  injection hy with hy
  rw [← hy]
theorem split_at {l : Line} {i : Nat} {x : Row} (hx : l[i]? = some x) : l = l.take i ++ x :: l.drop (i + 1) := by
  obtain ⟨hi, e⟩ := List.getElem?_eq_some_iff.mp hx
  conv => lhs; rw [← List.take_append_drop i l, List.drop_eq_getElem_cons hi, e]
theorem ahd_asHow {r : Rule} {l : Line} {i : Nat} {x : Row} {h : How} (hx : l[i]? = some x) (hk : known r h = known r x.h) (j : Nat) : ahd r ((asHow l i h).take j) = ahd r (l.take j) := by
  have e : ∀ (a b : Line) (y z : Row), y.p = z.p → known r y.h = known r z.h → ahd r ((a ++ y :: b).take j) = ahd r ((a ++ z :: b).take j) := fun a b y z h1 h2 => by
    rw [List.take_append, List.take_append]
    unfold ahd
    rw [List.filter_append, List.filter_append, List.map_append, List.map_append]
    congr 1
    cases j - a.length with
    | zero => simp
    | succ n =>
      rw [List.take_succ_cons, List.take_succ_cons, List.filter_cons, List.filter_cons, h2]
      cases known r z.h <;> simp [h1]
  rw [asHow_at h hx]
  conv => rhs; rw [split_at hx]
  exact e _ _ _ _ rfl hk
theorem neat_asHow {r : Rule} {l : Line} {i : Nat} {x : Row} {h : How} (hx : l[i]? = some x) (hk : known r h = known r x.h) (hh : h ≠ .here) (hn : Neat r l) : Neat r (asHow l i h) := fun j y hy hhy => by
  by_cases hj : j = i
  · subst hj
    exact absurd ((asHow_self h hx hy).symm.trans hhy) hh
  · rw [hn j y (asHow_other h hx hj hy) hhy, nearest_ahd, nearest_ahd, ahd_asHow hx hk]
theorem neat_drop {r : Rule} {l : Line} {i : Nat} {x : Row} (hx : l[i]? = some x) (hk : known r x.h = false) (hn : Neat r l) : Neat r (l.take i ++ l.drop (i + 1)) := fun j y hy hhy => by
  have hi := (List.getElem?_eq_some_iff.mp hx).1
  have ea : ∀ a b : Line, ahd r (a ++ x :: b) = ahd r (a ++ b) := fun a b => by
    unfold ahd
    rw [List.filter_append, List.filter_append, List.filter_cons, hk]
    rfl
  by_cases hlt : j < i
  · have hy' : l[j]? = some y := by
      rw [List.getElem?_append_left (by rw [List.length_take]; omega), List.getElem?_take, if_pos hlt] at hy
      exact hy
    rw [hn j y hy' hhy]
    refine nearest_of ?_
    unfold ph
    rw [List.map_append, List.take_append_of_le_length (by rw [List.length_map, List.length_take]; omega), List.map_take, List.take_take, Nat.min_eq_left (by omega)]
  · have hy' : l[j + 1]? = some y := by
      rw [List.getElem?_append_right (by rw [List.length_take]; omega), List.length_take, Nat.min_eq_left (by omega), List.getElem?_drop] at hy
      rwa [show i + 1 + (j - i) = j + 1 by omega] at hy
    rw [hn (j + 1) y hy' hhy, nearest_ahd, nearest_ahd]
    congr 2
    conv => lhs; rw [split_at hx]
    have hl1 : (l.take i).length = i := by rw [List.length_take]; omega
    rw [List.take_append, List.take_append, hl1]
    rw [List.take_of_length_le (l := l.take i) (i := j + 1) (by omega), List.take_of_length_le (l := l.take i) (i := j) (by omega)]
    rw [show j + 1 - i = (j - i) + 1 by omega, List.take_succ_cons, ea]
theorem neat_asked {r : Rule} {l : Line} (hn : Neat r l) : askedAgain r l = l := by
  unfold askedAgain
  cases r.asks with
  | false => rfl
  | true =>
    show renewed r l (bare l) = l
    refine List.ext_getElem? fun i => ?_
    unfold renewed
    rw [List.getElem?_map, List.getElem?_zipIdx]
    cases q : l[i]? with
    | none => rfl
    | some x =>
      simp only [Option.map, Nat.zero_add, Option.some.injEq]
      unfold take1
      by_cases hh : x.h = .here
      · have := hn i x q hh
        split
        · rw [← this]
        · rfl
      · simp [hh]
end Rm

/-! M9: tidy rules: behind each row names are the nearest; claims by gaps. -/
namespace Rm
theorem spot_row : ∀ {l : Line}, (ps l).Nodup → ∀ {x : Row}, x ∈ l → l[spotOf l x.p]? = some x
  | [], _, _, h => by cases h
  | y :: l, h, x, hx => by
    have h' := List.nodup_cons.mp h
    unfold spotOf
    rw [List.findIdx_cons]
    rcases List.mem_cons.mp hx with rfl | hx
    · simp
    · have : (y.p == x.p) = false := by
        rw [beq_eq_false_iff_ne]
        intro q
        exact h'.1 (List.mem_map.mpr ⟨x, hx, q.symm⟩)
      rw [this]
      simp only [cond_false, List.getElem?_cons_succ]
      exact spot_row h'.2 hx
theorem spot_how {R : Room} (hf : Fine R) {p : Int} {h : How} (hh : howIs R.line p = some h) : ∃ x, R.line[spotOf R.line p]? = some x ∧ x.h = h ∧ x.p = p := by
  obtain ⟨x, hx, rfl⟩ := List.mem_map.mp (howIs_mem hh)
  have e1 := howIs_at hf.nd hx
  rw [hh] at e1
  injection e1 with e1
  exact ⟨x, spot_row hf.nd hx, e1.symm, rfl⟩
theorem neat_raw {r : Rule} (ht : Tidy r) {R : Room} (hf : Fine R) (hn : Neat r R.line) (e : Ev) (hc : canBe r R e = true) : Neat r (doRaw r R e).line := by
  have kl : ∀ h, h ≠ How.lost → known r h = true := fun h q => by cases h <;> simp [known, ht.line] at q ⊢
  cases e with
  | come => exact neat_end hn R.came
  | door =>
    show Neat r (openDoor r R).line
    unfold openDoor
    rw [neat_asked hn]
    split
    · exact neat_without ht.on hn _
    · exact hn
  | pers w p =>
    cases w with
    | lett =>
      show Neat r (doPers r R .lett p).line
      have hh : howIs R.line p = some .here := by
        simp [canBe] at hc
        exact hc.1
      obtain ⟨x, hx, _, _⟩ := spot_how hf hh
      have hi := (List.getElem?_eq_some_iff.mp hx).1
      unfold doPers
      simp only [ht.told, if_true]
      exact neat_let hn R.came (spotOf R.line p + 1) hi
    | leave => exact neat_without ht.on hn p
    | out =>
      have hh : howIs R.line p = some .here := by simpa [canBe] using hc
      obtain ⟨x, hx, h1, _⟩ := spot_how hf hh
      exact neat_asHow hx (by rw [h1, kl _ (by decide), kl _ (by decide)]) (by decide) hn
    | vanish =>
      have hh : howIs R.line p = some .here := by simpa [canBe] using hc
      obtain ⟨x, hx, h1, _⟩ := spot_how hf hh
      exact neat_asHow hx (by rw [h1, kl _ (by decide), kl _ (by decide)]) (by decide) hn
    | back =>
      have hh : howIs R.line p = some .out ∨ howIs R.line p = some .lost := by
        simp [canBe] at hc
        exact hc.1
      obtain ⟨h, hh'⟩ : ∃ h, howIs R.line p = some h := by
        rcases hh with q | q <;> exact ⟨_, q⟩
      obtain ⟨x, hx, h1, _⟩ := spot_how hf hh'
      show Neat r (bringBack r R (spotOf R.line p)).line
      unfold bringBack
      rw [hx]
      by_cases c : r.bk = .asks ∧ x.h = .lost
      · rw [if_pos ⟨c.1, by simp [c.2]⟩]
        have hi := (List.getElem?_eq_some_iff.mp hx).1
        have hd := neat_drop hx (by rw [c.2]; rfl) hn
        have hl : (R.line.take (spotOf R.line p) ++ R.line.drop (spotOf R.line p + 1)).length = R.line.length - 1 := by
          rw [List.length_append, List.length_take, List.length_drop]
          omega
        have := neat_end hd R.came
        rw [hl] at this
        exact this
      · rw [if_neg (fun q => c ⟨q.1, by simpa using q.2⟩)]
        cases hb : r.bk with
        | old => exact absurd hb ht.bk
        | tells =>
          show Neat r (renewed r (asHow R.line (spotOf R.line p) .here) (upTo (spotOf R.line p) (asHow R.line (spotOf R.line p) .here).length))
          refine neat_from fun i y hi hy hhy => ?_
          rw [hn i y (asHow_other .here hx (by omega) hy) hhy]
          refine nearest_of ?_
          have hlt := (List.getElem?_eq_some_iff.mp hx).1
          rw [asHow_at _ hx]
          unfold ph
          rw [List.map_append, List.take_append_of_le_length (by rw [List.length_map, List.length_take]; omega), List.map_take, List.take_take, Nat.min_eq_left (by omega)]
        | asks =>
          have hl : x.h ≠ .lost := fun q => c ⟨hb, q⟩
          show Neat r (renewed r (asHow R.line (spotOf R.line p) .here) [((spotOf R.line p : Nat) : Int)])
          refine neat_renewed fun i y hy hhy => ?_
          by_cases hi : i = spotOf R.line p
          · exact .inl (by rw [hi]; exact .head _)
          · refine .inr ?_
            rw [hn i y (asHow_other .here hx hi hy) hhy, nearest_ahd, nearest_ahd, ahd_asHow hx (by rw [kl _ hl]; rfl)]
theorem neat_forgetting {r : Rule} {l : Line} (hn : Neat r l) : Neat r (forgetting l) := by
  unfold forgetting
  split
  · exact hn
  · intro i x hx hh
    rw [List.getElem?_map] at hx
    cases q : (l.filter fun x => !decide (x.h = .away))[i]? with
    | none => rw [q] at hx; cases hx
    | some y =>
      rw [q] at hx
      simp at hx
      rw [← hx] at hh
      cases hh
theorem neat_row {r : Rule} (ht : Tidy r) : ∀ (es : List Ev) (R : Room), Fine R → Neat r R.line → isRow r R es = true → Neat r (es.foldl (doEv r) R).line
  | [], _, _, hn, _ => hn
  | e :: es, R, hf, hn, h => by
    rw [isRow, Bool.and_eq_true_iff] at h
    exact neat_row ht es (doEv r R e) (hf.doEv e) (neat_forgetting (neat_raw ht hf hn e h.1)) h.2
theorem neat_behind {r : Rule} (ht : Tidy r) (es : List Ev) (h : isRow r room0 es = true) : Neat r (behind r es).line :=
  neat_row ht es room0 fine0 (fun i x hx => by simp [room0] at hx) h
/-! ### claims by gaps -/
def dueB (r : Rule) (f : Option Int) (y : Int × Int) : Bool := (decide (f = some y.1) && decide (y.2 ≤ r.t)) || (decide (r.t = r.k) && decide (r.k ≤ y.2))
theorem here_snoc (l : Line) (x : Row) : here (l ++ [x]) = here l ++ (if x.h = .here then [x.p] else []) := by
  unfold here
  rw [List.filter_append, List.map_append]
  congr 1
  by_cases h : x.h = .here <;> simp [h]
theorem gaps_here : ∀ (l : Line) (a : List (Int × Int) × Int), (l.foldl gapStep a).1.map (·.1) = a.1.map (·.1) ++ here l
  | [], a => by simp [here]
  | x :: l, a => by
    rw [List.foldl_cons, gaps_here l]
    have hc : here (x :: l) = (if x.h = .here then [x.p] else []) ++ here l := by
      unfold here
      rw [List.filter_cons]
      by_cases h : x.h = .here <;> simp [h]
    rw [hc]
    unfold gapStep
    by_cases h : x.h = .here
    · simp [h]
    · by_cases h2 : x.h = .lost <;> simp [h, h2]
def kn (r : Rule) (l : Line) : Line := (l.filter fun x => known r x.h).reverse
def free (l : Line) : Nat := (l.takeWhile fun x => !decide (x.h = .here)).length
theorem free_le (l : Line) : free l ≤ l.length := by
  unfold free
  exact (List.takeWhile_sublist _).length_le
theorem free_all : ∀ {l : Line}, (∀ x, x ∈ l → x.h ≠ .here) → free l = l.length
  | [], _ => rfl
  | y :: l, h => by
    have hy := h y (.head _)
    have ih := free_all (l := l) fun x q => h x (.tail _ q)
    unfold free at ih ⊢
    rw [List.takeWhile_cons]
    simp [hy, ih]
theorem free_take : ∀ (l : Line) (k : Nat), ((l.take k).any fun x => decide (x.h = .here)) = false ↔ (k ≤ free l ∨ free l = l.length)
  | [], k => by simp [free]
  | y :: l, 0 => by simp
  | y :: l, k + 1 => by
    have ih := free_take l k
    rw [List.take_succ_cons, List.any_cons]
    unfold free at ih ⊢
    rw [List.takeWhile_cons]
    by_cases h : y.h = .here
    · simp [h]
    · simp only [h, decide_false, Bool.false_or, Bool.not_false, if_true, List.length_cons]
      rw [ih]
      omega
theorem gap_free {r : Rule} (hl : r.line = true) : ∀ (n : Nat) (l : Line), l.length = n → ((l.foldl gapStep ([], 0)).2 = (free (kn r l) : Nat)) := fun n => by
  induction n with
  | zero =>
    intro l h
    rw [List.length_eq_zero_iff.mp h]
    rfl
  | succ n ih =>
    intro l h
    rcases List.eq_nil_or_concat l with q | ⟨q, x, e⟩
    · rw [q] at h; cases h
    rw [List.concat_eq_append] at e
    subst e
    have ih' := ih q (by simpa using h)
    rw [List.foldl_append]
    show (gapStep (q.foldl gapStep ([], 0)) x).2 = _
    have hk : kn r (q ++ [x]) = if known r x.h = true then x :: kn r q else kn r q := by
      unfold kn
      rw [List.filter_append, List.reverse_append]
      cases h : known r x.h <;> simp [h]
    rw [hk]
    generalize List.foldl gapStep ([], 0) q = a at ih' ⊢
    unfold gapStep
    by_cases h1 : x.h = .here
    · have : known r x.h = true := by rw [h1]; rfl
      rw [if_pos h1, if_pos this]
      simp [free, h1]
    · rw [if_neg h1]
      by_cases h2 : x.h = .lost
      · have : known r x.h = false := by rw [h2]; rfl
        rw [if_pos h2, this, ih']
        rfl
      · have : known r x.h = true := by cases hx : x.h <;> simp [hx, known, hl] at h1 h2 ⊢
        rw [if_neg h2, if_pos this]
        have e2 : free (x :: kn r q) = free (kn r q) + 1 := by
          unfold free
          rw [List.takeWhile_cons]
          simp [h1]
        rw [e2, ih']
        simp
end Rm

/-! M10: claims by gaps. -/
namespace Rm
theorem here_iff {l : Line} (hn : (ps l).Nodup) {y : Row} (hy : y ∈ l) : (here l).contains y.p = decide (y.h = .here) := by
  rw [Bool.eq_iff_iff, decide_eq_true_iff, List.contains_iff_mem]
  constructor
  · intro h
    unfold here at h
    obtain ⟨z, hz, e⟩ := List.mem_map.mp h
    rw [List.mem_filter] at hz
    have e1 := howIs_at hn hz.1
    have e2 := howIs_at hn hy
    have e' : z.p = y.p := e
    rw [e', e2] at e1
    injection e1 with e1
    rw [e1]
    simpa using hz.2
  · intro h
    exact List.mem_map.mpr ⟨y, List.mem_filter.mpr ⟨hy, by simp [h]⟩, rfl⟩
theorem any_congr {α : Type} {f g : α → Bool} : ∀ {l : List α}, (∀ x, x ∈ l → f x = g x) → l.any f = l.any g
  | [], _ => rfl
  | a :: l, h => by rw [List.any_cons, List.any_cons, h a (.head _), any_congr fun x q => h x (.tail _ q)]
def claimB (r : Rule) (l : Line) (x : Row) : Bool := decide (x.h = .here) && (decide ((x.ns.length : Int) ≤ r.t) && !(x.ns.any fun n => (here l).contains n))
theorem claim_one {r : Rule} (ht : Tidy r) (hr : r.Ok) {l : Line} (hnd : (ps l).Nodup) (hn : Neat r l) {q : Line} {x : Row} {post : Line} (e : l = q ++ x :: post) (hx : x.h = .here) : claimB r l x = dueB r (here l).head? (x.p, (free (kn r q) : Nat)) := by
  have k1 := hr.k1
  have t0 := hr.t0
  have tk := hr.tk
  have hat : l[q.length]? = some x := by rw [e]; simp
  have hns := hn q.length x hat hx
  have tq : l.take q.length = q := by rw [e]; simp
  rw [nearest_ahd, tq] at hns
  have ea : (ahd r q).reverse = (kn r q).map (·.p) := by unfold ahd kn; rw [List.map_reverse]
  rw [ea, ← List.map_take] at hns
  have mem : ∀ y, y ∈ kn r q → y ∈ q := fun y hy => by
    unfold kn at hy
    rw [List.mem_reverse, List.mem_filter] at hy
    exact hy.1
  have hany : (x.ns.any fun n => (here l).contains n) = (((kn r q).take r.k.toNat).any fun y => decide (y.h = .here)) := by
    rw [hns, List.any_map]
    refine any_congr fun y hy => ?_
    have : y ∈ l := by
      rw [e]
      exact List.mem_append_left _ (mem y (List.mem_of_mem_take hy))
    exact here_iff hnd this
  have hlen : x.ns.length = min r.k.toNat (kn r q).length := by rw [hns, List.length_map, List.length_take]
  have fl := free_le (kn r q)
  have ft := free_take (kn r q) r.k.toNat
  have hcl : claimB r l x = true ↔ ((min r.k.toNat (kn r q).length : Nat) : Int) ≤ r.t ∧ (r.k.toNat ≤ free (kn r q) ∨ free (kn r q) = (kn r q).length) := by
    unfold claimB
    rw [hany, hlen, ← ft]
    simp [hx]
  have hl : here l = here q ++ x.p :: here post := by
    rw [e]
    unfold here
    rw [List.filter_append, List.map_append, List.filter_cons]
    simp [hx]
  rw [Bool.eq_iff_iff, hcl]
  unfold dueB
  simp only [Bool.or_eq_true, Bool.and_eq_true, decide_eq_true_eq]
  have hpq : x.p ∉ ps q := by
    rw [e] at hnd
    unfold ps at hnd
    rw [List.map_append, List.map_cons, List.nodup_append] at hnd
    intro h
    exact hnd.2.2 _ h _ (.head _) rfl
  cases hq : here q with
  | nil =>
    have all : ∀ y, y ∈ kn r q → y.h ≠ .here := fun y hy hh => by
      have : y.p ∈ here q := List.mem_map.mpr ⟨y, List.mem_filter.mpr ⟨mem y hy, by simp [hh]⟩, rfl⟩
      rw [hq] at this
      cases this
    have fa := free_all all
    rw [hl, hq, fa]
    simp only [List.nil_append, List.head?_cons, true_and, or_true, and_true]
    omega
  | cons a as =>
    have hmem : a ∈ here q := by rw [hq]; exact .head _
    have hmem' := hmem
    unfold here at hmem
    obtain ⟨y, hy, ey⟩ := List.mem_map.mp hmem
    rw [List.mem_filter] at hy
    have hyh : y.h = .here := by simpa using hy.2
    have hyk : y ∈ kn r q := by
      unfold kn
      rw [List.mem_reverse, List.mem_filter]
      exact ⟨hy.1, by rw [hyh]; rfl⟩
    have flt : free (kn r q) < (kn r q).length := by
      have f2 := free_take (kn r q) (kn r q).length
      rw [List.take_length] at f2
      rcases Nat.lt_or_ge (free (kn r q)) (kn r q).length with g | g
      · exact g
      · have : ((kn r q).any fun x => decide (x.h = .here)) = false := f2.mpr (.inl g)
        have h2 : ((kn r q).any fun x => decide (x.h = .here)) = true := List.any_eq_true.mpr ⟨y, hyk, by simp [hyh]⟩
        rw [this] at h2
        cases h2
    have hne : a ≠ x.p := fun g => by
      have : a ∈ ps q := by
        have ey' : y.p = a := ey
        rw [← ey']
        exact List.mem_map.mpr ⟨y, hy.1, rfl⟩
      exact hpq (g ▸ this)
    rw [hl, hq]
    simp only [List.cons_append, List.head?_cons, Option.some.injEq, hne, false_and, false_or]
    omega
theorem claims_pre {r : Rule} (ht : Tidy r) (hr : r.Ok) {l : Line} (hnd : (ps l).Nodup) (hn : Neat r l) : ∀ (n : Nat) (q post : Line), q.length = n → l = q ++ post → (q.filter (claimB r l)).map (·.p) = ((q.foldl gapStep ([], 0)).1.filter (dueB r (here l).head?)).map (·.1) := fun n => by
  induction n with
  | zero =>
    intro q post h _
    rw [List.length_eq_zero_iff.mp h]
    rfl
  | succ n ih =>
    intro q post h e
    rcases List.eq_nil_or_concat q with w | ⟨q', x, w⟩
    · rw [w] at h; cases h
    rw [List.concat_eq_append] at w
    subst w
    have e' : l = q' ++ x :: post := by rw [e]; simp
    have ih' := ih q' (x :: post) (by simpa using h) e'
    rw [List.foldl_append, List.filter_append, List.map_append, ih']
    show _ = ((gapStep (q'.foldl gapStep ([], 0)) x).1.filter (dueB r (here l).head?)).map (·.1)
    have gf := gap_free ht.line _ q' rfl
    generalize List.foldl gapStep ([], 0) q' = a at gf ⊢
    unfold gapStep
    by_cases hx : x.h = .here
    · rw [if_pos hx]
      have c1 := claim_one ht hr hnd hn e' hx
      rw [List.filter_append, List.map_append, gf]
      congr 1
      rw [List.filter_cons, List.filter_cons, c1]
      cases dueB r (here l).head? (x.p, (free (kn r q') : Nat)) <;> rfl
    · rw [if_neg hx]
      have c0 : claimB r l x = false := by unfold claimB; simp [hx]
      have : (if x.h = How.lost then a else (a.1, a.2 + 1)).1 = a.1 := by split <;> rfl
      rw [this, List.filter_cons, c0]
      simp
theorem claims_gaps {r : Rule} (ht : Tidy r) (hr : r.Ok) {l : Line} (hnd : (ps l).Nodup) (hn : Neat r l) : claimsNow r l = ((gapsIn l).filter (dueB r (here l).head?)).map (·.1) := by
  unfold claimsNow
  rw [neat_asked hn]
  exact claims_pre ht hr hnd hn _ l [] rfl (by simp)
/-- nobody has a stale name -/
theorem neat_stale {r : Rule} {l : Line} (hn : Neat r l) {x : Row} (hx : x ∈ l) (hh : x.h = .here) : (x.ns.filter fun n => !(l.map (·.p)).contains n) = [] := by
  obtain ⟨i, hi, e⟩ := List.getElem_of_mem hx
  have := hn i x (List.getElem?_eq_some_iff.mpr ⟨hi, e⟩) hh
  refine List.filter_eq_nil_iff.mpr fun n hnn => ?_
  rw [this, nearest_ahd] at hnn
  have h1 := List.mem_reverse.mp (List.mem_of_mem_take hnn)
  unfold ahd at h1
  obtain ⟨y, hy, ey⟩ := List.mem_map.mp h1
  have : n ∈ l.map (·.p) := List.mem_map.mpr ⟨y, List.mem_of_mem_take (List.mem_filter.mp hy).1, ey⟩
  simpa using this
end Rm

namespace L
open PySem PySem.Spec PyProof.Rows L2 Dn
def top (i : Nat) : Stmt := PySem.Challenge.pw_asklast_k05_whole_tidy_rules.main.body.getD i (.Pass ⟨0, 0, 0, 0⟩)
def w_LINE : W := (.str "line")
def w_ON : W := (.str "on")
def w_ASKS : W := (.str "asks")
def w_OLD : W := (.str "old")
def w_TELLS : W := (.str "tells")
def w_TOLD : W := (.str "told")
def w_MOST_NAMES : W := (.int 3)
def w_CHOICES : W := (.tup [(.tup [(.str "line"), (.str "seen")]), (.tup [(.str "none"), (.str "on")]), (.tup [(.str "asks"), (.str "old"), (.str "tells")]), (.tup [(.str "quiet"), (.str "told")]), (.tup [(.str "asks"), (.str "claims")])])
def w_HERE : W := (.str "here")
def w_OUT : W := (.str "out")
def w_LOST : W := (.str "lost")
def w_AWAY : W := (.str "away")
def w_COME : W := (.str "come")
def w_LET : W := (.str "let")
def w_LEAVE : W := (.str "leave")
def w_BACK : W := (.str "back")
def w_DOOR : W := (.str "door")
def w_PERSONAL : W := (.tup [(.str "back"), (.str "leave"), (.str "let"), (.str "out"), (.str "vanish")])
def w_MOST_EVENTS : W := (.int 200)
def w_MOST_PEOPLE : W := (.int 12)
def cl (K : PySem.W.Frag) : Nat → Addr
  | 0 => He.ga K "Room"
  | _ => 0
abbrev st_is_integer : Stmt := top 18
abbrev N_is_integer : List Str := ["thing"]
def s_is_integer_0 : DS := (sRet (eAnd (eIsi .int (eVar 0)) (eNot (eIsi .bl (eVar 0)))))
def d_is_integer : DS := s_is_integer_0
def r_is_integer : Fw := pw (runD 1 d_is_integer)
abbrev st_is_between : Stmt := top 19
abbrev N_is_between : List Str := ["thing", "least", "most"]
def s_is_between_0 : DS := (sRet (eAnd (eCall 1 r_is_integer (aCons (eVar 0) aNil)) (eChain leW leW (eVar 1) (eVar 0) (eVar 2))))
def d_is_between : DS := s_is_between_0
def r_is_between : Fw := pw (runD 3 d_is_between)
abbrev st_is_one_of : Stmt := top 20
abbrev N_is_one_of : List Str := ["some", "thing"]
def s_is_one_of_0 : DS := (sRet (eAnd (eIsi .str (eVar 1)) (eBin (inM false) (eVar 1) (eVar 0))))
def d_is_one_of : DS := s_is_one_of_0
def r_is_one_of : Fw := pw (runD 2 d_is_one_of)
abbrev st_need_rule : Stmt := top 21
abbrev N_need_rule : List Str := ["thing", "number", "some"]
def s_need_rule_0 : DS := (sIf (dOr (dNot (dTest (eIsi .tup (eVar 0)))) (dTest (eBin neM (eFn lenW (aCons (eVar 0) aNil)) (eBin addW (eC (.int 2)) (eFn lenW (aCons (eC w_CHOICES) aNil)))))) sBad sNil)
def s_need_rule_1 : DS := (sIf (dNot (dTest (eCall 3 r_is_between (aCons (eBin ixM (eVar 0) (eC (.int 0))) (aCons (eC (.int 1)) (aCons (eC w_MOST_NAMES) aNil)))))) sBad sNil)
def s_need_rule_2 : DS := (sIf (dNot (dTest (eCall 3 r_is_between (aCons (eBin ixM (eVar 0) (eC (.int 1))) (aCons (eC (.int 0)) (aCons (eBin ixM (eVar 0) (eC (.int 0))) aNil)))))) sBad sNil)
def b_need_rule_0 : DS := (sIf (dNot (dTest (eCall 2 r_is_one_of (aCons (eVar 2) (aCons (eBin ixM (eVar 0) (eBin addW (eC (.int 2)) (eVar 1))) aNil))))) sBad sNil)
def s_need_rule_3 : DS := (sFor (iEnumW (eC w_CHOICES)) (gT (gsCons (gN 1) (gsCons (gN 2) gsNil))) b_need_rule_0)
def s_need_rule_4 : DS := (sRet (eVar 0))
def d_need_rule : DS := (sSeq s_need_rule_0 (sSeq s_need_rule_1 (sSeq s_need_rule_2 (sSeq s_need_rule_3 s_need_rule_4))))
def r_need_rule : Fw := pw (runD 3 d_need_rule)
abbrev st_is_tidy_rule : Stmt := top 22
abbrev N_is_tidy_rule : List Str := ["rule", "most", "few", "ask", "fill", "back", "let", "lost"]
def s_is_tidy_rule_0 : DS := (sAsg (eVar 0) (gT (gsCons (gN 1) (gsCons (gN 2) (gsCons (gN 3) (gsCons (gN 4) (gsCons (gN 5) (gsCons (gN 6) (gsCons (gN 7) gsNil)))))))))
def s_is_tidy_rule_1 : DS := (sIf (dOr (dTest (eBin neM (eVar 4) (eC w_ON))) (dTest (eBin neM (eVar 6) (eC w_TOLD)))) (sRet (eC (.bl false))) sNil)
def s_is_tidy_rule_2 : DS := (sRet (eOr (eBin eqM (eVar 5) (eC w_TELLS)) (eAnd (eBin eqM (eVar 5) (eC w_ASKS)) (eBin eqM (eVar 3) (eC w_LINE)))))
def d_is_tidy_rule : DS := (sSeq s_is_tidy_rule_0 (sSeq s_is_tidy_rule_1 s_is_tidy_rule_2))
def r_is_tidy_rule : Fw := pw (runD 8 d_is_tidy_rule)
abbrev st_is_tidy : Stmt := top 23
abbrev N_is_tidy : List Str := ["rule"]
def s_is_tidy_0 : DS := (sRet (eCall 1 r_is_tidy_rule (aCons (eCall 1 r_need_rule (aCons (eVar 0) aNil)) aNil)))
def d_is_tidy : DS := s_is_tidy_0
def r_is_tidy : Fw := pw (runD 1 d_is_tidy)
abbrev st_nearest_ahead : Stmt := top 38
abbrev N_nearest_ahead : List Str := ["rule", "line", "spot", "hows", "ahead", "person", "how", "names"]
def s_nearest_ahead_0 : DS := (sSet 3 (eIf (dTest (eBin eqM (eBin ixM (eVar 0) (eC (.int 2))) (eC w_LINE))) (eTup (aCons (eC w_HERE) (aCons (eC w_OUT) (aCons (eC w_AWAY) aNil)))) (eTup (aCons (eC w_HERE) aNil))))
def s_nearest_ahead_1 : DS := (sSet 4 (eFz (aComp (iSeq (eSl (eVar 1) oNone (oSome (eVar 2)))) (gT (gsCons (gN 5) (gsCons (gN 6) (gsCons (gN 7) gsNil)))) (dTest (eBin (inM false) (eVar 6) (eVar 3))) (eVar 5) [5, 6, 7])))
def s_nearest_ahead_2 : DS := (sRet (eFn tupleW (aCons (eSl (eRev (eVar 4)) oNone (oSome (eBin ixM (eVar 0) (eC (.int 0))))) aNil)))
def d_nearest_ahead : DS := (sSeq s_nearest_ahead_0 (sSeq s_nearest_ahead_1 s_nearest_ahead_2))
def r_nearest_ahead : Fw := pw (runD 8 d_nearest_ahead)
abbrev st_renewed : Stmt := top 39
abbrev N_renewed : List Str := ["rule", "line", "spots", "found", "spot", "person", "how", "names", "does_take"]
def s_renewed_0 : DS := (sSet 3 (eLstM aNil))
def b_renewed_0 : DS := (sSeq (sSet 8 (eAnd (eBin (inM false) (eVar 4) (eVar 2)) (eBin eqM (eVar 6) (eC w_HERE))))
    (sExpr (eApp (eVar 3) (eTup (aCons (eVar 5) (aCons (eVar 6) (aCons (eIf (dTest (eVar 8)) (eCall 3 r_nearest_ahead (aCons (eVar 0) (aCons (eVar 1) (aCons (eVar 4) aNil)))) (eVar 7)) aNil)))))))
def s_renewed_1 : DS := (sFor (iEnumW (eVar 1)) (gT (gsCons (gN 4) (gsCons (gT (gsCons (gN 5) (gsCons (gN 6) (gsCons (gN 7) gsNil)))) gsNil))) b_renewed_0)
def s_renewed_2 : DS := (sRet (eFn tupleW (aCons (eVar 3) aNil)))
def d_renewed : DS := (sSeq s_renewed_0 (sSeq s_renewed_1 s_renewed_2))
def r_renewed : Fw := pw (runD 9 d_renewed)
abbrev st_spot_of : Stmt := top 40
abbrev N_spot_of : List Str := ["line", "person", "one", "how", "names"]
def s_spot_of_0 : DS := (sRet (eIdx (eFz (aComp (iSeq (eVar 0)) (gT (gsCons (gN 2) (gsCons (gN 3) (gsCons (gN 4) gsNil)))) dYes (eVar 2) [2, 3, 4])) (eVar 1)))
def d_spot_of : DS := s_spot_of_0
def r_spot_of : Fw := pw (runD 5 d_spot_of)
abbrev st_as_how : Stmt := top 41
abbrev N_as_how : List Str := ["line", "spot", "how", "person", "was", "names"]
def s_as_how_0 : DS := (sAsg (eBin ixM (eVar 0) (eVar 1)) (gT (gsCons (gN 3) (gsCons (gN 4) (gsCons (gN 5) gsNil)))))
def s_as_how_1 : DS := (sRet (eTup (aStar (eSl (eVar 0) oNone (oSome (eVar 1))) (aCons (eTup (aCons (eVar 3) (aCons (eVar 2) (aCons (eIf (dTest (eBin eqM (eVar 2) (eC w_AWAY))) (eTup aNil) (eVar 5)) aNil)))) (aStar (eSl (eVar 0) (oSome (eBin addW (eVar 1) (eC (.int 1)))) oNone) aNil)))))
def d_as_how : DS := (sSeq s_as_how_0 s_as_how_1)
def r_as_how : Fw := pw (runD 6 d_as_how)
abbrev st_without : Stmt := top 42
abbrev N_without : List Str := ["rule", "line", "person", "found", "spots", "one", "how", "names", "left", "name"]
def s_without_0 : DS := (sPar 3 4 (aCons (eLstM aNil) (aCons (eLstM aNil) aNil)))
def b_without_0 : DS := (sSeq (sIf (dTest (eBin eqM (eVar 5) (eVar 2))) sCont sNil)
    (sSeq (sSet 8 (eVar 7))
    (sSeq (sIf (dAnd (dTest (eBin eqM (eVar 6) (eC w_HERE))) (dTest (eBin (inM false) (eVar 2) (eVar 7)))) (sSeq (sExpr (eApp (eVar 4) (eFn lenW (aCons (eVar 3) aNil))))
    (sSet 8 (eFn tupleW (aCons (eFz (aComp (iSeq (eVar 7)) (gN 9) (dTest (eBin neM (eVar 9) (eVar 2))) (eVar 9) [9])) aNil)))) sNil)
    (sExpr (eApp (eVar 3) (eTup (aCons (eVar 5) (aCons (eVar 6) (aCons (eVar 8) aNil)))))))))
def s_without_1 : DS := (sFor (iSeq (eVar 1)) (gT (gsCons (gN 5) (gsCons (gN 6) (gsCons (gN 7) gsNil)))) b_without_0)
def s_without_2 : DS := (sRet (eCall 3 r_renewed (aCons (eVar 0) (aCons (eFn tupleW (aCons (eVar 3) aNil)) (aCons (eIf (dTest (eBin eqM (eBin ixM (eVar 0) (eC (.int 3))) (eC w_ON))) (eFrz 4) (eLst aNil)) aNil)))))
def d_without : DS := (sSeq s_without_0 (sSeq s_without_1 s_without_2))
def r_without : Fw := pw (runD 10 d_without)
abbrev st_forgetting : Stmt := top 43
abbrev N_forgetting : List Str := ["line", "person", "how", "names"]
def s_forgetting_0 : DS := (sIf (dTest (eFn anyW (aCons (eFz (aComp (iSeq (eVar 0)) (gT (gsCons (gN 1) (gsCons (gN 2) (gsCons (gN 3) gsNil)))) dYes (eBin eqM (eVar 2) (eC w_HERE)) [1, 2, 3])) aNil))) (sRet (eVar 0)) sNil)
def s_forgetting_1 : DS := (sRet (eFn tupleW (aCons (eFz (aComp (iSeq (eVar 0)) (gT (gsCons (gN 1) (gsCons (gN 2) (gsCons (gN 3) gsNil)))) (dTest (eBin neM (eVar 2) (eC w_AWAY))) (eTup (aCons (eVar 1) (aCons (eC w_LOST) (aCons (eVar 3) aNil)))) [1, 2, 3])) aNil)))
def d_forgetting : DS := (sSeq s_forgetting_0 s_forgetting_1)
def r_forgetting : Fw := pw (runD 4 d_forgetting)
abbrev st_asked_again : Stmt := top 44
abbrev N_asked_again : List Str := ["rule", "line", "spot", "person", "how", "names"]
def s_asked_again_0 : DS := (sIf (dTest (eBin neM (eBin ixM (eVar 0) (eC (.int 6))) (eC w_ASKS))) (sRet (eVar 1)) sNil)
def s_asked_again_1 : DS := (sRet (eCall 3 r_renewed (aCons (eVar 0) (aCons (eVar 1) (aCons (eFz (aComp (iEnumW (eVar 1)) (gT (gsCons (gN 2) (gsCons (gT (gsCons (gN 3) (gsCons (gN 4) (gsCons (gN 5) gsNil)))) gsNil))) (dTest (eBin eqM (eVar 5) (eTup aNil))) (eVar 2) [2, 3, 4, 5])) aNil)))))
def d_asked_again : DS := (sSeq s_asked_again_0 s_asked_again_1)
def r_asked_again : Fw := pw (runD 6 d_asked_again)
abbrev st_claiming : Stmt := top 45
abbrev N_claiming : List Str := ["rule", "line", "here", "found", "person", "how", "names", "name"]
def s_claiming_0 : DS := (sSet 2 (eFz (aComp (iSeq (eVar 1)) (gT (gsCons (gN 4) (gsCons (gN 5) (gsCons (gN 6) gsNil)))) (dTest (eBin eqM (eVar 5) (eC w_HERE))) (eVar 4) [4, 5, 6])))
def s_claiming_1 : DS := (sSet 3 (eLstM aNil))
def b_claiming_0 : DS := (sIf (dAnd (dTest (eBin eqM (eVar 5) (eC w_HERE))) (dAnd (dTest (eBin leW (eFn lenW (aCons (eVar 6) aNil)) (eBin ixM (eVar 0) (eC (.int 1))))) (dNot (dTest (eFn anyW (aCons (eFz (aComp (iSeq (eVar 6)) (gN 7) dYes (eBin (inM false) (eVar 7) (eVar 2)) [7])) aNil)))))) (sExpr (eApp (eVar 3) (eVar 4))) sNil)
def s_claiming_2 : DS := (sFor (iSeq (eVar 1)) (gT (gsCons (gN 4) (gsCons (gN 5) (gsCons (gN 6) gsNil)))) b_claiming_0)
def s_claiming_3 : DS := (sRet (eVar 3))
def d_claiming : DS := (sSeq s_claiming_0 (sSeq s_claiming_1 (sSeq s_claiming_2 s_claiming_3)))
def r_claiming : Fw := pw (runD 8 d_claiming)
abbrev st_has_form : Stmt := top 47
abbrev N_has_form : List Str := ["thing"]
def s_has_form_0 : DS := (sIf (dOr (dNot (dTest (eIsi .tup (eVar 0)))) (dOr (dTest (eBin eqM (eVar 0) (eTup aNil))) (dNot (dTest (eIsi .str (eBin ixM (eVar 0) (eC (.int 0)))))))) (sRet (eC (.bl false))) sNil)
def s_has_form_1 : DS := (sIf (dTest (eBin (inM false) (eBin ixM (eVar 0) (eC (.int 0))) (eTup (aCons (eC w_COME) (aCons (eC w_DOOR) aNil))))) (sRet (eBin eqM (eFn lenW (aCons (eVar 0) aNil)) (eC (.int 1)))) sNil)
def s_has_form_2 : DS := (sRet (eAnd (eBin eqM (eFn lenW (aCons (eVar 0) aNil)) (eC (.int 2))) (eAnd (eBin (inM false) (eBin ixM (eVar 0) (eC (.int 0))) (eC w_PERSONAL)) (eCall 1 r_is_integer (aCons (eBin ixM (eVar 0) (eC (.int 1))) aNil)))))
def d_has_form : DS := (sSeq s_has_form_0 (sSeq s_has_form_1 s_has_form_2))
def r_has_form : Fw := pw (runD 1 d_has_form)
abbrev st_Room___init__ : Stmt := clsItem (top 46) 0
abbrev N_Room___init__ : List Str := ["self", "rule"]
def s_Room___init___0 : DS := (sPut 0 "own_rule" (eVar 0) (eVar 1))
def s_Room___init___1 : DS := (sPut 0 "line_now" (eVar 0) (eTup aNil))
def s_Room___init___2 : DS := (sPut 0 "came_so_far" (eVar 0) (eC (.int 0)))
def s_Room___init___3 : DS := (sPut 0 "served_so_far" (eVar 0) (eLstM aNil))
def d_Room___init__ : DS := (sSeq s_Room___init___0 (sSeq s_Room___init___1 (sSeq s_Room___init___2 s_Room___init___3)))
def r_Room___init__ : Fw := runD 2 d_Room___init__
abbrev st_Room_put_in : Stmt := clsItem (top 46) 4
abbrev N_Room_put_in : List Str := ["self", "spot", "fresh"]
def s_Room_put_in_0 : DS := (sSet 2 (eTup (aCons (eFld 0 "came_so_far" (eVar 0)) (aCons (eC w_HERE) (aCons (eTup aNil) aNil)))))
def s_Room_put_in_1 : DS := (sPut 0 "line_now" (eVar 0) (eCall 3 r_renewed (aCons (eFld 0 "own_rule" (eVar 0)) (aCons (eTup (aStar (eSl (eFld 0 "line_now" (eVar 0)) oNone (oSome (eVar 1))) (aCons (eVar 2) (aStar (eSl (eFld 0 "line_now" (eVar 0)) (oSome (eVar 1)) oNone) aNil)))) (aCons (eLst (aCons (eVar 1) aNil)) aNil)))))
def s_Room_put_in_2 : DS := (sPutA 0 "came_so_far" addI (eVar 0) (eC (.int 1)))
def d_Room_put_in : DS := (sSeq s_Room_put_in_0 (sSeq s_Room_put_in_1 s_Room_put_in_2))
def r_Room_put_in : Fw := runD 3 d_Room_put_in
abbrev st_Room_open_door : Stmt := clsItem (top 46) 7
abbrev N_Room_open_door : List Str := ["self", "some"]
def s_Room_open_door_0 : DS := (sPut 0 "line_now" (eVar 0) (eCall 2 r_asked_again (aCons (eFld 0 "own_rule" (eVar 0)) (aCons (eFld 0 "line_now" (eVar 0)) aNil))))
def s_Room_open_door_1 : DS := (sSet 1 (eCall 2 r_claiming (aCons (eFld 0 "own_rule" (eVar 0)) (aCons (eFld 0 "line_now" (eVar 0)) aNil))))
def s_Room_open_door_2 : DS := (sIf (dTest (eBin eqM (eFn lenW (aCons (eVar 1) aNil)) (eC (.int 1)))) (sSeq (sExpr (eApp (eFld 0 "served_so_far" (eVar 0)) (eBin ixM (eVar 1) (eC (.int 0)))))
    (sPut 0 "line_now" (eVar 0) (eCall 3 r_without (aCons (eFld 0 "own_rule" (eVar 0)) (aCons (eFld 0 "line_now" (eVar 0)) (aCons (eBin ixM (eVar 1) (eC (.int 0))) aNil)))))) sNil)
def d_Room_open_door : DS := (sSeq s_Room_open_door_0 (sSeq s_Room_open_door_1 s_Room_open_door_2))
def r_Room_open_door : Fw := runD 2 d_Room_open_door
abbrev st_Room_renew_from : Stmt := clsItem (top 46) 5
abbrev N_Room_renew_from : List Str := ["self", "spot"]
def s_Room_renew_from_0 : DS := (sPut 0 "line_now" (eVar 0) (eCall 3 r_renewed (aCons (eFld 0 "own_rule" (eVar 0)) (aCons (eFld 0 "line_now" (eVar 0)) (aCons (eFz (aRg2 (eVar 1) (eFn lenW (aCons (eFld 0 "line_now" (eVar 0)) aNil)))) aNil)))))
def d_Room_renew_from : DS := s_Room_renew_from_0
def r_Room_renew_from : Fw := runD 2 d_Room_renew_from
abbrev st_Room_bring_back : Stmt := clsItem (top 46) 6
abbrev N_Room_bring_back : List Str := ["self", "spot", "how"]
def s_Room_bring_back_0 : DS := (sSet 2 (eBin ixM (eBin ixM (eFld 0 "line_now" (eVar 0)) (eVar 1)) (eC (.int 1))))
def s_Room_bring_back_1 : DS := (sIf (dAnd (dTest (eBin eqM (eBin ixM (eFld 0 "own_rule" (eVar 0)) (eC (.int 4))) (eC w_ASKS))) (dTest (eBin eqM (eVar 2) (eC w_LOST)))) (sSeq (sPut 0 "line_now" (eVar 0) (eTup (aStar (eSl (eFld 0 "line_now" (eVar 0)) oNone (oSome (eVar 1))) (aStar (eSl (eFld 0 "line_now" (eVar 0)) (oSome (eBin addW (eVar 1) (eC (.int 1)))) oNone) aNil))))
    (sSeq (sExpr (eMeth 0 "put_in" 2 r_Room_put_in (eVar 0) (aCons (eFn lenW (aCons (eFld 0 "line_now" (eVar 0)) aNil)) aNil)))
    sRetN)) sNil)
def s_Room_bring_back_2 : DS := (sPut 0 "line_now" (eVar 0) (eCall 3 r_as_how (aCons (eFld 0 "line_now" (eVar 0)) (aCons (eVar 1) (aCons (eC w_HERE) aNil)))))
def s_Room_bring_back_3 : DS := (sIf (dTest (eBin eqM (eBin ixM (eFld 0 "own_rule" (eVar 0)) (eC (.int 4))) (eC w_TELLS))) (sExpr (eMeth 0 "renew_from" 2 r_Room_renew_from (eVar 0) (aCons (eVar 1) aNil))) (sIf (dTest (eBin neM (eBin ixM (eFld 0 "own_rule" (eVar 0)) (eC (.int 4))) (eC w_OLD))) (sPut 0 "line_now" (eVar 0) (eCall 3 r_renewed (aCons (eFld 0 "own_rule" (eVar 0)) (aCons (eFld 0 "line_now" (eVar 0)) (aCons (eLst (aCons (eVar 1) aNil)) aNil))))) sNil))
def d_Room_bring_back : DS := (sSeq s_Room_bring_back_0 (sSeq s_Room_bring_back_1 (sSeq s_Room_bring_back_2 s_Room_bring_back_3)))
def r_Room_bring_back : Fw := runD 3 d_Room_bring_back
abbrev st_Room_do_personal : Stmt := clsItem (top 46) 8
abbrev N_Room_do_personal : List Str := ["self", "word", "person", "spot"]
def s_Room_do_personal_0 : DS := (sSet 3 (eCall 2 r_spot_of (aCons (eFld 0 "line_now" (eVar 0)) (aCons (eVar 2) aNil))))
def s_Room_do_personal_1 : DS := (sIf (dTest (eBin eqM (eVar 1) (eC w_LET))) (sSeq (sExpr (eMeth 0 "put_in" 2 r_Room_put_in (eVar 0) (aCons (eBin addW (eVar 3) (eC (.int 1))) aNil)))
    (sIf (dTest (eBin eqM (eBin ixM (eFld 0 "own_rule" (eVar 0)) (eC (.int 5))) (eC w_TOLD))) (sExpr (eMeth 0 "renew_from" 2 r_Room_renew_from (eVar 0) (aCons (eBin addW (eVar 3) (eC (.int 2))) aNil))) sNil)) (sIf (dTest (eBin eqM (eVar 1) (eC w_LEAVE))) (sPut 0 "line_now" (eVar 0) (eCall 3 r_without (aCons (eFld 0 "own_rule" (eVar 0)) (aCons (eFld 0 "line_now" (eVar 0)) (aCons (eVar 2) aNil))))) (sIf (dTest (eBin eqM (eVar 1) (eC w_BACK))) (sExpr (eMeth 0 "bring_back" 2 r_Room_bring_back (eVar 0) (aCons (eVar 3) aNil))) (sPut 0 "line_now" (eVar 0) (eCall 3 r_as_how (aCons (eFld 0 "line_now" (eVar 0)) (aCons (eVar 3) (aCons (eIf (dTest (eBin eqM (eVar 1) (eC w_OUT))) (eC w_OUT) (eC w_AWAY)) aNil))))))))
def d_Room_do_personal : DS := (sSeq s_Room_do_personal_0 s_Room_do_personal_1)
def r_Room_do_personal : Fw := runD 4 d_Room_do_personal
abbrev st_Room_do : Stmt := clsItem (top 46) 9
abbrev N_Room_do : List Str := ["self", "event"]
def s_Room_do_0 : DS := (sIf (dTest (eBin eqM (eBin ixM (eVar 1) (eC (.int 0))) (eC w_COME))) (sExpr (eMeth 0 "put_in" 2 r_Room_put_in (eVar 0) (aCons (eFn lenW (aCons (eFld 0 "line_now" (eVar 0)) aNil)) aNil))) (sIf (dTest (eBin eqM (eBin ixM (eVar 1) (eC (.int 0))) (eC w_DOOR))) (sExpr (eMeth 0 "open_door" 1 r_Room_open_door (eVar 0) aNil)) (sExpr (eMeth 0 "do_personal" 3 r_Room_do_personal (eVar 0) (aCons (eBin ixM (eVar 1) (eC (.int 0))) (aCons (eBin ixM (eVar 1) (eC (.int 1))) aNil))))))
def s_Room_do_1 : DS := (sPut 0 "line_now" (eVar 0) (eCall 1 r_forgetting (aCons (eFld 0 "line_now" (eVar 0)) aNil)))
def d_Room_do : DS := (sSeq s_Room_do_0 s_Room_do_1)
def r_Room_do : Fw := runD 2 d_Room_do
abbrev st_Room_how_is : Stmt := clsItem (top 46) 1
abbrev N_Room_how_is : List Str := ["self", "person", "found", "one", "how", "names"]
def s_Room_how_is_0 : DS := (sSet 2 (eFz (aComp (iSeq (eFld 0 "line_now" (eVar 0))) (gT (gsCons (gN 3) (gsCons (gN 4) (gsCons (gN 5) gsNil)))) (dTest (eBin eqM (eVar 3) (eVar 1))) (eVar 4) [3, 4, 5])))
def s_Room_how_is_1 : DS := (sRet (eIf (dTest (eBin neM (eVar 2) (eLst aNil))) (eBin ixM (eVar 2) (eC (.int 0))) (eC .non)))
def d_Room_how_is : DS := (sSeq s_Room_how_is_0 s_Room_how_is_1)
def r_Room_how_is : Fw := runD 6 d_Room_how_is
abbrev st_Room_are_here : Stmt := clsItem (top 46) 2
abbrev N_Room_are_here : List Str := ["self", "person", "how", "names"]
def s_Room_are_here_0 : DS := (sRet (eFz (aComp (iSeq (eFld 0 "line_now" (eVar 0))) (gT (gsCons (gN 1) (gsCons (gN 2) (gsCons (gN 3) gsNil)))) (dTest (eBin eqM (eVar 2) (eC w_HERE))) (eVar 1) [1, 2, 3])))
def d_Room_are_here : DS := s_Room_are_here_0
def r_Room_are_here : Fw := runD 4 d_Room_are_here
abbrev st_Room_can_be : Stmt := clsItem (top 46) 3
abbrev N_Room_can_be : List Str := ["self", "event", "word", "how", "is_new"]
def s_Room_can_be_0 : DS := (sSet 2 (eBin ixM (eVar 1) (eC (.int 0))))
def s_Room_can_be_1 : DS := (sIf (dTest (eBin eqM (eVar 2) (eC w_COME))) (sRet (eBin ltW (eFld 0 "came_so_far" (eVar 0)) (eC w_MOST_PEOPLE))) sNil)
def s_Room_can_be_2 : DS := (sIf (dTest (eBin eqM (eVar 2) (eC w_DOOR))) (sRet (eBin neM (eMeth 0 "are_here" 1 r_Room_are_here (eVar 0) aNil) (eLst aNil))) sNil)
def s_Room_can_be_3 : DS := (sSet 3 (eMeth 0 "how_is" 2 r_Room_how_is (eVar 0) (aCons (eBin ixM (eVar 1) (eC (.int 1))) aNil)))
def s_Room_can_be_4 : DS := (sIf (dTest (eBin eqM (eVar 2) (eC w_BACK))) (sSeq (sSet 4 (eAnd (eBin eqM (eVar 3) (eC w_LOST)) (eBin eqM (eBin ixM (eFld 0 "own_rule" (eVar 0)) (eC (.int 4))) (eC w_ASKS))))
    (sRet (eAnd (eBin (inM false) (eVar 3) (eTup (aCons (eC w_OUT) (aCons (eC w_LOST) aNil)))) (eOr (eNot (eVar 4)) (eBin ltW (eFld 0 "came_so_far" (eVar 0)) (eC w_MOST_PEOPLE)))))) sNil)
def s_Room_can_be_5 : DS := (sRet (eAnd (eBin eqM (eVar 3) (eC w_HERE)) (eOr (eBin neM (eVar 2) (eC w_LET)) (eBin ltW (eFld 0 "came_so_far" (eVar 0)) (eC w_MOST_PEOPLE)))))
def d_Room_can_be : DS := (sSeq s_Room_can_be_0 (sSeq s_Room_can_be_1 (sSeq s_Room_can_be_2 (sSeq s_Room_can_be_3 (sSeq s_Room_can_be_4 s_Room_can_be_5)))))
def r_Room_can_be : Fw := runD 5 d_Room_can_be
abbrev st_room_behind : Stmt := top 48
abbrev N_room_behind : List Str := ["rule", "events", "room", "number", "event"]
def s_room_behind_0 : DS := (sIf (dOr (dNot (dTest (eIsi .tup (eVar 1)))) (dTest (eBin gtW (eFn lenW (aCons (eVar 1) aNil)) (eC w_MOST_EVENTS)))) sBad sNil)
def s_room_behind_1 : DS := (sSet 2 (eMake 0 2 r_Room___init__ (aCons (eVar 0) aNil)))
def b_room_behind_0 : DS := (sSeq (sIf (dOr (dNot (dTest (eCall 1 r_has_form (aCons (eVar 4) aNil)))) (dNot (dTest (eMeth 0 "can_be" 2 r_Room_can_be (eVar 2) (aCons (eVar 4) aNil))))) sBad sNil)
    (sExpr (eMeth 0 "do" 2 r_Room_do (eVar 2) (aCons (eVar 4) aNil))))
def s_room_behind_2 : DS := (sFor (iEnumW (eVar 1)) (gT (gsCons (gN 3) (gsCons (gN 4) gsNil))) b_room_behind_0)
def s_room_behind_3 : DS := (sRet (eVar 2))
def d_room_behind : DS := (sSeq s_room_behind_0 (sSeq s_room_behind_1 (sSeq s_room_behind_2 s_room_behind_3)))
def r_room_behind : Fw := runD 5 d_room_behind
abbrev st_need_room : Stmt := top 49
abbrev N_need_room : List Str := ["rule", "events"]
def s_need_room_0 : DS := (sRet (eCall 2 r_room_behind (aCons (eCall 1 r_need_rule (aCons (eVar 0) aNil)) (aCons (eVar 1) aNil))))
def d_need_room : DS := s_need_room_0
def r_need_room : Fw := runD 2 d_need_room
abbrev st_standing_behind : Stmt := top 50
abbrev N_standing_behind : List Str := ["rule", "events"]
def s_standing_behind_0 : DS := (sRet (eFld 0 "line_now" (eCall 2 r_need_room (aCons (eVar 0) (aCons (eVar 1) aNil)))))
def d_standing_behind : DS := s_standing_behind_0
def r_standing_behind : Fw := pw (runD 2 d_standing_behind)
abbrev st_line_behind : Stmt := top 51
abbrev N_line_behind : List Str := ["rule", "events", "person", "how", "names"]
def s_line_behind_0 : DS := (sRet (eFn tupleW (aCons (eFz (aComp (iSeq (eFld 0 "line_now" (eCall 2 r_need_room (aCons (eVar 0) (aCons (eVar 1) aNil))))) (gT (gsCons (gN 2) (gsCons (gN 3) (gsCons (gN 4) gsNil)))) dYes (eVar 2) [2, 3, 4])) aNil)))
def d_line_behind : DS := s_line_behind_0
def r_line_behind : Fw := pw (runD 5 d_line_behind)
abbrev st_here_behind : Stmt := top 52
abbrev N_here_behind : List Str := ["rule", "events"]
def s_here_behind_0 : DS := (sRet (eFn tupleW (aCons (eMeth 0 "are_here" 1 r_Room_are_here (eCall 2 r_need_room (aCons (eVar 0) (aCons (eVar 1) aNil))) aNil) aNil)))
def d_here_behind : DS := s_here_behind_0
def r_here_behind : Fw := pw (runD 2 d_here_behind)
abbrev st_names_behind : Stmt := top 53
abbrev N_names_behind : List Str := ["rule", "events", "person", "room"]
def s_names_behind_0 : DS := (sSet 3 (eCall 2 r_need_room (aCons (eVar 0) (aCons (eVar 1) aNil))))
def s_names_behind_1 : DS := (sIf (dOr (dNot (dTest (eCall 1 r_is_integer (aCons (eVar 2) aNil)))) (dTest (eBin isNonW (eMeth 0 "how_is" 2 r_Room_how_is (eVar 3) (aCons (eVar 2) aNil)) (eC .non)))) sBad sNil)
def s_names_behind_2 : DS := (sRet (eBin ixM (eBin ixM (eFld 0 "line_now" (eVar 3)) (eCall 2 r_spot_of (aCons (eFld 0 "line_now" (eVar 3)) (aCons (eVar 2) aNil)))) (eC (.int 2))))
def d_names_behind : DS := (sSeq s_names_behind_0 (sSeq s_names_behind_1 s_names_behind_2))
def r_names_behind : Fw := pw (runD 4 d_names_behind)
abbrev st_stale_behind : Stmt := top 54
abbrev N_stale_behind : List Str := ["rule", "events", "person", "names", "line", "name"]
def s_stale_behind_0 : DS := (sSet 3 (eCall 3 r_names_behind (aCons (eVar 0) (aCons (eVar 1) (aCons (eVar 2) aNil)))))
def s_stale_behind_1 : DS := (sSet 4 (eCall 2 r_line_behind (aCons (eVar 0) (aCons (eVar 1) aNil))))
def s_stale_behind_2 : DS := (sRet (eFn tupleW (aCons (eFz (aComp (iSeq (eVar 3)) (gN 5) (dTest (eBin (inM true) (eVar 5) (eVar 4))) (eVar 5) [5])) aNil)))
def d_stale_behind : DS := (sSeq s_stale_behind_0 (sSeq s_stale_behind_1 s_stale_behind_2))
def r_stale_behind : Fw := pw (runD 6 d_stale_behind)
abbrev st_gaps_in : Stmt := top 55
abbrev N_gaps_in : List Str := ["line", "found", "gap", "person", "how", "names"]
def s_gaps_in_0 : DS := (sPar 1 2 (aCons (eLstM aNil) (aCons (eC (.int 0)) aNil)))
def b_gaps_in_0 : DS := (sIf (dTest (eBin eqM (eVar 4) (eC w_HERE))) (sSeq (sExpr (eApp (eVar 1) (eTup (aCons (eVar 3) (aCons (eVar 2) aNil)))))
    (sSet 2 (eC (.int 0)))) (sIf (dTest (eBin neM (eVar 4) (eC w_LOST))) (sAug 2 addI (eC (.int 1))) sNil))
def s_gaps_in_1 : DS := (sFor (iSeq (eVar 0)) (gT (gsCons (gN 3) (gsCons (gN 4) (gsCons (gN 5) gsNil)))) b_gaps_in_0)
def s_gaps_in_2 : DS := (sRet (eVar 1))
def d_gaps_in : DS := (sSeq s_gaps_in_0 (sSeq s_gaps_in_1 s_gaps_in_2))
def r_gaps_in : Fw := pw (runD 6 d_gaps_in)
abbrev st_gaps_behind : Stmt := top 56
abbrev N_gaps_behind : List Str := ["rule", "events"]
def s_gaps_behind_0 : DS := (sRet (eFn tupleW (aCons (eCall 1 r_gaps_in (aCons (eFld 0 "line_now" (eCall 2 r_need_room (aCons (eVar 0) (aCons (eVar 1) aNil)))) aNil)) aNil)))
def d_gaps_behind : DS := s_gaps_behind_0
def r_gaps_behind : Fw := pw (runD 2 d_gaps_behind)
abbrev st_claims_in : Stmt := top 58
abbrev N_claims_in : List Str := ["room"]
def s_claims_in_0 : DS := (sRet (eCall 2 r_claiming (aCons (eFld 0 "own_rule" (eVar 0)) (aCons (eCall 2 r_asked_again (aCons (eFld 0 "own_rule" (eVar 0)) (aCons (eFld 0 "line_now" (eVar 0)) aNil))) aNil))))
def d_claims_in : DS := s_claims_in_0
def r_claims_in : Fw := runD 1 d_claims_in
abbrev st_claims_behind : Stmt := top 59
abbrev N_claims_behind : List Str := ["rule", "events"]
def s_claims_behind_0 : DS := (sRet (eFn tupleW (aCons (eCall 1 r_claims_in (aCons (eCall 2 r_need_room (aCons (eVar 0) (aCons (eVar 1) aNil))) aNil)) aNil)))
def d_claims_behind : DS := s_claims_behind_0
def r_claims_behind : Fw := pw (runD 2 d_claims_behind)
abbrev st__law_mixed : Stmt := top 61
abbrev N__law_mixed : List Str := ["_law_cell", "_law_k"]
def s__law_mixed_0 : DS := (sSet 0 (eBin modW (eFn intW (aCons (eVar 0) aNil)) (eC (.int 2147483647))))
def s__law_mixed_1 : DS := (sRet (eBin modW (eBin mulW (eBin modW (eBin addW (eBin addW (eBin mulW (eVar 0) (eBin addW (eC (.int 48271)) (eBin mulW (eBin mulW (eC (.int 2)) (eVar 1)) (eVar 1)))) (eBin mulW (eC (.int 69621)) (eVar 1))) (eC (.int 11))) (eC (.int 2147483647))) (eC (.int 69621))) (eC (.int 2147483629))))
def d__law_mixed : DS := (sSeq s__law_mixed_0 s__law_mixed_1)
def r__law_mixed : Fw := pw (runD 2 d__law_mixed)
abbrev st__law_begin : Stmt := top 62
abbrev N__law_begin : List Str := ["_law_script", "_law_cells", "_law_cell"]
def s__law_begin_0 : DS := (sSet 1 (eIf (dTest (eBin neM (eVar 0) (eLst aNil))) (eFz (aFn listW (aCons (eVar 0) aNil))) (eLst (aCons (eC (.int 0)) aNil))))
def s__law_begin_1 : DS := (sRet (eDict [("cells", (eVar 1)), ("lefts", (eNw (aComp (iSeq (eVar 1)) (gN 2) dYes (eIf (dTest (eBin geW (eVar 2) (eBin powW (eC (.int 10)) (eC (.int 18))))) (eVar 2) (eC (.int 0))) [2]))), ("at", (eC (.int 0))), ("room", (eC (.int 0)))]))
def d__law_begin : DS := (sSeq s__law_begin_0 s__law_begin_1)
def r__law_begin : Fw := runD 3 d__law_begin
abbrev st__law_draw : Stmt := top 63
abbrev N__law_draw : List Str := ["_law_state", "_law_many", "_law_at", "_law_place", "_law_left", "_law_number"]
def s__law_draw_0 : DS := (sSet 2 (eDget (eVar 0) (eC (.str "at"))))
def s__law_draw_1 : DS := (sSub (eVar 0) (eC (.str "at")) (eBin addW (eVar 2) (eC (.int 1))))
def s__law_draw_2 : DS := (sSet 3 (eBin modW (eFn intW (aCons (eVar 2) aNil)) (eFn lenW (aCons (eDget (eVar 0) (eC (.str "cells"))) aNil))))
def s__law_draw_3 : DS := (sSet 4 (eBin ixM (eDget (eVar 0) (eC (.str "lefts"))) (eVar 3)))
def s__law_draw_4 : DS := (sIf (dTest (eBin gtW (eVar 4) (eC (.int 0)))) (sSeq (sSub (eDget (eVar 0) (eC (.str "lefts"))) (eVar 3) (eBin fdivW (eVar 4) (eVar 1)))
    (sRet (eBin modW (eFn intW (aCons (eVar 4) aNil)) (eVar 1)))) sNil)
def s__law_draw_5 : DS := (sSet 5 (eCall 2 r__law_mixed (aCons (eCall 2 r__law_mixed (aCons (eBin ixM (eDget (eVar 0) (eC (.str "cells"))) (eVar 3)) (aCons (eVar 2) aNil))) (aCons (eBin addW (eC (.int 40)) (eVar 2)) aNil))))
def s__law_draw_6 : DS := (sRet (eBin modW (eBin fdivW (eFn intW (aCons (eBin addW (eBin mulW (eVar 5) (eC (.int 2147483647))) (eCall 2 r__law_mixed (aCons (eVar 5) (aCons (eBin addW (eC (.int 7)) (eVar 2)) aNil)))) aNil)) (eC (.int 64))) (eVar 1)))
def d__law_draw : DS := (sSeq s__law_draw_0 (sSeq s__law_draw_1 (sSeq s__law_draw_2 (sSeq s__law_draw_3 (sSeq s__law_draw_4 (sSeq s__law_draw_5 s__law_draw_6))))))
def r__law_draw : Fw := runD 6 d__law_draw
abbrev st__law_of : Stmt := top 64
abbrev N__law_of : List Str := ["_law_state", "_law_some"]
def s__law_of_0 : DS := (sRet (eBin ixM (eVar 1) (eCall 2 r__law_draw (aCons (eVar 0) (aCons (eFn lenW (aCons (eVar 1) aNil)) aNil)))))
def d__law_of : DS := s__law_of_0
def r__law_of : Fw := runD 2 d__law_of
abbrev st__law_names : Stmt := top 65
abbrev N__law_names : List Str := ["_law_rule_here", "_law_line", "_law_spot", "_law_hows", "_law_row_here"]
def s__law_names_0 : DS := (sSet 3 (eIf (dTest (eBin eqM (eBin ixM (eVar 0) (eC (.int 2))) (eC (.str "line")))) (eTup (aCons (eC (.str "here")) (aCons (eC (.str "out")) (aCons (eC (.str "away")) aNil)))) (eTup (aCons (eC (.str "here")) aNil))))
def s__law_names_1 : DS := (sRet (eFn tupleW (aCons (eSl (eRev (eFz (aComp (iSeq (eSl (eVar 1) oNone (oSome (eVar 2)))) (gN 4) (dTest (eBin (inM false) (eBin ixM (eVar 4) (eC (.int 1))) (eVar 3))) (eBin ixM (eVar 4) (eC (.int 0))) [4]))) oNone (oSome (eBin ixM (eVar 0) (eC (.int 0))))) aNil)))
def d__law_names : DS := (sSeq s__law_names_0 s__law_names_1)
def r__law_names : Fw := runD 5 d__law_names
abbrev st__law_renew : Stmt := top 66
abbrev N__law_renew : List Str := ["_law_rule_here", "_law_line", "_law_spots", "_law_fresh", "_law_spot"]
def s__law_renew_0 : DS := (sSet 3 (eFz (aComp (iRng (aCons (eFn lenW (aCons (eVar 1) aNil)) aNil)) (gN 4) dYes (eCall 3 r__law_names (aCons (eVar 0) (aCons (eVar 1) (aCons (eVar 4) aNil)))) [4])))
def b__law_renew_0 : DS := (sIf (dTest (eBin eqM (eBin ixM (eBin ixM (eVar 1) (eVar 4)) (eC (.int 1))) (eC (.str "here")))) (sSub (eBin ixM (eVar 1) (eVar 4)) (eC (.int 2)) (eBin ixM (eVar 3) (eVar 4))) sNil)
def s__law_renew_1 : DS := (sFor (iSeq (eVar 2)) (gN 4) b__law_renew_0)
def d__law_renew : DS := (sSeq s__law_renew_0 s__law_renew_1)
def r__law_renew : Fw := runD 5 d__law_renew
abbrev st__law_gone : Stmt := top 67
abbrev N__law_gone : List Str := ["_law_rule_here", "_law_line", "_law_person", "_law_rows", "_law_hit", "_law_spot", "_law_row_here", "_law_name"]
def s__law_gone_0 : DS := (sSet 3 (eFz (aComp (iSeq (eVar 1)) (gN 6) (dTest (eBin neM (eBin ixM (eVar 6) (eC (.int 0))) (eVar 2))) (eVar 6) [6])))
def s__law_gone_1 : DS := (sSet 4 (eFz (aComp (iEnumW (eVar 3)) (gT (gsCons (gN 5) (gsCons (gN 6) gsNil))) (dAnd (dTest (eBin eqM (eBin ixM (eVar 6) (eC (.int 1))) (eC (.str "here")))) (dTest (eBin (inM false) (eVar 2) (eBin ixM (eVar 6) (eC (.int 2)))))) (eVar 5) [5, 6])))
def b__law_gone_0 : DS := (sSub (eBin ixM (eVar 3) (eVar 5)) (eC (.int 2)) (eFn tupleW (aCons (eFz (aComp (iSeq (eBin ixM (eBin ixM (eVar 3) (eVar 5)) (eC (.int 2)))) (gN 7) (dTest (eBin neM (eVar 7) (eVar 2))) (eVar 7) [7])) aNil)))
def s__law_gone_2 : DS := (sFor (iSeq (eVar 4)) (gN 5) b__law_gone_0)
def s__law_gone_3 : DS := (sIf (dTest (eBin eqM (eBin ixM (eVar 0) (eC (.int 3))) (eC (.str "on")))) (sExpr (eCall 3 r__law_renew (aCons (eVar 0) (aCons (eVar 3) (aCons (eVar 4) aNil))))) sNil)
def s__law_gone_4 : DS := (sRet (eVar 3))
def d__law_gone : DS := (sSeq s__law_gone_0 (sSeq s__law_gone_1 (sSeq s__law_gone_2 (sSeq s__law_gone_3 s__law_gone_4))))
def r__law_gone : Fw := runD 8 d__law_gone
abbrev st__law_here : Stmt := top 68
abbrev N__law_here : List Str := ["_law_line", "_law_row_here"]
def s__law_here_0 : DS := (sRet (eFz (aComp (iSeq (eVar 0)) (gN 1) (dTest (eBin eqM (eBin ixM (eVar 1) (eC (.int 1))) (eC (.str "here")))) (eBin ixM (eVar 1) (eC (.int 0))) [1])))
def d__law_here : DS := s__law_here_0
def r__law_here : Fw := runD 2 d__law_here
abbrev st__law_asked : Stmt := top 69
abbrev N__law_asked : List Str := ["_law_rule_here", "_law_line", "_law_rows", "_law_row_here", "_law_spot"]
def s__law_asked_0 : DS := (sSet 2 (eFz (aComp (iSeq (eVar 1)) (gN 3) dYes (eNw (aFn listW (aCons (eVar 3) aNil))) [3])))
def s__law_asked_1 : DS := (sIf (dTest (eBin eqM (eBin ixM (eVar 0) (eC (.int 6))) (eC (.str "asks")))) (sExpr (eCall 3 r__law_renew (aCons (eVar 0) (aCons (eVar 2) (aCons (eFz (aComp (iEnumW (eVar 2)) (gT (gsCons (gN 4) (gsCons (gN 3) gsNil))) (dTest (eBin eqM (eBin ixM (eVar 3) (eC (.int 2))) (eTup aNil))) (eVar 4) [4, 3])) aNil))))) sNil)
def s__law_asked_2 : DS := (sRet (eVar 2))
def d__law_asked : DS := (sSeq s__law_asked_0 (sSeq s__law_asked_1 s__law_asked_2))
def r__law_asked : Fw := runD 5 d__law_asked
abbrev st__law_claims : Stmt := top 70
abbrev N__law_claims : List Str := ["_law_rule_here", "_law_rows", "_law_here_here", "_law_got", "_law_person", "_law_how_here", "_law_names_here", "_law_name"]
def s__law_claims_0 : DS := (sAsg (eTup (aCons (eCall 1 r__law_here (aCons (eVar 1) aNil)) (aCons (eLstM aNil) aNil))) (gT (gsCons (gN 2) (gsCons (gN 3) gsNil))))
def b__law_claims_0 : DS := (sIf (dAnd (dTest (eBin eqM (eVar 5) (eC (.str "here")))) (dAnd (dTest (eBin leW (eFn lenW (aCons (eVar 6) aNil)) (eBin ixM (eVar 0) (eC (.int 1))))) (dTest (eBin eqM (eFz (aComp (iSeq (eVar 6)) (gN 7) (dTest (eBin (inM false) (eVar 7) (eVar 2))) (eVar 7) [7])) (eLst aNil))))) (sExpr (eApp (eVar 3) (eVar 4))) sNil)
def s__law_claims_1 : DS := (sForM (iSeq (eVar 1)) (gmU 3 (gmsCons (gmN 4) (gmsCons (gmN 5) (gmsCons (gmN 6) gmsNil)))) b__law_claims_0)
def s__law_claims_2 : DS := (sRet (eFrz 3))
def d__law_claims : DS := (sSeq s__law_claims_0 (sSeq s__law_claims_1 s__law_claims_2))
def r__law_claims : Fw := runD 8 d__law_claims
abbrev st__law_come : Stmt := top 71
abbrev N__law_come : List Str := ["_law_rule_here", "_law_line", "_law_spot", "_law_person", "_law_rows"]
def s__law_come_0 : DS := (sSet 4 (eBin addW (eBin addW (eSl (eVar 1) oNone (oSome (eVar 2))) (eLst (aCons (eLstM (aCons (eVar 3) (aCons (eC (.str "here")) (aCons (eTup aNil) aNil)))) aNil))) (eSl (eVar 1) (oSome (eVar 2)) oNone)))
def s__law_come_1 : DS := (sExpr (eCall 3 r__law_renew (aCons (eVar 0) (aCons (eVar 4) (aCons (eLst (aCons (eVar 2) aNil)) aNil)))))
def s__law_come_2 : DS := (sRet (eVar 4))
def d__law_come : DS := (sSeq s__law_come_0 (sSeq s__law_come_1 s__law_come_2))
def r__law_come : Fw := runD 5 d__law_come
abbrev st__law_how : Stmt := top 72
abbrev N__law_how : List Str := ["_law_line", "_law_person", "_law_row_here"]
def s__law_how_0 : DS := (sRet (eBin ixM (eBin addW (eFz (aComp (iSeq (eVar 0)) (gN 2) (dTest (eBin eqM (eBin ixM (eVar 2) (eC (.int 0))) (eVar 1))) (eBin ixM (eVar 2) (eC (.int 1))) [2])) (eLst (aCons (eC (.str "none")) aNil))) (eC (.int 0))))
def d__law_how : DS := s__law_how_0
def r__law_how : Fw := runD 3 d__law_how
abbrev st__law_can : Stmt := top 73
abbrev N__law_can : List Str := ["_law_rule_here", "_law_room", "_law_event", "_law_line", "_law_came", "_law_served", "_law_how_here"]
def s__law_can_0 : DS := (sAsg (eVar 1) (gT (gsCons (gN 3) (gsCons (gN 4) (gsCons (gN 5) gsNil)))))
def s__law_can_1 : DS := (sIf (dTest (eBin eqM (eVar 2) (eTup (aCons (eC (.str "come")) aNil)))) (sRet (eBin ltW (eVar 4) (eC (.int 12)))) sNil)
def s__law_can_2 : DS := (sIf (dTest (eBin eqM (eVar 2) (eTup (aCons (eC (.str "door")) aNil)))) (sRet (eBin neM (eCall 1 r__law_here (aCons (eVar 3) aNil)) (eLst aNil))) sNil)
def s__law_can_3 : DS := (sSet 6 (eCall 2 r__law_how (aCons (eVar 3) (aCons (eBin ixM (eVar 2) (eC (.int 1))) aNil))))
def s__law_can_4 : DS := (sIf (dTest (eBin eqM (eBin ixM (eVar 2) (eC (.int 0))) (eC (.str "back")))) (sRet (eOr (eBin eqM (eVar 6) (eC (.str "out"))) (eAnd (eBin eqM (eVar 6) (eC (.str "lost"))) (eOr (eBin neM (eBin ixM (eVar 0) (eC (.int 4))) (eC (.str "asks"))) (eBin ltW (eVar 4) (eC (.int 12))))))) sNil)
def s__law_can_5 : DS := (sRet (eAnd (eBin eqM (eVar 6) (eC (.str "here"))) (eOr (eBin neM (eBin ixM (eVar 2) (eC (.int 0))) (eC (.str "let"))) (eBin ltW (eVar 4) (eC (.int 12))))))
def d__law_can : DS := (sSeq s__law_can_0 (sSeq s__law_can_1 (sSeq s__law_can_2 (sSeq s__law_can_3 (sSeq s__law_can_4 s__law_can_5)))))
def r__law_can : Fw := pw (runD 7 d__law_can)
abbrev st__law_back : Stmt := top 74
abbrev N__law_back : List Str := ["_law_rule_here", "_law_line", "_law_came", "_law_spot"]
def s__law_back_0 : DS := (sIf (dAnd (dTest (eBin eqM (eBin ixM (eVar 0) (eC (.int 4))) (eC (.str "asks")))) (dTest (eBin eqM (eBin ixM (eBin ixM (eVar 1) (eVar 3)) (eC (.int 1))) (eC (.str "lost"))))) (sRet (eTup (aCons (eCall 4 r__law_come (aCons (eVar 0) (aCons (eBin addW (eSl (eVar 1) oNone (oSome (eVar 3))) (eSl (eVar 1) (oSome (eBin addW (eVar 3) (eC (.int 1)))) oNone)) (aCons (eBin subW (eFn lenW (aCons (eVar 1) aNil)) (eC (.int 1))) (aCons (eVar 2) aNil))))) (aCons (eBin addW (eVar 2) (eC (.int 1))) aNil)))) sNil)
def s__law_back_1 : DS := (sSub (eBin ixM (eVar 1) (eVar 3)) (eC (.int 1)) (eC (.str "here")))
def s__law_back_2 : DS := (sIf (dTest (eBin neM (eBin ixM (eVar 0) (eC (.int 4))) (eC (.str "old")))) (sExpr (eCall 3 r__law_renew (aCons (eVar 0) (aCons (eVar 1) (aCons (eFz (aRg2 (eVar 3) (eIf (dTest (eBin eqM (eBin ixM (eVar 0) (eC (.int 4))) (eC (.str "tells")))) (eFn lenW (aCons (eVar 1) aNil)) (eBin addW (eVar 3) (eC (.int 1)))))) aNil))))) sNil)
def s__law_back_3 : DS := (sRet (eTup (aCons (eVar 1) (aCons (eVar 2) aNil))))
def d__law_back : DS := (sSeq s__law_back_0 (sSeq s__law_back_1 (sSeq s__law_back_2 s__law_back_3)))
def r__law_back : Fw := runD 4 d__law_back
abbrev st__law_do : Stmt := top 75
abbrev N__law_do : List Str := ["_law_rule_here", "_law_room", "_law_event", "_law_line", "_law_came", "_law_served", "_law_spot", "_law_some", "_law_row_here", "_law_k"]
def s__law_do_0 : DS := (sPar3 3 4 5 (aCons (eFz (aComp (iSeq (eBin ixM (eVar 1) (eC (.int 0)))) (gN 8) dYes (eNw (aFn listW (aCons (eVar 8) aNil))) [8])) (aCons (eBin ixM (eVar 1) (eC (.int 1))) (aCons (eFz (aFn listW (aCons (eBin ixM (eVar 1) (eC (.int 2))) aNil))) aNil))))
def s__law_do_1 : DS := (sSet 6 (eBin ixM (eBin addW (eFz (aComp (iEnumW (eVar 3)) (gT (gsCons (gN 9) (gsCons (gN 8) gsNil))) (dTest (eBin eqM (eSl (eVar 2) (oSome (eC (.int 1))) oNone) (eTup (aCons (eBin ixM (eVar 8) (eC (.int 0))) aNil)))) (eVar 9) [9, 8])) (eLst (aCons (eC (.int 0)) aNil))) (eC (.int 0))))
def s__law_do_2 : DS := (sIf (dTest (eBin eqM (eBin ixM (eVar 2) (eC (.int 0))) (eC (.str "come")))) (sPar 3 4 (aCons (eCall 4 r__law_come (aCons (eVar 0) (aCons (eVar 3) (aCons (eFn lenW (aCons (eVar 3) aNil)) (aCons (eVar 4) aNil))))) (aCons (eBin addW (eVar 4) (eC (.int 1))) aNil))) sNil)
def s__law_do_3 : DS := (sIf (dTest (eBin eqM (eBin ixM (eVar 2) (eC (.int 0))) (eC (.str "let")))) (sSeq (sPar 3 4 (aCons (eCall 4 r__law_come (aCons (eVar 0) (aCons (eVar 3) (aCons (eBin addW (eVar 6) (eC (.int 1))) (aCons (eVar 4) aNil))))) (aCons (eBin addW (eVar 4) (eC (.int 1))) aNil)))
    (sIf (dTest (eBin eqM (eBin ixM (eVar 0) (eC (.int 5))) (eC (.str "told")))) (sExpr (eCall 3 r__law_renew (aCons (eVar 0) (aCons (eVar 3) (aCons (eFz (aRg2 (eBin addW (eVar 6) (eC (.int 2))) (eFn lenW (aCons (eVar 3) aNil)))) aNil))))) sNil)) sNil)
def s__law_do_4 : DS := (sIf (dTest (eBin eqM (eBin ixM (eVar 2) (eC (.int 0))) (eC (.str "out")))) (sSub (eBin ixM (eVar 3) (eVar 6)) (eC (.int 1)) (eC (.str "out"))) sNil)
def s__law_do_5 : DS := (sIf (dTest (eBin eqM (eBin ixM (eVar 2) (eC (.int 0))) (eC (.str "vanish")))) (sAsgM (eTup (aCons (eC (.str "away")) (aCons (eTup aNil) aNil))) (gmT 2 (gmsCons (gmSub (eBin ixM (eVar 3) (eVar 6)) (eC (.int 1))) (gmsCons (gmSub (eBin ixM (eVar 3) (eVar 6)) (eC (.int 2))) gmsNil)))) sNil)
def s__law_do_6 : DS := (sIf (dTest (eBin eqM (eBin ixM (eVar 2) (eC (.int 0))) (eC (.str "leave")))) (sSet 3 (eCall 3 r__law_gone (aCons (eVar 0) (aCons (eVar 3) (aCons (eBin ixM (eVar 2) (eC (.int 1))) aNil))))) sNil)
def s__law_do_7 : DS := (sIf (dTest (eBin eqM (eBin ixM (eVar 2) (eC (.int 0))) (eC (.str "back")))) (sAsg (eCall 4 r__law_back (aCons (eVar 0) (aCons (eVar 3) (aCons (eVar 4) (aCons (eVar 6) aNil))))) (gT (gsCons (gN 3) (gsCons (gN 4) gsNil)))) sNil)
def s__law_do_8 : DS := (sIf (dTest (eBin eqM (eBin ixM (eVar 2) (eC (.int 0))) (eC (.str "door")))) (sSeq (sSet 3 (eCall 2 r__law_asked (aCons (eVar 0) (aCons (eVar 3) aNil))))
    (sSeq (sSet 7 (eCall 2 r__law_claims (aCons (eVar 0) (aCons (eVar 3) aNil))))
    (sIf (dTest (eBin eqM (eFn lenW (aCons (eVar 7) aNil)) (eC (.int 1)))) (sPar 3 5 (aCons (eCall 3 r__law_gone (aCons (eVar 0) (aCons (eVar 3) (aCons (eBin ixM (eVar 7) (eC (.int 0))) aNil)))) (aCons (eBin addW (eVar 5) (eVar 7)) aNil))) sNil))) sNil)
def s__law_do_9 : DS := (sIf (dTest (eBin eqM (eCall 1 r__law_here (aCons (eVar 3) aNil)) (eLst aNil))) (sSet 3 (eFz (aComp (iSeq (eVar 3)) (gN 8) (dTest (eBin neM (eBin ixM (eVar 8) (eC (.int 1))) (eC (.str "away")))) (eLst (aCons (eBin ixM (eVar 8) (eC (.int 0))) (aCons (eC (.str "lost")) (aCons (eBin ixM (eVar 8) (eC (.int 2))) aNil)))) [8]))) sNil)
def s__law_do_10 : DS := (sRet (eTup (aCons (eVar 3) (aCons (eVar 4) (aCons (eVar 5) aNil)))))
def d__law_do : DS := (sSeq s__law_do_0 (sSeq s__law_do_1 (sSeq s__law_do_2 (sSeq s__law_do_3 (sSeq s__law_do_4 (sSeq s__law_do_5 (sSeq s__law_do_6 (sSeq s__law_do_7 (sSeq s__law_do_8 (sSeq s__law_do_9 s__law_do_10))))))))))
def r__law_do : Fw := pw (runD 10 d__law_do)
abbrev st__law_events : Stmt := top 76
abbrev N__law_events : List Str := ["_law_rule_here", "_law_room", "_law_some", "_law_word", "_law_row_here", "_law_event"]
def s__law_events_0 : DS := (sSet 2 (eNw (aComp (iSeq (eBin ixM (eVar 1) (eC (.int 0)))) (gN 4) dYes (eTup (aCons (eC (.str "back")) (aCons (eBin ixM (eVar 4) (eC (.int 0))) aNil))) [4])))
def b__law_events_0 : DS := (sExpr (eExt (eVar 2) (eFz (aComp (iSeq (eBin ixM (eVar 1) (eC (.int 0)))) (gN 4) dYes (eTup (aCons (eVar 3) (aCons (eBin ixM (eVar 4) (eC (.int 0))) aNil))) [4]))))
def s__law_events_1 : DS := (sFor (iSeq (eTup (aCons (eC (.str "leave")) (aCons (eC (.str "let")) (aCons (eC (.str "out")) (aCons (eC (.str "vanish")) aNil)))))) (gN 3) b__law_events_0)
def s__law_events_2 : DS := (sRet (eFz (aFn sortedW (aCons (eFz (aComp (iSeq (eBin addW (eVar 2) (eLst (aCons (eTup (aCons (eC (.str "come")) aNil)) (aCons (eTup (aCons (eC (.str "door")) aNil)) aNil))))) (gN 5) (dTest (eCall 3 r__law_can (aCons (eVar 0) (aCons (eVar 1) (aCons (eVar 5) aNil))))) (eVar 5) [5])) aNil))))
def d__law_events : DS := (sSeq s__law_events_0 (sSeq s__law_events_1 s__law_events_2))
def r__law_events : Fw := pw (runD 6 d__law_events)
abbrev st__law_rule : Stmt := top 77
abbrev N__law_rule : List Str := ["_law_state", "_law_most", "_law_words"]
def s__law_rule_0 : DS := (sSet 1 (eBin addW (eC (.int 1)) (eCall 2 r__law_draw (aCons (eVar 0) (aCons (eC (.int 3)) aNil)))))
def s__law_rule_1 : DS := (sSet 2 (eLst (aCons (eBin ixM (eLst (aCons (eC (.str "line")) (aCons (eC (.str "seen")) aNil))) (eCall 2 r__law_draw (aCons (eVar 0) (aCons (eC (.int 2)) aNil)))) (aCons (eBin ixM (eLst (aCons (eC (.str "none")) (aCons (eC (.str "on")) (aCons (eC (.str "on")) aNil)))) (eCall 2 r__law_draw (aCons (eVar 0) (aCons (eC (.int 3)) aNil)))) aNil))))
def s__law_rule_2 : DS := (sSet 2 (eBin addW (eVar 2) (eLst (aCons (eBin ixM (eLst (aCons (eC (.str "asks")) (aCons (eC (.str "old")) (aCons (eC (.str "tells")) aNil)))) (eCall 2 r__law_draw (aCons (eVar 0) (aCons (eC (.int 3)) aNil)))) (aCons (eBin ixM (eLst (aCons (eC (.str "quiet")) (aCons (eC (.str "told")) (aCons (eC (.str "told")) aNil)))) (eCall 2 r__law_draw (aCons (eVar 0) (aCons (eC (.int 3)) aNil)))) aNil)))))
def s__law_rule_3 : DS := (sRet (eBin addW (eBin addW (eTup (aCons (eVar 1) (aCons (eCall 2 r__law_draw (aCons (eVar 0) (aCons (eBin addW (eVar 1) (eC (.int 1))) aNil))) aNil))) (eFn tupleW (aCons (eVar 2) aNil))) (eTup (aCons (eBin ixM (eLst (aCons (eC (.str "asks")) (aCons (eC (.str "claims")) aNil))) (eCall 2 r__law_draw (aCons (eVar 0) (aCons (eC (.int 2)) aNil)))) aNil))))
def d__law_rule : DS := (sSeq s__law_rule_0 (sSeq s__law_rule_1 (sSeq s__law_rule_2 s__law_rule_3)))
def r__law_rule : Fw := runD 3 d__law_rule
abbrev st__law_row : Stmt := top 78
abbrev N__law_row : List Str := ["_law_state", "_law_rule_here", "_law_most", "_law_room", "_law_rooms", "_law_got", "_law_k", "_law_some", "_law_event"]
def s__law_row_0 : DS := (sPar3 3 4 5 (aCons (eTup (aCons (eLst aNil) (aCons (eC (.int 0)) (aCons (eLst aNil) aNil)))) (aCons (eLstM (aCons (eTup (aCons (eLst aNil) (aCons (eC (.int 0)) (aCons (eLst aNil) aNil)))) aNil)) (aCons (eLstM aNil) aNil))))
def b__law_row_0 : DS := (sSeq (sSet 7 (eCall 2 r__law_events (aCons (eVar 1) (aCons (eVar 3) aNil))))
    (sSeq (sSet 7 (eBin addW (eBin mulW (eFz (aComp (iSeq (eVar 7)) (gN 8) (dTest (eBin (inM false) (eBin ixM (eVar 8) (eC (.int 0))) (eTup (aCons (eC (.str "come")) (aCons (eC (.str "back")) (aCons (eC (.str "door")) (aCons (eC (.str "let")) aNil))))))) (eVar 8) [8])) (eC (.int 2))) (eVar 7)))
    (sSeq (sIf (dTest (eBin ltW (eBin ixM (eVar 3) (eC (.int 1))) (eC (.int 4)))) (sSet 7 (eBin addW (eVar 7) (eBin mulW (eLst (aCons (eTup (aCons (eC (.str "come")) aNil)) aNil)) (eC (.int 6))))) sNil)
    (sSeq (sIf (dTest (eBin eqM (eVar 7) (eLst aNil))) (sRet (eTup (aCons (eFn tupleW (aCons (eVar 5) aNil)) (aCons (eFrz 4) aNil)))) sNil)
    (sSeq (sSet 8 (eBin ixM (eVar 7) (eCall 2 r__law_draw (aCons (eVar 0) (aCons (eFn lenW (aCons (eVar 7) aNil)) aNil)))))
    (sSeq (sSet 3 (eCall 3 r__law_do (aCons (eVar 1) (aCons (eVar 3) (aCons (eVar 8) aNil)))))
    (sSeq (sExpr (eApp (eVar 5) (eVar 8)))
    (sExpr (eApp (eVar 4) (eVar 3))))))))))
def s__law_row_1 : DS := (sFor (iRng (aCons (eCall 2 r__law_draw (aCons (eVar 0) (aCons (eBin addW (eVar 2) (eC (.int 1))) aNil))) aNil)) (gN 6) b__law_row_0)
def s__law_row_2 : DS := (sRet (eTup (aCons (eFn tupleW (aCons (eVar 5) aNil)) (aCons (eFrz 4) aNil))))
def d__law_row : DS := (sSeq s__law_row_0 (sSeq s__law_row_1 s__law_row_2))
def r__law_row : Fw := runD 9 d__law_row
abbrev st__law_room_right : Stmt := top 79
abbrev N__law_room_right : List Str := ["_law_rule_here", "_law_events_here", "_law_line", "_law_rows", "_law_spot", "_law_person", "_law_how_here", "_law_names_here", "_law_due", "_law_gaps", "_law_gap", "_law_row_here"]
def s__law_room_right_0 : DS := (sSet 2 (eCall 2 r_standing_behind (aCons (eVar 0) (aCons (eVar 1) aNil))))
def s__law_room_right_1 : DS := (sSet 3 (eFz (aComp (iSeq (eVar 2)) (gN 11) dYes (eFz (aFn listW (aCons (eVar 11) aNil))) [11])))
def b__law_room_right_0 : DS := (sSeq (sIf (dTest (eBin neM (eVar 6) (eC (.str "here")))) sCont sNil)
    (sSeq (sIf (dOr (dTest (eBin neM (eVar 7) (eCall 3 r__law_names (aCons (eVar 0) (aCons (eVar 3) (aCons (eVar 4) aNil)))))) (dTest (eBin neM (eCall 3 r_names_behind (aCons (eVar 0) (aCons (eVar 1) (aCons (eVar 5) aNil)))) (eVar 7)))) (sRet (eC (.bl false))) sNil)
    (sIf (dTest (eBin neM (eCall 3 r_stale_behind (aCons (eVar 0) (aCons (eVar 1) (aCons (eVar 5) aNil)))) (eTup aNil))) (sRet (eC (.bl false))) sNil)))
def s__law_room_right_2 : DS := (sFor (iEnumW (eVar 2)) (gT (gsCons (gN 4) (gsCons (gT (gsCons (gN 5) (gsCons (gN 6) (gsCons (gN 7) gsNil)))) gsNil))) b__law_room_right_0)
def s__law_room_right_3 : DS := (sPar 8 9 (aCons (eLstM aNil) (aCons (eCall 2 r_gaps_behind (aCons (eVar 0) (aCons (eVar 1) aNil))) aNil)))
def b__law_room_right_1 : DS := (sIf (dOr (dAnd (dTest (eBin eqM (eVar 5) (eBin ixM (eBin ixM (eVar 9) (eC (.int 0))) (eC (.int 0))))) (dTest (eBin leW (eVar 10) (eBin ixM (eVar 0) (eC (.int 1)))))) (dAnd (dTest (eBin eqM (eBin ixM (eVar 0) (eC (.int 1))) (eBin ixM (eVar 0) (eC (.int 0))))) (dTest (eBin geW (eVar 10) (eBin ixM (eVar 0) (eC (.int 0))))))) (sExpr (eApp (eVar 8) (eVar 5))) sNil)
def s__law_room_right_4 : DS := (sFor (iSeq (eVar 9)) (gT (gsCons (gN 5) (gsCons (gN 10) gsNil))) b__law_room_right_1)
def s__law_room_right_5 : DS := (sIf (dTest (eBin neM (eCall 2 r_here_behind (aCons (eVar 0) (aCons (eVar 1) aNil))) (eFn tupleW (aCons (eFz (aComp (iSeq (eVar 9)) (gT (gsCons (gN 5) (gsCons (gN 10) gsNil))) dYes (eVar 5) [5, 10])) aNil)))) (sRet (eC (.bl false))) sNil)
def s__law_room_right_6 : DS := (sRet (eBin eqM (eCall 2 r_claims_behind (aCons (eVar 0) (aCons (eVar 1) aNil))) (eFn tupleW (aCons (eVar 8) aNil))))
def d__law_room_right : DS := (sSeq s__law_room_right_0 (sSeq s__law_room_right_1 (sSeq s__law_room_right_2 (sSeq s__law_room_right_3 (sSeq s__law_room_right_4 (sSeq s__law_room_right_5 s__law_room_right_6))))))
def r__law_room_right : Fw := pw (runD 12 d__law_room_right)
abbrev st_law : Stmt := top 80
abbrev N_law : List Str := ["_law_script", "_law_state", "_law_turn", "_law_rule_here", "_law_events_here", "_law_rooms", "_law_many"]
def s_law_0 : DS := (sSet 1 (eCall 1 r__law_begin (aCons (eVar 0) aNil)))
def b_law_0 : DS := (sSeq (sIf (dAnd (dTest (eBin gtW (eVar 6) (eC (.int 6)))) (dAnd (dTest (eBin ltW (eVar 6) (eFn lenW (aCons (eVar 4) aNil)))) (dTest (eBin gtW (eBin modW (eFn intW (aCons (eVar 6) aNil)) (eC (.int 2))) (eC (.int 0)))))) sCont sNil)
    (sIf (dNot (dTest (eCall 2 r__law_room_right (aCons (eVar 3) (aCons (eSl (eVar 4) oNone (oSome (eVar 6))) aNil))))) (sRet (eC (.bl false))) sNil))
def b_law_1 : DS := (sSeq (sSet 3 (eCall 1 r__law_rule (aCons (eVar 1) aNil)))
    (sSeq (sSet 3 (eBin addW (eSl (eVar 3) oNone (oSome (eC (.int 2)))) (eTup (aCons (eC (.str "line")) (aCons (eC (.str "on")) (aCons (eBin ixM (eLst (aCons (eC (.str "asks")) (aCons (eC (.str "tells")) aNil))) (eCall 2 r__law_draw (aCons (eVar 1) (aCons (eC (.int 2)) aNil)))) (aCons (eC (.str "told")) (aCons (eBin ixM (eVar 3) (eC (.int 6))) aNil))))))))
    (sSeq (sAsg (eCall 3 r__law_row (aCons (eVar 1) (aCons (eVar 3) (aCons (eC (.int 30)) aNil)))) (gT (gsCons (gN 4) (gsCons (gN 5) gsNil))))
    (sSeq (sIf (dTest (eBin notBW (eCall 1 r_is_tidy (aCons (eVar 3) aNil)) (eC (.bl true)))) (sRet (eC (.bl false))) sNil)
    (sFor (iRng (aCons (eBin addW (eFn lenW (aCons (eVar 4) aNil)) (eC (.int 1))) aNil)) (gN 6) b_law_0)))))
def s_law_1 : DS := (sFor (iRng (aCons (eC (.int 5)) aNil)) (gN 2) b_law_1)
def s_law_2 : DS := (sRet (eC (.bl true)))
def d_law : DS := (sSeq s_law_0 (sSeq s_law_1 s_law_2))
def r_law : Fw := runD 7 d_law
/-- what stands behind the top -/
structure Txt (K : PySem.W.Frag) (mg : Str → Option Value) where
  m_any : mg "any" = none
  m_bool : mg "bool" = none
  m_enumerate : mg "enumerate" = none
  m_int : mg "int" = none
  m_isinstance : mg "isinstance" = none
  m_len : mg "len" = none
  m_list : mg "list" = none
  m_range : mg "range" = none
  m_sorted : mg "sorted" = none
  m_str : mg "str" = none
  m_tuple : mg "tuple" = none
  c_LINE : GloW K mg "LINE" w_LINE
  c_ON : GloW K mg "ON" w_ON
  c_ASKS : GloW K mg "ASKS" w_ASKS
  c_OLD : GloW K mg "OLD" w_OLD
  c_TELLS : GloW K mg "TELLS" w_TELLS
  c_TOLD : GloW K mg "TOLD" w_TOLD
  c_MOST_NAMES : GloW K mg "MOST_NAMES" w_MOST_NAMES
  c_CHOICES : GloW K mg "CHOICES" w_CHOICES
  c_HERE : GloW K mg "HERE" w_HERE
  c_OUT : GloW K mg "OUT" w_OUT
  c_LOST : GloW K mg "LOST" w_LOST
  c_AWAY : GloW K mg "AWAY" w_AWAY
  c_COME : GloW K mg "COME" w_COME
  c_LET : GloW K mg "LET" w_LET
  c_LEAVE : GloW K mg "LEAVE" w_LEAVE
  c_BACK : GloW K mg "BACK" w_BACK
  c_DOOR : GloW K mg "DOOR" w_DOOR
  c_PERSONAL : GloW K mg "PERSONAL" w_PERSONAL
  c_MOST_EVENTS : GloW K mg "MOST_EVENTS" w_MOST_EVENTS
  c_MOST_PEOPLE : GloW K mg "MOST_PEOPLE" w_MOST_PEOPLE
  k_Room : Cls K (cl K 0)
  n_Room_came_so_far : NoAttr K (cl K 0) "came_so_far"
  n_Room_line_now : NoAttr K (cl K 0) "line_now"
  n_Room_own_rule : NoAttr K (cl K 0) "own_rule"
  n_Room_served_so_far : NoAttr K (cl K 0) "served_so_far"
  mt_Room_are_here : Meth K (cl K 0) "are_here" (He.ma K (He.ga K "Room") "are_here")
  mt_Room_bring_back : Meth K (cl K 0) "bring_back" (He.ma K (He.ga K "Room") "bring_back")
  mt_Room_can_be : Meth K (cl K 0) "can_be" (He.ma K (He.ga K "Room") "can_be")
  mt_Room_do : Meth K (cl K 0) "do" (He.ma K (He.ga K "Room") "do")
  mt_Room_do_personal : Meth K (cl K 0) "do_personal" (He.ma K (He.ga K "Room") "do_personal")
  mt_Room_how_is : Meth K (cl K 0) "how_is" (He.ma K (He.ga K "Room") "how_is")
  mt_Room_open_door : Meth K (cl K 0) "open_door" (He.ma K (He.ga K "Room") "open_door")
  mt_Room_put_in : Meth K (cl K 0) "put_in" (He.ma K (He.ga K "Room") "put_in")
  mt_Room_renew_from : Meth K (cl K 0) "renew_from" (He.ma K (He.ga K "Room") "renew_from")
  mk_Room : Mk K (cl K 0) (He.ma K (He.ga K "Room") "__init__")
  g_Room : mg "Room" = some (.ref (cl K 0))
  fd_is_integer : FuncData
  f_is_integer : FT K mg "is_integer" st_is_integer ["thing"] fd_is_integer
  fd_is_between : FuncData
  f_is_between : FT K mg "is_between" st_is_between ["thing", "least", "most"] fd_is_between
  fd_is_one_of : FuncData
  f_is_one_of : FT K mg "is_one_of" st_is_one_of ["some", "thing"] fd_is_one_of
  fd_need_rule : FuncData
  f_need_rule : FT K mg "need_rule" st_need_rule ["thing"] fd_need_rule
  fd_is_tidy_rule : FuncData
  f_is_tidy_rule : FT K mg "is_tidy_rule" st_is_tidy_rule ["rule"] fd_is_tidy_rule
  fd_is_tidy : FuncData
  f_is_tidy : FT K mg "is_tidy" st_is_tidy ["rule"] fd_is_tidy
  fd_nearest_ahead : FuncData
  f_nearest_ahead : FT K mg "nearest_ahead" st_nearest_ahead ["rule", "line", "spot"] fd_nearest_ahead
  fd_renewed : FuncData
  f_renewed : FT K mg "renewed" st_renewed ["rule", "line", "spots"] fd_renewed
  fd_spot_of : FuncData
  f_spot_of : FT K mg "spot_of" st_spot_of ["line", "person"] fd_spot_of
  fd_as_how : FuncData
  f_as_how : FT K mg "as_how" st_as_how ["line", "spot", "how"] fd_as_how
  fd_without : FuncData
  f_without : FT K mg "without" st_without ["rule", "line", "person"] fd_without
  fd_forgetting : FuncData
  f_forgetting : FT K mg "forgetting" st_forgetting ["line"] fd_forgetting
  fd_asked_again : FuncData
  f_asked_again : FT K mg "asked_again" st_asked_again ["rule", "line"] fd_asked_again
  fd_claiming : FuncData
  f_claiming : FT K mg "claiming" st_claiming ["rule", "line"] fd_claiming
  fd_has_form : FuncData
  f_has_form : FT K mg "has_form" st_has_form ["thing"] fd_has_form
  fd_Room___init__ : FuncData
  f_Room___init__ : FM K "Room" "__init__" "Room.__init__" st_Room___init__ ["self", "rule"] fd_Room___init__
  fd_Room_put_in : FuncData
  f_Room_put_in : FM K "Room" "put_in" "Room.put_in" st_Room_put_in ["self", "spot"] fd_Room_put_in
  fd_Room_open_door : FuncData
  f_Room_open_door : FM K "Room" "open_door" "Room.open_door" st_Room_open_door ["self"] fd_Room_open_door
  fd_Room_renew_from : FuncData
  f_Room_renew_from : FM K "Room" "renew_from" "Room.renew_from" st_Room_renew_from ["self", "spot"] fd_Room_renew_from
  fd_Room_bring_back : FuncData
  f_Room_bring_back : FM K "Room" "bring_back" "Room.bring_back" st_Room_bring_back ["self", "spot"] fd_Room_bring_back
  fd_Room_do_personal : FuncData
  f_Room_do_personal : FM K "Room" "do_personal" "Room.do_personal" st_Room_do_personal ["self", "word", "person"] fd_Room_do_personal
  fd_Room_do : FuncData
  f_Room_do : FM K "Room" "do" "Room.do" st_Room_do ["self", "event"] fd_Room_do
  fd_Room_how_is : FuncData
  f_Room_how_is : FM K "Room" "how_is" "Room.how_is" st_Room_how_is ["self", "person"] fd_Room_how_is
  fd_Room_are_here : FuncData
  f_Room_are_here : FM K "Room" "are_here" "Room.are_here" st_Room_are_here ["self"] fd_Room_are_here
  fd_Room_can_be : FuncData
  f_Room_can_be : FM K "Room" "can_be" "Room.can_be" st_Room_can_be ["self", "event"] fd_Room_can_be
  fd_room_behind : FuncData
  f_room_behind : FT K mg "room_behind" st_room_behind ["rule", "events"] fd_room_behind
  fd_need_room : FuncData
  f_need_room : FT K mg "need_room" st_need_room ["rule", "events"] fd_need_room
  fd_standing_behind : FuncData
  f_standing_behind : FT K mg "standing_behind" st_standing_behind ["rule", "events"] fd_standing_behind
  fd_line_behind : FuncData
  f_line_behind : FT K mg "line_behind" st_line_behind ["rule", "events"] fd_line_behind
  fd_here_behind : FuncData
  f_here_behind : FT K mg "here_behind" st_here_behind ["rule", "events"] fd_here_behind
  fd_names_behind : FuncData
  f_names_behind : FT K mg "names_behind" st_names_behind ["rule", "events", "person"] fd_names_behind
  fd_stale_behind : FuncData
  f_stale_behind : FT K mg "stale_behind" st_stale_behind ["rule", "events", "person"] fd_stale_behind
  fd_gaps_in : FuncData
  f_gaps_in : FT K mg "gaps_in" st_gaps_in ["line"] fd_gaps_in
  fd_gaps_behind : FuncData
  f_gaps_behind : FT K mg "gaps_behind" st_gaps_behind ["rule", "events"] fd_gaps_behind
  fd_claims_in : FuncData
  f_claims_in : FT K mg "claims_in" st_claims_in ["room"] fd_claims_in
  fd_claims_behind : FuncData
  f_claims_behind : FT K mg "claims_behind" st_claims_behind ["rule", "events"] fd_claims_behind
  fd__law_mixed : FuncData
  f__law_mixed : FT K mg "_law_mixed" st__law_mixed ["_law_cell", "_law_k"] fd__law_mixed
  fd__law_begin : FuncData
  f__law_begin : FT K mg "_law_begin" st__law_begin ["_law_script"] fd__law_begin
  fd__law_draw : FuncData
  f__law_draw : FT K mg "_law_draw" st__law_draw ["_law_state", "_law_many"] fd__law_draw
  fd__law_of : FuncData
  f__law_of : FT K mg "_law_of" st__law_of ["_law_state", "_law_some"] fd__law_of
  fd__law_names : FuncData
  f__law_names : FT K mg "_law_names" st__law_names ["_law_rule_here", "_law_line", "_law_spot"] fd__law_names
  fd__law_renew : FuncData
  f__law_renew : FT K mg "_law_renew" st__law_renew ["_law_rule_here", "_law_line", "_law_spots"] fd__law_renew
  fd__law_gone : FuncData
  f__law_gone : FT K mg "_law_gone" st__law_gone ["_law_rule_here", "_law_line", "_law_person"] fd__law_gone
  fd__law_here : FuncData
  f__law_here : FT K mg "_law_here" st__law_here ["_law_line"] fd__law_here
  fd__law_asked : FuncData
  f__law_asked : FT K mg "_law_asked" st__law_asked ["_law_rule_here", "_law_line"] fd__law_asked
  fd__law_claims : FuncData
  f__law_claims : FT K mg "_law_claims" st__law_claims ["_law_rule_here", "_law_rows"] fd__law_claims
  fd__law_come : FuncData
  f__law_come : FT K mg "_law_come" st__law_come ["_law_rule_here", "_law_line", "_law_spot", "_law_person"] fd__law_come
  fd__law_how : FuncData
  f__law_how : FT K mg "_law_how" st__law_how ["_law_line", "_law_person"] fd__law_how
  fd__law_can : FuncData
  f__law_can : FT K mg "_law_can" st__law_can ["_law_rule_here", "_law_room", "_law_event"] fd__law_can
  fd__law_back : FuncData
  f__law_back : FT K mg "_law_back" st__law_back ["_law_rule_here", "_law_line", "_law_came", "_law_spot"] fd__law_back
  fd__law_do : FuncData
  f__law_do : FT K mg "_law_do" st__law_do ["_law_rule_here", "_law_room", "_law_event"] fd__law_do
  fd__law_events : FuncData
  f__law_events : FT K mg "_law_events" st__law_events ["_law_rule_here", "_law_room"] fd__law_events
  fd__law_rule : FuncData
  f__law_rule : FT K mg "_law_rule" st__law_rule ["_law_state"] fd__law_rule
  fd__law_row : FuncData
  f__law_row : FT K mg "_law_row" st__law_row ["_law_state", "_law_rule_here", "_law_most"] fd__law_row
  fd__law_room_right : FuncData
  f__law_room_right : FT K mg "_law_room_right" st__law_room_right ["_law_rule_here", "_law_events_here"] fd__law_room_right
  fd_law : FuncData
  f_law : FT K mg "law" st_law ["_law_script"] fd_law
section
variable {P : Program} {w : World} {K : PySem.W.Frag} {mg : Str → Option Value} {base : Heap}
theorem sc_is_integer : FnScope N_is_integer ["thing"] (defScope st_is_integer) := ⟨rfl, rfl, rfl, by decide +kernel, rfl, by decide +kernel, by decide +kernel⟩
theorem ok_is_integer (T : Txt K mg) : FnG P w K mg base 1 (He.ga K "is_integer") T.fd_is_integer ["thing"] (spOf K (cl K) 1 r_is_integer) := by
  refine fn_pw (fn_ok (N := N_is_integer) (d := d_is_integer) T.f_is_integer.F sc_is_integer rfl fun cdv A outer s H E hr => ?_)
  have tk := takes_of (X := cxOf (L2.CX P w) P w K mg base N_is_integer "is_integer" (defScope st_is_integer) (He.ga K "is_integer") cdv A outer s H E) (E := E) rfl rfl rfl rfl
  exact (ss_one (ss_ret (se_and (se_isi .int T.m_isinstance T.m_int (by decide +kernel) (sv 0)) (se_one (se_not (se_isi .bl T.m_isinstance T.m_bool (by decide +kernel) (sv 0)))))))
theorem sc_is_between : FnScope N_is_between ["thing", "least", "most"] (defScope st_is_between) := ⟨rfl, rfl, rfl, by decide +kernel, rfl, by decide +kernel, by decide +kernel⟩
theorem ok_is_between (T : Txt K mg) : FnG P w K mg base 2 (He.ga K "is_between") T.fd_is_between ["thing", "least", "most"] (spOf K (cl K) 3 r_is_between) := by
  refine fn_pw (fn_ok (N := N_is_between) (d := d_is_between) T.f_is_between.F sc_is_between rfl fun cdv A outer s H E hr => ?_)
  have tk := takes_of (X := cxOf (L2.CX P w) P w K mg base N_is_between "is_between" (defScope st_is_between) (He.ga K "is_between") cdv A outer s H E) (E := E) rfl rfl rfl rfl
  exact (ss_one (ss_ret (se_and (se_call (ok_is_integer T) (hr.mono (by decide)) T.f_is_integer.g T.f_is_integer.F.kp T.f_is_integer.b tk (sa_cons (sv 0) sa_nil)) (se_one (se_chain op_le b_le op_le w_le (sv 1) (sv 0) (sv 2))))))
theorem sc_is_one_of : FnScope N_is_one_of ["some", "thing"] (defScope st_is_one_of) := ⟨rfl, rfl, rfl, by decide +kernel, rfl, by decide +kernel, by decide +kernel⟩
theorem ok_is_one_of (T : Txt K mg) : FnG P w K mg base 1 (He.ga K "is_one_of") T.fd_is_one_of ["some", "thing"] (spOf K (cl K) 2 r_is_one_of) := by
  refine fn_pw (fn_ok (N := N_is_one_of) (d := d_is_one_of) T.f_is_one_of.F sc_is_one_of rfl fun cdv A outer s H E hr => ?_)
  have tk := takes_of (X := cxOf (L2.CX P w) P w K mg base N_is_one_of "is_one_of" (defScope st_is_one_of) (He.ga K "is_one_of") cdv A outer s H E) (E := E) rfl rfl rfl rfl
  exact (ss_one (ss_ret (se_and (se_isi .str T.m_isinstance T.m_str (by decide +kernel) (sv 1)) (se_one (se_cmp (op_inA (hu65 hr)) w_in (sv 1) (sv 0) rfl)))))
theorem sc_need_rule : FnScope N_need_rule ["thing"] (defScope st_need_rule) := ⟨rfl, rfl, rfl, by decide +kernel, rfl, by decide +kernel, by decide +kernel⟩
theorem ok_need_rule (T : Txt K mg) : FnG P w K mg base 3 (He.ga K "need_rule") T.fd_need_rule ["thing"] (spOf K (cl K) 1 r_need_rule) := by
  refine fn_pw (fn_ok (N := N_need_rule) (d := d_need_rule) T.f_need_rule.F sc_need_rule rfl fun cdv A outer s H E hr => ?_)
  have tk := takes_of (X := cxOf (L2.CX P w) P w K mg base N_need_rule "need_rule" (defScope st_need_rule) (He.ga K "need_rule") cdv A outer s H E) (E := E) rfl rfl rfl rfl
  exact (ss_cons (ss_if (PW.pt (sw_or (st_not (st_val (se_isi .tup T.m_isinstance T.m_tuple (by decide +kernel) (sv 0)))) (sw_or1 (st_cmp (op_neD hr.units) w_ne (se_cb c_len w_len T.m_len boot_len (sa_cons (sv 0) sa_nil)) (se_op o_add w_add se_int (se_cb c_len w_len T.m_len boot_len (sa_cons (se_g T.c_CHOICES) sa_nil))) rfl)))) (ss_one ss_noraise) ss_nil)
    (ss_cons (ss_if (st_not (st_val (se_call (ok_is_between T) (hr.mono (by decide)) T.f_is_between.g T.f_is_between.F.kp T.f_is_between.b tk (sa_cons (se_ix ix_seq w_ix (sv 0) se_int) (sa_cons se_int (sa_cons (se_g T.c_MOST_NAMES) sa_nil)))))) (ss_one ss_noraise) ss_nil)
    (ss_cons (ss_if (st_not (st_val (se_call (ok_is_between T) (hr.mono (by decide)) T.f_is_between.g T.f_is_between.F.kp T.f_is_between.b tk (sa_cons (se_ix ix_seq w_ix (sv 0) se_int) (sa_cons se_int (sa_cons (se_ix ix_seq w_ix (sv 0) se_int) sa_nil)))))) (ss_one ss_noraise) ss_nil)
    (ss_cons (ss_for (passes_of rfl) rfl (si_enum T.m_enumerate (se_g T.c_CHOICES)) (sg_tup rfl (sgs_cons (sg_name (pg_name (i := 1) sc_need_rule.nd rfl (by first | exact Or.inl rfl | exact Or.inr rfl))) (sgs_cons (sg_name (pg_name (i := 2) sc_need_rule.nd rfl (by first | exact Or.inl rfl | exact Or.inr rfl))) sgs_nil)) (gsCons_len (gsCons_len gsNil_len))) (ss_one (ss_if (st_not (st_val (se_call (ok_is_one_of T) (hr.mono (by decide)) T.f_is_one_of.g T.f_is_one_of.F.kp T.f_is_one_of.b tk (sa_cons (sv 2) (sa_cons (se_ix ix_seq w_ix (sv 0) (se_op o_add w_add se_int (sv 1))) sa_nil))))) (ss_one ss_noraise) ss_nil)))
    (ss_one (ss_ret (sv 0)))))))
theorem sc_is_tidy_rule : FnScope N_is_tidy_rule ["rule"] (defScope st_is_tidy_rule) := ⟨rfl, rfl, rfl, by decide +kernel, rfl, by decide +kernel, by decide +kernel⟩
theorem ok_is_tidy_rule (T : Txt K mg) : FnG P w K mg base 1 (He.ga K "is_tidy_rule") T.fd_is_tidy_rule ["rule"] (spOf K (cl K) 1 r_is_tidy_rule) := by
  refine fn_pw (fn_ok (N := N_is_tidy_rule) (d := d_is_tidy_rule) T.f_is_tidy_rule.F sc_is_tidy_rule rfl fun cdv A outer s H E hr => ?_)
  have tk := takes_of (X := cxOf (L2.CX P w) P w K mg base N_is_tidy_rule "is_tidy_rule" (defScope st_is_tidy_rule) (He.ga K "is_tidy_rule") cdv A outer s H E) (E := E) rfl rfl rfl rfl
  exact (ss_cons (ss_asg (sv 0) (sg_tup rfl (sgs_cons (sg_name (pg_name (i := 1) sc_is_tidy_rule.nd rfl (by first | exact Or.inl rfl | exact Or.inr rfl))) (sgs_cons (sg_name (pg_name (i := 2) sc_is_tidy_rule.nd rfl (by first | exact Or.inl rfl | exact Or.inr rfl))) (sgs_cons (sg_name (pg_name (i := 3) sc_is_tidy_rule.nd rfl (by first | exact Or.inl rfl | exact Or.inr rfl))) (sgs_cons (sg_name (pg_name (i := 4) sc_is_tidy_rule.nd rfl (by first | exact Or.inl rfl | exact Or.inr rfl))) (sgs_cons (sg_name (pg_name (i := 5) sc_is_tidy_rule.nd rfl (by first | exact Or.inl rfl | exact Or.inr rfl))) (sgs_cons (sg_name (pg_name (i := 6) sc_is_tidy_rule.nd rfl (by first | exact Or.inl rfl | exact Or.inr rfl))) (sgs_cons (sg_name (pg_name (i := 7) sc_is_tidy_rule.nd rfl (by first | exact Or.inl rfl | exact Or.inr rfl))) sgs_nil))))))) (gsCons_len (gsCons_len (gsCons_len (gsCons_len (gsCons_len (gsCons_len (gsCons_len gsNil_len)))))))))
    (ss_cons (ss_if (PW.pt (sw_or (st_cmp (op_neD hr.units) w_ne (sv 4) (se_g T.c_ON) rfl) (sw_or1 (st_cmp (op_neD hr.units) w_ne (sv 6) (se_g T.c_TOLD) rfl)))) (ss_one (ss_ret se_bl)) ss_nil)
    (ss_one (ss_ret (se_or (se_cmp (op_eqD hr.units) w_eq (sv 5) (se_g T.c_TELLS) rfl) (se_one (se_and (se_cmp (op_eqD hr.units) w_eq (sv 5) (se_g T.c_ASKS) rfl) (se_one (se_cmp (op_eqD hr.units) w_eq (sv 3) (se_g T.c_LINE) rfl)))))))))
theorem sc_is_tidy : FnScope N_is_tidy ["rule"] (defScope st_is_tidy) := ⟨rfl, rfl, rfl, by decide +kernel, rfl, by decide +kernel, by decide +kernel⟩
theorem ok_is_tidy (T : Txt K mg) : FnG P w K mg base 4 (He.ga K "is_tidy") T.fd_is_tidy ["rule"] (spOf K (cl K) 1 r_is_tidy) := by
  refine fn_pw (fn_ok (N := N_is_tidy) (d := d_is_tidy) T.f_is_tidy.F sc_is_tidy rfl fun cdv A outer s H E hr => ?_)
  have tk := takes_of (X := cxOf (L2.CX P w) P w K mg base N_is_tidy "is_tidy" (defScope st_is_tidy) (He.ga K "is_tidy") cdv A outer s H E) (E := E) rfl rfl rfl rfl
  exact (ss_one (ss_ret (se_call (ok_is_tidy_rule T) (hr.mono (by decide)) T.f_is_tidy_rule.g T.f_is_tidy_rule.F.kp T.f_is_tidy_rule.b tk (sa_cons (se_call (ok_need_rule T) (hr.mono (by decide)) T.f_need_rule.g T.f_need_rule.F.kp T.f_need_rule.b tk (sa_cons (sv 0) sa_nil)) sa_nil))))
theorem sc_nearest_ahead : FnScope N_nearest_ahead ["rule", "line", "spot"] (defScope st_nearest_ahead) := ⟨rfl, rfl, rfl, by decide +kernel, rfl, by decide +kernel, by decide +kernel⟩
theorem ok_nearest_ahead (T : Txt K mg) : FnG P w K mg base 1 (He.ga K "nearest_ahead") T.fd_nearest_ahead ["rule", "line", "spot"] (spOf K (cl K) 3 r_nearest_ahead) := by
  refine fn_pw (fn_ok (N := N_nearest_ahead) (d := d_nearest_ahead) T.f_nearest_ahead.F sc_nearest_ahead rfl fun cdv A outer s H E hr => ?_)
  have tk := takes_of (X := cxOf (L2.CX P w) P w K mg base N_nearest_ahead "nearest_ahead" (defScope st_nearest_ahead) (He.ga K "nearest_ahead") cdv A outer s H E) (E := E) rfl rfl rfl rfl
  exact (ss_cons (ss_set (i := 3) sc_nearest_ahead.nd rfl (by first | exact Or.inl rfl | exact Or.inr rfl) (se_if (st_cmp (op_eqD hr.units) w_eq (se_ix ix_seq w_ix (sv 0) se_int) (se_g T.c_LINE) rfl) (se_tup (sa_cons (se_g T.c_HERE) (sa_cons (se_g T.c_OUT) (sa_cons (se_g T.c_AWAY) sa_nil)))) (se_tup (sa_cons (se_g T.c_HERE) sa_nil))))
    (ss_cons (ss_setLc (i := 4) (own := [("person", 5), ("how", 6), ("names", 7)]) rfl sc_nearest_ahead.nd rfl rfl (sw_true rfl rfl rfl (by decide +kernel)) (si_seq (se_sl (sv 1) so_none (so_some (sv 2)))) (blkOk_by (N := N_nearest_ahead) (sc := defScope st_nearest_ahead) (by decide +kernel)) (by decide) (fun _ _ _ _ _ => (sg_tup rfl (sgs_cons (sg_name (pg_name (i := 5) sc_nearest_ahead.nd rfl (by first | exact Or.inl rfl | exact Or.inr rfl))) (sgs_cons (sg_name (pg_name (i := 6) sc_nearest_ahead.nd rfl (by first | exact Or.inl rfl | exact Or.inr rfl))) (sgs_cons (sg_name (pg_name (i := 7) sc_nearest_ahead.nd rfl (by first | exact Or.inl rfl | exact Or.inr rfl))) sgs_nil))) (gsCons_len (gsCons_len (gsCons_len gsNil_len))))) (fun _ _ _ _ _ => (stc_one (st_cmp (op_inA (hu65 hr)) w_in (sv 6) (sv 3) rfl))) (fun _ _ _ _ _ => (sv 5)))
    (ss_one (ss_ret (se_ct call_tuple_of w_tuple T.m_tuple (by decide +kernel) (sa_cons (se_sl (se_rev (sv 4)) so_none (so_some (se_ix ix_seq w_ix (sv 0) se_int))) sa_nil))))))
theorem sc_renewed : FnScope N_renewed ["rule", "line", "spots"] (defScope st_renewed) := ⟨rfl, rfl, rfl, by decide +kernel, rfl, by decide +kernel, by decide +kernel⟩
theorem ok_renewed (T : Txt K mg) : FnG P w K mg base 2 (He.ga K "renewed") T.fd_renewed ["rule", "line", "spots"] (spOf K (cl K) 3 r_renewed) := by
  refine fn_pw (fn_ok (N := N_renewed) (d := d_renewed) T.f_renewed.F sc_renewed rfl fun cdv A outer s H E hr => ?_)
  have tk := takes_of (X := cxOf (L2.CX P w) P w K mg base N_renewed "renewed" (defScope st_renewed) (He.ga K "renewed") cdv A outer s H E) (E := E) rfl rfl rfl rfl
  exact (ss_cons (ss_set (i := 3) sc_renewed.nd rfl (by first | exact Or.inl rfl | exact Or.inr rfl) (se_lstM sa_nil))
    (ss_cons (ss_for (passes_of rfl) rfl (si_enum T.m_enumerate (sv 1)) (sg_tup rfl (sgs_cons (sg_name (pg_name (i := 4) sc_renewed.nd rfl (by first | exact Or.inl rfl | exact Or.inr rfl))) (sgs_cons (sg_tup rfl (sgs_cons (sg_name (pg_name (i := 5) sc_renewed.nd rfl (by first | exact Or.inl rfl | exact Or.inr rfl))) (sgs_cons (sg_name (pg_name (i := 6) sc_renewed.nd rfl (by first | exact Or.inl rfl | exact Or.inr rfl))) (sgs_cons (sg_name (pg_name (i := 7) sc_renewed.nd rfl (by first | exact Or.inl rfl | exact Or.inr rfl))) sgs_nil))) (gsCons_len (gsCons_len (gsCons_len gsNil_len)))) sgs_nil)) (gsCons_len (gsCons_len gsNil_len))) (ss_cons (ss_set (i := 8) sc_renewed.nd rfl (by first | exact Or.inl rfl | exact Or.inr rfl) (se_and (se_cmp (op_inA (hu65 hr)) w_in (sv 4) (sv 2) rfl) (se_one (se_cmp (op_eqD hr.units) w_eq (sv 6) (se_g T.c_HERE) rfl))))
    (ss_one (ss_expr (se_app (sv 3) (se_tup (sa_cons (sv 5) (sa_cons (sv 6) (sa_cons (se_if (st_val (sv 8)) (se_call (ok_nearest_ahead T) (hr.mono (by decide)) T.f_nearest_ahead.g T.f_nearest_ahead.F.kp T.f_nearest_ahead.b tk (sa_cons (sv 0) (sa_cons (sv 1) (sa_cons (sv 4) sa_nil)))) (sv 7)) sa_nil)))))))))
    (ss_one (ss_ret (se_ct call_tuple_of w_tuple T.m_tuple (by decide +kernel) (sa_cons (sv 3) sa_nil))))))
theorem sc_spot_of : FnScope N_spot_of ["line", "person"] (defScope st_spot_of) := ⟨rfl, rfl, rfl, by decide +kernel, rfl, by decide +kernel, by decide +kernel⟩
theorem ok_spot_of (T : Txt K mg) : FnG P w K mg base 1 (He.ga K "spot_of") T.fd_spot_of ["line", "person"] (spOf K (cl K) 2 r_spot_of) := by
  refine fn_pw (fn_ok (N := N_spot_of) (d := d_spot_of) T.f_spot_of.F sc_spot_of rfl fun cdv A outer s H E hr => ?_)
  have tk := takes_of (X := cxOf (L2.CX P w) P w K mg base N_spot_of "spot_of" (defScope st_spot_of) (He.ga K "spot_of") cdv A outer s H E) (E := E) rfl rfl rfl rfl
  exact (ss_one (ss_ret (se_idx (se_fz (se_lc (own := [("one", 2), ("how", 3), ("names", 4)]) rfl sc_spot_of.nd (si_seq (sv 0)) (blkOk_by (N := N_spot_of) (sc := defScope st_spot_of) (by decide +kernel)) (by decide) (fun _ _ _ _ _ => (sg_tup rfl (sgs_cons (sg_name (pg_name (i := 2) sc_spot_of.nd rfl (by first | exact Or.inl rfl | exact Or.inr rfl))) (sgs_cons (sg_name (pg_name (i := 3) sc_spot_of.nd rfl (by first | exact Or.inl rfl | exact Or.inr rfl))) (sgs_cons (sg_name (pg_name (i := 4) sc_spot_of.nd rfl (by first | exact Or.inl rfl | exact Or.inr rfl))) sgs_nil))) (gsCons_len (gsCons_len (gsCons_len gsNil_len))))) (fun _ _ _ _ _ => stc_nil) (fun _ _ _ _ _ => (sv 2)))) (sv 1))))
theorem sc_as_how : FnScope N_as_how ["line", "spot", "how"] (defScope st_as_how) := ⟨rfl, rfl, rfl, by decide +kernel, rfl, by decide +kernel, by decide +kernel⟩
theorem ok_as_how (T : Txt K mg) : FnG P w K mg base 1 (He.ga K "as_how") T.fd_as_how ["line", "spot", "how"] (spOf K (cl K) 3 r_as_how) := by
  refine fn_pw (fn_ok (N := N_as_how) (d := d_as_how) T.f_as_how.F sc_as_how rfl fun cdv A outer s H E hr => ?_)
  have tk := takes_of (X := cxOf (L2.CX P w) P w K mg base N_as_how "as_how" (defScope st_as_how) (He.ga K "as_how") cdv A outer s H E) (E := E) rfl rfl rfl rfl
  exact (ss_cons (ss_asg (se_ix ix_seq w_ix (sv 0) (sv 1)) (sg_tup rfl (sgs_cons (sg_name (pg_name (i := 3) sc_as_how.nd rfl (by first | exact Or.inl rfl | exact Or.inr rfl))) (sgs_cons (sg_name (pg_name (i := 4) sc_as_how.nd rfl (by first | exact Or.inl rfl | exact Or.inr rfl))) (sgs_cons (sg_name (pg_name (i := 5) sc_as_how.nd rfl (by first | exact Or.inl rfl | exact Or.inr rfl))) sgs_nil))) (gsCons_len (gsCons_len (gsCons_len gsNil_len)))))
    (ss_one (ss_ret (se_tup (sa_star (se_sl (sv 0) so_none (so_some (sv 1))) (sa_cons (se_tup (sa_cons (sv 3) (sa_cons (sv 2) (sa_cons (se_if (st_cmp (op_eqD hr.units) w_eq (sv 2) (se_g T.c_AWAY) rfl) (se_tup sa_nil) (sv 5)) sa_nil)))) (sa_star (se_sl (sv 0) (so_some (se_op o_add w_add (sv 1) se_int)) so_none) sa_nil)))))))
theorem sc_without : FnScope N_without ["rule", "line", "person"] (defScope st_without) := ⟨rfl, rfl, rfl, by decide +kernel, rfl, by decide +kernel, by decide +kernel⟩
theorem ok_without (T : Txt K mg) : FnG P w K mg base 3 (He.ga K "without") T.fd_without ["rule", "line", "person"] (spOf K (cl K) 3 r_without) := by
  refine fn_pw (fn_ok (N := N_without) (d := d_without) T.f_without.F sc_without rfl fun cdv A outer s H E hr => ?_)
  have tk := takes_of (X := cxOf (L2.CX P w) P w K mg base N_without "without" (defScope st_without) (He.ga K "without") cdv A outer s H E) (E := E) rfl rfl rfl rfl
  exact (ss_cons (ss_par (i := 3) (j := 4) rfl sc_without.nd rfl rfl (by decide) rfl rfl (sa_cons (se_lstM sa_nil) (sa_cons (se_lstM sa_nil) sa_nil)) rfl)
    (ss_cons (ss_for (passes_of rfl) rfl (si_seq (sv 1)) (sg_tup rfl (sgs_cons (sg_name (pg_name (i := 5) sc_without.nd rfl (by first | exact Or.inl rfl | exact Or.inr rfl))) (sgs_cons (sg_name (pg_name (i := 6) sc_without.nd rfl (by first | exact Or.inl rfl | exact Or.inr rfl))) (sgs_cons (sg_name (pg_name (i := 7) sc_without.nd rfl (by first | exact Or.inl rfl | exact Or.inr rfl))) sgs_nil))) (gsCons_len (gsCons_len (gsCons_len gsNil_len)))) (ss_cons (ss_if (st_cmp (op_eqD hr.units) w_eq (sv 5) (sv 2) rfl) (ss_one ss_continue) ss_nil)
    (ss_cons (ss_set (i := 8) sc_without.nd rfl (by first | exact Or.inl rfl | exact Or.inr rfl) (sv 7))
    (ss_cons (ss_if (PW.pt (sw_and (st_cmp (op_eqD hr.units) w_eq (sv 6) (se_g T.c_HERE) rfl) (sw_and1 (st_cmp (op_inA (hu65 hr)) w_in (sv 2) (sv 7) rfl)))) (ss_cons (ss_expr (se_app (sv 4) (se_cb c_len w_len T.m_len boot_len (sa_cons (sv 3) sa_nil))))
    (ss_one (ss_set (i := 8) sc_without.nd rfl (by first | exact Or.inl rfl | exact Or.inr rfl) (se_ct call_tuple_of w_tuple T.m_tuple (by decide +kernel) (sa_cons (se_fz (se_lc (own := [("name", 9)]) rfl sc_without.nd (si_seq (sv 7)) (blkOk_by (N := N_without) (sc := defScope st_without) (by decide +kernel)) (by decide) (fun _ _ _ _ _ => (sg_name (pg_name (i := 9) sc_without.nd rfl (by first | exact Or.inl rfl | exact Or.inr rfl)))) (fun _ _ _ _ _ => (stc_one (st_cmp (op_neD hr.units) w_ne (sv 9) (sv 2) rfl))) (fun _ _ _ _ _ => (sv 9)))) sa_nil))))) ss_nil)
    (ss_one (ss_expr (se_app (sv 3) (se_tup (sa_cons (sv 5) (sa_cons (sv 6) (sa_cons (sv 8) sa_nil)))))))))))
    (ss_one (ss_ret (se_call (ok_renewed T) (hr.mono (by decide)) T.f_renewed.g T.f_renewed.F.kp T.f_renewed.b tk (sa_cons (sv 0) (sa_cons (se_ct call_tuple_of w_tuple T.m_tuple (by decide +kernel) (sa_cons (sv 3) sa_nil)) (sa_cons (se_if (st_cmp (op_eqD hr.units) w_eq (se_ix ix_seq w_ix (sv 0) se_int) (se_g T.c_ON) rfl) (se_frz 4) (se_lst sa_nil)) sa_nil))))))))
theorem sc_forgetting : FnScope N_forgetting ["line"] (defScope st_forgetting) := ⟨rfl, rfl, rfl, by decide +kernel, rfl, by decide +kernel, by decide +kernel⟩
theorem ok_forgetting (T : Txt K mg) : FnG P w K mg base 1 (He.ga K "forgetting") T.fd_forgetting ["line"] (spOf K (cl K) 1 r_forgetting) := by
  refine fn_pw (fn_ok (N := N_forgetting) (d := d_forgetting) T.f_forgetting.F sc_forgetting rfl fun cdv A outer s H E hr => ?_)
  have tk := takes_of (X := cxOf (L2.CX P w) P w K mg base N_forgetting "forgetting" (defScope st_forgetting) (He.ga K "forgetting") cdv A outer s H E) (E := E) rfl rfl rfl rfl
  exact (ss_cons (ss_if (st_val (se_cb (cr_any rfl) w_any T.m_any boot_any (sa_cons (se_fz (se_lc (own := [("person", 1), ("how", 2), ("names", 3)]) rfl sc_forgetting.nd (si_seq (sv 0)) (blkOk_by (N := N_forgetting) (sc := defScope st_forgetting) (by decide +kernel)) (by decide) (fun _ _ _ _ _ => (sg_tup rfl (sgs_cons (sg_name (pg_name (i := 1) sc_forgetting.nd rfl (by first | exact Or.inl rfl | exact Or.inr rfl))) (sgs_cons (sg_name (pg_name (i := 2) sc_forgetting.nd rfl (by first | exact Or.inl rfl | exact Or.inr rfl))) (sgs_cons (sg_name (pg_name (i := 3) sc_forgetting.nd rfl (by first | exact Or.inl rfl | exact Or.inr rfl))) sgs_nil))) (gsCons_len (gsCons_len (gsCons_len gsNil_len))))) (fun _ _ _ _ _ => stc_nil) (fun _ _ _ _ _ => (se_cmp (op_eqD hr.units) w_eq (sv 2) (se_g T.c_HERE) rfl)))) sa_nil))) (ss_one (ss_ret (sv 0))) ss_nil)
    (ss_one (ss_ret (se_ct call_tuple_of w_tuple T.m_tuple (by decide +kernel) (sa_cons (se_fz (se_lc (own := [("person", 1), ("how", 2), ("names", 3)]) rfl sc_forgetting.nd (si_seq (sv 0)) (blkOk_by (N := N_forgetting) (sc := defScope st_forgetting) (by decide +kernel)) (by decide) (fun _ _ _ _ _ => (sg_tup rfl (sgs_cons (sg_name (pg_name (i := 1) sc_forgetting.nd rfl (by first | exact Or.inl rfl | exact Or.inr rfl))) (sgs_cons (sg_name (pg_name (i := 2) sc_forgetting.nd rfl (by first | exact Or.inl rfl | exact Or.inr rfl))) (sgs_cons (sg_name (pg_name (i := 3) sc_forgetting.nd rfl (by first | exact Or.inl rfl | exact Or.inr rfl))) sgs_nil))) (gsCons_len (gsCons_len (gsCons_len gsNil_len))))) (fun _ _ _ _ _ => (stc_one (st_cmp (op_neD hr.units) w_ne (sv 2) (se_g T.c_AWAY) rfl))) (fun _ _ _ _ _ => (se_tup (sa_cons (sv 1) (sa_cons (se_g T.c_LOST) (sa_cons (sv 3) sa_nil))))))) sa_nil)))))
theorem sc_asked_again : FnScope N_asked_again ["rule", "line"] (defScope st_asked_again) := ⟨rfl, rfl, rfl, by decide +kernel, rfl, by decide +kernel, by decide +kernel⟩
theorem ok_asked_again (T : Txt K mg) : FnG P w K mg base 3 (He.ga K "asked_again") T.fd_asked_again ["rule", "line"] (spOf K (cl K) 2 r_asked_again) := by
  refine fn_pw (fn_ok (N := N_asked_again) (d := d_asked_again) T.f_asked_again.F sc_asked_again rfl fun cdv A outer s H E hr => ?_)
  have tk := takes_of (X := cxOf (L2.CX P w) P w K mg base N_asked_again "asked_again" (defScope st_asked_again) (He.ga K "asked_again") cdv A outer s H E) (E := E) rfl rfl rfl rfl
  exact (ss_cons (ss_if (st_cmp (op_neD hr.units) w_ne (se_ix ix_seq w_ix (sv 0) se_int) (se_g T.c_ASKS) rfl) (ss_one (ss_ret (sv 1))) ss_nil)
    (ss_one (ss_ret (se_call (ok_renewed T) (hr.mono (by decide)) T.f_renewed.g T.f_renewed.F.kp T.f_renewed.b tk (sa_cons (sv 0) (sa_cons (sv 1) (sa_cons (se_fz (se_lc (own := [("spot", 2), ("person", 3), ("how", 4), ("names", 5)]) rfl sc_asked_again.nd (si_enum T.m_enumerate (sv 1)) (blkOk_by (N := N_asked_again) (sc := defScope st_asked_again) (by decide +kernel)) (by decide) (fun _ _ _ _ _ => (sg_tup rfl (sgs_cons (sg_name (pg_name (i := 2) sc_asked_again.nd rfl (by first | exact Or.inl rfl | exact Or.inr rfl))) (sgs_cons (sg_tup rfl (sgs_cons (sg_name (pg_name (i := 3) sc_asked_again.nd rfl (by first | exact Or.inl rfl | exact Or.inr rfl))) (sgs_cons (sg_name (pg_name (i := 4) sc_asked_again.nd rfl (by first | exact Or.inl rfl | exact Or.inr rfl))) (sgs_cons (sg_name (pg_name (i := 5) sc_asked_again.nd rfl (by first | exact Or.inl rfl | exact Or.inr rfl))) sgs_nil))) (gsCons_len (gsCons_len (gsCons_len gsNil_len)))) sgs_nil)) (gsCons_len (gsCons_len gsNil_len)))) (fun _ _ _ _ _ => (stc_one (st_cmp (op_eqD hr.units) w_eq (sv 5) (se_tup sa_nil) rfl))) (fun _ _ _ _ _ => (sv 2)))) sa_nil)))))))
theorem sc_claiming : FnScope N_claiming ["rule", "line"] (defScope st_claiming) := ⟨rfl, rfl, rfl, by decide +kernel, rfl, by decide +kernel, by decide +kernel⟩
theorem ok_claiming (T : Txt K mg) : FnG P w K mg base 1 (He.ga K "claiming") T.fd_claiming ["rule", "line"] (spOf K (cl K) 2 r_claiming) := by
  refine fn_pw (fn_ok (N := N_claiming) (d := d_claiming) T.f_claiming.F sc_claiming rfl fun cdv A outer s H E hr => ?_)
  have tk := takes_of (X := cxOf (L2.CX P w) P w K mg base N_claiming "claiming" (defScope st_claiming) (He.ga K "claiming") cdv A outer s H E) (E := E) rfl rfl rfl rfl
  exact (ss_cons (ss_set (i := 2) sc_claiming.nd rfl (by first | exact Or.inl rfl | exact Or.inr rfl) (se_fz (se_lc (own := [("person", 4), ("how", 5), ("names", 6)]) rfl sc_claiming.nd (si_seq (sv 1)) (blkOk_by (N := N_claiming) (sc := defScope st_claiming) (by decide +kernel)) (by decide) (fun _ _ _ _ _ => (sg_tup rfl (sgs_cons (sg_name (pg_name (i := 4) sc_claiming.nd rfl (by first | exact Or.inl rfl | exact Or.inr rfl))) (sgs_cons (sg_name (pg_name (i := 5) sc_claiming.nd rfl (by first | exact Or.inl rfl | exact Or.inr rfl))) (sgs_cons (sg_name (pg_name (i := 6) sc_claiming.nd rfl (by first | exact Or.inl rfl | exact Or.inr rfl))) sgs_nil))) (gsCons_len (gsCons_len (gsCons_len gsNil_len))))) (fun _ _ _ _ _ => (stc_one (st_cmp (op_eqD hr.units) w_eq (sv 5) (se_g T.c_HERE) rfl))) (fun _ _ _ _ _ => (sv 4)))))
    (ss_cons (ss_set (i := 3) sc_claiming.nd rfl (by first | exact Or.inl rfl | exact Or.inr rfl) (se_lstM sa_nil))
    (ss_cons (ss_for (passes_of rfl) rfl (si_seq (sv 1)) (sg_tup rfl (sgs_cons (sg_name (pg_name (i := 4) sc_claiming.nd rfl (by first | exact Or.inl rfl | exact Or.inr rfl))) (sgs_cons (sg_name (pg_name (i := 5) sc_claiming.nd rfl (by first | exact Or.inl rfl | exact Or.inr rfl))) (sgs_cons (sg_name (pg_name (i := 6) sc_claiming.nd rfl (by first | exact Or.inl rfl | exact Or.inr rfl))) sgs_nil))) (gsCons_len (gsCons_len (gsCons_len gsNil_len)))) (ss_one (ss_if (PW.pt (sw_and (st_cmp (op_eqD hr.units) w_eq (sv 5) (se_g T.c_HERE) rfl) (sw_and (st_cmp op_le w_le (se_cb c_len w_len T.m_len boot_len (sa_cons (sv 6) sa_nil)) (se_ix ix_seq w_ix (sv 0) se_int) rfl) (sw_and1 (st_not (st_val (se_cb (cr_any rfl) w_any T.m_any boot_any (sa_cons (se_fz (se_lc (own := [("name", 7)]) rfl sc_claiming.nd (si_seq (sv 6)) (blkOk_by (N := N_claiming) (sc := defScope st_claiming) (by decide +kernel)) (by decide) (fun _ _ _ _ _ => (sg_name (pg_name (i := 7) sc_claiming.nd rfl (by first | exact Or.inl rfl | exact Or.inr rfl)))) (fun _ _ _ _ _ => stc_nil) (fun _ _ _ _ _ => (se_cmp (op_inA (hu65 hr)) w_in (sv 7) (sv 2) rfl)))) sa_nil)))))))) (ss_one (ss_expr (se_app (sv 3) (sv 4)))) ss_nil)))
    (ss_one (ss_ret (sv 3))))))
theorem sc_has_form : FnScope N_has_form ["thing"] (defScope st_has_form) := ⟨rfl, rfl, rfl, by decide +kernel, rfl, by decide +kernel, by decide +kernel⟩
theorem ok_has_form (T : Txt K mg) : FnG P w K mg base 2 (He.ga K "has_form") T.fd_has_form ["thing"] (spOf K (cl K) 1 r_has_form) := by
  refine fn_pw (fn_ok (N := N_has_form) (d := d_has_form) T.f_has_form.F sc_has_form rfl fun cdv A outer s H E hr => ?_)
  have tk := takes_of (X := cxOf (L2.CX P w) P w K mg base N_has_form "has_form" (defScope st_has_form) (He.ga K "has_form") cdv A outer s H E) (E := E) rfl rfl rfl rfl
  exact (ss_cons (ss_if (PW.pt (sw_or (st_not (st_val (se_isi .tup T.m_isinstance T.m_tuple (by decide +kernel) (sv 0)))) (sw_or (st_cmp (op_eqD hr.units) w_eq (sv 0) (se_tup sa_nil) rfl) (sw_or1 (st_not (st_val (se_isi .str T.m_isinstance T.m_str (by decide +kernel) (se_ix ix_seq w_ix (sv 0) se_int)))))))) (ss_one (ss_ret se_bl)) ss_nil)
    (ss_cons (ss_if (st_cmp (op_inA (hu65 hr)) w_in (se_ix ix_seq w_ix (sv 0) se_int) (se_tup (sa_cons (se_g T.c_COME) (sa_cons (se_g T.c_DOOR) sa_nil))) rfl) (ss_one (ss_ret (se_cmp (op_eqD hr.units) w_eq (se_cb c_len w_len T.m_len boot_len (sa_cons (sv 0) sa_nil)) se_int rfl))) ss_nil)
    (ss_one (ss_ret (se_and (se_cmp (op_eqD hr.units) w_eq (se_cb c_len w_len T.m_len boot_len (sa_cons (sv 0) sa_nil)) se_int rfl) (se_and (se_cmp (op_inA (hu65 hr)) w_in (se_ix ix_seq w_ix (sv 0) se_int) (se_g T.c_PERSONAL) rfl) (se_one (se_call (ok_is_integer T) (hr.mono (by decide)) T.f_is_integer.g T.f_is_integer.F.kp T.f_is_integer.b tk (sa_cons (se_ix ix_seq w_ix (sv 0) se_int) sa_nil)))))))))
theorem sc_Room___init__ : FnScope N_Room___init__ ["self", "rule"] (defScope st_Room___init__) := ⟨rfl, rfl, rfl, by decide +kernel, rfl, by decide +kernel, by decide +kernel⟩
theorem ok_Room___init__ (T : Txt K mg) : FnG P w K mg base 1 (He.ma K (He.ga K "Room") "__init__") T.fd_Room___init__ ["self", "rule"] (spOf K (cl K) 2 r_Room___init__) := by
  refine fn_ok (N := N_Room___init__) (d := d_Room___init__) T.f_Room___init__.F sc_Room___init__ rfl fun cdv A outer s H E hr => ?_
  have tk := takes_of (X := cxOf (L2.CX P w) P w K mg base N_Room___init__ "Room.__init__" (defScope st_Room___init__) (He.ma K (He.ga K "Room") "__init__") cdv A outer s H E) (E := E) rfl rfl rfl rfl
  exact (ss_cons (ss_put (c := 0) T.k_Room T.n_Room_own_rule (sv 0) (sv 1))
    (ss_cons (ss_put (c := 0) T.k_Room T.n_Room_line_now (sv 0) (se_tup sa_nil))
    (ss_cons (ss_put (c := 0) T.k_Room T.n_Room_came_so_far (sv 0) se_int)
    (ss_one (ss_put (c := 0) T.k_Room T.n_Room_served_so_far (sv 0) (se_lstM sa_nil))))))
theorem sc_Room_put_in : FnScope N_Room_put_in ["self", "spot"] (defScope st_Room_put_in) := ⟨rfl, rfl, rfl, by decide +kernel, rfl, by decide +kernel, by decide +kernel⟩
theorem ok_Room_put_in (T : Txt K mg) : FnG P w K mg base 3 (He.ma K (He.ga K "Room") "put_in") T.fd_Room_put_in ["self", "spot"] (spOf K (cl K) 2 r_Room_put_in) := by
  refine fn_ok (N := N_Room_put_in) (d := d_Room_put_in) T.f_Room_put_in.F sc_Room_put_in rfl fun cdv A outer s H E hr => ?_
  have tk := takes_of (X := cxOf (L2.CX P w) P w K mg base N_Room_put_in "Room.put_in" (defScope st_Room_put_in) (He.ma K (He.ga K "Room") "put_in") cdv A outer s H E) (E := E) rfl rfl rfl rfl
  exact (ss_cons (ss_set (i := 2) sc_Room_put_in.nd rfl (by first | exact Or.inl rfl | exact Or.inr rfl) (se_tup (sa_cons (se_fld (c := 0) T.k_Room T.n_Room_came_so_far (sv 0)) (sa_cons (se_g T.c_HERE) (sa_cons (se_tup sa_nil) sa_nil)))))
    (ss_cons (ss_put (c := 0) T.k_Room T.n_Room_line_now (sv 0) (se_call (ok_renewed T) (hr.mono (by decide)) T.f_renewed.g T.f_renewed.F.kp T.f_renewed.b tk (sa_cons (se_fld (c := 0) T.k_Room T.n_Room_own_rule (sv 0)) (sa_cons (se_tup (sa_star (se_sl (se_fld (c := 0) T.k_Room T.n_Room_line_now (sv 0)) so_none (so_some (sv 1))) (sa_cons (sv 2) (sa_star (se_sl (se_fld (c := 0) T.k_Room T.n_Room_line_now (sv 0)) (so_some (sv 1)) so_none) sa_nil)))) (sa_cons (se_lst (sa_cons (sv 1) sa_nil)) sa_nil)))))
    (ss_one (ss_putA (c := 0) T.k_Room T.n_Room_came_so_far (sv 0) se_int iop_add w_addI))))
theorem sc_Room_open_door : FnScope N_Room_open_door ["self"] (defScope st_Room_open_door) := ⟨rfl, rfl, rfl, by decide +kernel, rfl, by decide +kernel, by decide +kernel⟩
theorem ok_Room_open_door (T : Txt K mg) : FnG P w K mg base 4 (He.ma K (He.ga K "Room") "open_door") T.fd_Room_open_door ["self"] (spOf K (cl K) 1 r_Room_open_door) := by
  refine fn_ok (N := N_Room_open_door) (d := d_Room_open_door) T.f_Room_open_door.F sc_Room_open_door rfl fun cdv A outer s H E hr => ?_
  have tk := takes_of (X := cxOf (L2.CX P w) P w K mg base N_Room_open_door "Room.open_door" (defScope st_Room_open_door) (He.ma K (He.ga K "Room") "open_door") cdv A outer s H E) (E := E) rfl rfl rfl rfl
  exact (ss_cons (ss_put (c := 0) T.k_Room T.n_Room_line_now (sv 0) (se_call (ok_asked_again T) (hr.mono (by decide)) T.f_asked_again.g T.f_asked_again.F.kp T.f_asked_again.b tk (sa_cons (se_fld (c := 0) T.k_Room T.n_Room_own_rule (sv 0)) (sa_cons (se_fld (c := 0) T.k_Room T.n_Room_line_now (sv 0)) sa_nil))))
    (ss_cons (ss_set (i := 1) sc_Room_open_door.nd rfl (by first | exact Or.inl rfl | exact Or.inr rfl) (se_call (ok_claiming T) (hr.mono (by decide)) T.f_claiming.g T.f_claiming.F.kp T.f_claiming.b tk (sa_cons (se_fld (c := 0) T.k_Room T.n_Room_own_rule (sv 0)) (sa_cons (se_fld (c := 0) T.k_Room T.n_Room_line_now (sv 0)) sa_nil))))
    (ss_one (ss_if (st_cmp (op_eqD hr.units) w_eq (se_cb c_len w_len T.m_len boot_len (sa_cons (sv 1) sa_nil)) se_int rfl) (ss_cons (ss_expr (se_app (se_fld (c := 0) T.k_Room T.n_Room_served_so_far (sv 0)) (se_ix ix_seq w_ix (sv 1) se_int)))
    (ss_one (ss_put (c := 0) T.k_Room T.n_Room_line_now (sv 0) (se_call (ok_without T) (hr.mono (by decide)) T.f_without.g T.f_without.F.kp T.f_without.b tk (sa_cons (se_fld (c := 0) T.k_Room T.n_Room_own_rule (sv 0)) (sa_cons (se_fld (c := 0) T.k_Room T.n_Room_line_now (sv 0)) (sa_cons (se_ix ix_seq w_ix (sv 1) se_int) sa_nil))))))) ss_nil))))
theorem sc_Room_renew_from : FnScope N_Room_renew_from ["self", "spot"] (defScope st_Room_renew_from) := ⟨rfl, rfl, rfl, by decide +kernel, rfl, by decide +kernel, by decide +kernel⟩
theorem ok_Room_renew_from (T : Txt K mg) : FnG P w K mg base 3 (He.ma K (He.ga K "Room") "renew_from") T.fd_Room_renew_from ["self", "spot"] (spOf K (cl K) 2 r_Room_renew_from) := by
  refine fn_ok (N := N_Room_renew_from) (d := d_Room_renew_from) T.f_Room_renew_from.F sc_Room_renew_from rfl fun cdv A outer s H E hr => ?_
  have tk := takes_of (X := cxOf (L2.CX P w) P w K mg base N_Room_renew_from "Room.renew_from" (defScope st_Room_renew_from) (He.ma K (He.ga K "Room") "renew_from") cdv A outer s H E) (E := E) rfl rfl rfl rfl
  exact (ss_one (ss_put (c := 0) T.k_Room T.n_Room_line_now (sv 0) (se_call (ok_renewed T) (hr.mono (by decide)) T.f_renewed.g T.f_renewed.F.kp T.f_renewed.b tk (sa_cons (se_fld (c := 0) T.k_Room T.n_Room_own_rule (sv 0)) (sa_cons (se_fld (c := 0) T.k_Room T.n_Room_line_now (sv 0)) (sa_cons (se_fz (sn_lrg2 rfl T.m_list T.m_range (sv 1) (se_cb c_len w_len T.m_len boot_len (sa_cons (se_fld (c := 0) T.k_Room T.n_Room_line_now (sv 0)) sa_nil)))) sa_nil))))))
theorem sc_Room_bring_back : FnScope N_Room_bring_back ["self", "spot"] (defScope st_Room_bring_back) := ⟨rfl, rfl, rfl, by decide +kernel, rfl, by decide +kernel, by decide +kernel⟩
theorem ok_Room_bring_back (T : Txt K mg) : FnG P w K mg base 4 (He.ma K (He.ga K "Room") "bring_back") T.fd_Room_bring_back ["self", "spot"] (spOf K (cl K) 2 r_Room_bring_back) := by
  refine fn_ok (N := N_Room_bring_back) (d := d_Room_bring_back) T.f_Room_bring_back.F sc_Room_bring_back rfl fun cdv A outer s H E hr => ?_
  have tk := takes_of (X := cxOf (L2.CX P w) P w K mg base N_Room_bring_back "Room.bring_back" (defScope st_Room_bring_back) (He.ma K (He.ga K "Room") "bring_back") cdv A outer s H E) (E := E) rfl rfl rfl rfl
  exact (ss_cons (ss_set (i := 2) sc_Room_bring_back.nd rfl (by first | exact Or.inl rfl | exact Or.inr rfl) (se_ix ix_seq w_ix (se_ix ix_seq w_ix (se_fld (c := 0) T.k_Room T.n_Room_line_now (sv 0)) (sv 1)) se_int))
    (ss_cons (ss_if (PW.pt (sw_and (st_cmp (op_eqD hr.units) w_eq (se_ix ix_seq w_ix (se_fld (c := 0) T.k_Room T.n_Room_own_rule (sv 0)) se_int) (se_g T.c_ASKS) rfl) (sw_and1 (st_cmp (op_eqD hr.units) w_eq (sv 2) (se_g T.c_LOST) rfl)))) (ss_cons (ss_put (c := 0) T.k_Room T.n_Room_line_now (sv 0) (se_tup (sa_star (se_sl (se_fld (c := 0) T.k_Room T.n_Room_line_now (sv 0)) so_none (so_some (sv 1))) (sa_star (se_sl (se_fld (c := 0) T.k_Room T.n_Room_line_now (sv 0)) (so_some (se_op o_add w_add (sv 1) se_int)) so_none) sa_nil))))
    (ss_cons (ss_expr (se_meth (c := 0) (ok_Room_put_in T) (hr.mono (by decide)) T.k_Room T.mt_Room_put_in T.f_Room_put_in.b tk (sv 0) (sa_cons (se_cb c_len w_len T.m_len boot_len (sa_cons (se_fld (c := 0) T.k_Room T.n_Room_line_now (sv 0)) sa_nil)) sa_nil)))
    (ss_one ss_retN))) ss_nil)
    (ss_cons (ss_put (c := 0) T.k_Room T.n_Room_line_now (sv 0) (se_call (ok_as_how T) (hr.mono (by decide)) T.f_as_how.g T.f_as_how.F.kp T.f_as_how.b tk (sa_cons (se_fld (c := 0) T.k_Room T.n_Room_line_now (sv 0)) (sa_cons (sv 1) (sa_cons (se_g T.c_HERE) sa_nil)))))
    (ss_one (ss_if (st_cmp (op_eqD hr.units) w_eq (se_ix ix_seq w_ix (se_fld (c := 0) T.k_Room T.n_Room_own_rule (sv 0)) se_int) (se_g T.c_TELLS) rfl) (ss_one (ss_expr (se_meth (c := 0) (ok_Room_renew_from T) (hr.mono (by decide)) T.k_Room T.mt_Room_renew_from T.f_Room_renew_from.b tk (sv 0) (sa_cons (sv 1) sa_nil)))) (ss_one (ss_if (st_cmp (op_neD hr.units) w_ne (se_ix ix_seq w_ix (se_fld (c := 0) T.k_Room T.n_Room_own_rule (sv 0)) se_int) (se_g T.c_OLD) rfl) (ss_one (ss_put (c := 0) T.k_Room T.n_Room_line_now (sv 0) (se_call (ok_renewed T) (hr.mono (by decide)) T.f_renewed.g T.f_renewed.F.kp T.f_renewed.b tk (sa_cons (se_fld (c := 0) T.k_Room T.n_Room_own_rule (sv 0)) (sa_cons (se_fld (c := 0) T.k_Room T.n_Room_line_now (sv 0)) (sa_cons (se_lst (sa_cons (sv 1) sa_nil)) sa_nil)))))) ss_nil)))))))
theorem sc_Room_do_personal : FnScope N_Room_do_personal ["self", "word", "person"] (defScope st_Room_do_personal) := ⟨rfl, rfl, rfl, by decide +kernel, rfl, by decide +kernel, by decide +kernel⟩
theorem ok_Room_do_personal (T : Txt K mg) : FnG P w K mg base 5 (He.ma K (He.ga K "Room") "do_personal") T.fd_Room_do_personal ["self", "word", "person"] (spOf K (cl K) 3 r_Room_do_personal) := by
  refine fn_ok (N := N_Room_do_personal) (d := d_Room_do_personal) T.f_Room_do_personal.F sc_Room_do_personal rfl fun cdv A outer s H E hr => ?_
  have tk := takes_of (X := cxOf (L2.CX P w) P w K mg base N_Room_do_personal "Room.do_personal" (defScope st_Room_do_personal) (He.ma K (He.ga K "Room") "do_personal") cdv A outer s H E) (E := E) rfl rfl rfl rfl
  exact (ss_cons (ss_set (i := 3) sc_Room_do_personal.nd rfl (by first | exact Or.inl rfl | exact Or.inr rfl) (se_call (ok_spot_of T) (hr.mono (by decide)) T.f_spot_of.g T.f_spot_of.F.kp T.f_spot_of.b tk (sa_cons (se_fld (c := 0) T.k_Room T.n_Room_line_now (sv 0)) (sa_cons (sv 2) sa_nil))))
    (ss_one (ss_if (st_cmp (op_eqD hr.units) w_eq (sv 1) (se_g T.c_LET) rfl) (ss_cons (ss_expr (se_meth (c := 0) (ok_Room_put_in T) (hr.mono (by decide)) T.k_Room T.mt_Room_put_in T.f_Room_put_in.b tk (sv 0) (sa_cons (se_op o_add w_add (sv 3) se_int) sa_nil)))
    (ss_one (ss_if (st_cmp (op_eqD hr.units) w_eq (se_ix ix_seq w_ix (se_fld (c := 0) T.k_Room T.n_Room_own_rule (sv 0)) se_int) (se_g T.c_TOLD) rfl) (ss_one (ss_expr (se_meth (c := 0) (ok_Room_renew_from T) (hr.mono (by decide)) T.k_Room T.mt_Room_renew_from T.f_Room_renew_from.b tk (sv 0) (sa_cons (se_op o_add w_add (sv 3) se_int) sa_nil)))) ss_nil))) (ss_one (ss_if (st_cmp (op_eqD hr.units) w_eq (sv 1) (se_g T.c_LEAVE) rfl) (ss_one (ss_put (c := 0) T.k_Room T.n_Room_line_now (sv 0) (se_call (ok_without T) (hr.mono (by decide)) T.f_without.g T.f_without.F.kp T.f_without.b tk (sa_cons (se_fld (c := 0) T.k_Room T.n_Room_own_rule (sv 0)) (sa_cons (se_fld (c := 0) T.k_Room T.n_Room_line_now (sv 0)) (sa_cons (sv 2) sa_nil)))))) (ss_one (ss_if (st_cmp (op_eqD hr.units) w_eq (sv 1) (se_g T.c_BACK) rfl) (ss_one (ss_expr (se_meth (c := 0) (ok_Room_bring_back T) (hr.mono (by decide)) T.k_Room T.mt_Room_bring_back T.f_Room_bring_back.b tk (sv 0) (sa_cons (sv 3) sa_nil)))) (ss_one (ss_put (c := 0) T.k_Room T.n_Room_line_now (sv 0) (se_call (ok_as_how T) (hr.mono (by decide)) T.f_as_how.g T.f_as_how.F.kp T.f_as_how.b tk (sa_cons (se_fld (c := 0) T.k_Room T.n_Room_line_now (sv 0)) (sa_cons (sv 3) (sa_cons (se_if (st_cmp (op_eqD hr.units) w_eq (sv 1) (se_g T.c_OUT) rfl) (se_g T.c_OUT) (se_g T.c_AWAY)) sa_nil)))))))))))))
theorem sc_Room_do : FnScope N_Room_do ["self", "event"] (defScope st_Room_do) := ⟨rfl, rfl, rfl, by decide +kernel, rfl, by decide +kernel, by decide +kernel⟩
theorem ok_Room_do (T : Txt K mg) : FnG P w K mg base 6 (He.ma K (He.ga K "Room") "do") T.fd_Room_do ["self", "event"] (spOf K (cl K) 2 r_Room_do) := by
  refine fn_ok (N := N_Room_do) (d := d_Room_do) T.f_Room_do.F sc_Room_do rfl fun cdv A outer s H E hr => ?_
  have tk := takes_of (X := cxOf (L2.CX P w) P w K mg base N_Room_do "Room.do" (defScope st_Room_do) (He.ma K (He.ga K "Room") "do") cdv A outer s H E) (E := E) rfl rfl rfl rfl
  exact (ss_cons (ss_if (st_cmp (op_eqD hr.units) w_eq (se_ix ix_seq w_ix (sv 1) se_int) (se_g T.c_COME) rfl) (ss_one (ss_expr (se_meth (c := 0) (ok_Room_put_in T) (hr.mono (by decide)) T.k_Room T.mt_Room_put_in T.f_Room_put_in.b tk (sv 0) (sa_cons (se_cb c_len w_len T.m_len boot_len (sa_cons (se_fld (c := 0) T.k_Room T.n_Room_line_now (sv 0)) sa_nil)) sa_nil)))) (ss_one (ss_if (st_cmp (op_eqD hr.units) w_eq (se_ix ix_seq w_ix (sv 1) se_int) (se_g T.c_DOOR) rfl) (ss_one (ss_expr (se_meth0 (c := 0) (ok_Room_open_door T) (hr.mono (by decide)) T.k_Room T.mt_Room_open_door T.f_Room_open_door.b tk (sv 0)))) (ss_one (ss_expr (se_meth (c := 0) (ok_Room_do_personal T) (hr.mono (by decide)) T.k_Room T.mt_Room_do_personal T.f_Room_do_personal.b tk (sv 0) (sa_cons (se_ix ix_seq w_ix (sv 1) se_int) (sa_cons (se_ix ix_seq w_ix (sv 1) se_int) sa_nil))))))))
    (ss_one (ss_put (c := 0) T.k_Room T.n_Room_line_now (sv 0) (se_call (ok_forgetting T) (hr.mono (by decide)) T.f_forgetting.g T.f_forgetting.F.kp T.f_forgetting.b tk (sa_cons (se_fld (c := 0) T.k_Room T.n_Room_line_now (sv 0)) sa_nil)))))
theorem sc_Room_how_is : FnScope N_Room_how_is ["self", "person"] (defScope st_Room_how_is) := ⟨rfl, rfl, rfl, by decide +kernel, rfl, by decide +kernel, by decide +kernel⟩
theorem ok_Room_how_is (T : Txt K mg) : FnG P w K mg base 1 (He.ma K (He.ga K "Room") "how_is") T.fd_Room_how_is ["self", "person"] (spOf K (cl K) 2 r_Room_how_is) := by
  refine fn_ok (N := N_Room_how_is) (d := d_Room_how_is) T.f_Room_how_is.F sc_Room_how_is rfl fun cdv A outer s H E hr => ?_
  have tk := takes_of (X := cxOf (L2.CX P w) P w K mg base N_Room_how_is "Room.how_is" (defScope st_Room_how_is) (He.ma K (He.ga K "Room") "how_is") cdv A outer s H E) (E := E) rfl rfl rfl rfl
  exact (ss_cons (ss_setLc (i := 2) (own := [("one", 3), ("how", 4), ("names", 5)]) rfl sc_Room_how_is.nd rfl rfl (sw_true rfl rfl rfl (by decide +kernel)) (si_seq (se_fld (c := 0) T.k_Room T.n_Room_line_now (sv 0))) (blkOk_by (N := N_Room_how_is) (sc := defScope st_Room_how_is) (by decide +kernel)) (by decide) (fun _ _ _ _ _ => (sg_tup rfl (sgs_cons (sg_name (pg_name (i := 3) sc_Room_how_is.nd rfl (by first | exact Or.inl rfl | exact Or.inr rfl))) (sgs_cons (sg_name (pg_name (i := 4) sc_Room_how_is.nd rfl (by first | exact Or.inl rfl | exact Or.inr rfl))) (sgs_cons (sg_name (pg_name (i := 5) sc_Room_how_is.nd rfl (by first | exact Or.inl rfl | exact Or.inr rfl))) sgs_nil))) (gsCons_len (gsCons_len (gsCons_len gsNil_len))))) (fun _ _ _ _ _ => (stc_one (st_cmp (op_eqD hr.units) w_eq (sv 3) (sv 1) rfl))) (fun _ _ _ _ _ => (sv 4)))
    (ss_one (ss_ret (se_if (st_cmp (op_neD hr.units) w_ne (sv 2) (se_lst sa_nil) rfl) (se_ix ix_seq w_ix (sv 2) se_int) se_non))))
theorem sc_Room_are_here : FnScope N_Room_are_here ["self"] (defScope st_Room_are_here) := ⟨rfl, rfl, rfl, by decide +kernel, rfl, by decide +kernel, by decide +kernel⟩
theorem ok_Room_are_here (T : Txt K mg) : FnG P w K mg base 1 (He.ma K (He.ga K "Room") "are_here") T.fd_Room_are_here ["self"] (spOf K (cl K) 1 r_Room_are_here) := by
  refine fn_ok (N := N_Room_are_here) (d := d_Room_are_here) T.f_Room_are_here.F sc_Room_are_here rfl fun cdv A outer s H E hr => ?_
  have tk := takes_of (X := cxOf (L2.CX P w) P w K mg base N_Room_are_here "Room.are_here" (defScope st_Room_are_here) (He.ma K (He.ga K "Room") "are_here") cdv A outer s H E) (E := E) rfl rfl rfl rfl
  exact (ss_one (ss_ret (se_fz (se_lc (own := [("person", 1), ("how", 2), ("names", 3)]) rfl sc_Room_are_here.nd (si_seq (se_fld (c := 0) T.k_Room T.n_Room_line_now (sv 0))) (blkOk_by (N := N_Room_are_here) (sc := defScope st_Room_are_here) (by decide +kernel)) (by decide) (fun _ _ _ _ _ => (sg_tup rfl (sgs_cons (sg_name (pg_name (i := 1) sc_Room_are_here.nd rfl (by first | exact Or.inl rfl | exact Or.inr rfl))) (sgs_cons (sg_name (pg_name (i := 2) sc_Room_are_here.nd rfl (by first | exact Or.inl rfl | exact Or.inr rfl))) (sgs_cons (sg_name (pg_name (i := 3) sc_Room_are_here.nd rfl (by first | exact Or.inl rfl | exact Or.inr rfl))) sgs_nil))) (gsCons_len (gsCons_len (gsCons_len gsNil_len))))) (fun _ _ _ _ _ => (stc_one (st_cmp (op_eqD hr.units) w_eq (sv 2) (se_g T.c_HERE) rfl))) (fun _ _ _ _ _ => (sv 1))))))
theorem sc_Room_can_be : FnScope N_Room_can_be ["self", "event"] (defScope st_Room_can_be) := ⟨rfl, rfl, rfl, by decide +kernel, rfl, by decide +kernel, by decide +kernel⟩
theorem ok_Room_can_be (T : Txt K mg) : FnG P w K mg base 2 (He.ma K (He.ga K "Room") "can_be") T.fd_Room_can_be ["self", "event"] (spOf K (cl K) 2 r_Room_can_be) := by
  refine fn_ok (N := N_Room_can_be) (d := d_Room_can_be) T.f_Room_can_be.F sc_Room_can_be rfl fun cdv A outer s H E hr => ?_
  have tk := takes_of (X := cxOf (L2.CX P w) P w K mg base N_Room_can_be "Room.can_be" (defScope st_Room_can_be) (He.ma K (He.ga K "Room") "can_be") cdv A outer s H E) (E := E) rfl rfl rfl rfl
  exact (ss_cons (ss_set (i := 2) sc_Room_can_be.nd rfl (by first | exact Or.inl rfl | exact Or.inr rfl) (se_ix ix_seq w_ix (sv 1) se_int))
    (ss_cons (ss_if (st_cmp (op_eqD hr.units) w_eq (sv 2) (se_g T.c_COME) rfl) (ss_one (ss_ret (se_cmp op_lt w_lt (se_fld (c := 0) T.k_Room T.n_Room_came_so_far (sv 0)) (se_g T.c_MOST_PEOPLE) rfl))) ss_nil)
    (ss_cons (ss_if (st_cmp (op_eqD hr.units) w_eq (sv 2) (se_g T.c_DOOR) rfl) (ss_one (ss_ret (se_cmp (op_neD hr.units) w_ne (se_meth0 (c := 0) (ok_Room_are_here T) (hr.mono (by decide)) T.k_Room T.mt_Room_are_here T.f_Room_are_here.b tk (sv 0)) (se_lst sa_nil) rfl))) ss_nil)
    (ss_cons (ss_set (i := 3) sc_Room_can_be.nd rfl (by first | exact Or.inl rfl | exact Or.inr rfl) (se_meth (c := 0) (ok_Room_how_is T) (hr.mono (by decide)) T.k_Room T.mt_Room_how_is T.f_Room_how_is.b tk (sv 0) (sa_cons (se_ix ix_seq w_ix (sv 1) se_int) sa_nil)))
    (ss_cons (ss_if (st_cmp (op_eqD hr.units) w_eq (sv 2) (se_g T.c_BACK) rfl) (ss_cons (ss_set (i := 4) sc_Room_can_be.nd rfl (by first | exact Or.inl rfl | exact Or.inr rfl) (se_and (se_cmp (op_eqD hr.units) w_eq (sv 3) (se_g T.c_LOST) rfl) (se_one (se_cmp (op_eqD hr.units) w_eq (se_ix ix_seq w_ix (se_fld (c := 0) T.k_Room T.n_Room_own_rule (sv 0)) se_int) (se_g T.c_ASKS) rfl))))
    (ss_one (ss_ret (se_and (se_cmp (op_inA (hu65 hr)) w_in (sv 3) (se_tup (sa_cons (se_g T.c_OUT) (sa_cons (se_g T.c_LOST) sa_nil))) rfl) (se_one (se_or (se_not (sv 4)) (se_one (se_cmp op_lt w_lt (se_fld (c := 0) T.k_Room T.n_Room_came_so_far (sv 0)) (se_g T.c_MOST_PEOPLE) rfl)))))))) ss_nil)
    (ss_one (ss_ret (se_and (se_cmp (op_eqD hr.units) w_eq (sv 3) (se_g T.c_HERE) rfl) (se_one (se_or (se_cmp (op_neD hr.units) w_ne (sv 2) (se_g T.c_LET) rfl) (se_one (se_cmp op_lt w_lt (se_fld (c := 0) T.k_Room T.n_Room_came_so_far (sv 0)) (se_g T.c_MOST_PEOPLE) rfl))))))))))))
theorem sc_room_behind : FnScope N_room_behind ["rule", "events"] (defScope st_room_behind) := ⟨rfl, rfl, rfl, by decide +kernel, rfl, by decide +kernel, by decide +kernel⟩
theorem ok_room_behind (T : Txt K mg) : FnG P w K mg base 7 (He.ga K "room_behind") T.fd_room_behind ["rule", "events"] (spOf K (cl K) 2 r_room_behind) := by
  refine fn_ok (N := N_room_behind) (d := d_room_behind) T.f_room_behind.F sc_room_behind rfl fun cdv A outer s H E hr => ?_
  have tk := takes_of (X := cxOf (L2.CX P w) P w K mg base N_room_behind "room_behind" (defScope st_room_behind) (He.ga K "room_behind") cdv A outer s H E) (E := E) rfl rfl rfl rfl
  exact (ss_cons (ss_if (PW.pt (sw_or (st_not (st_val (se_isi .tup T.m_isinstance T.m_tuple (by decide +kernel) (sv 1)))) (sw_or1 (st_cmp op_gt w_gt (se_cb c_len w_len T.m_len boot_len (sa_cons (sv 1) sa_nil)) (se_g T.c_MOST_EVENTS) rfl)))) (ss_one ss_noraise) ss_nil)
    (ss_cons (ss_set (i := 2) sc_room_behind.nd rfl (by first | exact Or.inl rfl | exact Or.inr rfl) (se_make (c := 0) T.mk_Room (ok_Room___init__ T) (hr.mono (by decide)) T.g_Room T.f_Room___init__.b tk (sa_cons (sv 0) sa_nil)))
    (ss_cons (ss_for (passes_of rfl) rfl (si_enum T.m_enumerate (sv 1)) (sg_tup rfl (sgs_cons (sg_name (pg_name (i := 3) sc_room_behind.nd rfl (by first | exact Or.inl rfl | exact Or.inr rfl))) (sgs_cons (sg_name (pg_name (i := 4) sc_room_behind.nd rfl (by first | exact Or.inl rfl | exact Or.inr rfl))) sgs_nil)) (gsCons_len (gsCons_len gsNil_len))) (ss_cons (ss_if (PW.pt (sw_or (st_not (st_val (se_call (ok_has_form T) (hr.mono (by decide)) T.f_has_form.g T.f_has_form.F.kp T.f_has_form.b tk (sa_cons (sv 4) sa_nil)))) (sw_or1 (st_not (st_val (se_meth (c := 0) (ok_Room_can_be T) (hr.mono (by decide)) T.k_Room T.mt_Room_can_be T.f_Room_can_be.b tk (sv 2) (sa_cons (sv 4) sa_nil))))))) (ss_one ss_noraise) ss_nil)
    (ss_one (ss_expr (se_meth (c := 0) (ok_Room_do T) (hr.mono (by decide)) T.k_Room T.mt_Room_do T.f_Room_do.b tk (sv 2) (sa_cons (sv 4) sa_nil))))))
    (ss_one (ss_ret (sv 2))))))
theorem sc_need_room : FnScope N_need_room ["rule", "events"] (defScope st_need_room) := ⟨rfl, rfl, rfl, by decide +kernel, rfl, by decide +kernel, by decide +kernel⟩
theorem ok_need_room (T : Txt K mg) : FnG P w K mg base 8 (He.ga K "need_room") T.fd_need_room ["rule", "events"] (spOf K (cl K) 2 r_need_room) := by
  refine fn_ok (N := N_need_room) (d := d_need_room) T.f_need_room.F sc_need_room rfl fun cdv A outer s H E hr => ?_
  have tk := takes_of (X := cxOf (L2.CX P w) P w K mg base N_need_room "need_room" (defScope st_need_room) (He.ga K "need_room") cdv A outer s H E) (E := E) rfl rfl rfl rfl
  exact (ss_one (ss_ret (se_call (ok_room_behind T) (hr.mono (by decide)) T.f_room_behind.g T.f_room_behind.F.kp T.f_room_behind.b tk (sa_cons (se_call (ok_need_rule T) (hr.mono (by decide)) T.f_need_rule.g T.f_need_rule.F.kp T.f_need_rule.b tk (sa_cons (sv 0) sa_nil)) (sa_cons (sv 1) sa_nil)))))
theorem sc_standing_behind : FnScope N_standing_behind ["rule", "events"] (defScope st_standing_behind) := ⟨rfl, rfl, rfl, by decide +kernel, rfl, by decide +kernel, by decide +kernel⟩
theorem ok_standing_behind (T : Txt K mg) : FnG P w K mg base 9 (He.ga K "standing_behind") T.fd_standing_behind ["rule", "events"] (spOf K (cl K) 2 r_standing_behind) := by
  refine fn_pw (fn_ok (N := N_standing_behind) (d := d_standing_behind) T.f_standing_behind.F sc_standing_behind rfl fun cdv A outer s H E hr => ?_)
  have tk := takes_of (X := cxOf (L2.CX P w) P w K mg base N_standing_behind "standing_behind" (defScope st_standing_behind) (He.ga K "standing_behind") cdv A outer s H E) (E := E) rfl rfl rfl rfl
  exact (ss_one (ss_ret (se_fld (c := 0) T.k_Room T.n_Room_line_now (se_call (ok_need_room T) (hr.mono (by decide)) T.f_need_room.g T.f_need_room.F.kp T.f_need_room.b tk (sa_cons (sv 0) (sa_cons (sv 1) sa_nil))))))
theorem sc_line_behind : FnScope N_line_behind ["rule", "events"] (defScope st_line_behind) := ⟨rfl, rfl, rfl, by decide +kernel, rfl, by decide +kernel, by decide +kernel⟩
theorem ok_line_behind (T : Txt K mg) : FnG P w K mg base 9 (He.ga K "line_behind") T.fd_line_behind ["rule", "events"] (spOf K (cl K) 2 r_line_behind) := by
  refine fn_pw (fn_ok (N := N_line_behind) (d := d_line_behind) T.f_line_behind.F sc_line_behind rfl fun cdv A outer s H E hr => ?_)
  have tk := takes_of (X := cxOf (L2.CX P w) P w K mg base N_line_behind "line_behind" (defScope st_line_behind) (He.ga K "line_behind") cdv A outer s H E) (E := E) rfl rfl rfl rfl
  exact (ss_one (ss_ret (se_ct call_tuple_of w_tuple T.m_tuple (by decide +kernel) (sa_cons (se_fz (se_lc (own := [("person", 2), ("how", 3), ("names", 4)]) rfl sc_line_behind.nd (si_seq (se_fld (c := 0) T.k_Room T.n_Room_line_now (se_call (ok_need_room T) (hr.mono (by decide)) T.f_need_room.g T.f_need_room.F.kp T.f_need_room.b tk (sa_cons (sv 0) (sa_cons (sv 1) sa_nil))))) (blkOk_by (N := N_line_behind) (sc := defScope st_line_behind) (by decide +kernel)) (by decide) (fun _ _ _ _ _ => (sg_tup rfl (sgs_cons (sg_name (pg_name (i := 2) sc_line_behind.nd rfl (by first | exact Or.inl rfl | exact Or.inr rfl))) (sgs_cons (sg_name (pg_name (i := 3) sc_line_behind.nd rfl (by first | exact Or.inl rfl | exact Or.inr rfl))) (sgs_cons (sg_name (pg_name (i := 4) sc_line_behind.nd rfl (by first | exact Or.inl rfl | exact Or.inr rfl))) sgs_nil))) (gsCons_len (gsCons_len (gsCons_len gsNil_len))))) (fun _ _ _ _ _ => stc_nil) (fun _ _ _ _ _ => (sv 2)))) sa_nil))))
theorem sc_here_behind : FnScope N_here_behind ["rule", "events"] (defScope st_here_behind) := ⟨rfl, rfl, rfl, by decide +kernel, rfl, by decide +kernel, by decide +kernel⟩
theorem ok_here_behind (T : Txt K mg) : FnG P w K mg base 9 (He.ga K "here_behind") T.fd_here_behind ["rule", "events"] (spOf K (cl K) 2 r_here_behind) := by
  refine fn_pw (fn_ok (N := N_here_behind) (d := d_here_behind) T.f_here_behind.F sc_here_behind rfl fun cdv A outer s H E hr => ?_)
  have tk := takes_of (X := cxOf (L2.CX P w) P w K mg base N_here_behind "here_behind" (defScope st_here_behind) (He.ga K "here_behind") cdv A outer s H E) (E := E) rfl rfl rfl rfl
  exact (ss_one (ss_ret (se_ct call_tuple_of w_tuple T.m_tuple (by decide +kernel) (sa_cons (se_meth0 (c := 0) (ok_Room_are_here T) (hr.mono (by decide)) T.k_Room T.mt_Room_are_here T.f_Room_are_here.b tk (se_call (ok_need_room T) (hr.mono (by decide)) T.f_need_room.g T.f_need_room.F.kp T.f_need_room.b tk (sa_cons (sv 0) (sa_cons (sv 1) sa_nil)))) sa_nil))))
theorem sc_names_behind : FnScope N_names_behind ["rule", "events", "person"] (defScope st_names_behind) := ⟨rfl, rfl, rfl, by decide +kernel, rfl, by decide +kernel, by decide +kernel⟩
theorem ok_names_behind (T : Txt K mg) : FnG P w K mg base 9 (He.ga K "names_behind") T.fd_names_behind ["rule", "events", "person"] (spOf K (cl K) 3 r_names_behind) := by
  refine fn_pw (fn_ok (N := N_names_behind) (d := d_names_behind) T.f_names_behind.F sc_names_behind rfl fun cdv A outer s H E hr => ?_)
  have tk := takes_of (X := cxOf (L2.CX P w) P w K mg base N_names_behind "names_behind" (defScope st_names_behind) (He.ga K "names_behind") cdv A outer s H E) (E := E) rfl rfl rfl rfl
  exact (ss_cons (ss_set (i := 3) sc_names_behind.nd rfl (by first | exact Or.inl rfl | exact Or.inr rfl) (se_call (ok_need_room T) (hr.mono (by decide)) T.f_need_room.g T.f_need_room.F.kp T.f_need_room.b tk (sa_cons (sv 0) (sa_cons (sv 1) sa_nil))))
    (ss_cons (ss_if (PW.pt (sw_or (st_not (st_val (se_call (ok_is_integer T) (hr.mono (by decide)) T.f_is_integer.g T.f_is_integer.F.kp T.f_is_integer.b tk (sa_cons (sv 2) sa_nil)))) (sw_or1 (st_cmp op_isN w_isNon (se_meth (c := 0) (ok_Room_how_is T) (hr.mono (by decide)) T.k_Room T.mt_Room_how_is T.f_Room_how_is.b tk (sv 3) (sa_cons (sv 2) sa_nil)) se_non rfl)))) (ss_one ss_noraise) ss_nil)
    (ss_one (ss_ret (se_ix ix_seq w_ix (se_ix ix_seq w_ix (se_fld (c := 0) T.k_Room T.n_Room_line_now (sv 3)) (se_call (ok_spot_of T) (hr.mono (by decide)) T.f_spot_of.g T.f_spot_of.F.kp T.f_spot_of.b tk (sa_cons (se_fld (c := 0) T.k_Room T.n_Room_line_now (sv 3)) (sa_cons (sv 2) sa_nil)))) se_int)))))
theorem sc_stale_behind : FnScope N_stale_behind ["rule", "events", "person"] (defScope st_stale_behind) := ⟨rfl, rfl, rfl, by decide +kernel, rfl, by decide +kernel, by decide +kernel⟩
theorem ok_stale_behind (T : Txt K mg) : FnG P w K mg base 10 (He.ga K "stale_behind") T.fd_stale_behind ["rule", "events", "person"] (spOf K (cl K) 3 r_stale_behind) := by
  refine fn_pw (fn_ok (N := N_stale_behind) (d := d_stale_behind) T.f_stale_behind.F sc_stale_behind rfl fun cdv A outer s H E hr => ?_)
  have tk := takes_of (X := cxOf (L2.CX P w) P w K mg base N_stale_behind "stale_behind" (defScope st_stale_behind) (He.ga K "stale_behind") cdv A outer s H E) (E := E) rfl rfl rfl rfl
  exact (ss_cons (ss_set (i := 3) sc_stale_behind.nd rfl (by first | exact Or.inl rfl | exact Or.inr rfl) (se_call (ok_names_behind T) (hr.mono (by decide)) T.f_names_behind.g T.f_names_behind.F.kp T.f_names_behind.b tk (sa_cons (sv 0) (sa_cons (sv 1) (sa_cons (sv 2) sa_nil)))))
    (ss_cons (ss_set (i := 4) sc_stale_behind.nd rfl (by first | exact Or.inl rfl | exact Or.inr rfl) (se_call (ok_line_behind T) (hr.mono (by decide)) T.f_line_behind.g T.f_line_behind.F.kp T.f_line_behind.b tk (sa_cons (sv 0) (sa_cons (sv 1) sa_nil))))
    (ss_one (ss_ret (se_ct call_tuple_of w_tuple T.m_tuple (by decide +kernel) (sa_cons (se_fz (se_lc (own := [("name", 5)]) rfl sc_stale_behind.nd (si_seq (sv 3)) (blkOk_by (N := N_stale_behind) (sc := defScope st_stale_behind) (by decide +kernel)) (by decide) (fun _ _ _ _ _ => (sg_name (pg_name (i := 5) sc_stale_behind.nd rfl (by first | exact Or.inl rfl | exact Or.inr rfl)))) (fun _ _ _ _ _ => (stc_one (st_cmp (op_notInA (hu65 hr)) w_in (sv 5) (sv 4) rfl))) (fun _ _ _ _ _ => (sv 5)))) sa_nil))))))
theorem sc_gaps_in : FnScope N_gaps_in ["line"] (defScope st_gaps_in) := ⟨rfl, rfl, rfl, by decide +kernel, rfl, by decide +kernel, by decide +kernel⟩
theorem ok_gaps_in (T : Txt K mg) : FnG P w K mg base 1 (He.ga K "gaps_in") T.fd_gaps_in ["line"] (spOf K (cl K) 1 r_gaps_in) := by
  refine fn_pw (fn_ok (N := N_gaps_in) (d := d_gaps_in) T.f_gaps_in.F sc_gaps_in rfl fun cdv A outer s H E hr => ?_)
  have tk := takes_of (X := cxOf (L2.CX P w) P w K mg base N_gaps_in "gaps_in" (defScope st_gaps_in) (He.ga K "gaps_in") cdv A outer s H E) (E := E) rfl rfl rfl rfl
  exact (ss_cons (ss_par (i := 1) (j := 2) rfl sc_gaps_in.nd rfl rfl (by decide) rfl rfl (sa_cons (se_lstM sa_nil) (sa_cons se_int sa_nil)) rfl)
    (ss_cons (ss_for (passes_of rfl) rfl (si_seq (sv 0)) (sg_tup rfl (sgs_cons (sg_name (pg_name (i := 3) sc_gaps_in.nd rfl (by first | exact Or.inl rfl | exact Or.inr rfl))) (sgs_cons (sg_name (pg_name (i := 4) sc_gaps_in.nd rfl (by first | exact Or.inl rfl | exact Or.inr rfl))) (sgs_cons (sg_name (pg_name (i := 5) sc_gaps_in.nd rfl (by first | exact Or.inl rfl | exact Or.inr rfl))) sgs_nil))) (gsCons_len (gsCons_len (gsCons_len gsNil_len)))) (ss_one (ss_if (st_cmp (op_eqD hr.units) w_eq (sv 4) (se_g T.c_HERE) rfl) (ss_cons (ss_expr (se_app (sv 1) (se_tup (sa_cons (sv 3) (sa_cons (sv 2) sa_nil)))))
    (ss_one (ss_set (i := 2) sc_gaps_in.nd rfl (by first | exact Or.inl rfl | exact Or.inr rfl) se_int))) (ss_one (ss_if (st_cmp (op_neD hr.units) w_ne (sv 4) (se_g T.c_LOST) rfl) (ss_one (ss_aug sc_gaps_in.nd (i := 2) rfl (by first | exact Or.inl rfl | exact Or.inr rfl) se_int iop_add w_addI)) ss_nil)))))
    (ss_one (ss_ret (sv 1)))))
theorem sc_gaps_behind : FnScope N_gaps_behind ["rule", "events"] (defScope st_gaps_behind) := ⟨rfl, rfl, rfl, by decide +kernel, rfl, by decide +kernel, by decide +kernel⟩
theorem ok_gaps_behind (T : Txt K mg) : FnG P w K mg base 9 (He.ga K "gaps_behind") T.fd_gaps_behind ["rule", "events"] (spOf K (cl K) 2 r_gaps_behind) := by
  refine fn_pw (fn_ok (N := N_gaps_behind) (d := d_gaps_behind) T.f_gaps_behind.F sc_gaps_behind rfl fun cdv A outer s H E hr => ?_)
  have tk := takes_of (X := cxOf (L2.CX P w) P w K mg base N_gaps_behind "gaps_behind" (defScope st_gaps_behind) (He.ga K "gaps_behind") cdv A outer s H E) (E := E) rfl rfl rfl rfl
  exact (ss_one (ss_ret (se_ct call_tuple_of w_tuple T.m_tuple (by decide +kernel) (sa_cons (se_call (ok_gaps_in T) (hr.mono (by decide)) T.f_gaps_in.g T.f_gaps_in.F.kp T.f_gaps_in.b tk (sa_cons (se_fld (c := 0) T.k_Room T.n_Room_line_now (se_call (ok_need_room T) (hr.mono (by decide)) T.f_need_room.g T.f_need_room.F.kp T.f_need_room.b tk (sa_cons (sv 0) (sa_cons (sv 1) sa_nil)))) sa_nil)) sa_nil))))
theorem sc_claims_in : FnScope N_claims_in ["room"] (defScope st_claims_in) := ⟨rfl, rfl, rfl, by decide +kernel, rfl, by decide +kernel, by decide +kernel⟩
theorem ok_claims_in (T : Txt K mg) : FnG P w K mg base 4 (He.ga K "claims_in") T.fd_claims_in ["room"] (spOf K (cl K) 1 r_claims_in) := by
  refine fn_ok (N := N_claims_in) (d := d_claims_in) T.f_claims_in.F sc_claims_in rfl fun cdv A outer s H E hr => ?_
  have tk := takes_of (X := cxOf (L2.CX P w) P w K mg base N_claims_in "claims_in" (defScope st_claims_in) (He.ga K "claims_in") cdv A outer s H E) (E := E) rfl rfl rfl rfl
  exact (ss_one (ss_ret (se_call (ok_claiming T) (hr.mono (by decide)) T.f_claiming.g T.f_claiming.F.kp T.f_claiming.b tk (sa_cons (se_fld (c := 0) T.k_Room T.n_Room_own_rule (sv 0)) (sa_cons (se_call (ok_asked_again T) (hr.mono (by decide)) T.f_asked_again.g T.f_asked_again.F.kp T.f_asked_again.b tk (sa_cons (se_fld (c := 0) T.k_Room T.n_Room_own_rule (sv 0)) (sa_cons (se_fld (c := 0) T.k_Room T.n_Room_line_now (sv 0)) sa_nil))) sa_nil)))))
theorem sc_claims_behind : FnScope N_claims_behind ["rule", "events"] (defScope st_claims_behind) := ⟨rfl, rfl, rfl, by decide +kernel, rfl, by decide +kernel, by decide +kernel⟩
theorem ok_claims_behind (T : Txt K mg) : FnG P w K mg base 9 (He.ga K "claims_behind") T.fd_claims_behind ["rule", "events"] (spOf K (cl K) 2 r_claims_behind) := by
  refine fn_pw (fn_ok (N := N_claims_behind) (d := d_claims_behind) T.f_claims_behind.F sc_claims_behind rfl fun cdv A outer s H E hr => ?_)
  have tk := takes_of (X := cxOf (L2.CX P w) P w K mg base N_claims_behind "claims_behind" (defScope st_claims_behind) (He.ga K "claims_behind") cdv A outer s H E) (E := E) rfl rfl rfl rfl
  exact (ss_one (ss_ret (se_ct call_tuple_of w_tuple T.m_tuple (by decide +kernel) (sa_cons (se_call (ok_claims_in T) (hr.mono (by decide)) T.f_claims_in.g T.f_claims_in.F.kp T.f_claims_in.b tk (sa_cons (se_call (ok_need_room T) (hr.mono (by decide)) T.f_need_room.g T.f_need_room.F.kp T.f_need_room.b tk (sa_cons (sv 0) (sa_cons (sv 1) sa_nil))) sa_nil)) sa_nil))))
theorem sc__law_mixed : FnScope N__law_mixed ["_law_cell", "_law_k"] (defScope st__law_mixed) := ⟨rfl, rfl, rfl, by decide +kernel, rfl, by decide +kernel, by decide +kernel⟩
theorem ok__law_mixed (T : Txt K mg) : FnG P w K mg base 1 (He.ga K "_law_mixed") T.fd__law_mixed ["_law_cell", "_law_k"] (spOf K (cl K) 2 r__law_mixed) := by
  refine fn_pw (fn_ok (N := N__law_mixed) (d := d__law_mixed) T.f__law_mixed.F sc__law_mixed rfl fun cdv A outer s H E hr => ?_)
  have tk := takes_of (X := cxOf (L2.CX P w) P w K mg base N__law_mixed "_law_mixed" (defScope st__law_mixed) (He.ga K "_law_mixed") cdv A outer s H E) (E := E) rfl rfl rfl rfl
  exact (ss_cons (ss_set (i := 0) sc__law_mixed.nd rfl (by first | exact Or.inl rfl | exact Or.inr rfl) (se_op op_mod w_mod (se_ct call_int1 w_int T.m_int (by decide +kernel) (sa_cons (sv 0) sa_nil)) se_int))
    (ss_one (ss_ret (se_op op_mod w_mod (se_op o_mul w_mul (se_op op_mod w_mod (se_op o_add w_add (se_op o_add w_add (se_op o_mul w_mul (sv 0) (se_op o_add w_add se_int (se_op o_mul w_mul (se_op o_mul w_mul se_int (sv 1)) (sv 1)))) (se_op o_mul w_mul se_int (sv 1))) se_int) se_int) se_int) se_int))))
theorem sc__law_begin : FnScope N__law_begin ["_law_script"] (defScope st__law_begin) := ⟨rfl, rfl, rfl, by decide +kernel, rfl, by decide +kernel, by decide +kernel⟩
theorem ok__law_begin (T : Txt K mg) : FnG P w K mg base 1 (He.ga K "_law_begin") T.fd__law_begin ["_law_script"] (spOf K (cl K) 1 r__law_begin) := by
  refine fn_ok (N := N__law_begin) (d := d__law_begin) T.f__law_begin.F sc__law_begin rfl fun cdv A outer s H E hr => ?_
  have tk := takes_of (X := cxOf (L2.CX P w) P w K mg base N__law_begin "_law_begin" (defScope st__law_begin) (He.ga K "_law_begin") cdv A outer s H E) (E := E) rfl rfl rfl rfl
  exact (ss_cons (ss_set (i := 1) sc__law_begin.nd rfl (by first | exact Or.inl rfl | exact Or.inr rfl) (se_if (st_cmp (op_neD hr.units) w_ne (sv 0) (se_lst sa_nil) rfl) (se_fz (sn_ct call_list_of w_list T.m_list (by decide +kernel) (sa_cons (sv 0) sa_nil))) (se_lst (sa_cons se_int sa_nil))))
    (ss_one (ss_ret (se_dict (fs := [("cells", (eVar 1)), ("lefts", (eNw (aComp (iSeq (eVar 1)) (gN 2) dYes (eIf (dTest (eBin geW (eVar 2) (eBin powW (eC (.int 10)) (eC (.int 18))))) (eVar 2) (eC (.int 0))) [2]))), ("at", (eC (.int 0))), ("room", (eC (.int 0)))]) (pps_cons pe_str (sv 1) (pps_cons pe_str (se_nw (se_lc (own := [("_law_cell", 2)]) rfl sc__law_begin.nd (si_seq (sv 1)) (blkOk_by (N := N__law_begin) (sc := defScope st__law_begin) (by decide +kernel)) (by decide) (fun _ _ _ _ _ => (sg_name (pg_name (i := 2) sc__law_begin.nd rfl (by first | exact Or.inl rfl | exact Or.inr rfl)))) (fun _ _ _ _ _ => stc_nil) (fun _ _ _ _ _ => (se_if (st_cmp op_ge w_ge (sv 2) (se_op op_pow w_pow se_int se_int) rfl) (sv 2) se_int)))) (pps_cons pe_str se_int (pps_cons pe_str se_int pps_nil))))))))
theorem sc__law_draw : FnScope N__law_draw ["_law_state", "_law_many"] (defScope st__law_draw) := ⟨rfl, rfl, rfl, by decide +kernel, rfl, by decide +kernel, by decide +kernel⟩
theorem ok__law_draw (T : Txt K mg) : FnG P w K mg base 2 (He.ga K "_law_draw") T.fd__law_draw ["_law_state", "_law_many"] (spOf K (cl K) 2 r__law_draw) := by
  refine fn_ok (N := N__law_draw) (d := d__law_draw) T.f__law_draw.F sc__law_draw rfl fun cdv A outer s H E hr => ?_
  have tk := takes_of (X := cxOf (L2.CX P w) P w K mg base N__law_draw "_law_draw" (defScope st__law_draw) (He.ga K "_law_draw") cdv A outer s H E) (E := E) rfl rfl rfl rfl
  exact (ss_cons (ss_set (i := 2) sc__law_draw.nd rfl (by first | exact Or.inl rfl | exact Or.inr rfl) (se_dget (hu1 hr) (sv 0) se_str))
    (ss_cons (ss_sub (hu1 hr) (se_op o_add w_add (sv 2) se_int) (sv 0) se_str)
    (ss_cons (ss_set (i := 3) sc__law_draw.nd rfl (by first | exact Or.inl rfl | exact Or.inr rfl) (se_op op_mod w_mod (se_ct call_int1 w_int T.m_int (by decide +kernel) (sa_cons (sv 2) sa_nil)) (se_cb c_len w_len T.m_len boot_len (sa_cons (se_dget (hu1 hr) (sv 0) se_str) sa_nil))))
    (ss_cons (ss_set (i := 4) sc__law_draw.nd rfl (by first | exact Or.inl rfl | exact Or.inr rfl) (se_ix ix_seq w_ix (se_dget (hu1 hr) (sv 0) se_str) (sv 3)))
    (ss_cons (ss_if (st_cmp op_gt w_gt (sv 4) se_int rfl) (ss_cons (ss_sub (hu1 hr) (se_op op_fdiv w_fdiv (sv 4) (sv 1)) (se_dget (hu1 hr) (sv 0) se_str) (sv 3))
    (ss_one (ss_ret (se_op op_mod w_mod (se_ct call_int1 w_int T.m_int (by decide +kernel) (sa_cons (sv 4) sa_nil)) (sv 1))))) ss_nil)
    (ss_cons (ss_set (i := 5) sc__law_draw.nd rfl (by first | exact Or.inl rfl | exact Or.inr rfl) (se_call (ok__law_mixed T) (hr.mono (by decide)) T.f__law_mixed.g T.f__law_mixed.F.kp T.f__law_mixed.b tk (sa_cons (se_call (ok__law_mixed T) (hr.mono (by decide)) T.f__law_mixed.g T.f__law_mixed.F.kp T.f__law_mixed.b tk (sa_cons (se_ix ix_seq w_ix (se_dget (hu1 hr) (sv 0) se_str) (sv 3)) (sa_cons (sv 2) sa_nil))) (sa_cons (se_op o_add w_add se_int (sv 2)) sa_nil))))
    (ss_one (ss_ret (se_op op_mod w_mod (se_op op_fdiv w_fdiv (se_ct call_int1 w_int T.m_int (by decide +kernel) (sa_cons (se_op o_add w_add (se_op o_mul w_mul (sv 5) se_int) (se_call (ok__law_mixed T) (hr.mono (by decide)) T.f__law_mixed.g T.f__law_mixed.F.kp T.f__law_mixed.b tk (sa_cons (sv 5) (sa_cons (se_op o_add w_add se_int (sv 2)) sa_nil)))) sa_nil)) se_int) (sv 1))))))))))
theorem sc__law_of : FnScope N__law_of ["_law_state", "_law_some"] (defScope st__law_of) := ⟨rfl, rfl, rfl, by decide +kernel, rfl, by decide +kernel, by decide +kernel⟩
theorem ok__law_of (T : Txt K mg) : FnG P w K mg base 3 (He.ga K "_law_of") T.fd__law_of ["_law_state", "_law_some"] (spOf K (cl K) 2 r__law_of) := by
  refine fn_ok (N := N__law_of) (d := d__law_of) T.f__law_of.F sc__law_of rfl fun cdv A outer s H E hr => ?_
  have tk := takes_of (X := cxOf (L2.CX P w) P w K mg base N__law_of "_law_of" (defScope st__law_of) (He.ga K "_law_of") cdv A outer s H E) (E := E) rfl rfl rfl rfl
  exact (ss_one (ss_ret (se_ix ix_seq w_ix (sv 1) (se_call (ok__law_draw T) (hr.mono (by decide)) T.f__law_draw.g T.f__law_draw.F.kp T.f__law_draw.b tk (sa_cons (sv 0) (sa_cons (se_cb c_len w_len T.m_len boot_len (sa_cons (sv 1) sa_nil)) sa_nil))))))
theorem sc__law_names : FnScope N__law_names ["_law_rule_here", "_law_line", "_law_spot"] (defScope st__law_names) := ⟨rfl, rfl, rfl, by decide +kernel, rfl, by decide +kernel, by decide +kernel⟩
theorem ok__law_names (T : Txt K mg) : FnG P w K mg base 1 (He.ga K "_law_names") T.fd__law_names ["_law_rule_here", "_law_line", "_law_spot"] (spOf K (cl K) 3 r__law_names) := by
  refine fn_ok (N := N__law_names) (d := d__law_names) T.f__law_names.F sc__law_names rfl fun cdv A outer s H E hr => ?_
  have tk := takes_of (X := cxOf (L2.CX P w) P w K mg base N__law_names "_law_names" (defScope st__law_names) (He.ga K "_law_names") cdv A outer s H E) (E := E) rfl rfl rfl rfl
  exact (ss_cons (ss_set (i := 3) sc__law_names.nd rfl (by first | exact Or.inl rfl | exact Or.inr rfl) (se_if (st_cmp (op_eqD hr.units) w_eq (se_ix ix_seq w_ix (sv 0) se_int) se_str rfl) (se_tup (sa_cons se_str (sa_cons se_str (sa_cons se_str sa_nil)))) (se_tup (sa_cons se_str sa_nil))))
    (ss_one (ss_ret (se_ct call_tuple_of w_tuple T.m_tuple (by decide +kernel) (sa_cons (se_sl (se_rev (se_fz (se_lc (own := [("_law_row_here", 4)]) rfl sc__law_names.nd (si_seq (se_sl (sv 1) so_none (so_some (sv 2)))) (blkOk_by (N := N__law_names) (sc := defScope st__law_names) (by decide +kernel)) (by decide) (fun _ _ _ _ _ => (sg_name (pg_name (i := 4) sc__law_names.nd rfl (by first | exact Or.inl rfl | exact Or.inr rfl)))) (fun _ _ _ _ _ => (stc_one (st_cmp (op_inA (hu65 hr)) w_in (se_ix ix_seq w_ix (sv 4) se_int) (sv 3) rfl))) (fun _ _ _ _ _ => (se_ix ix_seq w_ix (sv 4) se_int))))) so_none (so_some (se_ix ix_seq w_ix (sv 0) se_int))) sa_nil)))))
theorem sc__law_renew : FnScope N__law_renew ["_law_rule_here", "_law_line", "_law_spots"] (defScope st__law_renew) := ⟨rfl, rfl, rfl, by decide +kernel, rfl, by decide +kernel, by decide +kernel⟩
theorem ok__law_renew (T : Txt K mg) : FnG P w K mg base 2 (He.ga K "_law_renew") T.fd__law_renew ["_law_rule_here", "_law_line", "_law_spots"] (spOf K (cl K) 3 r__law_renew) := by
  refine fn_ok (N := N__law_renew) (d := d__law_renew) T.f__law_renew.F sc__law_renew rfl fun cdv A outer s H E hr => ?_
  have tk := takes_of (X := cxOf (L2.CX P w) P w K mg base N__law_renew "_law_renew" (defScope st__law_renew) (He.ga K "_law_renew") cdv A outer s H E) (E := E) rfl rfl rfl rfl
  exact (ss_cons (ss_setLc (i := 3) (own := [("_law_spot", 4)]) rfl sc__law_renew.nd rfl rfl (sw_true rfl rfl rfl (by decide +kernel)) (si_rng1 T.m_range (sa_cons (se_cb c_len w_len T.m_len boot_len (sa_cons (sv 1) sa_nil)) sa_nil) a1_len) (blkOk_by (N := N__law_renew) (sc := defScope st__law_renew) (by decide +kernel)) (by decide) (fun _ _ _ _ _ => (sg_name (pg_name (i := 4) sc__law_renew.nd rfl (by first | exact Or.inl rfl | exact Or.inr rfl)))) (fun _ _ _ _ _ => stc_nil) (fun _ _ _ _ _ => (se_call (ok__law_names T) (hr.mono (by decide)) T.f__law_names.g T.f__law_names.F.kp T.f__law_names.b takes0 (sa_cons (sv 0) (sa_cons (sv 1) (sa_cons (sv 4) sa_nil))))))
    (ss_one (ss_for (passes_of rfl) rfl (si_seq (sv 2)) (sg_name (pg_name (i := 4) sc__law_renew.nd rfl (by first | exact Or.inl rfl | exact Or.inr rfl))) (ss_one (ss_if (st_cmp (op_eqD hr.units) w_eq (se_ix ix_seq w_ix (se_ix ix_seq w_ix (sv 1) (sv 4)) se_int) se_str rfl) (ss_one (ss_sub (hu1 hr) (se_ix ix_seq w_ix (sv 3) (sv 4)) (se_ix ix_seq w_ix (sv 1) (sv 4)) se_int)) ss_nil)))))
theorem sc__law_gone : FnScope N__law_gone ["_law_rule_here", "_law_line", "_law_person"] (defScope st__law_gone) := ⟨rfl, rfl, rfl, by decide +kernel, rfl, by decide +kernel, by decide +kernel⟩
theorem ok__law_gone (T : Txt K mg) : FnG P w K mg base 3 (He.ga K "_law_gone") T.fd__law_gone ["_law_rule_here", "_law_line", "_law_person"] (spOf K (cl K) 3 r__law_gone) := by
  refine fn_ok (N := N__law_gone) (d := d__law_gone) T.f__law_gone.F sc__law_gone rfl fun cdv A outer s H E hr => ?_
  have tk := takes_of (X := cxOf (L2.CX P w) P w K mg base N__law_gone "_law_gone" (defScope st__law_gone) (He.ga K "_law_gone") cdv A outer s H E) (E := E) rfl rfl rfl rfl
  exact (ss_cons (ss_setLc (i := 3) (own := [("_law_row_here", 6)]) rfl sc__law_gone.nd rfl rfl (sw_true rfl rfl rfl (by decide +kernel)) (si_seq (sv 1)) (blkOk_by (N := N__law_gone) (sc := defScope st__law_gone) (by decide +kernel)) (by decide) (fun _ _ _ _ _ => (sg_name (pg_name (i := 6) sc__law_gone.nd rfl (by first | exact Or.inl rfl | exact Or.inr rfl)))) (fun _ _ _ _ _ => (stc_one (st_cmp (op_neD hr.units) w_ne (se_ix ix_seq w_ix (sv 6) se_int) (sv 2) rfl))) (fun _ _ _ _ _ => (sv 6)))
    (ss_cons (ss_setLc (i := 4) (own := [("_law_spot", 5), ("_law_row_here", 6)]) rfl sc__law_gone.nd rfl rfl (sw_true rfl rfl rfl (by decide +kernel)) (si_enum T.m_enumerate (sv 3)) (blkOk_by (N := N__law_gone) (sc := defScope st__law_gone) (by decide +kernel)) (by decide) (fun _ _ _ _ _ => (sg_tup rfl (sgs_cons (sg_name (pg_name (i := 5) sc__law_gone.nd rfl (by first | exact Or.inl rfl | exact Or.inr rfl))) (sgs_cons (sg_name (pg_name (i := 6) sc__law_gone.nd rfl (by first | exact Or.inl rfl | exact Or.inr rfl))) sgs_nil)) (gsCons_len (gsCons_len gsNil_len)))) (fun _ _ _ _ _ => (stc_one (PW.pt (sw_and (st_cmp (op_eqD hr.units) w_eq (se_ix ix_seq w_ix (sv 6) se_int) se_str rfl) (sw_and1 (st_cmp (op_inA (hu65 hr)) w_in (sv 2) (se_ix ix_seq w_ix (sv 6) se_int) rfl)))))) (fun _ _ _ _ _ => (sv 5)))
    (ss_cons (ss_for (passes_of rfl) rfl (si_seq (sv 4)) (sg_name (pg_name (i := 5) sc__law_gone.nd rfl (by first | exact Or.inl rfl | exact Or.inr rfl))) (ss_one (ss_sub (hu1 hr) (se_ct call_tuple_of w_tuple T.m_tuple (by decide +kernel) (sa_cons (se_fz (se_lc (own := [("_law_name", 7)]) rfl sc__law_gone.nd (si_seq (se_ix ix_seq w_ix (se_ix ix_seq w_ix (sv 3) (sv 5)) se_int)) (blkOk_by (N := N__law_gone) (sc := defScope st__law_gone) (by decide +kernel)) (by decide) (fun _ _ _ _ _ => (sg_name (pg_name (i := 7) sc__law_gone.nd rfl (by first | exact Or.inl rfl | exact Or.inr rfl)))) (fun _ _ _ _ _ => (stc_one (st_cmp (op_neD hr.units) w_ne (sv 7) (sv 2) rfl))) (fun _ _ _ _ _ => (sv 7)))) sa_nil)) (se_ix ix_seq w_ix (sv 3) (sv 5)) se_int)))
    (ss_cons (ss_if (st_cmp (op_eqD hr.units) w_eq (se_ix ix_seq w_ix (sv 0) se_int) se_str rfl) (ss_one (ss_expr (se_call (ok__law_renew T) (hr.mono (by decide)) T.f__law_renew.g T.f__law_renew.F.kp T.f__law_renew.b tk (sa_cons (sv 0) (sa_cons (sv 3) (sa_cons (sv 4) sa_nil)))))) ss_nil)
    (ss_one (ss_ret (sv 3)))))))
theorem sc__law_here : FnScope N__law_here ["_law_line"] (defScope st__law_here) := ⟨rfl, rfl, rfl, by decide +kernel, rfl, by decide +kernel, by decide +kernel⟩
theorem ok__law_here (T : Txt K mg) : FnG P w K mg base 1 (He.ga K "_law_here") T.fd__law_here ["_law_line"] (spOf K (cl K) 1 r__law_here) := by
  refine fn_ok (N := N__law_here) (d := d__law_here) T.f__law_here.F sc__law_here rfl fun cdv A outer s H E hr => ?_
  have tk := takes_of (X := cxOf (L2.CX P w) P w K mg base N__law_here "_law_here" (defScope st__law_here) (He.ga K "_law_here") cdv A outer s H E) (E := E) rfl rfl rfl rfl
  exact (ss_one (ss_ret (se_fz (se_lc (own := [("_law_row_here", 1)]) rfl sc__law_here.nd (si_seq (sv 0)) (blkOk_by (N := N__law_here) (sc := defScope st__law_here) (by decide +kernel)) (by decide) (fun _ _ _ _ _ => (sg_name (pg_name (i := 1) sc__law_here.nd rfl (by first | exact Or.inl rfl | exact Or.inr rfl)))) (fun _ _ _ _ _ => (stc_one (st_cmp (op_eqD hr.units) w_eq (se_ix ix_seq w_ix (sv 1) se_int) se_str rfl))) (fun _ _ _ _ _ => (se_ix ix_seq w_ix (sv 1) se_int))))))
theorem sc__law_asked : FnScope N__law_asked ["_law_rule_here", "_law_line"] (defScope st__law_asked) := ⟨rfl, rfl, rfl, by decide +kernel, rfl, by decide +kernel, by decide +kernel⟩
theorem ok__law_asked (T : Txt K mg) : FnG P w K mg base 3 (He.ga K "_law_asked") T.fd__law_asked ["_law_rule_here", "_law_line"] (spOf K (cl K) 2 r__law_asked) := by
  refine fn_ok (N := N__law_asked) (d := d__law_asked) T.f__law_asked.F sc__law_asked rfl fun cdv A outer s H E hr => ?_
  have tk := takes_of (X := cxOf (L2.CX P w) P w K mg base N__law_asked "_law_asked" (defScope st__law_asked) (He.ga K "_law_asked") cdv A outer s H E) (E := E) rfl rfl rfl rfl
  exact (ss_cons (ss_setLc (i := 2) (own := [("_law_row_here", 3)]) rfl sc__law_asked.nd rfl rfl (sw_true rfl rfl rfl (by decide +kernel)) (si_seq (sv 1)) (blkOk_by (N := N__law_asked) (sc := defScope st__law_asked) (by decide +kernel)) (by decide) (fun _ _ _ _ _ => (sg_name (pg_name (i := 3) sc__law_asked.nd rfl (by first | exact Or.inl rfl | exact Or.inr rfl)))) (fun _ _ _ _ _ => stc_nil) (fun _ _ _ _ _ => (se_nw (sn_ct call_list_of w_list T.m_list (by decide +kernel) (sa_cons (sv 3) sa_nil)))))
    (ss_cons (ss_if (st_cmp (op_eqD hr.units) w_eq (se_ix ix_seq w_ix (sv 0) se_int) se_str rfl) (ss_one (ss_expr (se_call (ok__law_renew T) (hr.mono (by decide)) T.f__law_renew.g T.f__law_renew.F.kp T.f__law_renew.b tk (sa_cons (sv 0) (sa_cons (sv 2) (sa_cons (se_fz (se_lc (own := [("_law_spot", 4), ("_law_row_here", 3)]) rfl sc__law_asked.nd (si_enum T.m_enumerate (sv 2)) (blkOk_by (N := N__law_asked) (sc := defScope st__law_asked) (by decide +kernel)) (by decide) (fun _ _ _ _ _ => (sg_tup rfl (sgs_cons (sg_name (pg_name (i := 4) sc__law_asked.nd rfl (by first | exact Or.inl rfl | exact Or.inr rfl))) (sgs_cons (sg_name (pg_name (i := 3) sc__law_asked.nd rfl (by first | exact Or.inl rfl | exact Or.inr rfl))) sgs_nil)) (gsCons_len (gsCons_len gsNil_len)))) (fun _ _ _ _ _ => (stc_one (st_cmp (op_eqD hr.units) w_eq (se_ix ix_seq w_ix (sv 3) se_int) (se_tup sa_nil) rfl))) (fun _ _ _ _ _ => (sv 4)))) sa_nil)))))) ss_nil)
    (ss_one (ss_ret (sv 2)))))
theorem sc__law_claims : FnScope N__law_claims ["_law_rule_here", "_law_rows"] (defScope st__law_claims) := ⟨rfl, rfl, rfl, by decide +kernel, rfl, by decide +kernel, by decide +kernel⟩
theorem ok__law_claims (T : Txt K mg) : FnG P w K mg base 2 (He.ga K "_law_claims") T.fd__law_claims ["_law_rule_here", "_law_rows"] (spOf K (cl K) 2 r__law_claims) := by
  refine fn_ok (N := N__law_claims) (d := d__law_claims) T.f__law_claims.F sc__law_claims rfl fun cdv A outer s H E hr => ?_
  have tk := takes_of (X := cxOf (L2.CX P w) P w K mg base N__law_claims "_law_claims" (defScope st__law_claims) (He.ga K "_law_claims") cdv A outer s H E) (E := E) rfl rfl rfl rfl
  exact (ss_cons (ss_asg (se_tup (sa_cons (se_call (ok__law_here T) (hr.mono (by decide)) T.f__law_here.g T.f__law_here.F.kp T.f__law_here.b tk (sa_cons (sv 1) sa_nil)) (sa_cons (se_lstM sa_nil) sa_nil))) (sg_tup rfl (sgs_cons (sg_name (pg_name (i := 2) sc__law_claims.nd rfl (by first | exact Or.inl rfl | exact Or.inr rfl))) (sgs_cons (sg_name (pg_name (i := 3) sc__law_claims.nd rfl (by first | exact Or.inl rfl | exact Or.inr rfl))) sgs_nil)) (gsCons_len (gsCons_len gsNil_len))))
    (ss_cons (ss_forM (passes_of rfl) rfl (si_seq (sv 1)) (sm_unp rfl (sms_cons (sm_name (pg_name (i := 4) sc__law_claims.nd rfl (by first | exact Or.inl rfl | exact Or.inr rfl))) (sms_cons (sm_name (pg_name (i := 5) sc__law_claims.nd rfl (by first | exact Or.inl rfl | exact Or.inr rfl))) (sms_cons (sm_name (pg_name (i := 6) sc__law_claims.nd rfl (by first | exact Or.inl rfl | exact Or.inr rfl))) sms_nil)))) (ss_one (ss_if (PW.pt (sw_and (st_cmp (op_eqD hr.units) w_eq (sv 5) se_str rfl) (sw_and (st_cmp op_le w_le (se_cb c_len w_len T.m_len boot_len (sa_cons (sv 6) sa_nil)) (se_ix ix_seq w_ix (sv 0) se_int) rfl) (sw_and1 (st_cmp (op_eqD hr.units) w_eq (se_fz (se_lc (own := [("_law_name", 7)]) rfl sc__law_claims.nd (si_seq (sv 6)) (blkOk_by (N := N__law_claims) (sc := defScope st__law_claims) (by decide +kernel)) (by decide) (fun _ _ _ _ _ => (sg_name (pg_name (i := 7) sc__law_claims.nd rfl (by first | exact Or.inl rfl | exact Or.inr rfl)))) (fun _ _ _ _ _ => (stc_one (st_cmp (op_inA (hu65 hr)) w_in (sv 7) (sv 2) rfl))) (fun _ _ _ _ _ => (sv 7)))) (se_lst sa_nil) rfl))))) (ss_one (ss_expr (se_app (sv 3) (sv 4)))) ss_nil)))
    (ss_one (ss_ret (se_frz 3)))))
theorem sc__law_come : FnScope N__law_come ["_law_rule_here", "_law_line", "_law_spot", "_law_person"] (defScope st__law_come) := ⟨rfl, rfl, rfl, by decide +kernel, rfl, by decide +kernel, by decide +kernel⟩
theorem ok__law_come (T : Txt K mg) : FnG P w K mg base 3 (He.ga K "_law_come") T.fd__law_come ["_law_rule_here", "_law_line", "_law_spot", "_law_person"] (spOf K (cl K) 4 r__law_come) := by
  refine fn_ok (N := N__law_come) (d := d__law_come) T.f__law_come.F sc__law_come rfl fun cdv A outer s H E hr => ?_
  have tk := takes_of (X := cxOf (L2.CX P w) P w K mg base N__law_come "_law_come" (defScope st__law_come) (He.ga K "_law_come") cdv A outer s H E) (E := E) rfl rfl rfl rfl
  exact (ss_cons (ss_set (i := 4) sc__law_come.nd rfl (by first | exact Or.inl rfl | exact Or.inr rfl) (se_op o_add w_add (se_op o_add w_add (se_sl (sv 1) so_none (so_some (sv 2))) (se_lst (sa_cons (se_lstM (sa_cons (sv 3) (sa_cons se_str (sa_cons (se_tup sa_nil) sa_nil)))) sa_nil))) (se_sl (sv 1) (so_some (sv 2)) so_none)))
    (ss_cons (ss_expr (se_call (ok__law_renew T) (hr.mono (by decide)) T.f__law_renew.g T.f__law_renew.F.kp T.f__law_renew.b tk (sa_cons (sv 0) (sa_cons (sv 4) (sa_cons (se_lst (sa_cons (sv 2) sa_nil)) sa_nil)))))
    (ss_one (ss_ret (sv 4)))))
theorem sc__law_how : FnScope N__law_how ["_law_line", "_law_person"] (defScope st__law_how) := ⟨rfl, rfl, rfl, by decide +kernel, rfl, by decide +kernel, by decide +kernel⟩
theorem ok__law_how (T : Txt K mg) : FnG P w K mg base 1 (He.ga K "_law_how") T.fd__law_how ["_law_line", "_law_person"] (spOf K (cl K) 2 r__law_how) := by
  refine fn_ok (N := N__law_how) (d := d__law_how) T.f__law_how.F sc__law_how rfl fun cdv A outer s H E hr => ?_
  have tk := takes_of (X := cxOf (L2.CX P w) P w K mg base N__law_how "_law_how" (defScope st__law_how) (He.ga K "_law_how") cdv A outer s H E) (E := E) rfl rfl rfl rfl
  exact (ss_one (ss_ret (se_ix ix_seq w_ix (se_op o_add w_add (se_fz (se_lc (own := [("_law_row_here", 2)]) rfl sc__law_how.nd (si_seq (sv 0)) (blkOk_by (N := N__law_how) (sc := defScope st__law_how) (by decide +kernel)) (by decide) (fun _ _ _ _ _ => (sg_name (pg_name (i := 2) sc__law_how.nd rfl (by first | exact Or.inl rfl | exact Or.inr rfl)))) (fun _ _ _ _ _ => (stc_one (st_cmp (op_eqD hr.units) w_eq (se_ix ix_seq w_ix (sv 2) se_int) (sv 1) rfl))) (fun _ _ _ _ _ => (se_ix ix_seq w_ix (sv 2) se_int)))) (se_lst (sa_cons se_str sa_nil))) se_int)))
theorem sc__law_can : FnScope N__law_can ["_law_rule_here", "_law_room", "_law_event"] (defScope st__law_can) := ⟨rfl, rfl, rfl, by decide +kernel, rfl, by decide +kernel, by decide +kernel⟩
theorem ok__law_can (T : Txt K mg) : FnG P w K mg base 2 (He.ga K "_law_can") T.fd__law_can ["_law_rule_here", "_law_room", "_law_event"] (spOf K (cl K) 3 r__law_can) := by
  refine fn_pw (fn_ok (N := N__law_can) (d := d__law_can) T.f__law_can.F sc__law_can rfl fun cdv A outer s H E hr => ?_)
  have tk := takes_of (X := cxOf (L2.CX P w) P w K mg base N__law_can "_law_can" (defScope st__law_can) (He.ga K "_law_can") cdv A outer s H E) (E := E) rfl rfl rfl rfl
  exact (ss_cons (ss_asg (sv 1) (sg_tup rfl (sgs_cons (sg_name (pg_name (i := 3) sc__law_can.nd rfl (by first | exact Or.inl rfl | exact Or.inr rfl))) (sgs_cons (sg_name (pg_name (i := 4) sc__law_can.nd rfl (by first | exact Or.inl rfl | exact Or.inr rfl))) (sgs_cons (sg_name (pg_name (i := 5) sc__law_can.nd rfl (by first | exact Or.inl rfl | exact Or.inr rfl))) sgs_nil))) (gsCons_len (gsCons_len (gsCons_len gsNil_len)))))
    (ss_cons (ss_if (st_cmp (op_eqD hr.units) w_eq (sv 2) (se_tup (sa_cons se_str sa_nil)) rfl) (ss_one (ss_ret (se_cmp op_lt w_lt (sv 4) se_int rfl))) ss_nil)
    (ss_cons (ss_if (st_cmp (op_eqD hr.units) w_eq (sv 2) (se_tup (sa_cons se_str sa_nil)) rfl) (ss_one (ss_ret (se_cmp (op_neD hr.units) w_ne (se_call (ok__law_here T) (hr.mono (by decide)) T.f__law_here.g T.f__law_here.F.kp T.f__law_here.b tk (sa_cons (sv 3) sa_nil)) (se_lst sa_nil) rfl))) ss_nil)
    (ss_cons (ss_set (i := 6) sc__law_can.nd rfl (by first | exact Or.inl rfl | exact Or.inr rfl) (se_call (ok__law_how T) (hr.mono (by decide)) T.f__law_how.g T.f__law_how.F.kp T.f__law_how.b tk (sa_cons (sv 3) (sa_cons (se_ix ix_seq w_ix (sv 2) se_int) sa_nil))))
    (ss_cons (ss_if (st_cmp (op_eqD hr.units) w_eq (se_ix ix_seq w_ix (sv 2) se_int) se_str rfl) (ss_one (ss_ret (se_or (se_cmp (op_eqD hr.units) w_eq (sv 6) se_str rfl) (se_one (se_and (se_cmp (op_eqD hr.units) w_eq (sv 6) se_str rfl) (se_one (se_or (se_cmp (op_neD hr.units) w_ne (se_ix ix_seq w_ix (sv 0) se_int) se_str rfl) (se_one (se_cmp op_lt w_lt (sv 4) se_int rfl))))))))) ss_nil)
    (ss_one (ss_ret (se_and (se_cmp (op_eqD hr.units) w_eq (sv 6) se_str rfl) (se_one (se_or (se_cmp (op_neD hr.units) w_ne (se_ix ix_seq w_ix (sv 2) se_int) se_str rfl) (se_one (se_cmp op_lt w_lt (sv 4) se_int rfl))))))))))))
theorem sc__law_back : FnScope N__law_back ["_law_rule_here", "_law_line", "_law_came", "_law_spot"] (defScope st__law_back) := ⟨rfl, rfl, rfl, by decide +kernel, rfl, by decide +kernel, by decide +kernel⟩
theorem ok__law_back (T : Txt K mg) : FnG P w K mg base 4 (He.ga K "_law_back") T.fd__law_back ["_law_rule_here", "_law_line", "_law_came", "_law_spot"] (spOf K (cl K) 4 r__law_back) := by
  refine fn_ok (N := N__law_back) (d := d__law_back) T.f__law_back.F sc__law_back rfl fun cdv A outer s H E hr => ?_
  have tk := takes_of (X := cxOf (L2.CX P w) P w K mg base N__law_back "_law_back" (defScope st__law_back) (He.ga K "_law_back") cdv A outer s H E) (E := E) rfl rfl rfl rfl
  exact (ss_cons (ss_if (PW.pt (sw_and (st_cmp (op_eqD hr.units) w_eq (se_ix ix_seq w_ix (sv 0) se_int) se_str rfl) (sw_and1 (st_cmp (op_eqD hr.units) w_eq (se_ix ix_seq w_ix (se_ix ix_seq w_ix (sv 1) (sv 3)) se_int) se_str rfl)))) (ss_one (ss_ret (se_tup (sa_cons (se_call (ok__law_come T) (hr.mono (by decide)) T.f__law_come.g T.f__law_come.F.kp T.f__law_come.b tk (sa_cons (sv 0) (sa_cons (se_op o_add w_add (se_sl (sv 1) so_none (so_some (sv 3))) (se_sl (sv 1) (so_some (se_op o_add w_add (sv 3) se_int)) so_none)) (sa_cons (se_op op_sub w_sub (se_cb c_len w_len T.m_len boot_len (sa_cons (sv 1) sa_nil)) se_int) (sa_cons (sv 2) sa_nil))))) (sa_cons (se_op o_add w_add (sv 2) se_int) sa_nil))))) ss_nil)
    (ss_cons (ss_sub (hu1 hr) se_str (se_ix ix_seq w_ix (sv 1) (sv 3)) se_int)
    (ss_cons (ss_if (st_cmp (op_neD hr.units) w_ne (se_ix ix_seq w_ix (sv 0) se_int) se_str rfl) (ss_one (ss_expr (se_call (ok__law_renew T) (hr.mono (by decide)) T.f__law_renew.g T.f__law_renew.F.kp T.f__law_renew.b tk (sa_cons (sv 0) (sa_cons (sv 1) (sa_cons (se_fz (sn_lrg2 rfl T.m_list T.m_range (sv 3) (se_if (st_cmp (op_eqD hr.units) w_eq (se_ix ix_seq w_ix (sv 0) se_int) se_str rfl) (se_cb c_len w_len T.m_len boot_len (sa_cons (sv 1) sa_nil)) (se_op o_add w_add (sv 3) se_int)))) sa_nil)))))) ss_nil)
    (ss_one (ss_ret (se_tup (sa_cons (sv 1) (sa_cons (sv 2) sa_nil))))))))
theorem sc__law_do : FnScope N__law_do ["_law_rule_here", "_law_room", "_law_event"] (defScope st__law_do) := ⟨rfl, rfl, rfl, by decide +kernel, rfl, by decide +kernel, by decide +kernel⟩
theorem ok__law_do (T : Txt K mg) : FnG P w K mg base 5 (He.ga K "_law_do") T.fd__law_do ["_law_rule_here", "_law_room", "_law_event"] (spOf K (cl K) 3 r__law_do) := by
  refine fn_pw (fn_ok (N := N__law_do) (d := d__law_do) T.f__law_do.F sc__law_do rfl fun cdv A outer s H E hr => ?_)
  have tk := takes_of (X := cxOf (L2.CX P w) P w K mg base N__law_do "_law_do" (defScope st__law_do) (He.ga K "_law_do") cdv A outer s H E) (E := E) rfl rfl rfl rfl
  exact (ss_cons (ss_par3 (i := 3) (j := 4) (l := 5) rfl sc__law_do.nd rfl rfl rfl (by decide) (by decide) (by decide) rfl rfl rfl (sa_cons (se_fz (se_lc (own := [("_law_row_here", 8)]) rfl sc__law_do.nd (si_seq (se_ix ix_seq w_ix (sv 1) se_int)) (blkOk_by (N := N__law_do) (sc := defScope st__law_do) (by decide +kernel)) (by decide) (fun _ _ _ _ _ => (sg_name (pg_name (i := 8) sc__law_do.nd rfl (by first | exact Or.inl rfl | exact Or.inr rfl)))) (fun _ _ _ _ _ => stc_nil) (fun _ _ _ _ _ => (se_nw (sn_ct call_list_of w_list T.m_list (by decide +kernel) (sa_cons (sv 8) sa_nil)))))) (sa_cons (se_ix ix_seq w_ix (sv 1) se_int) (sa_cons (se_fz (sn_ct call_list_of w_list T.m_list (by decide +kernel) (sa_cons (se_ix ix_seq w_ix (sv 1) se_int) sa_nil))) sa_nil))) rfl)
    (ss_cons (ss_set (i := 6) sc__law_do.nd rfl (by first | exact Or.inl rfl | exact Or.inr rfl) (se_ix ix_seq w_ix (se_op o_add w_add (se_fz (se_lc (own := [("_law_k", 9), ("_law_row_here", 8)]) rfl sc__law_do.nd (si_enum T.m_enumerate (sv 3)) (blkOk_by (N := N__law_do) (sc := defScope st__law_do) (by decide +kernel)) (by decide) (fun _ _ _ _ _ => (sg_tup rfl (sgs_cons (sg_name (pg_name (i := 9) sc__law_do.nd rfl (by first | exact Or.inl rfl | exact Or.inr rfl))) (sgs_cons (sg_name (pg_name (i := 8) sc__law_do.nd rfl (by first | exact Or.inl rfl | exact Or.inr rfl))) sgs_nil)) (gsCons_len (gsCons_len gsNil_len)))) (fun _ _ _ _ _ => (stc_one (st_cmp (op_eqD hr.units) w_eq (se_sl (sv 2) (so_some se_int) so_none) (se_tup (sa_cons (se_ix ix_seq w_ix (sv 8) se_int) sa_nil)) rfl))) (fun _ _ _ _ _ => (sv 9)))) (se_lst (sa_cons se_int sa_nil))) se_int))
    (ss_cons (ss_if (st_cmp (op_eqD hr.units) w_eq (se_ix ix_seq w_ix (sv 2) se_int) se_str rfl) (ss_one (ss_par (i := 3) (j := 4) rfl sc__law_do.nd rfl rfl (by decide) rfl rfl (sa_cons (se_call (ok__law_come T) (hr.mono (by decide)) T.f__law_come.g T.f__law_come.F.kp T.f__law_come.b tk (sa_cons (sv 0) (sa_cons (sv 3) (sa_cons (se_cb c_len w_len T.m_len boot_len (sa_cons (sv 3) sa_nil)) (sa_cons (sv 4) sa_nil))))) (sa_cons (se_op o_add w_add (sv 4) se_int) sa_nil)) rfl)) ss_nil)
    (ss_cons (ss_if (st_cmp (op_eqD hr.units) w_eq (se_ix ix_seq w_ix (sv 2) se_int) se_str rfl) (ss_cons (ss_par (i := 3) (j := 4) rfl sc__law_do.nd rfl rfl (by decide) rfl rfl (sa_cons (se_call (ok__law_come T) (hr.mono (by decide)) T.f__law_come.g T.f__law_come.F.kp T.f__law_come.b tk (sa_cons (sv 0) (sa_cons (sv 3) (sa_cons (se_op o_add w_add (sv 6) se_int) (sa_cons (sv 4) sa_nil))))) (sa_cons (se_op o_add w_add (sv 4) se_int) sa_nil)) rfl)
    (ss_one (ss_if (st_cmp (op_eqD hr.units) w_eq (se_ix ix_seq w_ix (sv 0) se_int) se_str rfl) (ss_one (ss_expr (se_call (ok__law_renew T) (hr.mono (by decide)) T.f__law_renew.g T.f__law_renew.F.kp T.f__law_renew.b tk (sa_cons (sv 0) (sa_cons (sv 3) (sa_cons (se_fz (sn_lrg2 rfl T.m_list T.m_range (se_op o_add w_add (sv 6) se_int) (se_cb c_len w_len T.m_len boot_len (sa_cons (sv 3) sa_nil)))) sa_nil)))))) ss_nil))) ss_nil)
    (ss_cons (ss_if (st_cmp (op_eqD hr.units) w_eq (se_ix ix_seq w_ix (sv 2) se_int) se_str rfl) (ss_one (ss_sub (hu1 hr) se_str (se_ix ix_seq w_ix (sv 3) (sv 6)) se_int)) ss_nil)
    (ss_cons (ss_if (st_cmp (op_eqD hr.units) w_eq (se_ix ix_seq w_ix (sv 2) se_int) se_str rfl) (ss_one (ss_asgM (se_tup (sa_cons se_str (sa_cons (se_tup sa_nil) sa_nil))) (sm_tup rfl (sms_cons (sm_sub (hu1 hr) (se_ix ix_seq w_ix (sv 3) (sv 6)) se_int) (sms_cons (sm_sub (hu1 hr) (se_ix ix_seq w_ix (sv 3) (sv 6)) se_int) sms_nil))))) ss_nil)
    (ss_cons (ss_if (st_cmp (op_eqD hr.units) w_eq (se_ix ix_seq w_ix (sv 2) se_int) se_str rfl) (ss_one (ss_set (i := 3) sc__law_do.nd rfl (by first | exact Or.inl rfl | exact Or.inr rfl) (se_call (ok__law_gone T) (hr.mono (by decide)) T.f__law_gone.g T.f__law_gone.F.kp T.f__law_gone.b tk (sa_cons (sv 0) (sa_cons (sv 3) (sa_cons (se_ix ix_seq w_ix (sv 2) se_int) sa_nil)))))) ss_nil)
    (ss_cons (ss_if (st_cmp (op_eqD hr.units) w_eq (se_ix ix_seq w_ix (sv 2) se_int) se_str rfl) (ss_one (ss_asg (se_call (ok__law_back T) (hr.mono (by decide)) T.f__law_back.g T.f__law_back.F.kp T.f__law_back.b tk (sa_cons (sv 0) (sa_cons (sv 3) (sa_cons (sv 4) (sa_cons (sv 6) sa_nil))))) (sg_tup rfl (sgs_cons (sg_name (pg_name (i := 3) sc__law_do.nd rfl (by first | exact Or.inl rfl | exact Or.inr rfl))) (sgs_cons (sg_name (pg_name (i := 4) sc__law_do.nd rfl (by first | exact Or.inl rfl | exact Or.inr rfl))) sgs_nil)) (gsCons_len (gsCons_len gsNil_len))))) ss_nil)
    (ss_cons (ss_if (st_cmp (op_eqD hr.units) w_eq (se_ix ix_seq w_ix (sv 2) se_int) se_str rfl) (ss_cons (ss_set (i := 3) sc__law_do.nd rfl (by first | exact Or.inl rfl | exact Or.inr rfl) (se_call (ok__law_asked T) (hr.mono (by decide)) T.f__law_asked.g T.f__law_asked.F.kp T.f__law_asked.b tk (sa_cons (sv 0) (sa_cons (sv 3) sa_nil))))
    (ss_cons (ss_set (i := 7) sc__law_do.nd rfl (by first | exact Or.inl rfl | exact Or.inr rfl) (se_call (ok__law_claims T) (hr.mono (by decide)) T.f__law_claims.g T.f__law_claims.F.kp T.f__law_claims.b tk (sa_cons (sv 0) (sa_cons (sv 3) sa_nil))))
    (ss_one (ss_if (st_cmp (op_eqD hr.units) w_eq (se_cb c_len w_len T.m_len boot_len (sa_cons (sv 7) sa_nil)) se_int rfl) (ss_one (ss_par (i := 3) (j := 5) rfl sc__law_do.nd rfl rfl (by decide) rfl rfl (sa_cons (se_call (ok__law_gone T) (hr.mono (by decide)) T.f__law_gone.g T.f__law_gone.F.kp T.f__law_gone.b tk (sa_cons (sv 0) (sa_cons (sv 3) (sa_cons (se_ix ix_seq w_ix (sv 7) se_int) sa_nil)))) (sa_cons (se_op o_add w_add (sv 5) (sv 7)) sa_nil)) rfl)) ss_nil)))) ss_nil)
    (ss_cons (ss_if (st_cmp (op_eqD hr.units) w_eq (se_call (ok__law_here T) (hr.mono (by decide)) T.f__law_here.g T.f__law_here.F.kp T.f__law_here.b tk (sa_cons (sv 3) sa_nil)) (se_lst sa_nil) rfl) (ss_one (ss_setLc (i := 3) (own := [("_law_row_here", 8)]) rfl sc__law_do.nd rfl rfl (sw_true rfl rfl rfl (by decide +kernel)) (si_seq (sv 3)) (blkOk_by (N := N__law_do) (sc := defScope st__law_do) (by decide +kernel)) (by decide) (fun _ _ _ _ _ => (sg_name (pg_name (i := 8) sc__law_do.nd rfl (by first | exact Or.inl rfl | exact Or.inr rfl)))) (fun _ _ _ _ _ => (stc_one (st_cmp (op_neD hr.units) w_ne (se_ix ix_seq w_ix (sv 8) se_int) se_str rfl))) (fun _ _ _ _ _ => (se_lst (sa_cons (se_ix ix_seq w_ix (sv 8) se_int) (sa_cons se_str (sa_cons (se_ix ix_seq w_ix (sv 8) se_int) sa_nil))))))) ss_nil)
    (ss_one (ss_ret (se_tup (sa_cons (sv 3) (sa_cons (sv 4) (sa_cons (sv 5) sa_nil))))))))))))))))
theorem sc__law_events : FnScope N__law_events ["_law_rule_here", "_law_room"] (defScope st__law_events) := ⟨rfl, rfl, rfl, by decide +kernel, rfl, by decide +kernel, by decide +kernel⟩
theorem ok__law_events (T : Txt K mg) : FnG P w K mg base 3 (He.ga K "_law_events") T.fd__law_events ["_law_rule_here", "_law_room"] (spOf K (cl K) 2 r__law_events) := by
  refine fn_pw (fn_ok (N := N__law_events) (d := d__law_events) T.f__law_events.F sc__law_events rfl fun cdv A outer s H E hr => ?_)
  have tk := takes_of (X := cxOf (L2.CX P w) P w K mg base N__law_events "_law_events" (defScope st__law_events) (He.ga K "_law_events") cdv A outer s H E) (E := E) rfl rfl rfl rfl
  exact (ss_cons (ss_setLcM (i := 2) (own := [("_law_row_here", 4)]) rfl sc__law_events.nd rfl rfl (sw_true rfl rfl rfl (by decide +kernel)) (si_seq (se_ix ix_seq w_ix (sv 1) se_int)) (blkOk_by (N := N__law_events) (sc := defScope st__law_events) (by decide +kernel)) (by decide) (fun _ _ _ _ _ => (sg_name (pg_name (i := 4) sc__law_events.nd rfl (by first | exact Or.inl rfl | exact Or.inr rfl)))) (fun _ _ _ _ _ => stc_nil) (fun _ _ _ _ _ => (se_tup (sa_cons se_str (sa_cons (se_ix ix_seq w_ix (sv 4) se_int) sa_nil)))))
    (ss_cons (ss_for (passes_of rfl) rfl (si_seq (se_tup (sa_cons se_str (sa_cons se_str (sa_cons se_str (sa_cons se_str sa_nil)))))) (sg_name (pg_name (i := 3) sc__law_events.nd rfl (by first | exact Or.inl rfl | exact Or.inr rfl))) (ss_one (ss_expr (se_ext (sv 2) (se_fz (se_lc (own := [("_law_row_here", 4)]) rfl sc__law_events.nd (si_seq (se_ix ix_seq w_ix (sv 1) se_int)) (blkOk_by (N := N__law_events) (sc := defScope st__law_events) (by decide +kernel)) (by decide) (fun _ _ _ _ _ => (sg_name (pg_name (i := 4) sc__law_events.nd rfl (by first | exact Or.inl rfl | exact Or.inr rfl)))) (fun _ _ _ _ _ => stc_nil) (fun _ _ _ _ _ => (se_tup (sa_cons (sv 3) (sa_cons (se_ix ix_seq w_ix (sv 4) se_int) sa_nil))))))))))
    (ss_one (ss_ret (se_fz (sn_cb (cr_sortD (hu65 hr)) w_sorted T.m_sorted (by decide +kernel) (sa_cons (se_fz (se_lc (own := [("_law_event", 5)]) rfl sc__law_events.nd (si_seq (se_op o_add w_add (sv 2) (se_lst (sa_cons (se_tup (sa_cons se_str sa_nil)) (sa_cons (se_tup (sa_cons se_str sa_nil)) sa_nil))))) (blkOk_by (N := N__law_events) (sc := defScope st__law_events) (by decide +kernel)) (by decide) (fun _ _ _ _ _ => (sg_name (pg_name (i := 5) sc__law_events.nd rfl (by first | exact Or.inl rfl | exact Or.inr rfl)))) (fun _ _ _ _ _ => (stc_one (st_val (se_call (ok__law_can T) (hr.mono (by decide)) T.f__law_can.g T.f__law_can.F.kp T.f__law_can.b takes0 (sa_cons (sv 0) (sa_cons (sv 1) (sa_cons (sv 5) sa_nil))))))) (fun _ _ _ _ _ => (sv 5)))) sa_nil)))))))
theorem sc__law_rule : FnScope N__law_rule ["_law_state"] (defScope st__law_rule) := ⟨rfl, rfl, rfl, by decide +kernel, rfl, by decide +kernel, by decide +kernel⟩
theorem ok__law_rule (T : Txt K mg) : FnG P w K mg base 3 (He.ga K "_law_rule") T.fd__law_rule ["_law_state"] (spOf K (cl K) 1 r__law_rule) := by
  refine fn_ok (N := N__law_rule) (d := d__law_rule) T.f__law_rule.F sc__law_rule rfl fun cdv A outer s H E hr => ?_
  have tk := takes_of (X := cxOf (L2.CX P w) P w K mg base N__law_rule "_law_rule" (defScope st__law_rule) (He.ga K "_law_rule") cdv A outer s H E) (E := E) rfl rfl rfl rfl
  exact (ss_cons (ss_set (i := 1) sc__law_rule.nd rfl (by first | exact Or.inl rfl | exact Or.inr rfl) (se_op o_add w_add se_int (se_call (ok__law_draw T) (hr.mono (by decide)) T.f__law_draw.g T.f__law_draw.F.kp T.f__law_draw.b tk (sa_cons (sv 0) (sa_cons se_int sa_nil)))))
    (ss_cons (ss_set (i := 2) sc__law_rule.nd rfl (by first | exact Or.inl rfl | exact Or.inr rfl) (se_lst (sa_cons (se_ix ix_seq w_ix (se_lst (sa_cons se_str (sa_cons se_str sa_nil))) (se_call (ok__law_draw T) (hr.mono (by decide)) T.f__law_draw.g T.f__law_draw.F.kp T.f__law_draw.b tk (sa_cons (sv 0) (sa_cons se_int sa_nil)))) (sa_cons (se_ix ix_seq w_ix (se_lst (sa_cons se_str (sa_cons se_str (sa_cons se_str sa_nil)))) (se_call (ok__law_draw T) (hr.mono (by decide)) T.f__law_draw.g T.f__law_draw.F.kp T.f__law_draw.b tk (sa_cons (sv 0) (sa_cons se_int sa_nil)))) sa_nil))))
    (ss_cons (ss_set (i := 2) sc__law_rule.nd rfl (by first | exact Or.inl rfl | exact Or.inr rfl) (se_op o_add w_add (sv 2) (se_lst (sa_cons (se_ix ix_seq w_ix (se_lst (sa_cons se_str (sa_cons se_str (sa_cons se_str sa_nil)))) (se_call (ok__law_draw T) (hr.mono (by decide)) T.f__law_draw.g T.f__law_draw.F.kp T.f__law_draw.b tk (sa_cons (sv 0) (sa_cons se_int sa_nil)))) (sa_cons (se_ix ix_seq w_ix (se_lst (sa_cons se_str (sa_cons se_str (sa_cons se_str sa_nil)))) (se_call (ok__law_draw T) (hr.mono (by decide)) T.f__law_draw.g T.f__law_draw.F.kp T.f__law_draw.b tk (sa_cons (sv 0) (sa_cons se_int sa_nil)))) sa_nil)))))
    (ss_one (ss_ret (se_op o_add w_add (se_op o_add w_add (se_tup (sa_cons (sv 1) (sa_cons (se_call (ok__law_draw T) (hr.mono (by decide)) T.f__law_draw.g T.f__law_draw.F.kp T.f__law_draw.b tk (sa_cons (sv 0) (sa_cons (se_op o_add w_add (sv 1) se_int) sa_nil))) sa_nil))) (se_ct call_tuple_of w_tuple T.m_tuple (by decide +kernel) (sa_cons (sv 2) sa_nil))) (se_tup (sa_cons (se_ix ix_seq w_ix (se_lst (sa_cons se_str (sa_cons se_str sa_nil))) (se_call (ok__law_draw T) (hr.mono (by decide)) T.f__law_draw.g T.f__law_draw.F.kp T.f__law_draw.b tk (sa_cons (sv 0) (sa_cons se_int sa_nil)))) sa_nil))))))))
theorem sc__law_row : FnScope N__law_row ["_law_state", "_law_rule_here", "_law_most"] (defScope st__law_row) := ⟨rfl, rfl, rfl, by decide +kernel, rfl, by decide +kernel, by decide +kernel⟩
theorem ok__law_row (T : Txt K mg) : FnG P w K mg base 6 (He.ga K "_law_row") T.fd__law_row ["_law_state", "_law_rule_here", "_law_most"] (spOf K (cl K) 3 r__law_row) := by
  refine fn_ok (N := N__law_row) (d := d__law_row) T.f__law_row.F sc__law_row rfl fun cdv A outer s H E hr => ?_
  have tk := takes_of (X := cxOf (L2.CX P w) P w K mg base N__law_row "_law_row" (defScope st__law_row) (He.ga K "_law_row") cdv A outer s H E) (E := E) rfl rfl rfl rfl
  exact (ss_cons (ss_par3 (i := 3) (j := 4) (l := 5) rfl sc__law_row.nd rfl rfl rfl (by decide) (by decide) (by decide) rfl rfl rfl (sa_cons (se_tup (sa_cons (se_lst sa_nil) (sa_cons se_int (sa_cons (se_lst sa_nil) sa_nil)))) (sa_cons (se_lstM (sa_cons (se_tup (sa_cons (se_lst sa_nil) (sa_cons se_int (sa_cons (se_lst sa_nil) sa_nil)))) sa_nil)) (sa_cons (se_lstM sa_nil) sa_nil))) rfl)
    (ss_cons (ss_for (passes_of rfl) rfl (si_rng1 T.m_range (sa_cons (se_call (ok__law_draw T) (hr.mono (by decide)) T.f__law_draw.g T.f__law_draw.F.kp T.f__law_draw.b tk (sa_cons (sv 0) (sa_cons (se_op o_add w_add (sv 2) se_int) sa_nil))) sa_nil) a1_len) (sg_name (pg_name (i := 6) sc__law_row.nd rfl (by first | exact Or.inl rfl | exact Or.inr rfl))) (ss_cons (ss_set (i := 7) sc__law_row.nd rfl (by first | exact Or.inl rfl | exact Or.inr rfl) (se_call (ok__law_events T) (hr.mono (by decide)) T.f__law_events.g T.f__law_events.F.kp T.f__law_events.b tk (sa_cons (sv 1) (sa_cons (sv 3) sa_nil))))
    (ss_cons (ss_set (i := 7) sc__law_row.nd rfl (by first | exact Or.inl rfl | exact Or.inr rfl) (se_op o_add w_add (se_op o_mul w_mul (se_fz (se_lc (own := [("_law_event", 8)]) rfl sc__law_row.nd (si_seq (sv 7)) (blkOk_by (N := N__law_row) (sc := defScope st__law_row) (by decide +kernel)) (by decide) (fun _ _ _ _ _ => (sg_name (pg_name (i := 8) sc__law_row.nd rfl (by first | exact Or.inl rfl | exact Or.inr rfl)))) (fun _ _ _ _ _ => (stc_one (st_cmp (op_inA (hu65 hr)) w_in (se_ix ix_seq w_ix (sv 8) se_int) (se_tup (sa_cons se_str (sa_cons se_str (sa_cons se_str (sa_cons se_str sa_nil))))) rfl))) (fun _ _ _ _ _ => (sv 8)))) se_int) (sv 7)))
    (ss_cons (ss_if (st_cmp op_lt w_lt (se_ix ix_seq w_ix (sv 3) se_int) se_int rfl) (ss_one (ss_set (i := 7) sc__law_row.nd rfl (by first | exact Or.inl rfl | exact Or.inr rfl) (se_op o_add w_add (sv 7) (se_op o_mul w_mul (se_lst (sa_cons (se_tup (sa_cons se_str sa_nil)) sa_nil)) se_int)))) ss_nil)
    (ss_cons (ss_if (st_cmp (op_eqD hr.units) w_eq (sv 7) (se_lst sa_nil) rfl) (ss_one (ss_ret (se_tup (sa_cons (se_ct call_tuple_of w_tuple T.m_tuple (by decide +kernel) (sa_cons (sv 5) sa_nil)) (sa_cons (se_frz 4) sa_nil))))) ss_nil)
    (ss_cons (ss_set (i := 8) sc__law_row.nd rfl (by first | exact Or.inl rfl | exact Or.inr rfl) (se_ix ix_seq w_ix (sv 7) (se_call (ok__law_draw T) (hr.mono (by decide)) T.f__law_draw.g T.f__law_draw.F.kp T.f__law_draw.b tk (sa_cons (sv 0) (sa_cons (se_cb c_len w_len T.m_len boot_len (sa_cons (sv 7) sa_nil)) sa_nil)))))
    (ss_cons (ss_set (i := 3) sc__law_row.nd rfl (by first | exact Or.inl rfl | exact Or.inr rfl) (se_call (ok__law_do T) (hr.mono (by decide)) T.f__law_do.g T.f__law_do.F.kp T.f__law_do.b tk (sa_cons (sv 1) (sa_cons (sv 3) (sa_cons (sv 8) sa_nil)))))
    (ss_cons (ss_expr (se_app (sv 5) (sv 8)))
    (ss_one (ss_expr (se_app (sv 4) (sv 3))))))))))))
    (ss_one (ss_ret (se_tup (sa_cons (se_ct call_tuple_of w_tuple T.m_tuple (by decide +kernel) (sa_cons (sv 5) sa_nil)) (sa_cons (se_frz 4) sa_nil)))))))
theorem sc__law_room_right : FnScope N__law_room_right ["_law_rule_here", "_law_events_here"] (defScope st__law_room_right) := ⟨rfl, rfl, rfl, by decide +kernel, rfl, by decide +kernel, by decide +kernel⟩
theorem ok__law_room_right (T : Txt K mg) : FnG P w K mg base 11 (He.ga K "_law_room_right") T.fd__law_room_right ["_law_rule_here", "_law_events_here"] (spOf K (cl K) 2 r__law_room_right) := by
  refine fn_pw (fn_ok (N := N__law_room_right) (d := d__law_room_right) T.f__law_room_right.F sc__law_room_right rfl fun cdv A outer s H E hr => ?_)
  have tk := takes_of (X := cxOf (L2.CX P w) P w K mg base N__law_room_right "_law_room_right" (defScope st__law_room_right) (He.ga K "_law_room_right") cdv A outer s H E) (E := E) rfl rfl rfl rfl
  exact (ss_cons (ss_set (i := 2) sc__law_room_right.nd rfl (by first | exact Or.inl rfl | exact Or.inr rfl) (se_call (ok_standing_behind T) (hr.mono (by decide)) T.f_standing_behind.g T.f_standing_behind.F.kp T.f_standing_behind.b tk (sa_cons (sv 0) (sa_cons (sv 1) sa_nil))))
    (ss_cons (ss_setLc (i := 3) (own := [("_law_row_here", 11)]) rfl sc__law_room_right.nd rfl rfl (sw_true rfl rfl rfl (by decide +kernel)) (si_seq (sv 2)) (blkOk_by (N := N__law_room_right) (sc := defScope st__law_room_right) (by decide +kernel)) (by decide) (fun _ _ _ _ _ => (sg_name (pg_name (i := 11) sc__law_room_right.nd rfl (by first | exact Or.inl rfl | exact Or.inr rfl)))) (fun _ _ _ _ _ => stc_nil) (fun _ _ _ _ _ => (se_fz (sn_ct call_list_of w_list T.m_list (by decide +kernel) (sa_cons (sv 11) sa_nil)))))
    (ss_cons (ss_for (passes_of rfl) rfl (si_enum T.m_enumerate (sv 2)) (sg_tup rfl (sgs_cons (sg_name (pg_name (i := 4) sc__law_room_right.nd rfl (by first | exact Or.inl rfl | exact Or.inr rfl))) (sgs_cons (sg_tup rfl (sgs_cons (sg_name (pg_name (i := 5) sc__law_room_right.nd rfl (by first | exact Or.inl rfl | exact Or.inr rfl))) (sgs_cons (sg_name (pg_name (i := 6) sc__law_room_right.nd rfl (by first | exact Or.inl rfl | exact Or.inr rfl))) (sgs_cons (sg_name (pg_name (i := 7) sc__law_room_right.nd rfl (by first | exact Or.inl rfl | exact Or.inr rfl))) sgs_nil))) (gsCons_len (gsCons_len (gsCons_len gsNil_len)))) sgs_nil)) (gsCons_len (gsCons_len gsNil_len))) (ss_cons (ss_if (st_cmp (op_neD hr.units) w_ne (sv 6) se_str rfl) (ss_one ss_continue) ss_nil)
    (ss_cons (ss_if (PW.pt (sw_or (st_cmp (op_neD hr.units) w_ne (sv 7) (se_call (ok__law_names T) (hr.mono (by decide)) T.f__law_names.g T.f__law_names.F.kp T.f__law_names.b tk (sa_cons (sv 0) (sa_cons (sv 3) (sa_cons (sv 4) sa_nil)))) rfl) (sw_or1 (st_cmp (op_neD hr.units) w_ne (se_call (ok_names_behind T) (hr.mono (by decide)) T.f_names_behind.g T.f_names_behind.F.kp T.f_names_behind.b tk (sa_cons (sv 0) (sa_cons (sv 1) (sa_cons (sv 5) sa_nil)))) (sv 7) rfl)))) (ss_one (ss_ret se_bl)) ss_nil)
    (ss_one (ss_if (st_cmp (op_neD hr.units) w_ne (se_call (ok_stale_behind T) (hr.mono (by decide)) T.f_stale_behind.g T.f_stale_behind.F.kp T.f_stale_behind.b tk (sa_cons (sv 0) (sa_cons (sv 1) (sa_cons (sv 5) sa_nil)))) (se_tup sa_nil) rfl) (ss_one (ss_ret se_bl)) ss_nil)))))
    (ss_cons (ss_par (i := 8) (j := 9) rfl sc__law_room_right.nd rfl rfl (by decide) rfl rfl (sa_cons (se_lstM sa_nil) (sa_cons (se_call (ok_gaps_behind T) (hr.mono (by decide)) T.f_gaps_behind.g T.f_gaps_behind.F.kp T.f_gaps_behind.b tk (sa_cons (sv 0) (sa_cons (sv 1) sa_nil))) sa_nil)) rfl)
    (ss_cons (ss_for (passes_of rfl) rfl (si_seq (sv 9)) (sg_tup rfl (sgs_cons (sg_name (pg_name (i := 5) sc__law_room_right.nd rfl (by first | exact Or.inl rfl | exact Or.inr rfl))) (sgs_cons (sg_name (pg_name (i := 10) sc__law_room_right.nd rfl (by first | exact Or.inl rfl | exact Or.inr rfl))) sgs_nil)) (gsCons_len (gsCons_len gsNil_len))) (ss_one (ss_if (PW.pt (sw_or (PW.pt (sw_and (st_cmp (op_eqD hr.units) w_eq (sv 5) (se_ix ix_seq w_ix (se_ix ix_seq w_ix (sv 9) se_int) se_int) rfl) (sw_and1 (st_cmp op_le w_le (sv 10) (se_ix ix_seq w_ix (sv 0) se_int) rfl)))) (sw_or1 (PW.pt (sw_and (st_cmp (op_eqD hr.units) w_eq (se_ix ix_seq w_ix (sv 0) se_int) (se_ix ix_seq w_ix (sv 0) se_int) rfl) (sw_and1 (st_cmp op_ge w_ge (sv 10) (se_ix ix_seq w_ix (sv 0) se_int) rfl))))))) (ss_one (ss_expr (se_app (sv 8) (sv 5)))) ss_nil)))
    (ss_cons (ss_if (st_cmp (op_neD hr.units) w_ne (se_call (ok_here_behind T) (hr.mono (by decide)) T.f_here_behind.g T.f_here_behind.F.kp T.f_here_behind.b tk (sa_cons (sv 0) (sa_cons (sv 1) sa_nil))) (se_ct call_tuple_of w_tuple T.m_tuple (by decide +kernel) (sa_cons (se_fz (se_lc (own := [("_law_person", 5), ("_law_gap", 10)]) rfl sc__law_room_right.nd (si_seq (sv 9)) (blkOk_by (N := N__law_room_right) (sc := defScope st__law_room_right) (by decide +kernel)) (by decide) (fun _ _ _ _ _ => (sg_tup rfl (sgs_cons (sg_name (pg_name (i := 5) sc__law_room_right.nd rfl (by first | exact Or.inl rfl | exact Or.inr rfl))) (sgs_cons (sg_name (pg_name (i := 10) sc__law_room_right.nd rfl (by first | exact Or.inl rfl | exact Or.inr rfl))) sgs_nil)) (gsCons_len (gsCons_len gsNil_len)))) (fun _ _ _ _ _ => stc_nil) (fun _ _ _ _ _ => (sv 5)))) sa_nil)) rfl) (ss_one (ss_ret se_bl)) ss_nil)
    (ss_one (ss_ret (se_cmp (op_eqD hr.units) w_eq (se_call (ok_claims_behind T) (hr.mono (by decide)) T.f_claims_behind.g T.f_claims_behind.F.kp T.f_claims_behind.b tk (sa_cons (sv 0) (sa_cons (sv 1) sa_nil))) (se_ct call_tuple_of w_tuple T.m_tuple (by decide +kernel) (sa_cons (sv 8) sa_nil)) rfl)))))))))
theorem sc_law : FnScope N_law ["_law_script"] (defScope st_law) := ⟨rfl, rfl, rfl, by decide +kernel, rfl, by decide +kernel, by decide +kernel⟩
theorem ok_law (T : Txt K mg) : FnG P w K mg base 12 (He.ga K "law") T.fd_law ["_law_script"] (spOf K (cl K) 1 r_law) := by
  refine fn_ok (N := N_law) (d := d_law) T.f_law.F sc_law rfl fun cdv A outer s H E hr => ?_
  have tk := takes_of (X := cxOf (L2.CX P w) P w K mg base N_law "law" (defScope st_law) (He.ga K "law") cdv A outer s H E) (E := E) rfl rfl rfl rfl
  exact (ss_cons (ss_set (i := 1) sc_law.nd rfl (by first | exact Or.inl rfl | exact Or.inr rfl) (se_call (ok__law_begin T) (hr.mono (by decide)) T.f__law_begin.g T.f__law_begin.F.kp T.f__law_begin.b tk (sa_cons (sv 0) sa_nil)))
    (ss_cons (ss_for (passes_of rfl) rfl (si_rng1 T.m_range (sa_cons se_int sa_nil) a1_len) (sg_name (pg_name (i := 2) sc_law.nd rfl (by first | exact Or.inl rfl | exact Or.inr rfl))) (ss_cons (ss_set (i := 3) sc_law.nd rfl (by first | exact Or.inl rfl | exact Or.inr rfl) (se_call (ok__law_rule T) (hr.mono (by decide)) T.f__law_rule.g T.f__law_rule.F.kp T.f__law_rule.b tk (sa_cons (sv 1) sa_nil)))
    (ss_cons (ss_set (i := 3) sc_law.nd rfl (by first | exact Or.inl rfl | exact Or.inr rfl) (se_op o_add w_add (se_sl (sv 3) so_none (so_some se_int)) (se_tup (sa_cons se_str (sa_cons se_str (sa_cons (se_ix ix_seq w_ix (se_lst (sa_cons se_str (sa_cons se_str sa_nil))) (se_call (ok__law_draw T) (hr.mono (by decide)) T.f__law_draw.g T.f__law_draw.F.kp T.f__law_draw.b tk (sa_cons (sv 1) (sa_cons se_int sa_nil)))) (sa_cons se_str (sa_cons (se_ix ix_seq w_ix (sv 3) se_int) sa_nil))))))))
    (ss_cons (ss_asg (se_call (ok__law_row T) (hr.mono (by decide)) T.f__law_row.g T.f__law_row.F.kp T.f__law_row.b tk (sa_cons (sv 1) (sa_cons (sv 3) (sa_cons se_int sa_nil)))) (sg_tup rfl (sgs_cons (sg_name (pg_name (i := 4) sc_law.nd rfl (by first | exact Or.inl rfl | exact Or.inr rfl))) (sgs_cons (sg_name (pg_name (i := 5) sc_law.nd rfl (by first | exact Or.inl rfl | exact Or.inr rfl))) sgs_nil)) (gsCons_len (gsCons_len gsNil_len))))
    (ss_cons (ss_if (st_cmp op_notBl w_notB (se_call (ok_is_tidy T) (hr.mono (by decide)) T.f_is_tidy.g T.f_is_tidy.F.kp T.f_is_tidy.b tk (sa_cons (sv 3) sa_nil)) se_bl rfl) (ss_one (ss_ret se_bl)) ss_nil)
    (ss_one (ss_for (passes_of rfl) rfl (si_rng1 T.m_range (sa_cons (se_op o_add w_add (se_cb c_len w_len T.m_len boot_len (sa_cons (sv 4) sa_nil)) se_int) sa_nil) a1_len) (sg_name (pg_name (i := 6) sc_law.nd rfl (by first | exact Or.inl rfl | exact Or.inr rfl))) (ss_cons (ss_if (PW.pt (sw_and (st_cmp op_gt w_gt (sv 6) se_int rfl) (sw_and (st_cmp op_lt w_lt (sv 6) (se_cb c_len w_len T.m_len boot_len (sa_cons (sv 4) sa_nil)) rfl) (sw_and1 (st_cmp op_gt w_gt (se_op op_mod w_mod (se_ct call_int1 w_int T.m_int (by decide +kernel) (sa_cons (sv 6) sa_nil)) se_int) se_int rfl))))) (ss_one ss_continue) ss_nil)
    (ss_one (ss_if (st_not (st_val (se_call (ok__law_room_right T) (hr.mono (by decide)) T.f__law_room_right.g T.f__law_room_right.F.kp T.f__law_room_right.b tk (sa_cons (sv 3) (sa_cons (se_sl (sv 4) so_none (so_some (sv 6))) sa_nil))))) (ss_one (ss_ret se_bl)) ss_nil))))))))))
    (ss_one (ss_ret se_bl))))
end
def fa : List He.Fa := [.glo "is_integer", .glo "is_between", .glo "is_one_of", .glo "need_rule", .glo "is_tidy_rule", .glo "is_tidy", .glo "nearest_ahead", .glo "renewed", .glo "spot_of", .glo "as_how", .glo "without", .glo "forgetting", .glo "asked_again", .glo "claiming", .glo "has_form", .glo "room_behind", .glo "need_room", .glo "standing_behind", .glo "line_behind", .glo "here_behind", .glo "names_behind", .glo "stale_behind", .glo "gaps_in", .glo "gaps_behind", .glo "claims_in", .glo "claims_behind", .glo "_law_mixed", .glo "_law_begin", .glo "_law_draw", .glo "_law_of", .glo "_law_names", .glo "_law_renew", .glo "_law_gone", .glo "_law_here", .glo "_law_asked", .glo "_law_claims", .glo "_law_come", .glo "_law_how", .glo "_law_can", .glo "_law_back", .glo "_law_do", .glo "_law_events", .glo "_law_rule", .glo "_law_row", .glo "_law_room_right", .glo "law", .free "any", .free "bool", .free "enumerate", .free "int", .free "isinstance", .free "len", .free "list", .free "range", .free "sorted", .free "str", .free "tuple", .cls "Room", .noat "Room" "came_so_far", .noat "Room" "line_now", .noat "Room" "own_rule", .noat "Room" "served_so_far", .meth "Room" "are_here", .meth "Room" "bring_back", .meth "Room" "can_be", .meth "Room" "do", .meth "Room" "do_personal", .meth "Room" "how_is", .meth "Room" "open_door", .meth "Room" "put_in", .meth "Room" "renew_from", .mkr "Room", .glo "Room"]
def dd_is_integer : He.DefD := ⟨("is_integer", none), "is_integer", "is_integer", defArgs st_is_integer, defBody st_is_integer, defScope st_is_integer, [], []⟩
def dd_is_between : He.DefD := ⟨("is_between", none), "is_between", "is_between", defArgs st_is_between, defBody st_is_between, defScope st_is_between, [], []⟩
def dd_is_one_of : He.DefD := ⟨("is_one_of", none), "is_one_of", "is_one_of", defArgs st_is_one_of, defBody st_is_one_of, defScope st_is_one_of, [], []⟩
def dd_need_rule : He.DefD := ⟨("need_rule", none), "need_rule", "need_rule", defArgs st_need_rule, defBody st_need_rule, defScope st_need_rule, [], []⟩
def dd_is_tidy_rule : He.DefD := ⟨("is_tidy_rule", none), "is_tidy_rule", "is_tidy_rule", defArgs st_is_tidy_rule, defBody st_is_tidy_rule, defScope st_is_tidy_rule, [], []⟩
def dd_is_tidy : He.DefD := ⟨("is_tidy", none), "is_tidy", "is_tidy", defArgs st_is_tidy, defBody st_is_tidy, defScope st_is_tidy, [], []⟩
def dd_nearest_ahead : He.DefD := ⟨("nearest_ahead", none), "nearest_ahead", "nearest_ahead", defArgs st_nearest_ahead, defBody st_nearest_ahead, defScope st_nearest_ahead, [], []⟩
def dd_renewed : He.DefD := ⟨("renewed", none), "renewed", "renewed", defArgs st_renewed, defBody st_renewed, defScope st_renewed, [], []⟩
def dd_spot_of : He.DefD := ⟨("spot_of", none), "spot_of", "spot_of", defArgs st_spot_of, defBody st_spot_of, defScope st_spot_of, [], []⟩
def dd_as_how : He.DefD := ⟨("as_how", none), "as_how", "as_how", defArgs st_as_how, defBody st_as_how, defScope st_as_how, [], []⟩
def dd_without : He.DefD := ⟨("without", none), "without", "without", defArgs st_without, defBody st_without, defScope st_without, [], []⟩
def dd_forgetting : He.DefD := ⟨("forgetting", none), "forgetting", "forgetting", defArgs st_forgetting, defBody st_forgetting, defScope st_forgetting, [], []⟩
def dd_asked_again : He.DefD := ⟨("asked_again", none), "asked_again", "asked_again", defArgs st_asked_again, defBody st_asked_again, defScope st_asked_again, [], []⟩
def dd_claiming : He.DefD := ⟨("claiming", none), "claiming", "claiming", defArgs st_claiming, defBody st_claiming, defScope st_claiming, [], []⟩
def dd_has_form : He.DefD := ⟨("has_form", none), "has_form", "has_form", defArgs st_has_form, defBody st_has_form, defScope st_has_form, [], []⟩
def dd_Room___init__ : He.DefD := ⟨("Room", some "__init__"), "__init__", "Room.__init__", defArgs st_Room___init__, defBody st_Room___init__, defScope st_Room___init__, [], []⟩
def dd_Room_put_in : He.DefD := ⟨("Room", some "put_in"), "put_in", "Room.put_in", defArgs st_Room_put_in, defBody st_Room_put_in, defScope st_Room_put_in, [], []⟩
def dd_Room_open_door : He.DefD := ⟨("Room", some "open_door"), "open_door", "Room.open_door", defArgs st_Room_open_door, defBody st_Room_open_door, defScope st_Room_open_door, [], []⟩
def dd_Room_renew_from : He.DefD := ⟨("Room", some "renew_from"), "renew_from", "Room.renew_from", defArgs st_Room_renew_from, defBody st_Room_renew_from, defScope st_Room_renew_from, [], []⟩
def dd_Room_bring_back : He.DefD := ⟨("Room", some "bring_back"), "bring_back", "Room.bring_back", defArgs st_Room_bring_back, defBody st_Room_bring_back, defScope st_Room_bring_back, [], []⟩
def dd_Room_do_personal : He.DefD := ⟨("Room", some "do_personal"), "do_personal", "Room.do_personal", defArgs st_Room_do_personal, defBody st_Room_do_personal, defScope st_Room_do_personal, [], []⟩
def dd_Room_do : He.DefD := ⟨("Room", some "do"), "do", "Room.do", defArgs st_Room_do, defBody st_Room_do, defScope st_Room_do, [], []⟩
def dd_Room_how_is : He.DefD := ⟨("Room", some "how_is"), "how_is", "Room.how_is", defArgs st_Room_how_is, defBody st_Room_how_is, defScope st_Room_how_is, [], []⟩
def dd_Room_are_here : He.DefD := ⟨("Room", some "are_here"), "are_here", "Room.are_here", defArgs st_Room_are_here, defBody st_Room_are_here, defScope st_Room_are_here, [], []⟩
def dd_Room_can_be : He.DefD := ⟨("Room", some "can_be"), "can_be", "Room.can_be", defArgs st_Room_can_be, defBody st_Room_can_be, defScope st_Room_can_be, [], []⟩
def dd_room_behind : He.DefD := ⟨("room_behind", none), "room_behind", "room_behind", defArgs st_room_behind, defBody st_room_behind, defScope st_room_behind, [], []⟩
def dd_need_room : He.DefD := ⟨("need_room", none), "need_room", "need_room", defArgs st_need_room, defBody st_need_room, defScope st_need_room, [], []⟩
def dd_standing_behind : He.DefD := ⟨("standing_behind", none), "standing_behind", "standing_behind", defArgs st_standing_behind, defBody st_standing_behind, defScope st_standing_behind, [], []⟩
def dd_line_behind : He.DefD := ⟨("line_behind", none), "line_behind", "line_behind", defArgs st_line_behind, defBody st_line_behind, defScope st_line_behind, [], []⟩
def dd_here_behind : He.DefD := ⟨("here_behind", none), "here_behind", "here_behind", defArgs st_here_behind, defBody st_here_behind, defScope st_here_behind, [], []⟩
def dd_names_behind : He.DefD := ⟨("names_behind", none), "names_behind", "names_behind", defArgs st_names_behind, defBody st_names_behind, defScope st_names_behind, [], []⟩
def dd_stale_behind : He.DefD := ⟨("stale_behind", none), "stale_behind", "stale_behind", defArgs st_stale_behind, defBody st_stale_behind, defScope st_stale_behind, [], []⟩
def dd_gaps_in : He.DefD := ⟨("gaps_in", none), "gaps_in", "gaps_in", defArgs st_gaps_in, defBody st_gaps_in, defScope st_gaps_in, [], []⟩
def dd_gaps_behind : He.DefD := ⟨("gaps_behind", none), "gaps_behind", "gaps_behind", defArgs st_gaps_behind, defBody st_gaps_behind, defScope st_gaps_behind, [], []⟩
def dd_claims_in : He.DefD := ⟨("claims_in", none), "claims_in", "claims_in", defArgs st_claims_in, defBody st_claims_in, defScope st_claims_in, [], []⟩
def dd_claims_behind : He.DefD := ⟨("claims_behind", none), "claims_behind", "claims_behind", defArgs st_claims_behind, defBody st_claims_behind, defScope st_claims_behind, [], []⟩
def dd__law_mixed : He.DefD := ⟨("_law_mixed", none), "_law_mixed", "_law_mixed", defArgs st__law_mixed, defBody st__law_mixed, defScope st__law_mixed, [], []⟩
def dd__law_begin : He.DefD := ⟨("_law_begin", none), "_law_begin", "_law_begin", defArgs st__law_begin, defBody st__law_begin, defScope st__law_begin, [], []⟩
def dd__law_draw : He.DefD := ⟨("_law_draw", none), "_law_draw", "_law_draw", defArgs st__law_draw, defBody st__law_draw, defScope st__law_draw, [], []⟩
def dd__law_of : He.DefD := ⟨("_law_of", none), "_law_of", "_law_of", defArgs st__law_of, defBody st__law_of, defScope st__law_of, [], []⟩
def dd__law_names : He.DefD := ⟨("_law_names", none), "_law_names", "_law_names", defArgs st__law_names, defBody st__law_names, defScope st__law_names, [], []⟩
def dd__law_renew : He.DefD := ⟨("_law_renew", none), "_law_renew", "_law_renew", defArgs st__law_renew, defBody st__law_renew, defScope st__law_renew, [], []⟩
def dd__law_gone : He.DefD := ⟨("_law_gone", none), "_law_gone", "_law_gone", defArgs st__law_gone, defBody st__law_gone, defScope st__law_gone, [], []⟩
def dd__law_here : He.DefD := ⟨("_law_here", none), "_law_here", "_law_here", defArgs st__law_here, defBody st__law_here, defScope st__law_here, [], []⟩
def dd__law_asked : He.DefD := ⟨("_law_asked", none), "_law_asked", "_law_asked", defArgs st__law_asked, defBody st__law_asked, defScope st__law_asked, [], []⟩
def dd__law_claims : He.DefD := ⟨("_law_claims", none), "_law_claims", "_law_claims", defArgs st__law_claims, defBody st__law_claims, defScope st__law_claims, [], []⟩
def dd__law_come : He.DefD := ⟨("_law_come", none), "_law_come", "_law_come", defArgs st__law_come, defBody st__law_come, defScope st__law_come, [], []⟩
def dd__law_how : He.DefD := ⟨("_law_how", none), "_law_how", "_law_how", defArgs st__law_how, defBody st__law_how, defScope st__law_how, [], []⟩
def dd__law_can : He.DefD := ⟨("_law_can", none), "_law_can", "_law_can", defArgs st__law_can, defBody st__law_can, defScope st__law_can, [], []⟩
def dd__law_back : He.DefD := ⟨("_law_back", none), "_law_back", "_law_back", defArgs st__law_back, defBody st__law_back, defScope st__law_back, [], []⟩
def dd__law_do : He.DefD := ⟨("_law_do", none), "_law_do", "_law_do", defArgs st__law_do, defBody st__law_do, defScope st__law_do, [], []⟩
def dd__law_events : He.DefD := ⟨("_law_events", none), "_law_events", "_law_events", defArgs st__law_events, defBody st__law_events, defScope st__law_events, [], []⟩
def dd__law_rule : He.DefD := ⟨("_law_rule", none), "_law_rule", "_law_rule", defArgs st__law_rule, defBody st__law_rule, defScope st__law_rule, [], []⟩
def dd__law_row : He.DefD := ⟨("_law_row", none), "_law_row", "_law_row", defArgs st__law_row, defBody st__law_row, defScope st__law_row, [], []⟩
def dd__law_room_right : He.DefD := ⟨("_law_room_right", none), "_law_room_right", "_law_room_right", defArgs st__law_room_right, defBody st__law_room_right, defScope st__law_room_right, [], []⟩
def dd_law : He.DefD := ⟨("law", none), "law", "law", defArgs st_law, defBody st_law, defScope st_law, [], []⟩
def fn : List He.DefD := [dd_is_integer, dd_is_between, dd_is_one_of, dd_need_rule, dd_is_tidy_rule, dd_is_tidy, dd_nearest_ahead, dd_renewed, dd_spot_of, dd_as_how, dd_without, dd_forgetting, dd_asked_again, dd_claiming, dd_has_form, dd_Room___init__, dd_Room_put_in, dd_Room_open_door, dd_Room_renew_from, dd_Room_bring_back, dd_Room_do_personal, dd_Room_do, dd_Room_how_is, dd_Room_are_here, dd_Room_can_be, dd_room_behind, dd_need_room, dd_standing_behind, dd_line_behind, dd_here_behind, dd_names_behind, dd_stale_behind, dd_gaps_in, dd_gaps_behind, dd_claims_in, dd_claims_behind, dd__law_mixed, dd__law_begin, dd__law_draw, dd__law_of, dd__law_names, dd__law_renew, dd__law_gone, dd__law_here, dd__law_asked, dd__law_claims, dd__law_come, dd__law_how, dd__law_can, dd__law_back, dd__law_do, dd__law_events, dd__law_rule, dd__law_row, dd__law_room_right, dd_law]
def ex (K : PySem.W.Frag) : Bool := allB [gloB K "LINE" w_LINE, gloB K "ON" w_ON, gloB K "ASKS" w_ASKS, gloB K "OLD" w_OLD, gloB K "TELLS" w_TELLS, gloB K "TOLD" w_TOLD, gloB K "MOST_NAMES" w_MOST_NAMES, gloB K "CHOICES" w_CHOICES, gloB K "HERE" w_HERE, gloB K "OUT" w_OUT, gloB K "LOST" w_LOST, gloB K "AWAY" w_AWAY, gloB K "COME" w_COME, gloB K "LET" w_LET, gloB K "LEAVE" w_LEAVE, gloB K "BACK" w_BACK, gloB K "DOOR" w_DOOR, gloB K "PERSONAL" w_PERSONAL, gloB K "MOST_EVENTS" w_MOST_EVENTS, gloB K "MOST_PEOPLE" w_MOST_PEOPLE]
abbrev Rw : PySem.W.OpenRow := PySem.W.OpenLaw.row PySem.Challenge.rw_asklast_k05_whole_tidy_rules
abbrev hk : PySem.W.Hook := hookE 4 fa fn ex
def ob (s : PySem.W.SharedT) : He.AlD × Bool := obsEG 4 fa fn ex (HandSHeadRun.getT s)
theorem ob_eq (s : PySem.W.SharedT) : ob s = hk.obs s.abs := obsEG_eq (HandSHeadRun.getT_eq s)
def nm0 : List Str := ["AskError", "BadRule", "BadEvents", "BadPerson", "LINE", "SEEN", "NONE", "ON", "ASKS", "OLD", "TELLS", "QUIET", "TOLD", "CLAIMS", "MOST_NAMES", "CHOICES", "is_integer", "is_between", "is_one_of", "need_rule", "is_tidy_rule", "is_tidy", "HERE", "OUT", "LOST", "AWAY", "COME", "LET", "VANISH", "LEAVE"]
def nm1 : List Str := ["BACK", "DOOR", "PERSONAL", "MOST_EVENTS", "MOST_PEOPLE", "nearest_ahead", "renewed", "spot_of", "as_how", "without", "forgetting", "asked_again", "claiming", "Room", "has_form", "room_behind", "need_room", "standing_behind", "line_behind", "here_behind", "names_behind", "stale_behind", "gaps_in", "gaps_behind", "claims_in", "claims_behind", "_law_mixed", "_law_begin", "_law_draw", "_law_of"]
def nm2 : List Str := ["_law_names", "_law_renew", "_law_gone", "_law_here", "_law_asked", "_law_claims", "_law_come", "_law_how", "_law_can", "_law_back", "_law_do", "_law_events", "_law_rule", "_law_row", "_law_room_right"]
def nms : List Str := nm0 ++ nm1 ++ nm2
theorem run (w : World) : HandSHeadRun.RunEq Rw (PySem.W.view Rw.prog [80]) hk ob 8000 nms w := by
  intro os
  kernel_rfl
theorem facts {P : Program} {w : World} {K : PySem.W.Frag} {h : Heap} {mg : Str → Option Value} {f : Addr} (X : K.In h) (G : h.Ns mainGlobals mg) (hfa : mg ("law" : Str) = some (.ref f)) (c : SaysE fa fn ex K) :
    ∃ fd : FuncData, (∀ (s : Shared) (v : Value), BindsTo s fd ⟨[v], []⟩ [("_law_script", v)]) ∧ ∀ base : Heap, K.In base → base.Ns mainGlobals mg → FnG P w K mg base 12 f fd ["_law_script"] (spOf K (cl K) 1 r_law) := by
  obtain ⟨fd_is_integer, F_is_integer⟩ := c.d.def_ 0 (d := dd_is_integer) rfl
  have g_is_integer := He.glo_ok X G (c.d.fact 0 (f := .glo "is_integer") rfl)
  have b_is_integer := FunD.bindsN (ps := ["thing"]) F_is_integer fun _ _ _ _ _ _ us hl => match us, hl with | [_], _ => rfl
  obtain ⟨fd_is_between, F_is_between⟩ := c.d.def_ 1 (d := dd_is_between) rfl
  have g_is_between := He.glo_ok X G (c.d.fact 1 (f := .glo "is_between") rfl)
  have b_is_between := FunD.bindsN (ps := ["thing", "least", "most"]) F_is_between fun _ _ _ _ _ _ us hl => match us, hl with | [_, _, _], _ => rfl
  obtain ⟨fd_is_one_of, F_is_one_of⟩ := c.d.def_ 2 (d := dd_is_one_of) rfl
  have g_is_one_of := He.glo_ok X G (c.d.fact 2 (f := .glo "is_one_of") rfl)
  have b_is_one_of := FunD.bindsN (ps := ["some", "thing"]) F_is_one_of fun _ _ _ _ _ _ us hl => match us, hl with | [_, _], _ => rfl
  obtain ⟨fd_need_rule, F_need_rule⟩ := c.d.def_ 3 (d := dd_need_rule) rfl
  have g_need_rule := He.glo_ok X G (c.d.fact 3 (f := .glo "need_rule") rfl)
  have b_need_rule := FunD.bindsN (ps := ["thing"]) F_need_rule fun _ _ _ _ _ _ us hl => match us, hl with | [_], _ => rfl
  obtain ⟨fd_is_tidy_rule, F_is_tidy_rule⟩ := c.d.def_ 4 (d := dd_is_tidy_rule) rfl
  have g_is_tidy_rule := He.glo_ok X G (c.d.fact 4 (f := .glo "is_tidy_rule") rfl)
  have b_is_tidy_rule := FunD.bindsN (ps := ["rule"]) F_is_tidy_rule fun _ _ _ _ _ _ us hl => match us, hl with | [_], _ => rfl
  obtain ⟨fd_is_tidy, F_is_tidy⟩ := c.d.def_ 5 (d := dd_is_tidy) rfl
  have g_is_tidy := He.glo_ok X G (c.d.fact 5 (f := .glo "is_tidy") rfl)
  have b_is_tidy := FunD.bindsN (ps := ["rule"]) F_is_tidy fun _ _ _ _ _ _ us hl => match us, hl with | [_], _ => rfl
  obtain ⟨fd_nearest_ahead, F_nearest_ahead⟩ := c.d.def_ 6 (d := dd_nearest_ahead) rfl
  have g_nearest_ahead := He.glo_ok X G (c.d.fact 6 (f := .glo "nearest_ahead") rfl)
  have b_nearest_ahead := FunD.bindsN (ps := ["rule", "line", "spot"]) F_nearest_ahead fun _ _ _ _ _ _ us hl => match us, hl with | [_, _, _], _ => rfl
  obtain ⟨fd_renewed, F_renewed⟩ := c.d.def_ 7 (d := dd_renewed) rfl
  have g_renewed := He.glo_ok X G (c.d.fact 7 (f := .glo "renewed") rfl)
  have b_renewed := FunD.bindsN (ps := ["rule", "line", "spots"]) F_renewed fun _ _ _ _ _ _ us hl => match us, hl with | [_, _, _], _ => rfl
  obtain ⟨fd_spot_of, F_spot_of⟩ := c.d.def_ 8 (d := dd_spot_of) rfl
  have g_spot_of := He.glo_ok X G (c.d.fact 8 (f := .glo "spot_of") rfl)
  have b_spot_of := FunD.bindsN (ps := ["line", "person"]) F_spot_of fun _ _ _ _ _ _ us hl => match us, hl with | [_, _], _ => rfl
  obtain ⟨fd_as_how, F_as_how⟩ := c.d.def_ 9 (d := dd_as_how) rfl
  have g_as_how := He.glo_ok X G (c.d.fact 9 (f := .glo "as_how") rfl)
  have b_as_how := FunD.bindsN (ps := ["line", "spot", "how"]) F_as_how fun _ _ _ _ _ _ us hl => match us, hl with | [_, _, _], _ => rfl
  obtain ⟨fd_without, F_without⟩ := c.d.def_ 10 (d := dd_without) rfl
  have g_without := He.glo_ok X G (c.d.fact 10 (f := .glo "without") rfl)
  have b_without := FunD.bindsN (ps := ["rule", "line", "person"]) F_without fun _ _ _ _ _ _ us hl => match us, hl with | [_, _, _], _ => rfl
  obtain ⟨fd_forgetting, F_forgetting⟩ := c.d.def_ 11 (d := dd_forgetting) rfl
  have g_forgetting := He.glo_ok X G (c.d.fact 11 (f := .glo "forgetting") rfl)
  have b_forgetting := FunD.bindsN (ps := ["line"]) F_forgetting fun _ _ _ _ _ _ us hl => match us, hl with | [_], _ => rfl
  obtain ⟨fd_asked_again, F_asked_again⟩ := c.d.def_ 12 (d := dd_asked_again) rfl
  have g_asked_again := He.glo_ok X G (c.d.fact 12 (f := .glo "asked_again") rfl)
  have b_asked_again := FunD.bindsN (ps := ["rule", "line"]) F_asked_again fun _ _ _ _ _ _ us hl => match us, hl with | [_, _], _ => rfl
  obtain ⟨fd_claiming, F_claiming⟩ := c.d.def_ 13 (d := dd_claiming) rfl
  have g_claiming := He.glo_ok X G (c.d.fact 13 (f := .glo "claiming") rfl)
  have b_claiming := FunD.bindsN (ps := ["rule", "line"]) F_claiming fun _ _ _ _ _ _ us hl => match us, hl with | [_, _], _ => rfl
  obtain ⟨fd_has_form, F_has_form⟩ := c.d.def_ 14 (d := dd_has_form) rfl
  have g_has_form := He.glo_ok X G (c.d.fact 14 (f := .glo "has_form") rfl)
  have b_has_form := FunD.bindsN (ps := ["thing"]) F_has_form fun _ _ _ _ _ _ us hl => match us, hl with | [_], _ => rfl
  obtain ⟨fd_Room___init__, F_Room___init__⟩ := c.d.def_ 15 (d := dd_Room___init__) rfl
  have b_Room___init__ := FunD.bindsN (ps := ["self", "rule"]) F_Room___init__ fun _ _ _ _ _ _ us hl => match us, hl with | [_, _], _ => rfl
  obtain ⟨fd_Room_put_in, F_Room_put_in⟩ := c.d.def_ 16 (d := dd_Room_put_in) rfl
  have b_Room_put_in := FunD.bindsN (ps := ["self", "spot"]) F_Room_put_in fun _ _ _ _ _ _ us hl => match us, hl with | [_, _], _ => rfl
  obtain ⟨fd_Room_open_door, F_Room_open_door⟩ := c.d.def_ 17 (d := dd_Room_open_door) rfl
  have b_Room_open_door := FunD.bindsN (ps := ["self"]) F_Room_open_door fun _ _ _ _ _ _ us hl => match us, hl with | [_], _ => rfl
  obtain ⟨fd_Room_renew_from, F_Room_renew_from⟩ := c.d.def_ 18 (d := dd_Room_renew_from) rfl
  have b_Room_renew_from := FunD.bindsN (ps := ["self", "spot"]) F_Room_renew_from fun _ _ _ _ _ _ us hl => match us, hl with | [_, _], _ => rfl
  obtain ⟨fd_Room_bring_back, F_Room_bring_back⟩ := c.d.def_ 19 (d := dd_Room_bring_back) rfl
  have b_Room_bring_back := FunD.bindsN (ps := ["self", "spot"]) F_Room_bring_back fun _ _ _ _ _ _ us hl => match us, hl with | [_, _], _ => rfl
  obtain ⟨fd_Room_do_personal, F_Room_do_personal⟩ := c.d.def_ 20 (d := dd_Room_do_personal) rfl
  have b_Room_do_personal := FunD.bindsN (ps := ["self", "word", "person"]) F_Room_do_personal fun _ _ _ _ _ _ us hl => match us, hl with | [_, _, _], _ => rfl
  obtain ⟨fd_Room_do, F_Room_do⟩ := c.d.def_ 21 (d := dd_Room_do) rfl
  have b_Room_do := FunD.bindsN (ps := ["self", "event"]) F_Room_do fun _ _ _ _ _ _ us hl => match us, hl with | [_, _], _ => rfl
  obtain ⟨fd_Room_how_is, F_Room_how_is⟩ := c.d.def_ 22 (d := dd_Room_how_is) rfl
  have b_Room_how_is := FunD.bindsN (ps := ["self", "person"]) F_Room_how_is fun _ _ _ _ _ _ us hl => match us, hl with | [_, _], _ => rfl
  obtain ⟨fd_Room_are_here, F_Room_are_here⟩ := c.d.def_ 23 (d := dd_Room_are_here) rfl
  have b_Room_are_here := FunD.bindsN (ps := ["self"]) F_Room_are_here fun _ _ _ _ _ _ us hl => match us, hl with | [_], _ => rfl
  obtain ⟨fd_Room_can_be, F_Room_can_be⟩ := c.d.def_ 24 (d := dd_Room_can_be) rfl
  have b_Room_can_be := FunD.bindsN (ps := ["self", "event"]) F_Room_can_be fun _ _ _ _ _ _ us hl => match us, hl with | [_, _], _ => rfl
  obtain ⟨fd_room_behind, F_room_behind⟩ := c.d.def_ 25 (d := dd_room_behind) rfl
  have g_room_behind := He.glo_ok X G (c.d.fact 15 (f := .glo "room_behind") rfl)
  have b_room_behind := FunD.bindsN (ps := ["rule", "events"]) F_room_behind fun _ _ _ _ _ _ us hl => match us, hl with | [_, _], _ => rfl
  obtain ⟨fd_need_room, F_need_room⟩ := c.d.def_ 26 (d := dd_need_room) rfl
  have g_need_room := He.glo_ok X G (c.d.fact 16 (f := .glo "need_room") rfl)
  have b_need_room := FunD.bindsN (ps := ["rule", "events"]) F_need_room fun _ _ _ _ _ _ us hl => match us, hl with | [_, _], _ => rfl
  obtain ⟨fd_standing_behind, F_standing_behind⟩ := c.d.def_ 27 (d := dd_standing_behind) rfl
  have g_standing_behind := He.glo_ok X G (c.d.fact 17 (f := .glo "standing_behind") rfl)
  have b_standing_behind := FunD.bindsN (ps := ["rule", "events"]) F_standing_behind fun _ _ _ _ _ _ us hl => match us, hl with | [_, _], _ => rfl
  obtain ⟨fd_line_behind, F_line_behind⟩ := c.d.def_ 28 (d := dd_line_behind) rfl
  have g_line_behind := He.glo_ok X G (c.d.fact 18 (f := .glo "line_behind") rfl)
  have b_line_behind := FunD.bindsN (ps := ["rule", "events"]) F_line_behind fun _ _ _ _ _ _ us hl => match us, hl with | [_, _], _ => rfl
  obtain ⟨fd_here_behind, F_here_behind⟩ := c.d.def_ 29 (d := dd_here_behind) rfl
  have g_here_behind := He.glo_ok X G (c.d.fact 19 (f := .glo "here_behind") rfl)
  have b_here_behind := FunD.bindsN (ps := ["rule", "events"]) F_here_behind fun _ _ _ _ _ _ us hl => match us, hl with | [_, _], _ => rfl
  obtain ⟨fd_names_behind, F_names_behind⟩ := c.d.def_ 30 (d := dd_names_behind) rfl
  have g_names_behind := He.glo_ok X G (c.d.fact 20 (f := .glo "names_behind") rfl)
  have b_names_behind := FunD.bindsN (ps := ["rule", "events", "person"]) F_names_behind fun _ _ _ _ _ _ us hl => match us, hl with | [_, _, _], _ => rfl
  obtain ⟨fd_stale_behind, F_stale_behind⟩ := c.d.def_ 31 (d := dd_stale_behind) rfl
  have g_stale_behind := He.glo_ok X G (c.d.fact 21 (f := .glo "stale_behind") rfl)
  have b_stale_behind := FunD.bindsN (ps := ["rule", "events", "person"]) F_stale_behind fun _ _ _ _ _ _ us hl => match us, hl with | [_, _, _], _ => rfl
  obtain ⟨fd_gaps_in, F_gaps_in⟩ := c.d.def_ 32 (d := dd_gaps_in) rfl
  have g_gaps_in := He.glo_ok X G (c.d.fact 22 (f := .glo "gaps_in") rfl)
  have b_gaps_in := FunD.bindsN (ps := ["line"]) F_gaps_in fun _ _ _ _ _ _ us hl => match us, hl with | [_], _ => rfl
  obtain ⟨fd_gaps_behind, F_gaps_behind⟩ := c.d.def_ 33 (d := dd_gaps_behind) rfl
  have g_gaps_behind := He.glo_ok X G (c.d.fact 23 (f := .glo "gaps_behind") rfl)
  have b_gaps_behind := FunD.bindsN (ps := ["rule", "events"]) F_gaps_behind fun _ _ _ _ _ _ us hl => match us, hl with | [_, _], _ => rfl
  obtain ⟨fd_claims_in, F_claims_in⟩ := c.d.def_ 34 (d := dd_claims_in) rfl
  have g_claims_in := He.glo_ok X G (c.d.fact 24 (f := .glo "claims_in") rfl)
  have b_claims_in := FunD.bindsN (ps := ["room"]) F_claims_in fun _ _ _ _ _ _ us hl => match us, hl with | [_], _ => rfl
  obtain ⟨fd_claims_behind, F_claims_behind⟩ := c.d.def_ 35 (d := dd_claims_behind) rfl
  have g_claims_behind := He.glo_ok X G (c.d.fact 25 (f := .glo "claims_behind") rfl)
  have b_claims_behind := FunD.bindsN (ps := ["rule", "events"]) F_claims_behind fun _ _ _ _ _ _ us hl => match us, hl with | [_, _], _ => rfl
  obtain ⟨fd__law_mixed, F__law_mixed⟩ := c.d.def_ 36 (d := dd__law_mixed) rfl
  have g__law_mixed := He.glo_ok X G (c.d.fact 26 (f := .glo "_law_mixed") rfl)
  have b__law_mixed := FunD.bindsN (ps := ["_law_cell", "_law_k"]) F__law_mixed fun _ _ _ _ _ _ us hl => match us, hl with | [_, _], _ => rfl
  obtain ⟨fd__law_begin, F__law_begin⟩ := c.d.def_ 37 (d := dd__law_begin) rfl
  have g__law_begin := He.glo_ok X G (c.d.fact 27 (f := .glo "_law_begin") rfl)
  have b__law_begin := FunD.bindsN (ps := ["_law_script"]) F__law_begin fun _ _ _ _ _ _ us hl => match us, hl with | [_], _ => rfl
  obtain ⟨fd__law_draw, F__law_draw⟩ := c.d.def_ 38 (d := dd__law_draw) rfl
  have g__law_draw := He.glo_ok X G (c.d.fact 28 (f := .glo "_law_draw") rfl)
  have b__law_draw := FunD.bindsN (ps := ["_law_state", "_law_many"]) F__law_draw fun _ _ _ _ _ _ us hl => match us, hl with | [_, _], _ => rfl
  obtain ⟨fd__law_of, F__law_of⟩ := c.d.def_ 39 (d := dd__law_of) rfl
  have g__law_of := He.glo_ok X G (c.d.fact 29 (f := .glo "_law_of") rfl)
  have b__law_of := FunD.bindsN (ps := ["_law_state", "_law_some"]) F__law_of fun _ _ _ _ _ _ us hl => match us, hl with | [_, _], _ => rfl
  obtain ⟨fd__law_names, F__law_names⟩ := c.d.def_ 40 (d := dd__law_names) rfl
  have g__law_names := He.glo_ok X G (c.d.fact 30 (f := .glo "_law_names") rfl)
  have b__law_names := FunD.bindsN (ps := ["_law_rule_here", "_law_line", "_law_spot"]) F__law_names fun _ _ _ _ _ _ us hl => match us, hl with | [_, _, _], _ => rfl
  obtain ⟨fd__law_renew, F__law_renew⟩ := c.d.def_ 41 (d := dd__law_renew) rfl
  have g__law_renew := He.glo_ok X G (c.d.fact 31 (f := .glo "_law_renew") rfl)
  have b__law_renew := FunD.bindsN (ps := ["_law_rule_here", "_law_line", "_law_spots"]) F__law_renew fun _ _ _ _ _ _ us hl => match us, hl with | [_, _, _], _ => rfl
  obtain ⟨fd__law_gone, F__law_gone⟩ := c.d.def_ 42 (d := dd__law_gone) rfl
  have g__law_gone := He.glo_ok X G (c.d.fact 32 (f := .glo "_law_gone") rfl)
  have b__law_gone := FunD.bindsN (ps := ["_law_rule_here", "_law_line", "_law_person"]) F__law_gone fun _ _ _ _ _ _ us hl => match us, hl with | [_, _, _], _ => rfl
  obtain ⟨fd__law_here, F__law_here⟩ := c.d.def_ 43 (d := dd__law_here) rfl
  have g__law_here := He.glo_ok X G (c.d.fact 33 (f := .glo "_law_here") rfl)
  have b__law_here := FunD.bindsN (ps := ["_law_line"]) F__law_here fun _ _ _ _ _ _ us hl => match us, hl with | [_], _ => rfl
  obtain ⟨fd__law_asked, F__law_asked⟩ := c.d.def_ 44 (d := dd__law_asked) rfl
  have g__law_asked := He.glo_ok X G (c.d.fact 34 (f := .glo "_law_asked") rfl)
  have b__law_asked := FunD.bindsN (ps := ["_law_rule_here", "_law_line"]) F__law_asked fun _ _ _ _ _ _ us hl => match us, hl with | [_, _], _ => rfl
  obtain ⟨fd__law_claims, F__law_claims⟩ := c.d.def_ 45 (d := dd__law_claims) rfl
  have g__law_claims := He.glo_ok X G (c.d.fact 35 (f := .glo "_law_claims") rfl)
  have b__law_claims := FunD.bindsN (ps := ["_law_rule_here", "_law_rows"]) F__law_claims fun _ _ _ _ _ _ us hl => match us, hl with | [_, _], _ => rfl
  obtain ⟨fd__law_come, F__law_come⟩ := c.d.def_ 46 (d := dd__law_come) rfl
  have g__law_come := He.glo_ok X G (c.d.fact 36 (f := .glo "_law_come") rfl)
  have b__law_come := FunD.bindsN (ps := ["_law_rule_here", "_law_line", "_law_spot", "_law_person"]) F__law_come fun _ _ _ _ _ _ us hl => match us, hl with | [_, _, _, _], _ => rfl
  obtain ⟨fd__law_how, F__law_how⟩ := c.d.def_ 47 (d := dd__law_how) rfl
  have g__law_how := He.glo_ok X G (c.d.fact 37 (f := .glo "_law_how") rfl)
  have b__law_how := FunD.bindsN (ps := ["_law_line", "_law_person"]) F__law_how fun _ _ _ _ _ _ us hl => match us, hl with | [_, _], _ => rfl
  obtain ⟨fd__law_can, F__law_can⟩ := c.d.def_ 48 (d := dd__law_can) rfl
  have g__law_can := He.glo_ok X G (c.d.fact 38 (f := .glo "_law_can") rfl)
  have b__law_can := FunD.bindsN (ps := ["_law_rule_here", "_law_room", "_law_event"]) F__law_can fun _ _ _ _ _ _ us hl => match us, hl with | [_, _, _], _ => rfl
  obtain ⟨fd__law_back, F__law_back⟩ := c.d.def_ 49 (d := dd__law_back) rfl
  have g__law_back := He.glo_ok X G (c.d.fact 39 (f := .glo "_law_back") rfl)
  have b__law_back := FunD.bindsN (ps := ["_law_rule_here", "_law_line", "_law_came", "_law_spot"]) F__law_back fun _ _ _ _ _ _ us hl => match us, hl with | [_, _, _, _], _ => rfl
  obtain ⟨fd__law_do, F__law_do⟩ := c.d.def_ 50 (d := dd__law_do) rfl
  have g__law_do := He.glo_ok X G (c.d.fact 40 (f := .glo "_law_do") rfl)
  have b__law_do := FunD.bindsN (ps := ["_law_rule_here", "_law_room", "_law_event"]) F__law_do fun _ _ _ _ _ _ us hl => match us, hl with | [_, _, _], _ => rfl
  obtain ⟨fd__law_events, F__law_events⟩ := c.d.def_ 51 (d := dd__law_events) rfl
  have g__law_events := He.glo_ok X G (c.d.fact 41 (f := .glo "_law_events") rfl)
  have b__law_events := FunD.bindsN (ps := ["_law_rule_here", "_law_room"]) F__law_events fun _ _ _ _ _ _ us hl => match us, hl with | [_, _], _ => rfl
  obtain ⟨fd__law_rule, F__law_rule⟩ := c.d.def_ 52 (d := dd__law_rule) rfl
  have g__law_rule := He.glo_ok X G (c.d.fact 42 (f := .glo "_law_rule") rfl)
  have b__law_rule := FunD.bindsN (ps := ["_law_state"]) F__law_rule fun _ _ _ _ _ _ us hl => match us, hl with | [_], _ => rfl
  obtain ⟨fd__law_row, F__law_row⟩ := c.d.def_ 53 (d := dd__law_row) rfl
  have g__law_row := He.glo_ok X G (c.d.fact 43 (f := .glo "_law_row") rfl)
  have b__law_row := FunD.bindsN (ps := ["_law_state", "_law_rule_here", "_law_most"]) F__law_row fun _ _ _ _ _ _ us hl => match us, hl with | [_, _, _], _ => rfl
  obtain ⟨fd__law_room_right, F__law_room_right⟩ := c.d.def_ 54 (d := dd__law_room_right) rfl
  have g__law_room_right := He.glo_ok X G (c.d.fact 44 (f := .glo "_law_room_right") rfl)
  have b__law_room_right := FunD.bindsN (ps := ["_law_rule_here", "_law_events_here"]) F__law_room_right fun _ _ _ _ _ _ us hl => match us, hl with | [_, _], _ => rfl
  obtain ⟨fd_law, F_law⟩ := c.d.def_ 55 (d := dd_law) rfl
  have g_law := He.glo_ok X G (c.d.fact 45 (f := .glo "law") rfl)
  have b_law := FunD.bindsN (ps := ["_law_script"]) F_law fun _ _ _ _ _ _ us hl => match us, hl with | [_], _ => rfl
  let T : Txt K mg := {
    m_any := He.free_ok X G (c.d.fact 46 (f := .free "any") rfl)
    m_bool := He.free_ok X G (c.d.fact 47 (f := .free "bool") rfl)
    m_enumerate := He.free_ok X G (c.d.fact 48 (f := .free "enumerate") rfl)
    m_int := He.free_ok X G (c.d.fact 49 (f := .free "int") rfl)
    m_isinstance := He.free_ok X G (c.d.fact 50 (f := .free "isinstance") rfl)
    m_len := He.free_ok X G (c.d.fact 51 (f := .free "len") rfl)
    m_list := He.free_ok X G (c.d.fact 52 (f := .free "list") rfl)
    m_range := He.free_ok X G (c.d.fact 53 (f := .free "range") rfl)
    m_sorted := He.free_ok X G (c.d.fact 54 (f := .free "sorted") rfl)
    m_str := He.free_ok X G (c.d.fact 55 (f := .free "str") rfl)
    m_tuple := He.free_ok X G (c.d.fact 56 (f := .free "tuple") rfl)
    k_Room := He.cls_ok (c.d.fact 57 (f := .cls "Room") rfl)
    n_Room_came_so_far := He.noat_ok (c.d.fact 58 (f := .noat "Room" "came_so_far") rfl)
    n_Room_line_now := He.noat_ok (c.d.fact 59 (f := .noat "Room" "line_now") rfl)
    n_Room_own_rule := He.noat_ok (c.d.fact 60 (f := .noat "Room" "own_rule") rfl)
    n_Room_served_so_far := He.noat_ok (c.d.fact 61 (f := .noat "Room" "served_so_far") rfl)
    mt_Room_are_here := He.meth_ok (c.d.fact 62 (f := .meth "Room" "are_here") rfl)
    mt_Room_bring_back := He.meth_ok (c.d.fact 63 (f := .meth "Room" "bring_back") rfl)
    mt_Room_can_be := He.meth_ok (c.d.fact 64 (f := .meth "Room" "can_be") rfl)
    mt_Room_do := He.meth_ok (c.d.fact 65 (f := .meth "Room" "do") rfl)
    mt_Room_do_personal := He.meth_ok (c.d.fact 66 (f := .meth "Room" "do_personal") rfl)
    mt_Room_how_is := He.meth_ok (c.d.fact 67 (f := .meth "Room" "how_is") rfl)
    mt_Room_open_door := He.meth_ok (c.d.fact 68 (f := .meth "Room" "open_door") rfl)
    mt_Room_put_in := He.meth_ok (c.d.fact 69 (f := .meth "Room" "put_in") rfl)
    mt_Room_renew_from := He.meth_ok (c.d.fact 70 (f := .meth "Room" "renew_from") rfl)
    mk_Room := He.mkr_ok (c.d.fact 71 (f := .mkr "Room") rfl)
    g_Room := He.glo_ok X G (c.d.fact 72 (f := .glo "Room") rfl)
    c_LINE := gloB_ok X G (allB_at c.e 0 rfl)
    c_ON := gloB_ok X G (allB_at c.e 1 rfl)
    c_ASKS := gloB_ok X G (allB_at c.e 2 rfl)
    c_OLD := gloB_ok X G (allB_at c.e 3 rfl)
    c_TELLS := gloB_ok X G (allB_at c.e 4 rfl)
    c_TOLD := gloB_ok X G (allB_at c.e 5 rfl)
    c_MOST_NAMES := gloB_ok X G (allB_at c.e 6 rfl)
    c_CHOICES := gloB_ok X G (allB_at c.e 7 rfl)
    c_HERE := gloB_ok X G (allB_at c.e 8 rfl)
    c_OUT := gloB_ok X G (allB_at c.e 9 rfl)
    c_LOST := gloB_ok X G (allB_at c.e 10 rfl)
    c_AWAY := gloB_ok X G (allB_at c.e 11 rfl)
    c_COME := gloB_ok X G (allB_at c.e 12 rfl)
    c_LET := gloB_ok X G (allB_at c.e 13 rfl)
    c_LEAVE := gloB_ok X G (allB_at c.e 14 rfl)
    c_BACK := gloB_ok X G (allB_at c.e 15 rfl)
    c_DOOR := gloB_ok X G (allB_at c.e 16 rfl)
    c_PERSONAL := gloB_ok X G (allB_at c.e 17 rfl)
    c_MOST_EVENTS := gloB_ok X G (allB_at c.e 18 rfl)
    c_MOST_PEOPLE := gloB_ok X G (allB_at c.e 19 rfl)
    fd_is_integer := fd_is_integer
    f_is_integer := ⟨F_is_integer, g_is_integer, b_is_integer⟩
    fd_is_between := fd_is_between
    f_is_between := ⟨F_is_between, g_is_between, b_is_between⟩
    fd_is_one_of := fd_is_one_of
    f_is_one_of := ⟨F_is_one_of, g_is_one_of, b_is_one_of⟩
    fd_need_rule := fd_need_rule
    f_need_rule := ⟨F_need_rule, g_need_rule, b_need_rule⟩
    fd_is_tidy_rule := fd_is_tidy_rule
    f_is_tidy_rule := ⟨F_is_tidy_rule, g_is_tidy_rule, b_is_tidy_rule⟩
    fd_is_tidy := fd_is_tidy
    f_is_tidy := ⟨F_is_tidy, g_is_tidy, b_is_tidy⟩
    fd_nearest_ahead := fd_nearest_ahead
    f_nearest_ahead := ⟨F_nearest_ahead, g_nearest_ahead, b_nearest_ahead⟩
    fd_renewed := fd_renewed
    f_renewed := ⟨F_renewed, g_renewed, b_renewed⟩
    fd_spot_of := fd_spot_of
    f_spot_of := ⟨F_spot_of, g_spot_of, b_spot_of⟩
    fd_as_how := fd_as_how
    f_as_how := ⟨F_as_how, g_as_how, b_as_how⟩
    fd_without := fd_without
    f_without := ⟨F_without, g_without, b_without⟩
    fd_forgetting := fd_forgetting
    f_forgetting := ⟨F_forgetting, g_forgetting, b_forgetting⟩
    fd_asked_again := fd_asked_again
    f_asked_again := ⟨F_asked_again, g_asked_again, b_asked_again⟩
    fd_claiming := fd_claiming
    f_claiming := ⟨F_claiming, g_claiming, b_claiming⟩
    fd_has_form := fd_has_form
    f_has_form := ⟨F_has_form, g_has_form, b_has_form⟩
    fd_Room___init__ := fd_Room___init__
    f_Room___init__ := ⟨F_Room___init__, b_Room___init__⟩
    fd_Room_put_in := fd_Room_put_in
    f_Room_put_in := ⟨F_Room_put_in, b_Room_put_in⟩
    fd_Room_open_door := fd_Room_open_door
    f_Room_open_door := ⟨F_Room_open_door, b_Room_open_door⟩
    fd_Room_renew_from := fd_Room_renew_from
    f_Room_renew_from := ⟨F_Room_renew_from, b_Room_renew_from⟩
    fd_Room_bring_back := fd_Room_bring_back
    f_Room_bring_back := ⟨F_Room_bring_back, b_Room_bring_back⟩
    fd_Room_do_personal := fd_Room_do_personal
    f_Room_do_personal := ⟨F_Room_do_personal, b_Room_do_personal⟩
    fd_Room_do := fd_Room_do
    f_Room_do := ⟨F_Room_do, b_Room_do⟩
    fd_Room_how_is := fd_Room_how_is
    f_Room_how_is := ⟨F_Room_how_is, b_Room_how_is⟩
    fd_Room_are_here := fd_Room_are_here
    f_Room_are_here := ⟨F_Room_are_here, b_Room_are_here⟩
    fd_Room_can_be := fd_Room_can_be
    f_Room_can_be := ⟨F_Room_can_be, b_Room_can_be⟩
    fd_room_behind := fd_room_behind
    f_room_behind := ⟨F_room_behind, g_room_behind, b_room_behind⟩
    fd_need_room := fd_need_room
    f_need_room := ⟨F_need_room, g_need_room, b_need_room⟩
    fd_standing_behind := fd_standing_behind
    f_standing_behind := ⟨F_standing_behind, g_standing_behind, b_standing_behind⟩
    fd_line_behind := fd_line_behind
    f_line_behind := ⟨F_line_behind, g_line_behind, b_line_behind⟩
    fd_here_behind := fd_here_behind
    f_here_behind := ⟨F_here_behind, g_here_behind, b_here_behind⟩
    fd_names_behind := fd_names_behind
    f_names_behind := ⟨F_names_behind, g_names_behind, b_names_behind⟩
    fd_stale_behind := fd_stale_behind
    f_stale_behind := ⟨F_stale_behind, g_stale_behind, b_stale_behind⟩
    fd_gaps_in := fd_gaps_in
    f_gaps_in := ⟨F_gaps_in, g_gaps_in, b_gaps_in⟩
    fd_gaps_behind := fd_gaps_behind
    f_gaps_behind := ⟨F_gaps_behind, g_gaps_behind, b_gaps_behind⟩
    fd_claims_in := fd_claims_in
    f_claims_in := ⟨F_claims_in, g_claims_in, b_claims_in⟩
    fd_claims_behind := fd_claims_behind
    f_claims_behind := ⟨F_claims_behind, g_claims_behind, b_claims_behind⟩
    fd__law_mixed := fd__law_mixed
    f__law_mixed := ⟨F__law_mixed, g__law_mixed, b__law_mixed⟩
    fd__law_begin := fd__law_begin
    f__law_begin := ⟨F__law_begin, g__law_begin, b__law_begin⟩
    fd__law_draw := fd__law_draw
    f__law_draw := ⟨F__law_draw, g__law_draw, b__law_draw⟩
    fd__law_of := fd__law_of
    f__law_of := ⟨F__law_of, g__law_of, b__law_of⟩
    fd__law_names := fd__law_names
    f__law_names := ⟨F__law_names, g__law_names, b__law_names⟩
    fd__law_renew := fd__law_renew
    f__law_renew := ⟨F__law_renew, g__law_renew, b__law_renew⟩
    fd__law_gone := fd__law_gone
    f__law_gone := ⟨F__law_gone, g__law_gone, b__law_gone⟩
    fd__law_here := fd__law_here
    f__law_here := ⟨F__law_here, g__law_here, b__law_here⟩
    fd__law_asked := fd__law_asked
    f__law_asked := ⟨F__law_asked, g__law_asked, b__law_asked⟩
    fd__law_claims := fd__law_claims
    f__law_claims := ⟨F__law_claims, g__law_claims, b__law_claims⟩
    fd__law_come := fd__law_come
    f__law_come := ⟨F__law_come, g__law_come, b__law_come⟩
    fd__law_how := fd__law_how
    f__law_how := ⟨F__law_how, g__law_how, b__law_how⟩
    fd__law_can := fd__law_can
    f__law_can := ⟨F__law_can, g__law_can, b__law_can⟩
    fd__law_back := fd__law_back
    f__law_back := ⟨F__law_back, g__law_back, b__law_back⟩
    fd__law_do := fd__law_do
    f__law_do := ⟨F__law_do, g__law_do, b__law_do⟩
    fd__law_events := fd__law_events
    f__law_events := ⟨F__law_events, g__law_events, b__law_events⟩
    fd__law_rule := fd__law_rule
    f__law_rule := ⟨F__law_rule, g__law_rule, b__law_rule⟩
    fd__law_row := fd__law_row
    f__law_row := ⟨F__law_row, g__law_row, b__law_row⟩
    fd__law_room_right := fd__law_room_right
    f__law_room_right := ⟨F__law_room_right, g__law_room_right, b__law_room_right⟩
    fd_law := fd_law
    f_law := ⟨F_law, g_law, b_law⟩ }
  have e := hfa.symm.trans g_law
  cases e
  have b := FunD.bindsA (ps := ["_law_script"]) F_law fun _ _ _ _ _ _ us hl => match us, hl with | [_], _ => rfl
  exact ⟨fd_law, fun s v => b s [v] rfl, fun base _ _ => ok_law T⟩
end L

namespace L
open PySem PySem.Spec PyProof.Rows L2 Dn Rm
variable {m : Mem}
local macro_rules | `(tactic| wp_walk using $ts,*) => `(tactic| simp only [runD, start0, start1, start2, start3, start4, start5, sSeq, sSet, sRet, sExpr, sIf, sNil, sCont, sAsg, sSub, sFor, sPar, sAug, sPut, sPutA, eVar, eC, eBin, eFn, eCall, eAnd, eOr, eNot, eIf, eTup, eLst, eLstM, eIsi, eFz, eNw, aComp, iSeq, iEnumW, eFld, eMeth, eMake, eSl, oNone, oSome, eRev, eIdx, eChain, eApp, eFrz, dTest, dAnd, dOr, dNot, aNil, aCons, aStar, Dn.R.bind, R.thenS, List.length_cons, List.length_nil, List.length_map, List.replicate, List.set, List.getElem?_cons_zero, List.getElem?_cons_succ, List.cons_append, List.nil_append, Nat.reduceAdd, Nat.reduceSub, Nat.zero_add, if_true, if_false, Bool.false_eq_true, Bool.not_true, Bool.not_false, decide_true, decide_false, addW_i, subW_i, addI_i, intW_i, gtW_i, geW_i, ltW_i, leW_i, tupleW_l, tupleW_t, lenW_t, lenW_l, eqM_int, neM_int, inM_ints, inM_intsL, ixM_t, ixM_l, lstOf, seqOf, trkOf, wipeR, Nat.reduceLeDiff, rule0, rule1, rule2, rule3, rule4, rule5, rule6, gN, gT, gsCons, gsNil, Option.bind, GoesD, Bool.and_true, Bool.true_and, Bool.and_false, Bool.false_and, Bool.or_true, Bool.true_or, Bool.or_false, Bool.false_or, $[$ts:term],*])
theorem cHERE : w_HERE = .str How.here.s := rfl
theorem cOUT : w_OUT = .str How.out.s := rfl
theorem cLOST : w_LOST = .str How.lost.s := rfl
theorem cAWAY : w_AWAY = .str How.away.s := rfl
theorem cLINE : w_LINE = .str "line" := rfl
theorem cON : w_ON = .str "on" := rfl
theorem cTOLD : w_TOLD = .str "told" := rfl
theorem nearest_ok (r : Rule) (hk : 0 ≤ r.k) (l : Line) (i : Nat) : r_nearest_ahead [r.w, .tup (l.map Row.w), .int (i : Int)] m = .ok (.tup ((nearest r l i).map .int)) m := by
  unfold r_nearest_ahead
  refine pw_g (m1 := []) (by simp only [gWs_cons, g_rule, g_lineT, gW_int, gWs_nil, Bool.and_self]) ?_ (g_intsT _)
  unfold d_nearest_ahead s_nearest_ahead_0 s_nearest_ahead_1 s_nearest_ahead_2
  wp_walk using cLINE
  wp_walk using cHERE, cOUT, cAWAY, cLINE, eq_line
  have key : ∀ hows : W, (∀ h : How, inM false [] (.str h.s) hows = some (.bl (known r h))) → compL (gT (gsCons (gN 5) (gsCons (gN 6) (gsCons (gN 7) gsNil)))) (dTest (eBin (inM false) (eVar 6) (eVar 3))) (eVar 5) [5, 6, 7] ((l.take i).map Row.w) [some r.w, some (.tup (l.map Row.w)), some (.int (i : Int)), some hows, none, none, none, none] [] = .ok ((((l.take i).filter fun x => known r x.h).map (·.p)).map .int) [] := fun hows h => by
    rw [compL_map Row.w (fun x => known r x.h) (fun x => .int x.p) (fun x => [some r.w, some (.tup (l.map Row.w)), some (.int (i : Int)), some hows, none, some (.int x.p), some (.str x.h.s), some (.tup (x.ns.map .int))]) _ (fun x _ => rfl) (fun x _ => ?_) fun x _ _ => rfl, List.map_map]
    · rfl
    · wp_walk using cLINE
      rw [h]
  cases e : r.line with
  | true =>
    wp_walk using cLINE
    rw [cut_to, ← List.map_take, key _ fun h => in_line h r e]
    wp_walk using cLINE
    rw [← List.map_reverse, cut_toI hk, ← List.map_take]
    rfl
  | false =>
    wp_walk using cLINE
    rw [cut_to, ← List.map_take, key _ fun h => in_seen h r e]
    wp_walk using cLINE
    rw [← List.map_reverse, cut_toI hk, ← List.map_take]
    rfl
theorem pre_len {α : Type} {l pre post : List α} {x : α} {n : Nat} (h : l = pre ++ x :: post) (hl : l.length < n) : pre.length < n := by
  have := congrArg List.length h
  simp at this
  omega
theorem app_row (pre : List (Rm.Row × Nat)) (f : Rm.Row × Nat → Rm.Row) (x : Rm.Row × Nat) (w : W) (h : w = (f x).w) : [Cell.lst ((pre.map f).map Row.w ++ [w])] = [Cell.lst (((pre ++ [x]).map f).map Row.w)] := by
  rw [h]
  simp
theorem renewed_ok (r : Rule) (hk : 0 ≤ r.k) (l : Line) (spots : List Int) (hl : l.length < 1000000) : r_renewed [r.w, .tup (l.map Row.w), .lst (spots.map .int)] m = .ok (.tup ((renewed r l spots).map Row.w)) m := by
  unfold r_renewed
  obtain ⟨r', m', e1, ⟨a4, a5, a6, a7, a8, e2⟩, e3⟩ := loop_pre (t := gT (gsCons (gN 4) (gsCons (gT (gsCons (gN 5) (gsCons (gN 6) (gsCons (gN 7) gsNil)))) gsNil))) (body := b_renewed_0) (fun x : Rm.Row × Nat => W.tup [.int (x.2 : Nat), x.1.w])
    (fun pre r1 m1 => (∃ a4 a5 a6 a7 a8, r1 = [some r.w, some (.tup (l.map Row.w)), some (.lst (spots.map .int)), some (.ref 0), a4, a5, a6, a7, a8]) ∧ m1 = [.lst ((pre.map (take1 r l spots)).map Row.w)])
    l.zipIdx [some r.w, some (.tup (l.map Row.w)), some (.lst (spots.map .int)), some (.ref 0), none, none, none, none, none] [.lst []] ⟨⟨_, _, _, _, _, rfl⟩, rfl⟩
    (fun pre x post r1 m1 hx ⟨⟨a4, a5, a6, a7, a8, h1⟩, h2⟩ => by
      subst h1 h2
      have hp : pre.length < 16777216 := pre_len hx (by simp; omega)
      unfold Steps b_renewed_0
      wp_walk using cHERE, Row.w
      cases q : spots.contains (x.2 : Int) with
      | false =>
        wp_walk using hp
        refine ⟨⟨_, _, _, _, _, rfl⟩, app_row _ _ _ _ ?_⟩
        simp only [take1, q, Bool.false_and, Bool.false_eq_true, if_false, Row.w]
      | true =>
        wp_walk using cLINE
        rw [eq_how]
        by_cases hh : x.1.h = .here
        · wp_walk using hh, nearest_ok r hk, hp
          refine ⟨⟨_, _, _, _, _, rfl⟩, app_row _ _ _ _ ?_⟩
          simp only [take1, q, hh, decide_true, Bool.and_self, if_true, Row.w]
        · wp_walk using hh, hp
          refine ⟨⟨_, _, _, _, _, rfl⟩, app_row _ _ _ _ ?_⟩
          simp only [take1, q, hh, decide_false, Bool.and_false, Bool.false_eq_true, if_false, Row.w])
  refine pw_g (m1 := m') (by simp only [gWs_cons, g_rule, g_lineT, g_intsL, gWs_nil, Bool.and_self]) ?_ (g_lineT _)
  unfold d_renewed s_renewed_0 s_renewed_1 s_renewed_2
  wp_walk using cLINE
  rw [numbered_map, e1, e2, e3]
  wp_walk using cLINE
  simp only [tupleW_r (m := [_]) (n := 0) (List.getElem?_cons_zero), renewed]

theorem is_integer_int (p : Int) : r_is_integer [.int p] m = .ok (.bl true) m := by
  unfold r_is_integer
  exact pw_g (m1 := []) rfl (by kernel_rfl) rfl
theorem is_between_ok (a lo hi : Int) : r_is_between [.int a, .int lo, .int hi] m = .ok (.bl (decide (lo ≤ a) && decide (a ≤ hi))) m := by
  unfold r_is_between
  refine pw_g (m1 := []) rfl ?_ rfl
  unfold d_is_between s_is_between_0
  wp_walk using is_integer_int
  by_cases h : lo ≤ a
  · wp_walk using h
  · wp_walk using h
theorem one_of_ask (b : Bool) : r_is_one_of [.tup [.str "line", .str "seen"], .str (askS b)] m = .ok (.bl true) m := by cases b <;> kernel_rfl
theorem one_of_fill (b : Bool) : r_is_one_of [.tup [.str "none", .str "on"], .str (fillS b)] m = .ok (.bl true) m := by cases b <;> kernel_rfl
theorem one_of_back (b : Bk) : r_is_one_of [.tup [.str "asks", .str "old", .str "tells"], .str b.s] m = .ok (.bl true) m := by cases b <;> kernel_rfl
theorem one_of_let (b : Bool) : r_is_one_of [.tup [.str "quiet", .str "told"], .str (letS b)] m = .ok (.bl true) m := by cases b <;> kernel_rfl
theorem one_of_lost (b : Bool) : r_is_one_of [.tup [.str "asks", .str "claims"], .str (lostS b)] m = .ok (.bl true) m := by cases b <;> kernel_rfl
theorem need_rule_ok (r : Rule) (h : r.Ok) : r_need_rule [r.w] m = .ok r.w m := by
  unfold r_need_rule
  refine pw_g (m1 := []) (by rw [gWs_cons, g_rule]; rfl) ?_ (g_rule r)
  unfold d_need_rule s_need_rule_0 s_need_rule_1 s_need_rule_2 s_need_rule_3 s_need_rule_4
  have i0 : tyW [] r.w = some .tup := rfl
  have i1 : lenW [] [r.w] = some (.int 7) := rfl
  have i2 : lenW [] [w_CHOICES] = some (.int 5) := rfl
  have i3 : Ty.sub .tup .tup = true := rfl
  have i4 : w_MOST_NAMES = .int 3 := rfl
  have k1 := h.k1
  have k3 := h.k3
  have t0 := h.t0
  have tk := h.tk
  have i5 : ((7 : Int) == 2 + 5) = true := rfl
  wp_walk using i0, i1, i2, i3, i4, i5, is_between_ok, k1, k3, t0, tk
  simp only [w_CHOICES]
  wp_walk using Dn.numbered, loop
  unfold b_need_rule_0
  have e2 : ∀ m, ixM m r.w (.int (2 + ((0 : Nat) : Int))) = some (.str (askS r.line)) := fun _ => rfl
  have e3 : ∀ m, ixM m r.w (.int (2 + ((1 : Nat) : Int))) = some (.str (fillS r.on)) := fun _ => rfl
  have e4 : ∀ m, ixM m r.w (.int (2 + ((2 : Nat) : Int))) = some (.str r.bk.s) := fun _ => rfl
  have e5 : ∀ m, ixM m r.w (.int (2 + ((3 : Nat) : Int))) = some (.str (letS r.told)) := fun _ => rfl
  have e6 : ∀ m, ixM m r.w (.int (2 + ((4 : Nat) : Int))) = some (.str (lostS r.asks)) := fun _ => rfl
  wp_walk using e2, e3, e4, e5, e6, one_of_ask, one_of_fill, one_of_back, one_of_let, one_of_lost
theorem spot_of_ok (l : Line) (p : Int) (h : p ∈ l.map (·.p)) : r_spot_of [.tup (l.map Row.w), .int p] m = .ok (.int (spotOf l p : Nat)) m := by
  unfold r_spot_of
  refine pw_g (m1 := []) (by simp only [gWs_cons, g_lineT, gW_int, gWs_nil, Bool.and_self]) ?_ rfl
  unfold d_spot_of s_spot_of_0
  wp_walk using cHERE
  rw [compL_all Row.w (fun x => .int x.p) (fun x => [some (.tup (l.map Row.w)), some (.int p), some (.int x.p), some (.str x.h.s), some (.tup (x.ns.map .int))]) _ (fun x _ => rfl) fun x _ => rfl]
  have e : (l.map fun x => W.int x.p) = (l.map (·.p)).map .int := by rw [List.map_map]; rfl
  wp_walk using e, idx_ints _ _ h
  rw [List.findIdx_map]
  rfl
theorem as_how_ok (l : Line) (i : Nat) (h : How) (hi : i < l.length) (hl : l.length < 1000000) : r_as_how [.tup (l.map Row.w), .int (i : Int), .str h.s] m = .ok (.tup ((asHow l i h).map Row.w)) m := by
  unfold r_as_how
  refine pw_g (m1 := []) (by simp only [gWs_cons, g_lineT, gW_int, gW_str, gWs_nil, Bool.and_self]) ?_ (g_lineT _)
  unfold d_as_how s_as_how_0 s_as_how_1
  obtain ⟨x, e⟩ : ∃ x, l[i]? = some x := ⟨l[i], List.getElem?_eq_getElem hi⟩
  have e1 : atI (l.map Row.w) (i : Int) = some x.w := atI_get rfl (by rw [List.getElem?_map, e]; rfl)
  have e2 : ((i : Int) + 1) = ((i + 1 : Nat) : Int) := by omega
  have hb2 : ∀ w : W, ((l.map Row.w).take i ++ w :: (l.map Row.w).drop (i + 1)).length ≤ 16777216 := fun w => by
    simp only [List.length_append, List.length_cons, List.length_take, List.length_drop, List.length_map]
    omega
  have a0 : asHow l i h = l.take i ++ ⟨x.p, h, if h = .away then [] else x.ns⟩ :: l.drop (i + 1) := by simp only [asHow, e]
  rw [a0]
  wp_walk using cAWAY, e1, Row.w, eq_how, cut_to, cut_from, e2, List.append_nil
  by_cases hh : h = .away
  · subst hh
    wp_walk using hb2
    simp only [if_pos (hb2 _), List.map_append, List.map_cons, List.map_take, List.map_drop]
    rfl
  · wp_walk using hh, hb2
    simp only [if_pos (hb2 _), List.map_append, List.map_cons, List.map_take, List.map_drop]
    rfl
/-! ### somebody is done -/
theorem struck_no {p : Int} {x : Rm.Row} (h : ¬ (x.h = .here ∧ x.ns.contains p = true)) : struck p x = x := if_neg h
def doneL (p : Int) (pre : Line) : Line := (pre.filter fun x => !(x.p == p)).map (struck p)
theorem hits_app (p : Int) (l : Line) (x : Rm.Row) : hits (l ++ [x]) p = hits l p ++ (if (decide (x.h = .here) && x.ns.contains p) = true then [(l.length : Int)] else []) := by
  unfold hits
  rw [List.zipIdx_append, List.filter_append, List.map_append]
  congr 1
  simp only [List.zipIdx_cons, List.zipIdx_nil, Nat.zero_add, List.filter_cons, List.filter_nil]
  split <;> simp
theorem strike_ok (p : Int) (ns : List Int) (a0 a1 a3 a4 a5 a6 a7 a8 a9 : Option W) : compL (gN 9) (dTest (eBin neM (eVar 9) (eVar 2))) (eVar 9) [9] (ns.map .int) [a0, a1, some (.int p), a3, a4, a5, a6, a7, a8, a9] m = .ok ((ns.filter fun n => !(n == p)).map .int) m :=
  compL_map .int (fun n => !(n == p)) .int (fun n => [a0, a1, some (.int p), a3, a4, a5, a6, a7, a8, some (.int n)]) ns (fun _ _ => rfl) (fun _ _ => rfl) fun _ _ _ => rfl
theorem without_loop (r : Rule) (l : Line) (p : Int) (hl : l.length < 1000000) : ∃ r' m', loop (gT (gsCons (gN 5) (gsCons (gN 6) (gsCons (gN 7) gsNil)))) b_without_0 (l.map Row.w) [some r.w, some (.tup (l.map Row.w)), some (.int p), some (.ref 0), some (.ref 1), none, none, none, none, none] [.lst [], .lst []] = .next r' m' ∧
    (∃ a5 a6 a7 a8 a9, r' = [some r.w, some (.tup (l.map Row.w)), some (.int p), some (.ref 0), some (.ref 1), a5, a6, a7, a8, a9]) ∧ m' = [.lst ((doneL p l).map Row.w), .lst ((hits (l.filter fun x => !(x.p == p)) p).map .int)] :=
  loop_pre (t := gT (gsCons (gN 5) (gsCons (gN 6) (gsCons (gN 7) gsNil)))) (body := b_without_0) Row.w
    (fun pre r1 m1 => (∃ a5 a6 a7 a8 a9, r1 = [some r.w, some (.tup (l.map Row.w)), some (.int p), some (.ref 0), some (.ref 1), a5, a6, a7, a8, a9]) ∧ m1 = [.lst ((doneL p pre).map Row.w), .lst ((hits (pre.filter fun x => !(x.p == p)) p).map .int)])
    l [some r.w, some (.tup (l.map Row.w)), some (.int p), some (.ref 0), some (.ref 1), none, none, none, none, none] [.lst [], .lst []] ⟨⟨_, _, _, _, _, rfl⟩, rfl⟩
    (fun pre x post r1 m1 hx ⟨⟨a5, a6, a7, a8, a9, h1⟩, h2⟩ => by
      subst h1 h2
      have hp : pre.length < 16777216 := pre_len hx (by omega)
      have hp1 : (doneL p pre).length < 16777216 := Nat.lt_of_le_of_lt (by rw [doneL, List.length_map]; exact List.length_filter_le _ _) hp
      have hp2 : (hits (pre.filter fun x => !(x.p == p)) p).length < 16777216 := by
        refine Nat.lt_of_le_of_lt ?_ hp
        unfold hits
        rw [List.length_map]
        refine Nat.le_trans (List.length_filter_le _ _) ?_
        rw [List.length_zipIdx]
        exact List.length_filter_le _ _
      have hp3 : ((doneL p pre).length : Int) = ((pre.filter fun x => !(x.p == p)).length : Int) := by rw [doneL, List.length_map]
      unfold Steps b_without_0
      wp_walk using cHERE, Row.w
      cases q : x.p == p with
      | true =>
        wp_walk using hp
        refine ⟨⟨_, _, _, _, _, rfl⟩, ?_⟩
        simp [doneL, List.filter_append, q]
      | false =>
        wp_walk using eq_how
        have ef : ((pre ++ [x]).filter fun y => !(y.p == p)) = (pre.filter fun y => !(y.p == p)) ++ [x] := by simp [List.filter_append, q]
        have ed : doneL p (pre ++ [x]) = doneL p pre ++ [struck p x] := by simp only [doneL, ef, List.map_append, List.map_cons, List.map_nil]
        rw [ef, ed, hits_app]
        by_cases hh : x.h = .here
        · by_cases hc : x.ns.contains p = true
          · wp_walk using hh, hc, strike_ok, hp1, hp2, lenW_r (m := [_, _]) (n := 0) (List.getElem?_cons_zero)
            refine ⟨⟨_, _, _, _, _, rfl⟩, ?_⟩
            rw [hp3, struck, if_pos ⟨hh, hc⟩, List.map_append, List.map_append, hh]
            rfl
          · wp_walk using hh, hc, hp1
            refine ⟨⟨_, _, _, _, _, rfl⟩, ?_⟩
            rw [struck_no fun q => hc q.2]
            simp [hh, hc, Row.w]
        · wp_walk using hh, hp1
          refine ⟨⟨_, _, _, _, _, rfl⟩, ?_⟩
          rw [struck_no fun q => hh q.1]
          simp [hh, Row.w])
theorem without_ok (r : Rule) (hk : 0 ≤ r.k) (l : Line) (p : Int) (hl : l.length < 1000000) : r_without [r.w, .tup (l.map Row.w), .int p] m = .ok (.tup ((without r l p).map Row.w)) m := by
  obtain ⟨r', m', e1, ⟨a5, a6, a7, a8, a9, e2⟩, e3⟩ := without_loop r l p hl
  unfold r_without
  have hd : (doneL p l).length < 1000000 := Nat.lt_of_le_of_lt (by rw [doneL, List.length_map]; exact List.length_filter_le _ _) hl
  have fin : ∀ m1, (m1 = [.lst ((doneL p l).map Row.w), .lst ((hits (l.filter fun x => !(x.p == p)) p).map .int)] ∨ m1 = [.lst ((doneL p l).map Row.w), .fz ((hits (l.filter fun x => !(x.p == p)) p).map .int)]) → runD 10 d_without [r.w, .tup (l.map Row.w), .int p] [] = .ok (.tup ((without r l p).map Row.w)) m1 → pw (runD 10 d_without) [r.w, .tup (l.map Row.w), .int p] m = .ok (.tup ((without r l p).map Row.w)) m := fun m1 _ h =>
    pw_g (by simp only [gWs_cons, g_rule, g_lineT, gW_int, gWs_nil, Bool.and_self]) h (g_lineT _)
  cases ho : r.on with
  | true =>
    refine fin _ (.inr rfl) ?_
    unfold d_without s_without_0 s_without_1 s_without_2
    wp_walk using cON, List.append_nil
    rw [e1, e2, e3]
    have ee : renewed r (doneL p l) (hits (l.filter fun x => !(x.p == p)) p) = without r l p := by simp only [Rm.without, ho, if_true, doneL]
    wp_walk using eq_on, tupleW_r (m := [_, _]) (n := 0) (List.getElem?_cons_zero), ho, renewed_ok r hk _ _ hd, ee
  | false =>
    refine fin _ (.inl rfl) ?_
    unfold d_without s_without_0 s_without_1 s_without_2
    wp_walk using cON, List.append_nil
    rw [e1, e2, e3]
    have ee : renewed r (doneL p l) [] = without r l p := by simp only [Rm.without, ho, Bool.false_eq_true, if_false, doneL]
    have rr := renewed_ok (m := [.lst ((doneL p l).map Row.w), .lst ((hits (l.filter fun x => !(x.p == p)) p).map .int)]) r hk (doneL p l) [] hd
    rw [List.map_nil] at rr
    wp_walk using eq_on, tupleW_r (m := [_, _]) (n := 0) (List.getElem?_cons_zero), ho, rr, ee
theorem forgetting_ok (l : Line) : r_forgetting [.tup (l.map Row.w)] m = .ok (.tup ((forgetting l).map Row.w)) m := by
  unfold r_forgetting
  refine pw_g (m1 := []) (by simp only [gWs_cons, g_lineT, gWs_nil, Bool.and_self]) ?_ (g_lineT _)
  unfold d_forgetting s_forgetting_0 s_forgetting_1
  have c1 : compL (gT (gsCons (gN 1) (gsCons (gN 2) (gsCons (gN 3) gsNil)))) dYes (eBin eqM (eVar 2) (eC (W.str How.here.s))) [1, 2, 3] (l.map Row.w) [some (.tup (l.map Row.w)), none, none, none] [] = .ok (l.map fun x => .bl (decide (x.h = .here))) [] :=
    compL_all Row.w (fun x => .bl (decide (x.h = .here))) (fun x => [some (.tup (l.map Row.w)), some (.int x.p), some (.str x.h.s), some (.tup (x.ns.map .int))]) l (fun _ _ => rfl) fun x _ => by wp_walk using eq_how
  have c2 : compL (gT (gsCons (gN 1) (gsCons (gN 2) (gsCons (gN 3) gsNil)))) (dTest (eBin neM (eVar 2) (eC (W.str How.away.s)))) (eTup (aCons (eVar 1) (aCons (eC (W.str How.lost.s)) (aCons (eVar 3) aNil)))) [1, 2, 3] (l.map Row.w) [some (.tup (l.map Row.w)), none, none, none] [] = .ok ((l.filter fun x => !decide (x.h = .away)).map fun x => Row.w ⟨x.p, .lost, x.ns⟩) [] :=
    compL_map Row.w (fun x => !decide (x.h = .away)) (fun x => Row.w ⟨x.p, .lost, x.ns⟩) (fun x => [some (.tup (l.map Row.w)), some (.int x.p), some (.str x.h.s), some (.tup (x.ns.map .int))]) l (fun _ _ => rfl) (fun x _ => by wp_walk using ne_how) fun x _ _ => rfl
  wp_walk using cHERE, cAWAY, cLOST
  rw [c1]
  wp_walk using anyW_map
  cases ha : l.any fun x => decide (x.h = .here) with
  | true =>
    have : forgetting l = l := by simp only [forgetting, ha, if_true]
    wp_walk using this
  | false =>
    have : forgetting l = (l.filter fun x => !decide (x.h = .away)).map fun x => ⟨x.p, .lost, x.ns⟩ := by simp only [forgetting, ha, Bool.false_eq_true, if_false]
    wp_walk using this, c2, List.map_map
    rfl
theorem asked_again_ok (r : Rule) (hk : 0 ≤ r.k) (l : Line) (hl : l.length < 1000000) : r_asked_again [r.w, .tup (l.map Row.w)] m = .ok (.tup ((askedAgain r l).map Row.w)) m := by
  unfold r_asked_again
  refine pw_g (m1 := []) (by simp only [gWs_cons, g_rule, g_lineT, gWs_nil, Bool.and_self]) ?_ (g_lineT _)
  unfold d_asked_again s_asked_again_0 s_asked_again_1
  have cA : w_ASKS = .str "asks" := rfl
  wp_walk using cA, ne_asks
  cases ha : r.asks with
  | false =>
    have : askedAgain r l = l := by simp only [askedAgain, ha, Bool.false_eq_true, if_false]
    wp_walk using this
  | true =>
    have e : askedAgain r l = renewed r l (bare l) := by simp only [askedAgain, ha, if_true]
    have c1 : compL (gT (gsCons (gN 2) (gsCons (gT (gsCons (gN 3) (gsCons (gN 4) (gsCons (gN 5) gsNil)))) gsNil))) (dTest (eBin eqM (eVar 5) (eTup aNil))) (eVar 2) [2, 3, 4, 5] (l.zipIdx.map fun x => W.tup [.int (x.2 : Nat), Row.w x.1]) [some r.w, some (.tup (l.map Row.w)), none, none, none, none] [] = .ok ((bare l).map .int) [] := by
      rw [compL_map (fun x : Rm.Row × Nat => W.tup [.int (x.2 : Nat), Row.w x.1]) (fun x => x.1.ns.isEmpty) (fun x => .int (x.2 : Nat)) (fun x => [some r.w, some (.tup (l.map Row.w)), some (.int (x.2 : Nat)), some (.int x.1.p), some (.str x.1.h.s), some (.tup (x.1.ns.map .int))]) _ (fun _ _ => rfl) (fun x _ => by wp_walk using eq_nilT) fun x _ _ => rfl, bare, List.map_map]
      rfl
    wp_walk using numbered_map, c1, renewed_ok r hk _ _ hl, e
theorem claiming_ok (r : Rule) (l : Line) (hl : l.length < 1000000) : r_claiming [r.w, .tup (l.map Row.w)] m = .ok (.lst ((claims r l).map .int)) m := by
  unfold r_claiming
  have c1 : ∀ a2 a3 a4 a5 a6 a7, compL (gT (gsCons (gN 4) (gsCons (gN 5) (gsCons (gN 6) gsNil)))) (dTest (eBin eqM (eVar 5) (eC (W.str How.here.s)))) (eVar 4) [4, 5, 6] (l.map Row.w) [some r.w, some (.tup (l.map Row.w)), a2, a3, a4, a5, a6, a7] [] = .ok ((here l).map .int) [] := fun a2 a3 a4 a5 a6 a7 => by
    rw [compL_map Row.w (fun x => decide (x.h = .here)) (fun x => .int x.p) (fun x => [some r.w, some (.tup (l.map Row.w)), a2, a3, some (.int x.p), some (.str x.h.s), some (.tup (x.ns.map .int)), a7]) l (fun _ _ => rfl) (fun x _ => by wp_walk using eq_how) fun x _ _ => rfl, here, List.map_map]
    rfl
  have pp : ∀ x : Rm.Row, x.w = W.tup [.int x.p, .str x.h.s, .tup (x.ns.map .int)] := fun _ => rfl
  obtain ⟨r', m', e1, ⟨a4, a5, a6, a7, e2⟩, e3⟩ := loop_pre (t := gT (gsCons (gN 4) (gsCons (gN 5) (gsCons (gN 6) gsNil)))) (body := b_claiming_0) Row.w
    (fun pre r1 m1 => (∃ a4 a5 a6 a7, r1 = [some r.w, some (.tup (l.map Row.w)), some (.lst ((here l).map .int)), some (.ref 0), a4, a5, a6, a7]) ∧ m1 = [.lst (((pre.filter fun x => decide (x.h = .here) && (decide ((x.ns.length : Int) ≤ r.t) && !(x.ns.any fun n => (here l).contains n))).map (·.p)).map .int)])
    l [some r.w, some (.tup (l.map Row.w)), some (.lst ((here l).map .int)), some (.ref 0), none, none, none, none] [.lst []] ⟨⟨_, _, _, _, rfl⟩, rfl⟩
    (fun pre x post r1 m1 hx ⟨⟨a4, a5, a6, a7, h1⟩, h2⟩ => by
      subst h1 h2
      have hp : pre.length < 16777216 := pre_len hx (by omega)
      have hp1 : ∀ f : Rm.Row → Bool, (pre.filter f).length < 16777216 := fun f => Nat.lt_of_le_of_lt (List.length_filter_le _ _) hp
      have c2 : ∀ (mm : Mem) (a3 a4 a5 a6 a7 : Option W), compL (gN 7) dYes (eBin (inM false) (eVar 7) (eVar 2)) [7] (x.ns.map .int) [some r.w, some (.tup (l.map Row.w)), some (.lst ((here l).map .int)), a3, a4, a5, a6, a7] mm = .ok (x.ns.map fun n => .bl ((here l).contains n)) mm := fun mm a3 a4 a5 a6 a7 =>
        compL_all .int (fun n => .bl ((here l).contains n)) (fun n => [some r.w, some (.tup (l.map Row.w)), some (.lst ((here l).map .int)), a3, a4, a5, a6, some (.int n)]) x.ns (fun _ _ => rfl) fun n _ => by wp_walk using hp
      unfold Steps b_claiming_0
      wp_walk using cHERE, pp, eq_how, c2, anyW_map
      by_cases hh : x.h = .here
      · wp_walk using hh
        by_cases ht : (x.ns.length : Int) ≤ r.t
        · wp_walk using ht, c2, anyW_map
          cases ha : x.ns.any fun n => (here l).contains n with
          | true =>
            wp_walk using hp
            refine ⟨⟨_, _, _, _, rfl⟩, ?_⟩
            simp only [List.filter_append, List.filter_cons, hh, ht, ha, decide_true, Bool.not_true, Bool.and_false, Bool.false_eq_true, if_false, List.filter_nil, List.append_nil]
          | false =>
            wp_walk using hp1
            refine ⟨⟨_, _, _, _, rfl⟩, ?_⟩
            simp only [List.filter_append, List.filter_cons, hh, ht, ha, decide_true, Bool.not_false, Bool.and_self, if_true, List.filter_nil, List.map_append, List.map_cons, List.map_nil]
        · wp_walk using ht
          refine ⟨⟨_, _, _, _, rfl⟩, ?_⟩
          simp only [List.filter_append, List.filter_cons, hh, ht, decide_true, decide_false, Bool.false_and, Bool.and_false, Bool.false_eq_true, if_false, List.filter_nil, List.append_nil]
      · wp_walk using hh
        refine ⟨⟨_, _, _, _, rfl⟩, ?_⟩
        simp only [List.filter_append, List.filter_cons, hh, decide_false, Bool.false_and, Bool.false_eq_true, if_false, List.filter_nil, List.append_nil])
  have hf : frzW m' 6 (.ref 0) = some (.lst ((claims r l).map .int)) := by
    rw [e3]
    exact frzW_lst0 List.getElem?_cons_zero (gWs_ints _)
  refine pw_ok (w := .ref 0) (m1 := m') (by simp only [gWs_cons, g_rule, g_lineT, gWs_nil, Bool.and_self]) ?_ hf
  unfold d_claiming s_claiming_0 s_claiming_1 s_claiming_2 s_claiming_3
  wp_walk using cHERE, c1
  rw [e1, e2]
  wp_walk using hl
end L

namespace L
open PySem PySem.Spec PyProof.Rows L2 Dn Rm
local macro_rules | `(tactic| wp_walk using $ts,*) => `(tactic| simp only [runD, start0, start1, start2, start3, start4, start5, sSeq, sSet, sRet, sExpr, sIf, sNil, sCont, sRetN, sPass, sBrk, sBad, sAsg, sSub, sFor, sPar, sAug, sPut, sPutA, eVar, eC, eBin, eFn, eCall, eAnd, eOr, eNot, eIf, eTup, eLst, eLstM, eIsi, eFz, eNw, aComp, iSeq, iEnumW, eFld, eMeth, eMake, eSl, oNone, oSome, eRev, eIdx, eChain, eApp, eFrz, dTest, dAnd, dOr, dNot, aNil, aCons, aStar, Dn.R.bind, R.thenS, List.length_cons, List.length_nil, List.length_map, List.replicate, List.set, List.getElem?_cons_zero, List.getElem?_cons_succ, List.cons_append, List.nil_append, Nat.reduceAdd, Nat.reduceSub, Nat.zero_add, if_true, if_false, Bool.false_eq_true, Bool.not_true, Bool.not_false, decide_true, decide_false, addW_i, subW_i, addI_i, intW_i, gtW_i, geW_i, ltW_i, leW_i, tupleW_l, tupleW_t, lenW_t, lenW_l, eqM_int, neM_int, inM_ints, inM_intsL, ixM_t, ixM_l, lstOf, seqOf, trkOf, wipeR, Nat.reduceLeDiff, rule0, rule1, rule2, rule3, rule4, rule5, rule6, gN, gT, gsCons, gsNil, Option.bind, GoesD, four_lt, and_self, Bool.and_true, Bool.true_and, Bool.and_false, Bool.false_and, Bool.or_true, Bool.true_or, Bool.or_false, Bool.false_or, $[$ts:term],*])
section
variable {m : Mem} {n : Nat} {r : Rule}
theorem cASKS : w_ASKS = .str Bk.asks.s := rfl
theorem cOLD : w_OLD = .str Bk.old.s := rfl
theorem cTELLS : w_TELLS = .str Bk.tells.s := rfl
theorem cMP : w_MOST_PEOPLE = .int 12 := rfl
theorem cMEV : w_MOST_EVENTS = .int 200 := rfl
theorem how_is_ok (hn : n + 1 < m.length) (R : Rm.Room) (p : Int) : r_Room_how_is [.ref n, .int p] (putR m n r R) = .ok (howW (howIs R.line p)) (putR m n r R) := by
  unfold r_Room_how_is d_Room_how_is s_Room_how_is_0 s_Room_how_is_1
  have c1 : ∀ mm, compL (gT (gsCons (gN 3) (gsCons (gN 4) (gsCons (gN 5) gsNil)))) (dTest (eBin eqM (eVar 3) (eVar 1))) (eVar 4) [3, 4, 5] (R.line.map Row.w) [some (.ref n), some (.int p), none, none, none, none] mm = .ok (((R.line.filter fun x => x.p == p).map (·.h)).map fun h => .str h.s) mm := fun mm => by
    rw [compL_map Row.w (fun x => x.p == p) (fun x => .str x.h.s) (fun x => [some (.ref n), some (.int p), none, some (.int x.p), some (.str x.h.s), some (.tup (x.ns.map .int))]) _ (fun _ _ => rfl) (fun x _ => by wp_walk using eq_how) fun x _ _ => rfl, List.map_map]
    rfl
  wp_walk using f_line hn, c1
  unfold howIs
  have hok : ∀ h : How, okW 59 (.str h.s) = true := fun h => by cases h <;> kernel_rfl
  generalize (R.line.filter fun x => x.p == p).map (·.h) = hs
  wp_walk using ne_nilL hs hok
  cases hs with
  | nil => wp_walk using List.isEmpty_nil; rfl
  | cons h hs =>
    have e : atI (List.map (fun h : How => W.str h.s) (h :: hs)) 0 = some (.str h.s) := atI_get (n := 0) rfl rfl
    wp_walk using List.isEmpty_cons, e
    rfl
theorem are_here_ok (hn : n + 1 < m.length) (R : Rm.Room) : r_Room_are_here [.ref n] (putR m n r R) = .ok (.lst ((here R.line).map .int)) (putR m n r R) := by
  unfold r_Room_are_here d_Room_are_here s_Room_are_here_0
  have c1 : ∀ mm, compL (gT (gsCons (gN 1) (gsCons (gN 2) (gsCons (gN 3) gsNil)))) (dTest (eBin eqM (eVar 2) (eC (W.str How.here.s)))) (eVar 1) [1, 2, 3] (R.line.map Row.w) [some (.ref n), none, none, none] mm = .ok ((here R.line).map .int) mm := fun mm => by
    rw [compL_map Row.w (fun x => decide (x.h = .here)) (fun x => .int x.p) (fun x => [some (.ref n), some (.int x.p), some (.str x.h.s), some (.tup (x.ns.map .int))]) _ (fun _ _ => rfl) (fun x _ => by wp_walk using eq_how) fun x _ _ => rfl, here, List.map_map]
    rfl
  wp_walk using f_line hn, cHERE, c1
theorem can_be_ok (hn : n + 1 < m.length) (R : Rm.Room) (e : Ev) : r_Room_can_be [.ref n, e.w] (putR m n r R) = .ok (.bl (canBe r R e)) (putR m n r R) := by
  unfold r_Room_can_be d_Room_can_be s_Room_can_be_0 s_Room_can_be_1 s_Room_can_be_2 s_Room_can_be_3 s_Room_can_be_4 s_Room_can_be_5
  have hok : ∀ i : Int, okW 59 (.int i) = true := fun i => rfl
  cases e with
  | come =>
    have e1 : ∀ m, ixM m Ev.come.w (.int 0) = some (.str "come") := fun _ => rfl
    have e2 : ∀ m, eqM m (.str "come") w_COME = some (.bl true) := fun _ => by kernel_rfl
    wp_walk using e1, e2, f_came hn, cMP, canBe
  | door =>
    have e1 : ∀ m, ixM m Ev.door.w (.int 0) = some (.str "door") := fun _ => rfl
    have e2 : ∀ m, eqM m (.str "door") w_COME = some (.bl false) := fun _ => by kernel_rfl
    have e3 : ∀ m, eqM m (.str "door") w_DOOR = some (.bl true) := fun _ => by kernel_rfl
    wp_walk using e1, e2, e3, ins_put hn, no_are_here, are_here_ok hn, ne_nilL _ hok, canBe
  | pers x p =>
    have e1 : ∀ m, ixM m (Ev.pers x p).w (.int 0) = some (.str x.s) := fun _ => rfl
    have e1' : ∀ m, ixM m (Ev.pers x p).w (.int 1) = some (.int p) := fun _ => rfl
    have e2 : ∀ m, eqM m (.str x.s) w_COME = some (.bl false) := fun _ => by cases x <;> kernel_rfl
    have e3 : ∀ m, eqM m (.str x.s) w_DOOR = some (.bl false) := fun _ => by cases x <;> kernel_rfl
    have e4 : ∀ m, eqM m (.str x.s) w_BACK = some (.bl (decide (x = .back))) := fun _ => by cases x <;> kernel_rfl
    have e5 : ∀ m, neM m (.str x.s) w_LET = some (.bl (!decide (x = .lett))) := fun _ => by cases x <;> kernel_rfl
    by_cases hb : x = .back
    · subst hb
      wp_walk using e1, e1', e2, e3, e4, ins_put hn, no_how_is, how_is_ok hn, cLOST, cASKS, cOUT, eq_howW, eq_bk, f_rule hn, f_came hn, in_howW, cMP, canBe
      cases h1 : decide (howIs R.line p = some .lost) <;> cases h2 : decide (r.bk = .asks) <;> cases h3 : decide (howIs R.line p = some .out) <;> wp_walk using f_came hn, in_howW, h1, h3
    · have ec : canBe r R (.pers x p) = (decide (howIs R.line p = some .here) && (!decide (x = .lett) || decide (R.came < 12))) := by cases x <;> first | exact absurd rfl hb | rfl
      rw [ec]
      wp_walk using e1, e1', e2, e3, e4, e5, hb, ins_put hn, no_how_is, how_is_ok hn, cHERE, eq_howW, f_came hn, cMP
      cases h1 : decide (howIs R.line p = some .here) <;> cases h2 : decide (x = .lett) <;> wp_walk using f_came hn
theorem put_in_ok (hn : n + 1 < m.length) (hk : 0 ≤ r.k) (R : Rm.Room) (i : Nat) (hi : i ≤ R.line.length) (hl : R.line.length < 100000) : r_Room_put_in [.ref n, .int (i : Int)] (putR m n r R) = .ok .non (putR m n r (putIn r R i)) := by
  unfold r_Room_put_in d_Room_put_in s_Room_put_in_0 s_Room_put_in_1 s_Room_put_in_2
  have hb : ((R.line.map Row.w).take i ++ W.tup [.int R.came, .str How.here.s, .tup []] :: (R.line.map Row.w).drop i) = (R.line.take i ++ ⟨R.came, .here, []⟩ :: R.line.drop i).map Row.w := by
    rw [List.map_append, List.map_cons, List.map_take, List.map_drop]
    rfl
  have hlen : (R.line.take i ++ (⟨R.came, .here, []⟩ : Rm.Row) :: R.line.drop i).length < 1000000 := by
    simp only [List.length_append, List.length_cons, List.length_take, List.length_drop]
    omega
  have hlen2 : (R.line.take i ++ (⟨R.came, .here, []⟩ : Rm.Row) :: R.line.drop i).length ≤ 16777216 := by omega
  have rr := fun mm => renewed_ok (m := mm) r hk (R.line.take i ++ ⟨R.came, .here, []⟩ :: R.line.drop i) [(i : Int)] hlen
  simp only [List.map_cons (f := W.int), List.map_nil (f := W.int)] at rr
  wp_walk using cHERE, f_came hn, f_rule hn, f_line hn, cut_to, cut_from, List.append_nil, hb, hlen2, rr, ins_put hn, roomF_len, set_line, set_came
  rfl
theorem renew_from_ok (hn : n + 1 < m.length) (hk : 0 ≤ r.k) (R : Rm.Room) (i : Nat) (hi : i ≤ 100000) (hl : R.line.length < 100000) : r_Room_renew_from [.ref n, .int (i : Int)] (putR m n r R) = .ok .non (putR m n r (renewFrom r R i)) := by
  unfold r_Room_renew_from d_Room_renew_from s_Room_renew_from_0
  have c : (0 : Int) ≤ (i : Int) ∧ ((R.line.length : Nat) : Int) ≤ 16777216 ∧ (i : Int) ≤ 16777216 ∧ (0 : Int) ≤ ((R.line.length : Nat) : Int) := ⟨by omega, by omega, by omega, by omega⟩
  wp_walk using f_rule hn, f_line hn, aRg2, c, rg_ints, renewed_ok r hk _ _ (show R.line.length < 1000000 by omega), ins_put hn, roomF_len, set_line
  rfl
theorem spot_lt {l : Line} {p : Int} (h : p ∈ l.map (·.p)) : spotOf l p < l.length := by
  unfold spotOf
  rw [List.findIdx_lt_length]
  obtain ⟨x, hx, e⟩ := List.mem_map.mp h
  exact ⟨x, hx, by simpa using e⟩
theorem bring_back_ok (hn : n + 1 < m.length) (hk : 0 ≤ r.k) (R : Rm.Room) (i : Nat) (hi : i < R.line.length) (hl : R.line.length < 100000) : r_Room_bring_back [.ref n, .int (i : Int)] (putR m n r R) = .ok .non (putR m n r (bringBack r R i)) := by
  unfold r_Room_bring_back d_Room_bring_back s_Room_bring_back_0 s_Room_bring_back_1 s_Room_bring_back_2 s_Room_bring_back_3
  obtain ⟨x, e⟩ : ∃ x, R.line[i]? = some x := ⟨R.line[i], List.getElem?_eq_getElem hi⟩
  have e1 : atI (R.line.map Row.w) (i : Int) = some x.w := atI_get rfl (by rw [List.getElem?_map, e]; rfl)
  have e2 : ∀ m, ixM m x.w (.int 1) = some (.str x.h.s) := fun _ => rfl
  have e3 : ((i : Int) + 1) = ((i + 1 : Nat) : Int) := by omega
  have rest : ¬ (r.bk = .asks ∧ x.h = .lost) → bringBack r R i = match r.bk with
    | .tells => renewFrom r ⟨asHow R.line i .here, R.came, R.served⟩ i
    | .old => ⟨asHow R.line i .here, R.came, R.served⟩
    | .asks => ⟨renewed r (asHow R.line i .here) [(i : Int)], R.came, R.served⟩ := fun h => by
    unfold bringBack
    refine if_neg ?_
    rintro ⟨h1, h2⟩
    rw [e] at h2
    exact h ⟨h1, by simpa using h2⟩
  have ah := as_how_ok (m := putR m n r R) R.line i .here hi (by omega)
  have hla : (asHow R.line i .here).length < 1000000 := by rw [asHow_len]; omega
  have rr := fun mm => renewed_ok (m := mm) r hk (asHow R.line i .here) [(i : Int)] hla
  simp only [List.map_cons (f := W.int), List.map_nil (f := W.int)] at rr
  have rf := renew_from_ok (r := r) hn hk ⟨asHow R.line i .here, R.came, R.served⟩ i (by omega) (by simp only [asHow_len]; omega)
  wp_walk using f_rule hn, f_line hn, e1, e2, cASKS, cLOST, cHERE, cTELLS, cOLD, eq_bk, ne_bk, eq_how
  by_cases hb : r.bk = .asks
  · by_cases hh : x.h = .lost
    · have eb : bringBack r R i = putIn r ⟨R.line.take i ++ R.line.drop (i + 1), R.came, R.served⟩ (R.line.length - 1) := by
        unfold bringBack
        rw [if_pos ⟨hb, by rw [e]; exact congrArg some hh⟩]
      have hb1 : ((R.line.map Row.w).take i ++ (R.line.map Row.w).drop (i + 1)) = (R.line.take i ++ R.line.drop (i + 1)).map Row.w := by
        rw [List.map_append, List.map_take, List.map_drop]
      have hl1 : (R.line.take i ++ R.line.drop (i + 1)).length = R.line.length - 1 := by
        simp only [List.length_append, List.length_take, List.length_drop]
        omega
      have hl2 : R.line.length - 1 ≤ 16777216 := by omega
      have pi := put_in_ok (r := r) hn hk ⟨R.line.take i ++ R.line.drop (i + 1), R.came, R.served⟩ (R.line.length - 1) (by simp only [hl1]; omega) (by simp only [hl1]; omega)
      wp_walk using hb, hh, cut_to, cut_from, e3, List.append_nil, hb1, hl2, ins_put hn, roomF_len, set_line, f_line hn, no_put_in, hl1, pi, eb
    · have rs := rest fun q => hh q.2
      simp only [hb] at rs
      have d1 : ¬ Bk.asks = Bk.tells := by decide
      have d2 : ¬ Bk.asks = Bk.old := by decide
      wp_walk using hb, hh, ah, ins_put hn, roomF_len, set_line, f_rule hn, f_line hn, eq_bk, ne_bk, rr, rs, d1, d2
  · have rs := rest fun q => hb q.1
    cases hk2 : r.bk with
    | asks => exact absurd hk2 hb
    | old =>
      simp only [hk2] at rs
      have d0 : ¬ Bk.old = Bk.asks := by decide
      have d1 : ¬ Bk.old = Bk.tells := by decide
      wp_walk using hk2, ah, ins_put hn, roomF_len, set_line, f_rule hn, f_line hn, eq_bk, ne_bk, rs, d0, d1
    | tells =>
      simp only [hk2] at rs
      have d0 : ¬ Bk.tells = Bk.asks := by decide
      wp_walk using hk2, ah, ins_put hn, roomF_len, set_line, f_rule hn, f_line hn, eq_bk, ne_bk, rs, d0, no_renew_from, rf
theorem open_door_ok (hn : n + 1 < m.length) (hk : 0 ≤ r.k) (R : Rm.Room) (hl : R.line.length < 100000) (hs : R.served.length < 1000000) : r_Room_open_door [.ref n] (putR m n r R) = .ok .non (putR m n r (openDoor r R)) := by
  unfold r_Room_open_door d_Room_open_door s_Room_open_door_0 s_Room_open_door_1 s_Room_open_door_2
  have h1 : (askedAgain r R.line).length < 1000000 := by rw [asked_len]; omega
  have aa := fun mm => asked_again_ok (m := mm) r hk R.line (by omega)
  have cc := fun mm => claiming_ok (m := mm) r (askedAgain r R.line) h1
  have ww := fun mm p => without_ok (m := mm) r hk (askedAgain r R.line) p h1
  have hs2 : R.served.length < 16777216 := by omega
  wp_walk using f_rule hn, f_line hn, aa, cc, ins_put hn, roomF_len, set_line
  cases hc : claims r (askedAgain r R.line) with
  | nil =>
    have eo : openDoor r R = ⟨askedAgain r R.line, R.came, R.served⟩ := by unfold openDoor; rw [hc]
    have b0 : (((0 : Nat) : Int) == 1) = false := rfl
    wp_walk using b0, eo
  | cons p ps =>
    cases ps with
    | nil =>
      have eo : openDoor r R = ⟨without r (askedAgain r R.line) p, R.came, R.served ++ [p]⟩ := by unfold openDoor; rw [hc]
      have b0 : (((1 : Nat) : Int) == 1) = true := rfl
      have a0 : atI (List.map W.int [p]) 0 = some (.int p) := rfl
      wp_walk using b0, a0, f_served hn, putR_srv hn, hs2, set_served, f_rule hn, f_line hn, ww, ins_put hn, roomF_len, set_line, eo
    | cons q qs =>
      have eo : openDoor r R = ⟨askedAgain r R.line, R.came, R.served⟩ := by unfold openDoor; rw [hc]
      have b0 : ∀ k : Nat, (((k + 1 + 1 : Nat) : Int) == 1) = false := fun k => by
        rw [beq_eq_false_iff_ne]
        omega
      wp_walk using b0, eo
theorem do_personal_ok (hn : n + 1 < m.length) (hk : 0 ≤ r.k) (R : Rm.Room) (x : Pw) (p : Int) (hp : p ∈ R.line.map (·.p)) (hl : R.line.length < 10000) : r_Room_do_personal [.ref n, .str x.s, .int p] (putR m n r R) = .ok .non (putR m n r (doPers r R x p)) := by
  unfold r_Room_do_personal d_Room_do_personal s_Room_do_personal_0 s_Room_do_personal_1
  have hi := spot_lt hp
  have sp := fun mm => spot_of_ok (m := mm) R.line p hp
  have e1 : ∀ m, eqM m (.str x.s) w_LET = some (.bl (decide (x = .lett))) := fun _ => by cases x <;> kernel_rfl
  have e2 : ∀ m, eqM m (.str x.s) w_LEAVE = some (.bl (decide (x = .leave))) := fun _ => by cases x <;> kernel_rfl
  have e3 : ∀ m, eqM m (.str x.s) w_BACK = some (.bl (decide (x = .back))) := fun _ => by cases x <;> kernel_rfl
  have e4 : ∀ m, eqM m (.str x.s) w_OUT = some (.bl (decide (x = .out))) := fun _ => by cases x <;> kernel_rfl
  have i1 : ((spotOf R.line p : Nat) : Int) + 1 = ((spotOf R.line p + 1 : Nat) : Int) := by omega
  have i2 : ((spotOf R.line p : Nat) : Int) + 2 = ((spotOf R.line p + 2 : Nat) : Int) := by omega
  have pi := put_in_ok (r := r) hn hk R (spotOf R.line p + 1) (by omega) (by omega)
  have rf := renew_from_ok (r := r) hn hk (putIn r R (spotOf R.line p + 1)) (spotOf R.line p + 2) (by omega) (by rw [putIn_len]; omega)
  have bb := bring_back_ok (r := r) hn hk R (spotOf R.line p) hi (by omega)
  have ao := fun mm => as_how_ok (m := mm) R.line (spotOf R.line p) .out hi (by omega)
  have aa := fun mm => as_how_ok (m := mm) R.line (spotOf R.line p) .away hi (by omega)
  have ww := fun mm => without_ok (m := mm) r hk R.line p (by omega)
  wp_walk using f_line hn, sp, e1, e2, e3
  cases x with
  | lett =>
    have c : decide (Pw.lett = Pw.lett) = true := rfl
    wp_walk using c, ins_put hn, no_put_in, i1, i2, pi, f_rule hn, cTOLD, eq_told, no_renew_from
    cases ht : r.told with
    | true =>
      have ed : doPers r R .lett p = renewFrom r (putIn r R (spotOf R.line p + 1)) (spotOf R.line p + 2) := by simp only [doPers, ht, if_true]
      wp_walk using ins_put hn, no_renew_from, i2, rf, ed
    | false =>
      have ed : doPers r R .lett p = putIn r R (spotOf R.line p + 1) := by simp only [doPers, ht, Bool.false_eq_true, if_false]
      wp_walk using ed
  | leave =>
    have c : decide (Pw.leave = Pw.lett) = false := rfl
    have c2 : decide (Pw.leave = Pw.leave) = true := rfl
    wp_walk using c, c2, f_rule hn, f_line hn, ww, ins_put hn, roomF_len, set_line
    rfl
  | back =>
    have c : decide (Pw.back = Pw.lett) = false := rfl
    have c2 : decide (Pw.back = Pw.leave) = false := rfl
    have c3 : decide (Pw.back = Pw.back) = true := rfl
    wp_walk using c, c2, c3, ins_put hn, no_bring_back, bb
    rfl
  | out =>
    have c : decide (Pw.out = Pw.lett) = false := rfl
    have c2 : decide (Pw.out = Pw.leave) = false := rfl
    have c3 : decide (Pw.out = Pw.back) = false := rfl
    have c4 : decide (Pw.out = Pw.out) = true := rfl
    wp_walk using c, c2, c3, c4, e4, f_line hn, ao, cAWAY, ins_put hn, roomF_len, set_line
    wp_walk using cOUT, ao, ins_put hn, roomF_len, set_line
    rfl
  | vanish =>
    have c : decide (Pw.vanish = Pw.lett) = false := rfl
    have c2 : decide (Pw.vanish = Pw.leave) = false := rfl
    have c3 : decide (Pw.vanish = Pw.back) = false := rfl
    have c4 : decide (Pw.vanish = Pw.out) = false := rfl
    wp_walk using c, c2, c3, c4, e4, f_line hn, aa, cAWAY, ins_put hn, roomF_len, set_line
    rfl
theorem do_ok (hn : n + 1 < m.length) (hk : 0 ≤ r.k) (R : Rm.Room) (e : Ev) (hp : named R e) (hl : R.line.length < 10000) (hs : R.served.length < 1000000) : r_Room_do [.ref n, e.w] (putR m n r R) = .ok .non (putR m n r (doEv r R e)) := by
  unfold r_Room_do d_Room_do s_Room_do_0 s_Room_do_1
  cases e with
  | come =>
    have e1 : ∀ m, ixM m Ev.come.w (.int 0) = some (.str "come") := fun _ => rfl
    have e2 : ∀ m, eqM m (.str "come") w_COME = some (.bl true) := fun _ => by kernel_rfl
    have pi := put_in_ok (r := r) hn hk R R.line.length (Nat.le_refl _) (by omega)
    wp_walk using e1, e2, ins_put hn, no_put_in, f_line hn, pi, forgetting_ok, roomF_len, set_line
    rfl
  | door =>
    have e1 : ∀ m, ixM m Ev.door.w (.int 0) = some (.str "door") := fun _ => rfl
    have e2 : ∀ m, eqM m (.str "door") w_COME = some (.bl false) := fun _ => by kernel_rfl
    have e3 : ∀ m, eqM m (.str "door") w_DOOR = some (.bl true) := fun _ => by kernel_rfl
    wp_walk using e1, e2, e3, ins_put hn, no_open_door, open_door_ok hn hk R (by omega) hs, f_line hn, forgetting_ok, roomF_len, set_line
    rfl
  | pers x p =>
    have e1 : ∀ m, ixM m (Ev.pers x p).w (.int 0) = some (.str x.s) := fun _ => rfl
    have e1' : ∀ m, ixM m (Ev.pers x p).w (.int 1) = some (.int p) := fun _ => rfl
    have e2 : ∀ m, eqM m (.str x.s) w_COME = some (.bl false) := fun _ => by cases x <;> kernel_rfl
    have e3 : ∀ m, eqM m (.str x.s) w_DOOR = some (.bl false) := fun _ => by cases x <;> kernel_rfl
    wp_walk using e1, e1', e2, e3, ins_put hn, no_do_personal, do_personal_ok hn hk R x p hp hl, f_line hn, forgetting_ok, roomF_len, set_line
    rfl
end
end L

namespace L
open PySem PySem.Spec PyProof.Rows L2 Dn Rm
local macro_rules | `(tactic| wp_walk using $ts,*) => `(tactic| simp only [runD, start0, start1, start2, start3, start4, start5, sSeq, sSet, sRet, sExpr, sIf, sNil, sCont, sRetN, sPass, sBrk, sBad, sAsg, sSub, sFor, sPar, sAug, sPut, sPutA, eVar, eC, eBin, eFn, eCall, eAnd, eOr, eNot, eIf, eTup, eLst, eLstM, eIsi, eFz, eNw, aComp, iSeq, iEnumW, eFld, eMeth, eMake, eSl, oNone, oSome, eRev, eIdx, eChain, eApp, eFrz, dTest, dAnd, dOr, dNot, aNil, aCons, aStar, Dn.R.bind, R.thenS, List.length_cons, List.length_nil, List.length_map, List.replicate, List.set, List.getElem?_cons_zero, List.getElem?_cons_succ, List.cons_append, List.nil_append, Nat.reduceAdd, Nat.reduceSub, Nat.zero_add, if_true, if_false, Bool.false_eq_true, Bool.not_true, Bool.not_false, decide_true, decide_false, addW_i, subW_i, addI_i, intW_i, gtW_i, geW_i, ltW_i, leW_i, tupleW_l, tupleW_t, lenW_t, lenW_l, eqM_int, neM_int, inM_ints, inM_intsL, ixM_t, ixM_l, lstOf, seqOf, trkOf, wipeR, Nat.reduceLeDiff, rule0, rule1, rule2, rule3, rule4, rule5, rule6, gN, gT, gsCons, gsNil, Option.bind, GoesD, four_lt, and_self, Bool.and_true, Bool.true_and, Bool.and_false, Bool.false_and, Bool.or_true, Bool.true_or, Bool.or_false, Bool.false_or, $[$ts:term],*])
section
variable {m : Mem} {n : Nat} {r : Rule}
theorem has_form_ok (e : Ev) : r_has_form [e.w] m = .ok (.bl true) m := by
  cases e with
  | come => kernel_rfl
  | door => kernel_rfl
  | pers x p => cases x <;> kernel_rfl
theorem get_last (m : Mem) (c : Cell) : (m ++ [c])[m.length]? = some c := by simp
theorem get_last1 (m : Mem) (c d : Cell) : (m ++ [c, d])[m.length]? = some c := by simp
theorem set_last (m : Mem) (c d : Cell) : (m ++ [c]).set m.length d = m ++ [d] := by simp
theorem set_last1 (m : Mem) (c d e : Cell) : (m ++ [c, d]).set m.length e = m ++ [e, d] := by simp
theorem init_ok (r : Rule) (m : Mem) : r_Room___init__ [.ref m.length, r.w] (m ++ [.ins 0 []]) = .ok .non (m ++ [.ins 0 (roomF r room0 (m.length + 1)), .lst []]) := by
  unfold r_Room___init__ d_Room___init__ s_Room___init___0 s_Room___init___1 s_Room___init___2 s_Room___init___3
  have p1 : putFW "own_rule" r.w [] = [(Str.ofString "own_rule", r.w)] := by kernel_rfl
  have p2 : putFW "line_now" (.tup []) [(Str.ofString "own_rule", r.w)] = [(Str.ofString "own_rule", r.w), (Str.ofString "line_now", .tup [])] := by kernel_rfl
  have p3 : putFW "came_so_far" (.int 0) [(Str.ofString "own_rule", r.w), (Str.ofString "line_now", .tup [])] = [(Str.ofString "own_rule", r.w), (Str.ofString "line_now", .tup []), (Str.ofString "came_so_far", .int 0)] := by kernel_rfl
  have p4 : ∀ k, putFW "served_so_far" (.ref k) [(Str.ofString "own_rule", r.w), (Str.ofString "line_now", .tup []), (Str.ofString "came_so_far", .int 0)] = roomF r room0 k := fun k => by kernel_rfl
  have l0 : ((0 : Nat) < 1000) = True := eq_true (by decide)
  have l1 : ((1 : Nat) < 1000) = True := eq_true (by decide)
  have l2 : ((2 : Nat) < 1000) = True := eq_true (by decide)
  have l3 : ((3 : Nat) < 1000) = True := eq_true (by decide)
  wp_walk using insOf, get_last, get_last1, set_last, set_last1, p1, p2, p3, p4, l0, l1, l2, l3, List.length_append, List.append_assoc
theorem make_room (r : Rule) (m : Mem) : (r_Room___init__ (.ref m.length :: [r.w]) (m ++ [.ins 0 []])) = .ok .non (m ++ [.ins 0 (roomF r room0 (m.length + 1)), .lst []]) := init_ok r m
theorem new_room (r : Rule) (m : Mem) : m ++ [.ins 0 (roomF r room0 (m.length + 1)), .lst []] = putR (m ++ [.lst [], .lst []]) m.length r room0 := by rw [putR_app]; rfl
theorem beh_len (r : Rule) (es : List Ev) : (behind r es).line.length ≤ es.length := by
  have := behind_len r es room0
  simpa [behind, room0] using this
theorem beh_srv (r : Rule) (es : List Ev) : (behind r es).served.length ≤ es.length := by
  have := behind_srv r es room0
  simpa [behind, room0] using this
theorem room_loop (hk : 0 ≤ r.k) (es : List Ev) (hrow : isRow r room0 es = true) (hlen : es.length ≤ 200) (m : Mem) : ∃ r' m', loop (gT (gsCons (gN 3) (gsCons (gN 4) gsNil))) b_room_behind_0 ((es.zipIdx).map fun x => W.tup [.int (x.2 : Nat), Ev.w x.1]) [some r.w, some (.tup (es.map Ev.w)), some (.ref m.length), none, none] (putR (m ++ [.lst [], .lst []]) m.length r room0) = .next r' m' ∧
    (∃ a3 a4, r' = [some r.w, some (.tup (es.map Ev.w)), some (.ref m.length), a3, a4]) ∧ m' = putR (m ++ [.lst [], .lst []]) m.length r (behind r es) := by
  obtain ⟨r', m', e1, e2, e3⟩ := loop_pre (t := gT (gsCons (gN 3) (gsCons (gN 4) gsNil))) (body := b_room_behind_0) (fun x : Ev × Nat => W.tup [.int (x.2 : Nat), Ev.w x.1])
    (fun pre r1 m1 => (∃ a3 a4, r1 = [some r.w, some (.tup (es.map Ev.w)), some (.ref m.length), a3, a4]) ∧ m1 = putR (m ++ [.lst [], .lst []]) m.length r (behind r (pre.map (·.1))))
    es.zipIdx [some r.w, some (.tup (es.map Ev.w)), some (.ref m.length), none, none] (putR (m ++ [.lst [], .lst []]) m.length r room0) ⟨⟨_, _, rfl⟩, rfl⟩
    (fun pre x post r1 m1 hx ⟨⟨a3, a4, h1⟩, h2⟩ => by
      subst h1 h2
      have he : es = pre.map (·.1) ++ x.1 :: post.map (·.1) := by
        have := congrArg (List.map (·.1)) hx
        rw [List.zipIdx_map_fst] at this
        rw [this]; simp
      have hc : canBe r (behind r (pre.map (·.1))) x.1 = true := row_at (by rw [← he]; exact hrow)
      have hp : (pre.map (·.1)).length ≤ 200 := by
        have := congrArg List.length he
        rw [List.length_append, List.length_cons] at this
        omega
      have hb := beh_len r (pre.map (·.1))
      have hs := beh_srv r (pre.map (·.1))
      have hn := app_len m (.lst []) (.lst [])
      have hd := do_ok (r := r) hn hk (behind r (pre.map (·.1))) x.1 (can_named hc) (by omega) (by omega)
      unfold Steps b_room_behind_0
      wp_walk using has_form_ok, ins_put hn, no_can_be, can_be_ok hn, hc, no_do, hd
      refine ⟨⟨_, _, rfl⟩, ?_⟩
      simp [behind])
  refine ⟨r', m', e1, e2, ?_⟩
  rw [e3, List.zipIdx_map_fst]
theorem room_behind_ok (hk : 0 ≤ r.k) (es : List Ev) (hrow : isRow r room0 es = true) (hlen : es.length ≤ 200) (m : Mem) : r_room_behind [r.w, .tup (es.map Ev.w)] m = .ok (.ref m.length) (putR (m ++ [.lst [], .lst []]) m.length r (behind r es)) := by
  obtain ⟨r', m', e1, ⟨a3, a4, e2⟩, e3⟩ := room_loop hk es hrow hlen m
  unfold r_room_behind d_room_behind s_room_behind_0 s_room_behind_1 s_room_behind_2 s_room_behind_3
  have i0 : ∀ m, tyW m (.tup (es.map Ev.w)) = some .tup := fun _ => rfl
  have i3 : Ty.sub .tup .tup = true := rfl
  have i4 : ¬ ((200 : Int) < (es.length : Nat)) := by omega
  wp_walk using i0, i3, cMEV, i4, make_room, new_room, numbered_map, e1, e2, e3
theorem need_room_ok (hr : r.Ok) (es : List Ev) (hrow : isRow r room0 es = true) (hlen : es.length ≤ 200) (m : Mem) : r_need_room [r.w, .tup (es.map Ev.w)] m = .ok (.ref m.length) (putR (m ++ [.lst [], .lst []]) m.length r (behind r es)) := by
  unfold r_need_room d_need_room s_need_room_0
  wp_walk using need_rule_ok r hr, room_behind_ok (Int.le_trans (by decide) hr.k1) es hrow hlen
abbrev m2 : Mem := [.lst [], .lst []]
theorem m2len : 0 + 1 < m2.length := by decide
theorem need0 (hr : r.Ok) (es : List Ev) (hrow : isRow r room0 es = true) (hlen : es.length ≤ 200) : r_need_room [r.w, .tup (es.map Ev.w)] [] = .ok (.ref 0) (putR m2 0 r (behind r es)) := need_room_ok hr es hrow hlen []
theorem gRE (r : Rule) (es : List Ev) : gWs [r.w, .tup (es.map Ev.w)] = true := by simp only [gWs_cons, g_rule, g_evs, gWs_nil, Bool.and_self]
theorem gREp (r : Rule) (es : List Ev) (p : Int) : gWs [r.w, .tup (es.map Ev.w), .int p] = true := by simp only [gWs_cons, g_rule, g_evs, gW_int, gWs_nil, Bool.and_self]
theorem standing_ok (hr : r.Ok) (es : List Ev) (hrow : isRow r room0 es = true) (hlen : es.length ≤ 200) : r_standing_behind [r.w, .tup (es.map Ev.w)] m = .ok (.tup ((behind r es).line.map Row.w)) m := by
  unfold r_standing_behind
  refine pw_g (m1 := putR m2 0 r (behind r es)) (gRE r es) ?_ (g_lineT _)
  unfold d_standing_behind s_standing_behind_0
  wp_walk using need0 hr es hrow hlen, f_line m2len
theorem line_ok (hr : r.Ok) (es : List Ev) (hrow : isRow r room0 es = true) (hlen : es.length ≤ 200) : r_line_behind [r.w, .tup (es.map Ev.w)] m = .ok (.tup (((behind r es).line.map (·.p)).map .int)) m := by
  unfold r_line_behind
  refine pw_g (m1 := putR m2 0 r (behind r es)) (gRE r es) ?_ (g_intsT _)
  unfold d_line_behind s_line_behind_0
  wp_walk using need0 hr es hrow hlen, f_line m2len
  rw [compL_all Row.w (fun x => .int x.p) (fun x => [some r.w, some (.tup (es.map Ev.w)), some (.int x.p), some (.str x.h.s), some (.tup (x.ns.map .int))]) _ (fun x _ => rfl) fun x _ => rfl]
  wp_walk using List.map_map
  rfl
def namesOf (l : Line) (p : Int) : List Int := match l[spotOf l p]? with
  | some x => x.ns
  | none => []
theorem names_ok (hr : r.Ok) (es : List Ev) (hrow : isRow r room0 es = true) (hlen : es.length ≤ 200) (p : Int) (hp : p ∈ (behind r es).line.map (·.p)) : r_names_behind [r.w, .tup (es.map Ev.w), .int p] m = .ok (.tup ((namesOf (behind r es).line p).map .int)) m := by
  unfold r_names_behind
  refine pw_g (m1 := putR m2 0 r (behind r es)) (gREp r es p) ?_ (g_intsT _)
  unfold d_names_behind s_names_behind_0 s_names_behind_1 s_names_behind_2
  obtain ⟨h, eh⟩ := mem_howIs hp
  have hi := spot_lt hp
  obtain ⟨x, e⟩ : ∃ x, (behind r es).line[spotOf (behind r es).line p]? = some x := ⟨_, List.getElem?_eq_getElem hi⟩
  have e1 : atI ((behind r es).line.map Row.w) (spotOf (behind r es).line p : Nat) = some x.w := atI_get rfl (by rw [List.getElem?_map, e]; rfl)
  have e2 : ∀ m, ixM m x.w (.int 2) = some (.tup (x.ns.map .int)) := fun _ => rfl
  have e3 : namesOf (behind r es).line p = x.ns := by unfold namesOf; rw [e]
  have e4 : ∀ m, isNonW m (howW (some h)) .non = some (.bl false) := fun _ => rfl
  wp_walk using need0 hr es hrow hlen, is_integer_int, ins_put m2len, no_how_is, how_is_ok m2len, eh, e4, f_line m2len, spot_of_ok _ _ hp, e1, e2, e3
theorem stale_ok (hr : r.Ok) (es : List Ev) (hrow : isRow r room0 es = true) (hlen : es.length ≤ 200) (p : Int) (hp : p ∈ (behind r es).line.map (·.p)) : r_stale_behind [r.w, .tup (es.map Ev.w), .int p] m = .ok (.tup (((namesOf (behind r es).line p).filter fun n => !((behind r es).line.map (·.p)).contains n).map .int)) m := by
  unfold r_stale_behind
  refine pw_g (m1 := []) (gREp r es p) ?_ (g_intsT _)
  unfold d_stale_behind s_stale_behind_0 s_stale_behind_1 s_stale_behind_2
  wp_walk using names_ok hr es hrow hlen p hp, line_ok hr es hrow hlen
  rw [compL_map .int (fun n => !((behind r es).line.map (·.p)).contains n) .int (fun n => [some r.w, some (.tup (es.map Ev.w)), some (.int p), some (.tup ((namesOf (behind r es).line p).map .int)), some (.tup (((behind r es).line.map (·.p)).map .int)), some (.int n)]) _ (fun _ _ => rfl) (fun n _ => by wp_walk using hlen) fun _ _ _ => rfl]
  wp_walk using hlen
theorem gaps_in_ok (l : Line) (hl : l.length < 1000000) : r_gaps_in [.tup (l.map Row.w)] m = .ok (.lst ((gapsIn l).map pairW)) m := by
  unfold r_gaps_in
  have pp : ∀ x : Rm.Row, x.w = W.tup [.int x.p, .str x.h.s, .tup (x.ns.map .int)] := fun _ => rfl
  obtain ⟨r', m', e1, ⟨a3, a4, a5, e2⟩, e3⟩ := loop_pre (t := gT (gsCons (gN 3) (gsCons (gN 4) (gsCons (gN 5) gsNil)))) (body := b_gaps_in_0) Row.w
    (fun pre r1 m1 => (∃ a3 a4 a5, r1 = [some (.tup (l.map Row.w)), some (.ref 0), some (.int (pre.foldl gapStep ([], 0)).2), a3, a4, a5]) ∧ m1 = [.lst ((pre.foldl gapStep ([], 0)).1.map pairW)])
    l [some (.tup (l.map Row.w)), some (.ref 0), some (.int 0), none, none, none] [.lst []] ⟨⟨_, _, _, rfl⟩, rfl⟩
    (fun pre x post r1 m1 hx ⟨⟨a3, a4, a5, h1⟩, h2⟩ => by
      subst h1 h2
      have hp : pre.length < 16777216 := pre_len hx (by omega)
      have hg : (pre.foldl gapStep ([], 0)).1.length < 16777216 := Nat.lt_of_le_of_lt (gap_len pre _) (by simpa using hp)
      unfold Steps b_gaps_in_0
      wp_walk using cHERE, cLOST, pp, eq_how
      rw [List.foldl_append, List.foldl_cons, List.foldl_nil]
      by_cases hh : x.h = .here
      · have eg : ∀ a, gapStep a x = (a.1 ++ [(x.p, a.2)], 0) := fun a => if_pos hh
        wp_walk using hh, hg, eg
        refine ⟨⟨_, _, _, rfl⟩, ?_⟩
        rw [List.map_append]
        rfl
      · by_cases hh2 : x.h = .lost
        · have eg : ∀ a, gapStep a x = a := fun a => by unfold gapStep; rw [if_neg hh, if_pos hh2]
          have d : ¬ How.lost = How.here := by decide
          wp_walk using hh2, ne_how, eg, d
          exact ⟨⟨_, _, _, rfl⟩, by trivial⟩
        · have eg : ∀ a, gapStep a x = (a.1, a.2 + 1) := fun a => by unfold gapStep; rw [if_neg hh, if_neg hh2]
          wp_walk using hh, hh2, ne_how, eg
          exact ⟨⟨_, _, _, rfl⟩, by trivial⟩)
  have hf : frzW m' 6 (.ref 0) = some (.lst ((gapsIn l).map pairW)) := by
    rw [e3]
    exact frzW_lst0 List.getElem?_cons_zero (gWs_map g_pair _)
  refine pw_ok (w := .ref 0) (m1 := m') (by simp only [gWs_cons, g_lineT, gWs_nil, Bool.and_self]) ?_ hf
  unfold d_gaps_in s_gaps_in_0 s_gaps_in_1 s_gaps_in_2
  wp_walk using e1, e2
theorem gaps_ok (hr : r.Ok) (es : List Ev) (hrow : isRow r room0 es = true) (hlen : es.length ≤ 200) : r_gaps_behind [r.w, .tup (es.map Ev.w)] m = .ok (.tup ((gapsIn (behind r es).line).map pairW)) m := by
  unfold r_gaps_behind
  refine pw_g (m1 := putR m2 0 r (behind r es)) (gRE r es) ?_ (by rw [gW_tup]; exact gWs_map g_pair _)
  unfold d_gaps_behind s_gaps_behind_0
  have hb := beh_len r es
  wp_walk using need0 hr es hrow hlen, f_line m2len, gaps_in_ok _ (show (behind r es).line.length < 1000000 by omega)
theorem claims_in_ok (hn : n + 1 < m.length) (hk : 0 ≤ r.k) (R : Rm.Room) (hl : R.line.length < 100000) : r_claims_in [.ref n] (putR m n r R) = .ok (.lst ((claimsNow r R.line).map .int)) (putR m n r R) := by
  unfold r_claims_in d_claims_in s_claims_in_0
  wp_walk using f_rule hn, f_line hn, asked_again_ok r hk R.line (by omega), claiming_ok r (askedAgain r R.line) (by rw [asked_len]; omega)
  rfl
theorem claims_ok (hr : r.Ok) (es : List Ev) (hrow : isRow r room0 es = true) (hlen : es.length ≤ 200) : r_claims_behind [r.w, .tup (es.map Ev.w)] m = .ok (.tup ((claimsNow r (behind r es).line).map .int)) m := by
  unfold r_claims_behind
  refine pw_g (m1 := putR m2 0 r (behind r es)) (gRE r es) ?_ (g_intsT _)
  unfold d_claims_behind s_claims_behind_0
  have hb := beh_len r es
  wp_walk using need0 hr es hrow hlen, claims_in_ok m2len (Int.le_trans (by decide) hr.k1) (behind r es) (by omega)
end
end L

namespace L
open PySem PySem.Spec PyProof.Rows L2 Dn Rm
local macro_rules | `(tactic| wp_walk using $ts,*) => `(tactic| simp only [runD, start0, start1, start2, start3, start4, start5, sSeq, sSet, sRet, sExpr, sIf, sNil, sCont, sRetN, sPass, sBrk, sBad, sAsg, sSub, sFor, sPar, sAug, sPut, sPutA, eVar, eC, eBin, eFn, eCall, eAnd, eOr, eNot, eIf, eTup, eLst, eLstM, eIsi, eFz, eNw, aComp, iSeq, iEnumW, eFld, eMeth, eMake, eSl, oNone, oSome, eRev, eIdx, eChain, eApp, eFrz, dTest, dAnd, dOr, dNot, aNil, aCons, aStar, Dn.R.bind, R.thenS, List.length_cons, List.length_nil, List.length_map, List.replicate, List.set, List.getElem?_cons_zero, List.getElem?_cons_succ, List.cons_append, List.nil_append, Nat.reduceAdd, Nat.reduceSub, Nat.zero_add, if_true, if_false, Bool.false_eq_true, Bool.not_true, Bool.not_false, decide_true, decide_false, addW_i, subW_i, addI_i, intW_i, gtW_i, geW_i, ltW_i, leW_i, tupleW_l, tupleW_t, lenW_t, lenW_l, eqM_int, neM_int, inM_ints, inM_intsL, ixM_t, ixM_l, lstOf, seqOf, trkOf, wipeR, Nat.reduceLeDiff, rule0, rule1, rule2, rule3, rule4, rule5, rule6, gN, gT, gsCons, gsNil, Option.bind, GoesD, four_lt, and_self, Bool.and_true, Bool.true_and, Bool.and_false, Bool.false_and, Bool.or_true, Bool.true_or, Bool.or_false, Bool.false_or, $[$ts:term],*])
section
variable {m : Mem} {n : Nat} {r : Rule}
/-! ### a second room behind the first one -/
abbrev m4 (a b : Cell) : Mem := [a, b, .lst [], .lst []]
theorem m4len (a b : Cell) : 2 + 1 < (m4 a b).length := (by decide : 2 + 1 < 4)
theorem two_rooms (r : Rule) (R : Rm.Room) : (putR m2 0 r R ++ [.ins 0 (roomF r room0 ((putR m2 0 r R).length + 1)), .lst []] : Mem) = putR (m4 (.ins 0 (roomF r R 1)) (.lst (R.served.map .int))) 2 r room0 := rfl
theorem mk2 (r : Rule) (R : Rm.Room) : r_Room___init__ [.ref 2, r.w] (putR m2 0 r R ++ [.ins 0 []]) = .ok .non (putR (m4 (.ins 0 (roomF r R 1)) (.lst (R.served.map .int))) 2 r room0) := init_ok r (putR m2 0 r R)
theorem p2len (r : Rule) (R : Rm.Room) : (putR m2 0 r R).length = 2 := rfl
theorem behind_snoc (r : Rule) (es : List Ev) (e : Ev) : behind r (es ++ [e]) = doEv r (behind r es) e := by unfold behind; rw [List.foldl_append]; rfl
theorem most_snoc (r : Rule) (es : List Ev) (e : Ev) : mostAbsent r (es ++ [e]) = max (mostAbsent r es) (absentIn (doEv r (behind r es) e).line : Int) := by
  unfold mostAbsent behind
  rw [List.foldl_append]
  show max _ _ = _
  rw [most_room]
theorem fault_len (r : Rule) (R : Rm.Room) (e : Ev) (hl : R.line.length ≤ 200) : (faultsNow r R e).length ≤ 300 := by
  unfold faultsNow
  split
  · unfold doorFaults
    split
    · simp
    · have h1 : (claimsNow r R.line).length ≤ R.line.length := by
        unfold claimsNow claims
        rw [List.length_map]
        refine Nat.le_trans (List.length_filter_le _ _) ?_
        rw [asked_len]
        exact Nat.le_refl _
      rename_i h _ _
      have h2 := List.length_filter_le (fun p => !(p == h)) (claimsNow r R.line)
      rw [List.length_append, List.length_map]
      split
      · simp; omega
      · simp; omega
  · split <;> simp
  · simp
theorem faults_len (r : Rule) (es : List Ev) : ∀ (R : Rm.Room) (i : Nat), R.line.length + es.length ≤ 200 → (faultsFrom r R i es).length ≤ 300 * es.length := by
  induction es with
  | nil => intro R i _; simp [faultsFrom]
  | cons e es ih =>
    intro R i h
    rw [List.length_cons] at h
    have h1 := fault_len r R e (by omega)
    have h2 := doEv_len r R e
    have h3 := ih (doEv r R e) (i + 1) (by omega)
    rw [faultsFrom, List.length_append, List.length_map, List.length_cons]
    omega
abbrev m5 (a b c : Cell) : Mem := [a, b, .lst [], .lst [], c]
theorem m5len (a b c : Cell) : 2 + 1 < (m5 a b c).length := (by decide : 2 + 1 < 5)
theorem m5get (a b c : Cell) (r : Rule) (R : Rm.Room) : (putR (m5 a b c) 2 r R)[4]? = some c := rfl
theorem m5set (a b c d : Cell) (r : Rule) (R : Rm.Room) : (putR (m5 a b c) 2 r R).set 4 d = putR (m5 a b d) 2 r R := rfl
theorem m5app (a b : Cell) (r : Rule) (R : Rm.Room) : putR (m4 a b) 2 r R ++ [.lst []] = putR (m5 a b (.lst [])) 2 r R := rfl
theorem m4l (a b : Cell) (r : Rule) (R : Rm.Room) : (putR (m4 a b) 2 r R).length = 4 := rfl
end
end L

namespace L
open PySem PySem.Spec PyProof.Rows L2 Dn Rm
local macro_rules | `(tactic| wp_walk using $ts,*) => `(tactic| simp only [runD, start0, start1, start2, start3, start4, start5, sSeq, sSet, sRet, sExpr, sIf, sNil, sCont, sRetN, sPass, sBrk, sBad, sAsg, sSub, sFor, sPar, sAug, sPut, sPutA, eVar, eC, eBin, eFn, eCall, eAnd, eOr, eNot, eIf, eTup, eLst, eLstM, eIsi, eFz, eNw, aComp, iSeq, iEnumW, eFld, eMeth, eMake, eSl, oNone, oSome, eRev, eIdx, eChain, eApp, eFrz, dTest, dAnd, dOr, dNot, aNil, aCons, aStar, Dn.R.bind, R.thenS, List.length_cons, List.length_nil, List.length_map, List.replicate, List.set, List.getElem?_cons_zero, List.getElem?_cons_succ, List.cons_append, List.nil_append, Nat.reduceAdd, Nat.reduceSub, Nat.zero_add, if_true, if_false, Bool.false_eq_true, Bool.not_true, Bool.not_false, decide_true, decide_false, addW_i, subW_i, addI_i, intW_i, gtW_i, geW_i, ltW_i, leW_i, tupleW_l, tupleW_t, lenW_t, lenW_l, eqM_int, neM_int, inM_ints, inM_intsL, ixM_t, ixM_l, lstOf, seqOf, trkOf, wipeR, Nat.reduceLeDiff, rule0, rule1, rule2, rule3, rule4, rule5, rule6, gN, gT, gsCons, gsNil, Option.bind, GoesD, four_lt, and_self, Bool.and_true, Bool.true_and, Bool.and_false, Bool.false_and, Bool.or_true, Bool.true_or, Bool.or_false, Bool.false_or, $[$ts:term],*])
section
variable {m : Mem} {n : Nat} {r : Rule}
theorem putR_snoc (hn : n + 1 < m.length) (R : Rm.Room) (c : Cell) : putR m n r R ++ [c] = putR (m ++ [c]) n r R := by
  unfold putR
  rw [List.set_append_left _ _ (by omega), List.set_append_left _ _ (by rw [List.length_set]; omega)]
theorem here_behind_ok (hr : r.Ok) (es : List Ev) (hrow : isRow r room0 es = true) (hlen : es.length ≤ 200) : r_here_behind [r.w, .tup (es.map Ev.w)] m = .ok (.tup ((here (behind r es).line).map .int)) m := by
  unfold r_here_behind
  refine pw_g (m1 := putR m2 0 r (behind r es)) (gRE r es) ?_ (g_intsT _)
  unfold d_here_behind s_here_behind_0
  wp_walk using need0 hr es hrow hlen, ins_put m2len, no_are_here, are_here_ok m2len
theorem here_len (l : Line) : (here l).length ≤ l.length := by
  unfold here
  rw [List.length_map]
  exact List.length_filter_le _ _
end
end L

namespace L
open PySem PySem.Spec PyProof.Rows L2 Dn Rm
local macro_rules | `(tactic| wp_walk using $ts,*) => `(tactic| simp only [runD, start0, start1, start2, start3, start4, start5, sSeq, sSet, sRet, sExpr, sIf, sNil, sCont, sRetN, sPass, sBrk, sBad, sAsg, sSub, sFor, sPar, sAug, sPut, sPutA, eVar, eC, eBin, eFn, eCall, eAnd, eOr, eNot, eIf, eTup, eLst, eLstM, eIsi, eFz, eNw, aComp, iSeq, iEnumW, eFld, eMeth, eMake, eSl, oNone, oSome, eRev, eIdx, eChain, eApp, eFrz, dTest, dAnd, dOr, dNot, aNil, aCons, aStar, Dn.R.bind, R.thenS, List.length_cons, List.length_nil, List.length_map, List.replicate, List.set, List.getElem?_cons_zero, List.getElem?_cons_succ, List.cons_append, List.nil_append, Nat.reduceAdd, Nat.reduceSub, Nat.zero_add, if_true, if_false, Bool.false_eq_true, Bool.not_true, Bool.not_false, decide_true, decide_false, addW_i, subW_i, addI_i, intW_i, gtW_i, geW_i, ltW_i, leW_i, tupleW_l, tupleW_t, lenW_t, lenW_l, eqM_int, neM_int, inM_ints, inM_intsL, ixM_t, ixM_l, lstOf, seqOf, trkOf, wipeR, Nat.reduceLeDiff, rule0, rule1, rule2, rule3, rule4, rule5, rule6, gN, gT, gsCons, gsNil, Option.bind, GoesD, four_lt, and_self, Bool.and_true, Bool.true_and, Bool.and_false, Bool.false_and, Bool.or_true, Bool.true_or, Bool.or_false, Bool.false_or, $[$ts:term],*])
section
variable {m : Mem} {r : Rule}
theorem shere : W.str (Str.ofString "here") = .str How.here.s := rfl
theorem sout : W.str (Str.ofString "out") = .str How.out.s := rfl
theorem saway : W.str (Str.ofString "away") = .str How.away.s := rfl
theorem slost : W.str (Str.ofString "lost") = .str How.lost.s := rfl
theorem sees_ix0 {w : W} {x : Rm.Row} (h : seqOf m w = some (rowL x)) : ixM m w (.int 0) = some (.int x.p) := by simp only [ixM, h]; rfl
theorem sees_ix1 {w : W} {x : Rm.Row} (h : seqOf m w = some (rowL x)) : ixM m w (.int 1) = some (.str x.h.s) := by simp only [ixM, h]; rfl
theorem sees_ix2 {w : W} {x : Rm.Row} (h : seqOf m w = some (rowL x)) : ixM m w (.int 2) = some (.tup (x.ns.map .int)) := by simp only [ixM, h]; rfl
theorem lnames_ok (hk : 0 ≤ r.k) (zs : List (W × Rm.Row)) (hs : Sees m zs) (i : Nat) : r__law_names [r.w, .lst (zs.map (·.1)), .int (i : Int)] m = .ok (.tup ((nearest r (zs.map (·.2)) i).map .int)) m := by
  unfold r__law_names d__law_names s__law_names_0 s__law_names_1
  have key : ∀ hows : W, (∀ h : How, inM false m (.str h.s) hows = some (.bl (known r h))) → compL (gN 4) (dTest (eBin (inM false) (eBin ixM (eVar 4) (eC (.int 1))) (eVar 3))) (eBin ixM (eVar 4) (eC (.int 0))) [4] ((zs.take i).map (·.1)) [some r.w, some (.lst (zs.map (·.1))), some (.int (i : Int)), some hows, none] m = .ok (((((zs.map (·.2)).take i).filter fun x => known r x.h).map (·.p)).map .int) m := fun hows h => by
    rw [compL_map (fun z : W × Rm.Row => z.1) (fun z => known r z.2.h) (fun z => .int z.2.p) (fun z => [some r.w, some (.lst (zs.map (·.1))), some (.int (i : Int)), some hows, some z.1]) _ (fun z _ => rfl) (fun z hz => ?_) fun z hz _ => ?_]
    · rw [← List.map_take, List.filter_map, List.map_map, List.map_map]
      rfl
    · wp_walk using sees_ix1 (hs z (List.mem_of_mem_take hz)), h
    · wp_walk using sees_ix0 (hs z (List.mem_of_mem_take hz))
  cases e : r.line with
  | true =>
    wp_walk using eq_line, e, shere, sout, saway
    rw [cut_to, ← List.map_take, key _ fun h => in_line h r e]
    wp_walk using e
    rw [← List.map_reverse, cut_toI hk, ← List.map_take]
    rfl
  | false =>
    wp_walk using eq_line, e, shere, sout, saway
    rw [cut_to, ← List.map_take, key _ fun h => in_seen h r e]
    wp_walk using e
    rw [← List.map_reverse, cut_toI hk, ← List.map_take]
    rfl
theorem lhere_ok (zs : List (W × Rm.Row)) (hs : Sees m zs) : r__law_here [.lst (zs.map (·.1))] m = .ok (.lst ((here (zs.map (·.2))).map .int)) m := by
  unfold r__law_here d__law_here s__law_here_0
  wp_walk using shere
  rw [compL_map (fun z : W × Rm.Row => z.1) (fun z => decide (z.2.h = .here)) (fun z => .int z.2.p) (fun z => [some (.lst (zs.map (·.1))), some z.1]) _ (fun z _ => rfl) (fun z hz => by wp_walk using sees_ix1 (hs z hz), eq_how) fun z hz _ => by wp_walk using sees_ix0 (hs z hz)]
  wp_walk using here, List.filter_map, List.map_map
  rfl
def howN : Option How → W
  | some h => .str h.s
  | none => .str "none"
theorem lhow_ok (zs : List (W × Rm.Row)) (hs : Sees m zs) (p : Int) (hl : zs.length < 1000000) : r__law_how [.lst (zs.map (·.1)), .int p] m = .ok (howN (howIs (zs.map (·.2)) p)) m := by
  unfold r__law_how d__law_how s__law_how_0
  wp_walk using shere
  rw [compL_map (fun z : W × Rm.Row => z.1) (fun z => z.2.p == p) (fun z => .str z.2.h.s) (fun z => [some (.lst (zs.map (·.1))), some (.int p), some z.1]) _ (fun z _ => rfl) (fun z hz => by wp_walk using sees_ix0 (hs z hz)) fun z hz _ => by wp_walk using sees_ix1 (hs z hz)]
  have e : (zs.filter fun z => z.2.p == p).map (fun z => W.str z.2.h.s) = (((zs.map (·.2)).filter fun x => x.p == p).map (·.h)).map fun h => W.str h.s := by
    rw [List.filter_map, List.map_map, List.map_map]
    rfl
  have hlen : ((((zs.map (·.2)).filter fun x => x.p == p).map (·.h)).map fun h => W.str h.s).length ≤ 1000000 := by
    rw [List.length_map, List.length_map]
    exact Nat.le_trans (List.length_filter_le _ _) (by rw [List.length_map]; omega)
  rw [e]
  unfold howIs
  revert hlen
  generalize ((zs.map (·.2)).filter fun x => x.p == p).map (·.h) = hh
  intro hlen
  wp_walk using addW_l (m := m) (xs := hh.map fun h => W.str h.s) (ys := [W.str (Str.ofString "none")]) (by simp at hlen ⊢; omega)
  cases hh with
  | nil => rfl
  | cons h hh =>
    have e : atI (List.map (fun h : How => W.str h.s) (h :: hh) ++ [W.str (Str.ofString "none")]) 0 = some (.str h.s) := atI_get (n := 0) rfl rfl
    wp_walk using e
    rfl
/-! ### those at some places take names -/
theorem ref_ix {ns : List Nat} {i n : Nat} (h : ns[i]? = some n) : atI (ns.map W.ref) (i : Int) = some (.ref n) := atI_get rfl (by rw [List.getElem?_map, h]; rfl)
theorem lfresh_ok (hk : 0 ≤ r.k) (ns : List Nat) (l : Line) (h : HoldsAt m ns l) (sp : W) : compL (gN 4) dYes (eCall 3 r__law_names (aCons (eVar 0) (aCons (eVar 1) (aCons (eVar 4) aNil)))) [4] (upFrom 0 ns.length) [some r.w, some (.lst (ns.map .ref)), some sp, none, none] m = .ok ((List.range ns.length).map fun i => .tup ((nearest r l i).map .int)) m := by
  have e : upFrom 0 ns.length = (List.range ns.length).map fun i => W.int (i : Nat) := by
    refine List.ext_getElem? fun i => ?_
    by_cases hi : i < ns.length
    · rw [upFrom_get 0 _ i hi, List.getElem?_map, List.getElem?_range hi]
      simp
    · rw [List.getElem?_eq_none (by rw [upFrom_len]; omega), List.getElem?_eq_none (by simp; omega)]
  rw [e]
  have hf := refZ_fst h.1
  have hsd := refZ_snd h.1
  exact compL_all (fun i : Nat => W.int (i : Nat)) (fun i => .tup ((nearest r l i).map .int)) (fun i => [some r.w, some (.lst (ns.map .ref)), some sp, none, some (.int (i : Nat))]) _ (fun _ _ => rfl) fun i _ => by
    have q := lnames_ok (r := r) hk (refZ ns l) h.sees i
    rw [hf, hsd] at q
    wp_walk using q
theorem renewed_snoc (r : Rule) (l : Line) (sp : List Int) (i : Nat) (x : Rm.Row) (hi : l[i]? = some x) : renewed r l (sp ++ [(i : Int)]) = if x.h = .here then (renewed r l sp).set i ⟨x.p, x.h, nearest r l i⟩ else renewed r l sp := by
  have hil := (List.getElem?_eq_some_iff.mp hi).1
  refine List.ext_getElem? fun j => ?_
  have g : ∀ s, (renewed r l s)[j]? = (l[j]?).map fun y => take1 r l s (y, j) := fun s => by
    unfold renewed
    rw [List.getElem?_map, List.getElem?_zipIdx]
    cases l[j]? <;> simp
  rw [g]
  by_cases hj : i = j
  · subst hj
    rw [hi]
    by_cases hh : x.h = .here
    · rw [if_pos hh, List.getElem?_set_self (by rw [renewed_len]; exact hil)]
      simp [take1, hh]
    · rw [if_neg hh, g, hi]
      simp [take1, hh]
  · have ec : (sp ++ [(i : Int)]).contains (j : Int) = sp.contains (j : Int) := by
      rw [Bool.eq_iff_iff]
      simp
      omega
    have et : ∀ y, take1 r l (sp ++ [(i : Int)]) (y, j) = take1 r l sp (y, j) := fun y => by
      unfold take1
      simp only [ec]
    by_cases hh : x.h = .here
    · rw [if_pos hh, List.getElem?_set_ne hj, g]
      simp only [et]
    · rw [if_neg hh, g]
      simp only [et]
theorem renewed_nil (r : Rule) (l : Line) : renewed r l [] = l := by
  unfold renewed
  have : take1 r l [] = fun x => x.1 := by
    funext x
    simp [take1]
  rw [this, List.zipIdx_map_fst]
theorem lrenew_ok (hk : 0 ≤ r.k) (ns : List Nat) (l : Line) (h : HoldsAt m ns l) (sp : List Int) (hsp : ∀ s, s ∈ sp → 0 ≤ s ∧ s < l.length) (hl : l.length < 1000000) : r__law_renew [r.w, .lst (ns.map .ref), .lst (sp.map .int)] m = .ok .non (wr m ns (renewed r l sp)) := by
  unfold r__law_renew d__law_renew s__law_renew_0 s__law_renew_1
  obtain ⟨r', m', e1, ⟨a4, e2⟩, e3⟩ := loop_pre (t := gN 4) (body := b__law_renew_0) W.int
    (fun pre r1 m1 => (∃ a4, r1 = [some r.w, some (.lst (ns.map .ref)), some (.lst (sp.map .int)), some (.lst ((List.range ns.length).map fun i => .tup ((nearest r l i).map .int))), a4]) ∧ m1 = wr m ns (renewed r l pre))
    sp [some r.w, some (.lst (ns.map .ref)), some (.lst (sp.map .int)), some (.lst ((List.range ns.length).map fun i => .tup ((nearest r l i).map .int))), none] m ⟨⟨_, rfl⟩, by rw [renewed_nil, h.self]⟩
    (fun pre s post r1 m1 hx ⟨⟨a4, h1⟩, h2⟩ => by
      subst h1 h2
      obtain ⟨s0, s1⟩ := hsp s (by rw [hx]; simp)
      obtain ⟨i, rfl⟩ : ∃ i : Nat, s = i := ⟨s.toNat, by omega⟩
      have hi : i < l.length := by omega
      have hin : i < ns.length := by rw [h.1]; exact hi
      have en : ns[i]? = some ns[i] := List.getElem?_eq_getElem hin
      have el : l[i]? = some l[i] := List.getElem?_eq_getElem hi
      have hw : HoldsAt (wr m ns (renewed r l pre)) ns (renewed r l pre) := h.wr (renewed_len _ _ _)
      obtain ⟨y, ey⟩ : ∃ y, (renewed r l pre)[i]? = some y := ⟨_, List.getElem?_eq_getElem (by rw [renewed_len]; exact hi)⟩
      have hy : y.p = l[i].p ∧ y.h = l[i].h := by
        unfold renewed at ey
        rw [List.getElem?_map, List.getElem?_zipIdx, el] at ey
        simp at ey
        subst ey
        unfold take1
        split <;> exact ⟨rfl, rfl⟩
      have ec := hw.2.2 i ns[i] y en ey
      have e0 : atI (ns.map W.ref) (i : Int) = some (.ref ns[i]) := ref_ix en
      have e1 : seqOf (wr m ns (renewed r l pre)) (.ref ns[i]) = some (rowL y) := by simp only [seqOf, ec]
      have e5 : atI ((List.range ns.length).map fun i => W.tup ((nearest r l i).map .int)) (i : Int) = some (.tup ((nearest r l i).map .int)) := atI_get rfl (by rw [List.getElem?_map, List.getElem?_range hin]; rfl)
      have e6 : setM (wr m ns (renewed r l pre)) (.ref ns[i]) (.int 2) (.tup ((nearest r l i).map .int)) = some (wr m ns ((renewed r l pre).set i ⟨y.p, y.h, nearest r l i⟩)) := by
        simp only [setM, ec]
        rw [← wr_set h.2.1 (by rw [renewed_len]; exact h.1) en]
        rfl
      have sn := renewed_snoc r l pre i l[i] el
      unfold Steps b__law_renew_0
      wp_walk using e0, sees_ix1 e1, shere, eq_how
      by_cases hh : y.h = .here
      · rw [if_pos (by rw [← hy.2]; exact hh), ← hy.1, ← hy.2] at sn
        wp_walk using hh, e0, e5, e6
        refine ⟨⟨_, rfl⟩, ?_⟩
        rw [sn, hh]
      · rw [if_neg (by rw [← hy.2]; exact hh)] at sn
        wp_walk using hh
        exact ⟨⟨_, rfl⟩, by rw [sn]⟩)
  have c : ((ns.length : Nat) : Int) ≤ 16777216 := by have := h.1; omega
  have c2 : (-(2 ^ 62) : Int) ≤ ((ns.length : Nat) : Int) := by omega
  have fr := lfresh_ok hk ns l h (.lst (sp.map .int))
  wp_walk using iRng, c, c2, Int.toNat_natCast, fr, e1, e2, e3
end
end L

namespace L
open PySem PySem.Spec PyProof.Rows L2 Dn Rm
local macro_rules | `(tactic| wp_walk using $ts,*) => `(tactic| simp only [runD, start0, start1, start2, start3, start4, start5, sSeq, sSet, sRet, sExpr, sIf, sNil, sCont, sRetN, sPass, sBrk, sBad, sAsg, sSub, sFor, sPar, sAug, sPut, sPutA, eVar, eC, eBin, eFn, eCall, eAnd, eOr, eNot, eIf, eTup, eLst, eLstM, eIsi, eFz, eNw, aComp, iSeq, iEnumW, eFld, eMeth, eMake, eSl, oNone, oSome, eRev, eIdx, eChain, eApp, eFrz, dTest, dAnd, dOr, dNot, aNil, aCons, aStar, Dn.R.bind, R.thenS, List.length_cons, List.length_nil, List.length_map, List.replicate, List.set, List.getElem?_cons_zero, List.getElem?_cons_succ, List.cons_append, List.nil_append, Nat.reduceAdd, Nat.reduceSub, Nat.zero_add, if_true, if_false, Bool.false_eq_true, Bool.not_true, Bool.not_false, decide_true, decide_false, addW_i, subW_i, addI_i, intW_i, gtW_i, geW_i, ltW_i, leW_i, tupleW_l, tupleW_t, lenW_t, lenW_l, eqM_int, neM_int, inM_ints, inM_intsL, ixM_t, ixM_l, lstOf, seqOf, trkOf, wipeR, Nat.reduceLeDiff, rule0, rule1, rule2, rule3, rule4, rule5, rule6, gN, gT, gsCons, gsNil, Option.bind, GoesD, four_lt, and_self, Bool.and_true, Bool.true_and, Bool.and_false, Bool.false_and, Bool.or_true, Bool.true_or, Bool.or_false, Bool.false_or, $[$ts:term],*])
section
variable {m : Mem} {r : Rule}
/-! ### somebody is done -/
def keepR (p : Int) (ns : List Nat) (l : Line) : List Nat := ((ns.zip l).filter fun z => !(z.2.p == p)).map (·.1)
theorem keepR_zip (p : Int) (ns : List Nat) (l : Line) : (keepR p ns l).zip (((ns.zip l).filter fun z => !(z.2.p == p)).map (·.2)) = (ns.zip l).filter fun z => !(z.2.p == p) := by
  unfold keepR
  rw [List.zip_map', List.map_id']
theorem keepL_eq (p : Int) (ns : List Nat) (l : Line) (h : ns.length = l.length) : ((ns.zip l).filter fun z => !(z.2.p == p)).map (·.2) = l.filter fun x => !(x.p == p) := by
  have e : (fun z : Nat × Rm.Row => !(z.2.p == p)) = (fun x : Rm.Row => !(x.p == p)) ∘ Prod.snd := rfl
  rw [e, ← List.filter_map, List.map_snd_zip (Nat.le_of_eq h.symm)]
theorem keep_hold (p : Int) {ns : List Nat} {l : Line} (h : HoldsAt m ns l) : HoldsAt m (keepR p ns l) (l.filter fun x => !(x.p == p)) := by
  have e := keepR_zip p ns l
  rw [keepL_eq p ns l h.1] at e
  refine h.sub ?_ (by rw [e]; exact List.filter_sublist)
  rw [keepR, List.length_map, ← keepL_eq p ns l h.1, List.length_map]
def strikeAt (p : Int) (l : Line) (sp : List Int) : Line := l.zipIdx.map fun z => if sp.contains (z.2 : Int) = true then struck p z.1 else z.1
theorem strikeAt_len (p : Int) (l : Line) (sp : List Int) : (strikeAt p l sp).length = l.length := by simp [strikeAt]
theorem strikeAt_get (p : Int) (l : Line) (sp : List Int) (j : Nat) : (strikeAt p l sp)[j]? = (l[j]?).map fun y => if sp.contains (j : Int) = true then struck p y else y := by
  unfold strikeAt
  rw [List.getElem?_map, List.getElem?_zipIdx]
  cases l[j]? <;> simp
theorem strikeAt_nil (p : Int) (l : Line) : strikeAt p l [] = l := by
  refine List.ext_getElem? fun j => ?_
  rw [strikeAt_get]
  cases l[j]? <;> simp
theorem hits_iff (p : Int) (l : Line) (s : Int) : s ∈ hits l p ↔ ∃ (i : Nat) (x : Rm.Row), s = i ∧ l[i]? = some x ∧ x.h = .here ∧ x.ns.contains p = true := by
  unfold hits
  simp only [List.mem_map, List.mem_filter, Bool.and_eq_true, decide_eq_true_eq]
  constructor
  · rintro ⟨⟨x, i⟩, ⟨h1, h2, h3⟩, rfl⟩
    rw [List.mem_zipIdx_iff_getElem?] at h1
    exact ⟨i, x, rfl, by simpa using h1, h2, h3⟩
  · rintro ⟨i, x, rfl, h1, h2, h3⟩
    exact ⟨(x, i), ⟨List.mem_zipIdx_iff_getElem?.mpr h1, h2, h3⟩, rfl⟩
theorem strikeAt_all (p : Int) (l : Line) : strikeAt p l (hits l p) = l.map (struck p) := by
  refine List.ext_getElem? fun j => ?_
  rw [strikeAt_get, List.getElem?_map]
  cases q : l[j]? with
  | none => rfl
  | some x =>
    simp only [Option.map_some, Option.some.injEq]
    split
    · rfl
    · rename_i hc
      rw [struck, if_neg]
      rintro ⟨h1, h2⟩
      exact hc (List.contains_iff_mem.mpr ((hits_iff p l j).mpr ⟨j, x, rfl, q, h1, h2⟩))
theorem strikeAt_snoc (p : Int) (l : Line) (sp : List Int) (i : Nat) (x y : Rm.Row) (hi : l[i]? = some x) (hh : x.h = .here ∧ x.ns.contains p = true) (hy : (strikeAt p l sp)[i]? = some y) :
    (strikeAt p l sp).set i ⟨y.p, y.h, y.ns.filter fun n => !(n == p)⟩ = strikeAt p l (sp ++ [(i : Int)]) ∧ y.h = .here := by
  have hil := (List.getElem?_eq_some_iff.mp hi).1
  rw [strikeAt_get, hi] at hy
  simp only [Option.map_some, Option.some.injEq] at hy
  have st : struck p x = ⟨x.p, x.h, x.ns.filter fun n => !(n == p)⟩ := by rw [struck, if_pos hh]
  have ey : (⟨y.p, y.h, y.ns.filter fun n => !(n == p)⟩ : Rm.Row) = struck p x ∧ y.h = .here := by
    split at hy
    · rw [← hy, st]
      refine ⟨?_, hh.1⟩
      simp only [List.filter_filter, Bool.and_self]
    · rw [← hy, st]
      exact ⟨rfl, hh.1⟩
  refine ⟨?_, ey.2⟩
  rw [ey.1]
  refine List.ext_getElem? fun j => ?_
  rw [strikeAt_get]
  by_cases hj : i = j
  · subst hj
    rw [List.getElem?_set_self (by rw [strikeAt_len]; exact hil), hi]
    simp
  · rw [List.getElem?_set_ne hj, strikeAt_get]
    have ec : (sp ++ [(i : Int)]).contains (j : Int) = sp.contains (j : Int) := by
      rw [Bool.eq_iff_iff]
      simp
      omega
    simp only [ec]
theorem lgone_ok (hk : 0 ≤ r.k) (ns : List Nat) (l : Line) (h : HoldsAt m ns l) (p : Int) (hl : l.length < 1000000) :
    r__law_gone [r.w, .lst (ns.map .ref), .int p] m = .ok (.lst ((keepR p ns l).map .ref)) (wr m (keepR p ns l) (without r l p)) := by
  have hk' := keep_hold p h
  have kl : (keepR p ns l).length = (l.filter fun x => !(x.p == p)).length := hk'.1
  have hfl : (l.filter fun x => !(x.p == p)).length ≤ l.length := List.length_filter_le _ _
  unfold r__law_gone d__law_gone s__law_gone_0 s__law_gone_1 s__law_gone_2 s__law_gone_3 s__law_gone_4
  have c1 : compL (gN 6) (dTest (eBin neM (eBin ixM (eVar 6) (eC (.int 0))) (eVar 2))) (eVar 6) [6] (ns.map .ref) [some r.w, some (.lst (ns.map .ref)), some (.int p), none, none, none, none, none] m = .ok ((keepR p ns l).map .ref) m := by
    have q := compL_map (c := dTest (eBin neM (eBin ixM (eVar 6) (eC (.int 0))) (eVar 2))) (f := eVar 6) (t := gN 6) (vs := [6]) (r := [some r.w, some (.lst (ns.map .ref)), some (.int p), none, none, none, none, none]) (m := m) (fun z : W × Rm.Row => z.1) (fun z => !(z.2.p == p)) (fun z => z.1) (fun z => [some r.w, some (.lst (ns.map .ref)), some (.int p), none, none, none, some z.1, none]) (refZ ns l) (fun z _ => rfl) (fun z hz => by wp_walk using sees_ix0 (h.sees z hz)) fun z hz _ => rfl
    rw [refZ_fst h.1] at q
    rw [q]
    unfold refZ keepR
    rw [List.filter_map, List.map_map, List.map_map]
    rfl
  have c2 : compL (gT (gsCons (gN 5) (gsCons (gN 6) gsNil))) (dAnd (dTest (eBin eqM (eBin ixM (eVar 6) (eC (.int 1))) (eC (.str How.here.s)))) (dTest (eBin (inM false) (eVar 2) (eBin ixM (eVar 6) (eC (.int 2)))))) (eVar 5) [5, 6] (Dn.numbered 0 ((keepR p ns l).map .ref)) [some r.w, some (.lst (ns.map .ref)), some (.int p), some (.lst ((keepR p ns l).map .ref)), none, none, none, none] m = .ok ((hits (l.filter fun x => !(x.p == p)) p).map .int) m := by
    rw [← refZ_fst hk'.1, numbered_map]
    rw [compL_map (fun y : (W × Rm.Row) × Nat => W.tup [.int (y.2 : Nat), y.1.1]) (fun y => decide (y.1.2.h = .here) && y.1.2.ns.contains p) (fun y => .int (y.2 : Nat)) (fun y => [some r.w, some (.lst (ns.map .ref)), some (.int p), some (.lst ((refZ (keepR p ns l) (l.filter fun x => !(x.p == p))).map (·.1))), none, some (.int (y.2 : Nat)), some y.1.1, none]) _ (fun y _ => rfl) (fun y hy => ?_) fun y _ _ => rfl]
    · unfold hits
      conv => rhs; rw [← refZ_snd hk'.1, List.zipIdx_map]
      rw [List.filter_map, List.map_map, List.map_map]
      rfl
    · have hz : y.1 ∈ refZ (keepR p ns l) (l.filter fun x => !(x.p == p)) := by
        have := List.mem_zipIdx hy
        exact this.2.2 ▸ List.getElem_mem _
      have sz := hk'.sees _ hz
      wp_walk using sees_ix1 sz, sees_ix2 sz, eq_how
      cases decide (y.1.2.h = .here) <;> rfl
  obtain ⟨r', m', e1, ⟨a5, a6, a7, e2⟩, e3⟩ := loop_pre (t := gN 5) (body := b__law_gone_0) W.int
    (fun pre r1 m1 => (∃ a5 a6 a7, r1 = [some r.w, some (.lst (ns.map .ref)), some (.int p), some (.lst ((keepR p ns l).map .ref)), some (.lst ((hits (l.filter fun x => !(x.p == p)) p).map .int)), a5, a6, a7]) ∧ m1 = wr m (keepR p ns l) (strikeAt p (l.filter fun x => !(x.p == p)) pre))
    (hits (l.filter fun x => !(x.p == p)) p) [some r.w, some (.lst (ns.map .ref)), some (.int p), some (.lst ((keepR p ns l).map .ref)), some (.lst ((hits (l.filter fun x => !(x.p == p)) p).map .int)), none, none, none] m ⟨⟨_, _, _, rfl⟩, by rw [strikeAt_nil, hk'.self]⟩
    (fun pre s post r1 m1 hx ⟨⟨a5, a6, a7, h1⟩, h2⟩ => by
      subst h1 h2
      obtain ⟨i, x, rfl, ex, hh⟩ := (hits_iff p _ s).mp (by rw [hx]; simp)
      have hi := (List.getElem?_eq_some_iff.mp ex).1
      have hin : i < (keepR p ns l).length := by rw [kl]; exact hi
      have en : (keepR p ns l)[i]? = some (keepR p ns l)[i] := List.getElem?_eq_getElem hin
      have hw : HoldsAt (wr m (keepR p ns l) (strikeAt p (l.filter fun x => !(x.p == p)) pre)) (keepR p ns l) (strikeAt p (l.filter fun x => !(x.p == p)) pre) := hk'.wr (strikeAt_len _ _ _)
      obtain ⟨y, ey⟩ : ∃ y, (strikeAt p (l.filter fun x => !(x.p == p)) pre)[i]? = some y := ⟨_, List.getElem?_eq_getElem (by rw [strikeAt_len]; exact hi)⟩
      obtain ⟨sn, yh⟩ := strikeAt_snoc p _ pre i x y ex hh ey
      have ec := hw.2.2 i _ y en ey
      have e0 : atI ((keepR p ns l).map W.ref) (i : Int) = some (.ref (keepR p ns l)[i]) := ref_ix en
      have e1 : seqOf (wr m (keepR p ns l) (strikeAt p (l.filter fun x => !(x.p == p)) pre)) (.ref (keepR p ns l)[i]) = some (rowL y) := by simp only [seqOf, ec]
      have c3 : ∀ a0 a1 a3 a4 a5 a6 a7 mm, compL (gN 7) (dTest (eBin neM (eVar 7) (eVar 2))) (eVar 7) [7] (y.ns.map .int) [a0, a1, some (.int p), a3, a4, a5, a6, a7] mm = .ok ((y.ns.filter fun n => !(n == p)).map .int) mm := fun a0 a1 a3 a4 a5 a6 a7 mm =>
        compL_map .int (fun n => !(n == p)) .int (fun n => [a0, a1, some (.int p), a3, a4, a5, a6, some (.int n)]) y.ns (fun _ _ => rfl) (fun _ _ => rfl) fun _ _ _ => rfl
      have e6 : setM (wr m (keepR p ns l) (strikeAt p (l.filter fun x => !(x.p == p)) pre)) (.ref (keepR p ns l)[i]) (.int 2) (.tup ((y.ns.filter fun n => !(n == p)).map .int)) = some (wr m (keepR p ns l) (strikeAt p (l.filter fun x => !(x.p == p)) (pre ++ [(i : Int)]))) := by
        simp only [setM, ec]
        rw [← sn, ← wr_set hk'.2.1 (by rw [strikeAt_len]; exact kl) en]
        rfl
      unfold Steps b__law_gone_0
      wp_walk using e0, sees_ix2 e1, c3, e6
      exact ⟨⟨_, _, _, rfl⟩, by trivial⟩)
  rw [strikeAt_all] at e3
  have hm := hk'.wr (l' := (l.filter fun x => !(x.p == p)).map (struck p)) (by simp)
  have rn := lrenew_ok (r := r) hk (keepR p ns l) _ hm (hits (l.filter fun x => !(x.p == p)) p) (fun s hs => by
    obtain ⟨i, x, rfl, ex, _⟩ := (hits_iff p _ s).mp hs
    have := (List.getElem?_eq_some_iff.mp ex).1
    rw [List.length_map]
    omega) (by rw [List.length_map]; omega)
  rw [wr_wr hk'.2.1 (by simp [kl]) (by rw [renewed_len])] at rn
  cases ho : r.on with
  | true =>
    have ew : without r l p = renewed r ((l.filter fun x => !(x.p == p)).map (struck p)) (hits (l.filter fun x => !(x.p == p)) p) := by simp only [Rm.without, ho, if_true]
    rw [← ew] at rn
    wp_walk using shere, c1, c2, e1, e2, e3, eq_on, ho, rn
  | false =>
    have ew : without r l p = (l.filter fun x => !(x.p == p)).map (struck p) := by simp only [Rm.without, ho, Bool.false_eq_true, if_false, renewed_nil]
    rw [← ew] at e3
    wp_walk using shere, c1, c2, e1, e2, e3, eq_on, ho
/-! ### somebody comes -/
theorem hold_ins {ns : List Nat} {l : Line} (h : HoldsAt m ns l) (i : Nat) (hi : i ≤ l.length) (x : Rm.Row) : HoldsAt (m ++ [.lst (rowL x)]) (ns.take i ++ m.length :: ns.drop i) (l.take i ++ x :: l.drop i) := by
  have hb := h.bound
  refine ⟨by simp [h.1], ?_, fun j n y h1 h2 => ?_⟩
  · have hp : (ns.take i ++ m.length :: ns.drop i).Perm (m.length :: ns) := by
      refine List.perm_middle.trans ?_
      rw [List.take_append_drop]
    rw [hp.nodup_iff]
    refine List.nodup_cons.mpr ⟨fun q => ?_, h.2.1⟩
    have := hb _ q
    omega
  · have hlt : (ns.take i).length = i := by rw [List.length_take, h.1]; omega
    have hll : (l.take i).length = i := by rw [List.length_take]; omega
    rcases Nat.lt_trichotomy j i with c | c | c
    · rw [List.getElem?_append_left (by omega), List.getElem?_take_of_lt c] at h1 h2
      rw [List.getElem?_append_left (hb n (List.mem_of_getElem? h1))]
      exact h.2.2 j n y h1 h2
    · subst c
      rw [List.getElem?_append_right (by omega), hlt, Nat.sub_self] at h1
      rw [List.getElem?_append_right (by omega), hll, Nat.sub_self] at h2
      simp at h1 h2
      subst h1 h2
      simp
    · rw [List.getElem?_append_right (by omega), hlt] at h1
      rw [List.getElem?_append_right (by omega), hll] at h2
      obtain ⟨k, hk⟩ : ∃ k, j - i = k + 1 := ⟨j - i - 1, by omega⟩
      rw [hk, List.getElem?_cons_succ, List.getElem?_drop] at h1 h2
      rw [List.getElem?_append_left (hb n (List.mem_of_getElem? h1))]
      exact h.2.2 _ n y h1 h2
theorem lcome_ok (hk : 0 ≤ r.k) (ns : List Nat) (l : Line) (h : HoldsAt m ns l) (i : Nat) (hi : i ≤ l.length) (p : Int) (hl : l.length < 100000) :
    r__law_come [r.w, .lst (ns.map .ref), .int (i : Int), .int p] m = .ok (.lst ((ns.take i ++ m.length :: ns.drop i).map .ref)) (wr (m ++ [.lst (rowL ⟨p, .here, []⟩)]) (ns.take i ++ m.length :: ns.drop i) (renewed r (l.take i ++ ⟨p, .here, []⟩ :: l.drop i) [(i : Int)])) := by
  unfold r__law_come d__law_come s__law_come_0 s__law_come_1 s__law_come_2
  have h2 := hold_ins h i hi ⟨p, .here, []⟩
  have ll : (l.take i ++ (⟨p, .here, []⟩ : Rm.Row) :: l.drop i).length = l.length + 1 := by simp; omega
  have rn := lrenew_ok (r := r) hk _ _ h2 [(i : Int)] (fun s hs => by simp at hs; subst hs; rw [ll]; omega) (by rw [ll]; omega)
  simp only [List.map_cons (f := W.int), List.map_nil (f := W.int)] at rn
  have hn := h.1
  have a1 : ∀ mm, addW mm (.lst ((ns.map W.ref).take i)) (.lst [.ref m.length]) = some (.lst ((ns.map W.ref).take i ++ [.ref m.length])) := fun mm => addW_l (by simp; omega)
  have a2 : ∀ mm, addW mm (.lst ((ns.map W.ref).take i ++ [.ref m.length])) (.lst ((ns.map W.ref).drop i)) = some (.lst ((ns.take i ++ m.length :: ns.drop i).map .ref)) := fun mm => by
    rw [addW_l (by simp; omega)]
    simp
  have rl : rowL ⟨p, .here, []⟩ = [.int p, .str How.here.s, .tup []] := rfl
  rw [rl] at rn ⊢
  wp_walk using shere, cut_to, cut_from, a1, a2, rn
end
end L

namespace L
open PySem PySem.Spec PyProof.Rows L2 Dn Rm
local macro_rules | `(tactic| wp_walk using $ts,*) => `(tactic| simp only [runD, start0, start1, start2, start3, start4, start5, sSeq, sSet, sRet, sExpr, sIf, sNil, sCont, sRetN, sPass, sBrk, sBad, sAsg, sSub, sFor, sPar, sAug, sPut, sPutA, eVar, eC, eBin, eFn, eCall, eAnd, eOr, eNot, eIf, eTup, eLst, eLstM, eIsi, eFz, eNw, aComp, iSeq, iEnumW, eFld, eMeth, eMake, eSl, oNone, oSome, eRev, eIdx, eChain, eApp, eFrz, dTest, dAnd, dOr, dNot, aNil, aCons, aStar, Dn.R.bind, R.thenS, List.length_cons, List.length_nil, List.length_map, List.replicate, List.set, List.getElem?_cons_zero, List.getElem?_cons_succ, List.cons_append, List.nil_append, Nat.reduceAdd, Nat.reduceSub, Nat.zero_add, if_true, if_false, Bool.false_eq_true, Bool.not_true, Bool.not_false, decide_true, decide_false, addW_i, subW_i, addI_i, intW_i, gtW_i, geW_i, ltW_i, leW_i, tupleW_l, tupleW_t, lenW_t, lenW_l, eqM_int, neM_int, inM_ints, inM_intsL, ixM_t, ixM_l, lstOf, seqOf, trkOf, wipeR, Nat.reduceLeDiff, rule0, rule1, rule2, rule3, rule4, rule5, rule6, gN, gT, gsCons, gsNil, Option.bind, GoesD, four_lt, and_self, Bool.and_true, Bool.true_and, Bool.and_false, Bool.false_and, Bool.or_true, Bool.true_or, Bool.or_false, Bool.false_or, $[$ts:term],*])
section
variable {m : Mem} {r : Rule}
theorem listW_s {w : W} {xs : List W} (h : seqOf m w = some xs) : listW m [w] = some xs := h
theorem lasked_ok (hk : 0 ≤ r.k) (zs : List (W × Rm.Row)) (hs : Sees m zs) (hl : zs.length < 100000) :
    r__law_asked [r.w, .lst (zs.map (·.1))] m = .ok (.lst ((List.range' m.length zs.length).map .ref)) (wr (m ++ zs.map fun z => .lst (rowL z.2)) (List.range' m.length zs.length) (askedAgain r (zs.map (·.2)))) := by
  unfold r__law_asked d__law_asked s__law_asked_0 s__law_asked_1 s__law_asked_2
  have c1 := compL_copy (t := gN 3) (f := eNw (aFn listW (aCons (eVar 3) aNil))) (vs := [3]) (r := [some r.w, some (.lst (zs.map (·.1))), none, none, none]) (fun z => [some r.w, some (.lst (zs.map (·.1))), none, some z.1, none]) zs m hs (fun _ _ => rfl) fun z mm _ h => by wp_walk using aFn, listW_s h
  have hh := copies_hold m (zs.map (·.2))
  rw [List.map_map, List.length_map] at hh
  have e0 : ((fun x : Rm.Row => Cell.lst (rowL x)) ∘ fun z : W × Rm.Row => z.2) = fun z => Cell.lst (rowL z.2) := rfl
  rw [e0] at hh
  have hz := hh.sees
  have c2 : compL (gT (gsCons (gN 4) (gsCons (gN 3) gsNil))) (dTest (eBin eqM (eBin ixM (eVar 3) (eC (.int 2))) (eTup aNil))) (eVar 4) [4, 3] (Dn.numbered 0 ((List.range' m.length zs.length).map .ref)) [some r.w, some (.lst (zs.map (·.1))), some (.lst ((List.range' m.length zs.length).map .ref)), none, none] (m ++ zs.map fun z => .lst (rowL z.2)) = .ok ((bare (zs.map (·.2))).map .int) (m ++ zs.map fun z => .lst (rowL z.2)) := by
    rw [← refZ_fst hh.1, numbered_map]
    rw [compL_map (fun y : (W × Rm.Row) × Nat => W.tup [.int (y.2 : Nat), y.1.1]) (fun y => y.1.2.ns.isEmpty) (fun y => .int (y.2 : Nat)) (fun y => [some r.w, some (.lst (zs.map (·.1))), some (.lst ((refZ (List.range' m.length zs.length) (zs.map (·.2))).map (·.1))), some y.1.1, some (.int (y.2 : Nat))]) _ (fun y _ => rfl) (fun y hy => ?_) fun y _ _ => rfl]
    · unfold bare
      conv => rhs; rw [← refZ_snd hh.1, List.zipIdx_map]
      rw [List.filter_map, List.map_map, List.map_map]
      rfl
    · have hy2 : y.1 ∈ refZ (List.range' m.length zs.length) (zs.map (·.2)) := by
        have := List.mem_zipIdx hy
        exact this.2.2 ▸ List.getElem_mem _
      wp_walk using sees_ix2 (hz _ hy2), eq_nilT
  have hb : ∀ s, s ∈ bare (zs.map (·.2)) → 0 ≤ s ∧ s < ((zs.map (·.2)).length : Nat) := fun s h => by
    unfold bare at h
    obtain ⟨y, hy, rfl⟩ := List.mem_map.mp h
    have := (List.mem_zipIdx (List.mem_filter.mp hy).1).2.1
    omega
  have rn := lrenew_ok (r := r) hk _ _ hh (bare (zs.map (·.2))) hb (by rw [List.length_map]; omega)
  cases ha : r.asks with
  | true =>
    have ea : askedAgain r (zs.map (·.2)) = renewed r (zs.map (·.2)) (bare (zs.map (·.2))) := by simp only [askedAgain, ha, if_true]
    rw [← ea] at rn
    wp_walk using c1, eq_asks, ha, c2, rn
  | false =>
    have ea : askedAgain r (zs.map (·.2)) = zs.map (·.2) := by simp only [askedAgain, ha, Bool.false_eq_true, if_false]
    wp_walk using c1, eq_asks, ha, ea, hh.self
theorem lclaims_ok (zs : List (W × Rm.Row)) (hs : Sees m zs) (hl : zs.length < 100000) :
    r__law_claims [r.w, .lst (zs.map (·.1))] m = .ok (.lst ((claims r (zs.map (·.2))).map .int)) (m ++ [.fz ((claims r (zs.map (·.2))).map .int)]) := by
  unfold r__law_claims d__law_claims s__law_claims_0 s__law_claims_1 s__law_claims_2
  have pc : ∀ l : Line, claims r l = (l.filter fun x => decide (x.h = .here) && (decide ((x.ns.length : Int) ≤ r.t) && !(x.ns.any fun n => (here l).contains n))).map (·.p) := fun _ => rfl
  obtain ⟨r', m', e1, ⟨a4, a5, a6, a7, e2⟩, e3⟩ := loopM_pre (t := gmU 3 (gmsCons (gmN 4) (gmsCons (gmN 5) (gmsCons (gmN 6) gmsNil)))) (body := b__law_claims_0) (fun z : W × Rm.Row => z.1)
    (fun pre r1 m1 => (∃ a4 a5 a6 a7, r1 = [some r.w, some (.lst (zs.map (·.1))), some (.lst ((here (zs.map (·.2))).map .int)), some (.ref m.length), a4, a5, a6, a7]) ∧ m1 = m ++ [.lst ((((pre.map (·.2)).filter fun x => decide (x.h = .here) && (decide ((x.ns.length : Int) ≤ r.t) && !(x.ns.any fun n => (here (zs.map (·.2))).contains n))).map (·.p)).map .int)])
    zs [some r.w, some (.lst (zs.map (·.1))), some (.lst ((here (zs.map (·.2))).map .int)), some (.ref m.length), none, none, none, none] (m ++ [.lst []]) ⟨⟨_, _, _, _, rfl⟩, rfl⟩
    (fun pre z post r1 m1 hx ⟨⟨a4, a5, a6, a7, h1⟩, h2⟩ => by
      subst h1 h2
      have hp : pre.length < 100000 := by
        have := congrArg List.length hx
        rw [List.length_append, List.length_cons] at this
        omega
      have hp1 : ∀ f : Rm.Row → Bool, ((pre.map (·.2)).filter f).length < 16777216 := fun f => Nat.lt_of_le_of_lt (List.length_filter_le _ _) (by rw [List.length_map]; omega)
      have sz : ∀ c, seqOf (m ++ [c]) z.1 = some (rowL z.2) := fun c => seqOf_app (hs z (by rw [hx]; simp))
      have rl : (rowL z.2).length = 3 := rfl
      have c2 : ∀ (mm : Mem) (a3 a4 a5 a6 a7 : Option W), compL (gN 7) (dTest (eBin (inM false) (eVar 7) (eVar 2))) (eVar 7) [7] (z.2.ns.map .int) [some r.w, some (.lst (zs.map (·.1))), some (.lst ((here (zs.map (·.2))).map .int)), a3, a4, a5, a6, a7] mm = .ok ((z.2.ns.filter fun n => (here (zs.map (·.2))).contains n).map .int) mm := fun mm a3 a4 a5 a6 a7 =>
        compL_map .int (fun n => (here (zs.map (·.2))).contains n) .int (fun n => [some r.w, some (.lst (zs.map (·.1))), some (.lst ((here (zs.map (·.2))).map .int)), a3, a4, a5, a6, some (.int n)]) z.2.ns (fun _ _ => rfl) (fun n _ => by wp_walk using hp) fun n _ _ => rfl
      have eE : ∀ mm, eqM mm (.lst ((z.2.ns.filter fun n => (here (zs.map (·.2))).contains n).map .int)) (.lst []) = some (.bl (!(z.2.ns.any fun n => (here (zs.map (·.2))).contains n))) := fun mm => by
        rw [eqM_ok (ok_intsL 59 _) (by kernel_rfl), eqW, eqWs_nil_map]
        congr 2
        rw [Bool.eq_iff_iff]
        simp [List.filter_eq_nil_iff]
      have gl : ∀ c, (m ++ [c])[m.length]? = some c := fun c => by simp
      have sl : ∀ c d, (m ++ [c]).set m.length d = m ++ [d] := fun c d => by simp
      unfold StepsM b__law_claims_0 gmU
      rw [sz]
      have rl2 : rowL z.2 = [.int z.2.p, .str z.2.h.s, .tup (z.2.ns.map .int)] := rfl
      wp_walk using rl, rl2, gmsCons, gmN, gmsNil, shere, eq_how
      by_cases hh : z.2.h = .here
      · wp_walk using hh
        by_cases ht : (z.2.ns.length : Int) ≤ r.t
        · wp_walk using ht, c2, eE
          cases ha : z.2.ns.any fun n => (here (zs.map (·.2))).contains n with
          | true =>
            wp_walk using hp
            refine ⟨⟨_, _, _, _, rfl⟩, ?_⟩
            simp only [List.map_append, List.map_cons, List.map_nil, List.filter_append, List.filter_cons, hh, ht, ha, decide_true, Bool.not_true, Bool.and_false, Bool.false_eq_true, if_false, List.filter_nil, List.append_nil]
          | false =>
            wp_walk using gl, sl, hp1
            refine ⟨⟨_, _, _, _, rfl⟩, ?_⟩
            simp only [List.map_append, List.map_cons, List.map_nil, List.filter_append, List.filter_cons, hh, ht, ha, decide_true, Bool.not_false, Bool.and_self, if_true, List.filter_nil]
        · wp_walk using ht
          refine ⟨⟨_, _, _, _, rfl⟩, ?_⟩
          simp only [List.map_append, List.map_cons, List.map_nil, List.filter_append, List.filter_cons, hh, ht, decide_true, decide_false, Bool.false_and, Bool.and_false, Bool.false_eq_true, if_false, List.filter_nil, List.append_nil]
      · wp_walk using hh
        refine ⟨⟨_, _, _, _, rfl⟩, ?_⟩
        simp only [List.map_append, List.map_cons, List.map_nil, List.filter_append, List.filter_cons, hh, decide_false, Bool.false_and, Bool.false_eq_true, if_false, List.filter_nil, List.append_nil])
  have gl : ∀ c, (m ++ [c])[m.length]? = some c := fun c => by simp
  have sl : ∀ c d, (m ++ [c]).set m.length d = m ++ [d] := fun c d => by simp
  rw [← pc] at e3
  wp_walk using lhere_ok zs hs, sForM, e1, e2, e3, gl, sl
end
end L

namespace L
open PySem PySem.Spec PyProof.Rows L2 Dn Rm
local macro_rules | `(tactic| wp_walk using $ts,*) => `(tactic| simp only [runD, start0, start1, start2, start3, start4, start5, sSeq, sSet, sRet, sExpr, sIf, sNil, sCont, sRetN, sPass, sBrk, sBad, sAsg, sSub, sFor, sPar, sAug, sPut, sPutA, eVar, eC, eBin, eFn, eCall, eAnd, eOr, eNot, eIf, eTup, eLst, eLstM, eIsi, eFz, eNw, aComp, iSeq, iEnumW, eFld, eMeth, eMake, eSl, oNone, oSome, eRev, eIdx, eChain, eApp, eFrz, dTest, dAnd, dOr, dNot, aNil, aCons, aStar, Dn.R.bind, R.thenS, List.length_cons, List.length_nil, List.length_map, List.replicate, List.set, List.getElem?_cons_zero, List.getElem?_cons_succ, List.cons_append, List.nil_append, Nat.reduceAdd, Nat.reduceSub, Nat.zero_add, if_true, if_false, Bool.false_eq_true, Bool.not_true, Bool.not_false, decide_true, decide_false, addW_i, subW_i, addI_i, intW_i, gtW_i, geW_i, ltW_i, leW_i, tupleW_l, tupleW_t, lenW_t, lenW_l, eqM_int, neM_int, inM_ints, inM_intsL, ixM_t, ixM_l, lstOf, seqOf, trkOf, wipeR, Nat.reduceLeDiff, rule0, rule1, rule2, rule3, rule4, rule5, rule6, gN, gT, gsCons, gsNil, Option.bind, GoesD, four_lt, and_self, Bool.and_true, Bool.true_and, Bool.and_false, Bool.false_and, Bool.or_true, Bool.true_or, Bool.or_false, Bool.false_or, $[$ts:term],*])
section
variable {m : Mem} {r : Rule}
inductive Kd where
  | come | door | back | leave | lett | out | vanish
  deriving DecidableEq
def Kd.s : Kd → Str
  | .come => "come"
  | .door => "door"
  | .back => "back"
  | .leave => "leave"
  | .lett => "let"
  | .out => "out"
  | .vanish => "vanish"
def kdP : Pw → Kd
  | .back => .back
  | .leave => .leave
  | .lett => .lett
  | .out => .out
  | .vanish => .vanish
def kd : Ev → Kd
  | .come => .come
  | .door => .door
  | .pers x _ => kdP x
theorem kd_ix (e : Ev) : ixM m e.w (.int 0) = some (.str (kd e).s) := by
  cases e with
  | come => rfl
  | door => rfl
  | pers x p => cases x <;> rfl
theorem t_come (k : Kd) : eqM m (.str k.s) (.str "come") = some (.bl (decide (k = .come))) := by cases k <;> kernel_rfl
theorem t_door (k : Kd) : eqM m (.str k.s) (.str "door") = some (.bl (decide (k = .door))) := by cases k <;> kernel_rfl
theorem t_back (k : Kd) : eqM m (.str k.s) (.str "back") = some (.bl (decide (k = .back))) := by cases k <;> kernel_rfl
theorem t_leave (k : Kd) : eqM m (.str k.s) (.str "leave") = some (.bl (decide (k = .leave))) := by cases k <;> kernel_rfl
theorem t_let (k : Kd) : eqM m (.str k.s) (.str "let") = some (.bl (decide (k = .lett))) := by cases k <;> kernel_rfl
theorem t_out (k : Kd) : eqM m (.str k.s) (.str "out") = some (.bl (decide (k = .out))) := by cases k <;> kernel_rfl
theorem t_vanish (k : Kd) : eqM m (.str k.s) (.str "vanish") = some (.bl (decide (k = .vanish))) := by cases k <;> kernel_rfl
theorem n_let (k : Kd) : neM m (.str k.s) (.str "let") = some (.bl (!decide (k = .lett))) := by cases k <;> kernel_rfl
theorem howN_out (o : Option How) : eqM m (howN o) (.str "out") = some (.bl (decide (o = some .out))) := by
  cases o with
  | none => kernel_rfl
  | some h => cases h <;> kernel_rfl
theorem howN_lost (o : Option How) : eqM m (howN o) (.str "lost") = some (.bl (decide (o = some .lost))) := by
  cases o with
  | none => kernel_rfl
  | some h => cases h <;> kernel_rfl
theorem howN_here (o : Option How) : eqM m (howN o) (.str "here") = some (.bl (decide (o = some .here))) := by
  cases o with
  | none => kernel_rfl
  | some h => cases h <;> kernel_rfl
theorem bk_asks (b : Bk) : neM m (.str b.s) (.str "asks") = some (.bl (!decide (b = .asks))) := by cases b <;> kernel_rfl
theorem bk_asksE (b : Bk) : eqM m (.str b.s) (.str "asks") = some (.bl (decide (b = .asks))) := by cases b <;> kernel_rfl
theorem bk_oldN (b : Bk) : neM m (.str b.s) (.str "old") = some (.bl (!decide (b = .old))) := by cases b <;> kernel_rfl
theorem bk_tellsE (b : Bk) : eqM m (.str b.s) (.str "tells") = some (.bl (decide (b = .tells))) := by cases b <;> kernel_rfl
theorem gRRE (r : Rule) (R : Rm.Room) (e : Ev) : gWs [r.w, roomW R, e.w] = true := by simp only [gWs_cons, g_rule, g_room, g_ev, gWs_nil, Bool.and_self]
theorem lhere0 (l : Line) : r__law_here [.lst (l.map rowS)] m = .ok (.lst ((here l).map .int)) m := by
  have q := lhere_ok (l.map fun x => (rowS x, x)) (sees_settled m l)
  rwa [fst_settled, snd_settled] at q
theorem lhow0 (l : Line) (p : Int) (hl : l.length < 1000000) : r__law_how [.lst (l.map rowS), .int p] m = .ok (howN (howIs l p)) m := by
  have q := lhow_ok (l.map fun x => (rowS x, x)) (sees_settled m l) p (by simpa using hl)
  rwa [fst_settled, snd_settled] at q
theorem lcan_ok (R : Rm.Room) (e : Ev) (hl : R.line.length < 1000000) : r__law_can [r.w, roomW R, e.w] m = .ok (.bl (canBe r R e)) m := by
  unfold r__law_can
  refine pw_g (m1 := []) (gRRE r R e) ?_ rfl
  unfold d__law_can s__law_can_0 s__law_can_1 s__law_can_2 s__law_can_3 s__law_can_4 s__law_can_5
  have rw0 : roomW R = .tup [.lst (R.line.map rowS), .int R.came, .lst (R.served.map .int)] := rfl
  have hok : ∀ i : Int, okW 59 (.int i) = true := fun i => rfl
  cases e with
  | come =>
    have q1 : ∀ m, eqM m Ev.come.w (.tup [.str "come"]) = some (.bl true) := fun _ => by kernel_rfl
    wp_walk using rw0, q1, canBe
  | door =>
    have q1 : ∀ m, eqM m Ev.door.w (.tup [.str "come"]) = some (.bl false) := fun _ => by kernel_rfl
    have q2 : ∀ m, eqM m Ev.door.w (.tup [.str "door"]) = some (.bl true) := fun _ => by kernel_rfl
    wp_walk using rw0, q1, q2, lhere0, ne_nilL _ hok, canBe
  | pers x p =>
    have q1 : ∀ m, eqM m (Ev.pers x p).w (.tup [.str "come"]) = some (.bl false) := fun _ => by cases x <;> kernel_rfl
    have q2 : ∀ m, eqM m (Ev.pers x p).w (.tup [.str "door"]) = some (.bl false) := fun _ => by cases x <;> kernel_rfl
    have e1 : ∀ m, ixM m (Ev.pers x p).w (.int 1) = some (.int p) := fun _ => rfl
    have k1 : ∀ m, ixM m (Ev.pers x p).w (.int 0) = some (.str (kdP x).s) := fun _ => kd_ix (.pers x p)
    by_cases hb : x = .back
    · subst hb
      have kk : kdP .back = .back := rfl
      wp_walk using rw0, q1, q2, e1, k1, kk, lhow0 R.line p hl, t_back, howN_out, howN_lost, bk_asks, canBe
      cases h1 : decide (howIs R.line p = some .out) <;> cases h2 : decide (howIs R.line p = some .lost) <;> cases h3 : decide (r.bk = .asks) <;> wp_walk using h1, h2, h3, howN_lost, bk_asks
      all_goals
        simp only [decide_eq_true_eq] at h1 h2
        rw [h1] at h2
        cases h2
    · have ec : canBe r R (.pers x p) = (decide (howIs R.line p = some .here) && (!decide (x = .lett) || decide (R.came < 12))) := by cases x <;> first | exact absurd rfl hb | rfl
      have kb : decide (kdP x = .back) = false := by cases x <;> first | exact absurd rfl hb | rfl
      have kl : decide (kdP x = .lett) = decide (x = .lett) := by cases x <;> rfl
      rw [ec]
      wp_walk using rw0, q1, q2, e1, k1, lhow0 R.line p hl, t_back, kb, howN_here, n_let, kl
      cases h1 : decide (howIs R.line p = some .here) <;> cases h2 : decide (x = .lett) <;> wp_walk using h1, h2, n_let, kl
/-! ### somebody comes back -/
theorem asHow_set {l : Line} {i : Nat} {x : Rm.Row} (h : How) (e : l[i]? = some x) : asHow l i h = l.set i ⟨x.p, h, if h = .away then [] else x.ns⟩ := by
  have hi := (List.getElem?_eq_some_iff.mp e).1
  simp only [asHow, e]
  rw [List.set_eq_take_append_cons_drop, if_pos hi]
theorem hold_del {ns : List Nat} {l : Line} (h : HoldsAt m ns l) (i : Nat) (hi : i < l.length) : HoldsAt m (ns.take i ++ ns.drop (i + 1)) (l.take i ++ l.drop (i + 1)) := by
  have hlt : (ns.take i).length = i := by rw [List.length_take, h.1]; omega
  have hll : (l.take i).length = i := by rw [List.length_take]; omega
  refine ⟨by simp [h.1], ?_, fun j n y h1 h2 => ?_⟩
  · have hs : (ns.take i ++ ns.drop (i + 1)).Sublist (ns.take i ++ ns.drop i) := (List.Sublist.refl _).append (by rw [← List.drop_drop (i := 1)]; exact List.drop_sublist _ _)
    rw [List.take_append_drop] at hs
    exact h.2.1.sublist hs
  · by_cases c : j < i
    · rw [List.getElem?_append_left (by omega), List.getElem?_take_of_lt c] at h1 h2
      exact h.2.2 j n y h1 h2
    · rw [List.getElem?_append_right (by omega), hlt, List.getElem?_drop] at h1
      rw [List.getElem?_append_right (by omega), hll, List.getElem?_drop] at h2
      exact h.2.2 _ n y h1 h2
theorem set_how {ns : List Nat} {l : Line} (h : HoldsAt m ns l) {i n : Nat} {x : Rm.Row} (en : ns[i]? = some n) (el : l[i]? = some x) (k : How) : setM m (.ref n) (.int 1) (.str k.s) = some (wr m ns (l.set i ⟨x.p, k, x.ns⟩)) := by
  have ec := h.2.2 i n x en el
  simp only [setM, ec]
  have := wr_set (m := m) (x := ⟨x.p, k, x.ns⟩) h.2.1 h.1 en
  rw [h.self] at this
  rw [← this]
  rfl
theorem lback_ok (hk : 0 ≤ r.k) (ns : List Nat) (l : Line) (h : HoldsAt m ns l) (i : Nat) (hi : i < l.length) (c : Int) (s : List Int) (hl : l.length < 10000) :
    ∃ ns' m', r__law_back [r.w, .lst (ns.map .ref), .int c, .int (i : Int)] m = .ok (.tup [.lst (ns'.map .ref), .int (bringBack r ⟨l, c, s⟩ i).came]) m' ∧ HoldsAt m' ns' (bringBack r ⟨l, c, s⟩ i).line ∧ (bringBack r ⟨l, c, s⟩ i).served = s := by
  obtain ⟨n, en⟩ : ∃ n, ns[i]? = some n := ⟨_, List.getElem?_eq_getElem (show i < ns.length by rw [h.1]; exact hi)⟩
  obtain ⟨x, el⟩ : ∃ x, l[i]? = some x := ⟨_, List.getElem?_eq_getElem hi⟩
  have e0 : atI (ns.map W.ref) (i : Int) = some (.ref n) := ref_ix en
  have e1 : seqOf m (.ref n) = some (rowL x) := by simp only [seqOf, h.2.2 i _ _ en el]
  have i1 : (i : Int) + 1 = ((i + 1 : Nat) : Int) := by omega
  unfold r__law_back d__law_back s__law_back_0 s__law_back_1 s__law_back_2 s__law_back_3
  have nl := h.1
  by_cases hb : r.bk = .asks ∧ x.h = .lost
  · have eb : bringBack r ⟨l, c, s⟩ i = putIn r ⟨l.take i ++ l.drop (i + 1), c, s⟩ (l.length - 1) := by
      unfold bringBack
      rw [if_pos ⟨hb.1, by simp only [el, Option.map_some, hb.2]⟩]
    have h2 := hold_del h i hi
    have ll : (l.take i ++ l.drop (i + 1)).length = l.length - 1 := by simp; omega
    have lc := lcome_ok (r := r) hk _ _ h2 (l.length - 1) (by rw [ll]; exact Nat.le_refl _) c (by rw [ll]; omega)
    have h3 := (hold_ins h2 (l.length - 1) (by rw [ll]; exact Nat.le_refl _) ⟨c, .here, []⟩).wr (l' := renewed r ((l.take i ++ l.drop (i + 1)).take (l.length - 1) ++ ⟨c, .here, []⟩ :: (l.take i ++ l.drop (i + 1)).drop (l.length - 1)) [((l.length - 1 : Nat) : Int)]) (renewed_len _ _ _)
    have a1 : addW m (.lst ((ns.map W.ref).take i)) (.lst ((ns.map W.ref).drop (i + 1))) = some (.lst ((ns.take i ++ ns.drop (i + 1)).map .ref)) := by
      rw [addW_l (by simp; omega)]
      simp
    have i2 : ((ns.length : Nat) : Int) - 1 = ((l.length - 1 : Nat) : Int) := by omega
    refine ⟨_, _, ?_, by rw [eb]; exact h3, by rw [eb]; rfl⟩
    rw [eb]
    wp_walk using bk_asksE, hb.1, e0, sees_ix1 e1, hb.2, slost, eq_how, cut_to, cut_from, i1, a1, i2, lc
    rfl
  · have sh := set_how h en el .here
    have h2 := h.wr (l' := l.set i ⟨x.p, .here, x.ns⟩) (by simp)
    have ea : asHow l i .here = l.set i ⟨x.p, .here, x.ns⟩ := by rw [asHow_set .here el]; rfl
    rw [← ea] at sh h2
    have al : (asHow l i .here).length = l.length := asHow_len _ _ _
    have t0 : (dAnd (dTest (eBin eqM (eBin ixM (eVar 0) (eC (.int 4))) (eC (.str "asks")))) (dTest (eBin eqM (eBin ixM (eBin ixM (eVar 1) (eVar 3)) (eC (.int 1))) (eC (.str "lost"))))) [some r.w, some (.lst (ns.map .ref)), some (.int c), some (.int (i : Int))] m = .ok false m := by
      by_cases b1 : r.bk = .asks
      · have b2 : ¬ x.h = .lost := fun q => hb ⟨b1, q⟩
        wp_walk using bk_asksE, b1, e0, sees_ix1 e1, b2, slost, eq_how
      · wp_walk using bk_asksE, b1
    have eb : bringBack r ⟨l, c, s⟩ i = match r.bk with
      | .tells => renewFrom r ⟨asHow l i .here, c, s⟩ i
      | .old => ⟨asHow l i .here, c, s⟩
      | .asks => ⟨renewed r (asHow l i .here) [(i : Int)], c, s⟩ := by
      unfold bringBack
      refine if_neg ?_
      rintro ⟨q1, q2⟩
      simp only [el, Option.map_some, Option.some.injEq] at q2
      exact hb ⟨q1, q2⟩
    cases hk2 : r.bk with
    | old =>
      simp only [hk2] at eb
      refine ⟨ns, wr m ns (asHow l i .here), ?_, by rw [eb]; exact h2, by rw [eb]⟩
      rw [eb]
      simp only [runD, start4, List.replicate, sSeq, sIf, t0, R.thenS, Bool.false_eq_true, if_false]
      have d : ¬ Bk.old = Bk.asks := by decide
      wp_walk using e0, shere, sh, bk_oldN, hk2
    | tells =>
      simp only [hk2] at eb
      have rn := lrenew_ok (r := r) hk ns (asHow l i .here) h2 (upTo i l.length) (fun q hq => by
        unfold Rm.upTo at hq
        obtain ⟨j, hj, rfl⟩ := List.mem_map.mp hq
        rw [List.mem_range] at hj
        omega) (by rw [al]; omega)
      rw [wr_wr h.2.1 (by rw [al]; exact h.1) (by rw [renewed_len])] at rn
      refine ⟨ns, wr m ns (renewed r (asHow l i .here) (upTo i l.length)), ?_, ?_, by rw [eb]; rfl⟩
      · rw [eb]
        simp only [runD, start4, List.replicate, sSeq, sIf, t0, R.thenS, Bool.false_eq_true, if_false]
        have d1 : ¬ Bk.tells = Bk.old := by decide
        have cc : (0 : Int) ≤ (i : Int) ∧ ((ns.length : Nat) : Int) ≤ 16777216 ∧ (i : Int) ≤ 16777216 ∧ (0 : Int) ≤ ((ns.length : Nat) : Int) := ⟨by omega, by omega, by omega, by omega⟩
        have rgE : rgW (i : Int) ((ns.length : Nat) : Int) = (upTo i l.length).map .int := by rw [h.1]; exact rg_ints i l.length
        wp_walk using e0, shere, sh, bk_oldN, bk_tellsE, hk2, d1, aRg2, cc, rgE, rn
        rfl
      · rw [eb]
        have := h.wr (l' := renewed r (asHow l i .here) (upTo i l.length)) (by rw [renewed_len, al])
        rw [show (renewFrom r ⟨asHow l i .here, c, s⟩ i).line = renewed r (asHow l i .here) (upTo i l.length) by simp only [renewFrom, al]]
        exact this
    | asks =>
      simp only [hk2] at eb
      have rn := lrenew_ok (r := r) hk ns (asHow l i .here) h2 (upTo i (i + 1)) (fun q hq => by
        unfold Rm.upTo at hq
        obtain ⟨j, hj, rfl⟩ := List.mem_map.mp hq
        rw [List.mem_range] at hj
        omega) (by rw [al]; omega)
      rw [wr_wr h.2.1 (by rw [al]; exact h.1) (by rw [renewed_len])] at rn
      have u1 : upTo i (i + 1) = [(i : Int)] := by simp [Rm.upTo]
      refine ⟨ns, wr m ns (renewed r (asHow l i .here) [(i : Int)]), ?_, ?_, by rw [eb]⟩
      · rw [eb]
        simp only [runD, start4, List.replicate, sSeq, sIf, t0, R.thenS, Bool.false_eq_true, if_false]
        have d1 : ¬ Bk.asks = Bk.old := by decide
        have d2 : ¬ Bk.asks = Bk.tells := by decide
        have cc : (0 : Int) ≤ (i : Int) ∧ ((i + 1 : Nat) : Int) ≤ 16777216 ∧ (i : Int) ≤ 16777216 ∧ (0 : Int) ≤ ((i + 1 : Nat) : Int) := ⟨by omega, by omega, by omega, by omega⟩
        rw [u1] at rn
        have rgE : rgW (i : Int) ((i + 1 : Nat) : Int) = List.map W.int [(i : Int)] := by rw [rg_ints, u1]
        wp_walk using e0, shere, sh, bk_oldN, bk_tellsE, hk2, d1, d2, i1, aRg2, cc, rgE, rn
      · rw [eb]
        exact h.wr (l' := renewed r (asHow l i .here) [(i : Int)]) (by rw [renewed_len, al])
end
end L

namespace L
open PySem PySem.Spec PyProof.Rows L2 Dn Rm
local macro_rules | `(tactic| wp_walk using $ts,*) => `(tactic| simp only [runD, start0, start1, start2, start3, start4, start5, sSeq, sSet, sRet, sExpr, sIf, sNil, sCont, sRetN, sPass, sBrk, sBad, sAsg, sSub, sFor, sPar, sAug, sPut, sPutA, eVar, eC, eBin, eFn, eCall, eAnd, eOr, eNot, eIf, eTup, eLst, eLstM, eIsi, eFz, eNw, aComp, iSeq, iEnumW, eFld, eMeth, eMake, eSl, oNone, oSome, eRev, eIdx, eChain, eApp, eFrz, dTest, dAnd, dOr, dNot, aNil, aCons, aStar, Dn.R.bind, R.thenS, List.length_cons, List.length_nil, List.length_map, List.replicate, List.set, List.getElem?_cons_zero, List.getElem?_cons_succ, List.cons_append, List.nil_append, Nat.reduceAdd, Nat.reduceSub, Nat.zero_add, if_true, if_false, Bool.false_eq_true, Bool.not_true, Bool.not_false, decide_true, decide_false, addW_i, subW_i, addI_i, intW_i, gtW_i, geW_i, ltW_i, leW_i, tupleW_l, tupleW_t, lenW_t, lenW_l, eqM_int, neM_int, inM_ints, inM_intsL, ixM_t, ixM_l, lstOf, seqOf, trkOf, wipeR, Nat.reduceLeDiff, rule0, rule1, rule2, rule3, rule4, rule5, rule6, gN, gT, gsCons, gsNil, Option.bind, GoesD, four_lt, and_self, Bool.and_true, Bool.true_and, Bool.and_false, Bool.false_and, Bool.or_true, Bool.true_or, Bool.or_false, Bool.false_or, $[$ts:term],*])
section
variable {m : Mem} {r : Rule}
theorem seq_next {f g : DS} {a b : Rho} {m m' : Mem} (h : f a m = .next b m') : sSeq f g a m = g b m' := by simp only [sSeq, h]
theorem seq_ret {f g : DS} {a : Rho} {w : W} {m m' : Mem} (h : f a m = .ret w m') : sSeq f g a m = .ret w m' := by simp only [sSeq, h]
abbrev doR (r : Rule) (R : Rm.Room) (e : Ev) (ns : List Nat) (c : Int) (s : List Int) (a6 a7 a8 a9 : Option W) : Rho := [some r.w, some (roomW R), some e.w, some (.lst (ns.map .ref)), some (.int c), some (.lst (s.map .int)), a6, a7, a8, a9]
theorem here_none (l : Line) : (here l).isEmpty = !(l.any fun x => decide (x.h = .here)) := by
  unfold here
  rw [Bool.eq_iff_iff]
  simp [List.filter_eq_nil_iff]
theorem ldo_end (R : Rm.Room) (e : Ev) (ns : List Nat) (l : Line) (h : HoldsAt m ns l) (c : Int) (s : List Int) (a6 a7 a8 a9 : Option W) (hl : l.length < 100000) :
    ∃ w, sSeq s__law_do_9 s__law_do_10 (doR r R e ns c s a6 a7 a8 a9) m = .ret w m ∧ frzW m 6 w = some (roomW ⟨forgetting l, c, s⟩) := by
  have hh := lhere_ok (refZ ns l) h.sees
  rw [refZ_fst h.1, refZ_snd h.1] at hh
  have eE : eqM m (.lst ((here l).map .int)) (.lst []) = some (.bl (!(l.any fun x => decide (x.h = .here)))) := by
    rw [eqM_ok (ok_intsL 59 _) (by kernel_rfl), eqW, eqWs_nil_map, here_none]
  unfold s__law_do_9 s__law_do_10
  cases ha : l.any fun x => decide (x.h = .here) with
  | true =>
    have ef : forgetting l = l := by simp only [forgetting, ha, if_true]
    refine ⟨.tup [.lst (ns.map .ref), .int c, .lst (s.map .int)], ?_, by rw [ef]; exact frz_room h⟩
    wp_walk using hh, eE, ha
  | false =>
    have ef : forgetting l = (l.filter fun x => !decide (x.h = .away)).map fun x => ⟨x.p, .lost, x.ns⟩ := by simp only [forgetting, ha, Bool.false_eq_true, if_false]
    have c1 := compL_map (t := gN 8) (vs := [8]) (r := doR r R e ns c s a6 a7 a8 a9) (m := m) (c := dTest (eBin neM (eBin ixM (eVar 8) (eC (.int 1))) (eC (.str How.away.s)))) (f := eLst (aCons (eBin ixM (eVar 8) (eC (.int 0))) (aCons (eC (.str How.lost.s)) (aCons (eBin ixM (eVar 8) (eC (.int 2))) aNil))))
      (fun z : W × Rm.Row => z.1) (fun z => !decide (z.2.h = .away)) (fun z => rowS ⟨z.2.p, .lost, z.2.ns⟩) (fun z => doR r R e ns c s a6 a7 (some z.1) a9) (refZ ns l) (fun _ _ => rfl) (fun z hz => by wp_walk using sees_ix1 (h.sees z hz), ne_how) fun z hz _ => by
        wp_walk using sees_ix0 (h.sees z hz), sees_ix2 (h.sees z hz)
        rfl
    rw [refZ_fst h.1] at c1
    have e2 : ((refZ ns l).filter fun z => !decide (z.2.h = .away)).map (fun z => rowS ⟨z.2.p, .lost, z.2.ns⟩) = (forgetting l).map rowS := by
      rw [ef, List.map_map]
      conv => rhs; rw [← refZ_snd h.1, List.filter_map, List.map_map]
      rfl
    rw [e2] at c1
    refine ⟨.tup [.lst ((forgetting l).map rowS), .int c, .lst (s.map .int)], ?_, frzW_g m 6 _ (g_room ⟨forgetting l, c, s⟩)⟩
    wp_walk using hh, eE, ha, saway, slost, c1
theorem spot_head (l : Line) (p : Int) (h : p ∈ l.map (·.p)) : ((l.zipIdx.filter fun y => y.1.p == p).map fun y => (y.2 : Nat)).head? = some (spotOf l p) := by
  have go : ∀ (l : Line) (k : Nat), p ∈ l.map (·.p) → (((l.zipIdx k).filter fun y => y.1.p == p).map fun y => (y.2 : Nat)).head? = some (k + spotOf l p) := by
    intro l
    induction l with
    | nil => intro k h; cases h
    | cons x l ih =>
      intro k h
      rw [List.zipIdx_cons, List.filter_cons]
      unfold spotOf
      rw [List.findIdx_cons]
      cases q : x.p == p with
      | true => simp
      | false =>
        have hp : p ∈ l.map (·.p) := by
          rw [List.map_cons] at h
          rcases List.mem_cons.mp h with e | h
          · rw [e] at q; simp at q
          · exact h
        simp only [Bool.false_eq_true, if_false, cond_false]
        rw [ih (k + 1) hp]
        unfold spotOf
        congr 1
        omega
  have := go l 0 h
  simpa using this
theorem ldo_start (R : Rm.Room) (e : Ev) (hn : named R e) (hl : R.line.length < 10000) : ∃ a6, sSeq s__law_do_0 s__law_do_1 [some r.w, some (roomW R), some e.w, none, none, none, none, none, none, none] [] = .next (doR r R e (List.range' 0 R.line.length) R.came R.served (some (.int (a6 : Nat))) none none none) (R.line.map fun x => .lst (rowL x)) ∧ (∀ x p, e = .pers x p → a6 = spotOf R.line p) := by
  have rw0 : ∀ m, ixM m (roomW R) (.int 0) = some (.lst (R.line.map rowS)) := fun _ => rfl
  have rw1 : ∀ m, ixM m (roomW R) (.int 1) = some (.int R.came) := fun _ => rfl
  have rw2 : ∀ m, ixM m (roomW R) (.int 2) = some (.lst (R.served.map .int)) := fun _ => rfl
  have c1 := compL_copy (t := gN 8) (f := eNw (aFn listW (aCons (eVar 8) aNil))) (vs := [8]) (r := [some r.w, some (roomW R), some e.w, none, none, none, none, none, none, none]) (fun z => [some r.w, some (roomW R), some e.w, none, none, none, none, none, some z.1, none]) (R.line.map fun x => (rowS x, x)) [] (sees_settled [] R.line) (fun _ _ => rfl) fun z mm _ h => by wp_walk using aFn, listW_s h
  rw [fst_settled, List.length_map, List.map_map] at c1
  have e0 : ((fun z : W × Rm.Row => Cell.lst (rowL z.2)) ∘ fun x : Rm.Row => (rowS x, x)) = fun x => Cell.lst (rowL x) := rfl
  rw [e0] at c1
  simp only [List.nil_append, List.length_nil] at c1
  have hh := copies_hold [] R.line
  simp only [List.nil_append, List.length_nil] at hh
  have s0 : s__law_do_0 [some r.w, some (roomW R), some e.w, none, none, none, none, none, none, none] [] = .next (doR r R e (List.range' 0 R.line.length) R.came R.served none none none none) (R.line.map fun x => .lst (rowL x)) := by
    unfold s__law_do_0
    wp_walk using sPar3, rw0, c1, rw1, aFn, rw2, listW
  have key : ∀ (q : Rm.Row → Bool), (∀ (m : Mem) x, eqM m (match e.w with | .tup ws => .tup (cutW ws (some 1) none) | w => w) (.tup [.int x]) = some (.bl (q ⟨x, .here, []⟩))) → (∀ x : Rm.Row, q x = q ⟨x.p, .here, []⟩) →
      compL (gT (gsCons (gN 9) (gsCons (gN 8) gsNil))) (dTest (eBin eqM (eSl (eVar 2) (oSome (eC (.int 1))) oNone) (eTup (aCons (eBin ixM (eVar 8) (eC (.int 0))) aNil)))) (eVar 9) [9, 8] (Dn.numbered 0 ((List.range' 0 R.line.length).map .ref)) (doR r R e (List.range' 0 R.line.length) R.came R.served none none none none) (R.line.map fun x => .lst (rowL x)) = .ok ((R.line.zipIdx.filter fun y => q y.1).map fun y => .int (y.2 : Nat)) (R.line.map fun x => .lst (rowL x)) := fun q hq hq2 => by
    rw [← refZ_fst hh.1, numbered_map]
    rw [compL_map (fun y : (W × Rm.Row) × Nat => W.tup [.int (y.2 : Nat), y.1.1]) (fun y => q y.1.2) (fun y => .int (y.2 : Nat)) (fun y => doR r R e (List.range' 0 R.line.length) R.came R.served none none (some y.1.1) (some (.int (y.2 : Nat)))) _ (fun y _ => rfl) (fun y hy => ?_) fun y _ _ => rfl]
    · conv => rhs; rw [← refZ_snd hh.1]
      have hl2 : (refZ (List.range' 0 (List.map (fun x => x.2) (refZ (List.range' 0 R.line.length) R.line)).length) (List.map (fun x => x.2) (refZ (List.range' 0 R.line.length) R.line))) = refZ (List.range' 0 R.line.length) R.line := by rw [refZ_snd hh.1]
      rw [List.zipIdx_map, List.filter_map, List.map_map, refZ_snd hh.1]
      rfl
    · have hy2 : y.1 ∈ refZ (List.range' 0 R.line.length) R.line := by
        have := List.mem_zipIdx hy
        exact this.2.2 ▸ List.getElem_mem _
      have qq := hq (R.line.map fun x => .lst (rowL x)) y.1.2.p
      rw [← hq2] at qq
      cases e with
      | come =>
        have ew : Ev.come.w = .tup [.str "come"] := rfl
        rw [ew] at qq
        wp_walk using ew, sees_ix0 (hh.sees _ hy2), qq
      | door =>
        have ew : Ev.door.w = .tup [.str "door"] := rfl
        rw [ew] at qq
        wp_walk using ew, sees_ix0 (hh.sees _ hy2), qq
      | pers x p =>
        have ew : (Ev.pers x p).w = .tup [.str x.s, .int p] := rfl
        rw [ew] at qq
        wp_walk using ew, sees_ix0 (hh.sees _ hy2), qq
  have fin : ∀ (q : Rm.Row → Bool) (k : Nat), compL (gT (gsCons (gN 9) (gsCons (gN 8) gsNil))) (dTest (eBin eqM (eSl (eVar 2) (oSome (eC (.int 1))) oNone) (eTup (aCons (eBin ixM (eVar 8) (eC (.int 0))) aNil)))) (eVar 9) [9, 8] (Dn.numbered 0 ((List.range' 0 R.line.length).map .ref)) (doR r R e (List.range' 0 R.line.length) R.came R.served none none none none) (R.line.map fun x => .lst (rowL x)) = .ok ((R.line.zipIdx.filter fun y : Rm.Row × Nat => q y.1).map fun y => .int (y.2 : Nat)) (R.line.map fun x => .lst (rowL x)) →
      (((R.line.zipIdx.filter fun y : Rm.Row × Nat => q y.1).map fun y : Rm.Row × Nat => (y.2 : Nat)) ++ [0]).head? = some k → s__law_do_1 (doR r R e (List.range' 0 R.line.length) R.came R.served none none none none) (R.line.map fun x => .lst (rowL x)) = .next (doR r R e (List.range' 0 R.line.length) R.came R.served (some (.int (k : Nat))) none none none) (R.line.map fun x => .lst (rowL x)) := fun q k hc hk => by
    have hlen : ((R.line.zipIdx.filter fun y : Rm.Row × Nat => q y.1).map fun y => W.int (y.2 : Nat)).length + 1 ≤ 16777216 := by
      rw [List.length_map]
      have := List.length_filter_le (fun y : Rm.Row × Nat => q y.1) R.line.zipIdx
      rw [List.length_zipIdx] at this
      omega
    have ea : ∀ m, addW m (.lst ((R.line.zipIdx.filter fun y : Rm.Row × Nat => q y.1).map fun y => W.int (y.2 : Nat))) (.lst [.int 0]) = some (.lst ((R.line.zipIdx.filter fun y : Rm.Row × Nat => q y.1).map (fun y => W.int (y.2 : Nat)) ++ [.int 0])) := fun m => addW_l (by simpa using hlen)
    have ei : atI ((R.line.zipIdx.filter fun y : Rm.Row × Nat => q y.1).map (fun y => W.int (y.2 : Nat)) ++ [.int 0]) 0 = some (.int (k : Nat)) := by
      refine atI_get (n := 0) rfl ?_
      have e9 : (R.line.zipIdx.filter fun y : Rm.Row × Nat => q y.1).map (fun y => W.int (y.2 : Nat)) ++ [.int 0] = (((R.line.zipIdx.filter fun y : Rm.Row × Nat => q y.1).map fun y : Rm.Row × Nat => (y.2 : Nat)) ++ [0]).map fun n : Nat => W.int (n : Nat) := by
        rw [List.map_append, List.map_map]
        rfl
      rw [e9, List.getElem?_map, ← List.head?_eq_getElem?, hk]
      rfl
    unfold s__law_do_1
    wp_walk using hc, ea, ei
  cases e with
  | come =>
    refine ⟨0, ?_, fun x p h => by cases h⟩
    rw [seq_next s0]
    refine fin (fun _ => false) 0 (key (fun _ => false) (fun m x => ?_) fun _ => rfl) (by rw [show (R.line.zipIdx.filter fun y : Rm.Row × Nat => false) = [] from List.filter_eq_nil_iff.mpr (by simp)]; rfl)
    show eqM m (.tup (cutW [.str "come"] (some 1) none)) (.tup [.int x]) = _
    rw [cut_fromI (by decide)]
    kernel_rfl
  | door =>
    refine ⟨0, ?_, fun x p h => by cases h⟩
    rw [seq_next s0]
    refine fin (fun _ => false) 0 (key (fun _ => false) (fun m x => ?_) fun _ => rfl) (by rw [show (R.line.zipIdx.filter fun y : Rm.Row × Nat => false) = [] from List.filter_eq_nil_iff.mpr (by simp)]; rfl)
    show eqM m (.tup (cutW [.str "door"] (some 1) none)) (.tup [.int x]) = _
    rw [cut_fromI (by decide)]
    kernel_rfl
  | pers x p =>
    refine ⟨spotOf R.line p, ?_, fun y q h => by cases h; rfl⟩
    rw [seq_next s0]
    refine fin (fun y => y.p == p) _ (key (fun y => y.p == p) (fun m z => ?_) fun _ => rfl) ?_
    · show eqM m (.tup (cutW [.str x.s, .int p] (some 1) none)) (.tup [.int z]) = _
      rw [cut_fromI (by decide)]
      show eqM m (.tup (List.map W.int [p])) (.tup (List.map W.int [z])) = _
      rw [eqM_ok (ok_intsT 59 _) (ok_intsT 59 _), eqW, eqWs_ints]
      congr 2
      rw [Bool.eq_iff_iff]
      simp
      exact ⟨fun h => h.symm, fun h => h.symm⟩
    · rw [List.head?_append, spot_head R.line p hn]
      rfl
/-! ### the seven things -/
theorem skip2 (R : Rm.Room) (e : Ev) (h : kd e ≠ .come) (ns c s a6 a7 a8 a9) : s__law_do_2 (doR r R e ns c s a6 a7 a8 a9) m = .next (doR r R e ns c s a6 a7 a8 a9) m := by
  unfold s__law_do_2
  wp_walk using kd_ix, t_come, h
theorem skip3 (R : Rm.Room) (e : Ev) (h : kd e ≠ .lett) (ns c s a6 a7 a8 a9) : s__law_do_3 (doR r R e ns c s a6 a7 a8 a9) m = .next (doR r R e ns c s a6 a7 a8 a9) m := by
  unfold s__law_do_3
  wp_walk using kd_ix, t_let, h
theorem skip4 (R : Rm.Room) (e : Ev) (h : kd e ≠ .out) (ns c s a6 a7 a8 a9) : s__law_do_4 (doR r R e ns c s a6 a7 a8 a9) m = .next (doR r R e ns c s a6 a7 a8 a9) m := by
  unfold s__law_do_4
  wp_walk using kd_ix, t_out, h
theorem skip5 (R : Rm.Room) (e : Ev) (h : kd e ≠ .vanish) (ns c s a6 a7 a8 a9) : s__law_do_5 (doR r R e ns c s a6 a7 a8 a9) m = .next (doR r R e ns c s a6 a7 a8 a9) m := by
  unfold s__law_do_5
  wp_walk using kd_ix, t_vanish, h
theorem skip6 (R : Rm.Room) (e : Ev) (h : kd e ≠ .leave) (ns c s a6 a7 a8 a9) : s__law_do_6 (doR r R e ns c s a6 a7 a8 a9) m = .next (doR r R e ns c s a6 a7 a8 a9) m := by
  unfold s__law_do_6
  wp_walk using kd_ix, t_leave, h
theorem skip7 (R : Rm.Room) (e : Ev) (h : kd e ≠ .back) (ns c s a6 a7 a8 a9) : s__law_do_7 (doR r R e ns c s a6 a7 a8 a9) m = .next (doR r R e ns c s a6 a7 a8 a9) m := by
  unfold s__law_do_7
  wp_walk using kd_ix, t_back, h
theorem skip8 (R : Rm.Room) (e : Ev) (h : kd e ≠ .door) (ns c s a6 a7 a8 a9) : s__law_do_8 (doR r R e ns c s a6 a7 a8 a9) m = .next (doR r R e ns c s a6 a7 a8 a9) m := by
  unfold s__law_do_8
  wp_walk using kd_ix, t_door, h
theorem ldo_mid (hk : 0 ≤ r.k) (R : Rm.Room) (e : Ev) (hn : named R e) (ns : List Nat) (h : HoldsAt m ns R.line) (hl : R.line.length < 9000) (hs : R.served.length < 100000) (k : Nat) (hk6 : ∀ x p, e = .pers x p → k = spotOf R.line p) (g : DS) :
    ∃ ns' m' a6 a7 a8 a9, sSeq s__law_do_2 (sSeq s__law_do_3 (sSeq s__law_do_4 (sSeq s__law_do_5 (sSeq s__law_do_6 (sSeq s__law_do_7 (sSeq s__law_do_8 g)))))) (doR r R e ns R.came R.served (some (.int (k : Nat))) none none none) m = g (doR r R e ns' (doRaw r R e).came (doRaw r R e).served a6 a7 a8 a9) m' ∧ HoldsAt m' ns' (doRaw r R e).line := by
  have nl := h.1
  have len : ∀ {ns' : List Nat} {mm : Mem}, lenW mm [.lst (ns'.map W.ref)] = some (.int (ns'.length : Nat)) := fun {ns' mm} => by rw [lenW_l, List.length_map]
  cases e with
  | come =>
    have lc := lcome_ok (r := r) hk ns R.line h R.line.length (Nat.le_refl _) R.came (by omega)
    have h2 := (hold_ins h R.line.length (Nat.le_refl _) ⟨R.came, .here, []⟩).wr (l' := renewed r (R.line.take R.line.length ++ ⟨R.came, .here, []⟩ :: R.line.drop R.line.length) [((R.line.length : Nat) : Int)]) (renewed_len _ _ _)
    refine ⟨_, _, some (.int (k : Nat)), none, none, none, ?_, h2⟩
    have kk : kd Ev.come = .come := rfl
    have s2 : s__law_do_2 (doR r R .come ns R.came R.served (some (.int (k : Nat))) none none none) m = .next (doR r R .come (ns.take R.line.length ++ m.length :: ns.drop R.line.length) (R.came + 1) R.served (some (.int (k : Nat))) none none none) (wr (m ++ [.lst (rowL ⟨R.came, .here, []⟩)]) (ns.take R.line.length ++ m.length :: ns.drop R.line.length) (renewed r (R.line.take R.line.length ++ ⟨R.came, .here, []⟩ :: R.line.drop R.line.length) [((R.line.length : Nat) : Int)])) := by
      unfold s__law_do_2
      wp_walk using kd_ix, t_come, kk, len, nl, lc
    rw [seq_next s2, seq_next (skip3 R .come (by decide) _ _ _ _ _ _ _), seq_next (skip4 R .come (by decide) _ _ _ _ _ _ _), seq_next (skip5 R .come (by decide) _ _ _ _ _ _ _), seq_next (skip6 R .come (by decide) _ _ _ _ _ _ _), seq_next (skip7 R .come (by decide) _ _ _ _ _ _ _), seq_next (skip8 R .come (by decide) _ _ _ _ _ _ _)]
    rfl
  | door =>
    have la := lasked_ok (r := r) hk (refZ ns R.line) h.sees (by unfold refZ; simp; omega)
    have zl : (refZ ns R.line).length = R.line.length := by unfold refZ; simp; omega
    rw [refZ_fst h.1, refZ_snd h.1, zl] at la
    have ch := copies_hold m R.line
    have em : (refZ ns R.line).map (fun z => Cell.lst (rowL z.2)) = R.line.map fun x => .lst (rowL x) := by
      conv => rhs; rw [← refZ_snd h.1, List.map_map]
      rfl
    rw [em] at la
    have h2 := ch.wr (l' := askedAgain r R.line) (asked_len r R.line)
    have lc := lclaims_ok (r := r) (refZ (List.range' m.length R.line.length) (askedAgain r R.line)) h2.sees (by unfold refZ; simp [asked_len]; omega)
    rw [refZ_fst h2.1, refZ_snd h2.1] at lc
    have h3 := h2.app (m' := [Cell.fz ((claims r (askedAgain r R.line)).map W.int)])
    have kk : kd Ev.door = .door := rfl
    rw [seq_next (skip2 R .door (by decide) _ _ _ _ _ _ _), seq_next (skip3 R .door (by decide) _ _ _ _ _ _ _), seq_next (skip4 R .door (by decide) _ _ _ _ _ _ _), seq_next (skip5 R .door (by decide) _ _ _ _ _ _ _), seq_next (skip6 R .door (by decide) _ _ _ _ _ _ _), seq_next (skip7 R .door (by decide) _ _ _ _ _ _ _)]
    cases hc : claims r (askedAgain r R.line) with
    | nil =>
      rw [hc] at lc h3
      have eo : doRaw r R .door = ⟨askedAgain r R.line, R.came, R.served⟩ := by simp only [doRaw, openDoor, hc]
      refine ⟨_, _, some (.int (k : Nat)), some (.lst (List.map W.int [])), none, none, ?_, by rw [eo]; exact h3⟩
      rw [eo]
      refine seq_next ?_
      have b0 : (((0 : Nat) : Int) == 1) = false := rfl
      unfold s__law_do_8
      wp_walk using kd_ix, t_door, kk, la, lc, b0, List.map_nil
    | cons p ps =>
      cases ps with
      | nil =>
        rw [hc] at lc h3
        have eo : doRaw r R .door = ⟨without r (askedAgain r R.line) p, R.came, R.served ++ [p]⟩ := by simp only [doRaw, openDoor, hc]
        have lg := lgone_ok (r := r) hk _ _ h3 p (by rw [asked_len]; omega)
        have h4 := (keep_hold p h3).wr (l' := without r (askedAgain r R.line) p) (by simp only [Rm.without, renewed_len, List.length_map])
        refine ⟨_, _, some (.int (k : Nat)), some (.lst (List.map W.int [p])), none, none, ?_, by rw [eo]; exact h4⟩
        rw [eo]
        refine seq_next ?_
        have b0 : (((1 : Nat) : Int) == 1) = true := rfl
        have a0 : atI (List.map W.int [p]) 0 = some (.int p) := atI_get (n := 0) rfl rfl
        have ad : ∀ mm, addW mm (.lst (R.served.map .int)) (.lst (List.map W.int [p])) = some (.lst ((R.served ++ [p]).map .int)) := fun mm => by
          rw [addW_l (by simp; omega), List.map_append]
        unfold s__law_do_8
        wp_walk using kd_ix, t_door, kk, la, lc, b0, a0, lg, ad
      | cons q qs =>
        rw [hc] at lc h3
        have eo : doRaw r R .door = ⟨askedAgain r R.line, R.came, R.served⟩ := by simp only [doRaw, openDoor, hc]
        refine ⟨_, _, some (.int (k : Nat)), some (.lst (List.map W.int (p :: q :: qs))), none, none, ?_, by rw [eo]; exact h3⟩
        rw [eo]
        refine seq_next ?_
        have b0 : ∀ k : Nat, (((k + 1 + 1 : Nat) : Int) == 1) = false := fun k => by
          rw [beq_eq_false_iff_ne]
          omega
        unfold s__law_do_8
        wp_walk using kd_ix, t_door, kk, la, lc, b0
  | pers x p =>
    have ek := hk6 x p rfl
    subst ek
    have hi : spotOf R.line p < R.line.length := by
      unfold spotOf
      rw [List.findIdx_lt_length]
      obtain ⟨y, hy, e⟩ := List.mem_map.mp hn
      exact ⟨y, hy, by simpa using e⟩
    obtain ⟨n, en⟩ : ∃ n, ns[spotOf R.line p]? = some n := ⟨_, List.getElem?_eq_getElem (show spotOf R.line p < ns.length by omega)⟩
    obtain ⟨y, el⟩ : ∃ y, R.line[spotOf R.line p]? = some y := ⟨_, List.getElem?_eq_getElem hi⟩
    have e0 : atI (ns.map W.ref) ((spotOf R.line p : Nat) : Int) = some (.ref n) := ref_ix en
    have e1 : ∀ m, ixM m (Ev.pers x p).w (.int 1) = some (.int p) := fun _ => rfl
    have i1 : ((spotOf R.line p : Nat) : Int) + 1 = ((spotOf R.line p + 1 : Nat) : Int) := by omega
    have i2 : ((spotOf R.line p : Nat) : Int) + 2 = ((spotOf R.line p + 2 : Nat) : Int) := by omega
    have kk : kd (.pers x p) = kdP x := rfl
    cases x with
    | lett =>
      have lc := lcome_ok (r := r) hk ns R.line h (spotOf R.line p + 1) (by omega) R.came (by omega)
      have hs2 := hold_ins h (spotOf R.line p + 1) (by omega) ⟨R.came, .here, []⟩
      have ln : (renewed r (R.line.take (spotOf R.line p + 1) ++ ⟨R.came, .here, []⟩ :: R.line.drop (spotOf R.line p + 1)) [((spotOf R.line p + 1 : Nat) : Int)]).length = R.line.length + 1 := by
        rw [renewed_len]
        simp
        omega
      have h2 := hs2.wr (l' := renewed r (R.line.take (spotOf R.line p + 1) ++ ⟨R.came, .here, []⟩ :: R.line.drop (spotOf R.line p + 1)) [((spotOf R.line p + 1 : Nat) : Int)]) (renewed_len _ _ _)
      have kl : kdP .lett = .lett := rfl
      rw [seq_next (skip2 R (.pers .lett p) (by simp [kd, kdP]) _ _ _ _ _ _ _)]
      cases ht : r.told with
      | true =>
        have eo : doRaw r R (.pers .lett p) = renewFrom r (putIn r R (spotOf R.line p + 1)) (spotOf R.line p + 2) := by simp only [doRaw, doPers, ht, if_true]
        have rn := lrenew_ok (r := r) hk _ _ h2 (Rm.upTo (spotOf R.line p + 2) (R.line.length + 1)) (fun q hq => by
          unfold Rm.upTo at hq
          obtain ⟨j, hj, rfl⟩ := List.mem_map.mp hq
          rw [List.mem_range] at hj
          rw [ln]
          omega) (by rw [ln]; omega)
        have h3 := h2.wr (l' := renewed r (renewed r (R.line.take (spotOf R.line p + 1) ++ ⟨R.came, .here, []⟩ :: R.line.drop (spotOf R.line p + 1)) [((spotOf R.line p + 1 : Nat) : Int)]) (Rm.upTo (spotOf R.line p + 2) (R.line.length + 1))) (renewed_len _ _ _)
        have el2 : (renewFrom r (putIn r R (spotOf R.line p + 1)) (spotOf R.line p + 2)).line = renewed r (renewed r (R.line.take (spotOf R.line p + 1) ++ ⟨R.came, .here, []⟩ :: R.line.drop (spotOf R.line p + 1)) [((spotOf R.line p + 1 : Nat) : Int)]) (Rm.upTo (spotOf R.line p + 2) (R.line.length + 1)) := by
          simp only [renewFrom, Rm.putIn, ln]
        have rl : (ns.take (spotOf R.line p + 1) ++ m.length :: ns.drop (spotOf R.line p + 1)).length = R.line.length + 1 := by simp; omega
        have cc : (0 : Int) ≤ ((spotOf R.line p + 2 : Nat) : Int) ∧ ((R.line.length + 1 : Nat) : Int) ≤ 16777216 ∧ ((spotOf R.line p + 2 : Nat) : Int) ≤ 16777216 ∧ (0 : Int) ≤ ((R.line.length + 1 : Nat) : Int) := ⟨by omega, by omega, by omega, by omega⟩
        refine ⟨_, _, some (.int (spotOf R.line p : Nat)), none, none, none, ?_, by rw [eo, el2]; exact h3⟩
        rw [eo]
        have s3 : s__law_do_3 (doR r R (.pers .lett p) ns R.came R.served (some (.int (spotOf R.line p : Nat))) none none none) m = .next (doR r R (.pers .lett p) (ns.take (spotOf R.line p + 1) ++ m.length :: ns.drop (spotOf R.line p + 1)) (R.came + 1) R.served (some (.int (spotOf R.line p : Nat))) none none none) (wr (wr (m ++ [.lst (rowL ⟨R.came, .here, []⟩)]) (ns.take (spotOf R.line p + 1) ++ m.length :: ns.drop (spotOf R.line p + 1)) (renewed r (R.line.take (spotOf R.line p + 1) ++ ⟨R.came, .here, []⟩ :: R.line.drop (spotOf R.line p + 1)) [((spotOf R.line p + 1 : Nat) : Int)])) (ns.take (spotOf R.line p + 1) ++ m.length :: ns.drop (spotOf R.line p + 1)) (renewed r (renewed r (R.line.take (spotOf R.line p + 1) ++ ⟨R.came, .here, []⟩ :: R.line.drop (spotOf R.line p + 1)) [((spotOf R.line p + 1 : Nat) : Int)]) (Rm.upTo (spotOf R.line p + 2) (R.line.length + 1)))) := by
          unfold s__law_do_3
          wp_walk using kd_ix, t_let, kk, kl, i1, i2, lc, eq_told, ht, len, rl, aRg2, cc, rg_ints, rn
        rw [seq_next s3, seq_next (skip4 R (.pers .lett p) (by simp [kd, kdP]) _ _ _ _ _ _ _), seq_next (skip5 R (.pers .lett p) (by simp [kd, kdP]) _ _ _ _ _ _ _), seq_next (skip6 R (.pers .lett p) (by simp [kd, kdP]) _ _ _ _ _ _ _), seq_next (skip7 R (.pers .lett p) (by simp [kd, kdP]) _ _ _ _ _ _ _), seq_next (skip8 R (.pers .lett p) (by simp [kd, kdP]) _ _ _ _ _ _ _)]
        rfl
      | false =>
        have eo : doRaw r R (.pers .lett p) = putIn r R (spotOf R.line p + 1) := by simp only [doRaw, doPers, ht, Bool.false_eq_true, if_false]
        refine ⟨_, _, some (.int (spotOf R.line p : Nat)), none, none, none, ?_, by rw [eo]; exact h2⟩
        rw [eo]
        have s3 : s__law_do_3 (doR r R (.pers .lett p) ns R.came R.served (some (.int (spotOf R.line p : Nat))) none none none) m = .next (doR r R (.pers .lett p) (ns.take (spotOf R.line p + 1) ++ m.length :: ns.drop (spotOf R.line p + 1)) (R.came + 1) R.served (some (.int (spotOf R.line p : Nat))) none none none) (wr (m ++ [.lst (rowL ⟨R.came, .here, []⟩)]) (ns.take (spotOf R.line p + 1) ++ m.length :: ns.drop (spotOf R.line p + 1)) (renewed r (R.line.take (spotOf R.line p + 1) ++ ⟨R.came, .here, []⟩ :: R.line.drop (spotOf R.line p + 1)) [((spotOf R.line p + 1 : Nat) : Int)])) := by
          unfold s__law_do_3
          wp_walk using kd_ix, t_let, kk, kl, i1, lc, eq_told, ht
        rw [seq_next s3, seq_next (skip4 R (.pers .lett p) (by simp [kd, kdP]) _ _ _ _ _ _ _), seq_next (skip5 R (.pers .lett p) (by simp [kd, kdP]) _ _ _ _ _ _ _), seq_next (skip6 R (.pers .lett p) (by simp [kd, kdP]) _ _ _ _ _ _ _), seq_next (skip7 R (.pers .lett p) (by simp [kd, kdP]) _ _ _ _ _ _ _), seq_next (skip8 R (.pers .lett p) (by simp [kd, kdP]) _ _ _ _ _ _ _)]
        rfl
    | leave =>
      have lg := lgone_ok (r := r) hk ns R.line h p (by omega)
      have h4 := (keep_hold p h).wr (l' := without r R.line p) (by simp only [Rm.without, renewed_len, List.length_map])
      have kl : kdP .leave = .leave := rfl
      refine ⟨_, _, some (.int (spotOf R.line p : Nat)), none, none, none, ?_, h4⟩
      have s6 : s__law_do_6 (doR r R (.pers .leave p) ns R.came R.served (some (.int (spotOf R.line p : Nat))) none none none) m = .next (doR r R (.pers .leave p) (keepR p ns R.line) R.came R.served (some (.int (spotOf R.line p : Nat))) none none none) (wr m (keepR p ns R.line) (without r R.line p)) := by
        unfold s__law_do_6
        wp_walk using kd_ix, t_leave, kk, kl, e1, lg
      rw [seq_next (skip2 R (.pers .leave p) (by simp [kd, kdP]) _ _ _ _ _ _ _), seq_next (skip3 R (.pers .leave p) (by simp [kd, kdP]) _ _ _ _ _ _ _), seq_next (skip4 R (.pers .leave p) (by simp [kd, kdP]) _ _ _ _ _ _ _), seq_next (skip5 R (.pers .leave p) (by simp [kd, kdP]) _ _ _ _ _ _ _), seq_next s6, seq_next (skip7 R (.pers .leave p) (by simp [kd, kdP]) _ _ _ _ _ _ _), seq_next (skip8 R (.pers .leave p) (by simp [kd, kdP]) _ _ _ _ _ _ _)]
      rfl
    | back =>
      obtain ⟨ns', m', lb, h4, hsv⟩ := lback_ok (r := r) hk ns R.line h (spotOf R.line p) hi R.came R.served (by omega)
      have kl : kdP .back = .back := rfl
      have eo : doRaw r R (.pers .back p) = bringBack r ⟨R.line, R.came, R.served⟩ (spotOf R.line p) := rfl
      refine ⟨ns', m', some (.int (spotOf R.line p : Nat)), none, none, none, ?_, by rw [eo]; exact h4⟩
      rw [eo, hsv]
      have s7 : s__law_do_7 (doR r R (.pers .back p) ns R.came R.served (some (.int (spotOf R.line p : Nat))) none none none) m = .next (doR r R (.pers .back p) ns' (bringBack r ⟨R.line, R.came, R.served⟩ (spotOf R.line p)).came R.served (some (.int (spotOf R.line p : Nat))) none none none) m' := by
        unfold s__law_do_7
        wp_walk using kd_ix, t_back, kk, kl, lb
      rw [seq_next (skip2 R (.pers .back p) (by simp [kd, kdP]) _ _ _ _ _ _ _), seq_next (skip3 R (.pers .back p) (by simp [kd, kdP]) _ _ _ _ _ _ _), seq_next (skip4 R (.pers .back p) (by simp [kd, kdP]) _ _ _ _ _ _ _), seq_next (skip5 R (.pers .back p) (by simp [kd, kdP]) _ _ _ _ _ _ _), seq_next (skip6 R (.pers .back p) (by simp [kd, kdP]) _ _ _ _ _ _ _), seq_next s7, seq_next (skip8 R (.pers .back p) (by simp [kd, kdP]) _ _ _ _ _ _ _)]
    | out =>
      have sh := set_how h en el .out
      have ea : asHow R.line (spotOf R.line p) .out = R.line.set (spotOf R.line p) ⟨y.p, .out, y.ns⟩ := by rw [asHow_set .out el]; rfl
      have h4 := h.wr (l' := asHow R.line (spotOf R.line p) .out) (asHow_len _ _ _)
      rw [← ea] at sh
      have kl : kdP .out = .out := rfl
      refine ⟨ns, _, some (.int (spotOf R.line p : Nat)), none, none, none, ?_, h4⟩
      have s4 : s__law_do_4 (doR r R (.pers .out p) ns R.came R.served (some (.int (spotOf R.line p : Nat))) none none none) m = .next (doR r R (.pers .out p) ns R.came R.served (some (.int (spotOf R.line p : Nat))) none none none) (wr m ns (asHow R.line (spotOf R.line p) .out)) := by
        have sh' : setM m (.ref n) (.int 1) (.str "out") = some (wr m ns (asHow R.line (spotOf R.line p) .out)) := sh
        unfold s__law_do_4
        wp_walk using kd_ix, t_out, kk, kl, e0, sh'
      rw [seq_next (skip2 R (.pers .out p) (by simp [kd, kdP]) _ _ _ _ _ _ _), seq_next (skip3 R (.pers .out p) (by simp [kd, kdP]) _ _ _ _ _ _ _), seq_next s4, seq_next (skip5 R (.pers .out p) (by simp [kd, kdP]) _ _ _ _ _ _ _), seq_next (skip6 R (.pers .out p) (by simp [kd, kdP]) _ _ _ _ _ _ _), seq_next (skip7 R (.pers .out p) (by simp [kd, kdP]) _ _ _ _ _ _ _), seq_next (skip8 R (.pers .out p) (by simp [kd, kdP]) _ _ _ _ _ _ _)]
      rfl
    | vanish =>
      have sh := set_how h en el .away
      have h3 := h.wr (l' := R.line.set (spotOf R.line p) ⟨y.p, .away, y.ns⟩) (by simp)
      have el2 : (R.line.set (spotOf R.line p) (⟨y.p, .away, y.ns⟩ : Rm.Row))[spotOf R.line p]? = some ⟨y.p, .away, y.ns⟩ := List.getElem?_set_self hi
      have ec := h3.2.2 _ n _ en el2
      have sn : setM (wr m ns (R.line.set (spotOf R.line p) ⟨y.p, .away, y.ns⟩)) (.ref n) (.int 2) (.tup []) = some (wr m ns (asHow R.line (spotOf R.line p) .away)) := by
        simp only [setM, ec]
        have ws := wr_set (m := m) (l := R.line.set (spotOf R.line p) ⟨y.p, .away, y.ns⟩) (x := ⟨y.p, .away, []⟩) h.2.1 (by simp [h.1]) en
        rw [List.set_set] at ws
        rw [asHow_set .away el]
        exact congrArg some ws
      have h4 := h.wr (l' := asHow R.line (spotOf R.line p) .away) (asHow_len _ _ _)
      have kl : kdP .vanish = .vanish := rfl
      refine ⟨ns, _, some (.int (spotOf R.line p : Nat)), none, none, none, ?_, h4⟩
      have s5 : s__law_do_5 (doR r R (.pers .vanish p) ns R.came R.served (some (.int (spotOf R.line p : Nat))) none none none) m = .next (doR r R (.pers .vanish p) ns R.came R.served (some (.int (spotOf R.line p : Nat))) none none none) (wr m ns (asHow R.line (spotOf R.line p) .away)) := by
        have sh' : setM m (.ref n) (.int 1) (.str "away") = some (wr m ns (R.line.set (spotOf R.line p) ⟨y.p, .away, y.ns⟩)) := sh
        unfold s__law_do_5
        wp_walk using kd_ix, t_vanish, kk, kl, sAsgM, gmT, gmsCons, gmsNil, gmSub, e0, sh', sn
      rw [seq_next (skip2 R (.pers .vanish p) (by simp [kd, kdP]) _ _ _ _ _ _ _), seq_next (skip3 R (.pers .vanish p) (by simp [kd, kdP]) _ _ _ _ _ _ _), seq_next (skip4 R (.pers .vanish p) (by simp [kd, kdP]) _ _ _ _ _ _ _), seq_next s5, seq_next (skip6 R (.pers .vanish p) (by simp [kd, kdP]) _ _ _ _ _ _ _), seq_next (skip7 R (.pers .vanish p) (by simp [kd, kdP]) _ _ _ _ _ _ _), seq_next (skip8 R (.pers .vanish p) (by simp [kd, kdP]) _ _ _ _ _ _ _)]
      rfl
theorem ldo_ok (hk : 0 ≤ r.k) (R : Rm.Room) (e : Ev) (hn : named R e) (hl : R.line.length < 9000) (hs : R.served.length < 100000) : r__law_do [r.w, roomW R, e.w] m = .ok (roomW (doEv r R e)) m := by
  obtain ⟨k, e0, hk6⟩ := ldo_start (r := r) R e hn (by omega)
  have hh := copies_hold [] R.line
  simp only [List.nil_append, List.length_nil] at hh
  obtain ⟨ns', m', a6, a7, a8, a9, e1, h1⟩ := ldo_mid (r := r) hk R e hn _ hh hl hs k hk6 (sSeq s__law_do_9 s__law_do_10)
  have dl := doRaw_len r R e
  obtain ⟨w, e2, hf⟩ := ldo_end (r := r) R e ns' _ h1 (doRaw r R e).came (doRaw r R e).served a6 a7 a8 a9 (by omega)
  have sq : ∀ (f g h : DS) (a : Rho) (m : Mem), sSeq f (sSeq g h) a m = sSeq (sSeq f g) h a m := fun f g h a m => by
    simp only [sSeq]
    cases f a m <;> rfl
  unfold r__law_do
  refine pw_ok (w := w) (m1 := m') (gRRE r R e) ?_ hf
  unfold d__law_do
  rw [runD]
  have st : startW 10 [r.w, roomW R, e.w] = [some r.w, some (roomW R), some e.w, none, none, none, none, none, none, none] := by rw [start3]; rfl
  rw [st, sq, seq_next e0, e1, e2]
end
end L

namespace L
open PySem PySem.Spec PyProof.Rows L2 Dn Rm
local macro_rules | `(tactic| wp_walk using $ts,*) => `(tactic| simp only [runD, start0, start1, start2, start3, start4, start5, sSeq, sSet, sRet, sExpr, sIf, sNil, sCont, sRetN, sPass, sBrk, sBad, sAsg, sSub, sFor, sPar, sAug, sPut, sPutA, eVar, eC, eBin, eFn, eCall, eAnd, eOr, eNot, eIf, eTup, eLst, eLstM, eIsi, eFz, eNw, aComp, iSeq, iEnumW, eFld, eMeth, eMake, eSl, oNone, oSome, eRev, eIdx, eChain, eApp, eFrz, dTest, dAnd, dOr, dNot, aNil, aCons, aStar, Dn.R.bind, R.thenS, List.length_cons, List.length_nil, List.length_map, List.replicate, List.set, List.getElem?_cons_zero, List.getElem?_cons_succ, List.cons_append, List.nil_append, Nat.reduceAdd, Nat.reduceSub, Nat.zero_add, if_true, if_false, Bool.false_eq_true, Bool.not_true, Bool.not_false, decide_true, decide_false, addW_i, subW_i, addI_i, intW_i, gtW_i, geW_i, ltW_i, leW_i, tupleW_l, tupleW_t, lenW_t, lenW_l, eqM_int, neM_int, inM_ints, inM_intsL, ixM_t, ixM_l, lstOf, seqOf, trkOf, wipeR, Nat.reduceLeDiff, rule0, rule1, rule2, rule3, rule4, rule5, rule6, gN, gT, gsCons, gsNil, Option.bind, GoesD, four_lt, and_self, Bool.and_true, Bool.true_and, Bool.and_false, Bool.false_and, Bool.or_true, Bool.true_or, Bool.or_false, Bool.false_or, $[$ts:term],*])
section
variable {m : Mem} {r : Rule}
theorem gRR (r : Rule) (R : Rm.Room) : gWs [r.w, roomW R] = true := by simp only [gWs_cons, g_rule, g_room, gWs_nil, Bool.and_self]
theorem levents_ok (R : Rm.Room) (hl : R.line.length < 1000) : r__law_events [r.w, roomW R] m = .ok (.lst ((evsS r R).map Ev.w)) m := by
  have rw0 : ∀ m, ixM m (roomW R) (.int 0) = some (.lst (R.line.map rowS)) := fun _ => rfl
  have i0 : ∀ (x : Rm.Row) mm, ixM mm (rowS x) (.int 0) = some (.int x.p) := fun _ _ => rfl
  have step : ∀ (x : Pw) (xs : List Ev) (a4 a5 : Option W), xs.length ≤ 100000 → b__law_events_0 [some r.w, some (roomW R), some (.ref 0), some (.str x.s), a4, a5] [.lst (xs.map Ev.w)] = .next [some r.w, some (roomW R), some (.ref 0), some (.str x.s), a4, a5] [.lst ((xs ++ R.line.map fun y => Ev.pers x y.p).map Ev.w)] := fun x xs a4 a5 hx => by
    have c1 : ∀ mm, compL (gN 4) dYes (eTup (aCons (eVar 3) (aCons (eBin ixM (eVar 4) (eC (.int 0))) aNil))) [4] (R.line.map rowS) [some r.w, some (roomW R), some (.ref 0), some (.str x.s), a4, a5] mm = .ok ((R.line.map fun y => Ev.pers x y.p).map Ev.w) mm := fun mm => by
      rw [compL_all rowS (fun y => (Ev.pers x y.p).w) (fun y => [some r.w, some (roomW R), some (.ref 0), some (.str x.s), some (rowS y), a5]) _ (fun _ _ => rfl) fun y _ => by
        wp_walk using i0
        rfl, List.map_map]
      rfl
    have hl2 : xs.length + R.line.length ≤ 16777216 := by omega
    unfold b__law_events_0
    wp_walk using eExt, rw0, c1, hl2, List.map_append
  have c0 : compL (gN 4) dYes (eTup (aCons (eC (.str "back")) (aCons (eBin ixM (eVar 4) (eC (.int 0))) aNil))) [4] (R.line.map rowS) [some r.w, some (roomW R), none, none, none, none] [] = .ok ((R.line.map fun x => Ev.pers .back x.p).map Ev.w) [] := by
    rw [compL_all rowS (fun x => (Ev.pers .back x.p).w) (fun x => [some r.w, some (roomW R), none, none, some (rowS x), none]) _ (fun _ _ => rfl) fun x _ => by
      wp_walk using i0
      rfl, List.map_map]
    rfl
  have b1 := step .leave (R.line.map fun x => Ev.pers .back x.p)
  have b2 := step .lett (R.line.map (fun x => Ev.pers .back x.p) ++ R.line.map fun x => Ev.pers .leave x.p)
  have b3 := step .out (R.line.map (fun x => Ev.pers .back x.p) ++ R.line.map (fun x => Ev.pers .leave x.p) ++ R.line.map fun x => Ev.pers .lett x.p)
  have b4 := step .vanish (R.line.map (fun x => Ev.pers .back x.p) ++ R.line.map (fun x => Ev.pers .leave x.p) ++ R.line.map (fun x => Ev.pers .lett x.p) ++ R.line.map fun x => Ev.pers .out x.p)
  have l1 : (R.line.map fun x : Rm.Row => Ev.pers .back x.p).length ≤ 100000 := by simp; omega
  have l2 : (R.line.map (fun x : Rm.Row => Ev.pers .back x.p) ++ R.line.map fun x : Rm.Row => Ev.pers .leave x.p).length ≤ 100000 := by simp; omega
  have l3 : (R.line.map (fun x : Rm.Row => Ev.pers .back x.p) ++ R.line.map (fun x : Rm.Row => Ev.pers .leave x.p) ++ R.line.map fun x : Rm.Row => Ev.pers .lett x.p).length ≤ 100000 := by simp; omega
  have l4 : (R.line.map (fun x : Rm.Row => Ev.pers .back x.p) ++ R.line.map (fun x : Rm.Row => Ev.pers .leave x.p) ++ R.line.map (fun x : Rm.Row => Ev.pers .lett x.p) ++ R.line.map fun x : Rm.Row => Ev.pers .out x.p).length ≤ 100000 := by simp; omega
  have lp : loop (gN 3) b__law_events_0 [.str "leave", .str "let", .str "out", .str "vanish"] [some r.w, some (roomW R), some (.ref 0), none, none, none] [.lst ((R.line.map fun x => Ev.pers .back x.p).map Ev.w)] = .next [some r.w, some (roomW R), some (.ref 0), some (.str Pw.vanish.s), none, none] [.lst ((R.line.map (fun x => Ev.pers .back x.p) ++ R.line.map (fun x => Ev.pers .leave x.p) ++ R.line.map (fun x => Ev.pers .lett x.p) ++ R.line.map (fun x => Ev.pers .out x.p) ++ R.line.map fun x => Ev.pers .vanish x.p).map Ev.w)] := by
    show loop (gN 3) b__law_events_0 [.str Pw.leave.s, .str Pw.lett.s, .str Pw.out.s, .str Pw.vanish.s] _ _ = _
    simp only [loop, gN, List.set]
    rw [b1 none none l1]
    simp only [loop, gN, List.set]
    rw [b2 none none l2]
    simp only [loop, gN, List.set]
    rw [b3 none none l3]
    simp only [loop, gN, List.set]
    rw [b4 none none l4]
  have tk : ∀ (xs : List Ev), xs.length ≤ 100000 → addW [.lst (xs.map Ev.w)] (.ref 0) (.lst [.tup [.str "come"], .tup [.str "door"]]) = some (.lst ((xs ++ [Ev.come, Ev.door]).map Ev.w)) := fun xs hx => by
    show addL [.lst (xs.map Ev.w)] (.ref 0) (.lst [.tup [.str "come"], .tup [.str "door"]]) = _
    simp only [addL, trkOf, List.getElem?_cons_zero]
    rw [if_pos (by simp; omega), List.map_append]
    rfl
  have tk2 := tk (R.line.map (fun x => Ev.pers .back x.p) ++ R.line.map (fun x => Ev.pers .leave x.p) ++ R.line.map (fun x => Ev.pers .lett x.p) ++ R.line.map (fun x => Ev.pers .out x.p) ++ R.line.map fun x => Ev.pers .vanish x.p) (by simp; omega)
  have c9 : ∀ (xs : List Ev) (mm : Mem) (a2 a3 a4 a5 : Option W), compL (gN 5) (dTest (eCall 3 r__law_can (aCons (eVar 0) (aCons (eVar 1) (aCons (eVar 5) aNil))))) (eVar 5) [5] (xs.map Ev.w) [some r.w, some (roomW R), a2, a3, a4, a5] mm = .ok ((xs.filter (canBe r R)).map Ev.w) mm := fun xs mm a2 a3 a4 a5 =>
    compL_map Ev.w (canBe r R) Ev.w (fun e => [some r.w, some (roomW R), a2, a3, a4, some e.w]) xs (fun _ _ => rfl) (fun e _ => by wp_walk using lcan_ok R e (by omega)) fun _ _ _ => rfl
  unfold r__law_events
  refine pw_g (m1 := [.lst ((R.line.map (fun x => Ev.pers .back x.p) ++ R.line.map (fun x => Ev.pers .leave x.p) ++ R.line.map (fun x => Ev.pers .lett x.p) ++ R.line.map (fun x => Ev.pers .out x.p) ++ R.line.map fun x => Ev.pers .vanish x.p).map Ev.w)]) (gRR r R) ?_ (by rw [gW_lst]; exact gWs_map g_ev _)
  unfold d__law_events s__law_events_0 s__law_events_1 s__law_events_2
  wp_walk using rw0, c0, lp, tk2, c9, aFn, sorted_evs
  rfl
end
end L

namespace L
open PySem PySem.Spec PyProof.Rows L2 Dn Rm
local macro_rules | `(tactic| walk_at "den") => `(tactic| simp (disch := omega) only [runD, start0, start1, start2, start3, sSeq, sSet, sRet, sExpr, sIf, sAsg, sSub, sFor, sPar, eVar, eC, eBin, eFn, eCall, eAnd, eOr, eNot, eIf, eTup, eLst, eIsi, eDget, eNeg, dTest, dAnd, dOr, dNot, dYes, aNil, aCons, aStar, Dn.R.bind, R.thenS, List.length_cons, List.length_nil, List.replicate, List.set, List.getElem?_cons_zero, List.getElem?_cons_succ, List.cons_append, List.nil_append, Nat.reduceAdd, Nat.reduceSub, iOp, if_pos, if_neg, Nat.zero_add, mulW_i, modW_i, fdivW_i, addW_i, intW_i, gtW_i, geW_i])
def mixI (c k : Int) : Int := ((c % 2147483647) * (48271 + 2 * k * k) + 69621 * k + 11) % 2147483647 * 69621 % 2147483629
theorem mixed_ok (c k : Int) (m : Mem) (h0 : 0 ≤ k) (h1 : k < 1000000) : r__law_mixed [.int c, .int k] m = .ok (.int (mixI c k)) m := by
  unfold r__law_mixed
  refine pw_g (m1 := []) rfl ?_ rfl
  unfold d__law_mixed s__law_mixed_0 s__law_mixed_1
  walk_at "den"
  rfl
theorem mixI_lt (c k : Int) : 0 ≤ mixI c k ∧ mixI c k < 2147483629 := by
  unfold mixI
  exact ⟨Int.emod_nonneg _ (by decide), Int.emod_lt_of_pos _ (by decide)⟩
/-- the law's own state of draws: ls what is left of the great cells, cs the cells, at the turn -/
abbrev kS (x : String) : Key := .inr (Str.ofString x)
def dSl (cs : List Int) (i : Int) (x : W) : List (Key × W) := [(kS "cells", .lst (cs.map .int)), (kS "lefts", .ref 0), (kS "at", .int i), (kS "room", x)]
def dS (cs : List Int) (i : Int) (x : W) : Cell := .dct (dSl cs i x)
theorem g_at (cs : List Int) (i : Int) (x : W) : valW (dSl cs i x) (.inr (Str.ofString "at")) = some (.int i) := rfl
theorem g_cells (cs : List Int) (i : Int) (x : W) : valW (dSl cs i x) (.inr (Str.ofString "cells")) = some (.lst (cs.map .int)) := rfl
theorem g_lefts (cs : List Int) (i : Int) (x : W) : valW (dSl cs i x) (.inr (Str.ofString "lefts")) = some (.ref 0) := rfl
theorem p_at (cs : List Int) (i j : Int) (x : W) : putW (dSl cs i x) (.inr (Str.ofString "at")) (.int j) = dSl cs j x := rfl
theorem dSl_len (cs : List Int) (i : Int) (x : W) : (dSl cs i x).length = 4 := rfl
theorem keyW_s (x : Str) : keyW (.str x) = some (.inr x) := rfl
theorem at_in (ls : List Int) (j : Int) (h0 : 0 ≤ j) (h1 : j < ls.length) : ∃ v, atI (ls.map W.int) j = some (.int v) := by
  obtain ⟨n, rfl⟩ : ∃ n : Nat, j = n := ⟨j.toNat, by omega⟩
  have h2 : n < ls.length := by omega
  refine ⟨ls[n], atI_nat ?_⟩
  rw [List.getElem?_map, List.getElem?_eq_getElem h2]
  rfl
theorem ixN_in (n : Nat) (j : Int) (h0 : 0 ≤ j) (h1 : j < n) : ixN n j = some j.toNat := by
  unfold ixN
  rw [if_pos h0, if_pos h1]
theorem okWs_ints (n : Nat) : ∀ ns : List Int, okWs n (ns.map .int) = true
  | [] => rfl
  | _ :: ns => by rw [List.map_cons, okWs, okWs_ints n ns]; rfl
theorem pow18 {m : Mem} : powW m (.int 10) (.int 18) = some (.int 1000000000000000000) := by
  simp only [powW, iOp]
  rw [if_pos (by decide)]
  rfl
theorem lefts_ok (r : Rho) (m : Mem) (h : r.length = 3) : ∀ ns : List Int, ∃ ls : List Int, ls.length = ns.length ∧
    compL (gN 2) dYes (eIf (dTest (eBin geW (eVar 2) (eBin powW (eC (W.int 10)) (eC (W.int 18))))) (eVar 2) (eC (W.int 0))) [2] (ns.map .int) r m = .ok (ls.map .int) m
  | [] => ⟨[], rfl, rfl⟩
  | n :: ns => by
    obtain ⟨ls, h1, h2⟩ := lefts_ok r m h ns
    match r, h with
    | [a, b, c], _ =>
      have e : compL (gN 2) dYes (eIf (dTest (eBin geW (eVar 2) (eBin powW (eC (W.int 10)) (eC (W.int 18))))) (eVar 2) (eC (W.int 0))) [2] ((n :: ns).map .int) [a, b, c] m
          = (R.ok (W.int (if 1000000000000000000 ≤ n then n else 0)) m).bind fun y m2 => (compL (gN 2) dYes (eIf (dTest (eBin geW (eVar 2) (eBin powW (eC (W.int 10)) (eC (W.int 18))))) (eVar 2) (eC (W.int 0))) [2] (ns.map .int) [a, b, c] m2).bind fun ys m3 => .ok (y :: ys) m3 := by
        rw [List.map_cons, compL]
        simp only [gN, dYes, wipeR, eIf, dTest, eBin, eVar, eC, List.set, List.getElem?_cons_zero, List.getElem?_cons_succ, Dn.R.bind, geW_i, pow18]
        by_cases hn : (1000000000000000000 : Int) ≤ n
        · simp only [hn, decide_true, if_true, Dn.R.bind]
        · simp only [hn, decide_false, Bool.false_eq_true, if_false, Dn.R.bind]
      rw [e]
      simp only [Dn.R.bind, h2]
      exact ⟨(if 1000000000000000000 ≤ n then n else 0) :: ls, by simp [h1], rfl⟩
theorem begin_ok (ns : List Int) (h : ns.length ≤ 63) : ∃ cs ls : List Int, 0 < cs.length ∧ cs.length ≤ 63 ∧ ls.length = cs.length ∧ r__law_begin [.old (ns.map .int)] [] = .ok (.ref 1) [.lst (ls.map .int), dS cs 0 (.int 0)] := by
  have fin : ∀ (cs : List Int) (r0 : Option W) (m : Mem), ∃ ls : List Int, ls.length = cs.length ∧ (eDict [(Str.ofString "cells", eVar 1), (Str.ofString "lefts", eNw (aComp (iSeq (eVar 1)) (gN 2) dYes (eIf (dTest (eBin geW (eVar 2) (eBin powW (eC (W.int 10)) (eC (W.int 18))))) (eVar 2) (eC (W.int 0))) [2])), (Str.ofString "at", eC (W.int 0)), (Str.ofString "room", eC (W.int 0))] [r0, some (.lst (cs.map .int)), none] [] = .ok (.ref 1) [.lst (ls.map .int), dS cs 0 (.int 0)]) := fun cs r0 m => by
    obtain ⟨ls, h1, h2⟩ := lefts_ok [r0, some (.lst (cs.map .int)), none] [] rfl cs
    refine ⟨ls, h1, ?_⟩
    simp only [eDict, pairsD, eVar, List.getElem?_cons_succ, List.getElem?_cons_zero, Dn.R.bind, eNw, aComp, iSeq, h2, eC, List.length_nil, List.nil_append]
    rfl
  cases ns with
  | nil =>
    obtain ⟨ls, h1, h2⟩ := fin [0] (some (.old [])) []
    refine ⟨[0], ls, by simp, by simp, h1, ?_⟩
    unfold r__law_begin d__law_begin s__law_begin_0 s__law_begin_1
    have e : neM [] (W.old (List.map W.int [])) (W.lst []) = some (.bl false) := rfl
    walk_at "den"
    simp only [e, Dn.R.bind, Bool.false_eq_true, if_false]
    have h2' : eDict _ [some (.old []), some (.lst [.int 0]), none] [] = _ := h2
    simp only [List.map_nil]
    rw [h2']
  | cons n ns =>
    obtain ⟨ls, h1, h2⟩ := fin (n :: ns) (some (.old ((n :: ns).map .int))) []
    refine ⟨n :: ns, ls, by simp, h, h1, ?_⟩
    unfold r__law_begin d__law_begin s__law_begin_0 s__law_begin_1
    have e : neM [] (W.old (List.map W.int (n :: ns))) (W.lst []) = some (.bl true) := by
      simp only [neM, rsv, okW, okWs_ints, okWs, Bool.and_self, if_true]
      rfl
    walk_at "den"
    simp only [e, Dn.R.bind, if_true, eFz, aFn, aCons, eVar, List.getElem?_cons_zero, aNil, listW, seqOf]
    rw [h2]
/-! ### a draw -/
theorem draw_ok (cs ls : List Int) (i k : Int) (x : W) (rest : Mem) (hc : 0 < cs.length) (hc2 : cs.length ≤ 63) (hl : ls.length = cs.length) (hi : 0 ≤ i) (hi2 : i < 900000) (hk : 0 < k) (hk2 : k < 1000000) :
    ∃ (v : Int) (ls' : List Int), 0 ≤ v ∧ v < k ∧ ls'.length = cs.length ∧ r__law_draw [.ref 1, .int k] (.lst (ls.map .int) :: dS cs i x :: rest) = .ok (.int v) (.lst (ls'.map .int) :: dS cs (i + 1) x :: rest) := by
  have hp0 := Int.emod_nonneg i (show ((cs.length : Nat) : Int) ≠ 0 by omega)
  have hp1 := Int.emod_lt_of_pos i (show (0 : Int) < ((cs.length : Nat) : Int) by omega)
  obtain ⟨left, e1⟩ := at_in ls (i % cs.length) hp0 (by omega)
  obtain ⟨cell, e2⟩ := at_in cs (i % cs.length) hp0 (by omega)
  have e3 := ixN_in ls.length (i % cs.length) hp0 (by omega)
  have m1 := fun c : Int => mixed_ok c i (.lst (ls.map .int) :: .dct (dSl cs (i + 1) x) :: rest) hi (by omega)
  have m2 := fun c : Int => mixed_ok c (40 + i) (.lst (ls.map .int) :: .dct (dSl cs (i + 1) x) :: rest) (by omega) (by omega)
  have m3 := fun c : Int => mixed_ok c (7 + i) (.lst (ls.map .int) :: .dct (dSl cs (i + 1) x) :: rest) (by omega) (by omega)
  have b1 := fun c k : Int => (mixI_lt c k).1
  have b2 := fun c k : Int => (mixI_lt c k).2
  have mm : ∀ a b : Int, mulW (.lst (ls.map .int) :: .dct (dSl cs (i + 1) x) :: rest) (.int (mixI a b)) (.int 2147483647) = some (.int (mixI a b * 2147483647)) := fun a b => mulW_i (by have := b1 a b; omega) (by have := b2 a b; omega)
  have hn : (cs.length : Int) ≠ 0 := by omega
  have md : ∀ m : Mem, modW m (.int i) (.int (cs.length : Nat)) = some (.int (i % cs.length)) := fun m => modW_i (by omega)
  by_cases hg : 0 < left
  · refine ⟨left % k, ls.set (i % cs.length).toNat (left / k), Int.emod_nonneg _ (by omega), Int.emod_lt_of_pos _ hk, by simp [hl], ?_⟩
    unfold r__law_draw d__law_draw s__law_draw_0 s__law_draw_1 s__law_draw_2 s__law_draw_3 s__law_draw_4 s__law_draw_5 s__law_draw_6 dS
    simp (disch := omega) only [runD, start2, sSeq, sSet, sRet, sIf, sNil, eVar, eC, eBin, eFn, eCall, eDget, dTest, aNil, aCons, Dn.R.bind, R.thenS, List.length_cons, List.length_nil, List.length_map, List.replicate, List.set, List.getElem?_cons_zero, List.getElem?_cons_succ, Nat.reduceAdd, Nat.zero_add, if_true, addW_i, intW_i, gtW_i, keyW_s, g_at, g_cells, g_lefts, p_at, sSub, setM, dSl_len, show (4 < 16777216) = True from by decide, lenW, seqOf, Option.map, md, ixM, e1, e2, hg, decide_true, fdivW_i, modW_i, e3]
    rw [List.map_set]
  · refine ⟨(mixI (mixI cell i) (40 + i) * 2147483647 + mixI (mixI (mixI cell i) (40 + i)) (7 + i)) / 64 % k, ls, Int.emod_nonneg _ (by omega), Int.emod_lt_of_pos _ hk, hl, ?_⟩
    · unfold r__law_draw d__law_draw s__law_draw_0 s__law_draw_1 s__law_draw_2 s__law_draw_3 s__law_draw_4 s__law_draw_5 s__law_draw_6 dS
      simp (disch := omega) only [runD, start2, sSeq, sSet, sRet, sIf, sNil, eVar, eC, eBin, eFn, eCall, eDget, dTest, aNil, aCons, Dn.R.bind, R.thenS, List.length_cons, List.length_nil, List.length_map, List.replicate, List.set, List.getElem?_cons_zero, List.getElem?_cons_succ, Nat.reduceAdd, Nat.zero_add, if_true, addW_i, intW_i, gtW_i, keyW_s, g_at, g_cells, g_lefts, p_at, sSub, setM, dSl_len, show (4 < 16777216) = True from by decide, lenW, seqOf, Option.map, md, ixM, e1, e2, hg, decide_false, Bool.false_eq_true, if_false, m1, m2, m3, mm, fdivW_i, modW_i]
end L

namespace L
open PySem PySem.Spec PyProof.Rows L2 Dn Rm
local macro_rules | `(tactic| wp_walk using $ts,*) => `(tactic| simp only [runD, start0, start1, start2, start3, start4, start5, sSeq, sSet, sRet, sExpr, sIf, sNil, sCont, sRetN, sPass, sBrk, sBad, sAsg, sSub, sFor, sPar, sAug, sPut, sPutA, eVar, eC, eBin, eFn, eCall, eAnd, eOr, eNot, eIf, eTup, eLst, eLstM, eIsi, eFz, eNw, aComp, iSeq, iEnumW, eFld, eMeth, eMake, eSl, oNone, oSome, eRev, eIdx, eChain, eApp, eFrz, dTest, dAnd, dOr, dNot, aNil, aCons, aStar, Dn.R.bind, R.thenS, List.length_cons, List.length_nil, List.length_map, List.replicate, List.set, List.getElem?_cons_zero, List.getElem?_cons_succ, List.cons_append, List.nil_append, Nat.reduceAdd, Nat.reduceSub, Nat.zero_add, if_true, if_false, Bool.false_eq_true, Bool.not_true, Bool.not_false, decide_true, decide_false, addW_i, subW_i, addI_i, intW_i, gtW_i, geW_i, ltW_i, leW_i, tupleW_l, tupleW_t, lenW_t, lenW_l, eqM_int, neM_int, inM_ints, inM_intsL, ixM_t, ixM_l, lstOf, seqOf, trkOf, wipeR, Nat.reduceLeDiff, rule0, rule1, rule2, rule3, rule4, rule5, rule6, gN, gT, gsCons, gsNil, Option.bind, GoesD, four_lt, and_self, Bool.and_true, Bool.true_and, Bool.and_false, Bool.false_and, Bool.or_true, Bool.true_or, Bool.or_false, Bool.false_or, $[$ts:term],*])
section
/-- the memory while something is drawn -/
def stM (cs ls : List Int) (i : Int) (rest : Mem) : Mem := .lst (ls.map .int) :: dS cs i (.int 0) :: rest
structure StOk (cs ls : List Int) (i : Int) : Prop where
  c0 : 0 < cs.length
  c63 : cs.length ≤ 63
  ll : ls.length = cs.length
  i0 : 0 ≤ i
theorem draw_st {cs ls : List Int} {i : Int} (h : StOk cs ls i) (hi : i < 800000) (k : Int) (hk : 0 < k) (hk2 : k < 1000000) (rest : Mem) :
    ∃ (v : Int) (ls' : List Int), 0 ≤ v ∧ v < k ∧ StOk cs ls' (i + 1) ∧ r__law_draw [.ref 1, .int k] (stM cs ls i rest) = .ok (.int v) (stM cs ls' (i + 1) rest) := by
  obtain ⟨v, l1, a1, b1, c1, e1⟩ := draw_ok cs ls i k (.int 0) rest h.c0 h.c63 h.ll h.i0 (by omega) hk hk2
  exact ⟨v, l1, a1, b1, ⟨h.c0, h.c63, c1, by have := h.i0; omega⟩, e1⟩
theorem two_of (a b : Str) (f : Bool → Str) (ht : f true = a) (hf : f false = b) (v : Int) (h0 : 0 ≤ v) (h1 : v < 2) : ∃ k : Bool, atI [W.str a, W.str b] v = some (.str (f k)) := by
  have : v = 0 ∨ v = 1 := by omega
  rcases this with rfl | rfl
  · exact ⟨true, by rw [ht]; exact atI_get (n := 0) rfl rfl⟩
  · exact ⟨false, by rw [hf]; exact atI_get (n := 1) rfl rfl⟩
theorem three_of (a b : Str) (f : Bool → Str) (hf : f false = a) (ht : f true = b) (v : Int) (h0 : 0 ≤ v) (h1 : v < 3) : ∃ k : Bool, atI [W.str a, W.str b, W.str b] v = some (.str (f k)) := by
  have : v = 0 ∨ v = 1 ∨ v = 2 := by omega
  rcases this with rfl | rfl | rfl
  · exact ⟨false, by rw [hf]; exact atI_get (n := 0) rfl rfl⟩
  · exact ⟨true, by rw [ht]; exact atI_get (n := 1) rfl rfl⟩
  · exact ⟨true, by rw [ht]; exact atI_get (n := 2) rfl rfl⟩
theorem back_of (v : Int) (h0 : 0 ≤ v) (h1 : v < 3) : ∃ k : Bk, atI [W.str "asks", W.str "old", W.str "tells"] v = some (.str k.s) := by
  have : v = 0 ∨ v = 1 ∨ v = 2 := by omega
  rcases this with rfl | rfl | rfl
  · exact ⟨.asks, atI_get (n := 0) rfl rfl⟩
  · exact ⟨.old, atI_get (n := 1) rfl rfl⟩
  · exact ⟨.tells, atI_get (n := 2) rfl rfl⟩
theorem lrule_ok {cs ls : List Int} {i : Int} (h : StOk cs ls i) (hi : i < 700000) (rest : Mem) :
    ∃ (r : Rule) (ls' : List Int), r.Ok ∧ StOk cs ls' (i + 7) ∧ r__law_rule [.ref 1] (stM cs ls i rest) = .ok r.w (stM cs ls' (i + 7) rest) := by
  obtain ⟨v1, l1, a1, b1, h1, e1⟩ := draw_st h (by omega) 3 (by omega) (by omega) rest
  obtain ⟨v2, l2, a2, b2, h2, e2⟩ := draw_st h1 (by omega) 2 (by omega) (by omega) rest
  obtain ⟨v3, l3, a3, b3, h3, e3⟩ := draw_st h2 (by omega) 3 (by omega) (by omega) rest
  obtain ⟨v4, l4, a4, b4, h4, e4⟩ := draw_st h3 (by omega) 3 (by omega) (by omega) rest
  obtain ⟨v5, l5, a5, b5, h5, e5⟩ := draw_st h4 (by omega) 3 (by omega) (by omega) rest
  obtain ⟨v6, l6, a6, b6, h6, e6⟩ := draw_st h5 (by omega) (1 + v1 + 1) (by omega) (by omega) rest
  obtain ⟨v7, l7, a7, b7, h7, e7⟩ := draw_st h6 (by omega) 2 (by omega) (by omega) rest
  obtain ⟨k2, p2⟩ := two_of "line" "seen" askS rfl rfl v2 a2 b2
  obtain ⟨k3, p3⟩ := three_of "none" "on" fillS rfl rfl v3 a3 b3
  obtain ⟨k4, p4⟩ := back_of v4 a4 b4
  obtain ⟨k5, p5⟩ := three_of "quiet" "told" letS rfl rfl v5 a5 b5
  obtain ⟨k7, p7⟩ := two_of "asks" "claims" lostS rfl rfl v7 a7 b7
  have e : i + 1 + 1 + 1 + 1 + 1 + 1 + 1 = i + 7 := by omega
  refine ⟨⟨1 + v1, v6, k2, k3, k4, k5, k7⟩, l7, ⟨by simp only; omega, by simp only; omega, by simp only; omega, by simp only; omega⟩, by rw [← e]; exact h7, ?_⟩
  unfold r__law_rule d__law_rule s__law_rule_0 s__law_rule_1 s__law_rule_2 s__law_rule_3
  simp (disch := (simp)) only [runD, start1, sSeq, sSet, sRet, eVar, eC, eBin, eFn, eCall, eTup, eLst, aNil, aCons, Dn.R.bind, R.thenS, List.length_cons, List.length_nil, List.replicate, List.set, List.getElem?_cons_zero, List.getElem?_cons_succ, Nat.reduceAdd, Nat.zero_add, if_true, addW_i, addW_l, addW_t, tupleW_l, ixM, seqOf, e1, e2, e3, e4, e5, e6, e7, p2, p3, p4, p5, p7, Nat.reduceLeDiff, List.cons_append, List.nil_append]
  rw [e]
  rfl
/-! ### a drawn row -/
def roomsOf (r : Rule) (es : List Ev) : List Rm.Room := (List.range (es.length + 1)).map fun k => behind r (es.take k)
theorem roomsOf_snoc (r : Rule) (es : List Ev) (e : Ev) : roomsOf r (es ++ [e]) = roomsOf r es ++ [doEv r (behind r es) e] := by
  unfold roomsOf
  rw [List.length_append, List.length_singleton, List.range_succ, List.map_append]
  congr 1
  · refine List.map_congr_left fun k hk => ?_
    rw [List.mem_range] at hk
    rw [List.take_append_of_le_length (by omega)]
  · simp only [List.map_cons, List.map_nil]
    rw [List.take_of_length_le (by simp)]
    unfold behind
    rw [List.foldl_append]
    rfl
theorem isRow_snoc {r : Rule} {e : Ev} : ∀ {es : List Ev} {R : Rm.Room}, isRow r R es = true → canBe r (es.foldl (doEv r) R) e = true → isRow r R (es ++ [e]) = true
  | [], R, _, h => by simp [isRow] at h ⊢; exact h
  | x :: es, R, h1, h2 => by
    rw [List.cons_append, isRow, Bool.and_eq_true_iff]
    rw [isRow, Bool.and_eq_true_iff] at h1
    exact ⟨h1.1, isRow_snoc (es := es) (R := doEv r R x) h1.2 h2⟩
def oftenK (k : Kd) : Bool := match k with
  | .come => true
  | .back => true
  | .door => true
  | .lett => true
  | _ => false
theorem in_often {m : Mem} (k : Kd) : inM false m (.str k.s) (.tup [.str "come", .str "back", .str "door", .str "let"]) = some (.bl (oftenK k)) := by cases k <;> kernel_rfl
theorem mul_l {m : Mem} (xs : List W) (k : Int) (h0 : 0 ≤ k) (h1 : k < 100) (h : xs.length ≤ 100000) : mulW m (.lst xs) (.int k) = some (.lst (List.replicate k.toNat xs).flatten) := by
  show mulL m (.lst xs) (.int k) = _
  simp only [mulL, trkOf]
  refine if_pos ⟨by omega, by omega, ?_⟩
  have : k.toNat ≤ 100 := by omega
  calc xs.length * k.toNat ≤ 100000 * 100 := Nat.mul_le_mul h this
    _ ≤ 16777216 := by decide
/-- what is drawn from -/
def someE (r : Rule) (R : Rm.Room) : List Ev := ((evsS r R).filter fun e => oftenK (kd e)) ++ ((evsS r R).filter fun e => oftenK (kd e)) ++ evsS r R ++ (if R.came < 4 then [Ev.come, Ev.come, Ev.come, Ev.come, Ev.come, Ev.come] else [])
theorem someE_can {r : Rule} {R : Rm.Room} {e : Ev} (h : e ∈ someE r R) : canBe r R e = true := by
  unfold someE at h
  rw [List.mem_append, List.mem_append, List.mem_append] at h
  rcases h with ((h | h) | h) | h
  · exact evs_can (List.mem_filter.mp h).1
  · exact evs_can (List.mem_filter.mp h).1
  · exact evs_can h
  · split at h
    · rename_i c
      have : e = .come := by simpa using h
      subst this
      simp only [canBe, decide_eq_true_eq]
      omega
    · cases h
theorem someE_len (r : Rule) (R : Rm.Room) (hl : R.line.length ≤ 1000) : (someE r R).length ≤ 20000 := by
  have h1 := evsS_len r R
  have h2 := List.length_filter_le (fun e => oftenK (kd e)) (evsS r R)
  unfold someE
  rw [List.length_append, List.length_append, List.length_append]
  split
  · simp; omega
  · simp; omega
end
end L

namespace L
open PySem PySem.Spec PyProof.Rows L2 Dn Rm
local macro_rules | `(tactic| wp_walk using $ts,*) => `(tactic| simp only [runD, start0, start1, start2, start3, start4, start5, sSeq, sSet, sRet, sExpr, sIf, sNil, sCont, sRetN, sPass, sBrk, sBad, sAsg, sSub, sFor, sPar, sAug, sPut, sPutA, eVar, eC, eBin, eFn, eCall, eAnd, eOr, eNot, eIf, eTup, eLst, eLstM, eIsi, eFz, eNw, aComp, iSeq, iEnumW, eFld, eMeth, eMake, eSl, oNone, oSome, eRev, eIdx, eChain, eApp, eFrz, dTest, dAnd, dOr, dNot, aNil, aCons, aStar, Dn.R.bind, R.thenS, List.length_cons, List.length_nil, List.length_map, List.replicate, List.set, List.getElem?_cons_zero, List.getElem?_cons_succ, List.cons_append, List.nil_append, Nat.reduceAdd, Nat.reduceSub, Nat.zero_add, if_true, if_false, Bool.false_eq_true, Bool.not_true, Bool.not_false, decide_true, decide_false, addW_i, subW_i, addI_i, intW_i, gtW_i, geW_i, ltW_i, leW_i, tupleW_l, tupleW_t, lenW_t, lenW_l, eqM_int, neM_int, inM_ints, inM_intsL, ixM_t, ixM_l, lstOf, seqOf, trkOf, wipeR, Nat.reduceLeDiff, rule0, rule1, rule2, rule3, rule4, rule5, rule6, gN, gT, gsCons, gsNil, Option.bind, GoesD, four_lt, and_self, Bool.and_true, Bool.true_and, Bool.and_false, Bool.false_and, Bool.or_true, Bool.true_or, Bool.or_false, Bool.false_or, $[$ts:term],*])
section
theorem st_len (cs ls : List Int) (i : Int) (rest : Mem) : (stM cs ls i rest).length = rest.length + 2 := rfl
theorem st_get0 (cs ls : List Int) (i : Int) (rest : Mem) (a b : Cell) : (stM cs ls i (rest ++ [a, b]))[rest.length + 2]? = some a := by
  show (rest ++ [a, b])[rest.length]? = some a
  simp
theorem st_get1 (cs ls : List Int) (i : Int) (rest : Mem) (a b : Cell) : (stM cs ls i (rest ++ [a, b]))[rest.length + 2 + 1]? = some b := by
  show (rest ++ [a, b])[rest.length + 1]? = some b
  rw [List.getElem?_append_right (by omega), show rest.length + 1 - rest.length = 1 by omega]
  rfl
theorem st_set0 (cs ls : List Int) (i : Int) (rest : Mem) (a b c : Cell) : (stM cs ls i (rest ++ [a, b])).set (rest.length + 2) c = stM cs ls i (rest ++ [c, b]) := by
  show _ :: _ :: (rest ++ [a, b]).set rest.length c = _
  rw [List.set_append_right _ _ (Nat.le_refl _), Nat.sub_self]
  rfl
theorem st_set1 (cs ls : List Int) (i : Int) (rest : Mem) (a b c : Cell) : (stM cs ls i (rest ++ [a, b])).set (rest.length + 2 + 1) c = stM cs ls i (rest ++ [a, c]) := by
  show _ :: _ :: (rest ++ [a, b]).set (rest.length + 1) c = _
  rw [List.set_append_right _ _ (by omega), show rest.length + 1 - rest.length = 1 by omega]
  rfl
theorem up_range (n : Nat) : upFrom 0 n = (List.range n).map fun i => W.int (i : Nat) := by
  refine List.ext_getElem? fun i => ?_
  by_cases hi : i < n
  · rw [upFrom_get 0 _ i hi, List.getElem?_map, List.getElem?_range hi]
    simp
  · rw [List.getElem?_eq_none (by rw [upFrom_len]; omega), List.getElem?_eq_none (by simp; omega)]
theorem rng2_a : (-(2 ^ 62) ≤ (0 : Int) ∧ (0 : Int) < 2 ^ 62) := ⟨by omega, by omega⟩
theorem rng2_b (n : Nat) (hlen : n < 100000) : -(2 ^ 62) ≤ ((n : Nat) : Int) ∧ ((n : Nat) : Int) < 2 ^ 62 ∧ ((n : Nat) : Int) - 0 ≤ 16777216 := ⟨by omega, by omega, by omega⟩
theorem rng2_c (n : Nat) : (((n : Nat) : Int) - 0).toNat = n := by omega
theorem rng2_ok (n : Nat) (hlen : n < 100000) (m : Mem) (f g : DE) (r : Rho) (hf : f r m = .ok (.int 0) m) (hg : g r m = .ok (.int (n : Nat)) m) : iRng (aCons f (aCons g aNil)) r m = .ok ((List.range n).map fun k => W.int (k : Nat)) m := by
  simp only [iRng, aCons, aNil, hf, hg, Dn.R.bind]
  rw [if_pos ⟨rng2_a, rng2_b n hlen⟩, rng2_c, up_range]
theorem rng1_b (n : Nat) (hlen : n < 100000) : -(2 ^ 62) ≤ ((n : Nat) : Int) ∧ ((n : Nat) : Int) ≤ 16777216 := ⟨by omega, by omega⟩
theorem rng1_ok (n : Nat) (hlen : n < 100000) (m : Mem) (f : DE) (r : Rho) (hf : f r m = .ok (.int (n : Nat)) m) : iRng (aCons f aNil) r m = .ok ((List.range n).map fun k => W.int (k : Nat)) m := by
  simp only [iRng, aCons, aNil, hf, Dn.R.bind]
  rw [if_pos (rng1_b n hlen), Int.toNat_natCast, up_range]
/-- what a drawn row is -/
structure RowOk (r : Rule) (most : Nat) (es : List Ev) : Prop where
  row : isRow r room0 es = true
  len : es.length ≤ most
theorem lrow_body {cs ls : List Int} {i : Int} (h : StOk cs ls i) (hi : i < 700000) (r : Rule) (hr : r.Ok) (es : List Ev) (he : isRow r room0 es = true) (hl : es.length < 100) (most : W) (rest : Mem) (a6 a7 a8 : Option W) :
    (∃ e ls' a7' a8', canBe r (behind r es) e = true ∧ StOk cs ls' (i + 1) ∧ b__law_row_0 [some (.ref 1), some r.w, some most, some (roomW (behind r es)), some (.ref (rest.length + 2)), some (.ref (rest.length + 2 + 1)), a6, a7, a8] (stM cs ls i (rest ++ [.lst ((roomsOf r es).map roomW), .lst (es.map Ev.w)])) = .next [some (.ref 1), some r.w, some most, some (roomW (behind r (es ++ [e]))), some (.ref (rest.length + 2)), some (.ref (rest.length + 2 + 1)), a6, a7', a8'] (stM cs ls' (i + 1) (rest ++ [.lst ((roomsOf r (es ++ [e])).map roomW), .lst ((es ++ [e]).map Ev.w)]))) ∨
    (∃ c d, b__law_row_0 [some (.ref 1), some r.w, some most, some (roomW (behind r es)), some (.ref (rest.length + 2)), some (.ref (rest.length + 2 + 1)), a6, a7, a8] (stM cs ls i (rest ++ [.lst ((roomsOf r es).map roomW), .lst (es.map Ev.w)])) = .ret (.tup [.tup (es.map Ev.w), .lst ((roomsOf r es).map roomW)]) (stM cs ls i (rest ++ [c, d]))) := by
  have hk : 0 ≤ r.k := Int.le_trans (by decide) hr.k1
  have hb := behind_len r es room0
  have hs := behind_srv r es room0
  have hb : (behind r es).line.length ≤ es.length := by simpa [behind, room0] using hb
  have hs : (behind r es).served.length ≤ es.length := by simpa [behind, room0] using hs
  have rw1 : ∀ m, ixM m (roomW (behind r es)) (.int 1) = some (.int (behind r es).came) := fun _ => rfl
  have c1 : ∀ mm a7 a8, compL (gN 8) (dTest (eBin (inM false) (eBin ixM (eVar 8) (eC (.int 0))) (eTup (aCons (eC (.str "come")) (aCons (eC (.str "back")) (aCons (eC (.str "door")) (aCons (eC (.str "let")) aNil))))))) (eVar 8) [8] ((evsS r (behind r es)).map Ev.w) [some (.ref 1), some r.w, some most, some (roomW (behind r es)), some (.ref (rest.length + 2)), some (.ref (rest.length + 2 + 1)), a6, a7, a8] mm = .ok (((evsS r (behind r es)).filter fun e => oftenK (kd e)).map Ev.w) mm := fun mm a7 a8 =>
    compL_map Ev.w (fun e => oftenK (kd e)) Ev.w (fun e => [some (.ref 1), some r.w, some most, some (roomW (behind r es)), some (.ref (rest.length + 2)), some (.ref (rest.length + 2 + 1)), a6, a7, some e.w]) _ (fun _ _ => rfl) (fun e _ => by wp_walk using kd_ix, in_often) fun _ _ _ => rfl
  have sl := evsS_len r (behind r es)
  have fl := List.length_filter_le (fun e => oftenK (kd e)) (evsS r (behind r es))
  have m1 : ∀ mm, mulW mm (.lst (((evsS r (behind r es)).filter fun e => oftenK (kd e)).map Ev.w)) (.int 2) = some (.lst ((((evsS r (behind r es)).filter fun e => oftenK (kd e)) ++ ((evsS r (behind r es)).filter fun e => oftenK (kd e))).map Ev.w)) := fun mm => by
    rw [mul_l _ 2 (by decide) (by decide) (by rw [List.length_map]; omega)]
    simp [List.replicate]
  have m2 : ∀ mm, mulW mm (.lst [.tup [.str "come"]]) (.int 6) = some (.lst ([Ev.come, Ev.come, Ev.come, Ev.come, Ev.come, Ev.come].map Ev.w)) := fun mm => by
    rw [mul_l _ 6 (by decide) (by decide) (by simp)]
    rfl
  have ad1 : ∀ mm, addW mm (.lst ((((evsS r (behind r es)).filter fun e => oftenK (kd e)) ++ ((evsS r (behind r es)).filter fun e => oftenK (kd e))).map Ev.w)) (.lst ((evsS r (behind r es)).map Ev.w)) = some (.lst ((((evsS r (behind r es)).filter fun e => oftenK (kd e)) ++ ((evsS r (behind r es)).filter fun e => oftenK (kd e)) ++ evsS r (behind r es)).map Ev.w)) := fun mm => by
    rw [addW_l (by simp; omega), List.map_append (l₂ := evsS r (behind r es))]
  have ad2 : ∀ mm, addW mm (.lst ((((evsS r (behind r es)).filter fun e => oftenK (kd e)) ++ ((evsS r (behind r es)).filter fun e => oftenK (kd e)) ++ evsS r (behind r es)).map Ev.w)) (.lst ([Ev.come, Ev.come, Ev.come, Ev.come, Ev.come, Ev.come].map Ev.w)) = some (.lst ((((evsS r (behind r es)).filter fun e => oftenK (kd e)) ++ ((evsS r (behind r es)).filter fun e => oftenK (kd e)) ++ evsS r (behind r es) ++ [Ev.come, Ev.come, Ev.come, Ev.come, Ev.come, Ev.come]).map Ev.w)) := fun mm => by
    rw [addW_l (by simp; omega), List.map_append (l₂ := [Ev.come, Ev.come, Ev.come, Ev.come, Ev.come, Ev.come])]
  have le := levents_ok (r := r) (m := stM cs ls i (rest ++ [.lst ((roomsOf r es).map roomW), .lst (es.map Ev.w)])) (behind r es) (by omega)
  -- the list that is drawn from
  have some7 : sSeq (sSet 7 (eCall 2 r__law_events (aCons (eVar 1) (aCons (eVar 3) aNil)))) (sSeq (sSet 7 (eBin addW (eBin mulW (eFz (aComp (iSeq (eVar 7)) (gN 8) (dTest (eBin (inM false) (eBin ixM (eVar 8) (eC (.int 0))) (eTup (aCons (eC (.str "come")) (aCons (eC (.str "back")) (aCons (eC (.str "door")) (aCons (eC (.str "let")) aNil))))))) (eVar 8) [8])) (eC (.int 2))) (eVar 7))) (sIf (dTest (eBin ltW (eBin ixM (eVar 3) (eC (.int 1))) (eC (.int 4)))) (sSet 7 (eBin addW (eVar 7) (eBin mulW (eLst (aCons (eTup (aCons (eC (.str "come")) aNil)) aNil)) (eC (.int 6))))) sNil)) [some (.ref 1), some r.w, some most, some (roomW (behind r es)), some (.ref (rest.length + 2)), some (.ref (rest.length + 2 + 1)), a6, a7, a8] (stM cs ls i (rest ++ [.lst ((roomsOf r es).map roomW), .lst (es.map Ev.w)])) = .next [some (.ref 1), some r.w, some most, some (roomW (behind r es)), some (.ref (rest.length + 2)), some (.ref (rest.length + 2 + 1)), a6, some (.lst ((someE r (behind r es)).map Ev.w)), a8] (stM cs ls i (rest ++ [.lst ((roomsOf r es).map roomW), .lst (es.map Ev.w)])) := by
    unfold someE
    by_cases hc : (behind r es).came < 4
    · rw [if_pos hc]
      wp_walk using le, c1, m1, ad1, rw1, hc, m2, ad2
    · rw [if_neg hc, List.append_nil]
      wp_walk using le, c1, m1, ad1, rw1, hc
  have seqA : ∀ (f g h k : DS) (a : Rho) (mm : Mem), sSeq f (sSeq g (sSeq h k)) a mm = sSeq (sSeq f (sSeq g h)) k a mm := fun f g h k a mm => by
    simp only [sSeq]
    cases f a mm with
    | next r1 m1 =>
      simp only
      cases g r1 m1 <;> rfl
    | _ => rfl
  have okE : ∀ e : Ev, okW 59 e.w = true := fun e => ok_ev 58 e
  have eqE : ∀ mm, eqM mm (.lst ((someE r (behind r es)).map Ev.w)) (.lst []) = some (.bl (someE r (behind r es)).isEmpty) := fun mm => by
    rw [eqM_ok (by rw [okW_lst]; exact okWs_map okE _) (by kernel_rfl), eqW, eqWs_nil_map]
  cases hE : (someE r (behind r es)).isEmpty with
  | true =>
    refine .inr ⟨.fz ((roomsOf r es).map roomW), .lst (es.map Ev.w), ?_⟩
    unfold b__law_row_0
    rw [seqA, seq_next some7]
    wp_walk using eqE, hE, tupleW_r (st_get1 _ _ _ _ _ _), st_get0, st_set0
  | false =>
    have hne : 0 < (someE r (behind r es)).length := by
      cases q : someE r (behind r es) with
      | nil => rw [q] at hE; cases hE
      | cons _ _ => simp
    have hll := someE_len r (behind r es) (by omega)
    obtain ⟨v, l1, a1, b1, h1, e1⟩ := draw_st h (by omega) ((someE r (behind r es)).length : Int) (by omega) (by omega) (rest ++ [.lst ((roomsOf r es).map roomW), .lst (es.map Ev.w)])
    obtain ⟨k, rfl⟩ : ∃ k : Nat, v = k := ⟨v.toNat, by omega⟩
    have hk2 : k < (someE r (behind r es)).length := by omega
    have ce := someE_can (List.getElem_mem hk2)
    have ae : atI ((someE r (behind r es)).map Ev.w) (k : Int) = some ((someE r (behind r es))[k]).w := atI_get rfl (by rw [List.getElem?_map, List.getElem?_eq_getElem hk2]; rfl)
    generalize hev : (someE r (behind r es))[k] = ev at ce ae
    have ld := ldo_ok (r := r) (m := stM cs l1 (i + 1) (rest ++ [.lst ((roomsOf r es).map roomW), .lst (es.map Ev.w)])) hk (behind r es) ev (can_named ce) (by omega) (by omega)
    have bs : doEv r (behind r es) ev = behind r (es ++ [ev]) := by unfold behind; rw [List.foldl_append]; rfl
    rw [bs] at ld
    have rs := roomsOf_snoc r es ev
    rw [bs] at rs
    refine .inl ⟨ev, l1, some (.lst ((someE r (behind r es)).map Ev.w)), some ev.w, ce, h1, ?_⟩
    have lg : es.length < 16777216 := by omega
    have lr : (roomsOf r es).length < 16777216 := by unfold roomsOf; simp; omega
    unfold b__law_row_0
    rw [seqA, seq_next some7]
    rw [rs]
    simp only [List.map_append (f := Ev.w), List.map_append (f := roomW), List.map_cons (f := Ev.w), List.map_cons (f := roomW), List.map_nil (f := Ev.w), List.map_nil (f := roomW)]
    wp_walk using eqE, hE, e1, ae, ld, st_get0, st_get1, st_set0, st_set1, lg, lr
theorem lrow_ok {cs ls : List Int} {i : Int} (h : StOk cs ls i) (hi : i < 600000) (r : Rule) (hr : r.Ok) (most : Nat) (hm : most ≤ 60) (rest : Mem) :
    ∃ es ls' i' rest', RowOk r most es ∧ StOk cs ls' i' ∧ i' ≤ i + 1 + most ∧ r__law_row [.ref 1, r.w, .int (most : Nat)] (stM cs ls i rest) = .ok (.tup [.tup (es.map Ev.w), .lst ((roomsOf r es).map roomW)]) (stM cs ls' i' rest') := by
  obtain ⟨v, l1, a1, b1, h1, e1⟩ := draw_st h (by omega) ((most : Nat) + 1 : Int) (by omega) (by omega) (rest ++ [.lst [roomW room0], .lst []])
  obtain ⟨N, rfl⟩ : ∃ N : Nat, v = N := ⟨v.toNat, by omega⟩
  have r0 : W.tup [.lst [], .int 0, .lst []] = roomW room0 := rfl
  have c : (-(2 ^ 62) : Int) ≤ ((N : Nat) : Int) ∧ ((N : Nat) : Int) ≤ 16777216 := ⟨by omega, by omega⟩
  have lp := loop_ret (t := gN 6) (body := b__law_row_0) (fun k : Nat => W.int (k : Nat))
    (fun pre r1 m1 => ∃ es ls' a6 a7 a8, isRow r room0 es = true ∧ es.length = pre.length ∧ StOk cs ls' (i + 1 + pre.length) ∧ r1 = [some (.ref 1), some r.w, some (.int (most : Nat)), some (roomW (behind r es)), some (.ref (rest.length + 2)), some (.ref (rest.length + 2 + 1)), a6, a7, a8] ∧ m1 = stM cs ls' (i + 1 + pre.length) (rest ++ [.lst ((roomsOf r es).map roomW), .lst (es.map Ev.w)]))
    (fun w m1 => ∃ es ls' i' c d, RowOk r most es ∧ StOk cs ls' i' ∧ i' ≤ i + 1 + most ∧ w = .tup [.tup (es.map Ev.w), .lst ((roomsOf r es).map roomW)] ∧ m1 = stM cs ls' i' (rest ++ [c, d]))
    (List.range N) [some (.ref 1), some r.w, some (.int (most : Nat)), some (roomW room0), some (.ref (rest.length + 2)), some (.ref (rest.length + 2 + 1)), none, none, none] (stM cs l1 (i + 1) (rest ++ [.lst [roomW room0], .lst []]))
    ⟨[], l1, none, none, none, rfl, rfl, by simpa using h1, rfl, by simp; rfl⟩
    (fun pre x post r1 m1 hx ⟨es, ls', a6, a7, a8, q1, q2, q3, q4, q5⟩ => by
      subst q4 q5
      have hp : pre.length < N := by
        have := congrArg List.length hx
        simp at this
        omega
      unfold StepsR
      simp only [gN, List.set]
      rcases lrow_body q3 (by omega) r hr es q1 (by omega) (.int (most : Nat)) rest (some (.int (x : Nat))) a7 a8 with ⟨e, l2, a7', a8', p1, p2, p3⟩ | ⟨c, d, p3⟩
      · rw [p3]
        refine ⟨es ++ [e], l2, _, _, _, isRow_snoc q1 p1, by simp [q2], ?_, rfl, ?_⟩
        · have : i + 1 + ((pre ++ [x]).length : Int) = i + 1 + (pre.length : Int) + 1 := by simp; omega
          rw [this]
          exact p2
        · have : i + 1 + ((pre ++ [x]).length : Int) = i + 1 + (pre.length : Int) + 1 := by simp; omega
          rw [this]
      · rw [p3]
        exact ⟨es, ls', _, c, d, ⟨q1, by omega⟩, q3, by omega, rfl, rfl⟩)
  have stl : (stM cs ls i rest).length = rest.length + 2 := rfl
  have ap : ∀ a b : Cell, stM cs ls i rest ++ [a] ++ [b] = stM cs ls i (rest ++ [a, b]) := fun a b => by simp [stM]
  have apl : ∀ a : Cell, (stM cs ls i rest ++ [a]).length = rest.length + 2 + 1 := fun a => by simp [stM]
  have s0 : s__law_row_0 [some (.ref 1), some r.w, some (.int (most : Nat)), none, none, none, none, none, none] (stM cs ls i rest) = .next [some (.ref 1), some r.w, some (.int (most : Nat)), some (roomW room0), some (.ref (rest.length + 2)), some (.ref (rest.length + 2 + 1)), none, none, none] (stM cs ls i (rest ++ [.lst [roomW room0], .lst []])) := by
    unfold s__law_row_0
    simp only [sPar3, aCons, aNil, eTup, eLst, eLstM, eC, Dn.R.bind, R.thenS, List.length_cons, List.length_nil, Nat.zero_add, Nat.reduceAdd, Nat.reduceLeDiff, if_true, r0, List.set, apl, ap, stl]
  have src : iRng (aCons (eCall 2 r__law_draw (aCons (eVar 0) (aCons (eBin addW (eVar 2) (eC (.int 1))) aNil))) aNil) [some (.ref 1), some r.w, some (.int (most : Nat)), some (roomW room0), some (.ref (rest.length + 2)), some (.ref (rest.length + 2 + 1)), none, none, none] (stM cs ls i (rest ++ [.lst [roomW room0], .lst []])) = .ok ((List.range N).map fun k => W.int (k : Nat)) (stM cs l1 (i + 1) (rest ++ [.lst [roomW room0], .lst []])) := by
    wp_walk using iRng, e1, c, Int.toNat_natCast, up_range
  unfold r__law_row d__law_row
  have st : startW 9 [.ref 1, r.w, .int (most : Nat)] = [some (.ref 1), some r.w, some (.int (most : Nat)), none, none, none, none, none, none] := by rw [start3]; rfl
  rw [runD, st, seq_next s0]
  rcases lp with ⟨r', m', lp, es, ls', a6, a7, a8, q1, q2, q3, q4, q5⟩ | ⟨u, m', lp, es, ls', i', c', d', q1, q2, q3, q4, q5⟩
  · have s1 : s__law_row_1 [some (.ref 1), some r.w, some (.int (most : Nat)), some (roomW room0), some (.ref (rest.length + 2)), some (.ref (rest.length + 2 + 1)), none, none, none] (stM cs ls i (rest ++ [.lst [roomW room0], .lst []])) = .next r' m' := by
      unfold s__law_row_1
      simp only [sFor, src, R.thenS, lp]
    subst q4 q5
    rw [List.length_range] at q2 q3
    refine ⟨es, ls', i + 1 + (N : Int), rest ++ [.fz ((roomsOf r es).map roomW), .lst (es.map Ev.w)], ⟨q1, by omega⟩, q3, by omega, ?_⟩
    rw [seq_next s1]
    unfold s__law_row_2
    simp only [List.length_range]
    wp_walk using tupleW_r (st_get1 _ _ _ _ _ _), st_get0, st_set0
  · have s1 : s__law_row_1 [some (.ref 1), some r.w, some (.int (most : Nat)), some (roomW room0), some (.ref (rest.length + 2)), some (.ref (rest.length + 2 + 1)), none, none, none] (stM cs ls i (rest ++ [.lst [roomW room0], .lst []])) = .ret u m' := by
      unfold s__law_row_1
      simp only [sFor, src, R.thenS, lp]
    subst q4 q5
    refine ⟨es, ls', i', rest ++ [c', d'], q1, q2, q3, ?_⟩
    rw [seq_ret s1]
end
end L

namespace L
open PySem PySem.Spec PyProof.Rows L2 Dn Rm
local macro_rules | `(tactic| wp_walk using $ts,*) => `(tactic| simp only [runD, start0, start1, start2, start3, start4, start5, sSeq, sSet, sRet, sExpr, sIf, sNil, sCont, sRetN, sPass, sBrk, sBad, sAsg, sSub, sFor, sPar, sAug, sPut, sPutA, eVar, eC, eBin, eFn, eCall, eAnd, eOr, eNot, eIf, eTup, eLst, eLstM, eIsi, eFz, eNw, aComp, iSeq, iEnumW, eFld, eMeth, eMake, eSl, oNone, oSome, eRev, eIdx, eChain, eApp, eFrz, dTest, dAnd, dOr, dNot, aNil, aCons, aStar, Dn.R.bind, R.thenS, List.length_cons, List.length_nil, List.length_map, List.replicate, List.set, List.getElem?_cons_zero, List.getElem?_cons_succ, List.cons_append, List.nil_append, Nat.reduceAdd, Nat.reduceSub, Nat.zero_add, if_true, if_false, Bool.false_eq_true, Bool.not_true, Bool.not_false, decide_true, decide_false, addW_i, subW_i, addI_i, intW_i, gtW_i, geW_i, ltW_i, leW_i, tupleW_l, tupleW_t, lenW_t, lenW_l, eqM_int, neM_int, inM_ints, inM_intsL, ixM_t, ixM_l, lstOf, seqOf, trkOf, wipeR, Nat.reduceLeDiff, rule0, rule1, rule2, rule3, rule4, rule5, rule6, gN, gT, gsCons, gsNil, Option.bind, GoesD, four_lt, and_self, Bool.and_true, Bool.true_and, Bool.and_false, Bool.false_and, Bool.or_true, Bool.true_or, Bool.or_false, Bool.false_or, $[$ts:term],*])
theorem spot_at : ∀ {l : Line}, (ps l).Nodup → ∀ {x : Rm.Row}, x ∈ l → l[spotOf l x.p]? = some x
  | [], _, _, h => by cases h
  | y :: l, h, x, hx => by
    have h' := List.nodup_cons.mp h
    unfold spotOf
    rw [List.findIdx_cons]
    rcases List.mem_cons.mp hx with rfl | hx
    · simp
    · have : (y.p == x.p) = false := by
        rw [beq_eq_false_iff_ne]
        intro q
        exact h'.1 (List.mem_map.mpr ⟨x, hx, q.symm⟩)
      rw [this]
      simp only [cond_false, List.getElem?_cons_succ]
      exact spot_at h'.2 hx
theorem rev_ind {α : Type} {P : List α → Prop} (h0 : P []) (hs : ∀ l a, P l → P (l ++ [a])) : ∀ l, P l := fun l => by
  have : ∀ k : List α, P k.reverse := fun k => by
    induction k with
    | nil => exact h0
    | cons a k ih => rw [List.reverse_cons]; exact hs _ _ ih
  have q := this l.reverse
  rwa [List.reverse_reverse] at q
theorem roomsOf_take (r : Rule) (es : List Ev) (k : Nat) (hk : k ≤ es.length) : (roomsOf r es).take (k + 1) = roomsOf r (es.take k) := by
  unfold roomsOf
  rw [← List.map_take, List.length_take, Nat.min_eq_left hk]
  have : (List.range (es.length + 1)).take (k + 1) = List.range (k + 1) := by
    refine List.ext_getElem? fun i => ?_
    rw [List.getElem?_take]
    split
    · rename_i h
      rw [List.getElem?_range (by omega), List.getElem?_range h]
    · rename_i h
      rw [List.getElem?_eq_none (by simp; omega)]
  rw [this]
  refine List.map_congr_left fun i hi => ?_
  rw [List.mem_range] at hi
  rw [List.take_take, Nat.min_eq_left (by omega)]
theorem roomsOf_at (r : Rule) (es : List Ev) (k : Nat) (hk : k ≤ es.length) : (roomsOf r es)[k]? = some (behind r (es.take k)) := by
  unfold roomsOf
  rw [List.getElem?_map, List.getElem?_range (by omega)]
  rfl
theorem isRow_take {r : Rule} : ∀ (es : List Ev) (R : Rm.Room) (k : Nat), isRow r R es = true → isRow r R (es.take k) = true
  | [], _, _, _ => by simp [isRow]
  | _ :: _, _, 0, _ => by simp [isRow]
  | e :: es, R, k + 1, h => by
    rw [isRow, Bool.and_eq_true_iff] at h
    rw [List.take_succ_cons, isRow, Bool.and_eq_true_iff]
    exact ⟨h.1, isRow_take es _ k h.2⟩
theorem came_back {r : Rule} {R : Rm.Room} (hf : Fine R) {p : Int} {h : How} (hh : howIs R.line p = some h) : (doEv r R (.pers .back p)).came = if r.bk = .asks ∧ h = .lost then R.came + 1 else R.came := by
  obtain ⟨x, hx, rfl⟩ := List.mem_map.mp (howIs_mem hh)
  have e1 := howIs_at hf.nd hx
  rw [hh] at e1
  have e2 := spot_at hf.nd hx
  have e3 : h = x.h := by injection e1
  show (bringBack r R (spotOf R.line x.p)).came = _
  unfold bringBack
  rw [e2, e3]
  simp only [Option.map, Option.some.injEq]
  by_cases c : r.bk = .asks ∧ x.h = .lost
  · rw [if_pos c, if_pos c]; rfl
  · rw [if_neg c, if_neg c]
    cases r.bk <;> rfl
theorem here_renewed (r : Rule) (l : Line) (s : List Int) : here (renewed r l s) = here l := by
  unfold here renewed
  rw [List.filter_map, List.map_map]
  have h1 : ((fun x : Rm.Row => decide (x.h = .here)) ∘ take1 r l s) = fun x : Rm.Row × Nat => decide (x.1.h = .here) := by
    funext x
    have q : (take1 r l s x).h = x.1.h := by unfold take1; split <;> rfl
    simp only [Function.comp, q]
  have h2 : ((fun x : Rm.Row => x.p) ∘ take1 r l s) = fun x : Rm.Row × Nat => x.1.p := by
    funext x
    have q : (take1 r l s x).p = x.1.p := by unfold take1; split <;> rfl
    simp only [Function.comp, q]
  rw [h1, h2]
  conv => rhs; rw [← List.zipIdx_map_fst 0 l, List.filter_map, List.map_map]
  rfl
theorem here_asked (r : Rule) (l : Line) : here (askedAgain r l) = here l := by
  unfold askedAgain
  cases r.asks
  · rfl
  · exact here_renewed r l _
theorem claims_sub (r : Rule) (l : Line) : (claims r l).Sublist (here l) := by
  unfold claims here
  refine List.Sublist.map _ ?_
  have : (l.filter fun x => decide (x.h = .here) && (decide ((x.ns.length : Int) ≤ r.t) && !(x.ns.any fun n => (here l).contains n))) = (l.filter fun x => decide (x.h = .here)).filter fun x => (decide ((x.ns.length : Int) ≤ r.t) && !(x.ns.any fun n => (here l).contains n)) := by
    rw [List.filter_filter]
    refine List.filter_congr fun x _ => ?_
    rw [Bool.and_comm]
  unfold here at this
  rw [this]
  exact List.filter_sublist
theorem now_sub (r : Rule) (l : Line) : (claimsNow r l).Sublist (here l) := by
  have := claims_sub r (askedAgain r l)
  rwa [here_asked] at this
theorem here_nd {l : Line} (h : (ps l).Nodup) : (here l).Nodup := List.Nodup.sublist (List.Sublist.map _ List.filter_sublist) h
theorem nd_one {l : List Int} {a : Int} (hn : l.Nodup) (hm : a ∈ l) (ha : ∀ x, x ∈ l → x = a) : l = [a] := by
  cases l with
  | nil => cases hm
  | cons b l =>
    have hb := ha b (.head _)
    subst hb
    cases l with
    | nil => rfl
    | cons c l =>
      have := ha c (.tail _ (.head _))
      subst this
      exact absurd (List.Mem.head _) (List.nodup_cons.mp hn).1
theorem door_none {r : Rule} {R : Rm.Room} (hf : Fine R) {h : Int} {t : List Int} (e : here R.line = h :: t) : doorFaults r R = [] ↔ claimsNow r R.line = [h] := by
  have nd : (claimsNow r R.line).Nodup := List.Nodup.sublist (now_sub r R.line) (here_nd hf.nd)
  unfold doorFaults
  rw [e]
  constructor
  · intro q
    have q' : ((claimsNow r R.line).filter fun p => !(p == h)).map (fun p => (Ft.order, p)) = [] ∧ (if (claimsNow r R.line).contains h = true then [] else [(Ft.door, h)]) = [] := List.append_eq_nil_iff.mp q
    refine nd_one nd ?_ fun x hx => ?_
    · cases c : (claimsNow r R.line).contains h with
      | true => exact List.contains_iff_mem.mp c
      | false => rw [c] at q'; exact absurd q'.2 (by simp)
    · have := List.filter_eq_nil_iff.mp (List.map_eq_nil_iff.mp q'.1) x hx
      simpa using this
  · intro q
    rw [q]
    simp
theorem wr_high {m X : Mem} : ∀ (ns : List Nat) (l : Line), (∀ n, n ∈ ns → m.length ≤ n) → ∃ X', wr (m ++ X) ns l = m ++ X'
  | [], _, _ => ⟨X, by simp [wr]⟩
  | _ :: _, [], _ => ⟨X, by simp [wr]⟩
  | n :: ns, x :: l, h => by
    obtain ⟨X', e⟩ := wr_high ns l fun k q => h k (.tail _ q)
    rw [wr, e, List.set_append_right _ _ (h n (.head _))]
    exact ⟨_, rfl⟩
theorem lnow_ok {r : Rule} (hk : 0 ≤ r.k) (l : Line) (hl : l.length < 100000) (m : Mem) : ∃ A X Y, r__law_asked [r.w, .lst (l.map rowS)] m = .ok A (m ++ X) ∧ r__law_claims [r.w, A] (m ++ X) = .ok (.lst ((claimsNow r l).map .int)) (m ++ Y) := by
  have la := lasked_ok (r := r) hk (l.map fun x => (rowS x, x)) (sees_settled m l) (by simpa using hl)
  rw [fst_settled, snd_settled, List.length_map, List.map_map] at la
  have e0 : ((fun z : W × Rm.Row => Cell.lst (rowL z.2)) ∘ fun x : Rm.Row => (rowS x, x)) = fun x => Cell.lst (rowL x) := rfl
  rw [e0] at la
  have ch := copies_hold m l
  have h2 := ch.wr (l' := askedAgain r l) (asked_len r l)
  have lc := lclaims_ok (r := r) (refZ (List.range' m.length l.length) (askedAgain r l)) h2.sees (by unfold refZ; simp [asked_len]; omega)
  rw [refZ_fst h2.1, refZ_snd h2.1] at lc
  obtain ⟨X, eX⟩ := wr_high (m := m) (X := l.map fun x => Cell.lst (rowL x)) (List.range' m.length l.length) (askedAgain r l) fun n hn => (List.mem_range'_1.mp hn).1
  rw [eX] at la lc
  exact ⟨_, X, X ++ [.fz ((claimsNow r l).map .int)], la, by rw [lc, List.append_assoc]; rfl⟩
end L

namespace L
open PySem PySem.Spec PyProof.Rows L2 Dn Rm
local macro_rules | `(tactic| wp_walk using $ts,*) => `(tactic| simp only [runD, start0, start1, start2, start3, start4, start5, sSeq, sSet, sRet, sExpr, sIf, sNil, sCont, sRetN, sPass, sBrk, sBad, sAsg, sSub, sFor, sPar, sAug, sPut, sPutA, eVar, eC, eBin, eFn, eCall, eAnd, eOr, eNot, eIf, eTup, eLst, eLstM, eIsi, eFz, eNw, aComp, iSeq, iEnumW, eFld, eMeth, eMake, eSl, oNone, oSome, eRev, eIdx, eChain, eApp, eFrz, dTest, dAnd, dOr, dNot, aNil, aCons, aStar, Dn.R.bind, R.thenS, List.length_cons, List.length_nil, List.length_map, List.replicate, List.set, List.getElem?_cons_zero, List.getElem?_cons_succ, List.cons_append, List.nil_append, Nat.reduceAdd, Nat.reduceSub, Nat.zero_add, if_true, if_false, Bool.false_eq_true, Bool.not_true, Bool.not_false, decide_true, decide_false, addW_i, subW_i, addI_i, intW_i, gtW_i, geW_i, ltW_i, leW_i, tupleW_l, tupleW_t, lenW_t, lenW_l, eqM_int, neM_int, inM_ints, inM_intsL, ixM_t, ixM_l, lstOf, seqOf, trkOf, wipeR, Nat.reduceLeDiff, rule0, rule1, rule2, rule3, rule4, rule5, rule6, gN, gT, gsCons, gsNil, Option.bind, GoesD, four_lt, and_self, Bool.and_true, Bool.true_and, Bool.and_false, Bool.false_and, Bool.or_true, Bool.true_or, Bool.or_false, Bool.false_or, $[$ts:term],*])
section
variable {m : Mem} {r : Rule}
theorem is_tidy_ok (hr : r.Ok) (ht : Tidy r) : r_is_tidy [r.w] m = .ok (.bl true) m := by
  have e1 : r_is_tidy_rule [r.w] [] = .ok (.bl true) [] := by
    obtain ⟨k, t, a, b, c, d, e⟩ := r
    have h1 : a = true := ht.line
    have h2 : b = true := ht.on
    have h3 : d = true := ht.told
    have h4 : c ≠ .old := ht.bk
    subst h1 h2 h3
    cases c with
    | old => exact absurd rfl h4
    | asks => kernel_rfl
    | tells => kernel_rfl
  unfold r_is_tidy
  refine pw_g (m1 := []) (by rw [gWs_cons, g_rule]; rfl) ?_ rfl
  unfold d_is_tidy s_is_tidy_0
  wp_walk using need_rule_ok r hr, e1
theorem names_at5 {l : Line} (h : (ps l).Nodup) {x : Rm.Row} (hx : x ∈ l) : namesOf l x.p = x.ns := by
  unfold namesOf
  rw [spot_at h hx]
abbrev tR (r : Rule) (es : List Ev) (l : Line) (a4 a5 a6 a7 a8 a9 a10 a11 : Option W) : Rho := [some r.w, some (.tup (es.map Ev.w)), some (.tup (l.map Row.w)), some (.lst (l.map rowS)), a4, a5, a6, a7, a8, a9, a10, a11]
theorem tidy_names (hr : r.Ok) (ht : Tidy r) (es : List Ev) (hrow : isRow r room0 es = true) (hlen : es.length ≤ 200) : ∃ a4 a5 a6 a7, loop (gT (gsCons (gN 4) (gsCons (gT (gsCons (gN 5) (gsCons (gN 6) (gsCons (gN 7) gsNil)))) gsNil))) b__law_room_right_0 ((behind r es).line.zipIdx.map fun x : Rm.Row × Nat => W.tup [.int (x.2 : Nat), Row.w x.1]) (tR r es (behind r es).line none none none none none none none none) [] = .next (tR r es (behind r es).line a4 a5 a6 a7 none none none none) [] := by
  have hk : 0 ≤ r.k := Int.le_trans (by decide) hr.k1
  have fb := fine_behind r es
  have hn := neat_behind ht es hrow
  obtain ⟨r', m', e1, ⟨a4, a5, a6, a7, e2⟩, e3⟩ := loop_pre (t := gT (gsCons (gN 4) (gsCons (gT (gsCons (gN 5) (gsCons (gN 6) (gsCons (gN 7) gsNil)))) gsNil))) (body := b__law_room_right_0) (fun x : Rm.Row × Nat => W.tup [.int (x.2 : Nat), Row.w x.1])
    (fun pre r1 m1 => (∃ a4 a5 a6 a7, r1 = tR r es (behind r es).line a4 a5 a6 a7 none none none none) ∧ m1 = [])
    (behind r es).line.zipIdx (tR r es (behind r es).line none none none none none none none none) [] ⟨⟨_, _, _, _, rfl⟩, rfl⟩
    (fun pre x post r1 m1 hx ⟨⟨a4, a5, a6, a7, h1⟩, h2⟩ => by
      subst h1 h2
      have hm : x ∈ (behind r es).line.zipIdx := by rw [hx]; exact List.mem_append_right _ (.head _)
      obtain ⟨x, i⟩ := x
      have hat : (behind r es).line[i]? = some x := (List.mem_zipIdx_iff_getElem? (x := (x, i))).mp hm
      have xm : x ∈ (behind r es).line := List.mem_of_getElem? hat
      have xp : x.p ∈ (behind r es).line.map (·.p) := List.mem_map.mpr ⟨x, xm, rfl⟩
      have q0 : gT (gsCons (gN 4) (gsCons (gT (gsCons (gN 5) (gsCons (gN 6) (gsCons (gN 7) gsNil)))) gsNil)) (W.tup [.int (i : Nat), Row.w x]) (tR r es (behind r es).line a4 a5 a6 a7 none none none none) = some (tR r es (behind r es).line (some (.int (i : Nat))) (some (.int x.p)) (some (.str x.h.s)) (some (.tup (x.ns.map .int))) none none none none) := rfl
      unfold Steps
      rw [q0]
      show GoesD (b__law_room_right_0 _ []) _
      have sh : (W.str "here") = .str How.here.s := rfl
      unfold b__law_room_right_0 tR
      rw [sh]
      by_cases hh : x.h = .here
      · have nm := names_ok (m := []) hr es hrow hlen x.p xp
        have stl := stale_ok (m := []) hr es hrow hlen x.p xp
        rw [names_at5 fb.nd xm] at nm stl
        rw [neat_stale hn xm hh] at stl
        have ln := lnames_ok (m := []) (r := r) hk ((behind r es).line.map fun x => (rowS x, x)) (sees_settled [] (behind r es).line) i
        rw [fst_settled, snd_settled, ← hn i x hat hh] at ln
        have n2 : ∀ (l : List Int) mm, neM mm (.tup (l.map .int)) (.tup (l.map .int)) = some (.bl false) := fun l mm => neM_same (ok_intsT 59 l)
        have n3 : ∀ mm, neM mm (.tup []) (.tup []) = some (.bl false) := fun mm => n2 [] mm
        wp_walk using ne_how, hh, ln, n2, nm, stl, List.map_nil, n3
        exact ⟨⟨_, _, _, _, rfl⟩, by trivial⟩
      · wp_walk using ne_how, hh
        exact ⟨⟨_, _, _, _, rfl⟩, by trivial⟩)
  subst e2 e3
  exact ⟨a4, a5, a6, a7, e1⟩
theorem tidy_due (r : Rule) (es : List Ev) (l : Line) (hl : l.length < 1000) (a4 a5 a6 a7 : Option W) : ∃ a5' a10, loop (gT (gsCons (gN 5) (gsCons (gN 10) gsNil))) b__law_room_right_1 ((gapsIn l).map pairW) (tR r es l a4 a5 a6 a7 (some (.ref 0)) (some (.tup ((gapsIn l).map pairW))) none none) [.lst []] = .next (tR r es l a4 a5' a6 a7 (some (.ref 0)) (some (.tup ((gapsIn l).map pairW))) a10 none) [.lst ((((gapsIn l).filter (dueB r (here l).head?)).map (·.1)).map .int)] := by
  have gh : (gapsIn l).map (·.1) = here l := by
    have q := gaps_here l ([], 0)
    rw [List.map_nil, List.nil_append] at q
    exact q
  have gl := gap_len l ([], 0)
  have gl' : (gapsIn l).length ≤ l.length := by
    rw [List.length_nil, Nat.zero_add] at gl
    exact gl
  obtain ⟨r', m', e1, ⟨a5', a10, e2⟩, e3⟩ := loop_pre (t := gT (gsCons (gN 5) (gsCons (gN 10) gsNil))) (body := b__law_room_right_1) pairW
    (fun pre r1 m1 => (∃ a5 a10, r1 = tR r es l a4 a5 a6 a7 (some (.ref 0)) (some (.tup ((gapsIn l).map pairW))) a10 none) ∧ m1 = [.lst (((pre.filter (dueB r (here l).head?)).map (·.1)).map .int)])
    (gapsIn l) (tR r es l a4 a5 a6 a7 (some (.ref 0)) (some (.tup ((gapsIn l).map pairW))) none none) [.lst []] ⟨⟨_, _, rfl⟩, rfl⟩
    (fun pre y post r1 m1 hx ⟨⟨a5, a10, h1⟩, h2⟩ => by
      subst h1 h2
      have hp : pre.length < 1000 := by
        have := congrArg List.length hx
        rw [List.length_append, List.length_cons] at this
        omega
      have hlp : ((pre.filter (dueB r (here l).head?)).map (·.1)).length < 16777216 := by
        rw [List.length_map]
        have := List.length_filter_le (dueB r (here l).head?) pre
        omega
      rw [List.length_map] at hlp
      have q0 : gT (gsCons (gN 5) (gsCons (gN 10) gsNil)) (pairW y) (tR r es l a4 a5 a6 a7 (some (.ref 0)) (some (.tup ((gapsIn l).map pairW))) a10 none) = some (tR r es l a4 (some (.int y.1)) a6 a7 (some (.ref 0)) (some (.tup ((gapsIn l).map pairW))) (some (.int y.2)) none) := rfl
      unfold Steps
      rw [q0]
      show GoesD (b__law_room_right_1 _ _) _
      rw [List.filter_append, List.map_append, List.map_append]
      cases hg : gapsIn l with
      | nil => rw [hg] at hx; cases pre <;> cases hx
      | cons z zs =>
        have hd : (here l).head? = some z.1 := by rw [← gh, hg]; rfl
        rw [hd] at hlp ⊢
        have f1 : atI (List.map pairW (z :: zs)) 0 = some (pairW z) := atI_get (n := 0) rfl rfl
        have f2 : ∀ mm, ixM mm (pairW z) (.int 0) = some (.int z.1) := fun _ => rfl
        unfold b__law_room_right_1 tR
        have done : ∀ b, dueB r (some z.1) y = b → GoesD ((sIf (fun r m => .ok b m) (sExpr (eApp (eVar 8) (eVar 5))) sNil) (tR r es l a4 (some (.int y.1)) a6 a7 (some (.ref 0)) (some (.tup ((z :: zs).map pairW))) (some (.int y.2)) none) [.lst (((pre.filter (dueB r (some z.1))).map (·.1)).map .int)]) (fun r1 m1 => (∃ a5 a10, r1 = tR r es l a4 a5 a6 a7 (some (.ref 0)) (some (.tup ((z :: zs).map pairW))) a10 none) ∧ m1 = [.lst (((pre.filter (dueB r (some z.1))).map (·.1)).map W.int ++ (([y].filter (dueB r (some z.1))).map (·.1)).map .int)]) := fun b hb => by
          cases b with
          | true =>
            unfold tR
            wp_walk using hlp
            refine ⟨⟨_, _, rfl⟩, ?_⟩
            rw [List.filter_cons, hb]
            rfl
          | false =>
            unfold tR
            wp_walk using hlp
            refine ⟨⟨_, _, rfl⟩, ?_⟩
            rw [List.filter_cons, hb]
            simp
        have test : ∀ mm, (dOr (dAnd (dTest (eBin eqM (eVar 5) (eBin ixM (eBin ixM (eVar 9) (eC (.int 0))) (eC (.int 0))))) (dTest (eBin leW (eVar 10) (eBin ixM (eVar 0) (eC (.int 1)))))) (dAnd (dTest (eBin eqM (eBin ixM (eVar 0) (eC (.int 1))) (eBin ixM (eVar 0) (eC (.int 0))))) (dTest (eBin geW (eVar 10) (eBin ixM (eVar 0) (eC (.int 0))))))) (tR r es l a4 (some (.int y.1)) a6 a7 (some (.ref 0)) (some (.tup ((z :: zs).map pairW))) (some (.int y.2)) none) mm = .ok (dueB r (some z.1) y) mm := fun mm => by
          unfold tR dueB
          by_cases c1 : z.1 = y.1
          · have c1' : (y.1 == z.1) = true := by rw [c1]; simp
            have c1'' : decide (some z.1 = some y.1) = true := by rw [c1]; simp
            by_cases c2 : y.2 ≤ r.t
            · wp_walk using f1, f2, c1', c1'', c2
            · by_cases c3 : r.t = r.k
              · have c3' : (r.t == r.k) = true := by rw [c3]; simp
                have c2' : decide (y.2 ≤ r.t) = false := decide_eq_false c2
                have c3'' : decide (r.t = r.k) = true := decide_eq_true c3
                wp_walk using f1, f2, c1', c1'', c2', c3', c3''
              · have c3' : (r.t == r.k) = false := beq_eq_false_iff_ne.mpr c3
                wp_walk using f1, f2, c1', c1'', c2, c3', c3
          · have c1' : (y.1 == z.1) = false := beq_eq_false_iff_ne.mpr fun q => c1 q.symm
            have c1'' : decide (some z.1 = some y.1) = false := decide_eq_false fun q => c1 (by injection q)
            by_cases c3 : r.t = r.k
            · have c3' : (r.t == r.k) = true := by rw [c3]; simp
              have c3'' : decide (r.t = r.k) = true := decide_eq_true c3
              wp_walk using f1, f2, c1', c1'', c3', c3''
            · have c3' : (r.t == r.k) = false := beq_eq_false_iff_ne.mpr c3
              wp_walk using f1, f2, c1', c1'', c3', c3
        have dn := done _ rfl
        unfold sIf at dn ⊢
        have t2 := test [.lst (((pre.filter (dueB r (some z.1))).map (·.1)).map .int)]
        rw [t2]
        exact dn)
  subst e2 e3
  exact ⟨a5', a10, e1⟩
theorem ltidy_ok (hr : r.Ok) (ht : Tidy r) (es : List Ev) (hrow : isRow r room0 es = true) (hlen : es.length ≤ 200) : r__law_room_right [r.w, .tup (es.map Ev.w)] m = .ok (.bl true) m := by
  have fb := fine_behind r es
  have hn := neat_behind ht es hrow
  have hb := beh_len r es
  obtain ⟨a4, a5, a6, a7, t1⟩ := tidy_names hr ht es hrow hlen
  obtain ⟨a5', a10, t2⟩ := tidy_due r es (behind r es).line (by omega) a4 a5 a6 a7
  have gh : (gapsIn (behind r es).line).map (·.1) = here (behind r es).line := by
    have q := gaps_here (behind r es).line ([], 0)
    rw [List.map_nil, List.nil_append] at q
    exact q
  have cg := claims_gaps ht hr fb.nd hn
  have c1 : compL (gN 11) dYes (eFz (aFn listW (aCons (eVar 11) aNil))) [11] ((behind r es).line.map Row.w) [some r.w, some (.tup (es.map Ev.w)), some (.tup ((behind r es).line.map Row.w)), none, none, none, none, none, none, none, none, none] [] = .ok ((behind r es).line.map rowS) [] :=
    compL_all Row.w rowS (fun x => [some r.w, some (.tup (es.map Ev.w)), some (.tup ((behind r es).line.map Row.w)), none, none, none, none, none, none, none, none, some (Row.w x)]) _ (fun _ _ => rfl) fun x _ => rfl
  have c2 : ∀ (a4 a5 a6 a7 a8 a10 a11 : Option W) mm, compL (gT (gsCons (gN 5) (gsCons (gN 10) gsNil))) dYes (eVar 5) [5, 10] ((gapsIn (behind r es).line).map pairW) (tR r es (behind r es).line a4 a5 a6 a7 a8 (some (.tup ((gapsIn (behind r es).line).map pairW))) a10 a11) mm = .ok ((here (behind r es).line).map .int) mm := fun a4 a5 a6 a7 a8 a10 a11 mm => by
    rw [← gh, List.map_map]
    exact compL_all pairW (fun y => .int y.1) (fun y => tR r es (behind r es).line a4 (some (.int y.1)) a6 a7 a8 (some (.tup ((gapsIn (behind r es).line).map pairW))) (some (.int y.2)) a11) _ (fun _ _ => rfl) fun x _ => rfl
  have n2 : ∀ (l : List Int) mm, neM mm (.tup (l.map .int)) (.tup (l.map .int)) = some (.bl false) := fun l mm => neM_same (ok_intsT 59 l)
  have q2 : ∀ (l : List Int) mm, eqM mm (.tup (l.map .int)) (.tup (l.map .int)) = some (.bl true) := fun l mm => eqM_same (ok_intsT 59 l)
  unfold r__law_room_right
  refine pw_g (m1 := [.lst ((((gapsIn (behind r es).line).filter (dueB r (here (behind r es).line).head?)).map (·.1)).map .int)]) (gRE r es) ?_ rfl
  have hcl := fun m => claims_ok (m := m) hr es hrow hlen
  rw [cg] at hcl
  unfold tR at t1 t2 c2
  unfold d__law_room_right s__law_room_right_0 s__law_room_right_1 s__law_room_right_2 s__law_room_right_3 s__law_room_right_4 s__law_room_right_5 s__law_room_right_6
  wp_walk using standing_ok hr es hrow hlen, c1, numbered_map, t1, gaps_ok hr es hrow hlen, t2, here_behind_ok hr es hrow hlen, c2, n2, hcl, q2, tupleW_r (m := [_]) (n := 0) (List.getElem?_cons_zero)
end
end L

namespace L
open PySem PySem.Spec PyProof.Rows L2 Dn Rm
local macro_rules | `(tactic| wp_walk using $ts,*) => `(tactic| simp only [runD, start0, start1, start2, start3, start4, start5, sSeq, sSet, sRet, sExpr, sIf, sNil, sCont, sRetN, sPass, sBrk, sBad, sAsg, sSub, sFor, sPar, sAug, sPut, sPutA, eVar, eC, eBin, eFn, eCall, eAnd, eOr, eNot, eIf, eTup, eLst, eLstM, eIsi, eFz, eNw, aComp, iSeq, iEnumW, eFld, eMeth, eMake, eSl, oNone, oSome, eRev, eIdx, eChain, eApp, eFrz, dTest, dAnd, dOr, dNot, aNil, aCons, aStar, Dn.R.bind, R.thenS, List.length_cons, List.length_nil, List.length_map, List.replicate, List.set, List.getElem?_cons_zero, List.getElem?_cons_succ, List.cons_append, List.nil_append, Nat.reduceAdd, Nat.reduceSub, Nat.zero_add, if_true, if_false, Bool.false_eq_true, Bool.not_true, Bool.not_false, decide_true, decide_false, addW_i, subW_i, addI_i, intW_i, gtW_i, geW_i, ltW_i, leW_i, tupleW_l, tupleW_t, lenW_t, lenW_l, eqM_int, neM_int, inM_ints, inM_intsL, ixM_t, ixM_l, lstOf, seqOf, trkOf, wipeR, Nat.reduceLeDiff, rule0, rule1, rule2, rule3, rule4, rule5, rule6, gN, gT, gsCons, gsNil, Option.bind, GoesD, four_lt, and_self, Bool.and_true, Bool.true_and, Bool.and_false, Bool.false_and, Bool.or_true, Bool.true_or, Bool.or_false, Bool.false_or, $[$ts:term],*])
section
abbrev inR (r0 a2 a6 : Option W) (r : Rule) (es : List Ev) : Rho := [r0, some (.ref 1), a2, some r.w, some (.tup (es.map Ev.w)), some (.lst ((roomsOf r es).map roomW)), a6]
theorem inner_src {r : Rule} (es : List Ev) (N : Nat) (hN : N = es.length + 1) (hlen : es.length < 100) (r0 a2 a6 : Option W) (m : Mem) : iRng (aCons (eBin addW (eFn lenW (aCons (eVar 4) aNil)) (eC (.int 1))) aNil) (inR r0 a2 a6 r es) m = .ok ((List.range N).map fun k => W.int (k : Nat)) m := by
  refine rng1_ok N (by omega) m _ _ ?_
  have e : ((es.length : Nat) : Int) + 1 = (N : Nat) := by omega
  wp_walk using e
theorem inner_rest {r : Rule} (hr : r.Ok) (ht : Tidy r) (es : List Ev) (hrow : isRow r room0 es = true) (hlen : es.length < 100) (r0 a2 : Option W) (m : Mem) (k : Nat) (hk : k < es.length + 1) : (sIf (dNot (dTest (eCall 2 r__law_room_right (aCons (eVar 3) (aCons (eSl (eVar 4) oNone (oSome (eVar 6))) aNil))))) (sRet (eC (.bl false))) sNil) (inR r0 a2 (some (.int (k : Nat))) r es) m = .next (inR r0 a2 (some (.int (k : Nat))) r es) m := by
  have lr := ltidy_ok (m := m) hr ht (es.take k) (isRow_take es room0 k hrow) (by rw [List.length_take]; omega)
  rw [List.map_take] at lr
  wp_walk using cut_to, lr
theorem inner_test (r : Rule) (es : List Ev) (r0 a2 : Option W) (m : Mem) (k : Nat) : ∃ b, (dAnd (dTest (eBin gtW (eVar 6) (eC (.int 6)))) (dAnd (dTest (eBin ltW (eVar 6) (eFn lenW (aCons (eVar 4) aNil)))) (dTest (eBin gtW (eBin modW (eFn intW (aCons (eVar 6) aNil)) (eC (.int 2))) (eC (.int 0)))))) (inR r0 a2 (some (.int (k : Nat))) r es) m = .ok b m := by
  have d3 : ∀ mm, modW mm (.int (k : Nat)) (.int 2) = some (.int ((k : Int) % 2)) := fun mm => modW_i (by decide)
  by_cases c1 : (6 : Int) < (k : Int)
  · by_cases c2 : (k : Int) < ((es.length : Nat) : Int)
    · by_cases c3 : 0 < (k : Int) % 2
      · exact ⟨true, by wp_walk using c1, c2, d3, c3⟩
      · exact ⟨false, by wp_walk using c1, c2, d3, c3⟩
    · exact ⟨false, by wp_walk using c1, c2⟩
  · exact ⟨false, by wp_walk using c1⟩
theorem inner_body {r : Rule} (hr : r.Ok) (ht : Tidy r) (es : List Ev) (hrow : isRow r room0 es = true) (hlen : es.length < 100) (r0 a2 : Option W) (m : Mem) (k : Nat) (hk : k < es.length + 1) : b_law_0 (inR r0 a2 (some (.int (k : Nat))) r es) m = .next (inR r0 a2 (some (.int (k : Nat))) r es) m ∨ b_law_0 (inR r0 a2 (some (.int (k : Nat))) r es) m = .cont (inR r0 a2 (some (.int (k : Nat))) r es) m := by
  have rest := inner_rest hr ht es hrow hlen r0 a2 m k hk
  obtain ⟨b, ht⟩ := inner_test r es r0 a2 m k
  unfold b_law_0
  cases b with
  | true =>
    refine .inr ?_
    rw [sSeq, sIf, ht]
    rfl
  | false =>
    refine .inl ?_
    rw [sSeq, sIf, ht]
    exact rest
theorem inner_ok {r : Rule} (hr : r.Ok) (ht : Tidy r) (es : List Ev) (hrow : isRow r room0 es = true) (hlen : es.length < 100) (r0 a2 a6 : Option W) (m : Mem) :
    ∃ a6', sFor (iRng (aCons (eBin addW (eFn lenW (aCons (eVar 4) aNil)) (eC (.int 1))) aNil)) (gN 6) b_law_0 (inR r0 a2 a6 r es) m = .next (inR r0 a2 a6' r es) m := by
  obtain ⟨N, hN⟩ : ∃ N, N = es.length + 1 := ⟨_, rfl⟩
  obtain ⟨r', m', e1, ⟨a6', e2⟩, e3⟩ := loop_pre (t := gN 6) (body := b_law_0) (fun k : Nat => W.int (k : Nat))
    (fun pre r1 m1 => (∃ a6, r1 = inR r0 a2 a6 r es) ∧ m1 = m)
    (List.range N) (inR r0 a2 a6 r es) m ⟨⟨_, rfl⟩, rfl⟩
    (fun pre k post r1 m1 hx ⟨⟨a6, h1⟩, h2⟩ => by
      subst h1 h2
      have hm : k ∈ List.range N := by rw [hx]; exact List.mem_append_right _ (.head _)
      have hk : k < es.length + 1 := by rw [← hN]; exact List.mem_range.mp hm
      have q0 : gN 6 (W.int (k : Nat)) (inR r0 a2 a6 r es) = some (inR r0 a2 (some (.int (k : Nat))) r es) := rfl
      unfold Steps
      rw [q0]
      show GoesD (b_law_0 (inR r0 a2 (some (.int (k : Nat))) r es) m1) _
      rcases inner_body hr ht es hrow hlen r0 a2 m1 k hk with q | q
      · rw [q]; exact ⟨⟨_, rfl⟩, rfl⟩
      · rw [q]; exact ⟨⟨_, rfl⟩, rfl⟩)
  subst e2 e3
  refine ⟨a6', ?_⟩
  rw [sFor, inner_src es N hN hlen]
  exact e1
theorem law_ok : LawOk (fun _ => 0) 63 r_law := fun ns h => by
  obtain ⟨cs, ls, hc, hc2, hl, e0⟩ := begin_ok ns h
  have st0 : StOk cs ls 0 := ⟨hc, hc2, hl, by decide⟩
  have e0' : r__law_begin [.old (ns.map .int)] [] = .ok (.ref 1) (stM cs ls 0 []) := e0
  obtain ⟨r', m', e1, ls', i', rest', a2, a3, a4, a5, a6, q1, q2, q3, q4⟩ := loop_pre (t := gN 2) (body := b_law_1) (fun k : Nat => W.int (k : Nat))
    (fun pre r1 m1 => ∃ ls' i' rest' a2 a3 a4 a5 a6, StOk cs ls' i' ∧ i' ≤ 100 * (pre.length : Int) ∧ r1 = [some (.old (ns.map .int)), some (.ref 1), a2, a3, a4, a5, a6] ∧ m1 = stM cs ls' i' rest')
    (List.range 5) [some (.old (ns.map .int)), some (.ref 1), none, none, none, none, none] (stM cs ls 0 [])
    ⟨ls, 0, [], none, none, none, none, none, st0, by simp, rfl, rfl⟩
    (fun pre x post r1 m1 hx ⟨ls', i', rest', a2, a3, a4, a5, a6, q1, q2, q3, q4⟩ => by
      subst q3 q4
      have hp : pre.length < 5 := by
        have := congrArg List.length hx
        simp at this
        omega
      obtain ⟨r0, l1, hr0, s1, er⟩ := lrule_ok q1 (by omega) rest'
      obtain ⟨v, l1b, v0, v1, s1b, ed⟩ := draw_st s1 (by omega) 2 (by omega) (by omega) rest'
      obtain ⟨bk, hbk, ebk⟩ : ∃ bk : Bk, bk ≠ .old ∧ ∀ mm, ixM mm (.lst [.str "asks", .str "tells"]) (.int v) = some (.str bk.s) := by
        have : v = 0 ∨ v = 1 := by omega
        rcases this with rfl | rfl
        · exact ⟨.asks, by decide, fun _ => atI_get (n := 0) rfl rfl⟩
        · exact ⟨.tells, by decide, fun _ => atI_get (n := 1) rfl rfl⟩
      obtain ⟨r, hrd⟩ : ∃ r : Rule, r = ⟨r0.k, r0.t, true, true, bk, true, r0.asks⟩ := ⟨_, rfl⟩
      have hr : r.Ok := by subst hrd; exact ⟨hr0.k1, hr0.k3, hr0.t0, hr0.tk⟩
      have ht : Tidy r := by subst hrd; exact ⟨rfl, rfl, rfl, hbk⟩
      obtain ⟨es, l2, i2, rest2, ro, s2, hi2, ew⟩ := lrow_ok s1b (by omega) r hr 30 (by omega) rest'
      have hl := ro.len
      obtain ⟨a6', ei⟩ := inner_ok hr ht es ro.row (by omega) (some (.old (ns.map .int))) (some (.int (x : Nat))) a6 (stM cs l2 i2 rest2)
      unfold Steps b_law_1
      have st1 : sSet 3 (eCall 1 r__law_rule (aCons (eVar 1) aNil)) [some (.old (ns.map .int)), some (.ref 1), some (.int (x : Nat)), a3, a4, a5, a6] (stM cs ls' i' rest') = .next [some (.old (ns.map .int)), some (.ref 1), some (.int (x : Nat)), some r0.w, a4, a5, a6] (stM cs l1 (i' + 7) rest') := by
        wp_walk using er
      have st1b : sSet 3 (eBin addW (eSl (eVar 3) oNone (oSome (eC (.int 2)))) (eTup (aCons (eC (.str "line")) (aCons (eC (.str "on")) (aCons (eBin ixM (eLst (aCons (eC (.str "asks")) (aCons (eC (.str "tells")) aNil))) (eCall 2 r__law_draw (aCons (eVar 1) (aCons (eC (.int 2)) aNil)))) (aCons (eC (.str "told")) (aCons (eBin ixM (eVar 3) (eC (.int 6))) aNil))))))) [some (.old (ns.map .int)), some (.ref 1), some (.int (x : Nat)), some r0.w, a4, a5, a6] (stM cs l1 (i' + 7) rest') = .next [some (.old (ns.map .int)), some (.ref 1), some (.int (x : Nat)), some r.w, a4, a5, a6] (stM cs l1b (i' + 7 + 1) rest') := by
        have ew0 : eSl (eVar 3) oNone (oSome (eC (.int 2))) [some (.old (ns.map .int)), some (.ref 1), some (.int (x : Nat)), some r0.w, a4, a5, a6] (stM cs l1 (i' + 7) rest') = .ok (.tup [.int r0.k, .int r0.t]) (stM cs l1 (i' + 7) rest') := rfl
        have ad : ∀ mm (a b c : W), addW mm (.tup [.int r0.k, .int r0.t]) (.tup [.str "line", .str "on", a, b, c]) = some (.tup [.int r0.k, .int r0.t, .str "line", .str "on", a, b, c]) := fun mm a b c => rfl
        have fin : W.tup [.int r0.k, .int r0.t, .str "line", .str "on", .str bk.s, .str "told", .str (lostS r0.asks)] = r.w := by subst hrd; rfl
        simp only [sSet, eBin, ew0, eTup, eLst, aCons, aNil, eC, eVar, eCall, Dn.R.bind, R.thenS, List.length_cons, List.length_nil, List.getElem?_cons_zero, List.getElem?_cons_succ, ed, ebk, rule6, ad, fin, Nat.reduceAdd, Nat.reduceLeDiff, if_true, List.set]
      have st2 : sAsg (eCall 3 r__law_row (aCons (eVar 1) (aCons (eVar 3) (aCons (eC (.int 30)) aNil)))) (gT (gsCons (gN 4) (gsCons (gN 5) gsNil))) [some (.old (ns.map .int)), some (.ref 1), some (.int (x : Nat)), some r.w, a4, a5, a6] (stM cs l1b (i' + 7 + 1) rest') = .next [some (.old (ns.map .int)), some (.ref 1), some (.int (x : Nat)), some r.w, some (.tup (es.map Ev.w)), some (.lst ((roomsOf r es).map roomW)), a6] (stM cs l2 i2 rest2) := by
        have ew' : r__law_row [.ref 1, r.w, .int 30] (stM cs l1b (i' + 7 + 1) rest') = .ok (.tup [.tup (es.map Ev.w), .lst ((roomsOf r es).map roomW)]) (stM cs l2 i2 rest2) := ew
        wp_walk using ew'
      have st3 : sIf (dTest (eBin notBW (eCall 1 r_is_tidy (aCons (eVar 3) aNil)) (eC (.bl true)))) (sRet (eC (.bl false))) sNil [some (.old (ns.map .int)), some (.ref 1), some (.int (x : Nat)), some r.w, some (.tup (es.map Ev.w)), some (.lst ((roomsOf r es).map roomW)), a6] (stM cs l2 i2 rest2) = .next [some (.old (ns.map .int)), some (.ref 1), some (.int (x : Nat)), some r.w, some (.tup (es.map Ev.w)), some (.lst ((roomsOf r es).map roomW)), a6] (stM cs l2 i2 rest2) := by
        have nb : ∀ mm, notBW mm (.bl true) (.bl true) = some (.bl false) := fun _ => rfl
        wp_walk using is_tidy_ok hr ht, nb
      simp only [gN, List.set]
      rw [seq_next st1, seq_next st1b, seq_next st2, seq_next st3, ei]
      refine ⟨l2, i2, rest2, _, _, _, _, _, s2, ?_, rfl, rfl⟩
      simp
      omega)
  subst q3 q4
  refine ⟨stM cs ls' i' rest', ?_⟩
  have s0 : s_law_0 [some (.old (ns.map .int)), none, none, none, none, none, none] [] = .next [some (.old (ns.map .int)), some (.ref 1), none, none, none, none, none] (stM cs ls 0 []) := by
    unfold s_law_0
    wp_walk using e0'
  have s1 : s_law_1 [some (.old (ns.map .int)), some (.ref 1), none, none, none, none, none] (stM cs ls 0 []) = .next [some (.old (ns.map .int)), some (.ref 1), a2, a3, a4, a5, a6] (stM cs ls' i' rest') := by
    unfold s_law_1
    have src : ∀ r m, iRng (aCons (eC (.int 5)) aNil) r m = .ok ((List.range 5).map fun k : Nat => W.int (k : Nat)) m := fun r m => rfl
    simp only [sFor, src, R.thenS, e1]
  unfold r_law d_law
  rw [runD, start1]
  simp only [List.replicate]
  rw [seq_next s0, seq_next s1]
  rfl
end
end L

open PySem PySem.W PySem.Calls PyProof.Rows
theorem PySem.Challenge.cw_asklast_k05_whole_tidy_rules_holds : PySem.Challenge.rw_asklast_k05_whole_tidy_rules.Holds := by
  w_on; o_law
  refine HandSHeadRun.head_any (r := OpenLaw.row PySem.Challenge.rw_asklast_k05_whole_tidy_rules) (q := view (OpenLaw.row PySem.Challenge.rw_asklast_k05_whole_tidy_rules).prog [80]) (H := L.hk) (ob := L.ob) (M := 8000) (loose := L.nms) (d := HandSHeadRun.topDef (OpenLaw.row PySem.Challenge.rw_asklast_k05_whole_tidy_rules).prog 80) (kwd := []) L.ob_eq
    (by kernel_rfl) (fun s => by kernel_rfl) L.run (by kernel_rfl) (by kernel_rfl) (by kernel_rfl) (by rfl) (by first | assumption | decide +kernel) (by decide +kernel) ⟨rfl, rfl, rfl, rfl, rfl, by decide +kernel⟩ ?hw ?hc
  case hw => w_witness2
  case hc =>
    refine Dn.walkW (l := PySem.Challenge.rw_asklast_k05_whole_tidy_rules) (k := 12) (x := "_law_script") (cl := L.cl) rfl (by kernel_rfl) ⟨⟨rfl, by decide, by decide⟩, rfl⟩ L.law_ok ?F
    intro w mg fa h Y G hmg0
    obtain ⟨K, KX, c⟩ := Y
    have hmg : mg ("law" : PySem.Str) = some (.ref fa) := by
      have e : (HandSHeadRun.topDef (OpenLaw.row PySem.Challenge.rw_asklast_k05_whole_tidy_rules).prog 80).name = ("law" : PySem.Str) := by kernel_rfl
      rw [← e]
      exact hmg0
    obtain ⟨fd, hb, hF⟩ := L.facts (P := (PySem.Challenge.rw_asklast_k05_whole_tidy_rules).prog) (w := w) KX G hmg c
    exact ⟨K, fd, KX, hb, hF⟩
