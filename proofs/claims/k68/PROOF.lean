import PyProof.Rows.All
import HandS.ForMost
import HandS.Exc
import HandS.WordsExc
import HandS.CallSlots
import HandS.Lambda
import HandS.TryMany
import HandS.Wide
import HandS.WideBits
import HandS.Defaults
import HandS.RevRange
import HandS.Zip
import HandS.DictComp
import HandS.IntHex
import PyProof.SumWalkG
import PyProof.Rows.CallKwBuiltin
import HandS.Head0
import HandS.Head1
import HandS.Head2
import HandS.HeadEnd
import HandS.HeadHook1
import HandS.HeadHook2
import HandS.Words
import HandS.Ends
import KE.OsArith
import Wide.All
import OpenK.AllK
import Wide.FinOn
import KE.KStateDown
import Lean
import HandS.Base
import HandS.Call
import HandS.More
import PySem.Challenge.RW_gatemill_k68_whole_halves_make_the_table
set_option Elab.async false
set_option linter.all false
set_option maxRecDepth 100000
set_option maxHeartbeats 4000000
/-! Gm1: data as trees and cells, the ghost, the relation to the abstract heap. -/
namespace Gm
open PySem PySem.Spec PyProof.Rows L2

/-- data: trees that never change, and names of cells -/
inductive D where
  | non | bl (b : Bool) | int (i : Int) | str (x : Str)
  | tup (l : List D) | lst (l : List D) | fro (l : List D) | dct (l : List (Key × D))
  | obj (c : Str) (fs : List (Str × D))
  | ref (n : Nat)
  | ty (n : String) | cls (n : Str)
instance : Inhabited D := ⟨.non⟩

/-- what may change -/
inductive Cell where
  | lst (l : List D) | dct (l : List (Key × D)) | obj (c : Str) (fs : List (Str × D))

abbrev Store := List (Option Cell)

mutual
def D.lw (n : Nat) : D → Bool
  | .tup l => D.lws n l
  | .lst l => D.lws n l
  | .fro l => D.lws n l
  | .dct l => D.lwk n l
  | .obj _ fs => D.lwf n fs
  | .ref m => decide (m < n)
  | _ => true
def D.lws (n : Nat) : List D → Bool
  | [] => true
  | d :: r => d.lw n && D.lws n r
def D.lwk (n : Nat) : List (Key × D) → Bool
  | [] => true
  | (_, d) :: r => d.lw n && D.lwk n r
def D.lwf (n : Nat) : List (Str × D) → Bool
  | [] => true
  | (_, d) :: r => d.lw n && D.lwf n r
end
def Cell.lw (n : Nat) : Cell → Bool
  | .lst l => D.lws n l
  | .dct l => D.lwk n l
  | .obj _ fs => D.lwf n fs
def cellLw (n : Nat) : Option Cell → Bool
  | some c => c.lw n
  | none => true

/-- the ghost: where the cells stand; the part of the heap that stays -/
structure Gh where
  io : Nat → Addr
  tr : Hp

/-- the module's side: the written part, the classes by name, the tables of code objects -/
structure Cf where
  K : PySem.W.Frag
  cl : Str → Option Addr
  tabs : List (Addr × Str)

mutual
inductive RV (c : Cf) (g : Gh) (L : Nat) : D → V → Prop where
  | non : RV c g L .non .non
  | bl (b : Bool) : RV c g L (.bl b) (.bl b)
  | int (i : Int) : RV c g L (.int i) (.int i)
  | str (x : Str) : RV c g L (.str x) (.str x)
  | tup {ds : List D} {a : Addr} {vs : List V} (h : SqT c.K g.tr a vs) (r : RVs c g L ds vs) : RV c g L (.tup ds) (.ref a)
  | lst {ds : List D} {a : Addr} {vs : List V} (h : g.tr a = some (.lst vs)) (r : RVs c g L ds vs) : RV c g L (.lst ds) (.ref a)
  | fro {ds : List D} {a : Addr} {vs : List V} (h : SqL c.K g.tr a vs) (r : RVs c g L ds vs) : RV c g L (.fro ds) (.ref a)
  | dct {l : List (Key × D)} {a : Addr} {kvs : List (Key × V)} (h : g.tr a = some (.dK kvs)) (r : RKs c g L l kvs) : RV c g L (.dct l) (.ref a)
  | obj {n : Str} {fs : List (Str × D)} {a C dx : Addr} {fvs : List (Str × V)} (h : g.tr a = some (.ins C dx fvs)) (hc : c.cl n = some C) (r : RFs c g L fs fvs) : RV c g L (.obj n fs) (.ref a)
  | ref {n : Nat} (h : n < L) : RV c g L (.ref n) (.ref (g.io n))
  | ty (n : String) : RV c g L (.ty n) (.ty n)
  | cls {n : Str} {C : Addr} (h : c.cl n = some C) : RV c g L (.cls n) (.ref C)
inductive RVs (c : Cf) (g : Gh) (L : Nat) : List D → List V → Prop where
  | nil : RVs c g L [] []
  | cons {d : D} {v : V} {ds : List D} {vs : List V} (h : RV c g L d v) (r : RVs c g L ds vs) : RVs c g L (d :: ds) (v :: vs)
inductive RKs (c : Cf) (g : Gh) (L : Nat) : List (Key × D) → List (Key × V) → Prop where
  | nil : RKs c g L [] []
  | cons {k : Key} {d : D} {v : V} {ds : List (Key × D)} {vs : List (Key × V)} (h : RV c g L d v) (r : RKs c g L ds vs) : RKs c g L ((k, d) :: ds) ((k, v) :: vs)
inductive RFs (c : Cf) (g : Gh) (L : Nat) : List (Str × D) → List (Str × V) → Prop where
  | nil : RFs c g L [] []
  | cons {k : Str} {d : D} {v : V} {ds : List (Str × D)} {vs : List (Str × V)} (h : RV c g L d v) (r : RFs c g L ds vs) : RFs c g L ((k, d) :: ds) ((k, v) :: vs)
end

theorem SqL.sub {K : PySem.W.Frag} {H H' : Hp} {a : Addr} {xs : List V} (e : ∀ b o, H b = some o → H' b = some o) (h : SqL K H a xs) : SqL K H' a xs := Same.seq e h
theorem SqT.sub {K : PySem.W.Frag} {H H' : Hp} {a : Addr} {xs : List V} (e : ∀ b o, H b = some o → H' b = some o) (h : SqT K H a xs) : SqT K H' a xs := by
  rcases h with (h | ⟨o, h⟩) | h
  · exact .inl (.inl (e _ _ h))
  · exact .inl (.inr ⟨o, e _ _ h⟩)
  · exact .inr h

/-- g' goes on from g below L -/
structure Gx (g : Gh) (L : Nat) (g' : Gh) : Prop where
  io : ∀ n, n < L → g'.io n = g.io n
  tr : ∀ a o, g.tr a = some o → g'.tr a = some o
theorem Gx.refl (g : Gh) (L : Nat) : Gx g L g := ⟨fun _ _ => rfl, fun _ _ h => h⟩

section
variable {c : Cf} {g g' : Gh} {L L' : Nat}
mutual
theorem RV.mono (x : Gx g L g') (hl : L ≤ L') : ∀ {d : D} {v : V}, RV c g L d v → RV c g' L' d v
  | _, _, .non => .non
  | _, _, .bl b => .bl b
  | _, _, .int i => .int i
  | _, _, .str s => .str s
  | _, _, .tup h r => .tup (SqT.sub x.tr h) (RVs.mono x hl r)
  | _, _, .lst h r => .lst (x.tr _ _ h) (RVs.mono x hl r)
  | _, _, .fro h r => .fro (SqL.sub x.tr h) (RVs.mono x hl r)
  | _, _, .dct h r => .dct (x.tr _ _ h) (RKs.mono x hl r)
  | _, _, .obj h hc r => .obj (x.tr _ _ h) hc (RFs.mono x hl r)
  | _, _, .ref (n := n) h => by
    have e := x.io n h
    rw [← e]
    exact .ref (Nat.lt_of_lt_of_le h hl)
  | _, _, .ty n => .ty n
  | _, _, .cls h => .cls h
theorem RVs.mono (x : Gx g L g') (hl : L ≤ L') : ∀ {d : List D} {v : List V}, RVs c g L d v → RVs c g' L' d v
  | _, _, .nil => .nil
  | _, _, .cons h r => .cons (RV.mono x hl h) (RVs.mono x hl r)
theorem RKs.mono (x : Gx g L g') (hl : L ≤ L') : ∀ {d : List (Key × D)} {v : List (Key × V)}, RKs c g L d v → RKs c g' L' d v
  | _, _, .nil => .nil
  | _, _, .cons h r => .cons (RV.mono x hl h) (RKs.mono x hl r)
theorem RFs.mono (x : Gx g L g') (hl : L ≤ L') : ∀ {d : List (Str × D)} {v : List (Str × V)}, RFs c g L d v → RFs c g' L' d v
  | _, _, .nil => .nil
  | _, _, .cons h r => .cons (RV.mono x hl h) (RFs.mono x hl r)
end
mutual
theorem RV.low {n : Nat} : ∀ {d : D} {v : V}, RV c g L d v → d.lw n = true → RV c g n d v
  | _, _, .non, _ => .non
  | _, _, .bl b, _ => .bl b
  | _, _, .int i, _ => .int i
  | _, _, .str s, _ => .str s
  | _, _, .tup h r, b => .tup h (RVs.low r (by simpa only [D.lw] using b))
  | _, _, .lst h r, b => .lst h (RVs.low r (by simpa only [D.lw] using b))
  | _, _, .fro h r, b => .fro h (RVs.low r (by simpa only [D.lw] using b))
  | _, _, .dct h r, b => .dct h (RKs.low r (by simpa only [D.lw] using b))
  | _, _, .obj h hc r, b => .obj h hc (RFs.low r (by simpa only [D.lw] using b))
  | _, _, .ref h, b => .ref (by simpa only [D.lw, decide_eq_true_eq] using b)
  | _, _, .ty n, _ => .ty n
  | _, _, .cls h, _ => .cls h
theorem RVs.low {n : Nat} : ∀ {d : List D} {v : List V}, RVs c g L d v → D.lws n d = true → RVs c g n d v
  | _, _, .nil, _ => .nil
  | _, _, .cons h r, b => by
    simp only [D.lws, Bool.and_eq_true] at b
    exact .cons (RV.low h b.1) (RVs.low r b.2)
theorem RKs.low {n : Nat} : ∀ {d : List (Key × D)} {v : List (Key × V)}, RKs c g L d v → D.lwk n d = true → RKs c g n d v
  | _, _, .nil, _ => .nil
  | _, _, .cons h r, b => by
    simp only [D.lwk, Bool.and_eq_true] at b
    exact .cons (RV.low h b.1) (RKs.low r b.2)
theorem RFs.low {n : Nat} : ∀ {d : List (Str × D)} {v : List (Str × V)}, RFs c g L d v → D.lwf n d = true → RFs c g n d v
  | _, _, .nil, _ => .nil
  | _, _, .cons h r, b => by
    simp only [D.lwf, Bool.and_eq_true] at b
    exact .cons (RV.low h b.1) (RFs.low r b.2)
end
theorem RVs.length : ∀ {d : List D} {v : List V}, RVs c g L d v → d.length = v.length
  | _, _, .nil => rfl
  | _, _, .cons _ r => by simp only [List.length_cons, RVs.length r]
theorem RVs.get : ∀ {d : List D} {v : List V} {i : Nat} {x : D}, RVs c g L d v → d[i]? = some x → ∃ y, v[i]? = some y ∧ RV c g L x y
  | _, _, _, _, .nil, e => by simp at e
  | _, _, 0, _, .cons h _, e => by simp at e; subst e; exact ⟨_, rfl, h⟩
  | _, _, i + 1, _, .cons _ r, e => by
    obtain ⟨y, e1, e2⟩ := RVs.get (i := i) r (by simpa using e)
    exact ⟨y, by simpa using e1, e2⟩
theorem RVs.append : ∀ {d d' : List D} {v v' : List V}, RVs c g L d v → RVs c g L d' v' → RVs c g L (d ++ d') (v ++ v')
  | _, _, _, _, .nil, s => s
  | _, _, _, _, .cons h r, s => .cons h (RVs.append r s)
theorem RVs.set {x : D} {y : V} (q : RV c g L x y) : ∀ {d : List D} {v : List V} (i : Nat), RVs c g L d v → RVs c g L (d.set i x) (v.set i y)
  | _, _, _, .nil => .nil
  | _, _, 0, .cons _ r => .cons q r
  | _, _, i + 1, .cons h r => .cons h (RVs.set q i r)
theorem RVs.eraseIdx : ∀ {d : List D} {v : List V} (i : Nat), RVs c g L d v → RVs c g L (d.eraseIdx i) (v.eraseIdx i)
  | _, _, _, .nil => .nil
  | _, _, 0, .cons _ r => r
  | _, _, i + 1, .cons h r => .cons h (RVs.eraseIdx i r)
theorem RVs.take : ∀ {d : List D} {v : List V} (n : Nat), RVs c g L d v → RVs c g L (d.take n) (v.take n)
  | _, _, 0, _ => by simp; exact .nil
  | _, _, _ + 1, .nil => by simp; exact .nil
  | _, _, n + 1, .cons h r => by simp; exact .cons h (RVs.take n r)
theorem RVs.drop : ∀ {d : List D} {v : List V} (n : Nat), RVs c g L d v → RVs c g L (d.drop n) (v.drop n)
  | _, _, 0, r => by simpa using r
  | _, _, _ + 1, .nil => by simp; exact .nil
  | _, _, n + 1, .cons h r => by simpa using RVs.drop n r
end

/-- a cell's content at its address -/
def RC (c : Cf) (g : Gh) (L : Nat) (H : Hp) : Cell → Addr → Prop
  | .lst ds, a => ∃ vs, H a = some (.lst vs) ∧ RVs c g L ds vs
  | .dct l, a => ∃ kvs, H a = some (.dK kvs) ∧ RKs c g L l kvs
  | .obj n fs, a => ∃ C dx fvs, H a = some (.ins C dx fvs) ∧ c.cl n = some C ∧ RFs c g L fs fvs
theorem RC.mono {c : Cf} {g g' : Gh} {L L' : Nat} {H H' : Hp} {ce : Cell} {a : Addr} (x : Gx g L g') (hl : L ≤ L') (hH : H' a = H a) (r : RC c g L H ce a) : RC c g' L' H' ce a := by
  cases ce with
  | lst ds => obtain ⟨vs, e, r⟩ := r; exact ⟨vs, hH.trans e, r.mono x hl⟩
  | dct l => obtain ⟨vs, e, r⟩ := r; exact ⟨vs, hH.trans e, r.mono x hl⟩
  | obj n fs => obtain ⟨C, dx, vs, e, hc, r⟩ := r; exact ⟨C, dx, vs, hH.trans e, hc, r.mono x hl⟩
theorem RC.low {c : Cf} {g : Gh} {L n : Nat} {H : Hp} {ce : Cell} {a : Addr} (r : RC c g L H ce a) (b : ce.lw n = true) : RC c g n H ce a := by
  cases ce with
  | lst ds => obtain ⟨vs, e, r⟩ := r; exact ⟨vs, e, r.low b⟩
  | dct l => obtain ⟨vs, e, r⟩ := r; exact ⟨vs, e, r.low b⟩
  | obj n fs => obtain ⟨C, dx, vs, e, hc, r⟩ := r; exact ⟨C, dx, vs, e, hc, r.low b⟩
theorem RC.some {c : Cf} {g : Gh} {L : Nat} {H : Hp} {ce : Cell} {a : Addr} (r : RC c g L H ce a) : ∃ o, H a = some o ∧ Mut (some o) := by
  cases ce with
  | lst ds => obtain ⟨vs, e, r⟩ := r; exact ⟨_, e, trivial⟩
  | dct l => obtain ⟨vs, e, r⟩ := r; exact ⟨_, e, trivial⟩
  | obj n fs => obtain ⟨C, dx, vs, e, hc, r⟩ := r; exact ⟨_, e, trivial⟩

def Live (h : Store) (n : Nat) : Prop := ∃ c, h[n]? = some (some c)
theorem Live.lt {h : Store} {n : Nat} (l : Live h n) : n < h.length := by
  obtain ⟨c, e⟩ := l
  exact (List.getElem?_eq_some_iff.mp e).1

/-- the store and the ghost are held by the heap -/
structure SR (c : Cf) (g : Gh) (h : Store) (H : Hp) : Prop where
  sub : ∀ a o, g.tr a = some o → H a = some o
  apart : ∀ n, Live h n → g.tr (g.io n) = none
  cell : ∀ n ce, h[n]? = some (some ce) → RC c g h.length H ce (g.io n)
  inj : ∀ n m, Live h n → Live h m → g.io n = g.io m → n = m
  tabs : LamX.Tabs c.tabs H

/-- from one state to a later one -/
structure Go (g : Gh) (h : Store) (H : Hp) (g' : Gh) (h' : Store) (H' : Hp) : Prop where
  len : h.length ≤ h'.length
  io : ∀ n, n < h.length → g'.io n = g.io n
  tr : ∀ a o, g.tr a = some o → g'.tr a = some o
  dm : ∀ a o, H a = some o → ∃ o', H' a = some o'
  fr : ∀ a o, H a = some o → (∀ ps, o ≠ .tbl ps) → (∀ n, Live h n → g.io n ≠ a) → H' a = some o
  tn : ∀ a o, H a = some o → (∀ ps, o ≠ .tbl ps) → g.tr a = none → (∀ n, Live h n → g.io n ≠ a) → g'.tr a = none
  old : ∀ n, n < h.length → Live h' n → Live h n
  new : ∀ n, h.length ≤ n → Live h' n → H (g'.io n) = none
theorem Go.gx {g g' : Gh} {h h' : Store} {H H' : Hp} (x : Go g h H g' h' H') : Gx g h.length g' := ⟨x.io, x.tr⟩
theorem Go.refl (g : Gh) (h : Store) (H : Hp) : Go g h H g h H :=
  ⟨Nat.le_refl _, fun _ _ => rfl, fun _ _ e => e, fun _ o e => ⟨o, e⟩, fun _ _ e _ _ => e, fun _ _ _ _ e _ => e, fun _ _ l => l, fun n hn l => absurd l.lt (Nat.not_lt.mpr hn)⟩
theorem Go.apart {g g' : Gh} {h h' : Store} {H H' : Hp} (x : Go g h H g' h' H') {a : Addr} {o : HO} (e : H a = some o) (nl : ∀ n, Live h n → g.io n ≠ a) : ∀ n, Live h' n → g'.io n ≠ a := fun n l z => by
  by_cases hn : n < h.length
  · have l0 := x.old n hn l
    rw [x.io n hn] at z
    exact nl n l0 z
  · have q := x.new n (Nat.not_lt.mp hn) l
    rw [z, e] at q
    cases q
theorem Go.trans {g g1 g2 : Gh} {h h1 h2 : Store} {H H1 H2 : Hp} (x : Go g h H g1 h1 H1) (y : Go g1 h1 H1 g2 h2 H2) : Go g h H g2 h2 H2 where
  len := Nat.le_trans x.len y.len
  io := fun n hn => (y.io n (Nat.lt_of_lt_of_le hn x.len)).trans (x.io n hn)
  tr := fun a o e => y.tr a o (x.tr a o e)
  dm := fun a o e => by
    obtain ⟨o1, e1⟩ := x.dm a o e
    exact y.dm a o1 e1
  fr := fun a o e nt nl => y.fr a o (x.fr a o e nt nl) nt (x.apart e nl)
  tn := fun a o e nt tn nl => y.tn a o (x.fr a o e nt nl) nt (x.tn a o e nt tn nl) (x.apart e nl)
  old := fun n hn l => x.old n hn (y.old n (Nat.lt_of_lt_of_le hn x.len) l)
  new := fun n hn l => by
    by_cases hn1 : n < h1.length
    · have l1 := y.old n hn1 l
      rw [y.io n hn1]
      exact x.new n hn l1
    · have q := y.new n (Nat.not_lt.mp hn1) l
      cases e : H (g2.io n) with
      | none => rfl
      | some o =>
        obtain ⟨o1, e1⟩ := x.dm _ _ e
        rw [e1] at q
        cases q

/-! ### steps -/
section
variable {c : Cf} {g : Gh} {h : Store} {H : Hp}
theorem SR.rvs_mono {g' : Gh} {h' : Store} {H' : Hp} (x : Go g h H g' h' H') {d : D} {v : V} (r : RV c g h.length d v) : RV c g' h'.length d v := r.mono x.gx x.len
theorem tabs_alloc {T : List (Addr × Str)} {p : Addr} {o : HO} (t : LamX.Tabs T H) (hp : H p = none) : LamX.Tabs T (upd H p o) := t.ext fun b u e => by
  rw [upd_ne (ne_of_none e hp)]
  exact e
theorem tabs_write {T : List (Addr × Str)} {p : Addr} {o u : HO} (t : LamX.Tabs T H) (hp : H p = some u) (mu : Mut (some u)) (nx : ∀ φ, u ≠ .ext φ) : LamX.Tabs T (upd H p o) := fun q hq => by
  obtain ⟨ps, h1, h2, h3⟩ := t q hq
  have n1 : q.1 ≠ p := fun z => by
    rw [z, hp] at h1
    cases h1
    exact mu
  refine ⟨ps, by rw [upd_ne n1]; exact h1, h2, fun pos cv hc => ?_⟩
  obtain ⟨a, e1, e2⟩ := h3 pos cv hc
  refine ⟨a, e1, ?_⟩
  have n2 : a ≠ p := fun z => by
    rw [z, hp] at e2
    cases e2
    exact nx _ rfl
  rw [upd_ne n2]
  exact e2
/-- a new thing that stays -/
theorem SR.tree (S : SR c g h H) {p : Addr} {o : HO} (hp : H p = none) : SR c { g with tr := upd g.tr p o } h (upd H p o) ∧ Go g h H { g with tr := upd g.tr p o } h (upd H p o) := by
  have np : ∀ {a u}, g.tr a = some u → a ≠ p := fun {a u} e => ne_of_none (S.sub a u e) hp
  have tp : g.tr p = none := by
    cases e : g.tr p with
    | none => rfl
    | some u => exact absurd rfl (np e)
  have nl : ∀ n, Live h n → g.io n ≠ p := fun n ⟨ce, e⟩ z => by
    obtain ⟨u, q, _⟩ := (S.cell n ce e).some
    rw [z, hp] at q
    cases q
  have gx : Gx g h.length { g with tr := upd g.tr p o } := ⟨fun _ _ => rfl, fun a u e => by
    show upd g.tr p o a = some u
    rw [upd_ne (np e)]
    exact e⟩
  refine ⟨⟨fun a u e => ?_, fun n l => ?_, fun n ce e => ?_, S.inj, tabs_alloc S.tabs hp⟩, ⟨Nat.le_refl _, gx.io, gx.tr, fun a u e => ⟨u, by rw [upd_ne (ne_of_none e hp)]; exact e⟩, fun a u e _ _ => by rw [upd_ne (ne_of_none e hp)]; exact e, fun a u e _ t _ => ?_, fun _ _ l => l, fun n hn l => absurd l.lt (Nat.not_lt.mpr hn)⟩⟩
  · have e : upd g.tr p o a = some u := e
    by_cases z : a = p
    · rw [z, upd_same] at e
      rw [z, upd_same]
      exact e
    · rw [upd_ne z] at e
      rw [upd_ne z]
      exact S.sub a u e
  · show upd g.tr p o (g.io n) = none
    rw [upd_ne (nl n l)]
    exact S.apart n l
  · exact (S.cell n ce e).mono gx (Nat.le_refl _) (upd_ne (nl n ⟨ce, e⟩))
  · show upd g.tr p o a = none
    rw [upd_ne (ne_of_none e hp)]
    exact t
theorem live_push {n : Nat} {ce : Cell} (l : Live (h ++ [some ce]) n) : Live h n ∨ n = h.length := by
  obtain ⟨c1, e⟩ := l
  by_cases hn : n < h.length
  · rw [List.getElem?_append_left hn] at e
    exact .inl ⟨c1, e⟩
  · rw [List.getElem?_append_right (Nat.not_lt.mp hn)] at e
    have := (List.getElem?_eq_some_iff.mp e).1
    simp at this
    exact .inr (by omega)
/-- a new cell -/
def Gh.push (g : Gh) (L : Nat) (p : Addr) : Gh := { g with io := fun n => if n = L then p else g.io n }
theorem SR.push (S : SR c g h H) {p : Addr} {o : HO} {ce : Cell} (hp : H p = none) (rc : ∀ g' , Gx g h.length g' → RC c g' (h ++ [some ce]).length (upd H p o) ce p) :
    SR c (g.push h.length p) (h ++ [some ce]) (upd H p o) ∧ Go g h H (g.push h.length p) (h ++ [some ce]) (upd H p o) := by
  have gx : Gx g h.length (g.push h.length p) := ⟨fun n hn => by
    show (if n = h.length then p else g.io n) = g.io n
    rw [if_neg (Nat.ne_of_lt hn)], fun _ _ e => e⟩
  have tp : g.tr p = none := by
    cases e : g.tr p with
    | none => rfl
    | some u => rw [S.sub _ _ e] at hp; cases hp
  have nl : ∀ n, Live h n → g.io n ≠ p := fun n ⟨ce, e⟩ z => by
    obtain ⟨u, q, _⟩ := (S.cell n ce e).some
    rw [z, hp] at q
    cases q
  have io : ∀ n, Live h n → (g.push h.length p).io n = g.io n := fun n l => gx.io n l.lt
  have ioL : (g.push h.length p).io h.length = p := by
    show (if h.length = h.length then p else _) = p
    rw [if_pos rfl]
  refine ⟨⟨fun a u e => ?_, fun n l => ?_, fun n ce' e => ?_, fun n m l1 l2 e => ?_, tabs_alloc S.tabs hp⟩, ⟨by simp, gx.io, gx.tr, fun a u e => ⟨u, by rw [upd_ne (ne_of_none e hp)]; exact e⟩, fun a u e _ _ => by rw [upd_ne (ne_of_none e hp)]; exact e, fun a u e _ t _ => t, fun n hn l => ?_, fun n hn l => ?_⟩⟩
  · have e : g.tr a = some u := e
    rw [upd_ne (ne_of_none (S.sub a u e) hp)]
    exact S.sub a u e
  · show g.tr _ = none
    rcases live_push l with l | rfl
    · rw [io n l]
      exact S.apart n l
    · rw [ioL]
      exact tp
  · rcases live_push ⟨ce', e⟩ with l | rfl
    · rw [List.getElem?_append_left l.lt] at e
      rw [io n l]
      exact (S.cell n ce' e).mono gx (by simp) (upd_ne (nl n l))
    · have e2 : ce' = ce := by simpa using e.symm
      rw [e2, ioL]
      exact rc _ gx
  · rcases live_push l1 with l1 | rfl <;> rcases live_push l2 with l2 | rfl
    · rw [io n l1, io m l2] at e
      exact S.inj n m l1 l2 e
    · rw [io n l1, ioL] at e
      exact absurd e (nl n l1)
    · rw [io m l2, ioL] at e
      exact absurd e.symm (nl m l2)
    · rfl
  · rcases live_push l with l | rfl
    · exact l
    · exact absurd hn (Nat.lt_irrefl _)
  · rcases live_push l with l | rfl
    · exact absurd l.lt (Nat.not_lt.mpr hn)
    · rw [ioL]
      exact hp
theorem live_set {n m : Nat} {ce : Cell} (l : Live (h.set n (some ce)) m) : m ≠ n → Live h m := fun hn => by
  obtain ⟨c1, e⟩ := l
  rw [List.getElem?_set_ne (Ne.symm hn)] at e
  exact ⟨c1, e⟩
/-- a cell is written -/
theorem SR.write (S : SR c g h H) {n : Nat} {o : HO} {ce ce' : Cell} (hn : h[n]? = some (some ce)) (rc : RC c g h.length (upd H (g.io n) o) ce' (g.io n)) :
    SR c g (h.set n (some ce')) (upd H (g.io n) o) ∧ Go g h H g (h.set n (some ce')) (upd H (g.io n) o) := by
  have ln : Live h n := ⟨ce, hn⟩
  obtain ⟨u, hu, mu⟩ := (S.cell n ce hn).some
  have nx : ∀ φ, u ≠ .ext φ := fun φ z => by
    have rr := S.cell n ce hn
    subst z
    cases ce with
    | lst ds => obtain ⟨_, e, _⟩ := rr; rw [hu] at e; cases e
    | dct ds => obtain ⟨_, e, _⟩ := rr; rw [hu] at e; cases e
    | obj _ ds => obtain ⟨_, _, _, e, _⟩ := rr; rw [hu] at e; cases e
  have lv : ∀ m, Live (h.set n (some ce')) m → Live h m := fun m l => by
    by_cases z : m = n
    · rw [z]; exact ln
    · exact live_set l z
  have ne : ∀ m, Live h m → m ≠ n → g.io m ≠ g.io n := fun m l z e => z (S.inj m n l ln e)
  have tp : ∀ {a u}, g.tr a = some u → a ≠ g.io n := fun {a u} e z => by
    rw [z, S.apart n ln] at e
    cases e
  refine ⟨⟨fun a u e => by rw [upd_ne (tp e)]; exact S.sub a u e, fun m l => S.apart m (lv m l), fun m ce2 e => ?_, fun m k l1 l2 e => S.inj m k (lv m l1) (lv k l2) e, tabs_write S.tabs hu mu nx⟩,
    ⟨by simp, fun _ _ => rfl, fun _ _ e => e, fun a u e => ?_, fun a u e _ nl => by rw [upd_ne (Ne.symm (nl n ln))]; exact e, fun a u e _ t _ => t, fun m _ l => lv m l, fun m hm l => absurd l.lt (by simpa using hm)⟩⟩
  · rw [List.length_set]
    by_cases z : m = n
    · subst z
      rw [List.getElem?_set_self ln.lt] at e
      cases e
      exact rc
    · rw [List.getElem?_set_ne (Ne.symm z)] at e
      exact (S.cell m ce2 e).mono (Gx.refl _ _) (Nat.le_refl _) (upd_ne (ne m ⟨_, e⟩ z))
  · by_cases z : a = g.io n
    · exact ⟨o, by rw [z, upd_same]⟩
    · exact ⟨u, by rw [upd_ne z]; exact e⟩
/-- cells above are let go -/
theorem live_take {n m : Nat} (l : Live (h.take n) m) : Live h m ∧ m < n := by
  obtain ⟨c1, e⟩ := l
  have hm : m < n := by
    have := (List.getElem?_eq_some_iff.mp e).1
    simp at this
    omega
  rw [List.getElem?_take_of_lt hm] at e
  exact ⟨⟨c1, e⟩, hm⟩
theorem SR.take (S : SR c g h H) {n : Nat} (hn : n ≤ h.length) (b : (h.take n).all (cellLw n) = true) : SR c g (h.take n) H := by
  refine ⟨S.sub, fun m l => S.apart m (live_take l).1, fun m ce e => ?_, fun m k l1 l2 e => S.inj m k (live_take l1).1 (live_take l2).1 e, S.tabs⟩
  have l := live_take ⟨ce, e⟩
  rw [List.getElem?_take_of_lt l.2] at e
  have hb : ce.lw n = true := by
    have := List.all_eq_true.mp b (some ce) (List.mem_of_getElem? (by rw [List.getElem?_take_of_lt l.2]; exact e))
    exact this
  rw [List.length_take, Nat.min_eq_left hn]
  exact (S.cell m ce e).low hb
theorem Go.take {g' : Gh} {h' : Store} {H' : Hp} (x : Go g h H g' h' H') : Go g h H g' (h'.take h.length) H' where
  len := by rw [List.length_take]; have := x.len; omega
  io := x.io
  tr := x.tr
  dm := x.dm
  fr := x.fr
  tn := x.tn
  old := fun n hn l => x.old n hn (live_take l).1
  new := fun n hn l => x.new n hn (live_take l).1
end
end Gm

/-! Gm2: what code does as a function; the readings that it answers. -/
namespace Gm
open PySem PySem.Spec PyProof.Rows L2

structure Exn where
  cls : Str
  pay : Option (Str × D)
inductive Res (α : Type) where
  | ok (a : α) (h : Store)
  | exc (e : Exn) (h : Store)
  | no
abbrev Slots := List (Option D)
abbrev Ev (α : Type) := Slots → Store → Res α
def Res.bind {α β : Type} (r : Res α) (k : α → Store → Res β) : Res β :=
  match r with
  | .ok a h => k a h
  | .exc e h => .exc e h
  | .no => .no
@[simp] theorem Res.bind_ok {α β : Type} (a : α) (h : Store) (k : α → Store → Res β) : (Res.ok a h).bind k = k a h := rfl
@[simp] theorem Res.bind_exc {α β : Type} (e : Exn) (h : Store) (k : α → Store → Res β) : (Res.exc e h : Res α).bind k = .exc e h := rfl
@[simp] theorem Res.bind_no {α β : Type} (k : α → Store → Res β) : (Res.no : Res α).bind k = .no := rfl

/-- an exception as it lies -/
def RX (c : Cf) (g : Gh) (L : Nat) (e : Exn) (cls : Value) (dd : Option Addr) : Prop :=
  ∃ C, c.cl e.cls = some C ∧ cls = .ref C ∧ match e.pay with
    | none => dd = none
    | some (f, d) => ∃ a v, dd = some a ∧ g.tr a = some (.xd [(f, v)]) ∧ RV c g L d v
/-- what is wanted of a result -/
def RP (c : Cf) {α β : Type} (R : Gh → Nat → α → β → Prop) (g : Gh) (h : Store) (H : Hp) (r : Res α) (Q : β → Hp → Prop) (E : XK) : Prop :=
  match r with
  | .ok a h' => ∀ g' H' v, Go g h H g' h' H' → SR c g' h' H' → R g' h'.length a v → Q v H'
  | .exc e h' => ∀ g' H' cls dd, Go g h H g' h' H' → SR c g' h' H' → RX c g' h'.length e cls dd → E cls dd H'
  | .no => False
section
variable {c : Cf} {α β α' β' : Type} {R : Gh → Nat → α → β → Prop} {R' : Gh → Nat → α' → β' → Prop} {g g1 : Gh} {h h1 : Store} {H H1 : Hp} {Q : β → Hp → Prop} {E : XK}
theorem RP.go {r : Res α} (x : RP c R g h H r Q E) (o : Go g h H g1 h1 H1) : RP c R g1 h1 H1 r Q E := by
  cases r with
  | ok a h' => exact fun g' H' v o' s r => x g' H' v (o.trans o') s r
  | exc e h' => exact fun g' H' cls dd o' s r => x g' H' cls dd (o.trans o') s r
  | no => exact x
theorem RP.bind {r : Res α'} {k : α' → Store → Res α} (x : RP c R g h H (r.bind k) Q E) :
    RP c R' g h H r (fun (v : β') H1 => ∃ d h1 g1, Go g h H g1 h1 H1 ∧ SR c g1 h1 H1 ∧ R' g1 h1.length d v ∧ RP c R g1 h1 H1 (k d h1) Q E) E := by
  cases r with
  | ok a h' => exact fun g' H' v o s r => ⟨a, h', g', o, s, r, RP.go (r := k a h') x o⟩
  | exc e h' => exact x
  | no => exact x
theorem RP.mono {r : Res α} {Q' : β → Hp → Prop} (x : RP c R g h H r Q E) (k : ∀ v H', Q v H' → Q' v H') : RP c R g h H r Q' E := by
  cases r with
  | ok a h' => exact fun g' H' v o s r => k _ _ (x g' H' v o s r)
  | exc e h' => exact x
  | no => exact x
theorem RP.ok_here {a : α} {v : β} (x : RP c R g h H (.ok a h) Q E) (S : SR c g h H) (r : R g h.length a v) : Q v H := x g H v (Go.refl _ _ _) S r
end
abbrev Rv (c : Cf) : Gh → Nat → D → V → Prop := fun g L d v => RV c g L d v
abbrev Rvs (c : Cf) : Gh → Nat → List D → List V → Prop := fun g L d v => RVs c g L d v
abbrev Rb : Gh → Nat → Bool → Bool → Prop := fun _ _ a b => a = b

/-- the slots -/
def SL (c : Cf) (g : Gh) (L : Nat) (st : Slots) (σ : L2.St) : Prop := st.length = σ.length ∧ ∀ (i : Nat) d, st[i]? = some (some d) → ∃ v, σ[i]? = some (some v) ∧ RV c g L d v
theorem SL.go {c : Cf} {g g' : Gh} {h h' : Store} {H H' : Hp} {st : Slots} {σ : L2.St} (s : SL c g h.length st σ) (o : Go g h H g' h' H') : SL c g' h'.length st σ :=
  ⟨s.1, fun i d e => let ⟨v, e1, r⟩ := s.2 i d e; ⟨v, e1, r.mono o.gx o.len⟩⟩
theorem SL.set {c : Cf} {g : Gh} {L : Nat} {st : Slots} {σ : L2.St} (s : SL c g L st σ) (i : Nat) {d : D} {v : V} (r : RV c g L d v) : SL c g L (st.set i (some d)) (σ.set i (some v)) := by
  refine ⟨by rw [List.length_set, List.length_set, s.1], fun j d' e => ?_⟩
  by_cases z : i = j
  · subst z
    have hi : i < st.length := by
      have := (List.getElem?_eq_some_iff.mp e).1
      simpa using this
    rw [List.getElem?_set_self hi] at e
    have e' : d = d' := by simpa using e
    subst e'
    exact ⟨v, List.getElem?_set_self (by rw [← s.1]; exact hi), r⟩
  · rw [List.getElem?_set_ne z] at e
    rw [List.getElem?_set_ne z]
    exact s.2 j d' e
theorem SL.unset {c : Cf} {g : Gh} {L : Nat} {st : Slots} {σ : L2.St} (s : SL c g L st σ) (i : Nat) : SL c g L (st.set i none) (σ.set i none) := by
  refine ⟨by rw [List.length_set, List.length_set, s.1], fun j d' e => ?_⟩
  by_cases z : i = j
  · subst z
    have hi : i < st.length := by
      have := (List.getElem?_eq_some_iff.mp e).1
      simpa using this
    rw [List.getElem?_set_self hi] at e
    cases e
  · rw [List.getElem?_set_ne z] at e
    rw [List.getElem?_set_ne z]
    exact s.2 j d' e

/-! ### the readings -/
def tEv (c : Cf) (W : WX) (f : Ev D) : TE := fun σ H Q => ∃ st h g, SR c g h H ∧ SL c g h.length st σ ∧ RP c (Rv c) g h H (f st h) Q (fun cls dd H' => W cls dd σ H')
def tTe (c : Cf) (W : WX) (f : Ev Bool) : TT := fun σ H Q => ∃ st h g, SR c g h H ∧ SL c g h.length st σ ∧ RP c Rb g h H (f st h) Q (fun cls dd H' => W cls dd σ H')
def tAr (c : Cf) (W : WX) (f : Ev (List D)) : TA := fun σ H Q => ∃ st h g, SR c g h H ∧ SL c g h.length st σ ∧ RP c (Rvs c) g h H (f st h) Q (fun cls dd H' => W cls dd σ H')

theorem PE.imp {X : Cx} {e : Expr} {t t' : TE} (p : PE X e t) (k : ∀ σ H Q, t' σ H Q → t σ H Q) : PE X e t' := ⟨fun pins s σ H Q I h => p.run pins s σ H Q I (k σ H Q h)⟩
theorem PT.imp {X : Cx} {e : Expr} {t t' : TT} (p : PT X e t) (k : ∀ σ H Q, t' σ H Q → t σ H Q) : PT X e t' := ⟨fun pins s σ H Q I h => p.run pins s σ H Q I (k σ H Q h)⟩
theorem PW.imp {X : Cx} {e : Expr} {t t' : TT} (p : PW X e t) (k : ∀ σ H Q, t' σ H Q → t σ H Q) : PW X e t' := ⟨fun w pins s σ H Q I h => p.run w pins s σ H Q I (k σ H Q h)⟩
theorem PA.imp {X : Cx} {e : List Expr} {t t' : TA} (p : PA X e t) (k : ∀ σ H Q, t' σ H Q → t σ H Q) : PA X e t' := ⟨fun w pins s σ H Q I h => p.run w pins s σ H Q I (k σ H Q h)⟩
theorem PS.imp {X : Cx} {e : Stmt} {t t' : TS} (p : PS X e t) (k : ∀ D σ H, t' D σ H → t D σ H) : PS X e t' := ⟨fun pins s σ H Q I h => p.run pins s σ H Q I (k Q σ H h)⟩
theorem PSs.imp {X : Cx} {e : List Stmt} {t t' : TS} (p : PSs X e t) (k : ∀ D σ H, t' D σ H → t D σ H) : PSs X e t' := ⟨fun pins s σ H Q I h => p.run pins s σ H Q I (k Q σ H h)⟩

/-! ### names, constants -/
section
variable {c : Cf} {W : WX} {X : Cx}
def cVar (i : Nat) : Ev D := fun st h => match st[i]? with
  | some (some d) => .ok d h
  | _ => .no
theorem e_var {i : Nat} {e : Expr} (p : PE X e (tVar i)) : PE X e (tEv c W (cVar i)) := PE.imp p fun σ H Q ⟨st, h, g, S, sl, q⟩ => by
  unfold cVar at q
  split at q
  · rename_i d e
    obtain ⟨v, e1, r⟩ := sl.2 i d e
    exact ⟨v, e1, q.ok_here S r⟩
  · exact q.elim
def cK (d : D) : Ev D := fun _ h => .ok d h
theorem e_k {v : V} {d : D} {e : Expr} (p : PE X e (tC v)) (r : ∀ g L, RV c g L d v) : PE X e (tEv c W (cK d)) := PE.imp p fun σ H Q ⟨st, h, g, S, sl, q⟩ => q.ok_here S (r _ _)
theorem e_int {i : Int} {e : Expr} (p : PE X e (tC (.int i))) : PE X e (tEv c W (cK (.int i))) := e_k p fun _ _ => .int i
theorem e_str {i : Str} {e : Expr} (p : PE X e (tC (.str i))) : PE X e (tEv c W (cK (.str i))) := e_k p fun _ _ => .str i
theorem e_bl {i : Bool} {e : Expr} (p : PE X e (tC (.bl i))) : PE X e (tEv c W (cK (.bl i))) := e_k p fun _ _ => .bl i
theorem e_non {e : Expr} (p : PE X e (tC .non)) : PE X e (tEv c W (cK .non)) := e_k p fun _ _ => .non

/-! ### two operands -/
def cBin (fo : D → D → Store → Res D) (fa fb : Ev D) : Ev D := fun st h => (fa st h).bind fun a h1 => (fb st h1).bind fun b h2 => fo a b h2
def R2Ok (c : Cf) (r : R2) (fo : D → D → Store → Res D) : Prop :=
  ∀ g h H d1 v1 d2 v2 Q E, SR c g h H → RV c g h.length d1 v1 → RV c g h.length d2 v2 → RP c (Rv c) g h H (fo d1 d2 h) Q E → r v1 v2 H Q
theorem ev2 {r : R2} {fo : D → D → Store → Res D} {fa fb : Ev D} (hr : R2Ok c r fo) {σ : L2.St} {H : Hp} {Q : VK} (x : tEv c W (cBin fo fa fb) σ H Q) : tOp r (tEv c W fa) (tEv c W fb) σ H Q := by
  obtain ⟨st, h, g, S, sl, q⟩ := x
  refine ⟨st, h, g, S, sl, RP.mono q.bind fun v1 H1 ⟨d1, h1, g1, o1, S1, r1, q1⟩ => ?_⟩
  refine ⟨st, h1, g1, S1, sl.go o1, RP.mono q1.bind fun v2 H2 ⟨d2, h2, g2, o2, S2, r2, q2⟩ => ?_⟩
  exact hr g2 h2 H2 d1 v1 d2 v2 _ _ S2 (r1.mono o2.gx o2.len) r2 q2
theorem e_bin {op : Operator} {r : R2} {fo : D → D → Store → Res D} {fa fb : Ev D} {a b : Expr} {pos : Pos} (ho : OpR X (binaryOp op) r) (hr : R2Ok c r fo) (ha : PE X a (tEv c W fa)) (hb : PE X b (tEv c W fb)) :
    PE X (.BinOp a op b pos) (tEv c W (cBin fo fa fb)) := PE.imp (pe_op ho ha hb) fun _ _ _ => ev2 hr
theorem e_cmp {op : CmpOp} {r : R2} {fo : D → D → Store → Res D} {fa fb : Ev D} {a b : Expr} {pos : Pos} (ho : OpR X (compareOp op) r) (hr : R2Ok c r fo) (ha : PE X a (tEv c W fa)) (hb : PE X b (tEv c W fb)) (hm : behindInMarks op b = false) :
    PE X (.Compare a [op] [b] pos) (tEv c W (cBin fo fa fb)) := PE.imp (pe_cmpR ho ha hb hm) fun _ _ _ => ev2 hr
theorem e_ix {r : R2} {fo : D → D → Store → Res D} {fa fb : Ev D} {a b : Expr} {pos : Pos} (ho : IxR X r) (hr : R2Ok c r fo) (ha : PE X a (tEv c W fa)) (hb : PE X b (tEv c W fb)) (hs : PlainIx b := by exact fun _ _ => rfl) :
    PE X (.Subscript a b pos) (tEv c W (cBin fo fa fb)) := PE.imp (pe_ix ho ha hb hs) fun _ _ _ => ev2 hr

/-! ### tests -/
/-- an expression whose value is True or False -/
def cTv (f : Ev D) : Ev Bool := fun st h => (f st h).bind fun d h1 => match d with
  | .bl b => .ok b h1
  | _ => .no
theorem tv {f : Ev D} {σ : L2.St} {H : Hp} {Q : Bool → Hp → Prop} (x : tTe c W (cTv f) σ H Q) : tEv c W f σ H fun v H1 => ∃ k, v = .bl k ∧ Q k H1 := by
  obtain ⟨st, h, g, S, sl, q⟩ := x
  refine ⟨st, h, g, S, sl, RP.mono q.bind fun v1 H1 ⟨d1, h1, g1, o1, S1, r1, q1⟩ => ?_⟩
  cases r1 with
  | bl b => exact ⟨b, rfl, RP.ok_here q1 S1 rfl⟩
  | _ => exact q1.elim
theorem t_val {f : Ev D} {e : Expr} (h : PE X e (tEv c W f)) (he : ∀ whole, isTrue e X.env whole = (do let v ← whole; standAt e.pos; holding [v] (truthy v)) := by intro _; rfl) : PT X e (tTe c W (cTv f)) := PT.imp (pt_val h he) fun _ _ _ => tv
theorem t_cmp {op : CmpOp} {r : R2} {fo : D → D → Store → Res D} {fa fb : Ev D} {a b : Expr} {pos : Pos} (ho : OpR X (compareOp op) r) (hr : R2Ok c r fo) (ha : PE X a (tEv c W fa)) (hb : PE X b (tEv c W fb)) (hm : behindInMarks op b = false) :
    PT X (.Compare a [op] [b] pos) (tTe c W (cTv (cBin fo fa fb))) := PT.imp (pt_cmpR ho ha hb hm) fun σ H Q x => by
  obtain ⟨st, h, g, S, sl, q⟩ := tv x
  exact ev2 hr ⟨st, h, g, S, sl, q⟩
def cTnot (f : Ev Bool) : Ev Bool := fun st h => (f st h).bind fun b h1 => .ok (!b) h1
theorem t_not {f : Ev Bool} {a : Expr} {pos : Pos} (ha : PT X a (tTe c W f)) : PT X (.UnaryOp .Not a pos) (tTe c W (cTnot f)) := PT.imp (pt_not ha) fun σ H Q ⟨st, h, g, S, sl, q⟩ =>
  ⟨st, h, g, S, sl, RP.mono q.bind fun b H1 ⟨d, h1, g1, o1, S1, r1, q1⟩ => RP.ok_here (α := Bool) (β := Bool) (R := Rb) q1 S1 (by rw [show d = b from r1])⟩
def cTand (f k : Ev Bool) : Ev Bool := fun st h => (f st h).bind fun b h1 => if b = true then k st h1 else .ok false h1
def cTor (f k : Ev Bool) : Ev Bool := fun st h => (f st h).bind fun b h1 => if b = true then .ok true h1 else k st h1
theorem tand {f k : Ev Bool} {σ : L2.St} {H : Hp} {Q : Bool → Hp → Prop} (x : tTe c W (cTand f k) σ H Q) : tAnd (tTe c W f) (tTe c W k) σ H Q := by
  obtain ⟨st, h, g, S, sl, q⟩ := x
  refine ⟨st, h, g, S, sl, RP.mono q.bind fun b H1 ⟨d, h1, g1, o1, S1, r1, q1⟩ => ?_⟩
  have e : d = b := r1
  subst e
  cases d with
  | true => exact ⟨st, h1, g1, S1, sl.go o1, q1⟩
  | false => exact RP.ok_here (α := Bool) (β := Bool) (R := Rb) q1 S1 rfl
theorem tor {f k : Ev Bool} {σ : L2.St} {H : Hp} {Q : Bool → Hp → Prop} (x : tTe c W (cTor f k) σ H Q) : tOr (tTe c W f) (tTe c W k) σ H Q := by
  obtain ⟨st, h, g, S, sl, q⟩ := x
  refine ⟨st, h, g, S, sl, RP.mono q.bind fun b H1 ⟨d, h1, g1, o1, S1, r1, q1⟩ => ?_⟩
  have e : d = b := r1
  subst e
  cases d with
  | false => exact ⟨st, h1, g1, S1, sl.go o1, q1⟩
  | true => exact RP.ok_here (α := Bool) (β := Bool) (R := Rb) q1 S1 rfl
variable {a b : Expr} {rest : List Expr} {pos : Pos} {f k : Ev Bool}
theorem w_and1 (ha : PT X a (tTe c W f)) : PW X (.BoolOp .And [a] pos) (tTe c W f) := pw_and1 ha
theorem w_or1 (ha : PT X a (tTe c W f)) : PW X (.BoolOp .Or [a] pos) (tTe c W f) := pw_or1 ha
theorem w_and (ha : PT X a (tTe c W f)) (hb : PW X (.BoolOp .And (b :: rest) pos) (tTe c W k)) : PW X (.BoolOp .And (a :: b :: rest) pos) (tTe c W (cTand f k)) := PW.imp (pw_and ha hb) fun _ _ _ => tand
theorem w_or (ha : PT X a (tTe c W f)) (hb : PW X (.BoolOp .Or (b :: rest) pos) (tTe c W k)) : PW X (.BoolOp .Or (a :: b :: rest) pos) (tTe c W (cTor f k)) := PW.imp (pw_or ha hb) fun _ _ _ => tor
/-- and, or, not as values (True or False) -/
def cAnd (f k : Ev D) : Ev D := fun st h => (f st h).bind fun d h1 => match d with
  | .bl true => k st h1
  | .bl false => .ok (.bl false) h1
  | _ => .no
def cOr (f k : Ev D) : Ev D := fun st h => (f st h).bind fun d h1 => match d with
  | .bl false => k st h1
  | .bl true => .ok (.bl true) h1
  | _ => .no
def cNot (f : Ev D) : Ev D := fun st h => (f st h).bind fun d h1 => match d with
  | .bl b => .ok (.bl (!b)) h1
  | _ => .no
theorem e_one {op : BoolOp} {fa : Ev D} (ha : PE X a (tEv c W fa)) : PE X (.BoolOp op [a] pos) (tEv c W fa) := pe_one ha
theorem e_and {fa fb : Ev D} (ha : PE X a (tEv c W fa)) (hb : PE X (.BoolOp .And (b :: rest) pos) (tEv c W fb)) : PE X (.BoolOp .And (a :: b :: rest) pos) (tEv c W (cAnd fa fb)) := PE.imp (pe_and ha hb) fun σ H Q ⟨st, h, g, S, sl, q⟩ => by
  refine ⟨st, h, g, S, sl, RP.mono q.bind fun v1 H1 ⟨d1, h1, g1, o1, S1, r1, q1⟩ => ?_⟩
  cases r1 with
  | bl b =>
    refine ⟨b, rfl, ?_⟩
    cases b with
    | true => exact ⟨st, h1, g1, S1, sl.go o1, q1⟩
    | false => exact RP.ok_here q1 S1 (.bl false)
  | _ => exact q1.elim
theorem e_or {fa fb : Ev D} (ha : PE X a (tEv c W fa)) (hb : PE X (.BoolOp .Or (b :: rest) pos) (tEv c W fb)) : PE X (.BoolOp .Or (a :: b :: rest) pos) (tEv c W (cOr fa fb)) := PE.imp (pe_or ha hb) fun σ H Q ⟨st, h, g, S, sl, q⟩ => by
  refine ⟨st, h, g, S, sl, RP.mono q.bind fun v1 H1 ⟨d1, h1, g1, o1, S1, r1, q1⟩ => ?_⟩
  cases r1 with
  | bl b =>
    refine ⟨b, rfl, ?_⟩
    cases b with
    | false => exact ⟨st, h1, g1, S1, sl.go o1, q1⟩
    | true => exact RP.ok_here q1 S1 (.bl true)
  | _ => exact q1.elim
theorem e_not {fa : Ev D} (ha : PE X a (tEv c W fa)) : PE X (.UnaryOp .Not a pos) (tEv c W (cNot fa)) := PE.imp (pe_not ha) fun σ H Q ⟨st, h, g, S, sl, q⟩ => by
  refine ⟨st, h, g, S, sl, RP.mono q.bind fun v1 H1 ⟨d1, h1, g1, o1, S1, r1, q1⟩ => ?_⟩
  cases r1 with
  | bl b => exact ⟨b, rfl, RP.ok_here q1 S1 (.bl _)⟩
  | _ => exact q1.elim
def cIf (t : Ev Bool) (fa fb : Ev D) : Ev D := fun st h => (t st h).bind fun b h1 => if b = true then fa st h1 else fb st h1
theorem e_if {t : Expr} {ft : Ev Bool} {fa fb : Ev D} (ht : PT X t (tTe c W ft)) (ha : PE X a (tEv c W fa)) (hb : PE X b (tEv c W fb)) : PE X (.IfExp t a b pos) (tEv c W (cIf ft fa fb)) := PE.imp (pe_ifExp ht ha hb) fun σ H Q ⟨st, h, g, S, sl, q⟩ => by
  refine ⟨st, h, g, S, sl, RP.mono q.bind fun v1 H1 ⟨d1, h1, g1, o1, S1, r1, q1⟩ => ?_⟩
  have e : d1 = v1 := r1
  subst e
  cases d1 with
  | true => exact ⟨st, h1, g1, S1, sl.go o1, q1⟩
  | false => exact ⟨st, h1, g1, S1, sl.go o1, q1⟩
/-- a < b < c -/
def cChain (fo fo' : D → D → Store → Res D) (fa fb fc : Ev D) : Ev D := fun st h => (fa st h).bind fun a h1 => (fb st h1).bind fun b h2 => (fo a b h2).bind fun z h3 => match z with
  | .bl true => (fc st h3).bind fun d h4 => fo' b d h4
  | .bl false => .ok (.bl false) h3
  | _ => .no
variable {cc : Expr} {fo fo' : D → D → Store → Res D} {r r' : R2} {op op' : CmpOp} {fa fb fc : Ev D}
theorem evChain (hr : R2Ok c r fo) (hr' : R2Ok c r' fo') {σ : L2.St} {H : Hp} {Q : VK} (x : tEv c W (cChain fo fo' fa fb fc) σ H Q) : tChain r r' (tEv c W fa) (tEv c W fb) (tEv c W fc) σ H Q := by
  obtain ⟨st, h, g, S, sl, q⟩ := x
  refine ⟨st, h, g, S, sl, RP.mono q.bind fun v1 H1 ⟨d1, h1, g1, o1, S1, r1, q1⟩ => ?_⟩
  refine ⟨st, h1, g1, S1, sl.go o1, RP.mono q1.bind fun v2 H2 ⟨d2, h2, g2, o2, S2, r2, q2⟩ => ?_⟩
  refine hr g2 h2 H2 d1 v1 d2 v2 _ _ S2 (r1.mono o2.gx o2.len) r2 (RP.mono (RP.bind (R' := Rv c) q2) fun z H3 ⟨d3, h3, g3, o3, S3, r3, q3⟩ => ?_)
  cases r3 with
  | bl k =>
    refine ⟨k, rfl, ?_⟩
    cases k with
    | false => exact RP.ok_here q3 S3 (.bl false)
    | true =>
      refine ⟨st, h3, g3, S3, sl.go (o1.trans (o2.trans o3)), RP.mono q3.bind fun v4 H4 ⟨d4, h4, g4, o4, S4, r4, q4⟩ => ?_⟩
      exact hr' g4 h4 H4 d2 v2 d4 v4 _ _ S4 (r2.mono (o3.trans o4).gx (o3.trans o4).len) r4 q4
  | _ => exact q3.elim
theorem e_chain (ho : OpR X (compareOp op) r) (ho' : OpR X (compareOp op') r') (hr : R2Ok c r fo) (hr' : R2Ok c r' fo') (ha : PE X a (tEv c W fa)) (hb : PE X b (tEv c W fb)) (hc : PE X cc (tEv c W fc))
    (hm : lastMarks [op, op'] [b, cc] = false := by with_unfolding_all rfl) : PE X (.Compare a [op, op'] [b, cc] pos) (tEv c W (cChain fo fo' fa fb fc)) := PE.imp (pe_chain ho ho' ha hb hc hm) fun _ _ _ => evChain hr hr'
theorem t_chain (ho : OpR X (compareOp op) r) (ho' : OpR X (compareOp op') r') (hr : R2Ok c r fo) (hr' : R2Ok c r' fo') (ha : PE X a (tEv c W fa)) (hb : PE X b (tEv c W fb)) (hc : PE X cc (tEv c W fc))
    (hm : lastMarks [op, op'] [b, cc] = false := by with_unfolding_all rfl) : PT X (.Compare a [op, op'] [b, cc] pos) (tTe c W (cTv (cChain fo fo' fa fb fc))) := PT.imp (pt_chain ho ho' ha hb hc hm) fun _ _ _ x => evChain hr hr' (tv x)

/-! ### argument lists, displays -/
variable {e : Expr} {es : List Expr} {fe : Ev D} {fs : Ev (List D)}
def cNil : Ev (List D) := fun _ h => .ok [] h
def cCons (fe : Ev D) (fs : Ev (List D)) : Ev (List D) := fun st h => (fe st h).bind fun d h1 => (fs st h1).bind fun ds h2 => .ok (d :: ds) h2
theorem a_nil : PA X [] (tAr c W cNil) := PA.imp pa_nil fun σ H Q ⟨st, h, g, S, sl, q⟩ => RP.ok_here q S .nil
theorem a_cons (ha : PE X e (tEv c W fe)) (hr : PA X es (tAr c W fs)) (hs : starEach (e :: es) X.env = (false, eval e X.env) :: starEach es X.env := by rfl) : PA X (e :: es) (tAr c W (cCons fe fs)) := PA.imp (pa_cons ha hr hs) fun σ H Q ⟨st, h, g, S, sl, q⟩ => by
  refine ⟨st, h, g, S, sl, RP.mono q.bind fun v1 H1 ⟨d1, h1, g1, o1, S1, r1, q1⟩ => ?_⟩
  refine ⟨st, h1, g1, S1, sl.go o1, RP.mono q1.bind fun v2 H2 ⟨d2, h2, g2, o2, S2, r2, q2⟩ => ?_⟩
  exact RP.ok_here q2 S2 (.cons (r1.mono o2.gx o2.len) r2)
/-- a new list: a tree, or a cell -/
def alloc (m : Bool) (l : List D) (h : Store) : Res D := if m = true then .ok (.ref h.length) (h ++ [some (.lst l)]) else .ok (.lst l) h
theorem alloc_ok {m : Bool} {l : List D} {vs : List V} {g : Gh} {h : Store} {H : Hp} {Q : VK} {E : XK} (S : SR c g h H) (r : RVs c g h.length l vs) (q : RP c (Rv c) g h H (alloc m l h) Q E) : ∀ p, H p = none → Q (.ref p) (upd H p (.lst vs)) := fun p hp => by
  cases m with
  | false =>
    have q : RP c (Rv c) g h H (.ok (.lst l) h) Q E := q
    obtain ⟨S1, o1⟩ := S.tree (o := .lst vs) hp
    exact q _ _ _ o1 S1 (.lst upd_same (r.mono o1.gx (Nat.le_refl _)))
  | true =>
    have q : RP c (Rv c) g h H (.ok (.ref h.length) (h ++ [some (.lst l)])) Q E := q
    obtain ⟨S1, o1⟩ := S.push (o := .lst vs) (ce := .lst l) hp fun g' gx => ⟨vs, upd_same, r.mono gx (by simp)⟩
    have e : (g.push h.length p).io h.length = p := by
      show (if h.length = h.length then p else _) = p
      rw [if_pos rfl]
    have q2 := q _ _ (.ref ((g.push h.length p).io h.length)) o1 S1 (.ref (by simp))
    rw [e] at q2
    exact q2
def cTup (fs : Ev (List D)) : Ev D := fun st h => (fs st h).bind fun ds h1 => if ds.length ≤ sizeLine then .ok (.tup ds) h1 else .no
def cLst (m : Bool) (fs : Ev (List D)) : Ev D := fun st h => (fs st h).bind fun ds h1 => if ds.length ≤ sizeLine then alloc m ds h1 else .no
theorem e_tup {x1} (h : PA X es (tAr c W fs)) : PE X (.Tuple es x1 pos) (tEv c W (cTup fs)) := PE.imp (pe_tup h) fun σ H Q ⟨st, h, g, S, sl, q⟩ => by
  refine ⟨st, h, g, S, sl, RP.mono q.bind fun v1 H1 ⟨d1, h1, g1, o1, S1, r1, q1⟩ => ?_⟩
  split at q1
  · rename_i hl
    refine ⟨by rw [← r1.length]; exact hl, fun p hp => ?_⟩
    obtain ⟨S2, o2⟩ := S1.tree (o := .tup v1) hp
    exact q1 _ _ _ o2 S2 (.tup (.inl (.inl upd_same)) (r1.mono o2.gx (Nat.le_refl _)))
  · exact q1.elim
theorem e_lst {m : Bool} (h : PA X es (tAr c W fs)) : PE X (.List es pos) (tEv c W (cLst m fs)) := PE.imp (pe_lst h) fun σ H Q ⟨st, h, g, S, sl, q⟩ => by
  refine ⟨st, h, g, S, sl, RP.mono q.bind fun v1 H1 ⟨d1, h1, g1, o1, S1, r1, q1⟩ => ?_⟩
  split at q1
  · rename_i hl
    exact ⟨by rw [← r1.length]; exact hl, alloc_ok S1 r1 q1⟩
  · exact q1.elim

/-! ### calls of defs -/
/-- behind a call the cells that it made are let go, where nothing tells of them -/
def clean {α : Type} (lw : Nat → α → Bool) (n : Nat) (r : Res α) : Res α := match r with
  | .ok d h' => if lw n d = true ∧ (h'.take n).all (cellLw n) = true then .ok d (h'.take n) else .ok d h'
  | .exc e h' => if (e.pay.all fun p => p.2.lw n) = true ∧ (h'.take n).all (cellLw n) = true then .exc e (h'.take n) else .exc e h'
  | .no => .no
abbrev cleanD (n : Nat) (r : Res D) : Res D := clean (fun n d => d.lw n) n r
theorem RP.clean {g : Gh} {h : Store} {H : Hp} {r : Res D} {Q : VK} {E : XK} (q : RP c (Rv c) g h H (cleanD h.length r) Q E) : RP c (Rv c) g h H r Q E := by
  cases r with
  | ok d h' =>
    intro g' H' v o S rv
    have q : RP c (Rv c) g h H (if d.lw h.length = true ∧ (h'.take h.length).all (cellLw h.length) = true then .ok d (h'.take h.length) else .ok d h') Q E := q
    by_cases hc : d.lw h.length = true ∧ (h'.take h.length).all (cellLw h.length) = true
    · rw [if_pos hc] at q
      have e : (h'.take h.length).length = h.length := by rw [List.length_take]; have := o.len; omega
      exact q g' H' v o.take (S.take o.len hc.2) (by rw [e]; exact rv.low hc.1)
    · rw [if_neg hc] at q
      exact q g' H' v o S rv
  | exc e h' =>
    intro g' H' cls dd o S rv
    have q : RP c (Rv c) g h H (if (e.pay.all fun p => p.2.lw h.length) = true ∧ (h'.take h.length).all (cellLw h.length) = true then .exc e (h'.take h.length) else .exc e h') Q E := q
    by_cases hc : (e.pay.all fun p => p.2.lw h.length) = true ∧ (h'.take h.length).all (cellLw h.length) = true
    · rw [if_pos hc] at q
      have el : (h'.take h.length).length = h.length := by rw [List.length_take]; have := o.len; omega
      refine q g' H' cls dd o.take (S.take o.len hc.2) ?_
      obtain ⟨C, e1, e2, e3⟩ := rv
      refine ⟨C, e1, e2, ?_⟩
      cases hp : e.pay with
      | none => rw [hp] at e3; exact e3
      | some p =>
        rw [hp] at e3
        obtain ⟨fn, d⟩ := p
        obtain ⟨a, v, q1, q2, q3⟩ := e3
        have hb := hc.1
        rw [hp] at hb
        exact ⟨a, v, q1, q2, by rw [el]; exact q3.low hb⟩
    · rw [if_neg hc] at q
      exact q g' H' cls dd o S rv
  | no => exact q

abbrev FnT := List D → Store → Res D
/-- the promise of a def -/
def spOf (c : Cf) (F : FnT) : Sp := fun vs H Q E => ∃ ds h g, SR c g h H ∧ RVs c g h.length ds vs ∧ RP c (Rv c) g h H (F ds h) Q E
def cCall (F : FnT) (defs : List D) (fs : Ev (List D)) : Ev D := fun st h => (fs st h).bind fun ds h1 => F (ds ++ defs) h1
theorem e_call {k : Nat} {f : Addr} {fd : FuncData} {ps : List Str} {F : FnT} {defs : List D} {dvs : List V} {ds : List Value} {x : Str} {p : Pos} (G : FnOk X.prog X.w X.K X.mg X.base (L2.CX X.prog X.w) k f fd ps (spOf c F)) (hr : Room k X.A) (hg : Gl X x) (hm : X.mg x = some (.ref f))
    (hk : PySem.W.keepIn X.K (.ref f) = true) (hb : L2.Binds X.K fd ps ds) (hd : Vals dvs ds) (rd : ∀ g L, RVs c g L defs dvs) (tk : Takes X W) (ha : PA X (e :: es) (tAr c W fs)) (hdb : (x == ("__debug__" : Str)) = false := by decide)
    (he : starEach (e :: es) X.env = (false, eval e X.env) :: starEach es X.env := by rfl) (hpl : (backTo pos (starEach es X.env)).any (·.1) = false := by rfl) :
    PE X (.Call (.Name x p) (e :: es) [] pos) (tEv c W (cCall F defs fs)) := PE.imp (pe_callSD (E := fun σ cls d H' => W cls d σ H') G hr hg hm hk hb hd (fun σ => L2.passAt tk σ) ha hdb he hpl) fun σ H Q ⟨st, h, g, S, sl, q⟩ => by
  refine ⟨st, h, g, S, sl, RP.mono q.bind fun vs H1 ⟨ds, h1, g1, o1, S1, r1, q1⟩ => ?_⟩
  exact ⟨ds ++ defs, h1, g1, S1, r1.append (rd _ _), q1⟩
end
end Gm

/-! Gm3: operators. -/
namespace Gm
open PySem PySem.Spec PyProof.Rows L2

/-- a list that may be read: a tree's, a cell's -/
def asL (h : Store) : D → Option (List D)
  | .lst l => some l
  | .ref n => match h[n]? with
    | some (some (.lst l)) => some l
    | _ => none
  | _ => none
def asR (h : Store) : D → Option (List D)
  | .lst l => some l
  | .fro l => some l
  | .ref n => match h[n]? with
    | some (some (.lst l)) => some l
    | _ => none
  | _ => none
section
variable {c : Cf} {g : Gh} {h : Store} {H : Hp} {d : D} {v : V} {l : List D}
theorem asL_ok (S : SR c g h H) (r : RV c g h.length d v) (e : asL h d = some l) : ∃ a vs, v = .ref a ∧ H a = some (.lst vs) ∧ RVs c g h.length l vs := by
  cases r with
  | lst h1 r => cases e; exact ⟨_, _, rfl, S.sub _ _ h1, r⟩
  | @ref n hn =>
    unfold asL at e
    dsimp only at e
    split at e
    · rename_i l' e1
      cases e
      obtain ⟨vs, e2, r2⟩ := S.cell n _ e1
      exact ⟨_, vs, rfl, e2, r2⟩
    · cases e
  | _ => cases e
theorem asR_ok (S : SR c g h H) (r : RV c g h.length d v) (e : asR h d = some l) : ∃ a vs, v = .ref a ∧ SqL c.K H a vs ∧ RVs c g h.length l vs := by
  cases r with
  | lst h1 r => cases e; exact ⟨_, _, rfl, .inl (.inl (S.sub _ _ h1)), r⟩
  | fro h1 r => cases e; exact ⟨_, _, rfl, SqL.sub S.sub h1, r⟩
  | @ref n hn =>
    unfold asR at e
    dsimp only at e
    split at e
    · rename_i l' e1
      cases e
      obtain ⟨vs, e2, r2⟩ := S.cell n _ e1
      exact ⟨_, vs, rfl, .inl (.inl e2), r2⟩
    · cases e
  | _ => cases e
theorem RV.tup' (S : SR c g h H) (r : RV c g h.length (.tup l) v) : ∃ a vs, v = .ref a ∧ SqT c.K H a vs ∧ RVs c g h.length l vs := by
  cases r with
  | tup h1 r => exact ⟨_, _, rfl, SqT.sub S.sub h1, r⟩
end

/-! ### ints -/
def iop (ck : Int → Int → Bool) (f : Int → Int → Int) (x y : D) (h : Store) : Res D := match x, y with
  | .int i, .int j => if ck i j = true then .ok (.int (f i j)) h else .no
  | _, _ => .no
def bop (f : Int → Int → Bool) (x y : D) (h : Store) : Res D := match x, y with
  | .int i, .int j => .ok (.bl (f i j)) h
  | _, _ => .no
section
variable {c : Cf}
theorem iop_ok {C : Int → Int → Prop} {ck : Int → Int → Bool} {f : Int → Int → Int} (k : ∀ i j, ck i j = true → C i j) : R2Ok c (rI C fun i j => .int (f i j)) (iop ck f) := by
  intro g h H d1 v1 d2 v2 Q E S r1 r2 q
  cases r1 with
  | int i =>
    cases r2 with
    | int j =>
      have q : RP c (Rv c) g h H (if ck i j = true then .ok (.int (f i j)) h else .no) Q E := q
      by_cases hc : ck i j = true
      · rw [if_pos hc] at q
        exact ⟨i, j, rfl, rfl, k i j hc, q.ok_here S (.int _)⟩
      · rw [if_neg hc] at q
        exact q.elim
    | _ => exact q.elim
  | _ => exact q.elim
theorem iop0_ok {f : Int → Int → Int} : R2Ok c (rI0 fun i j => .int (f i j)) (iop (fun _ _ => true) f) := by
  intro g h H d1 v1 d2 v2 Q E S r1 r2 q
  cases r1 with
  | int i =>
    cases r2 with
    | int j => exact ⟨i, j, rfl, rfl, RP.ok_here (show RP c (Rv c) g h H (.ok (.int (f i j)) h) Q E from q) S (.int _)⟩
    | _ => exact q.elim
  | _ => exact q.elim
theorem bop_ok {f : Int → Int → Bool} : R2Ok c (rI0 fun i j => .bl (f i j)) (bop f) := by
  intro g h H d1 v1 d2 v2 Q E S r1 r2 q
  cases r1 with
  | int i =>
    cases r2 with
    | int j => exact ⟨i, j, rfl, rfl, RP.ok_here (show RP c (Rv c) g h H (.ok (.bl (f i j)) h) Q E from q) S (.bl _)⟩
    | _ => exact q.elim
  | _ => exact q.elim
theorem R2Ok.orL {r r' : R2} {fo : D → D → Store → Res D} (k : R2Ok c r fo) : R2Ok c (fun x y H Q => r x y H Q ∨ r' x y H Q) fo := fun g h H d1 v1 d2 v2 Q E S r1 r2 q => .inl (k g h H d1 v1 d2 v2 Q E S r1 r2 q)
end
abbrev oSub : D → D → Store → Res D := iop (fun _ _ => true) fun i j => i - j
def gMul (i j : Int) : Bool := Nat.ble (Builtin.Int.intBits i + Builtin.Int.intBits j) 134217728
abbrev oMul : D → D → Store → Res D := iop gMul fun i j => i * j
def gDiv (_ j : Int) : Bool := decide (0 < j) && decide (j.natAbs.log2 < 9000)
abbrev oDiv : D → D → Store → Res D := iop gDiv fun i j => i / j
def gMod (_ j : Int) : Bool := decide (0 < j)
abbrev oMod : D → D → Store → Res D := iop gMod fun i j => i % j
def gPow (i j : Int) : Bool := decide (0 ≤ j) && Nat.ble j.toNat 1000000 && Nat.ble i.natAbs 18446744073709551615
abbrev oPow : D → D → Store → Res D := iop gPow fun i j => i ^ j.toNat
def gShl (i j : Int) : Bool := decide (0 ≤ j) && Nat.ble (Builtin.Int.intBits i + j.toNat) 134217728
abbrev oShl : D → D → Store → Res D := iop gShl fun i j => i * 2 ^ j.toNat
def gShr (_ j : Int) : Bool := decide (0 ≤ j)
abbrev oShr : D → D → Store → Res D := iop gShr fun i j => i / 2 ^ j.toNat
abbrev oAnd : D → D → Store → Res D := iop (fun _ _ => true) Builtin.bitAnd
abbrev oOr : D → D → Store → Res D := iop (fun _ _ => true) Builtin.bitOr
abbrev oXor : D → D → Store → Res D := iop (fun _ _ => true) Builtin.bitXor
abbrev oLt : D → D → Store → Res D := bop fun i j => decide (i < j)
abbrev oLe : D → D → Store → Res D := bop fun i j => decide (i ≤ j)
abbrev oGt : D → D → Store → Res D := bop fun i j => decide (j < i)
abbrev oGe : D → D → Store → Res D := bop fun i j => decide (j ≤ i)
section
variable {c : Cf} {W : WX} {X : Cx} {a b cc : Expr} {fa fb fc : Ev D} {pos : Pos}
theorem b_sub (ha : PE X a (tEv c W fa)) (hb : PE X b (tEv c W fb)) : PE X (.BinOp a .Sub b pos) (tEv c W (cBin oSub fa fb)) := e_bin op_sub iop0_ok ha hb
theorem gMul_ok (i j : Int) (h : gMul i j = true) : CMulX i j := by
  have := Nat.le_of_ble_eq_true h
  unfold CMulX
  omega
theorem b_mul (ha : PE X a (tEv c W fa)) (hb : PE X b (tEv c W fb)) : PE X (.BinOp a .Mult b pos) (tEv c W (cBin oMul fa fb)) := e_bin op_mulX (iop_ok gMul_ok) ha hb
theorem gDiv_ok (i j : Int) (h : gDiv i j = true) : CDivW i j := by
  simp only [gDiv, Bool.and_eq_true, decide_eq_true_eq] at h
  exact h
theorem b_div (ha : PE X a (tEv c W fa)) (hb : PE X b (tEv c W fb)) : PE X (.BinOp a .FloorDiv b pos) (tEv c W (cBin oDiv fa fb)) := e_bin op_fdivW (iop_ok gDiv_ok) ha hb
theorem b_mod (ha : PE X a (tEv c W fa)) (hb : PE X b (tEv c W fb)) : PE X (.BinOp a .Mod b pos) (tEv c W (cBin oMod fa fb)) := e_bin op_mod (iop_ok fun i j h => of_decide_eq_true h) ha hb
theorem b_pow (ha : PE X a (tEv c W fa)) (hb : PE X b (tEv c W fb)) : PE X (.BinOp a .Pow b pos) (tEv c W (cBin oPow fa fb)) := e_bin op_pow (iop_ok fun i j h => by
  simp only [gPow, Bool.and_eq_true, decide_eq_true_eq] at h
  have h1 := Nat.le_of_ble_eq_true h.1.2
  have h2 := Nat.le_of_ble_eq_true h.2
  exact ⟨h.1.1, by omega, Nat.lt_of_le_of_lt h2 (by decide)⟩) ha hb
theorem gShl_ok (i j : Int) (h : gShl i j = true) : CShl i j := by
  simp only [gShl, Bool.and_eq_true, decide_eq_true_eq] at h
  have h1 := Nat.le_of_ble_eq_true h.2
  exact ⟨h.1, by omega⟩
theorem b_shl (ha : PE X a (tEv c W fa)) (hb : PE X b (tEv c W fb)) : PE X (.BinOp a .LShift b pos) (tEv c W (cBin oShl fa fb)) := e_bin op_shlW (iop_ok gShl_ok) ha hb
theorem b_shr (ha : PE X a (tEv c W fa)) (hb : PE X b (tEv c W fb)) : PE X (.BinOp a .RShift b pos) (tEv c W (cBin oShr fa fb)) := e_bin op_shr (iop_ok fun i j h => of_decide_eq_true h) ha hb
theorem b_and (ha : PE X a (tEv c W fa)) (hb : PE X b (tEv c W fb)) : PE X (.BinOp a .BitAnd b pos) (tEv c W (cBin oAnd fa fb)) := e_bin op_and iop0_ok ha hb
theorem b_or (ha : PE X a (tEv c W fa)) (hb : PE X b (tEv c W fb)) : PE X (.BinOp a .BitOr b pos) (tEv c W (cBin oOr fa fb)) := e_bin op_or iop0_ok ha hb
theorem b_xor (ha : PE X a (tEv c W fa)) (hb : PE X b (tEv c W fb)) : PE X (.BinOp a .BitXor b pos) (tEv c W (cBin oXor fa fb)) := e_bin op_xor iop0_ok ha hb
theorem e_lt (ha : PE X a (tEv c W fa)) (hb : PE X b (tEv c W fb)) : PE X (.Compare a [.Lt] [b] pos) (tEv c W (cBin oLt fa fb)) := e_cmp op_lt bop_ok ha hb (nomark _)
theorem e_le (ha : PE X a (tEv c W fa)) (hb : PE X b (tEv c W fb)) : PE X (.Compare a [.LtE] [b] pos) (tEv c W (cBin oLe fa fb)) := e_cmp op_le bop_ok ha hb (nomark _)
theorem e_gt (ha : PE X a (tEv c W fa)) (hb : PE X b (tEv c W fb)) : PE X (.Compare a [.Gt] [b] pos) (tEv c W (cBin oGt fa fb)) := e_cmp op_gt bop_ok ha hb (nomark _)
theorem e_ge (ha : PE X a (tEv c W fa)) (hb : PE X b (tEv c W fb)) : PE X (.Compare a [.GtE] [b] pos) (tEv c W (cBin oGe fa fb)) := e_cmp op_ge bop_ok ha hb (nomark _)
theorem t_lt (ha : PE X a (tEv c W fa)) (hb : PE X b (tEv c W fb)) : PT X (.Compare a [.Lt] [b] pos) (tTe c W (cTv (cBin oLt fa fb))) := t_cmp op_lt bop_ok ha hb (nomark _)
theorem t_le (ha : PE X a (tEv c W fa)) (hb : PE X b (tEv c W fb)) : PT X (.Compare a [.LtE] [b] pos) (tTe c W (cTv (cBin oLe fa fb))) := t_cmp op_le bop_ok ha hb (nomark _)
theorem t_gt (ha : PE X a (tEv c W fa)) (hb : PE X b (tEv c W fb)) : PT X (.Compare a [.Gt] [b] pos) (tTe c W (cTv (cBin oGt fa fb))) := t_cmp op_gt bop_ok ha hb (nomark _)
theorem t_ge (ha : PE X a (tEv c W fa)) (hb : PE X b (tEv c W fb)) : PT X (.Compare a [.GtE] [b] pos) (tTe c W (cTv (cBin oGe fa fb))) := t_cmp op_ge bop_ok ha hb (nomark _)
theorem e_le_lt (ha : PE X a (tEv c W fa)) (hb : PE X b (tEv c W fb)) (hc : PE X cc (tEv c W fc)) (hm : lastMarks [.LtE, .Lt] [b, cc] = false := by with_unfolding_all rfl) : PE X (.Compare a [.LtE, .Lt] [b, cc] pos) (tEv c W (cChain oLe oLt fa fb fc)) := e_chain op_le op_lt bop_ok bop_ok ha hb hc hm
theorem e_le_le (ha : PE X a (tEv c W fa)) (hb : PE X b (tEv c W fb)) (hc : PE X cc (tEv c W fc)) (hm : lastMarks [.LtE, .LtE] [b, cc] = false := by with_unfolding_all rfl) : PE X (.Compare a [.LtE, .LtE] [b, cc] pos) (tEv c W (cChain oLe oLe fa fb fc)) := e_chain op_le op_le bop_ok bop_ok ha hb hc hm
theorem e_lt_le (ha : PE X a (tEv c W fa)) (hb : PE X b (tEv c W fb)) (hc : PE X cc (tEv c W fc)) (hm : lastMarks [.Lt, .LtE] [b, cc] = false := by with_unfolding_all rfl) : PE X (.Compare a [.Lt, .LtE] [b, cc] pos) (tEv c W (cChain oLt oLe fa fb fc)) := e_chain op_lt op_le bop_ok bop_ok ha hb hc hm
theorem t_le_lt (ha : PE X a (tEv c W fa)) (hb : PE X b (tEv c W fb)) (hc : PE X cc (tEv c W fc)) (hm : lastMarks [.LtE, .Lt] [b, cc] = false := by with_unfolding_all rfl) : PT X (.Compare a [.LtE, .Lt] [b, cc] pos) (tTe c W (cTv (cChain oLe oLt fa fb fc))) := t_chain op_le op_lt bop_ok bop_ok ha hb hc hm
theorem t_le_le (ha : PE X a (tEv c W fa)) (hb : PE X b (tEv c W fb)) (hc : PE X cc (tEv c W fc)) (hm : lastMarks [.LtE, .LtE] [b, cc] = false := by with_unfolding_all rfl) : PT X (.Compare a [.LtE, .LtE] [b, cc] pos) (tTe c W (cTv (cChain oLe oLe fa fb fc))) := t_chain op_le op_le bop_ok bop_ok ha hb hc hm
theorem t_lt_le (ha : PE X a (tEv c W fa)) (hb : PE X b (tEv c W fb)) (hc : PE X cc (tEv c W fc)) (hm : lastMarks [.Lt, .LtE] [b, cc] = false := by with_unfolding_all rfl) : PT X (.Compare a [.Lt, .LtE] [b, cc] pos) (tTe c W (cTv (cChain oLt oLe fa fb fc))) := t_chain op_lt op_le bop_ok bop_ok ha hb hc hm
/-- -a -/
def cNeg (fa : Ev D) : Ev D := fun st h => (fa st h).bind fun d h1 => match d with
  | .int i => .ok (.int (-i)) h1
  | _ => .no
theorem e_neg (ha : PE X a (tEv c W fa)) : PE X (.UnaryOp .USub a pos) (tEv c W (cNeg fa)) := PE.imp (pe_un un_neg ha) fun σ H Q ⟨st, h, g, S, sl, q⟩ => by
  refine ⟨st, h, g, S, sl, RP.mono q.bind fun v1 H1 ⟨d1, h1, g1, o1, S1, r1, q1⟩ => ?_⟩
  cases r1 with
  | int i => exact ⟨i, rfl, RP.ok_here q1 S1 (.int _)⟩
  | _ => exact q1.elim
/-- is None -/
def D.isNon : D → Bool
  | .non => true
  | _ => false
def oIsN (x y : D) (h : Store) : Res D := match y with
  | .non => .ok (.bl x.isNon) h
  | _ => .no
def oNotN (x y : D) (h : Store) : Res D := match y with
  | .non => .ok (.bl (!x.isNon)) h
  | _ => .no
theorem RV.non_iff {g : Gh} {L : Nat} {d : D} {v : V} (r : RV c g L d v) : decide (v = .non) = d.isNon := by
  cases r <;> first | rfl | (refine decide_eq_false ?_; intro z; cases z)
theorem oIsN_ok : R2Ok c (fun x y H Q => y = .non ∧ Q (.bl (decide (x = .non))) H) oIsN := by
  intro g h H d1 v1 d2 v2 Q E S r1 r2 q
  cases r2 with
  | non => exact ⟨rfl, by rw [r1.non_iff]; exact RP.ok_here (show RP c (Rv c) g h H (.ok (.bl _) h) Q E from q) S (.bl _)⟩
  | _ => exact q.elim
theorem oNotN_ok : R2Ok c (fun x y H Q => y = .non ∧ Q (.bl (!decide (x = .non))) H) oNotN := by
  intro g h H d1 v1 d2 v2 Q E S r1 r2 q
  cases r2 with
  | non => exact ⟨rfl, by rw [r1.non_iff]; exact RP.ok_here (show RP c (Rv c) g h H (.ok (.bl _) h) Q E from q) S (.bl _)⟩
  | _ => exact q.elim
theorem e_isN (ha : PE X a (tEv c W fa)) (hb : PE X b (tEv c W fb)) : PE X (.Compare a [.Is] [b] pos) (tEv c W (cBin oIsN fa fb)) := e_cmp op_isN oIsN_ok ha hb (nomark _)
theorem e_notN (ha : PE X a (tEv c W fa)) (hb : PE X b (tEv c W fb)) : PE X (.Compare a [.IsNot] [b] pos) (tEv c W (cBin oNotN fa fb)) := e_cmp op_notN oNotN_ok ha hb (nomark _)
theorem t_isN (ha : PE X a (tEv c W fa)) (hb : PE X b (tEv c W fb)) : PT X (.Compare a [.Is] [b] pos) (tTe c W (cTv (cBin oIsN fa fb))) := t_cmp op_isN oIsN_ok ha hb (nomark _)
theorem t_notN (ha : PE X a (tEv c W fa)) (hb : PE X b (tEv c W fb)) : PT X (.Compare a [.IsNot] [b] pos) (tTe c W (cTv (cBin oNotN fa fb))) := t_cmp op_notN oNotN_ok ha hb (nomark _)

/-! ### == -/
def D.py (h : Store) : Nat → D → Option PyData
  | 0, _ => none
  | n + 1, d => match d with
    | .non => some .none
    | .bl b => some (.bool b)
    | .int i => some (.int i)
    | .str x => some (.str x)
    | .tup l => (l.mapM (D.py h n)).map .tuple
    | .lst l => (l.mapM (D.py h n)).map .list
    | .fro l => (l.mapM (D.py h n)).map .list
    | .ref m => match h[m]? with
      | some (some (.lst l)) => (l.mapM (D.py h n)).map .list
      | _ => none
    | _ => none
theorem py_all {c : Cf} {g : Gh} {h : Store} {H : Hp} {n : Nat} (S : SR c g h H) (ih : ∀ d v p, RV c g h.length d v → D.py h n d = some p → Dp c.K H v p) :
    ∀ {l : List D} {vs : List V} {ps : List PyData}, RVs c g h.length l vs → l.mapM (D.py h n) = some ps → DpAll c.K H vs ps
  | _, _, ps, .nil, e => by
    have e : some [] = some ps := e
    cases e
    exact .nil
  | _, _, ps, .cons (d := d) (ds := ds) r rs, e => by
    rw [List.mapM_cons] at e
    cases e1 : D.py h n d with
    | none => rw [e1] at e; cases e
    | some p =>
      rw [e1] at e
      cases e2 : ds.mapM (D.py h n) with
      | none => rw [e2] at e; cases e
      | some qs =>
        rw [e2] at e
        have e : some (p :: qs) = some ps := e
        cases e
        exact .cons (ih _ _ _ r e1) (py_all S ih rs e2)
theorem py_ok {c : Cf} {g : Gh} {h : Store} {H : Hp} (S : SR c g h H) : ∀ (n : Nat) d v p, RV c g h.length d v → D.py h n d = some p → Dp c.K H v p := by
  intro n
  induction n with
  | zero => intro d v p r e; cases e
  | succ n ih =>
    intro d v p r e
    have lm : ∀ {l : List D} {vs : List V} {f : List PyData → PyData}, RVs c g h.length l vs → (l.mapM (D.py h n)).map f = some p → ∃ ps, p = f ps ∧ DpAll c.K H vs ps := fun {l vs f} rs e => by
      cases e2 : l.mapM (D.py h n) with
      | none => rw [e2] at e; cases e
      | some qs =>
        rw [e2] at e
        exact ⟨qs, (Option.some.inj e).symm, py_all S ih rs e2⟩
    cases r with
    | non => cases e; exact .non
    | bl b => cases e; exact .bl b
    | int b => cases e; exact .int b
    | str b => cases e; exact .str b
    | tup h1 rs =>
      obtain ⟨ps, rfl, z⟩ := lm (f := .tuple) rs e
      exact .tup (SqT.sub S.sub h1) z
    | lst h1 rs =>
      obtain ⟨ps, rfl, z⟩ := lm (f := .list) rs e
      exact .lst (.inl (.inl (S.sub _ _ h1))) z
    | fro h1 rs =>
      obtain ⟨ps, rfl, z⟩ := lm (f := .list) rs e
      exact .lst (SqL.sub S.sub h1) z
    | @ref m hm =>
      unfold D.py at e
      dsimp only at e
      split at e
      · rename_i l e1
        obtain ⟨vs, e2, r2⟩ := S.cell m _ e1
        obtain ⟨ps, rfl, z⟩ := lm (f := .list) r2 e
        exact .lst (.inl (.inl e2)) z
      · cases e
    | _ => cases e
/-- == as a Bool, where it is known -/
def eqD (h : Store) (x y : D) : Option Bool := match x, y with
  | .int i, .int j => some (i == j)
  | .str i, .str j => some (decide (i = j))
  | .bl i, .bl j => some (i == j)
  | .non, .non => some true
  | .non, .int _ => some false
  | .int _, .non => some false
  | .non, .str _ => some false
  | .str _, .non => some false
  | .int _, .str _ => some false
  | .str _, .int _ => some false
  | x, y => match D.py h 40 x, D.py h 40 y with
    | some p, some q => if SeqAt.shaped p = true ∧ SeqAt.shaped q = true then some (PyData.eqv p q) else none
    | _, _ => none
def oEq (x y : D) (h : Store) : Res D := match eqD h x y with
  | some b => .ok (.bl b) h
  | none => .no
def oNe (x y : D) (h : Store) : Res D := match eqD h x y with
  | some b => .ok (.bl (!b)) h
  | none => .no
theorem eqD_ok {g : Gh} {h : Store} {H : Hp} {x y : D} {v w : V} {b : Bool} (S : SR c g h H) (r1 : RV c g h.length x v) (r2 : RV c g h.length y w) (e : eqD h x y = some b) :
    (scal v w = true ∧ decide (v = w) = b) ∨ ∃ d e, Dp c.K H v d ∧ Dp c.K H w e ∧ SeqAt.shaped d = true ∧ SeqAt.shaped e = true ∧ PyData.eqv d e = b := by
  unfold eqD at e
  split at e
  · cases r1; cases r2; cases e; exact .inl ⟨rfl, dec_int⟩
  · rename_i i j
    cases r1; cases r2; cases e
    refine .inl ⟨rfl, ?_⟩
    rw [dec_str]
    exact Bool.beq_eq_decide_eq i j
  · cases r1; cases r2; cases e; exact .inl ⟨rfl, dec_bl⟩
  · cases r1; cases r2; cases e; exact .inl ⟨rfl, rfl⟩
  · cases r1; cases r2; cases e; exact .inl ⟨rfl, rfl⟩
  · cases r1; cases r2; cases e; exact .inl ⟨rfl, rfl⟩
  · cases r1; cases r2; cases e; exact .inl ⟨rfl, rfl⟩
  · cases r1; cases r2; cases e; exact .inl ⟨rfl, rfl⟩
  · cases r1; cases r2; cases e; exact .inl ⟨rfl, rfl⟩
  · cases r1; cases r2; cases e; exact .inl ⟨rfl, rfl⟩
  · split at e
    · rename_i p q e1 e2
      split at e
      · rename_i hs
        cases e
        exact .inr ⟨p, q, py_ok S _ _ _ _ r1 e1, py_ok S _ _ _ _ r2 e2, hs.1, hs.2, rfl⟩
      · cases e
    · cases e
theorem oEq_ok : R2Ok c (fun x y H Q => rEq x y H Q ∨ rEqD c.K x y H Q) oEq := by
  intro g h H d1 v1 d2 v2 Q E S r1 r2 q
  unfold oEq at q
  cases e : eqD h d1 d2 with
  | none => rw [e] at q; exact q.elim
  | some b =>
    rw [e] at q
    have q2 : Q (.bl b) H := RP.ok_here q S (.bl b)
    rcases eqD_ok S r1 r2 e with ⟨h1, h2⟩ | ⟨d, e, h1, h2, h3, h4, h5⟩
    · exact .inl ⟨h1, by rw [h2]; exact q2⟩
    · exact .inr ⟨d, e, h1, h2, h3, h4, by rw [h5]; exact q2⟩
theorem oNe_ok : R2Ok c (fun x y H Q => rNe x y H Q ∨ rNeD c.K x y H Q) oNe := by
  intro g h H d1 v1 d2 v2 Q E S r1 r2 q
  unfold oNe at q
  cases e : eqD h d1 d2 with
  | none => rw [e] at q; exact q.elim
  | some b =>
    rw [e] at q
    have q2 : Q (.bl (!b)) H := RP.ok_here q S (.bl _)
    rcases eqD_ok S r1 r2 e with ⟨h1, h2⟩ | ⟨d, e, h1, h2, h3, h4, h5⟩
    · exact .inl ⟨h1, by rw [h2]; exact q2⟩
    · exact .inr ⟨d, e, h1, h2, h3, h4, by rw [h5]; exact q2⟩
theorem e_eq (hk : c.K = X.K) (hu : X.A.units + 64 < cLine) (ha : PE X a (tEv c W fa)) (hb : PE X b (tEv c W fb)) : PE X (.Compare a [.Eq] [b] pos) (tEv c W (cBin oEq fa fb)) := e_cmp (OpR.or op_eq (op_eqD hu)) (by rw [← hk]; exact oEq_ok) ha hb (nomark _)
theorem e_ne (hk : c.K = X.K) (hu : X.A.units + 64 < cLine) (ha : PE X a (tEv c W fa)) (hb : PE X b (tEv c W fb)) : PE X (.Compare a [.NotEq] [b] pos) (tEv c W (cBin oNe fa fb)) := e_cmp (OpR.or op_ne (op_neD hu)) (by rw [← hk]; exact oNe_ok) ha hb (nomark _)
theorem t_eq (hk : c.K = X.K) (hu : X.A.units + 64 < cLine) (ha : PE X a (tEv c W fa)) (hb : PE X b (tEv c W fb)) : PT X (.Compare a [.Eq] [b] pos) (tTe c W (cTv (cBin oEq fa fb))) := t_cmp (OpR.or op_eq (op_eqD hu)) (by rw [← hk]; exact oEq_ok) ha hb (nomark _)
theorem t_ne (hk : c.K = X.K) (hu : X.A.units + 64 < cLine) (ha : PE X a (tEv c W fa)) (hb : PE X b (tEv c W fb)) : PT X (.Compare a [.NotEq] [b] pos) (tTe c W (cTv (cBin oNe fa fb))) := t_cmp (OpR.or op_ne (op_neD hu)) (by rw [← hk]; exact oNe_ok) ha hb (nomark _)
end
end Gm

/-! Gm4: statements, loops, defs. -/
namespace Gm
open PySem PySem.Spec PyProof.Rows L2

inductive Out where
  | next (st : Slots) (h : Store)
  | ret (d : D) (h : Store)
  | brk (st : Slots) (h : Store)
  | cont (st : Slots) (h : Store)
  | exc (e : Exn) (st : Slots) (h : Store)
  | no
abbrev Ss := Slots → Store → Out

/-- what is wanted behind a statement -/
def OP (c : Cf) (g : Gh) (h : Store) (H : Hp) (o : Out) (D : Ends) (W : WX) : Prop :=
  match o with
  | .next st h' => ∀ g' H' σ, Go g h H g' h' H' → SR c g' h' H' → SL c g' h'.length st σ → D.nx σ H'
  | .ret d h' => ∀ g' H' v, Go g h H g' h' H' → SR c g' h' H' → RV c g' h'.length d v → D.rt v H'
  | .brk st h' => ∀ g' H' σ, Go g h H g' h' H' → SR c g' h' H' → SL c g' h'.length st σ → D.bk σ H'
  | .cont st h' => ∀ g' H' σ, Go g h H g' h' H' → SR c g' h' H' → SL c g' h'.length st σ → D.ct σ H'
  | .exc e st h' => ∀ g' H' σ cls dd, Go g h H g' h' H' → SR c g' h' H' → SL c g' h'.length st σ → RX c g' h'.length e cls dd → W cls dd σ H'
  | .no => False
theorem OP.go {c : Cf} {g g1 : Gh} {h h1 : Store} {H H1 : Hp} {o : Out} {D : Ends} {W : WX} (x : OP c g h H o D W) (y : Go g h H g1 h1 H1) : OP c g1 h1 H1 o D W := by
  cases o with
  | next st h' => exact fun g' H' σ z s l => x g' H' σ (y.trans z) s l
  | ret d h' => exact fun g' H' σ z s l => x g' H' σ (y.trans z) s l
  | brk st h' => exact fun g' H' σ z s l => x g' H' σ (y.trans z) s l
  | cont st h' => exact fun g' H' σ z s l => x g' H' σ (y.trans z) s l
  | exc e st h' => exact fun g' H' σ cls dd z s l r => x g' H' σ cls dd (y.trans z) s l r
  | no => exact x
def tSt (c : Cf) (W : WX) (f : Ss) : TS := fun D σ H => ∃ st h g, SR c g h H ∧ SL c g h.length st σ ∧ OP c g h H (f st h) D W
/-- an expression ahead of a statement's rest -/
def Res.out {α : Type} (r : Res α) (st : Slots) (k : α → Store → Out) : Out := match r with
  | .ok a h => k a h
  | .exc e h => .exc e st h
  | .no => .no
@[simp] theorem Res.out_ok {α : Type} (a : α) (h : Store) (st : Slots) (k : α → Store → Out) : (Res.ok a h).out st k = k a h := rfl
@[simp] theorem Res.out_exc {α : Type} (e : Exn) (h : Store) (st : Slots) (k : α → Store → Out) : (Res.exc e h : Res α).out st k = .exc e st h := rfl
@[simp] theorem Res.out_no {α : Type} (st : Slots) (k : α → Store → Out) : (Res.no : Res α).out st k = .no := rfl
theorem OP.out {c : Cf} {α β : Type} {R : Gh → Nat → α → β → Prop} {g : Gh} {h : Store} {H : Hp} {st : Slots} {σ : L2.St} {r : Res α} {k : α → Store → Out} {D : Ends} {W : WX} (sl : SL c g h.length st σ) (x : OP c g h H (r.out st k) D W) :
    RP c R g h H r (fun (v : β) H1 => ∃ d h1 g1, Go g h H g1 h1 H1 ∧ SR c g1 h1 H1 ∧ R g1 h1.length d v ∧ OP c g1 h1 H1 (k d h1) D W) (fun cls dd H' => W cls dd σ H') := by
  cases r with
  | ok a h' => exact fun g' H' v o s r => ⟨a, h', g', o, s, r, OP.go (o := k a h') x o⟩
  | exc e h' => exact fun g' H' cls dd o s r => x g' H' σ cls dd o s (sl.go o) r
  | no => exact x
/-- one statement, then the rest -/
def Out.seq (o : Out) (k : Ss) : Out := match o with
  | .next st h => k st h
  | o => o
section
variable {c : Cf} {W : WX} {X : Cx} {pos : Pos}
def sNil : Ss := fun st h => .next st h
def sSeq (f k : Ss) : Ss := fun st h => (f st h).seq k
variable {s : Stmt} {ss : List Stmt} {f k : Ss} {e : Expr} {fe : Ev D}
theorem ss_nil : PSs X [] (tSt c W sNil) := PSs.imp pss_nil fun D σ H ⟨st, h, g, S, sl, q⟩ => q g H σ (Go.refl _ _ _) S sl
theorem ss_one (h : PS X s (tSt c W f)) : PSs X [s] (tSt c W f) := pss_one h
theorem ss_cons (h1 : PS X s (tSt c W f)) (h2 : PSs X ss (tSt c W k)) : PSs X (s :: ss) (tSt c W (sSeq f k)) := PSs.imp (pss_cons h1 h2) fun D σ H ⟨st, h, g, S, sl, q⟩ => by
  refine ⟨st, h, g, S, sl, ?_⟩
  unfold sSeq at q
  cases e : f st h with
  | next st' h' =>
    rw [e] at q
    exact fun g' H' σ' o S' sl' => ⟨st', h', g', S', sl', OP.go (o := k st' h') q o⟩
  | ret d h' => rw [e] at q; exact q
  | brk st' h' => rw [e] at q; exact q
  | cont st' h' => rw [e] at q; exact q
  | exc ee st' h' => rw [e] at q; exact q
  | no => rw [e] at q; exact q
theorem s_pass : PS X (.Pass pos) (tSt c W sNil) := PS.imp ps_pass fun D σ H ⟨st, h, g, S, sl, q⟩ => q g H σ (Go.refl _ _ _) S sl
def sBrk : Ss := fun st h => .brk st h
def sCont : Ss := fun st h => .cont st h
theorem s_brk : PS X (.Break pos) (tSt c W sBrk) := PS.imp ps_break fun D σ H ⟨st, h, g, S, sl, q⟩ => q g H σ (Go.refl _ _ _) S sl
theorem s_cont : PS X (.Continue pos) (tSt c W sCont) := PS.imp ps_continue fun D σ H ⟨st, h, g, S, sl, q⟩ => q g H σ (Go.refl _ _ _) S sl
/-- a statement that is never come to -/
def sNo : Ss := fun _ _ => .no
theorem s_no : PS X s (tSt c W sNo) := PS.imp ps_never fun D σ H ⟨st, h, g, S, sl, q⟩ => q.elim
def sExpr (fe : Ev D) : Ss := fun st h => (fe st h).out st fun _ h1 => .next st h1
theorem s_expr (he : PE X e (tEv c W fe)) (hs : swapsWith e none pos.line X.env = pure false := by rfl) : PS X (.Expr e pos) (tSt c W (sExpr fe)) := PS.imp (ps_expr he hs) fun D σ H ⟨st, h, g, S, sl, q⟩ =>
  ⟨st, h, g, S, sl, RP.mono (OP.out sl q) fun v H1 ⟨d, h1, g1, o1, S1, r1, q1⟩ => q1 g1 H1 σ (Go.refl _ _ _) S1 (sl.go o1)⟩
def sRet (fe : Ev D) : Ss := fun st h => (fe st h).out st fun d h1 => .ret d h1
theorem s_ret (he : PE X e (tEv c W fe)) : PS X (.Return (some e) pos) (tSt c W (sRet fe)) := PS.imp (ps_ret he) fun D σ H ⟨st, h, g, S, sl, q⟩ =>
  ⟨st, h, g, S, sl, RP.mono (OP.out sl q) fun v H1 ⟨d, h1, g1, o1, S1, r1, q1⟩ => q1 g1 H1 v (Go.refl _ _ _) S1 r1⟩
def sRetN : Ss := fun st h => .ret .non h
theorem s_retN : PS X (.Return none pos) (tSt c W sRetN) := PS.imp ps_retN fun D σ H ⟨st, h, g, S, sl, q⟩ => q g H .non (Go.refl _ _ _) S .non
def sIf (t : Ev Bool) (f k : Ss) : Ss := fun st h => (t st h).out st fun b h1 => if b = true then f st h1 else k st h1
theorem s_if {t : Expr} {ft : Ev Bool} {a b : List Stmt} (ht : PT X t (tTe c W ft)) (ha : PSs X a (tSt c W f)) (hb : PSs X b (tSt c W k)) : PS X (.If t a b pos) (tSt c W (sIf ft f k)) := PS.imp (ps_if ht ha hb) fun D σ H ⟨st, h, g, S, sl, q⟩ =>
  ⟨st, h, g, S, sl, RP.mono (OP.out (R := Rb) sl q) fun v H1 ⟨d, h1, g1, o1, S1, r1, q1⟩ => by
    have e : d = v := r1
    subst e
    cases d with
    | true => exact ⟨st, h1, g1, S1, sl.go o1, q1⟩
    | false => exact ⟨st, h1, g1, S1, sl.go o1, q1⟩⟩

/-! ### targets -/
abbrev Tg := D → Slots → Store → Option (Slots × Store)
def tGt (c : Cf) (f : Tg) : TG := fun v σ H Q => ∃ d st h g, SR c g h H ∧ SL c g h.length st σ ∧ RV c g h.length d v ∧
  match f d st h with
  | some (st', h') => ∀ g' H' σ', Go g h H g' h' H' → SR c g' h' H' → SL c g' h'.length st' σ' → Q σ' H'
  | none => False
theorem PG.imp {e : Expr} {t t' : TG} (p : PG X e t) (k : ∀ v σ H Q, t' v σ H Q → t v σ H Q) : PG X e t' := ⟨fun pins s σ H v u Q I r h => p.run pins s σ H v u Q I r (k v σ H Q h)⟩
def gtName (i : Nat) : Tg := fun d st h => some (st.set i (some d), h)
theorem g_name {i : Nat} {e : Expr} (p : PG X e (gName i)) : PG X e (tGt c (gtName i)) := PG.imp p fun v σ H Q ⟨d, st, h, g, S, sl, r, q⟩ => q g H _ (Go.refl _ _ _) S (sl.set i r)
/-- several targets -/
abbrev Tgs := List D → Slots → Store → Option (Slots × Store)
def tGs (c : Cf) (f : Tgs) : TGs := fun vs σ H Q => ∃ ds st h g, SR c g h H ∧ SL c g h.length st σ ∧ RVs c g h.length ds vs ∧
  match f ds st h with
  | some (st', h') => ∀ g' H' σ', Go g h H g' h' H' → SR c g' h' H' → SL c g' h'.length st' σ' → Q σ' H'
  | none => False
theorem PGs.imp {e : List Expr} {t t' : TGs} (p : PGs X e t) (k : ∀ v σ H Q, t' v σ H Q → t v σ H Q) : PGs X e t' := ⟨fun pins s σ H v u Q I r h => p.run pins s σ H v u Q I r (k v σ H Q h)⟩
def gtNil : Tgs := fun ds st h => match ds with
  | [] => some (st, h)
  | _ => none
def gtCons (f : Tg) (k : Tgs) : Tgs := fun ds st h => match ds with
  | d :: r => match f d st h with
    | some (st', h') => k r st' h'
    | none => none
  | [] => none
theorem gs_nil : PGs X [] (tGs c gtNil) := PGs.imp pgs_nil fun vs σ H Q ⟨ds, st, h, g, S, sl, r, q⟩ => by
  cases r with
  | nil => exact ⟨rfl, q g H σ (Go.refl _ _ _) S sl⟩
  | cons _ _ => exact q.elim
theorem gs_cons {es : List Expr} {fg : Tg} {kg : Tgs} (h1 : PG X e (tGt c fg)) (h2 : PGs X es (tGs c kg)) (hs : (assignEach (e :: es) X.env).map (·.2) = assign e X.env :: (assignEach es X.env).map (·.2) := by rfl) : PGs X (e :: es) (tGs c (gtCons fg kg)) :=
  PGs.imp (pgs_cons h1 h2 hs) fun vs σ H Q ⟨ds, st, h, g, S, sl, r, q⟩ => by
    cases r with
    | nil => exact q.elim
    | @cons d v ds' vs' r1 rs =>
      refine ⟨v, vs', rfl, d, st, h, g, S, sl, r1, ?_⟩
      unfold gtCons at q
      dsimp only at q
      cases e1 : fg d st h with
      | none => rw [e1] at q; exact q.elim
      | some p =>
        obtain ⟨st', h'⟩ := p
        rw [e1] at q
        dsimp only at q ⊢
        intro g' H' σ' o S' sl'
        refine ⟨ds', st', h', g', S', sl', rs.mono o.gx o.len, ?_⟩
        cases e2 : kg ds' st' h' with
        | none => rw [e2] at q; exact q.elim
        | some p2 =>
          obtain ⟨st2, h2'⟩ := p2
          rw [e2] at q
          exact fun g2 H2 σ2 o2 S2 sl2 => q g2 H2 σ2 (o.trans o2) S2 sl2
def gtTup (n : Nat) (k : Tgs) : Tg := fun d st h => match d with
  | .tup ds => if ds.length = n then k ds st h else none
  | _ => none
theorem g_tup {es : List Expr} {j n : Nat} {kg : Tgs} (hK : c.K = X.K) (hc : X.calm = true) (h : PGs X es (tGs c kg)) (hn : (assignEach es X.env).length = n := by rfl) (hst : (assignEach es X.env).findIdx? (·.1) = none := by rfl) : PG X (.Tuple es j pos) (tGt c (gtTup n kg)) :=
  PG.imp (pg_tup hc h hn hst) fun v σ H Q ⟨d, st, h, g, S, sl, r, q⟩ => by
    cases d with
    | tup ds =>
      obtain ⟨a, vs, rfl, hq, rs⟩ := RV.tup' S r
      unfold gtTup at q
      dsimp only at q
      by_cases hl : ds.length = n
      · rw [if_pos hl] at q
        exact ⟨a, vs, rfl, by rw [← hK]; exact hq, by rw [← rs.length]; exact hl, ds, st, h, g, S, sl, rs, q⟩
      · rw [if_neg hl] at q
        exact q.elim
    | _ => exact q.elim
/-- target = value -/
def sAsg (fe : Ev D) (fg : Tg) : Ss := fun st h => (fe st h).out st fun d h1 => match fg d st h1 with
  | some (st', h') => .next st' h'
  | none => .no
theorem asgOk {fg : Tg} {D : Ends} {st : Slots} {σ : L2.St} {g1 : Gh} {h1 : Store} {H1 : Hp} {d : Gm.D} {v : V} (S1 : SR c g1 h1 H1) (sl : SL c g1 h1.length st σ) (r1 : RV c g1 h1.length d v)
    (q1 : OP c g1 h1 H1 (match fg d st h1 with | some (st', h') => .next st' h' | none => .no) D W) : tGt c fg v σ H1 D.nx := by
  refine ⟨d, st, h1, g1, S1, sl, r1, ?_⟩
  cases e : fg d st h1 with
  | none => rw [e] at q1; exact q1.elim
  | some p =>
    obtain ⟨st', h'⟩ := p
    rw [e] at q1
    exact q1
theorem s_asg {tg : Expr} {fg : Tg} (he : PE X e (tEv c W fe)) (hg : PG X tg (tGt c fg)) (hs : swapsWithSole [tg] e pos.line X.env = pure false := by rfl) (hw : swappedStores [tg] e X.env = pure none := by rfl)
    (h1 : (assignEach [tg] X.env).map (·.2) = [assign tg X.env] := by rfl) : PS X (.Assign [tg] e pos) (tSt c W (sAsg fe fg)) := PS.imp (ps_asg he hg hs hw h1) fun D σ H ⟨st, h, g, S, sl, q⟩ =>
  ⟨st, h, g, S, sl, RP.mono (OP.out sl q) fun v H1 ⟨d, h1, g1, o1, S1, r1, q1⟩ => asgOk S1 (sl.go o1) r1 q1⟩
def sSet (i : Nat) (fe : Ev D) : Ss := fun st h => (fe st h).out st fun d h1 => .next (st.set i (some d)) h1
theorem s_set {i : Nat} {x : Str} {pos' : Pos} (hN : X.N.Nodup) (hi : X.N[i]? = some x) (hx : Loc X.env.scope x) (he : PE X e (tEv c W fe)) (hs : swapsWith e (some (.Name x pos')) pos.line X.env = pure false := by rfl) (hf : X.fn x = true ∨ X.env.scope.names.lookup x = some .local := by first | exact .inl rfl | exact .inr rfl | assumption) :
    PS X (.Assign [.Name x pos'] e pos) (tSt c W (sSet i fe)) := PS.imp (ps_set hN hi hx he hs hf) fun D σ H ⟨st, h, g, S, sl, q⟩ =>
  ⟨st, h, g, S, sl, RP.mono (OP.out sl q) fun v H1 ⟨d, h1, g1, o1, S1, r1, q1⟩ => q1 g1 H1 _ (Go.refl _ _ _) S1 ((sl.go o1).set i r1)⟩
/-- name op= e -/
def sAug (i : Nat) (fo : D → D → Store → Res D) (fe : Ev D) : Ss := fun st h => match st[i]? with
  | some (some x) => (fe st h).out st fun y h1 => (fo x y h1).out st fun z h2 => .next (st.set i (some z)) h2
  | _ => .no
theorem s_aug {i : Nat} {x : Str} {op : Operator} {r : R2} {fo : D → D → Store → Res D} {pos' : Pos} (hN : X.N.Nodup) (hi : X.N[i]? = some x) (hx : Loc X.env.scope x) (ho : OpR X (inplaceOp op) r) (hr : R2Ok c r fo) (he : PE X e (tEv c W fe))
    (hf : X.fn x = true ∨ X.env.scope.names.lookup x = some .local := by first | exact .inl rfl | exact .inr rfl | assumption) : PS X (.AugAssign (.Name x pos') op e pos) (tSt c W (sAug i fo fe)) := PS.imp (ps_aug (ti := r) hN hi hx he ho hf) fun D σ H ⟨st, h, g, S, sl, q⟩ => by
  unfold sAug at q
  split at q
  · rename_i d e1
    obtain ⟨v, e2, rv⟩ := sl.2 i d e1
    refine ⟨v, e2, st, h, g, S, sl, RP.mono (OP.out sl q) fun w H1 ⟨d1, h1, g1, o1, S1, r1, q1⟩ => ?_⟩
    exact hr g1 h1 H1 d v d1 w _ _ S1 (rv.mono o1.gx o1.len) r1 (RP.mono (OP.out (sl.go o1) q1) fun z H2 ⟨d2, h2, g2, o2, S2, r2, q2⟩ => q2 g2 H2 _ (Go.refl _ _ _) S2 ((sl.go (o1.trans o2)).set i r2))
  · exact q.elim

/-! ### while -/
def whileL (ft : Ev Bool) (fb : Ss) : Nat → Ss
  | 0, _, _ => .no
  | n + 1, st, h => (ft st h).out st fun b h1 => if b = true then
      match fb st h1 with
      | .next st2 h2 => whileL ft fb n st2 h2
      | .cont st2 h2 => whileL ft fb n st2 h2
      | .brk st2 h2 => .next st2 h2
      | o => o
    else .next st h1
theorem s_while {t : Expr} {ft : Ev Bool} {body : List Stmt} {fb : Ss} (n : Nat) (hp : PassesOwn (model X.prog X.w) X.A X.env X.xe) (ht : PT X t (tTe c W ft)) (hb : PSs X body (tSt c W fb)) : PS X (.While t body [] pos) (tSt c W (whileL ft fb n)) := PS.imp (ps_while hp ht hb) fun D σ H ⟨st, h, g, S, sl, q⟩ => by
  refine ⟨fun m σ H => ∃ st h g, SR c g h H ∧ SL c g h.length st σ ∧ OP c g h H (whileL ft fb m st h) D W, ⟨n, st, h, g, S, sl, q⟩, ?_⟩
  rintro m σ H ⟨st, h, g, S, sl, q⟩
  cases m with
  | zero => exact q.elim
  | succ m =>
    refine ⟨st, h, g, S, sl, RP.mono (OP.out (R := Rb) sl q) fun v H1 ⟨d, h1, g1, o1, S1, r1, q1⟩ => ?_⟩
    have e : d = v := r1
    subst e
    cases d with
    | false => exact q1 g1 H1 σ (Go.refl _ _ _) S1 (sl.go o1)
    | true =>
      rw [if_pos rfl] at q1
      rw [if_pos rfl]
      refine ⟨fun σ H => ∃ st h g, SR c g h H ∧ SL c g h.length st σ ∧ OP c g h H (whileL ft fb m st h) D W, fun σ' H' x => ⟨m, Nat.lt_succ_self m, x⟩, st, h1, g1, S1, sl.go o1, ?_⟩
      cases e : fb st h1 with
      | next st2 h2 => rw [e] at q1; exact fun g' H' σ' o S' sl' => ⟨st2, h2, g', S', sl', OP.go (o := whileL ft fb m st2 h2) q1 o⟩
      | cont st2 h2 => rw [e] at q1; exact fun g' H' σ' o S' sl' => ⟨st2, h2, g', S', sl', OP.go (o := whileL ft fb m st2 h2) q1 o⟩
      | brk st2 h2 => rw [e] at q1; exact q1
      | ret d2 h2 => rw [e] at q1; exact q1
      | exc ee st2 h2 => rw [e] at q1; exact q1
      | no => rw [e] at q1; exact q1.elim

/-! ### what is walked -/
/-- the iterator J yields l, turn by turn -/
def ItOk (c : Cf) (J : It) (l : List D) (g0 : Gh) (L0 : Nat) : Prop := ∀ g h H (i : Nat), SR c g h H → Gx g0 L0 g → L0 ≤ h.length →
  (l.length ≤ i → J.stop i H) ∧ (∀ d, l[i]? = some d → J.go i H ∧ ∀ x H', J.yld i H x H' → ∃ g', Go g h H g' h H' ∧ SR c g' h H' ∧ RV c g' h.length d x)
theorem Gx.trans {g g1 g2 : Gh} {L L1 : Nat} (x : Gx g L g1) (y : Gx g1 L1 g2) (hl : L ≤ L1) : Gx g L g2 := ⟨fun n hn => (y.io n (Nat.lt_of_lt_of_le hn hl)).trans (x.io n hn), fun a o e => y.tr a o (x.tr a o e)⟩
theorem ItOk.mono {J : It} {l : List D} {g0 g1 : Gh} {L0 L1 : Nat} (k : ItOk c J l g0 L0) (x : Gx g0 L0 g1) (hl : L0 ≤ L1) : ItOk c J l g1 L1 := fun g h H i S gx hL => k g h H i S (x.trans gx hl) (Nat.le_trans hl hL)
def tIt (c : Cf) (W : WX) (f : Ev (List D)) : TI := fun σ H R => ∃ st h g, SR c g h H ∧ SL c g h.length st σ ∧ RP c (fun g L l J => ItOk c J l g L) g h H (f st h) R (fun cls dd H' => W cls dd σ H')
theorem PI.imp {tg e : Expr} {t t' : TI} (p : PI X tg e t) (k : ∀ σ H Q, t' σ H Q → t σ H Q) : PI X tg e t' := ⟨fun pins s σ H Q I h => p.run pins s σ H Q I (k σ H Q h)⟩
def forL (fg : Tg) (fb : Ss) : List D → Ss
  | [], st, h => .next st h
  | d :: l, st, h => match fg d st h with
    | none => .no
    | some (st1, h1) => match fb st1 h1 with
      | .next st2 h2 => forL fg fb l st2 h2
      | .cont st2 h2 => forL fg fb l st2 h2
      | .brk st2 h2 => .next st2 h2
      | o => o
def sFor (fi : Ev (List D)) (fg : Tg) (fb : Ss) : Ss := fun st h => (fi st h).out st fun l h1 => forL fg fb l st h1
theorem s_for {tg iter : Expr} {body : List Stmt} {fi : Ev (List D)} {fg : Tg} {fb : Ss} (hp : PassesOwn (model X.prog X.w) X.A X.env X.xe) (hc : X.calm = true) (hi : PI X tg iter (tIt c W fi)) (hg : PG X tg (tGt c fg)) (hb : PSs X body (tSt c W fb))
    (hs : ∀ x, foldedSetIterable iter X.env x = pure x := by intro _; rfl) : PS X (.For tg iter body [] pos) (tSt c W (sFor fi fg fb)) := PS.imp (ps_for hp hc hi hg hb hs) fun D σ H ⟨st, h, g, S, sl, q⟩ => by
  refine ⟨st, h, g, S, sl, RP.mono (OP.out (R := fun g L l J => ItOk c J l g L) sl q) fun J H1 ⟨l, h1, g1, o1, S1, k1, q1⟩ => ?_⟩
  refine ⟨fun i m σ H => m = l.length - i ∧ i ≤ l.length ∧ ∃ st h g, SR c g h H ∧ SL c g h.length st σ ∧ Gx g1 h1.length g ∧ h1.length ≤ h.length ∧ OP c g h H (forL fg fb (l.drop i) st h) D W, ⟨_, rfl, Nat.zero_le _, st, h1, g1, S1, sl.go o1, Gx.refl _ _, Nat.le_refl _, q1⟩, ?_⟩
  rintro i m σ H ⟨rfl, hi, st, h, g, S, sl, gx, hL, q⟩
  obtain ⟨ks, kg⟩ := k1 g h H i S gx hL
  by_cases hlt : i < l.length
  · obtain ⟨go, yl⟩ := kg l[i] (List.getElem?_eq_getElem hlt)
    refine .inr ⟨go, fun σ H => ∃ st h g, SR c g h H ∧ SL c g h.length st σ ∧ Gx g1 h1.length g ∧ h1.length ≤ h.length ∧ OP c g h H (forL fg fb (l.drop (i + 1)) st h) D W, fun σ' H' x => ⟨l.length - (i + 1), by omega, rfl, hlt, x⟩, fun x H' y => ?_⟩
    obtain ⟨g', o', S', r'⟩ := yl x H' y
    rw [List.drop_eq_getElem_cons hlt] at q
    unfold forL at q
    refine ⟨l[i], st, h, g', S', sl.go o', r', ?_⟩
    cases e1 : fg l[i] st h with
    | none => rw [e1] at q; exact q.elim
    | some p =>
      obtain ⟨st1, h2⟩ := p
      rw [e1] at q
      dsimp only at q ⊢
      intro g2 H2 σ2 o2 S2 sl2
      refine ⟨st1, h2, g2, S2, sl2, ?_⟩
      have o12 := o'.trans o2
      cases e2 : fb st1 h2 with
      | next st3 h3 =>
        rw [e2] at q
        exact fun g3 H3 σ3 o3 S3 sl3 => ⟨st3, h3, g3, S3, sl3, gx.trans (o12.trans o3).gx hL, Nat.le_trans hL (o12.trans o3).len, OP.go (o := forL fg fb (l.drop (i + 1)) st3 h3) q (o12.trans o3)⟩
      | cont st3 h3 =>
        rw [e2] at q
        exact fun g3 H3 σ3 o3 S3 sl3 => ⟨st3, h3, g3, S3, sl3, gx.trans (o12.trans o3).gx hL, Nat.le_trans hL (o12.trans o3).len, OP.go (o := forL fg fb (l.drop (i + 1)) st3 h3) q (o12.trans o3)⟩
      | brk st3 h3 => rw [e2] at q; exact fun g3 H3 σ3 o3 S3 sl3 => q g3 H3 σ3 (o12.trans o3) S3 sl3
      | ret d3 h3 => rw [e2] at q; exact fun g3 H3 σ3 o3 S3 sl3 => q g3 H3 σ3 (o12.trans o3) S3 sl3
      | exc ee st3 h3 => rw [e2] at q; exact fun g3 H3 σ3 cls dd o3 S3 sl3 r3 => q g3 H3 σ3 cls dd (o12.trans o3) S3 sl3 r3
      | no => rw [e2] at q; exact q.elim
  · have e : i = l.length := by omega
    subst e
    rw [List.drop_length] at q
    exact .inl ⟨ks (Nat.le_refl _), q g H σ (Go.refl _ _ _) S sl⟩
end

/-! ### a def -/
def startD (n : Nat) (ds : List D) : Slots := ds.map some ++ List.replicate (n - ds.length) none
def Out.res (o : Out) : Res D := match o with
  | .ret d h => .ok d h
  | .next _ h => .ok .non h
  | .exc e _ h => .exc e h
  | _ => .no
/-- a def by its body: n names, k parameters -/
def fnOf (n k : Nat) (fb : Ss) : FnT := fun ds h => if ds.length = k then cleanD h.length (fb (startD n ds) h).res else .no
theorem SL.start {c : Cf} {g : Gh} {L : Nat} {N : List Str} {ds : List D} {vs : List V} (r : RVs c g L ds vs) : SL c g L (startD N.length ds) (L2.start N vs) := by
  have e := r.length
  refine ⟨by unfold startD L2.start; simp [e], fun i d q => ?_⟩
  unfold startD at q
  unfold L2.start
  by_cases hi : i < ds.length
  · rw [List.getElem?_append_left (by simpa using hi), List.getElem?_map] at q
    cases e2 : ds[i]? with
    | none => rw [e2] at q; cases q
    | some x =>
      rw [e2] at q
      have q : x = d := by simpa using q
      subst q
      obtain ⟨y, e3, r3⟩ := r.get e2
      exact ⟨y, by rw [List.getElem?_append_left (by simpa [← e] using hi), List.getElem?_map, e3]; rfl, r3⟩
  · rw [List.getElem?_append_right (by simpa using hi), List.getElem?_replicate] at q
    split at q <;> cases q
theorem fn_ok {P : Program} {w : World} {K : PySem.W.Frag} {mg : Str → Option Value} {base : Heap} {c : Cf} {x qual : Str} {params : Arguments} {body : List Stmt} {scope : Scope} {dvs : List V} {kws : List (Str × V)} {f : Addr} {fd : FuncData} {N ps : List Str} {k : Nat} {fb : Ss}
    (F : FunD K x qual params body scope dvs kws f fd) (S : FnScope N ps scope)
    (hbody : ∀ (cdv : Value) (A : Around) (outer : List Env) (s : Shared) (H : Hp) (E : XK), Room k (A.deeper (envOfC qual scope s.heap.objs.size f cdv)) →
      PSs (cxOf (L2.CX P w) P w K mg base N qual scope f cdv A outer s H E) body (tSt c (fun cls d _ H' => E cls d H') fb)) :
    FnOk P w K mg base (L2.CX P w) (k + 1) f fd ps (spOf c (fnOf N.length ps.length fb)) := by
  refine FunD.ok F S (fun vs H Q E ⟨ds, h, g, S, r, q⟩ => ?_) fun cdv A outer s H vs Q E hr ⟨ds, h, g, S, r, q⟩ => ⟨_, hbody cdv A outer s H E hr, ?_⟩
  · unfold fnOf at q
    by_cases hl : ds.length = ps.length
    · rw [← hl, r.length]
    · rw [if_neg hl] at q
      exact q.elim
  · unfold fnOf at q
    by_cases hl : ds.length = ps.length
    · rw [if_pos hl] at q
      have q := RP.clean q
      refine ⟨startD N.length ds, h, g, S, SL.start r, ?_⟩
      cases e : fb (startD N.length ds) h with
      | next st' h' => rw [e] at q; exact fun g' H' σ o S' _ => q g' H' .non o S' .non
      | ret d h' => rw [e] at q; exact q
      | brk st' h' => rw [e] at q; exact q.elim
      | cont st' h' => rw [e] at q; exact q.elim
      | exc ee st' h' => rw [e] at q; exact fun g' H' σ cls dd o S' _ rx => q g' H' cls dd o S' rx
      | no => rw [e] at q; exact q.elim
    · rw [if_neg hl] at q
      exact q.elim
/-- a def by the way it is called: its level, its function, the defaults behind the written arguments -/
def CallOk (P : Program) (w : World) (K : PySem.W.Frag) (mg : Str → Option Value) (base : Heap) (c : Cf) (x : Str) (k : Nat) (F : FnT) (defs : List D) : Prop :=
  ∃ (f : Addr) (fd : FuncData) (ps : List Str) (ds : List Value) (dvs : List V), mg x = some (.ref f) ∧ FnOk P w K mg base (L2.CX P w) k f fd ps (spOf c F) ∧ PySem.W.keepIn K (.ref f) = true ∧ L2.Binds K fd ps ds ∧ Vals dvs ds ∧ ∀ g L, RVs c g L defs dvs
theorem e_callC {c : Cf} {W : WX} {X : Cx} {x : Str} {k j : Nat} {F : FnT} {defs : List D} {e : Expr} {es : List Expr} {fs : Ev (List D)} {p pos : Pos} (G : CallOk X.prog X.w X.K X.mg X.base c x k F defs) (hr : Room j X.A) (hj : k ≤ j) (hg : Gl X x) (tk : Takes X W) (ha : PA X (e :: es) (tAr c W fs))
    (hdb : (x == ("__debug__" : Str)) = false := by decide) (he : starEach (e :: es) X.env = (false, eval e X.env) :: starEach es X.env := by rfl) (hpl : (backTo pos (starEach es X.env)).any (·.1) = false := by rfl) :
    PE X (.Call (.Name x p) (e :: es) [] pos) (tEv c W (cCall F defs fs)) := by
  obtain ⟨f, fd, ps, ds, dvs, hm, G, hk, hb, hd, rd⟩ := G
  exact e_call G (hr.mono hj) hg hm hk hb hd rd tk ha hdb he hpl
/-- .. with keywords: gD puts the written values and the keywords' values (with what lacks) in the parameters' order -/
def CallOkK (P : Program) (w : World) (K : PySem.W.Frag) (mg : Str → Option Value) (base : Heap) (c : Cf) (x : Str) (k : Nat) (F : FnT) (n : Nat) (ks : List Str) (gD : List D → List D → List D) : Prop :=
  ∃ (f : Addr) (fd : FuncData) (ps : List Str) (gV : List V → List V → List V) (gU : List Value → List Value → List Value), mg x = some (.ref f) ∧ FnOk P w K mg base (L2.CX P w) k f fd ps (spOf c F) ∧ PySem.W.keepIn K (.ref f) = true ∧ L2.KBn K fd ps n ks gU gV ∧
    ∀ g L ds vs es ws, RVs c g L ds vs → RVs c g L es ws → RVs c g L (gD ds es) (gV vs ws)
def cCallK (F : FnT) (n m : Nat) (gD : List D → List D → List D) (fs fk : Ev (List D)) : Ev D := fun st h => (fs st h).bind fun ds h1 => (fk st h1).bind fun es h2 => if ds.length = n ∧ es.length = m then F (gD ds es) h2 else .no
def tKw (c : Cf) (W : WX) (f : Ev (List D)) : TA := tAr c W f
theorem PK.imp {X : Cx} {e : List Keyword} {t t' : TA} (p : L2.PK X e t) (k : ∀ σ H Q, t' σ H Q → t σ H Q) : L2.PK X e t' := ⟨fun w pins s σ H Q I h => p.run w pins s σ H Q I (k σ H Q h)⟩
section
variable {c : Cf} {W : WX} {X : Cx} {e : Expr} {es : List Expr} {kws : List Keyword} {fe : Ev D} {fs fk : Ev (List D)} {nm : Option Str} {kpos p pos : Pos}
theorem k_nil : L2.PK X [] (tAr c W cNil) := PK.imp pk_nil fun σ H Q ⟨st, h, g, S, sl, q⟩ => RP.ok_here q S .nil
theorem k_cons (ha : PE X e (tEv c W fe)) (hr : L2.PK X kws (tAr c W fk)) : L2.PK X (⟨nm, e, kpos⟩ :: kws) (tAr c W (cCons fe fk)) := PK.imp (pk_cons ha hr) fun σ H Q ⟨st, h, g, S, sl, q⟩ => by
  refine ⟨st, h, g, S, sl, RP.mono q.bind fun v1 H1 ⟨d1, h1, g1, o1, S1, r1, q1⟩ => ?_⟩
  refine ⟨st, h1, g1, S1, sl.go o1, RP.mono q1.bind fun v2 H2 ⟨d2, h2, g2, o2, S2, r2, q2⟩ => ?_⟩
  exact RP.ok_here q2 S2 (.cons (r1.mono o2.gx o2.len) r2)
theorem e_callK {x : Str} {k j n m : Nat} {F : FnT} {ks : List Str} {gD : List D → List D → List D} {E : XK} (G : CallOkK X.prog X.w X.K X.mg X.base c x k F n ks gD) (hr : Room j X.A) (hj : k ≤ j) (hg : Gl X x) (hx : Passes (L2.CX X.prog X.w) X E) (hW : ∀ cls dd σ H, W cls dd σ H → E cls dd H)
    (ha : PA X (e :: es) (tAr c W fs)) (hkw : L2.PK X kws (tAr c W fk)) (hall : (backToKw pos (keywordEach kws X.env)).all (·.1.isSome) = true := by rfl) (hks : (backToKw pos (keywordEach kws X.env)).filterMap (·.1) = ks := by rfl)
    (hdb : (x == ("__debug__" : Str)) = false := by decide) (he : starEach (e :: es) X.env = (false, eval e X.env) :: starEach es X.env := by rfl)
    (hpl : ((backTo pos (starEach (e :: es) X.env)).any (·.1) || (backToKw pos (keywordEach kws X.env)).any (·.1.isNone)) = false := by rfl) (hlen : ks.length = m := by rfl) :
    PE X (.Call (.Name x p) (e :: es) kws pos) (tEv c W (cCallK F n m gD fs fk)) := by
  subst hlen
  obtain ⟨f, fd, ps, gV, gU, hm, G, hk, hb, rd⟩ := G
  refine PE.imp (pe_callN G (hr.mono hj) hg hm hk hb hx ha hkw hall hks hdb he hpl) fun σ H Q ⟨st, h, g, S, sl, q⟩ => ?_
  refine ⟨st, h, g, S, sl, RP.mono q.bind fun vs H1 ⟨ds, h1, g1, o1, S1, r1, q1⟩ => ?_⟩
  refine ⟨st, h1, g1, S1, sl.go o1, RP.mono q1.bind fun zs H2 ⟨es', h2, g2, o2, S2, r2, q2⟩ => ?_⟩
  by_cases hl : ds.length = n ∧ es'.length = ks.length
  · rw [if_pos hl] at q2
    refine ⟨by rw [← r1.length]; exact hl.1, by rw [← r2.length]; exact hl.2, gD ds es', h2, g2, S2, rd _ _ _ _ _ _ (r1.mono o2.gx o2.len) r2, ?_⟩
    cases er : F (gD ds es') h2 with
    | ok d h3 => rw [er] at q2; exact q2
    | exc ee h3 => rw [er] at q2; exact fun g' H' cls dd o S' rx => hW _ _ _ _ (q2 g' H' cls dd o S' rx)
    | no => rw [er] at q2; exact q2
  · rw [if_neg hl] at q2
    exact q2.elim
end
end Gm

/-! Gm5: what is walked; comprehensions; freezing. -/
namespace Gm
open PySem PySem.Spec PyProof.Rows L2

/-! ### freezing a cell -/
theorem SR.frz {c : Cf} {g : Gh} {h : Store} {H : Hp} (S : SR c g h H) {n : Nat} {l : List D} {vs : List V} (hn : h[n]? = some (some (.lst l))) (hv : H (g.io n) = some (.lst vs)) :
    SR c { g with tr := upd g.tr (g.io n) (.lst vs) } (h.set n none) H ∧ Go g h H { g with tr := upd g.tr (g.io n) (.lst vs) } (h.set n none) H := by
  have ln : Live h n := ⟨_, hn⟩
  have lv : ∀ m, Live (h.set n none) m → Live h m ∧ m ≠ n := fun m ⟨ce, e⟩ => by
    by_cases z : m = n
    · subst z
      rw [List.getElem?_set_self ln.lt] at e
      cases e
    · rw [List.getElem?_set_ne (Ne.symm z)] at e
      exact ⟨⟨ce, e⟩, z⟩
  have gx : Gx g h.length { g with tr := upd g.tr (g.io n) (.lst vs) } := ⟨fun _ _ => rfl, fun a u e => by
    show upd g.tr (g.io n) (.lst vs) a = some u
    rw [upd_ne (fun z => by rw [z, S.apart n ln] at e; cases e)]
    exact e⟩
  refine ⟨⟨fun a u e => ?_, fun m l => ?_, fun m ce e => ?_, fun m k l1 l2 e => S.inj m k (lv m l1).1 (lv k l2).1 e, S.tabs⟩, ⟨by simp, gx.io, gx.tr, fun a u e => ⟨u, e⟩, fun a u e _ _ => e, fun a u e _ t nl => ?_, fun m _ l => (lv m l).1, fun m hm l => absurd l.lt (by simpa using hm)⟩⟩
  · have e : upd g.tr (g.io n) (.lst vs) a = some u := e
    by_cases z : a = g.io n
    · rw [z, upd_same] at e
      rw [z, hv]
      exact e
    · rw [upd_ne z] at e
      exact S.sub a u e
  · show upd g.tr (g.io n) (.lst vs) (g.io m) = none
    obtain ⟨l0, nm⟩ := lv m l
    rw [upd_ne (fun e => nm (S.inj m n l0 ln e))]
    exact S.apart m l0
  · obtain ⟨l0, nm⟩ := lv m ⟨ce, e⟩
    rw [List.getElem?_set_ne (Ne.symm nm)] at e
    rw [List.length_set]
    exact (S.cell m ce e).mono gx (Nat.le_refl _) rfl
  · show upd g.tr (g.io n) (.lst vs) a = none
    rw [upd_ne (Ne.symm (nl n ln))]
    exact t
/-- the cell in slot i is frozen ahead of a statement -/
def sFrz (i : Nat) (f : Ss) : Ss := fun st h => match st[i]? with
  | some (some (.ref n)) => match h[n]? with
    | some (some (.lst l)) => f (st.set i (some (.lst l))) (h.set n none)
    | _ => .no
  | _ => .no
theorem s_frz {c : Cf} {W : WX} {X : Cx} {s : Stmt} {f : Ss} (i : Nat) (p : PS X s (tSt c W f)) : PS X s (tSt c W (sFrz i f)) := PS.imp p fun D σ H ⟨st, h, g, S, sl, q⟩ => by
  unfold sFrz at q
  split at q
  · rename_i n e1
    split at q
    · rename_i l e2
      obtain ⟨v, e3, rv⟩ := sl.2 i _ e1
      obtain ⟨vs, e4, rs⟩ := S.cell n _ e2
      cases rv with
      | ref hn =>
        obtain ⟨S1, o1⟩ := S.frz e2 e4
        have sl1 : SL c { g with tr := upd g.tr (g.io n) (.lst vs) } (h.set n none).length (st.set i (some (.lst l))) σ := by
          have sl' := (sl.go o1).set i (d := .lst l) (v := .ref (g.io n)) (.lst upd_same (by rw [List.length_set]; exact rs.mono o1.gx (Nat.le_refl _)))
          have e : σ.set i (some (.ref (g.io n))) = σ := by
            apply List.ext_getElem?
            intro j
            by_cases z : i = j
            · subst z
              rw [List.getElem?_set_self (List.getElem?_eq_some_iff.mp e3).1, e3]
            · rw [List.getElem?_set_ne z]
          rw [e] at sl'
          exact sl'
        exact ⟨_, _, _, S1, sl1, OP.go q o1⟩
    · exact q.elim
  · exact q.elim

/-! ### what is walked -/
def iSeq (K : PySem.W.Frag) (tl : TE) : TI := fun σ H R => tl σ H fun x H1 => (∃ a, x = .ref a ∧ (∃ xs, SqL K H1 a xs) ∧ R (Itl K a) H1) ∨ (∃ a, x = .ref a ∧ (∃ xs, SqT K H1 a xs) ∧ R (Itt K a) H1) ∨ ∃ z, x = .str z ∧ R (Its z) H1
theorem pi_seq {X : Cx} {tg e : Expr} {te : TE} (he : PE X e te) : PI X tg e (iSeq X.K te) := by
  refine ⟨fun pins s σ H R I h => ?_⟩
  refine thn (he.run pins s σ H _ I h) fun v s1 ⟨x, H1, I1, r1, q1⟩ => ?_
  have tc : PE X e te := he
  rcases q1 with ⟨a, ex, hx, q⟩ | ⟨a, ex, hx, q⟩ | ⟨z, ex, q⟩
  · subst ex
    cases r1
    obtain ⟨xs, hq⟩ := hx
    obtain ⟨its, rv, p, hz⟩ := I1.list hq
    refine wpAny_pyIter_list p.isList ?_
    refine ⟨s1.heap.objs.size, [s1.heap.objs.size], _, _, H1, rfl, I1.kept (t' := s1.toks) fun b o e => Heap.get?_push_of_some _ e, turn_list a _, ⟨_, Heap.get?_push_size _ rfl, rfl, rfl⟩, fun b hb => ?_, q⟩
    have e : b = s1.heap.objs.size := by simpa using hb
    subst e
    exact I1.fpOk (Nat.le_refl _) (I1.hok.fresh (Nat.le_refl _))
  · subst ex
    cases r1
    obtain ⟨xs, hq⟩ := hx
    obtain ⟨its, rv, p, hz⟩ := I1.tuple hq
    refine wpAny_pyIter_tuple (show s1.heap.IsTuple a its.toArray from p) ?_
    refine ⟨s1.heap.objs.size, [s1.heap.objs.size], _, _, H1, rfl, I1.kept (t' := s1.toks) fun b o e => Heap.get?_push_of_some _ e, turn_tuple a _, ⟨_, Heap.get?_push_size _ rfl, rfl, rfl⟩, fun b hb => ?_, q⟩
    have e : b = s1.heap.objs.size := by simpa using hb
    subst e
    exact I1.fpOk (Nat.le_refl _) (I1.hok.fresh (Nat.le_refl _))
  · subst ex
    obtain ⟨t, rfl⟩ := r1
    cases ha : z.cps.all (· < 128)
    · exact wpAny_pyIter_wide ha (pi_one (tk := s1.toks) I1 _ (turn_str _ z t "str_iterator" (.inr rfl)) ⟨_, Heap.get?_push_size _ rfl, rfl, rfl⟩ q)
    · exact wpAny_pyIter_ascii ha (pi_one (tk := s1.toks) I1 _ (turn_str _ z t "str_ascii_iterator" (.inl rfl)) ⟨_, Heap.get?_push_size _ rfl, rfl, rfl⟩ q)
section
variable {c : Cf} {W : WX} {X : Cx} {tg e : Expr} {fe : Ev D} {pos : Pos}
theorem itl_ok {a : Addr} {l : List D} {vs : List V} {g0 : Gh} {L0 : Nat} (hq : SqL c.K g0.tr a vs) (rs : RVs c g0 L0 l vs) : ItOk c (Itl c.K a) l g0 L0 := fun g h H i S gx hL => by
  have q : SqL c.K H a vs := SqL.sub S.sub (SqL.sub gx.tr hq)
  refine ⟨fun hi => ⟨vs, q, by rw [← rs.length]; exact hi⟩, fun d hd => ?_⟩
  obtain ⟨y, e1, r1⟩ := rs.get hd
  refine ⟨⟨vs, y, q, e1⟩, fun x H' ⟨eH, hx⟩ => ?_⟩
  have e2 := hx vs q
  rw [e1] at e2
  cases e2
  subst eH
  exact ⟨g, Go.refl _ _ _, S, r1.mono gx hL⟩
theorem itt_ok {a : Addr} {l : List D} {vs : List V} {g0 : Gh} {L0 : Nat} (hq : SqT c.K g0.tr a vs) (rs : RVs c g0 L0 l vs) : ItOk c (Itt c.K a) l g0 L0 := fun g h H i S gx hL => by
  have q : SqT c.K H a vs := SqT.sub S.sub (SqT.sub gx.tr hq)
  refine ⟨fun hi => ⟨vs, q, by rw [← rs.length]; exact hi⟩, fun d hd => ?_⟩
  obtain ⟨y, e1, r1⟩ := rs.get hd
  refine ⟨⟨vs, y, q, e1⟩, fun x H' ⟨eH, hx⟩ => ?_⟩
  have e2 := hx vs q
  rw [e1] at e2
  cases e2
  subst eH
  exact ⟨g, Go.refl _ _ _, S, r1.mono gx hL⟩
/-- the signs of a text -/
def signs (x : Str) : List D := x.cps.toList.map fun c => .str ⟨#[c]⟩
theorem its_ok {x : Str} {g0 : Gh} {L0 : Nat} : ItOk c (Its x) (signs x) g0 L0 := fun g h H i S gx hL => by
  refine ⟨fun hi => (show x.cps.size ≤ i by simpa [signs] using hi), fun d hd => ?_⟩
  unfold signs at hd
  rw [List.getElem?_map] at hd
  cases e : x.cps.toList[i]? with
  | none => rw [e] at hd; cases hd
  | some k =>
    rw [e] at hd
    have hd : D.str ⟨#[k]⟩ = d := by simpa using hd
    subst hd
    have hi : i < x.cps.size := by
      have := (List.getElem?_eq_some_iff.mp e).1
      simpa using this
    refine ⟨hi, fun v H' ⟨eH, k2, e2, ev⟩ => ?_⟩
    subst eH
    have e3 : x.cps[i]? = some k := by rw [← Array.getElem?_toList]; exact e
    rw [e3] at e2
    cases e2
    rw [ev]
    exact ⟨g, Go.refl _ _ _, S, .str _⟩
/-- the items of what is walked: a list or a tuple that stays, a text -/
def items : D → Option (List D)
  | .lst l => some l
  | .fro l => some l
  | .tup l => some l
  | .str x => some (signs x)
  | _ => none
def iSeqD (fe : Ev D) : Ev (List D) := fun st h => (fe st h).bind fun d h1 => match items d with
  | some l => .ok l h1
  | none => .no
theorem i_seq (hK : c.K = X.K) (he : PE X e (tEv c W fe)) : PI X tg e (tIt c W (iSeqD fe)) := PI.imp (pi_seq he) fun σ H R ⟨st, h, g, S, sl, q⟩ => by
  refine ⟨st, h, g, S, sl, RP.mono (RP.bind q) fun v H1 ⟨d, h1, g1, o1, S1, r1, q1⟩ => ?_⟩
  rw [← hK]
  cases r1 with
  | lst h2 rs =>
    have q1 : RP c _ g1 h1 H1 (.ok _ h1) R _ := q1
    exact .inl ⟨_, rfl, ⟨_, .inl (.inl (S1.sub _ _ h2))⟩, RP.ok_here q1 S1 (itl_ok (.inl (.inl h2)) rs)⟩
  | fro h2 rs =>
    have q1 : RP c _ g1 h1 H1 (.ok _ h1) R _ := q1
    exact .inl ⟨_, rfl, ⟨_, SqL.sub S1.sub h2⟩, RP.ok_here q1 S1 (itl_ok h2 rs)⟩
  | tup h2 rs =>
    have q1 : RP c _ g1 h1 H1 (.ok _ h1) R _ := q1
    exact .inr (.inl ⟨_, rfl, ⟨_, SqT.sub S1.sub h2⟩, RP.ok_here q1 S1 (itt_ok h2 rs)⟩)
  | str x =>
    have q1 : RP c _ g1 h1 H1 (.ok _ h1) R _ := q1
    exact .inr (.inr ⟨_, rfl, RP.ok_here q1 S1 its_ok⟩)
  | _ => exact q1.elim
/-- upInts lo, lo + k, .. -/
def upInts (lo k : Int) (n : Nat) : List D := (List.range n).map fun i => .int (lo + (i : Nat) * k)
theorem ints_get {lo k : Int} {n i : Nat} {d : D} (h : (upInts lo k n)[i]? = some d) : i < n ∧ d = .int (lo + (i : Nat) * k) := by
  unfold upInts at h
  rw [List.getElem?_map] at h
  by_cases hi : i < n
  · rw [List.getElem?_range hi] at h
    exact ⟨hi, (Option.some.inj h).symm⟩
  · rw [List.getElem?_eq_none (by simpa using hi)] at h
    cases h
theorem itr_ok {lo : Int} {n : Nat} {g0 : Gh} {L0 : Nat} : ItOk c (Itr lo n) (upInts lo 1 n) g0 L0 := fun g h H i S gx hL => by
  refine ⟨fun hi => (show n ≤ i by simpa [upInts] using hi), fun d hd => ?_⟩
  obtain ⟨hi, rfl⟩ := ints_get hd
  refine ⟨hi, fun v H' ⟨eH, ev⟩ => ?_⟩
  subst eH
  rw [ev, Int.mul_one]
  exact ⟨g, Go.refl _ _ _, S, .int _⟩
theorem itc_ok {lo k : Int} {n : Nat} {g0 : Gh} {L0 : Nat} : ItOk c (Itc lo k n) (upInts lo k n) g0 L0 := fun g h H i S gx hL => by
  refine ⟨fun hi => (show n ≤ i by simpa [upInts] using hi), fun d hd => ?_⟩
  obtain ⟨hi, rfl⟩ := ints_get hd
  refine ⟨hi, fun v H' ⟨eH, ev⟩ => ?_⟩
  subst eH
  rw [ev]
  exact ⟨g, Go.refl _ _ _, S, .int _⟩
def g62 (i : Int) : Bool := Nat.ble i.natAbs 4611686018427387903
theorem g62_ok {i : Int} (h : g62 i = true) : -(2 ^ 62) ≤ i ∧ i < 2 ^ 62 := by
  have := Nat.le_of_ble_eq_true h
  omega
def iRange1 (fs : Ev (List D)) : Ev (List D) := fun st h => (fs st h).bind fun ds h1 => match ds with
  | [.int j] => if g62 j = true then .ok (upInts 0 1 j.toNat) h1 else .no
  | _ => .no
def iRange2 (fs : Ev (List D)) : Ev (List D) := fun st h => (fs st h).bind fun ds h1 => match ds with
  | [.int i, .int j] => if g62 i = true ∧ g62 j = true then .ok (upInts i 1 (j - i).toNat) h1 else .no
  | _ => .no
theorem i_range1 {a : Expr} {fs : Ev (List D)} {p pos : Pos} (hg : Gl X "range") (hm : X.mg "range" = none) (ha : PA X [a] (tAr c W fs)) (hs : starEach [a] X.env = [(false, eval a X.env)] := by rfl) : PI X tg (.Call (.Name "range" p) [a] [] pos) (tIt c W (iRange1 fs)) :=
  PI.imp (pi_range1 hg hm ha hs) fun σ H R ⟨st, h, g, S, sl, q⟩ => by
    refine ⟨st, h, g, S, sl, RP.mono (RP.bind q) fun vs H1 ⟨ds, h1, g1, o1, S1, r1, q1⟩ => ?_⟩
    split at q1
    · rename_i j
      cases r1 with
      | cons r rr =>
        cases rr
        cases r
        by_cases hj : g62 j = true
        · rw [if_pos hj] at q1
          exact ⟨j, rfl, (g62_ok hj).1, (g62_ok hj).2, RP.ok_here q1 S1 itr_ok⟩
        · rw [if_neg hj] at q1
          exact q1.elim
    · exact q1.elim
theorem i_range2 {a b : Expr} {fs : Ev (List D)} {p pos : Pos} (hg : Gl X "range") (hm : X.mg "range" = none) (ha : PA X [a, b] (tAr c W fs)) (hs : starEach [a, b] X.env = [(false, eval a X.env), (false, eval b X.env)] := by rfl) (hs2 : starEach [b] X.env = [(false, eval b X.env)] := by rfl) : PI X tg (.Call (.Name "range" p) [a, b] [] pos) (tIt c W (iRange2 fs)) :=
  PI.imp (pi_range2 hg hm ha hs hs2) fun σ H R ⟨st, h, g, S, sl, q⟩ => by
    refine ⟨st, h, g, S, sl, RP.mono (RP.bind q) fun vs H1 ⟨ds, h1, g1, o1, S1, r1, q1⟩ => ?_⟩
    split at q1
    · rename_i i j
      cases r1 with
      | cons r rr =>
        cases rr with
        | cons r2 rr =>
          cases rr
          cases r
          cases r2
          by_cases hj : g62 i = true ∧ g62 j = true
          · rw [if_pos hj] at q1
            exact ⟨i, j, rfl, ⟨(g62_ok hj.1).1, (g62_ok hj.1).2, (g62_ok hj.2).1, (g62_ok hj.2).2⟩, RP.ok_here q1 S1 itr_ok⟩
          · rw [if_neg hj] at q1
            exact q1.elim
    · exact q1.elim
/-- reversed(range(n)) -/
def iRevRange (fe : Ev D) : Ev (List D) := fun st h => (fe st h).bind fun d h1 => match d with
  | .int b => if g62 b = true then .ok (upInts (((b.toNat : Nat) : Int) - 1) (-1) b.toNat) h1 else .no
  | _ => .no
theorem i_revRange {a : Expr} {fa : Ev D} {p p2 pos pos2 : Pos} (hg : Gl X "reversed") (hm : X.mg "reversed" = none) (hg2 : Gl X "range") (hm2 : X.mg "range" = none) (ha : PE X a (tEv c W fa)) (na : starEach [a] X.env = (false, eval a X.env) :: starEach [] X.env := by rfl)
    (hs : starEach [.Call (.Name "range" p2) [a] [] pos2] X.env = (false, eval (.Call (.Name "range" p2) [a] [] pos2) X.env) :: starEach [] X.env := by rfl) : PI X tg (.Call (.Name "reversed" p) [.Call (.Name "range" p2) [a] [] pos2] [] pos) (tIt c W (iRevRange fa)) :=
  PI.imp (pi_revR hg hm (prg_1 hg2 hm2 ha na) hs) fun σ H R ⟨st, h, g, S, sl, q⟩ => by
    refine ⟨st, h, g, S, sl, RP.mono (RP.bind q) fun v H1 ⟨d, h1, g1, o1, S1, r1, q1⟩ => ?_⟩
    cases r1 with
    | int b =>
      have q1 : RP c (fun g L l J => ItOk c J l g L) g1 h1 H1 (if g62 b = true then Res.ok (upInts (((b.toNat : Nat) : Int) - 1) (-1) b.toNat) h1 else Res.no) R (fun cls dd H' => W cls dd σ H') := q1
      by_cases hj : g62 b = true
      · rw [if_pos hj] at q1
        refine ⟨b, rfl, by decide, by decide, (g62_ok hj).1, (g62_ok hj).2, ?_⟩
        have e : (b - 0).toNat = b.toNat := by rw [Int.sub_zero]
        have e2 : (0 : Int) + ((b.toNat : Nat) : Int) - 1 = ((b.toNat : Nat) : Int) - 1 := by omega
        rw [e, e2]
        exact RP.ok_here q1 S1 itc_ok
      · rw [if_neg hj] at q1
        exact q1.elim
    | _ => exact q1.elim
/-- enumerate(xs) -/
def enumD (l : List D) : List D := l.mapIdx fun i d => .tup [.int (i : Nat), d]
theorem ite_ok {a : Addr} {l : List D} {vs : List V} {g0 : Gh} {L0 : Nat} (hq : SqL c.K g0.tr a vs) (rs : RVs c g0 L0 l vs) : ItOk c (Ite c.K a) (enumD l) g0 L0 := fun g h H i S gx hL => by
  have q : SqL c.K H a vs := SqL.sub S.sub (SqL.sub gx.tr hq)
  refine ⟨fun hi => ⟨vs, q, by rw [← rs.length]; simpa [enumD] using hi⟩, fun d hd => ?_⟩
  unfold enumD at hd
  rw [List.getElem?_mapIdx] at hd
  cases e : l[i]? with
  | none => rw [e] at hd; cases hd
  | some d0 =>
    rw [e] at hd
    have hd : D.tup [.int (i : Nat), d0] = d := by simpa using hd
    subst hd
    obtain ⟨y, e1, r1⟩ := rs.get e
    refine ⟨⟨vs, y, q, e1⟩, fun x H' ⟨T, x0, ev, nT, eH, hx⟩ => ?_⟩
    have e2 := hx vs q
    rw [e1] at e2
    cases e2
    subst ev eH
    obtain ⟨S2, o2⟩ := S.tree (o := .tup [.int (i : Nat), y]) nT
    exact ⟨_, o2, S2, .tup (.inl (.inl upd_same)) (.cons (.int _) (.cons (r1.mono (gx.trans o2.gx hL) hL) .nil))⟩
/-- a list that stays, for an iterator over it -/
def asI : D → Option (List D)
  | .lst l => some l
  | .fro l => some l
  | _ => none
theorem asI_ok {g : Gh} {L : Nat} {d : D} {v : V} {l : List D} (r : RV c g L d v) (e : asI d = some l) : ∃ a vs, v = .ref a ∧ SqL c.K g.tr a vs ∧ RVs c g L l vs := by
  cases r with
  | lst h1 r => cases e; exact ⟨_, _, rfl, .inl (.inl h1), r⟩
  | fro h1 r => cases e; exact ⟨_, _, rfl, h1, r⟩
  | _ => cases e
def iEnumD (fs : Ev (List D)) : Ev (List D) := fun st h => (fs st h).bind fun ds h1 => match ds with
  | [d] => match asI d with
    | some l => .ok (enumD l) h1
    | none => .no
  | _ => .no
theorem i_enum {fs : Ev (List D)} {p pos tpos : Pos} {elts : List Expr} {kk : Nat} (hK : c.K = X.K) (hg : Gl X "enumerate") (hm : X.mg "enumerate" = none) (ha : PA X [e] (tAr c W fs)) (hs : starEach [e] X.env = [(false, eval e X.env)] := by rfl) : PI X (.Tuple elts kk tpos) (.Call (.Name "enumerate" p) [e] [] pos) (tIt c W (iEnumD fs)) :=
  PI.imp (pi_enum hg hm ha hs) fun σ H R ⟨st, h, g, S, sl, q⟩ => by
    refine ⟨st, h, g, S, sl, RP.mono (RP.bind q) fun vs H1 ⟨ds, h1, g1, o1, S1, r1, q1⟩ => ?_⟩
    split at q1
    · rename_i d
      split at q1
      · rename_i l el
        cases r1 with
        | cons r rr =>
          cases rr
          obtain ⟨a, vs, rfl, hq, rs⟩ := asI_ok r el
          rw [← hK]
          exact ⟨a, vs, rfl, SqL.sub S1.sub hq, RP.ok_here q1 S1 (ite_ok hq rs)⟩
      · exact q1.elim
    · exact q1.elim
/-- zip(xs, ys) -/
def zipD : List D → List D → List D
  | a :: r, b :: s => .tup [a, b] :: zipD r s
  | _, _ => []
theorem zipD_get : ∀ {l k : List D} {i : Nat} {d : D}, (zipD l k)[i]? = some d → ∃ a b, l[i]? = some a ∧ k[i]? = some b ∧ d = .tup [a, b]
  | [], _, _, _, h => by simp [zipD] at h
  | _ :: _, [], _, _, h => by simp [zipD] at h
  | a :: r, b :: s, 0, d, h => by
    simp [zipD] at h
    exact ⟨a, b, rfl, rfl, h.symm⟩
  | a :: r, b :: s, i + 1, d, h => by
    simp only [zipD, List.getElem?_cons_succ] at h
    obtain ⟨x, y, e1, e2, e3⟩ := zipD_get h
    exact ⟨x, y, by simpa using e1, by simpa using e2, e3⟩
theorem zipD_len : ∀ (l k : List D), (zipD l k).length = min l.length k.length
  | [], _ => by simp [zipD]
  | _ :: _, [] => by simp [zipD]
  | a :: r, b :: s => by simp only [zipD, List.length_cons, zipD_len r s]; omega
theorem itz_ok {a b : Addr} {l k : List D} {vs ws : List V} {g0 : Gh} {L0 : Nat} (hq : SqL c.K g0.tr a vs) (rs : RVs c g0 L0 l vs) (hq2 : SqL c.K g0.tr b ws) (rs2 : RVs c g0 L0 k ws) : ItOk c (Itz c.K a b) (zipD l k) g0 L0 := fun g h H i S gx hL => by
  have q : SqL c.K H a vs := SqL.sub S.sub (SqL.sub gx.tr hq)
  have q2 : SqL c.K H b ws := SqL.sub S.sub (SqL.sub gx.tr hq2)
  refine ⟨fun hi => ⟨vs, ws, q, q2, ?_⟩, fun d hd => ?_⟩
  · rw [zipD_len] at hi
    rw [← rs.length, ← rs2.length]
    omega
  · obtain ⟨d1, d2, e1, e2, rfl⟩ := zipD_get hd
    obtain ⟨y1, f1, r1⟩ := rs.get e1
    obtain ⟨y2, f2, r2⟩ := rs2.get e2
    refine ⟨⟨vs, ws, y1, y2, q, q2, f1, f2⟩, fun x H' ⟨T, x1, x2, ev, nT, eH, hx1, hx2⟩ => ?_⟩
    have z1 := hx1 vs q
    have z2 := hx2 ws q2
    rw [f1] at z1
    rw [f2] at z2
    cases z1
    cases z2
    subst ev eH
    obtain ⟨S2, o2⟩ := S.tree (o := .tup [y1, y2]) nT
    exact ⟨_, o2, S2, .tup (.inl (.inl upd_same)) (.cons (r1.mono (gx.trans o2.gx hL) hL) (.cons (r2.mono (gx.trans o2.gx hL) hL) .nil))⟩
def iZipD (fs : Ev (List D)) : Ev (List D) := fun st h => (fs st h).bind fun ds h1 => match ds with
  | [d, d'] => match asI d, asI d' with
    | some l, some k => .ok (zipD l k) h1
    | _, _ => .no
  | _ => .no
theorem i_zip {fs : Ev (List D)} {e2 : Expr} {p pos tpos : Pos} {elts : List Expr} {kk : Nat} (hK : c.K = X.K) (P : ∀ {ta : TA}, PA X [e, e2] ta → PI X (.Tuple elts kk tpos) (.Call (.Name "zip" p) [e, e2] [] pos) (iZip X.K ta)) (ha : PA X [e, e2] (tAr c W fs)) : PI X (.Tuple elts kk tpos) (.Call (.Name "zip" p) [e, e2] [] pos) (tIt c W (iZipD fs)) :=
  PI.imp (P ha) fun σ H R ⟨st, h, g, S, sl, q⟩ => by
    refine ⟨st, h, g, S, sl, RP.mono (RP.bind q) fun vs H1 ⟨ds, h1, g1, o1, S1, r1, q1⟩ => ?_⟩
    split at q1
    · rename_i d d'
      split at q1
      · rename_i l k el ek
        cases r1 with
        | cons r rr =>
          cases rr with
          | cons r' rr =>
            cases rr
            obtain ⟨a, vs, rfl, hq, rs⟩ := asI_ok r el
            obtain ⟨b, ws, rfl, hq2, rs2⟩ := asI_ok r' ek
            rw [← hK]
            exact ⟨a, b, vs, ws, rfl, SqL.sub S1.sub hq, SqL.sub S1.sub hq2, RP.ok_here q1 S1 (itz_ok hq rs hq2 rs2)⟩
      · exact q1.elim
    · exact q1.elim

/-! ### comprehensions -/
theorem wipe_get {σ : L2.St} : ∀ {vs : List Nat} {j : Nat}, (wipe σ vs)[j]? = if j ∈ vs then (if j < σ.length then some none else none) else σ[j]?
  | [], j => by simp [wipe]
  | v :: vs, j => by
    unfold wipe
    by_cases e : v = j
    · subst e
      rw [if_pos List.mem_cons_self]
      by_cases hl : v < σ.length
      · rw [if_pos hl, List.getElem?_set_self (by rw [wipe_length]; exact hl)]
      · rw [if_neg hl, List.getElem?_eq_none (by rw [List.length_set, wipe_length]; omega)]
    · rw [List.getElem?_set_ne e, wipe_get]
      by_cases m : j ∈ vs
      · rw [if_pos m, if_pos (List.mem_cons_of_mem _ m)]
      · rw [if_neg m, if_neg (fun z => by
          rcases List.mem_cons.mp z with z | z
          · exact e z.symm
          · exact m z)]
theorem wipe_set {σ : L2.St} {vs : List Nat} {i : Nat} {x : Option V} (hi : i ∈ vs) : wipe (σ.set i x) vs = wipe σ vs := by
  apply List.ext_getElem?
  intro j
  rw [wipe_get, wipe_get]
  by_cases m : j ∈ vs
  · rw [if_pos m, if_pos m, List.length_set]
  · rw [if_neg m, if_neg m, List.getElem?_set_ne (fun e => m (by rw [← e]; exact hi))]
theorem wipe_wipe {σ : L2.St} {vs : List Nat} : wipe (wipe σ vs) vs = wipe σ vs := by
  apply List.ext_getElem?
  intro j
  rw [wipe_get, wipe_get]
  by_cases m : j ∈ vs
  · rw [if_pos m, if_pos m, wipe_length]
  · rw [if_neg m, if_neg m]
def wipeD (st : Slots) : List Nat → Slots
  | [] => st
  | v :: vs => (wipeD st vs).set v none
theorem SL.wipe {g : Gh} {L : Nat} {st : Slots} {σ : L2.St} (s : SL c g L st σ) : ∀ vs : List Nat, SL c g L (wipeD st vs) (L2.wipe σ vs)
  | [] => s
  | v :: vs => (SL.wipe s vs).unset v
/-- a comprehension's target: a name, or several -/
structure TgN (c : Cf) (vs : List Nat) (gt : TG) (fg : D → Slots → Option Slots) : Prop where
  ok : ∀ {v : V} {σ σ0 : L2.St} {H : Hp} {d : D} {st st1 : Slots} {h : Store} {g : Gh} {Q : L2.St → Hp → Prop}, SR c g h H → SL c g h.length st σ → RV c g h.length d v → fg d st = some st1 → (L2.wipe σ vs = σ0) →
    (∀ σ1, SL c g h.length st1 σ1 → L2.wipe σ1 vs = σ0 → Q σ1 H) → gt v σ H Q
def fName (i : Nat) : D → Slots → Option Slots := fun d st => some (st.set i (some d))
theorem tg_name {vs : List Nat} {i : Nat} (hi : i ∈ vs) : TgN c vs (gName i) (fName i) := ⟨fun {v σ σ0 H d st st1 h g Q} S sl r e ew k => by
  cases e
  exact k _ (sl.set i r) (by rw [wipe_set hi]; exact ew)⟩
def gNs : List Nat → TGs
  | [] => gNil
  | i :: r => gCons (gName i) (gNs r)
def fNs : List Nat → List D → Slots → Option Slots
  | [], [], st => some st
  | i :: r, d :: ds, st => fNs r ds (st.set i (some d))
  | _, _, _ => none
def fTup (is : List Nat) : D → Slots → Option Slots := fun d st => match d with
  | .tup ds => fNs is ds st
  | _ => none
theorem fNs_ok {vs : List Nat} {σ0 : L2.St} {H : Hp} {h : Store} {g : Gh} {Q : L2.St → Hp → Prop} (S : SR c g h H) : ∀ {is : List Nat} {ds : List D} {xs : List V} {st st1 : Slots} {σ : L2.St}, (∀ i ∈ is, i ∈ vs) → SL c g h.length st σ → RVs c g h.length ds xs → fNs is ds st = some st1 →
    L2.wipe σ vs = σ0 → (∀ σ1, SL c g h.length st1 σ1 → L2.wipe σ1 vs = σ0 → Q σ1 H) → gNs is xs σ H Q
  | [], [], _, st, st1, σ, _, sl, .nil, e, ew, k => by
    have e : some st = some st1 := e
    cases e
    exact ⟨rfl, k σ sl ew⟩
  | i :: is, d :: ds, _, st, st1, σ, hm, sl, .cons r rs, e, ew, k => by
    refine ⟨_, _, rfl, ?_⟩
    exact fNs_ok S (fun j hj => hm j (List.mem_cons_of_mem _ hj)) (sl.set i r) rs e (by rw [wipe_set (hm i List.mem_cons_self)]; exact ew) k
  | [], _ :: _, _, _, _, _, _, _, _, e, _, _ => by cases e
  | _ :: _, [], _, _, _, _, _, _, _, e, _, _ => by cases e
theorem fNs_len : ∀ {is : List Nat} {ds : List D} {st st1 : Slots}, fNs is ds st = some st1 → ds.length = is.length
  | [], [], _, _, _ => rfl
  | _ :: is, _ :: ds, _, _, e => by simp only [List.length_cons]; rw [fNs_len (is := is) (ds := ds) e]
  | [], _ :: _, _, _, e => by cases e
  | _ :: _, [], _, _, e => by cases e
theorem tg_tup {vs : List Nat} {is : List Nat} (hi : ∀ i ∈ is, i ∈ vs) : TgN c vs (gTup c.K is.length (gNs is)) (fTup is) := ⟨fun {v σ σ0 H d st st1 h g Q} S sl r e ew k => by
  cases d with
  | tup ds =>
    obtain ⟨a, xs, rfl, hq, rs⟩ := RV.tup' S r
    have e : fNs is ds st = some st1 := e
    exact ⟨a, xs, rfl, hq, by rw [← rs.length]; exact fNs_len e, fNs_ok S hi sl rs e ew k⟩
  | _ => cases e⟩
/-- no exception is let out -/
def Res.sure {α : Type} : Res α → Res α
  | .ok a h => .ok a h
  | _ => .no
@[simp] theorem Res.sure_ok {α : Type} (a : α) (h : Store) : (Res.ok a h).sure = .ok a h := rfl
@[simp] theorem Res.sure_exc {α : Type} (e : Exn) (h : Store) : (Res.exc e h : Res α).sure = .no := rfl
@[simp] theorem Res.sure_no {α : Type} : (Res.no : Res α).sure = .no := rfl
def lcL (fg : D → Slots → Option Slots) (ft : Ev Bool) (fe : Ev D) (st0 : Slots) : List D → Store → Res (List D)
  | [], h => .ok [] h
  | d :: l, h => match fg d st0 with
    | none => .no
    | some st1 => (ft st1 h).sure.bind fun b h1 => if b = true then (fe st1 h1).sure.bind fun y h2 => (lcL fg ft fe st0 l h2).bind fun ys h3 => .ok (y :: ys) h3 else lcL fg ft fe st0 l h1
def cLc (m : Bool) (fi : Ev (List D)) (fg : D → Slots → Option Slots) (ft : Ev Bool) (fe : Ev D) (own : List Nat) : Ev D := fun st h =>
  (fi st h).bind fun l h1 => if l.length ≤ sizeLine then (lcL fg ft fe (wipeD st own) l h1).bind fun ys h2 => alloc m ys h2 else .no
theorem Go.side {g1 g : Gh} {h1 h : Store} {H1 H : Hp} {a : Addr} {o : HO} (x : Go g1 h1 H1 g h H) (n : H1 a = none) : Go g1 h1 H1 g h (upd H a o) :=
  ⟨x.len, x.io, x.tr, fun b u e => by
    rw [upd_ne (ne_of_none e n)]
    exact x.dm b u e, fun b u e nt nl => by
    rw [upd_ne (ne_of_none e n)]
    exact x.fr b u e nt nl, x.tn, x.old, x.new⟩
theorem SR.side {g : Gh} {h : Store} {H : Hp} {a : Addr} {xs ys : List V} (S : SR c g h H) (ha : H a = some (.lst xs)) (ta : g.tr a = none) (nl : ∀ n, Live h n → g.io n ≠ a) : SR c g h (upd H a (.lst ys)) :=
  ⟨fun b u e => by rw [upd_ne (fun z => by rw [z, ta] at e; cases e)]; exact S.sub b u e, S.apart, fun n ce e => (S.cell n ce e).mono (Gx.refl _ _) (Nat.le_refl _) (upd_ne (nl n ⟨ce, e⟩)), S.inj, tabs_write S.tabs ha trivial fun φ z => by cases z⟩
theorem SR.side0 {g : Gh} {h : Store} {H : Hp} {a : Addr} {o : HO} (S : SR c g h H) (ha : H a = none) : SR c g h (upd H a o) ∧ g.tr a = none ∧ ∀ n, Live h n → g.io n ≠ a := by
  have nl : ∀ n, Live h n → g.io n ≠ a := fun n ⟨ce, e⟩ z => by
    obtain ⟨u, q, _⟩ := (S.cell n ce e).some
    rw [z, ha] at q
    cases q
  have ta : g.tr a = none := by
    cases e : g.tr a with
    | none => rfl
    | some u => rw [S.sub _ _ e] at ha; cases ha
  exact ⟨⟨fun b u e => by rw [upd_ne (fun z => by rw [z, ta] at e; cases e)]; exact S.sub b u e, S.apart, fun n ce e => (S.cell n ce e).mono (Gx.refl _ _) (Nat.le_refl _) (upd_ne (nl n ⟨ce, e⟩)), S.inj, tabs_alloc S.tabs ha⟩, ta, nl⟩
/-- what is left of the comprehension -/
def lcRest (m : Bool) (fg : D → Slots → Option Slots) (ft : Ev Bool) (fe : Ev D) (st0 : Slots) (acc l : List D) (h : Store) : Res D := (lcL fg ft fe st0 l h).bind fun ys h2 => alloc m (acc ++ ys) h2
abbrev W0 : WX := fun _ _ _ _ => False
theorem lc_ok {m : Bool} {gt : TG} {fi : Ev (List D)} {fg : D → Slots → Option Slots} {ft : Ev Bool} {fe : Ev D} {vs : List Nat} (tgn : TgN c vs gt fg) {σ : L2.St} {H : Hp} {Q : VK}
    (x : tEv c W (cLc m fi fg ft fe vs) σ H Q) : tLc (tIt c W fi) gt (tTe c W0 ft) (tEv c W0 fe) vs σ H Q := by
  obtain ⟨st, h, g, S, sl, q⟩ := x
  refine ⟨st, h, g, S, sl, RP.mono (RP.bind q) fun J H1 ⟨l, h1, g1, o1, S1, k1, q1⟩ => ?_⟩
  by_cases hl : l.length ≤ sizeLine
  case neg => rw [if_neg hl] at q1; exact q1.elim
  rw [if_pos hl] at q1
  intro D0 nD
  have sl1 := (sl.go o1).wipe vs
  obtain ⟨S1', t1, nl1⟩ := S1.side0 (o := .lst []) nD
  have dt : ∀ ys : List V, ∀ ps, (HO.lst ys) ≠ .tbl ps := fun ys ps z => by cases z
  refine ⟨fun i m' H => m' = l.length - i ∧ i ≤ l.length ∧ ∃ acc ws h g, SR c g h H ∧ Go g1 h1 H1 g h H ∧ H D0 = some (.lst ws) ∧ g.tr D0 = none ∧ (∀ n, Live h n → g.io n ≠ D0) ∧ RVs c g h.length acc ws ∧ acc.length ≤ i ∧
    RP c (Rv c) g1 h1 H1 (lcRest m fg ft fe (wipeD st vs) acc (l.drop i) h) Q (fun cls dd H' => W cls dd σ H'), ⟨_, rfl, Nat.zero_le _, [], [], h1, g1, S1', (Go.refl _ _ _).side nD, upd_same, t1, nl1, .nil, Nat.le_refl _, q1⟩, ?_⟩
  rintro i m' H ⟨rfl, hi, acc, ws, h, g, S, o, hD, tD, nlD, rs, ha, q⟩
  obtain ⟨ks, kg⟩ := k1 g h H i S o.gx o.len
  by_cases hlt : i < l.length
  · obtain ⟨go, yl⟩ := kg l[i] (List.getElem?_eq_getElem hlt)
    refine .inr ⟨go, fun H => ∃ acc ws h g, SR c g h H ∧ Go g1 h1 H1 g h H ∧ H D0 = some (.lst ws) ∧ g.tr D0 = none ∧ (∀ n, Live h n → g.io n ≠ D0) ∧ RVs c g h.length acc ws ∧ acc.length ≤ i + 1 ∧
      RP c (Rv c) g1 h1 H1 (lcRest m fg ft fe (wipeD st vs) acc (l.drop (i + 1)) h) Q (fun cls dd H' => W cls dd σ H'), fun H' x => ⟨l.length - (i + 1), by omega, rfl, hlt, x⟩, fun x H' y => ?_⟩
    obtain ⟨g2, o2, S2, r2⟩ := yl x H' y
    rw [List.drop_eq_getElem_cons hlt] at q
    unfold lcRest lcL at q
    cases e1 : fg l[i] (wipeD st vs) with
    | none => rw [e1] at q; exact q.elim
    | some st1 =>
      rw [e1] at q
      dsimp only at q
      have o12 := o.trans o2
      refine tgn.ok S2 (((sl.go o1).go o12).wipe vs) r2 e1 wipe_wipe fun σ2 sl2 ew => ⟨ew, st1, h, g2, S2, sl2, ?_⟩
      have hD2 := o2.fr _ _ hD (dt _) nlD
      have tD2 := o2.tn _ _ hD (dt _) tD nlD
      have nlD2 := o2.apart hD nlD
      have rs2 := rs.mono o2.gx o2.len
      cases e2 : ft st1 h with
      | no => rw [e2] at q; exact q.elim
      | exc ee h3 => rw [e2] at q; exact q.elim
      | ok b h3 =>
        rw [e2, Res.sure_ok, Res.bind_ok] at q
        intro g3 H3 b' o3 S3 eb
        have eb : b = b' := eb
        subst eb
        have hD3 := o3.fr _ _ hD2 (dt _) nlD2
        have tD3 := o3.tn _ _ hD2 (dt _) tD2 nlD2
        have nlD3 := o3.apart hD2 nlD2
        have rs3 := rs2.mono o3.gx o3.len
        cases b with
        | false =>
          exact ⟨acc, ws, h3, g3, S3, o12.trans o3, hD3, tD3, nlD3, rs3, Nat.le_succ_of_le ha, q⟩
        | true =>
          rw [if_pos rfl]
          refine ⟨st1, h3, g3, S3, sl2.go o3, ?_⟩
          cases e3 : fe st1 h3 with
          | no => rw [if_pos rfl, e3] at q; exact q.elim
          | exc ee h4 => rw [if_pos rfl, e3] at q; exact q.elim
          | ok yv h4 =>
            intro g4 H4 v4 o4 S4 r4
            have hD4 := o4.fr _ _ hD3 (dt _) nlD3
            have tD4 := o4.tn _ _ hD3 (dt _) tD3 nlD3
            have nlD4 := o4.apart hD3 nlD3
            have rs4 := rs3.mono o4.gx o4.len
            refine ⟨ws, hD4, by rw [← rs.length]; omega, acc ++ [yv], ws ++ [v4], h4, g4, S4.side hD4 tD4 nlD4, ((o12.trans o3).trans o4).side nD, upd_same, tD4, nlD4, rs4.append (.cons r4 .nil), by rw [List.length_append, List.length_singleton]; omega, ?_⟩
            rw [if_pos rfl, e3, Res.sure_ok, Res.bind_ok] at q
            unfold lcRest
            cases e4 : lcL fg ft fe (wipeD st vs) (l.drop (i + 1)) h4 with
            | no => rw [e4] at q; exact q
            | exc ee h5 => rw [e4] at q; exact q
            | ok ys h5 =>
              rw [e4] at q
              rw [Res.bind_ok, List.append_assoc]
              exact q
  · have e : i = l.length := by omega
    subst e
    rw [List.drop_length] at q
    unfold lcRest lcL at q
    rw [Res.bind_ok, List.append_nil] at q
    refine .inl ⟨ks (Nat.le_refl _), ?_⟩
    cases m with
    | false =>
      have q : RP c (Rv c) g1 h1 H1 (.ok (.lst acc) h) Q _ := q
      have gx : Gx g h.length { g with tr := upd g.tr D0 (.lst ws) } := ⟨fun _ _ => rfl, fun a u e => by
        show upd g.tr D0 (.lst ws) a = some u
        rw [upd_ne (fun z => by rw [z, tD] at e; cases e)]
        exact e⟩
      refine q { g with tr := upd g.tr D0 (.lst ws) } H (.ref D0) ⟨o.len, o.io, fun a u e => gx.tr a u (o.tr a u e), o.dm, o.fr, fun a u e nt t nl => ?_, o.old, o.new⟩ ⟨fun a u e => ?_, fun n ln => ?_, fun n ce e => (S.cell n ce e).mono gx (Nat.le_refl _) rfl, S.inj, S.tabs⟩ (.lst upd_same (rs.mono gx (Nat.le_refl _)))
      · show upd g.tr D0 (.lst ws) a = none
        rw [upd_ne (ne_of_none e nD)]
        exact o.tn a u e nt t nl
      · have e : upd g.tr D0 (.lst ws) a = some u := e
        by_cases z : a = D0
        · rw [z, upd_same] at e
          rw [z, hD]
          exact e
        · rw [upd_ne z] at e
          exact S.sub a u e
      · show upd g.tr D0 (.lst ws) (g.io n) = none
        rw [upd_ne (nlD n ln)]
        exact S.apart n ln
    | true =>
      have q : RP c (Rv c) g1 h1 H1 (.ok (.ref h.length) (h ++ [some (.lst acc)])) Q _ := q
      have gx : Gx g h.length (g.push h.length D0) := ⟨fun n hn => by
        show (if n = h.length then D0 else g.io n) = g.io n
        rw [if_neg (Nat.ne_of_lt hn)], fun _ _ e => e⟩
      have ioL : (g.push h.length D0).io h.length = D0 := by
        show (if h.length = h.length then D0 else _) = D0
        rw [if_pos rfl]
      have io : ∀ n, Live h n → (g.push h.length D0).io n = g.io n := fun n l => gx.io n l.lt
      have q2 := q (g.push h.length D0) H (.ref ((g.push h.length D0).io h.length)) ⟨by rw [List.length_append]; exact Nat.le_trans o.len (Nat.le_add_right _ _), fun n hn => (gx.io n (Nat.lt_of_lt_of_le hn o.len)).trans (o.io n hn), o.tr, o.dm, o.fr, o.tn, fun n hn ln => ?_, fun n hn ln => ?_⟩
        ⟨S.sub, fun n ln => ?_, fun n ce e => ?_, fun n k l1 l2 e => ?_, S.tabs⟩ (.ref (by simp))
      · rw [ioL] at q2
        exact q2
      · rcases live_push ln with l | rfl
        · exact o.old n hn l
        · exact absurd hn (Nat.not_lt.mpr o.len)
      · rcases live_push ln with l | rfl
        · rw [io n l]
          exact o.new n hn l
        · rw [ioL]
          exact nD
      · show g.tr _ = none
        rcases live_push ln with l | rfl
        · rw [io n l]
          exact S.apart n l
        · rw [ioL]
          exact tD
      · rcases live_push ⟨ce, e⟩ with l | rfl
        · rw [List.getElem?_append_left l.lt] at e
          rw [io n l]
          exact (S.cell n ce e).mono gx (by simp) rfl
        · have e2 : ce = .lst acc := by simpa using e.symm
          rw [e2, ioL]
          exact ⟨ws, hD, rs.mono gx (by simp)⟩
      · rcases live_push l1 with l1 | rfl <;> rcases live_push l2 with l2 | rfl
        · rw [io n l1, io k l2] at e
          exact S.inj n k l1 l2 e
        · rw [io n l1, ioL] at e
          exact absurd e (nlD n l1)
        · rw [io k l2, ioL] at e
          exact absurd e.symm (nlD k l2)
        · rfl
theorem PTs.imp {es : List Expr} {t t' : TT} (p : PTs X es t) (k : ∀ σ H Q, t' σ H Q → t σ H Q) : PTs X es t' := ⟨fun pins s σ H Q I h => p.run pins s σ H Q I (k σ H Q h)⟩
def cYes : Ev Bool := fun _ h => .ok true h
theorem ts_nil : PTs X [] (tTe c W cYes) := PTs.imp pts_nil fun σ H Q ⟨st, h, g, S, sl, q⟩ => RP.ok_here (α := Bool) (β := Bool) (R := Rb) q S rfl
theorem ts_one {t : Expr} {ft : Ev Bool} (h : PT X t (tTe c W ft)) : PTs X [t] (tTe c W ft) := pts_one h
theorem e_lc {m : Bool} {elt iter : Expr} {ifs : List Expr} {scope : Scope} {own : List (Str × Nat)} {gt : TG} {fi : Ev (List D)} {fg : D → Slots → Option Slots} {ft : Ev Bool} {fe : Ev D} (hc : X.calm = true) (hN : X.N.Nodup) (hi : PI X tg iter (tIt c W fi)) (ok : BlkOk X.N X.env.scope scope own)
    (hg : ∀ (s : Shared) (H : Hp) (C : Addr) (cl : List (Str × Addr)) (fp : List Addr), PG (X.blk s H scope (compEnvC scope cl C X.env) fp) tg gt) (tgn : TgN c (own.map (·.2)) gt fg)
    (ht : ∀ (s : Shared) (H : Hp) (C : Addr) (cl : List (Str × Addr)) (fp : List Addr), PTs (X.blk s H scope (compEnvC scope cl C X.env) fp) ifs (tTe c W0 ft))
    (he : ∀ (s : Shared) (H : Hp) (C : Addr) (cl : List (Str × Addr)) (fp : List Addr), PE (X.blk s H scope (compEnvC scope cl C X.env) fp) elt (tEv c W0 fe)) (hs : ∀ x, foldedSetIterable iter X.env x = pure x := by intro _; rfl) :
    PE X (.ListComp elt [⟨tg, iter, ifs, 0⟩] scope pos) (tEv c W (cLc m fi fg ft fe (own.map (·.2)))) := PE.imp (pe_lc hc hN hi ok hg ht he hs) fun σ H Q x => lc_ok tgn x
/-- name = [..] -/
theorem s_setLc {m : Bool} {i : Nat} {y : Str} {py spos : Pos} {elt iter : Expr} {ifs : List Expr} {scope : Scope} {own : List (Str × Nat)} {gt : TG} {fi : Ev (List D)} {fg : D → Slots → Option Slots} {ft : Ev Bool} {fe : Ev D} (hc : X.calm = true) (hN : X.N.Nodup) (hy : X.N[i]? = some y) (hyl : X.env.scope.names.lookup y = some .local)
    (hsw : swapsWith (.ListComp elt [⟨tg, iter, ifs, 0⟩] scope pos) (some (.Name y py)) spos.line X.env = pure true) (hi : PI X tg iter (tIt c W fi)) (ok : BlkOk X.N X.env.scope scope own)
    (hg : ∀ (s : Shared) (H : Hp) (C : Addr) (cl : List (Str × Addr)) (fp : List Addr), PG (X.blk s H scope (compEnvC scope cl C X.env) fp) tg gt) (tgn : TgN c (own.map (·.2)) gt fg)
    (ht : ∀ (s : Shared) (H : Hp) (C : Addr) (cl : List (Str × Addr)) (fp : List Addr), PTs (X.blk s H scope (compEnvC scope cl C X.env) fp) ifs (tTe c W0 ft))
    (he : ∀ (s : Shared) (H : Hp) (C : Addr) (cl : List (Str × Addr)) (fp : List Addr), PE (X.blk s H scope (compEnvC scope cl C X.env) fp) elt (tEv c W0 fe)) (hs : ∀ x, foldedSetIterable iter X.env x = pure x := by intro _; rfl) :
    PS X (.Assign [.Name y py] (.ListComp elt [⟨tg, iter, ifs, 0⟩] scope pos) spos) (tSt c W (sSet i (cLc m fi fg ft fe (own.map (·.2))))) := PS.imp (ps_setLc hc hN hy hyl hsw hi ok hg ht he hs) fun D σ H ⟨st, h, g, S, sl, q⟩ => by
  show tLc _ _ _ _ _ σ H (fun x H1 => gName i x σ H1 D.nx)
  exact lc_ok (m := m) tgn ⟨st, h, g, S, sl, RP.mono (OP.out sl q) fun v H1 ⟨d, h1, g1, o1, S1, r1, q1⟩ => q1 g1 H1 _ (Go.refl _ _ _) S1 ((sl.go o1).set i r1)⟩
end
end Gm

/-! Gm6: built-ins, methods, subscripts, slices. -/
namespace Gm
open PySem PySem.Spec PyProof.Rows L2

/-! ### calls by values -/
abbrev CallT := List D → Store → Res D
def CROk (c : Cf) (r : List V → Hp → VK → Prop) (F : CallT) : Prop :=
  ∀ g h H ds vs Q E, SR c g h H → RVs c g h.length ds vs → RP c (Rv c) g h H (F ds h) Q E → r vs H Q
def cB (F : CallT) (fs : Ev (List D)) : Ev D := fun st h => (fs st h).bind F
section
variable {c : Cf} {W : WX} {X : Cx} {e : Expr} {es : List Expr} {fs : Ev (List D)} {x : Str} {p pos : Pos} {id T : String} {r r' : List V → Hp → VK → Prop} {F : CallT}
theorem CROk.orL (k : CROk c r F) : CROk c (fun xs H Q => r xs H Q ∨ r' xs H Q) F := fun g h H ds vs Q E S rs q => .inl (k g h H ds vs Q E S rs q)
theorem crB {σ : L2.St} {H : Hp} {Q : VK} (k : CROk c r F) (q : tEv c W (cB F fs) σ H Q) : tCB r (tAr c W fs) σ H Q := by
  obtain ⟨st, h, g, S, sl, q⟩ := q
  exact ⟨st, h, g, S, sl, RP.mono (RP.bind q) fun vs H1 ⟨ds, h1, g1, o1, S1, r1, q1⟩ => k g1 h1 H1 ds vs Q _ S1 r1 q1⟩
theorem e_cb (hc : CallR X (.builtin id) r) (k : CROk c r F) (hg : Gl X x) (hm : X.mg x = none) (hv : bootBuiltins x = some (.builtin id)) (ha : PA X (e :: es) (tAr c W fs)) (hn : x ≠ "__name__" := by decide) (hdb : (x == ("__debug__" : Str)) = false := by decide)
    (he : starEach (e :: es) X.env = (false, eval e X.env) :: starEach es X.env := by rfl) (hpl : (backTo pos (starEach es X.env)).any (·.1) = false := by rfl) : PE X (.Call (.Name x p) (e :: es) [] pos) (tEv c W (cB F fs)) := PE.imp (pe_callB hc hg hm hv ha hn hdb he hpl) fun _ _ _ => crB k
theorem e_ct (hc : CallR X (.type T) r) (k : CROk c r F) (hg : Gl X x) (hm : X.mg x = none) (hv : bootBuiltins x = some (.type T)) (ha : PA X (e :: es) (tAr c W fs)) (hn : x ≠ "__name__" := by decide) (hdb : (x == ("__debug__" : Str)) = false := by decide)
    (he : starEach (e :: es) X.env = (false, eval e X.env) :: starEach es X.env := by rfl) (hpl : (backTo pos (starEach es X.env)).any (·.1) = false := by rfl) : PE X (.Call (.Name x p) (e :: es) [] pos) (tEv c W (cB F fs)) := PE.imp (pe_callTy hc hg hm hv ha hn hdb he hpl) fun _ _ _ => crB k
end

/-! ### len, list, sum, all, any, str -/
section
variable {c : Cf} {X : Cx}
def fLen : CallT := fun ds h => match ds with
  | [.str z] => if z.length ≤ sizeLine then .ok (.int z.length) h else .no
  | [.tup l] => .ok (.int l.length) h
  | [d] => match asR h d with
    | some l => .ok (.int l.length) h
    | none => .no
  | _ => .no
def rLen (K : PySem.W.Frag) : List V → Hp → VK → Prop := fun xs H Q => (∃ p ys, xs = [.ref p] ∧ (SqL K H p ys ∨ SqT K H p ys) ∧ Q (.int ys.length) H) ∨ ∃ z, xs = [.str z] ∧ z.length ≤ sizeLine ∧ Q (.int z.length) H
theorem rLen_ok : CallR X (.builtin "len") (rLen X.K) := CallR.or call_len_seq call_len_str
theorem fLen_ok : CROk c (rLen c.K) fLen := by
  intro g h H ds vs Q E S rs q
  unfold fLen at q
  split at q
  · rename_i z
    cases rs with
    | cons r rr =>
      cases rr
      cases r
      by_cases hz : z.length ≤ sizeLine
      · rw [if_pos hz] at q
        exact .inr ⟨z, rfl, hz, RP.ok_here q S (.int _)⟩
      · rw [if_neg hz] at q
        exact q.elim
  · rename_i l
    cases rs with
    | cons r rr =>
      cases rr
      obtain ⟨a, vs, rfl, hq, r2⟩ := RV.tup' S r
      exact .inl ⟨a, vs, rfl, .inr hq, by rw [← r2.length]; exact RP.ok_here q S (.int _)⟩
  · rename_i d _ _
    split at q
    · rename_i l el
      cases rs with
      | cons r rr =>
        cases rr
        obtain ⟨a, vs, rfl, hq, r2⟩ := asR_ok S r el
        exact .inl ⟨a, vs, rfl, .inl hq, by rw [← r2.length]; exact RP.ok_here q S (.int _)⟩
    · exact q.elim
  · exact q.elim
/-- list(xs) of a list or a tuple -/
def fList (m : Bool) : CallT := fun ds h => match ds with
  | [.tup l] => alloc m l h
  | [d] => match asR h d with
    | some l => alloc m l h
    | none => .no
  | _ => .no
theorem fList_ok {m : Bool} : CROk c (fun xs H Q => ∃ p ys, xs = [.ref p] ∧ (SqL c.K H p ys ∨ SqT c.K H p ys) ∧ ∀ l, H l = none → Q (.ref l) (upd H l (.lst ys))) (fList m) := by
  intro g h H ds vs Q E S rs q
  unfold fList at q
  split at q
  · rename_i l
    cases rs with
    | cons r rr =>
      cases rr
      obtain ⟨a, vs, rfl, hq, r2⟩ := RV.tup' S r
      exact ⟨a, vs, rfl, .inr hq, alloc_ok S r2 q⟩
  · rename_i d _
    split at q
    · rename_i l el
      cases rs with
      | cons r rr =>
        cases rr
        obtain ⟨a, vs, rfl, hq, r2⟩ := asR_ok S r el
        exact ⟨a, vs, rfl, .inl hq, alloc_ok S r2 q⟩
    · exact q.elim
  · exact q.elim
/-- the ints, the truths of a list -/
def intsOf : List D → Option (List Int)
  | [] => some []
  | .int i :: l => (intsOf l).map (i :: ·)
  | _ => none
theorem intsOf_ok {g : Gh} {L : Nat} : ∀ {l : List D} {vs : List V} {ns : List Int}, RVs c g L l vs → intsOf l = some ns → vs = ns.map V.int
  | [], _, _, .nil, e => by cases e; rfl
  | d :: l, _, ns, .cons r rs, e => by
    cases r with
    | int i =>
      have e : (intsOf l).map (i :: ·) = some ns := e
      cases e2 : intsOf l with
      | none => rw [e2] at e; cases e
      | some ms =>
        rw [e2] at e
        cases e
        rw [intsOf_ok rs e2]
        rfl
    | _ => cases e
def boolsOf : List D → Option (List Bool)
  | [] => some []
  | .bl i :: l => (boolsOf l).map (i :: ·)
  | _ => none
theorem boolsOf_ok {g : Gh} {L : Nat} : ∀ {l : List D} {vs : List V} {ns : List Bool}, RVs c g L l vs → boolsOf l = some ns → vs = ns.map V.bl
  | [], _, _, .nil, e => by cases e; rfl
  | d :: l, _, ns, .cons r rs, e => by
    cases r with
    | bl i =>
      have e : (boolsOf l).map (i :: ·) = some ns := e
      cases e2 : boolsOf l with
      | none => rw [e2] at e; cases e
      | some ms =>
        rw [e2] at e
        cases e
        rw [boolsOf_ok rs e2]
        rfl
    | _ => cases e
def strsOf : List D → Option (List Str)
  | [] => some []
  | .str i :: l => (strsOf l).map (i :: ·)
  | _ => none
theorem strsOf_ok {g : Gh} {L : Nat} : ∀ {l : List D} {vs : List V} {ns : List Str}, RVs c g L l vs → strsOf l = some ns → vs = ns.map V.str
  | [], _, _, .nil, e => by cases e; rfl
  | d :: l, _, ns, .cons r rs, e => by
    cases r with
    | str i =>
      have e : (strsOf l).map (i :: ·) = some ns := e
      cases e2 : strsOf l with
      | none => rw [e2] at e; cases e
      | some ms =>
        rw [e2] at e
        cases e
        rw [strsOf_ok rs e2]
        rfl
    | _ => cases e
/-- a built-in of one list, by its items -/
def fOf1 {α : Type} (of : List D → Option α) (k : α → D) : CallT := fun ds h => match ds with
  | [d] => match asR h d with
    | some l => match of l with
      | some x => .ok (k x) h
      | none => .no
    | none => .no
  | _ => .no
theorem fOf1_ok {α : Type} {of : List D → Option α} {k : α → D} {kv : α → V} {mk : α → List V} (h1 : ∀ {g L l vs x}, RVs c g L l vs → of l = some x → vs = mk x) (h2 : ∀ g L x, RV c g L (k x) (kv x)) :
    CROk c (fun xs H Q => ∃ (a : Addr) (x : α), xs = [V.ref a] ∧ SqL c.K H a (mk x) ∧ Q (kv x) H) (fOf1 of k) := by
  intro g h H ds vs Q E S rs q
  unfold fOf1 at q
  split at q
  · rename_i d
    split at q
    · rename_i l el
      split at q
      · rename_i x ex
        cases rs with
        | cons r rr =>
          cases rr
          obtain ⟨a, vs, rfl, hq, r2⟩ := asR_ok S r el
          have ev := h1 r2 ex
          subst ev
          exact ⟨a, x, rfl, hq, RP.ok_here q S (h2 _ _ _)⟩
      · exact q.elim
    · exact q.elim
  · exact q.elim
def fSum : CallT := fOf1 intsOf fun ns => .int ns.sum
theorem fSum_ok : CROk c (rSum c.K) fSum := fOf1_ok (mk := fun ns => ns.map V.int) (kv := fun ns => V.int ns.sum) (fun rs e => intsOf_ok rs e) fun _ _ _ => .int _
def fAll : CallT := fOf1 boolsOf fun ns => .bl (ns.all id)
theorem fAll_ok : CROk c (rAll c.K) fAll := fOf1_ok (mk := fun ns => ns.map V.bl) (kv := fun ns => V.bl (ns.all id)) (fun rs e => boolsOf_ok rs e) fun _ _ _ => .bl _
def fAny : CallT := fOf1 boolsOf fun ns => .bl (ns.any id)
theorem fAny_ok : CROk c (rAny c.K) fAny := fOf1_ok (mk := fun ns => ns.map V.bl) (kv := fun ns => V.bl (ns.any id)) (fun rs e => boolsOf_ok rs e) fun _ _ _ => .bl _
/-- str(n) -/
def fStrI : CallT := fun ds h => match ds with
  | [.int i] => if i.natAbs.log2 < 1920 then .ok (.str (toString i)) h else .no
  | _ => .no
theorem fStrI_ok : CROk c (fun xs H Q => ∃ i : Int, xs = [.int i] ∧ i.natAbs.log2 < 1920 ∧ Q (.str (toString i)) H) fStrI := by
  intro g h H ds vs Q E S rs q
  unfold fStrI at q
  split at q
  · rename_i i
    cases rs with
    | cons r rr =>
      cases rr
      cases r
      by_cases hz : i.natAbs.log2 < 1920
      · rw [if_pos hz] at q
        exact ⟨i, rfl, hz, RP.ok_here q S (.str _)⟩
      · rw [if_neg hz] at q
        exact q.elim
  · exact q.elim
end

/-! ### methods -/
abbrev MethT := D → List D → Store → Res D
def MROk (c : Cf) (r : V → List V → Hp → VK → Prop) (F : MethT) : Prop :=
  ∀ g h H d v ds vs Q E, SR c g h H → RV c g h.length d v → RVs c g h.length ds vs → RP c (Rv c) g h H (F d ds h) Q E → r v vs H Q
def cM (F : MethT) (fo : Ev D) (fs : Ev (List D)) : Ev D := fun st h => (fo st h).bind fun d h1 => (fs st h1).bind fun ds h2 => F d ds h2
/-- the type whose methods are asked -/
def isTy (T : String) (h : Store) : D → Bool
  | .str _ => T == "str"
  | .lst _ => T == "list"
  | .fro _ => T == "list"
  | .tup _ => T == "tuple"
  | .dct _ => T == "dict"
  | .ref n => match h[n]? with
    | some (some (.lst _)) => T == "list"
    | some (some (.dct _)) => T == "dict"
    | _ => false
  | _ => false
def cMt (T : String) (F : MethT) (fo : Ev D) (fs : Ev (List D)) : Ev D := fun st h => (fo st h).bind fun d h1 => if isTy T h1 d = true then (fs st h1).bind fun ds h2 => F d ds h2 else .no
section
variable {c : Cf} {W : WX} {X : Cx} {e o : Expr} {es : List Expr} {fs : Ev (List D)} {fo : Ev D} {pos apos cpos : Pos} {name : Str} {id T : String} {r : V → List V → Hp → VK → Prop} {F : MethT}
theorem isTy_ok {g : Gh} {h : Store} {H : Hp} {d : D} {v : V} (hT : T ≠ "tuple") (S : SR c g h H) (rv : RV c g h.length d v) (e : isTy T h d = true) : tyV c.K T v H := by
  cases rv with
  | str x => exact beq_iff_eq.mp e
  | lst h1 r => exact .inl ⟨beq_iff_eq.mp e, _, .inl (.inl (S.sub _ _ h1))⟩
  | fro h1 r => exact .inl ⟨beq_iff_eq.mp e, _, SqL.sub S.sub h1⟩
  | tup h1 r => exact absurd (beq_iff_eq.mp e) hT
  | dct h1 r => exact .inr (.inr (.inl ⟨beq_iff_eq.mp e, .inl ⟨_, S.sub _ _ h1⟩⟩))
  | @ref n hn =>
    have e : (match h[n]? with
      | some (some (.lst _)) => T == "list"
      | some (some (.dct _)) => T == "dict"
      | _ => false) = true := e
    split at e
    · rename_i l e1
      obtain ⟨vs, e2, _⟩ := S.cell n _ e1
      exact .inl ⟨beq_iff_eq.mp e, _, .inl (.inl e2)⟩
    · rename_i l e1
      obtain ⟨vs, e2, _⟩ := S.cell n _ e1
      exact .inr (.inr (.inl ⟨beq_iff_eq.mp e, .inl ⟨_, e2⟩⟩))
    · cases e
  | _ => cases e
theorem e_m (hK : c.K = X.K) (hT : T ≠ "tuple") (pa : PlainAttrs T) (slot : Slot T name id) (hty : typeOf (.builtin id) = pure (.type "method_descriptor")) (hm : MtR X id r) (k : MROk c r F) (ho : PE X o (tEv c W fo)) (ha : PA X (e :: es) (tAr c W fs))
    (hb : attributeBase o name X.env (eval o X.env) = eval o X.env := by rfl) (hs : (((((backTo cpos (starEach (e :: es) X.env)).all fun x => !x.1) && (backToKw cpos (keywordEach [] X.env)).all fun x => x.1.isSome) && decide (((e :: es).length + ([] : List Keyword).length + if ([] : List Keyword).isEmpty = true then 0 else 1) < 30)) = true) := by rfl)
    (hl : (apos.endLine == cpos.line) = true := by rfl) (he : starEach (e :: es) X.env = (false, eval e X.env) :: starEach es X.env := by rfl) (hp : ((backTo cpos (starEach es X.env)).any (·.1)) = false := by rfl) :
    PE X (.Call (.Attribute o name apos) (e :: es) [] cpos) (tEv c W (cMt T F fo fs)) := PE.imp (pe_bm pa slot hty hm ho ha hb hs hl he hp) fun σ H Q ⟨st, h, g, S, sl, q⟩ => by
  refine ⟨st, h, g, S, sl, RP.mono (RP.bind q) fun v H1 ⟨d, h1, g1, o1, S1, r1, q1⟩ => ?_⟩
  by_cases ht : isTy T h1 d = true
  · rw [if_pos ht] at q1
    refine ⟨by rw [← hK]; exact isTy_ok hT S1 r1 ht, st, h1, g1, S1, sl.go o1, RP.mono (RP.bind q1) fun vs H2 ⟨ds, h2, g2, o2, S2, r2, q2⟩ => ?_⟩
    exact k g2 h2 H2 d v ds vs Q _ S2 (r1.mono o2.gx o2.len) r2 q2
  · rw [if_neg ht] at q1
    exact q1.elim
theorem e_m0 (hK : c.K = X.K) (hT : T ≠ "tuple") (pa : PlainAttrs T) (slot : Slot T name id) (hty : typeOf (.builtin id) = pure (.type "method_descriptor")) (hm : MtR X id r) (k : MROk c r F) (P : ∀ {to : TE}, PE X o to → PE X (.Call (.Attribute o name apos) [] [] cpos) (tBM0 X.K T r to)) (ho : PE X o (tEv c W fo)) :
    PE X (.Call (.Attribute o name apos) [] [] cpos) (tEv c W (cMt T F fo cNil)) := PE.imp (P ho) fun σ H Q ⟨st, h, g, S, sl, q⟩ => by
  refine ⟨st, h, g, S, sl, RP.mono (RP.bind q) fun v H1 ⟨d, h1, g1, o1, S1, r1, q1⟩ => ?_⟩
  by_cases ht : isTy T h1 d = true
  · rw [if_pos ht] at q1
    exact ⟨by rw [← hK]; exact isTy_ok hT S1 r1 ht, k g1 h1 H1 d v [] [] Q _ S1 r1 .nil q1⟩
  · rw [if_neg ht] at q1
    exact q1.elim

/-! ### lists' methods -/
/-- a cell that holds a list -/
def cellL (h : Store) : D → Option (Nat × List D)
  | .ref n => match h[n]? with
    | some (some (.lst l)) => some (n, l)
    | _ => none
  | _ => none
theorem cellL_ok {g : Gh} {h : Store} {H : Hp} {d : D} {v : V} {n : Nat} {l : List D} (S : SR c g h H) (r : RV c g h.length d v) (e : cellL h d = some (n, l)) : v = .ref (g.io n) ∧ h[n]? = some (some (.lst l)) ∧ ∃ vs, H (g.io n) = some (.lst vs) ∧ RVs c g h.length l vs := by
  cases r with
  | @ref m hm =>
    have e : (match h[m]? with
      | some (some (.lst l)) => some (m, l)
      | _ => none) = some (n, l) := e
    split at e
    · rename_i l' e2
      cases e
      obtain ⟨vs, q, r⟩ := S.cell _ _ e2
      exact ⟨rfl, e2, vs, q, r⟩
    · cases e
  | _ => cases e
def mAppend : MethT := fun d ds h => match cellL h d, ds with
  | some (n, l), [y] => if l.length < sizeLine then .ok .non (h.set n (some (.lst (l ++ [y])))) else .no
  | _, _ => .no
/-- a cell's list is changed -/
theorem cell_set {g : Gh} {h : Store} {H : Hp} {n : Nat} {l l' : List D} {vs' : List V} {Q : VK} {E : XK} {d : D} {v : V} (S : SR c g h H) (hn : h[n]? = some (some (.lst l))) (r : RVs c g h.length l' vs') (rv : RV c g h.length d v)
    (q : RP c (Rv c) g h H (.ok d (h.set n (some (.lst l')))) Q E) : Q v (upd H (g.io n) (.lst vs')) := by
  obtain ⟨S1, o1⟩ := S.write (o := .lst vs') (ce' := .lst l') hn ⟨vs', upd_same, r⟩
  exact q g _ v o1 S1 (by rw [List.length_set]; exact rv)
theorem mAppend_ok : MROk c rAppend mAppend := by
  intro g h H d v ds vs Q E S rv rs q
  unfold mAppend at q
  split at q
  · rename_i n l y e
    obtain ⟨rfl, e1, ws, e2, r2⟩ := cellL_ok S rv e
    cases rs with
    | cons r rr =>
      cases rr
      by_cases hl : l.length < sizeLine
      · rw [if_pos hl] at q
        exact ⟨_, ws, _, rfl, rfl, e2, by rw [← r2.length]; exact hl, cell_set S e1 (r2.append (.cons r .nil)) .non q⟩
      · rw [if_neg hl] at q
        exact q.elim
  · exact q.elim
/-- xs.pop(i) -/
def mPopAt : MethT := fun d ds h => match cellL h d, ds with
  | some (n, l), [.int i] => if -(2 ^ 63) ≤ i ∧ i < 2 ^ 63 then match seqIndex? i l.length with
      | some k => match l[k]? with
        | some y => .ok y (h.set n (some (.lst (l.eraseIdx k))))
        | none => .no
      | none => .no
    else .no
  | _, _ => .no
theorem mPopAt_ok : MROk c rPopAt mPopAt := by
  intro g h H d v ds vs Q E S rv rs q
  unfold mPopAt at q
  split at q
  · rename_i n l i e
    obtain ⟨rfl, e1, ws, e2, r2⟩ := cellL_ok S rv e
    cases rs with
    | cons r rr =>
      cases rr
      cases r
      by_cases hi : -(2 ^ 63) ≤ i ∧ i < 2 ^ 63
      · rw [if_pos hi] at q
        split at q
        · rename_i k ek
          split at q
          · rename_i y ey
            obtain ⟨w, ew, rw'⟩ := r2.get ey
            exact ⟨_, ws, i, k, w, rfl, rfl, e2, hi.1, hi.2, by rw [← r2.length]; exact ek, ew, cell_set S e1 (r2.eraseIdx k) rw' q⟩
          · exact q.elim
        · exact q.elim
      · rw [if_neg hi] at q
        exact q.elim
  · exact q.elim
/-- flat data as a value -/
def D.flat : D → Option V
  | .non => some .non
  | .bl b => some (.bl b)
  | .int i => some (.int i)
  | .str x => some (.str x)
  | _ => none
theorem flat_ok {g : Gh} {L : Nat} {d : D} {v w : V} (r : RV c g L d v) (e : d.flat = some w) : w = v ∧ flatV v = true := by
  cases r <;> first | (cases e; exact ⟨rfl, rfl⟩) | cases e
def flats : List D → Option (List V)
  | [] => some []
  | d :: l => match d.flat, flats l with
    | some v, some vs => some (v :: vs)
    | _, _ => none
theorem flats_ok {g : Gh} {L : Nat} : ∀ {l : List D} {vs ws : List V}, RVs c g L l vs → flats l = some ws → ws = vs ∧ vs.all flatV = true
  | [], _, _, .nil, e => by cases e; exact ⟨rfl, rfl⟩
  | d :: l, _, ws, .cons r rs, e => by
    unfold flats at e
    split at e
    · rename_i v vs' e1 e2
      cases e
      obtain ⟨rfl, f1⟩ := flat_ok r e1
      obtain ⟨rfl, f2⟩ := flats_ok rs e2
      exact ⟨rfl, by rw [List.all_cons, f1, f2]; rfl⟩
    · cases e
/-- the first place that is == y -/
def firstAt (y : V) : List V → Option Nat
  | [] => none
  | z :: l => if eqV z y = true then some 0 else (firstAt y l).map (· + 1)
theorem firstAt_ok {y : V} : ∀ {l : List V} {j : Nat}, firstAt y l = some j → (∃ z, l[j]? = some z ∧ eqV z y = true) ∧ ∀ (m : Nat) (z' : V), m < j → l[m]? = some z' → eqV z' y = false
  | [], j, e => by cases e
  | z :: l, j, e => by
    unfold firstAt at e
    by_cases h : eqV z y = true
    · rw [if_pos h] at e
      cases e
      exact ⟨⟨z, rfl, h⟩, fun m z' hm => absurd hm (Nat.not_lt_zero m)⟩
    · rw [if_neg h] at e
      cases e2 : firstAt y l with
      | none => rw [e2] at e; cases e
      | some k =>
        rw [e2] at e
        have e : k + 1 = j := by simpa using e
        subst e
        obtain ⟨⟨z2, h1, h2⟩, h3⟩ := firstAt_ok e2
        refine ⟨⟨z2, by simpa using h1, h2⟩, fun m z' hm hz => ?_⟩
        cases m with
        | zero =>
          have hz : z = z' := by simpa using hz
          rw [← hz]
          exact Bool.eq_false_iff.mpr h
        | succ m => exact h3 m z' (by omega) (by simpa using hz)
def mIndex : MethT := fun d ds h => match asR h d, ds with
  | some l, [y] => match y.flat, flats l with
    | some v, some vs => match firstAt v vs with
      | some j => .ok (.int (j : Nat)) h
      | none => .no
    | _, _ => .no
  | _, _ => .no
theorem mIndex_ok : MROk c (rIndex c.K) mIndex := by
  intro g h H d v ds vs Q E S rv rs q
  unfold mIndex at q
  split at q
  · rename_i l y e
    obtain ⟨a, ws, rfl, hq, r2⟩ := asR_ok S rv e
    cases rs with
    | cons r rr =>
      cases rr
      split at q
      · rename_i v1 vs1 e1 e2
        split at q
        · rename_i j ej
          obtain ⟨rfl, f1⟩ := flat_ok r e1
          obtain ⟨rfl, f2⟩ := flats_ok r2 e2
          obtain ⟨⟨z, h1, h2⟩, h3⟩ := firstAt_ok ej
          exact ⟨a, vs1, v1, j, z, rfl, rfl, hq, f1, f2, h1, h2, h3, RP.ok_here q S (.int _)⟩
        · exact q.elim
      · exact q.elim
  · exact q.elim
/-- sep.join(texts) -/
def mJoin : MethT := fun d ds h => match d, ds with
  | .str a, [.tup l] => match strsOf l with
    | some ys => if (ys.map (·.length)).sum + ys.length * a.length ≤ 16777216 then .ok (.str (Txt.join a ys)) h else .no
    | none => .no
  | .str a, [y] => match asR h y with
    | some l => match strsOf l with
      | some ys => if (ys.map (·.length)).sum + ys.length * a.length ≤ 16777216 then .ok (.str (Txt.join a ys)) h else .no
      | none => .no
    | none => .no
  | _, _ => .no
theorem mJoin_ok : MROk c (fun x xs H Q => ∃ a p, ∃ ys : List Str, x = .str a ∧ xs = [.ref p] ∧ (SqL c.K H p (ys.map V.str) ∨ SqT c.K H p (ys.map V.str)) ∧ (ys.map (·.length)).sum + ys.length * a.length ≤ 16777216 ∧ Q (.str (Txt.join a ys)) H) mJoin := by
  intro g h H d v ds vs Q E S rv rs q
  unfold mJoin at q
  split at q
  · rename_i a l
    cases rv
    cases rs with
    | cons r rr =>
      cases rr
      obtain ⟨p, ws, rfl, hq, r2⟩ := RV.tup' S r
      split at q
      · rename_i ys ey
        have ew := strsOf_ok r2 ey
        subst ew
        by_cases hz : (ys.map (·.length)).sum + ys.length * a.length ≤ 16777216
        · rw [if_pos hz] at q
          exact ⟨a, p, ys, rfl, rfl, .inr hq, hz, RP.ok_here q S (.str _)⟩
        · rw [if_neg hz] at q
          exact q.elim
      · exact q.elim
  · rename_i a y _
    cases rv
    cases rs with
    | cons r rr =>
      cases rr
      split at q
      · rename_i l el
        obtain ⟨p, ws, rfl, hq, r2⟩ := asR_ok S r el
        split at q
        · rename_i ys ey
          have ew := strsOf_ok r2 ey
          subst ew
          by_cases hz : (ys.map (·.length)).sum + ys.length * a.length ≤ 16777216
          · rw [if_pos hz] at q
            exact ⟨a, p, ys, rfl, rfl, .inl hq, hz, RP.ok_here q S (.str _)⟩
          · rw [if_neg hz] at q
            exact q.elim
        · exact q.elim
      · exact q.elim
  · exact q.elim

/-! ### in, not in -/
def inD (h : Store) (x y : D) : Option Bool := match x, y with
  | .str i, .str j => some (!(Builtin.Str.occurrences j i 0 j.length 1).isEmpty)
  | x, .tup l => match x.flat, flats l with
    | some v, some vs => some (inV v vs)
    | _, _ => none
  | x, y => match asR h y with
    | some l => match x.flat, flats l with
      | some v, some vs => some (inV v vs)
      | _, _ => none
    | none => none
def oIn (x y : D) (h : Store) : Res D := match inD h x y with
  | some b => .ok (.bl b) h
  | none => .no
def oNotIn (x y : D) (h : Store) : Res D := match inD h x y with
  | some b => .ok (.bl (!b)) h
  | none => .no
theorem inD_ok {g : Gh} {h : Store} {H : Hp} {x y : D} {v w : V} {b : Bool} (S : SR c g h H) (r1 : RV c g h.length x v) (r2 : RV c g h.length y w) (e : inD h x y = some b) :
    (∃ p xs, w = .ref p ∧ (SqL c.K H p xs ∨ SqT c.K H p xs) ∧ flatV v = true ∧ xs.all flatV = true ∧ inV v xs = b) ∨ ∃ i j, v = .str i ∧ w = .str j ∧ (!(Builtin.Str.occurrences j i 0 j.length 1).isEmpty) = b := by
  unfold inD at e
  split at e
  · cases r1; cases r2; cases e; exact .inr ⟨_, _, rfl, rfl, rfl⟩
  · split at e
    · rename_i v1 vs1 e1 e2
      cases e
      obtain ⟨p, ws, rfl, hq, r3⟩ := RV.tup' S r2
      obtain ⟨rfl, f1⟩ := flat_ok r1 e1
      obtain ⟨rfl, f2⟩ := flats_ok r3 e2
      exact .inl ⟨p, vs1, rfl, .inr hq, f1, f2, rfl⟩
    · cases e
  · split at e
    · rename_i l el
      split at e
      · rename_i v1 vs1 e1 e2
        cases e
        obtain ⟨p, ws, rfl, hq, r3⟩ := asR_ok S r2 el
        obtain ⟨rfl, f1⟩ := flat_ok r1 e1
        obtain ⟨rfl, f2⟩ := flats_ok r3 e2
        exact .inl ⟨p, vs1, rfl, .inl hq, f1, f2, rfl⟩
      · cases e
    · cases e
theorem oIn_ok : R2Ok c (fun x y H Q => rIn c.K false x y H Q ∨ (∃ i j, x = .str i ∧ y = .str j ∧ Q (.bl (!(Builtin.Str.occurrences j i 0 j.length 1).isEmpty)) H)) oIn := by
  intro g h H d1 v1 d2 v2 Q E S r1 r2 q
  unfold oIn at q
  cases e : inD h d1 d2 with
  | none => rw [e] at q; exact q.elim
  | some b =>
    rw [e] at q
    have q2 : Q (.bl b) H := RP.ok_here q S (.bl b)
    rcases inD_ok S r1 r2 e with ⟨p, xs, e1, e2, e3, e4, e5⟩ | ⟨i, j, e1, e2, e3⟩
    · exact .inl ⟨p, xs, e1, e2, e3, e4, by rw [if_neg Bool.false_ne_true, e5]; exact q2⟩
    · exact .inr ⟨i, j, e1, e2, by rw [e3]; exact q2⟩
theorem oNotIn_ok : R2Ok c (fun x y H Q => rIn c.K true x y H Q ∨ (∃ i j, x = .str i ∧ y = .str j ∧ Q (.bl (!(!(Builtin.Str.occurrences j i 0 j.length 1).isEmpty))) H)) oNotIn := by
  intro g h H d1 v1 d2 v2 Q E S r1 r2 q
  unfold oNotIn at q
  cases e : inD h d1 d2 with
  | none => rw [e] at q; exact q.elim
  | some b =>
    rw [e] at q
    have q2 : Q (.bl (!b)) H := RP.ok_here q S (.bl _)
    rcases inD_ok S r1 r2 e with ⟨p, xs, e1, e2, e3, e4, e5⟩ | ⟨i, j, e1, e2, e3⟩
    · exact .inl ⟨p, xs, e1, e2, e3, e4, by rw [if_pos rfl, e5]; exact q2⟩
    · exact .inr ⟨i, j, e1, e2, by rw [e3]; exact q2⟩

/-! ### a + b, a * b of any kind -/
def oAdd (m : Bool) (x y : D) (h : Store) : Res D := match x, y with
  | .int i, .int j => .ok (.int (i + j)) h
  | .str i, .str j => if i.length + j.length ≤ sizeLine then .ok (.str (i ++ j)) h else .no
  | x, y => match asL h x, asL h y with
    | some l, some k => if l.length + k.length ≤ sizeLine then alloc m (l ++ k) h else .no
    | _, _ => .no
theorem oAdd_ok {m : Bool} : R2Ok c (fun x y H Q => rI0 (fun i j => .int (i + j)) x y H Q ∨ (fun x y H Q => (∃ i j, x = .str i ∧ y = .str j ∧ i.length + j.length ≤ sizeLine ∧ Q (.str (i ++ j)) H) ∨ rCat x y H Q) x y H Q) (oAdd m) := by
  intro g h H d1 v1 d2 v2 Q E S r1 r2 q
  unfold oAdd at q
  split at q
  · rename_i i j
    cases r1; cases r2
    exact .inl ⟨i, j, rfl, rfl, RP.ok_here q S (.int _)⟩
  · rename_i i j
    cases r1; cases r2
    by_cases hz : i.length + j.length ≤ sizeLine
    · rw [if_pos hz] at q
      exact .inr (.inl ⟨i, j, rfl, rfl, hz, RP.ok_here q S (.str _)⟩)
    · rw [if_neg hz] at q
      exact q.elim
  · split at q
    · rename_i l k e1 e2
      obtain ⟨a, vs, rfl, h1, s1⟩ := asL_ok S r1 e1
      obtain ⟨b, ws, rfl, h2, s2⟩ := asL_ok S r2 e2
      by_cases hz : l.length + k.length ≤ sizeLine
      · rw [if_pos hz] at q
        exact .inr (.inr ⟨a, b, vs, ws, rfl, rfl, h1, h2, by rw [← s1.length, ← s2.length]; exact hz, alloc_ok S (s1.append s2) q⟩)
      · rw [if_neg hz] at q
        exact q.elim
    · exact q.elim
theorem b_add {m : Bool} {a b : Expr} {fa fb : Ev D} (ha : PE X a (tEv c W fa)) (hb : PE X b (tEv c W fb)) : PE X (.BinOp a .Add b pos) (tEv c W (cBin (oAdd m) fa fb)) := e_bin (OpR.or op_add (OpR.or op_add_str op_cat)) oAdd_ok ha hb
theorem e_in {a b : Expr} {fa fb : Ev D} (hK : c.K = X.K) (ha : PE X a (tEv c W fa)) (hb : PE X b (tEv c W fb)) (hm : behindInMarks .In b = false := by rfl) : PE X (.Compare a [.In] [b] pos) (tEv c W (cBin oIn fa fb)) := e_cmp (OpR.or op_in_seq op_in_str) (by rw [← hK]; exact oIn_ok) ha hb hm
theorem e_notIn {a b : Expr} {fa fb : Ev D} (hK : c.K = X.K) (ha : PE X a (tEv c W fa)) (hb : PE X b (tEv c W fb)) (hm : behindInMarks .NotIn b = false := by rfl) : PE X (.Compare a [.NotIn] [b] pos) (tEv c W (cBin oNotIn fa fb)) := e_cmp (OpR.or op_notIn_seq L2.op_notIn_str) (by rw [← hK]; exact oNotIn_ok) ha hb hm
theorem t_in {a b : Expr} {fa fb : Ev D} (hK : c.K = X.K) (ha : PE X a (tEv c W fa)) (hb : PE X b (tEv c W fb)) (hm : behindInMarks .In b = false := by rfl) : PT X (.Compare a [.In] [b] pos) (tTe c W (cTv (cBin oIn fa fb))) := t_cmp (OpR.or op_in_seq op_in_str) (by rw [← hK]; exact oIn_ok) ha hb hm
theorem t_notIn {a b : Expr} {fa fb : Ev D} (hK : c.K = X.K) (ha : PE X a (tEv c W fa)) (hb : PE X b (tEv c W fb)) (hm : behindInMarks .NotIn b = false := by rfl) : PT X (.Compare a [.NotIn] [b] pos) (tTe c W (cTv (cBin oNotIn fa fb))) := t_cmp (OpR.or op_notIn_seq L2.op_notIn_str) (by rw [← hK]; exact oNotIn_ok) ha hb hm

/-! ### subscripts -/
theorem atI_at {α : Type} {xs : List α} {i : Int} {v : α} (h : L2.atI xs i = some v) : ∃ j, L2.ixN xs.length i = some j ∧ xs[j]? = some v := by
  unfold L2.atI at h
  cases e : L2.ixN xs.length i with
  | none => rw [e] at h; cases h
  | some j => rw [e] at h; exact ⟨j, rfl, h⟩
def oIx (x y : D) (h : Store) : Res D := match x, y with
  | .str z, .int i => if z.length ≤ sizeLine then match L2.atI z.cps.toList i with
      | some k => .ok (.str ⟨#[k]⟩) h
      | none => .no
    else .no
  | .tup l, .int i => match L2.atI l i with
    | some d => .ok d h
    | none => .no
  | x, .int i => match asR h x with
    | some l => match L2.atI l i with
      | some d => .ok d h
      | none => .no
    | none => .no
  | _, _ => .no
theorem atI_rel {g : Gh} {L : Nat} {l : List D} {vs : List V} {i : Int} {d : D} (rs : RVs c g L l vs) (e : L2.atI l i = some d) : ∃ v, L2.atI vs i = some v ∧ RV c g L d v := by
  obtain ⟨j, h1, h2⟩ := atI_at e
  obtain ⟨y, h3, h4⟩ := rs.get h2
  refine ⟨y, ?_, h4⟩
  unfold L2.atI
  rw [← rs.length, h1]
  exact h3
theorem oIx_ok : R2Ok c (L2.rIx c.K) oIx := by
  intro g h H d1 v1 d2 v2 Q E S r1 r2 q
  unfold oIx at q
  split at q
  · rename_i z i
    cases r1; cases r2
    by_cases hz : z.length ≤ sizeLine
    · rw [if_pos hz] at q
      split at q
      · rename_i k ek
        exact .inr (.inr ⟨z, i, k, rfl, rfl, hz, ek, RP.ok_here q S (.str _)⟩)
      · exact q.elim
    · rw [if_neg hz] at q
      exact q.elim
  · rename_i l i
    cases r2
    obtain ⟨a, vs, rfl, hq, rs⟩ := RV.tup' S r1
    split at q
    · rename_i d ed
      obtain ⟨v, h1, h2⟩ := atI_rel rs ed
      exact .inr (.inl ⟨a, vs, i, v, rfl, rfl, hq, h1, RP.ok_here q S h2⟩)
    · exact q.elim
  · rename_i x i _ _
    cases r2
    split at q
    · rename_i l el
      obtain ⟨a, vs, rfl, hq, rs⟩ := asR_ok S r1 el
      split at q
      · rename_i d ed
        obtain ⟨v, h1, h2⟩ := atI_rel rs ed
        exact .inl ⟨a, vs, i, v, rfl, rfl, hq, h1, RP.ok_here q S h2⟩
      · exact q.elim
    · exact q.elim
  · exact q.elim
theorem e_item {a b : Expr} {fa fb : Ev D} (hK : c.K = X.K) (ha : PE X a (tEv c W fa)) (hb : PE X b (tEv c W fb)) (hs : PlainIx b := by exact fun _ _ => rfl) : PE X (.Subscript a b pos) (tEv c W (cBin oIx fa fb)) := e_ix ix_seq (by rw [← hK]; exact oIx_ok) ha hb hs
end
end Gm

/-! Gm7: stores to places, slices, pairs, keywords. -/
namespace Gm
open PySem PySem.Spec PyProof.Rows L2

/-! ### o[i] = v, o[i] op= v of a list's cell -/
section
variable {c : Cf} {W : WX} {X : Cx} {pos : Pos} {o i e : Expr} {fo fi fe : Ev D}
/-- the store to a place of a cell's list -/
def putAt (x y d : D) (h : Store) : Option Store := match cellL h x, y with
  | some (n, l), .int k => match L2.ixN l.length k with
    | some j => some (h.set n (some (.lst (l.set j d))))
    | none => none
  | _, _ => none
theorem putAt_ok {g : Gh} {h h' : Store} {H : Hp} {x y d : D} {vx vy vd : V} {Q : Hp → Prop} (S : SR c g h H) (rx : RV c g h.length x vx) (ry : RV c g h.length y vy) (rd : RV c g h.length d vd) (ep : putAt x y d h = some h')
    (k : ∀ H', Go g h H g h' H' → SR c g h' H' → Q H') : L2.rSetL vx vy vd H Q := by
  unfold putAt at ep
  split at ep
  · rename_i n l kk en
    split at ep
    · rename_i j ej
      cases ep
      cases ry
      obtain ⟨rfl, e1, ws, e2, rs⟩ := cellL_ok S rx en
      obtain ⟨S1, o1⟩ := S.write (o := .lst (ws.set j vd)) (ce' := .lst (l.set j d)) e1 ⟨_, upd_same, rs.set rd j⟩
      exact ⟨_, ws, kk, j, rfl, rfl, e2, by rw [← rs.length]; exact ej, k _ o1 S1⟩
    · cases ep
  · cases ep
def gtSub (fo fi : Ev D) : Tg := fun d st h => match (fo st h).sure, (fi st h).sure with
  | .ok x h1, .ok y h2 => match putAt x y d h with
    | some h' => some (st, h')
    | none => none
  | _, _ => none
/-- an expression that leaves the store as it is -/
def Still (f : Ev D) : Prop := ∀ st h d h', f st h = .ok d h' → h' = h
theorem still_var (i : Nat) : Still (cVar i) := fun st h d h' e => by
  unfold cVar at e
  split at e
  · cases e; rfl
  · cases e
theorem still_k (d : D) : Still (cK d) := fun st h d h' e => by cases e; rfl
theorem still_bin {fo : D → D → Store → Res D} {fa fb : Ev D} (ho : ∀ x y h d h', fo x y h = .ok d h' → h' = h) (ha : Still fa) (hb : Still fb) : Still (cBin fo fa fb) := fun st h d h' e => by
  unfold cBin at e
  cases e1 : fa st h with
  | ok x h1 =>
    rw [e1, Res.bind_ok] at e
    cases e2 : fb st h1 with
    | ok y h2 =>
      rw [e2, Res.bind_ok] at e
      rw [ho _ _ _ _ _ e, hb _ _ _ _ e2, ha _ _ _ _ e1]
    | exc _ _ => rw [e2] at e; cases e
    | no => rw [e2] at e; cases e
  | exc _ _ => rw [e1] at e; cases e
  | no => rw [e1] at e; cases e
/-- o[i] = e, as a statement -/
def sPut (fe fo fi : Ev D) : Ss := fun st h => (fe st h).out st fun d h1 => (fo st h1).out st fun x h2 => (fi st h2).out st fun y h3 => match putAt x y d h3 with
  | some h' => .next st h'
  | none => .no
theorem s_put (he : PE X e (tEv c W fe)) (ho : PE X o (tEv c W fo)) (hi : PE X i (tEv c W fi)) {p2 : Pos} (P : ∀ {te to ti : TE}, PE X e te → PE X o to → PE X i ti → PS X (.Assign [.Subscript o i p2] e pos) (tAsg te (gSub to ti L2.rSetL))) :
    PS X (.Assign [.Subscript o i p2] e pos) (tSt c W (sPut fe fo fi)) := PS.imp (P he ho hi) fun D σ H ⟨st, h, g, S, sl, q⟩ => by
  refine ⟨st, h, g, S, sl, RP.mono (OP.out sl q) fun v H1 ⟨d, h1, g1, o1, S1, r1, q1⟩ => ?_⟩
  refine ⟨st, h1, g1, S1, sl.go o1, RP.mono (OP.out (sl.go o1) q1) fun vx H2 ⟨x, h2, g2, o2, S2, r2, q2⟩ => ?_⟩
  have o12 := o1.trans o2
  refine ⟨st, h2, g2, S2, sl.go o12, RP.mono (OP.out (sl.go o12) q2) fun vy H3 ⟨y, h3, g3, o3, S3, r3, q3⟩ => ?_⟩
  cases ep : putAt x y d h3 with
  | none => rw [ep] at q3; exact q3.elim
  | some h' =>
    rw [ep] at q3
    exact putAt_ok S3 (r2.mono o3.gx o3.len) r3 (r1.mono (o2.trans o3).gx (o2.trans o3).len) ep fun H' o4 S4 => q3 g3 H' σ o4 S4 (sl.go ((o12.trans o3).trans o4))
theorem ps_put {p2 : Pos} {te to ti : TE} (he : PE X e te) (ho : PE X o to) (hi : PE X i ti) (ha : ∀ v, assign (.Subscript o i p2) X.env v = (do
      let ov ← holding [v] (eval o X.env)
      let iv ← holding [v, ov] (eval i X.env)
      standAt p2
      holding [v, ov, iv] (setItem ov iv v)
      release [v, ov, iv] []) := by intro _; rfl) (hs : swapsWithSole [.Subscript o i p2] e pos.line X.env = pure false := by rfl) (hw : swappedStores [.Subscript o i p2] e X.env = pure none := by rfl)
    (h1 : (assignEach [.Subscript o i p2] X.env).map (·.2) = [assign (.Subscript o i p2) X.env] := by rfl) : PS X (.Assign [.Subscript o i p2] e pos) (tAsg te (gSub to ti L2.rSetL)) := ps_asg he (pg_sub ho hi set_list ha) hs hw h1
/-- o[i], by values -/
theorem get_list : PGet X (L2.rIxL X.K) := by
  intro pins s σ H x y ov iv Q I rx ry q
  obtain ⟨p, xs, k, z, e1, e2, hq, he, hQ⟩ := q
  subst e1 e2
  cases rx
  obtain ⟨t, rfl⟩ := ry
  obtain ⟨its, rv, pl, hz⟩ := I.list hq
  obtain ⟨j, f1, f2, f3, f4, f5⟩ := L2.atI_get he
  obtain ⟨u, eu, ru⟩ := rv.get f2
  have hlen := rv.length
  have hbig := L2.line63
  by_cases hk : 0 ≤ k
  · have ej : k.toNat = j := Option.some.inj ((PySem.seqIndex_of hk f5).symm.trans f1)
    exact wpAny_getItem_list pl.isList hk (by omega) (by rw [ej]; simpa using eu) ⟨z, H, I, ru, hQ⟩
  · have ej : (k + (its.toArray.size : Int)).toNat = j := by
      rw [List.size_toArray, ← hlen]
      exact Option.some.inj ((PySem.seqIndex_neg (by omega) f4).symm.trans f1)
    exact wpAny_getItem_list_neg pl.isList (by omega) (by rw [List.size_toArray]; omega) (by omega) (by rw [ej]; simpa using eu) ⟨z, H, I, ru, hQ⟩
/-- o[i] of a cell's list -/
def getAt (x y : D) (h : Store) : Option D := match cellL h x, y with
  | some (_, l), .int k => L2.atI l k
  | _, _ => none
theorem getAt_ok {g : Gh} {h : Store} {H : Hp} {x y d : D} {vx vy : V} {Q : VK} (S : SR c g h H) (rx : RV c g h.length x vx) (ry : RV c g h.length y vy) (ep : getAt x y h = some d) (k : ∀ v, RV c g h.length d v → Q v H) : L2.rIxL c.K vx vy H Q := by
  unfold getAt at ep
  split at ep
  · rename_i n l kk en
    cases ry
    obtain ⟨rfl, e1, ws, e2, rs⟩ := cellL_ok S rx en
    obtain ⟨v, f1, f2⟩ := atI_rel rs ep
    exact ⟨_, ws, kk, v, rfl, rfl, .inl (.inl e2), f1, k v f2⟩
  · cases ep
/-- o[i] op= e -/
def sAugAt (fop : D → D → Store → Res D) (fo fi fe : Ev D) : Ss := fun st h => (fo st h).out st fun x h1 => (fi st h1).out st fun y h2 => match getAt x y h2 with
  | some old => (fe st h2).out st fun d h4 => (fop old d h4).out st fun z h5 => match putAt x y z h5 with
    | some h' => .next st h'
    | none => .no
  | none => .no
theorem s_augAt {op : Operator} {r : R2} {fop : D → D → Store → Res D} {tpos : Pos} (hK : c.K = X.K) (hop : OpR X (inplaceOp op) r) (hr : R2Ok c r fop) (ho : PE X o (tEv c W fo)) (hi : PE X i (tEv c W fi)) (he : PE X e (tEv c W fe))
    (ha : ∀ ov iv new, augStore i ov iv new = (do holding [new, ov, iv] (setItem ov iv new); release [new, ov, iv] []; pure .next) := by intros; rfl) : PS X (.AugAssign (.Subscript o i tpos) op e pos) (tSt c W (sAugAt fop fo fi fe)) :=
  PS.imp (ps_augS (tip := r) ho hi get_list he hop set_list ha) fun D σ H ⟨st, h, g, S, sl, q⟩ => by
    refine ⟨st, h, g, S, sl, RP.mono (OP.out sl q) fun vx H1 ⟨x, h1, g1, o1, S1, r1, q1⟩ => ?_⟩
    refine ⟨st, h1, g1, S1, sl.go o1, RP.mono (OP.out (sl.go o1) q1) fun vy H2 ⟨y, h2, g2, o2, S2, r2, q2⟩ => ?_⟩
    have o12 := o1.trans o2
    cases eg : getAt x y h2 with
    | none => rw [eg] at q2; exact q2.elim
    | some old =>
      rw [eg] at q2
      rw [← hK]
      refine getAt_ok S2 (r1.mono o2.gx o2.len) r2 eg fun v rold => ⟨st, h2, g2, S2, sl.go o12, RP.mono (OP.out (sl.go o12) q2) fun ve H3 ⟨d, h3, g3, o3, S3, r3, q3⟩ => ?_⟩
      have o13 := o12.trans o3
      refine hr g3 h3 H3 old v d ve _ _ S3 (rold.mono o3.gx o3.len) r3 (RP.mono (OP.out (sl.go o13) q3) fun vz H4 ⟨z, h4, g4, o4, S4, r4, q4⟩ => ?_)
      cases ep : putAt x y z h4 with
      | none => rw [ep] at q4; exact q4.elim
      | some h' =>
        rw [ep] at q4
        have o24 := o2.trans (o3.trans o4)
        have o34 := o3.trans o4
        exact putAt_ok S4 (r1.mono o24.gx o24.len) (r2.mono o34.gx o34.len) r4 ep fun H' o5 S5 => q4 g4 H' σ o5 S5 (sl.go ((o13.trans o4).trans o5))

/-! ### a, b = x, y -/
def sPar (i j : Nat) (fs : Ev (List D)) : Ss := fun st h => (fs st h).out st fun ds h1 => match ds with
  | [a, b] => .next ((st.set i (some a)).set j (some b)) h1
  | _ => .no
theorem s_par {i j : Nat} {s : Stmt} {fs : Ev (List D)} (P : PS X s (tPar i j (tAr c W fs))) : PS X s (tSt c W (sPar i j fs)) := PS.imp P fun D σ H ⟨st, h, g, S, sl, q⟩ =>
  ⟨st, h, g, S, sl, RP.mono (OP.out sl q) fun vs H1 ⟨ds, h1, g1, o1, S1, r1, q1⟩ => by
    split at q1
    · cases r1 with
      | cons r1 rr =>
        cases rr with
        | cons r2 rr =>
          cases rr
          exact ⟨_, _, rfl, q1 g1 H1 _ (Go.refl _ _ _) S1 (((sl.go o1).set i r1).set j r2)⟩
    · exact q1.elim⟩

/-! ### slices -/
def tPo (c : Cf) (W : WX) (f : Ev (Option Int)) : L2.TO := fun σ H Q => ∃ st h g, SR c g h H ∧ SL c g h.length st σ ∧ RP c (fun _ _ a b => a = b) g h H (f st h) Q (fun cls dd H' => W cls dd σ H')
theorem PO.imp {e : Option Expr} {t t' : L2.TO} (p : L2.PO X e t) (k : ∀ σ H Q, t' σ H Q → t σ H Q) : L2.PO X e t' := ⟨fun pins s σ H Q I h => p.run pins s σ H Q I (k σ H Q h)⟩
def cNoPart : Ev (Option Int) := fun _ h => .ok none h
def cPart (f : Ev D) : Ev (Option Int) := fun st h => (f st h).bind fun d h1 => match d with
  | .int i => .ok (some i) h1
  | _ => .no
theorem p_none : L2.PO X none (tPo c W cNoPart) := PO.imp po_none fun σ H Q ⟨st, h, g, S, sl, q⟩ => RP.ok_here (R := fun _ _ a b => a = b) q S rfl
theorem p_some {f : Ev D} (he : PE X e (tEv c W f)) : L2.PO X (some e) (tPo c W (cPart f)) := PO.imp (po_some he) fun σ H Q ⟨st, h, g, S, sl, q⟩ =>
  ⟨st, h, g, S, sl, RP.mono (RP.bind q) fun v H1 ⟨d, h1, g1, o1, S1, r1, q1⟩ => by
    cases r1 with
    | int i => exact ⟨i, rfl, RP.ok_here (R := fun _ _ a b => a = b) q1 S1 rfl⟩
    | _ => exact q1.elim⟩
def cutD (l : List D) (lo hi : Option Int) : List D := (l.drop (HT.sIx l.length 0 lo)).take (HT.sIx l.length l.length hi - HT.sIx l.length 0 lo)
theorem cutD_ok {g : Gh} {L : Nat} {l : List D} {vs : List V} {lo hi : Option Int} (r : RVs c g L l vs) : RVs c g L (cutD l lo hi) (L2.cutV vs lo hi) := by
  unfold cutD L2.cutV
  rw [← r.length]
  exact (r.drop _).take _
def oSl (m : Bool) (d : D) (lo hi : Option Int) (h : Store) : Res D := match d with
  | .str z => if z.length ≤ sizeLine then .ok (.str (cutS z lo hi)) h else .no
  | d => match asR h d with
    | some l => alloc m (cutD l lo hi) h
    | none => .no
def cSl (m : Bool) (fe : Ev D) (fl fh : Ev (Option Int)) : Ev D := fun st h => (fe st h).bind fun d h1 => (fl st h1).bind fun lo h2 => (fh st h2).bind fun hi h3 => oSl m d lo hi h3
theorem e_slice {m : Bool} {lo hi : Option Expr} {p2 : Pos} {fl fh : Ev (Option Int)} (hK : c.K = X.K) (he : PE X e (tEv c W fe)) (hl : L2.PO X lo (tPo c W fl)) (hh : L2.PO X hi (tPo c W fh)) : PE X (.Subscript e (.Slice lo hi none p2) pos) (tEv c W (cSl m fe fl fh)) :=
  PE.imp (pe_slice (SlR.or sl_list sl_str) he hl hh) fun σ H Q ⟨st, h, g, S, sl, q⟩ => by
    refine ⟨st, h, g, S, sl, RP.mono (RP.bind q) fun v H1 ⟨d, h1, g1, o1, S1, r1, q1⟩ => ?_⟩
    refine ⟨st, h1, g1, S1, sl.go o1, RP.mono (RP.bind (R' := fun _ _ a b => a = b) q1) fun l H2 ⟨l', h2, g2, o2, S2, r2, q2⟩ => ?_⟩
    have r2 : l' = l := r2
    subst r2
    refine ⟨st, h2, g2, S2, sl.go (o1.trans o2), RP.mono (RP.bind (R' := fun _ _ a b => a = b) q2) fun u H3 ⟨u', h3, g3, o3, S3, r3, q3⟩ => ?_⟩
    have r3 : u' = u := r3
    subst r3
    have rv := r1.mono (o2.trans o3).gx (o2.trans o3).len
    by_cases hd : ∃ z, d = .str z
    · obtain ⟨z, rfl⟩ := hd
      cases rv
      have q3 : RP c (Rv c) g3 h3 H3 (if z.length ≤ sizeLine then .ok (.str (cutS z l' u')) h3 else .no) Q _ := q3
      by_cases hz : z.length ≤ sizeLine
      · rw [if_pos hz] at q3
        exact .inr ⟨z, rfl, hz, RP.ok_here q3 S3 (.str _)⟩
      · rw [if_neg hz] at q3
        exact q3.elim
    · have ed : oSl m d l' u' h3 = (match asR h3 d with
        | some l => alloc m (cutD l l' u') h3
        | none => .no) := by
        cases d <;> first | rfl | exact absurd ⟨_, rfl⟩ hd
      rw [ed] at q3
      split at q3
      · rename_i k ek
        obtain ⟨a, vs, rfl, hq, rs⟩ := asR_ok S3 rv ek
        rw [← hK]
        exact .inl ⟨a, vs, rfl, hq, alloc_ok S3 (cutD_ok rs) q3⟩
      · exact q3.elim
end
end Gm

/-! Gm8: sum with a start, dicts, int of a text of noughts and ones. -/
namespace Gm
open PySem PySem.Spec PyProof.Rows L2
abbrev oAddI : D → D → Store → Res D := iop (fun _ _ => true) fun i j => i + j

/-! ### sum(xs, start=0) -/
theorem args_sum_start (a v : Value) : argsOk "sum" ⟨[a], [("start", v)]⟩ := by unfold argsOk; kernel_rfl
theorem call_tree_kw {prog : Program} {w : World} {A : Around} {E : Value → Shared → Prop} {s : Shared} {id : String} {b : Builtin} {args : List Value} {kw : List (Str × Value)} {Q : Value → Shared → Prop} (kind : builtinKind id = none) (plain : plainId id = true)
    (entry : entryFor table id = some b) (fits : argsOk id ⟨args, kw⟩)
    (body : wpAny (model prog w) A.in1 (b ⟨args, kw⟩) (fun fin s' => match fin with
      | .done f => (match (Except.ok f : Result) with | .ok (.ret v) => Q v s' | .ok _ => False | .error e => E e s')
      | .again c' => c'.quiet = true ∧ codeAny (model prog w) A c' (fun r s' => match r with | .ok (.ret v) => Q v s' | .ok _ => False | .error e => E e s') s') E s) :
    wpAny (model prog w) A (call (.builtin id) args kw) Q E s := by
  refine wpAny_call (codeAny_call_builtin plain entry ?_)
  simp only [checkBuiltinCall, kind]
  cases sg : Manifest.signature? id with
  | none => exact wpAny_pure body
  | some sig =>
    simp only [argsOk, sg] at fits
    have fits2 : Bind.checkArgs id sig ⟨args, kw⟩ = pure () := fits
    show wpAny _ A.in1 (Bind.checkArgs id sig ⟨args, kw⟩) _ _ s
    rw [fits2]
    exact wpAny_pure body
theorem sum_start_raw {prog : Program} {w : World} {A : Around} {E : Value → Shared → Prop} {s : Shared} {l : Addr} {its : List Value} {ns : List Int} {u : Tok} {Q : Value → Shared → Prop} (hh : A.handled = none) (hl : s.heap.IsList l its.toArray) (hi : IntsAre its ns)
    (fin : ∀ h' tk t', (∀ b o, s.heap.get? b = some o → h'.get? b = some o) → Q (.int ns.sum t') { s with heap := h', toks := tk }) : wpAny (model prog w) A (call (.builtin "sum") [.ref l] [("start", .int 0 u)]) Q E s := by
  obtain ⟨xs, e⟩ := hi.allInts.items
  have hn : numsOf (intItems xs).toList = ns := by
    rw [← e]
    exact hi.numsOf
  rw [nums_intItems] at hn
  rw [e] at hl
  refine call_tree_kw F.kind_sum F.plain_sum F.entry_sum (args_sum_start _ _) ?_
  unfold Builtin.«sum»
  simp only [List.length_cons, List.length_nil]
  rw [if_neg (by decide)]
  have hb : Builtin.Builtins.bindParams "sum" ["start"] 0 ⟨[], [("start", .int 0 u)]⟩ = pure [some (.int 0 u)] := by with_unfolding_all rfl
  refine wpAny_bind (wpAny_of_eq hb ?_)
  refine wpAny_bind (iter_intList hl fun s2 e2 st hfp hlI => ?_)
  subst e2
  dsimp only
  split
  case isFalse hf => exact absurd (by rfl) hf
  refine wpAny_bind (wpAny_rule (wpAny_bind (wpAny_mkInt (wpAny_bind (wpAny_pure ?_)))))
  simp only [List.forIn_cons, List.forIn_nil]
  have no : ∀ {T : String} {t : Tok} {s3 : Shared} {R : Bool → Shared → Prop}, isSubtype (.type "int") (.type T) = pure false → R false s3 → wpAny (model prog w) A.in1 (isInstance (.int 0 t) (.type T)) R E s3 := fun sub k =>
    wpAny_isInstance (T := "int") (b := false) (typeIs_int _ _ _) sub k
  refine wpAny_bind (wpAny_bind (wpAny_bind (no PySem.sub_int_str ?_)))
  rw [if_neg Bool.false_ne_true]
  refine wpAny_pure (wpAny_bind (wpAny_bind (no PySem.sub_int_bytes ?_)))
  rw [if_neg Bool.false_ne_true]
  refine wpAny_pure (wpAny_bind (wpAny_bind (no PySem.sub_int_bytearray ?_)))
  rw [if_neg Bool.false_ne_true]
  refine wpAny_pure (wpAny_pure ?_)
  refine wpAny_bind (wpAny_newObj_type ?_)
  have hSf : s.heap.objs.size + 1 ∉ [s.heap.objs.size, l] := fun hm => by
    have q := hfp _ hm
    rw [Heap.size_push] at q
    exact Nat.lt_irrefl _ q
  have Wk := Walks.list (prog := prog) (w := w) (A := A.in1) hh s.heap.objs.size l hlI (intItems xs)
  have esz : (s.heap.push { cls := .type "list_iterator", data := .fields #[.ref l, .int 0 0] }).objs.size = s.heap.objs.size + 1 := Heap.size_push _ _
  refine wpAny_pure ⟨plainId_quiet F.plain_sum_loop _, codeAny_sum_loopG Wk (numAt xs) (fun _ _ => intItems_at) _ (by rw [esz]; exact hSf) _ 0 _ s.toks 0 0 (Or.inl rfl) rfl (Nat.zero_le _) (Wk.frame _ _ _ st fun b _ o q => Heap.get?_push_of_some _ q) (Heap.get?_push_size _ rfl) fun h' tk t' hk => ?_⟩
  have z := fin h' tk t' fun b o q => by
    have lt := Heap.lt_size q
    refine hk b o ?_ ?_ (Heap.get?_push_of_some _ (Heap.get?_push_of_some _ q))
    · intro hm
      have e : b = s.heap.objs.size := by simpa using hm
      exact absurd lt (by rw [e]; exact Nat.lt_irrefl _)
    · rw [esz]
      exact Nat.ne_of_lt (Nat.lt_succ_of_lt lt)
  rw [preSum_eq, List.take_of_length_le (by simp [intItems]), hn]
  exact z
section
variable {c : Cf} {W : WX} {X : Cx} {e ek : Expr} {fe fk : Ev D} {p pos kp : Pos}
def tSumS (K : PySem.W.Frag) (ta tk : TA) : TE := fun σ H Q => ta σ H fun xs H1 => tk σ H1 fun ys H2 => ∃ (a : Addr) (ns : List Int), xs = [.ref a] ∧ ys = [.int 0] ∧ SqL K H2 a (ns.map V.int) ∧ Q (.int ns.sum) H2
theorem pe_sumS {ta tk : TA} (calm : X.calm = true) (hg : Gl X "sum") (hm : X.mg "sum" = none) (ha : PA X [e] ta) (hk : L2.PK X [⟨some "start", ek, kp⟩] tk)
    (he : backTo pos (starEach [e] X.env) = (false, eval e X.env) :: backTo pos (starEach [] X.env) := by rfl) (hp : (backTo pos (starEach [e] X.env)).any (·.1) = false := by rfl) : PE X (.Call (.Name "sum" p) [e] [⟨some "start", ek, kp⟩] pos) (tSumS X.K ta tk) := by
  refine ⟨fun pins s σ H Q I h => ?_⟩
  refine wpAny_Call_Name_kw (ld_blt I hg hm boot_sum ?_)
  refine callWith_kw (env := X.env) (thn (ha.run pos pins s σ H _ I h) fun us s1 ⟨xs, H1, I1, r1, q1⟩ => thn (hk.run pos pins s1 σ H1 _ I1 q1) fun ws s2 ⟨ys, H2, I2, r2, a, ns, e1, e2, hq, q2⟩ => ?_) he hp
  subst e1 e2
  obtain ⟨u2, rfl, t, rfl⟩ := vals1 r2
  obtain ⟨u1, rfl, hr1⟩ := vals1 r1
  obtain rfl : u1 = Value.ref a := hr1
  obtain ⟨its, rv, pl, _⟩ := I2.list hq
  show wpAny _ _ (call (.builtin "sum") [.ref a] [("start", .int 0 t)]) _ _ _
  exact sum_start_raw (I2.ok.hd calm) pl.isList rv.ints fun h' tk t' hk' => ⟨.int _, H2, I2.kept hk', ⟨_, rfl⟩, q2⟩
def fSumS (d k : D) (h : Store) : Res D := match k with
  | .int 0 => match asR h d with
    | some l => match intsOf l with
      | some ns => .ok (.int ns.sum) h
      | none => .no
    | none => .no
  | _ => .no
def cSumS (fe fk : Ev D) : Ev D := fun st h => (fe st h).bind fun d h1 => (fk st h1).bind fun k h2 => fSumS d k h2
theorem e_sumS (hg : Gl X "sum") (hm : X.mg "sum" = none) (ha : PE X e (tEv c W fe)) (hk : PE X ek (tEv c W fk)) (P : ∀ {ta tk : TA}, PA X [e] ta → L2.PK X [⟨some "start", ek, kp⟩] tk → PE X (.Call (.Name "sum" p) [e] [⟨some "start", ek, kp⟩] pos) (tSumS c.K ta tk))
    (hs : starEach [e] X.env = (false, eval e X.env) :: starEach [] X.env := by rfl) : PE X (.Call (.Name "sum" p) [e] [⟨some "start", ek, kp⟩] pos) (tEv c W (cSumS fe fk)) :=
  PE.imp (P (a_cons ha a_nil hs) (k_cons hk k_nil)) fun σ H Q ⟨st, h, g, S, sl, q⟩ => by
    have q : RP c (Rv c) g h H ((cCons fe cNil st h).bind fun ds h1 => (cCons fk cNil st h1).bind fun ks h2 => match ks, ds with
      | [k], [d] => fSumS d k h2
      | _, _ => .no) Q (fun cls dd H' => W cls dd σ H') := by
      unfold cSumS at q
      unfold cCons cNil
      cases e1 : fe st h with
      | ok d h1 =>
        rw [e1] at q
        simp only [Res.bind_ok] at q ⊢
        cases e2 : fk st h1 with
        | ok k h2 =>
          rw [e2] at q
          simp only [Res.bind_ok] at q ⊢
          exact q
        | exc ee h2 => rw [e2] at q; exact q
        | no => rw [e2] at q; exact q
      | exc ee h1 => rw [e1] at q; exact q
      | no => rw [e1] at q; exact q
    refine ⟨st, h, g, S, sl, RP.mono (RP.bind q) fun vs H1 ⟨ds, h1, g1, o1, S1, r1, q1⟩ => ?_⟩
    refine ⟨st, h1, g1, S1, sl.go o1, RP.mono (RP.bind q1) fun ws H2 ⟨ks, h2, g2, o2, S2, r2, q2⟩ => ?_⟩
    split at q2
    · rename_i k d
      unfold fSumS at q2
      split at q2
      · cases r2 with
        | cons rk rr =>
          cases rr
          cases rk
          cases r1 with
          | cons rd rr =>
            cases rr
            split at q2
            · rename_i l el
              split at q2
              · rename_i ns en
                obtain ⟨a, vs, rfl, hq, rs⟩ := asR_ok S2 (rd.mono o2.gx o2.len) el
                have ev := intsOf_ok rs en
                subst ev
                exact ⟨a, ns, rfl, rfl, hq, RP.ok_here q2 S2 (.int _)⟩
              · exact q2.elim
            · exact q2.elim
      · exact q2.elim
    · exact q2.elim
end
end Gm

/-! Gm9: int of a text of noughts and ones; dicts. -/
namespace Gm
open PySem PySem.Spec PyProof.Rows L2

/-! ### int(t, 2) -/
namespace I2
open PySem.NumText PySem.Calls
abbrev Bt (a : Nat) : Prop := a = 48 ∨ a = 49
def num2 (l : List Nat) : Nat := l.foldl (fun n a => n * 2 + (a - 48)) 0
theorem dig {a : Nat} (h : Bt a) : digit? a = some (a - 48) := by rcases h with rfl | rfl <;> rfl
theorem stp {ds : Array Nat} {b : Bool} {a : Nat} (h : Bt a) : PySem.NumText.step 2 (ds, b) a = some (ds.push (a - 48), true) := by rcases h with rfl | rfl <;> rfl
theorem fld : ∀ (l : List Nat) (ds : Array Nat) (b : Bool), (∀ a ∈ l, Bt a) → l.foldlM (PySem.NumText.step 2) (ds, b) = some (ds ++ (l.map (· - 48)).toArray, b || !l.isEmpty)
  | [], ds, b, _ => by simp
  | a :: l, ds, b, h => by
    rw [List.foldlM_cons, stp (h a (by simp))]
    have e := fld l (ds.push (a - 48)) true fun x hx => h x (by simp [hx])
    simp only [Option.bind_eq_bind, Option.bind_some, e]
    simp
theorem digs {l : List Nat} (h : ∀ a ∈ l, Bt a) (hne : l ≠ []) : digits? 2 l = some (l.map (· - 48)).toArray := by
  unfold digits?
  have e := fld l #[] false h
  rw [e]
  cases l with
  | nil => exact absurd rfl hne
  | cons a l => simp
theorem val (l : List Nat) : (l.map (· - 48)).toArray.foldl (fun acc d => acc * 2 + d) 0 = num2 l := by
  rw [List.foldl_toArray', List.foldl_map]
  · rfl
  · simp
theorem drp {l : List Nat} (h : ∀ a ∈ l, Bt a) : l.dropWhile blank = l := by
  cases l with
  | nil => rfl
  | cons a l => rcases h a (by simp) with rfl | rfl <;> rfl
theorem sgn {l : List Nat} (h : ∀ a ∈ l, Bt a) : sign l = (false, l) := by
  cases l with
  | nil => rfl
  | cons a l => rcases h a (by simp) with rfl | rfl <;> rfl
theorem bsd {l : List Nat} (h : ∀ a ∈ l, Bt a) : based 2 l = (2, false, l) := by
  match l, h with
  | [], _ => rfl
  | [a], h => rcases h a (by simp) with rfl | rfl <;> rfl
  | a :: b :: r, h => rcases h a (by simp) with rfl | rfl <;> rcases h b (by simp) with rfl | rfl <;> rfl
theorem read {l : List Nat} (lim : Nat) (h : ∀ a ∈ l, Bt a) (hne : l ≠ []) : (int_private% "readNumeral") lim 2 l = (int_private% "Numeral.value") ((num2 l : Nat) : Int) := by
  have hr : ∀ a ∈ l.reverse, Bt a := fun a m => h a (List.mem_reverse.mp m)
  rw [readNumeral_eq, drp h, sgn h]
  dsimp only
  rw [bsd h]
  dsimp only
  rw [drp hr, List.reverse_reverse, digs h hne]
  unfold judge
  simp only [val]
  rfl
theorem seen {x : Str} (h : ∀ a ∈ x.cps.toList, Bt a) : numTextOf x = x.cps.toList ∧ numSeenOf x = x.cps.toList := by
  have e1 : numTextOf x = x.cps.toList := by
    refine if_pos ?_
    rw [← Array.all_toList, List.all_eq_true]
    intro a m
    rcases h a m with rfl | rfl <;> rfl
  refine ⟨e1, ?_⟩
  show (numTextOf x).takeWhile _ = _
  rw [e1]
  refine takeWhile_all fun a m => ?_
  rcases h a m with rfl | rfl <;> rfl
/-- no limit of digits is set -/
def noDig (K : PySem.W.Frag) : Bool := PySem.W.nsIn K cStatics "sys.int_max_str_digits" == some none
theorem lim {M : Model} {A : Around} {E : Value → Shared → Prop} {s : Shared} {Q : Nat → Shared → Prop} {K : PySem.W.Frag} (x : K.In s.heap) (e : noDig K = true) (q : Q 4300 s) : wpAny M A Builtin.intMaxStrDigits Q E s := by
  unfold Builtin.intMaxStrDigits
  exact wpAny_bind ((PySem.W.looks_nsIn (M := M) x (eq_of_beq e)).here (wpAny_pure q))
theorem txt {M : Model} {A : Around} {E : Value → Shared → Prop} {s : Shared} {Q : Value → Shared → Prop} {K : PySem.W.Frag} {v : Value} {t : List Nat} {n : Int} (x : K.In s.heap) (e : noDig K = true)
    (hr : ∀ k, (int_private% "readNumeral") k 2 (t.takeWhile (· != 0)) = (int_private% "Numeral.value") n) (ha : ((t.takeWhile (· != 0)).length == t.length) = true) (q : Q (.int n s.toks) { s with toks := s.toks + 1 }) :
    wpAny M A ((int_private% "intFromText") v t 2) Q E s := by
  by_cases hs : (t.takeWhile (· != 0)).length ≤ 640
  · exact Hx.wp_textB hs (hr 0) ha q
  · obtain ⟨hp, g, d, tk, os⟩ := s
    repeat (any_goals (first
      | assumption
      | (with_reducible refine lim (K := K) x e ?_)
      | (with_reducible refine wpAny_ite_false (decide_eq_false hs) ?_)
      | (with_reducible refine wpAny_ite_true (decide_eq_true ha) ?_)
      | wp_step))
    all_goals (try rw [hr])
    all_goals (try dsimp only)
    repeat (any_goals (first
      | assumption
      | (with_reducible refine wpAny_ite_true (decide_eq_true ha) ?_)
      | wp_step))
theorem made {K : PySem.W.Frag} (e : noDig K = true) {x : Str} {u t : Tok} (h : ∀ a ∈ x.cps.toList, Bt a) (hne : x.cps.toList ≠ []) :
    Meets (Builtin.«int.__new__» ⟨[.type "int", .str x u, .int 2 t], []⟩) (fun _ R s => K.In s.heap ∧ R (.ok (.ret (.int ((num2 x.cps.toList : Nat) : Int) s.toks))) { s with toks := s.toks + 1 }) :=
  .of_wp fun _ _ A R s hq => by
    obtain ⟨hK, hQ⟩ := hq
    have f1 := F.conv_sub_int
    have f2 := F.madeHere_int
    have f6 : typeOf (.str x u) = pure (.type "str") := rfl
    obtain ⟨e1, e2⟩ := seen h
    have hr : ∀ k, (int_private% "readNumeral") k 2 (numSeenOf x) = (int_private% "Numeral.value") ((num2 x.cps.toList : Nat) : Int) := fun k => by
      rw [e2]
      exact read k h hne
    have ha : ((numSeenOf x).length == (numTextOf x).length) = true := by rw [e1, e2]; simp
    obtain ⟨hp, g, d, tk, os⟩ := s
    have hk := Hx.Hid.mk (And.intro hK (And.intro hr ha))
    clear hr ha e1 e2 hne h hK
    repeat (any_goals (first
      | assumption
      | ((with_reducible show wpAny _ _ ((int_private% "intFromText") _ _ _) _ _ _); refine txt (K := K) hk.out.1 e hk.out.2.1 hk.out.2.2 ?_)
      | wp_step))
    all_goals first | exact ⟨_, rfl, hQ⟩ | skip
end I2
def rInt2 (K : PySem.W.Frag) : List V → Hp → VK → Prop := fun xs H Q => ∃ x : Str, xs = [.str x, .int 2] ∧ x.cps.toList ≠ [] ∧ (∀ a ∈ x.cps.toList, I2.Bt a) ∧ Q (.int ((I2.num2 x.cps.toList : Nat) : Int)) H
theorem call_int2 {X : Cx} (e : I2.noDig X.K = true) : CallR X (.type "int") (rInt2 X.K) := by
  intro pins s σ H xs us Q I r h
  obtain ⟨x, rfl, hne, hx, q⟩ := h
  obtain ⟨u, w', rfl, r1, r2⟩ := vals2 r
  obtain ⟨t1, rfl⟩ := r1
  obtain ⟨t2, rfl⟩ := r2
  exact callType_new F.called_int F.newNe_int (Hx.typeCall_int_2 _ _) (Hx.newCall_int_2 _ _) (fun obj => F.initArgs_range_2 obj _ _) F.entry_int_new (I2.made e hx hne) ⟨I.kIn, rfl, .int ((I2.num2 x.cps.toList : Nat) : Int), H, I.tok _, ⟨_, rfl⟩, q⟩
def isBt (x : Str) : Bool := !x.cps.toList.isEmpty && x.cps.toList.all fun a => a == 48 || a == 49
theorem isBt_ok {x : Str} (h : isBt x = true) : x.cps.toList ≠ [] ∧ ∀ a ∈ x.cps.toList, I2.Bt a := by
  unfold isBt at h
  simp only [Bool.and_eq_true, Bool.not_eq_true', List.all_eq_true, Bool.or_eq_true, beq_iff_eq] at h
  exact ⟨fun e => by rw [e] at h; simp at h, h.2⟩
def fInt2 : CallT := fun ds h => match ds with
  | [.str x, .int 2] => if isBt x = true then .ok (.int ((I2.num2 x.cps.toList : Nat) : Int)) h else .no
  | _ => .no
theorem fInt2_ok {c : Cf} : CROk c (rInt2 c.K) fInt2 := by
  intro g h H ds vs Q E S rs q
  unfold fInt2 at q
  split at q
  · rename_i x
    cases rs with
    | cons r rr =>
      cases rr with
      | cons r2 rr =>
        cases rr
        cases r
        cases r2
        by_cases hx : isBt x = true
        · rw [if_pos hx] at q
          obtain ⟨h1, h2⟩ := isBt_ok hx
          exact ⟨x, rfl, h1, h2, RP.ok_here q S (.int _)⟩
        · rw [if_neg hx] at q
          exact q.elim
  · exact q.elim

/-! ### dicts -/
def keyD : D → Option Key
  | .int i => some (.inl i)
  | .str x => some (.inr x)
  | _ => none
theorem keyD_ok {c : Cf} {g : Gh} {L : Nat} {d : D} {v : V} {k : Key} (r : RV c g L d v) (e : keyD d = some k) : v = kV k := by
  cases r <;> cases e <;> rfl
def getKD (l : List (Key × D)) (k : Key) : Option D := (l.find? fun p => decide (p.1 = k)).map (·.2)
def putKD (l : List (Key × D)) (k : Key) (d : D) : List (Key × D) := if (l.any fun p => decide (p.1 = k)) = true then l.map (fun p => if p.1 = k then (p.1, d) else p) else l ++ [(k, d)]
section
variable {c : Cf} {g : Gh} {L : Nat}
theorem RKs.get {k : Key} : ∀ {l : List (Key × D)} {kvs : List (Key × V)}, RKs c g L l kvs → (getKD l k = none ∧ valV kvs k = none) ∨ ∃ d v, getKD l k = some d ∧ valV kvs k = some v ∧ RV c g L d v
  | _, _, .nil => .inl ⟨rfl, rfl⟩
  | _, _, .cons (k := j) (d := d) (v := v) h r => by
    by_cases e : j = k
    · exact .inr ⟨d, v, by simp [getKD, e], by simp [valV, e], h⟩
    · have e1 : ∀ l, getKD ((j, d) :: l) k = getKD l k := fun l => by simp [getKD, e]
      have e2 : ∀ l, valV ((j, v) :: l) k = valV l k := fun l => by simp [valV, e]
      rw [e1, e2]
      exact RKs.get r
theorem RKs.len : ∀ {l : List (Key × D)} {kvs : List (Key × V)}, RKs c g L l kvs → l.length = kvs.length
  | _, _, .nil => rfl
  | _, _, .cons _ r => by simp only [List.length_cons, RKs.len r]
theorem RKs.any {k : Key} : ∀ {l : List (Key × D)} {kvs : List (Key × V)}, RKs c g L l kvs → (l.any fun p => decide (p.1 = k)) = kvs.any fun p => decide (p.1 = k)
  | _, _, .nil => rfl
  | _, _, .cons _ r => by simp only [List.any_cons, RKs.any r]
theorem RKs.app {l : List (Key × D)} {kvs : List (Key × V)} {l' : List (Key × D)} {kvs' : List (Key × V)} : RKs c g L l kvs → RKs c g L l' kvs' → RKs c g L (l ++ l') (kvs ++ kvs')
  | .nil, s => s
  | .cons h r, s => .cons h (RKs.app r s)
theorem RKs.mapK {k : Key} {d : D} {v : V} (q : RV c g L d v) : ∀ {l : List (Key × D)} {kvs : List (Key × V)}, RKs c g L l kvs → RKs c g L (l.map fun p => if p.1 = k then (p.1, d) else p) (kvs.map fun p => if p.1 = k then (p.1, v) else p)
  | _, _, .nil => .nil
  | _, _, .cons (k := j) h r => by
    rw [List.map_cons, List.map_cons]
    by_cases e : j = k
    · rw [if_pos e, if_pos e]
      exact .cons q (RKs.mapK q r)
    · rw [if_neg e, if_neg e]
      exact .cons h (RKs.mapK q r)
theorem RKs.put {k : Key} {d : D} {v : V} {l : List (Key × D)} {kvs : List (Key × V)} (r : RKs c g L l kvs) (q : RV c g L d v) : RKs c g L (putKD l k d) (putK kvs k v) := by
  unfold putKD putK
  rw [r.any]
  split
  · exact r.mapK q
  · exact r.app (.cons q .nil)
end
def asK (h : Store) : D → Option (List (Key × D))
  | .dct l => some l
  | .ref n => match h[n]? with
    | some (some (.dct l)) => some l
    | _ => none
  | _ => none
section
variable {c : Cf} {g : Gh} {h : Store} {H : Hp} {d : D} {v : V} {l : List (Key × D)}
theorem asK_ok (S : SR c g h H) (r : RV c g h.length d v) (e : asK h d = some l) : ∃ a kvs, v = .ref a ∧ H a = some (.dK kvs) ∧ RKs c g h.length l kvs := by
  cases r with
  | dct h1 r => cases e; exact ⟨_, _, rfl, S.sub _ _ h1, r⟩
  | @ref n hn =>
    unfold asK at e
    dsimp only at e
    split at e
    · rename_i l' e1
      cases e
      obtain ⟨vs, e2, r2⟩ := S.cell n _ e1
      exact ⟨_, vs, rfl, e2, r2⟩
    · cases e
  | _ => cases e
end
/-- d[k], k in d -/
def oDget (x y : D) (h : Store) : Res D := match asK h x, keyD y with
  | some l, some k => match getKD l k with
    | some d => .ok d h
    | none => .no
  | _, _ => .no
def oDin (y x : D) (h : Store) : Res D := match asK h x, keyD y with
  | some l, some k => .ok (.bl (getKD l k).isSome) h
  | _, _ => .no
def oDnotin (y x : D) (h : Store) : Res D := match asK h x, keyD y with
  | some l, some k => .ok (.bl (!(getKD l k).isSome)) h
  | _, _ => .no
section
variable {c : Cf} {W : WX} {X : Cx} {o i : Expr} {fo fi : Ev D} {pos : Pos}
/-- two values, one after the other -/
theorem ev2a {fo : D → D → Store → Res D} {fa fb : Ev D} {σ : L2.St} {H : Hp} {Q : VK} (x : tEv c W (cBin fo fa fb) σ H Q) : tEv c W fa σ H fun v H1 => tEv c W fb σ H1 fun w H2 => ∃ g h d e, SR c g h H2 ∧ RV c g h.length d v ∧ RV c g h.length e w ∧ RP c (Rv c) g h H2 (fo d e h) Q (fun cls dd H' => W cls dd σ H') := by
  obtain ⟨st, h, g, S, sl, q⟩ := x
  have q : RP c (Rv c) g h H ((fa st h).bind fun a h1 => (fb st h1).bind fun b h2 => fo a b h2) Q (fun cls dd H' => W cls dd σ H') := q
  refine ⟨st, h, g, S, sl, ?_⟩
  cases e1 : fa st h with
  | no => rw [e1] at q; exact q.elim
  | exc ee h1 => rw [e1] at q; exact q
  | ok a h1 =>
    rw [e1, Res.bind_ok] at q
    intro g1 H1 v1 o1 S1 r1
    refine ⟨st, h1, g1, S1, sl.go o1, ?_⟩
    cases e2 : fb st h1 with
    | no => rw [e2] at q; exact q.elim
    | exc ee h2 => rw [e2] at q; exact fun g' H' cls dd o S' rx => q g' H' cls dd (o1.trans o) S' rx
    | ok b h2 =>
      rw [e2, Res.bind_ok] at q
      intro g2 H2 v2 o2 S2 r2
      exact ⟨g2, h2, a, b, S2, r1.mono o2.gx o2.len, r2, RP.go q (o1.trans o2)⟩
theorem tEv.mono {f : Ev D} {σ : L2.St} {H : Hp} {Q Q' : VK} (x : tEv c W f σ H Q) (k : ∀ v H', Q v H' → Q' v H') : tEv c W f σ H Q' := by
  obtain ⟨st, h, g, S, sl, q⟩ := x
  exact ⟨st, h, g, S, sl, RP.mono q k⟩
theorem e_dget (hu : X.A.units + 1 < cLine) (ho : PE X o (tEv c W fo)) (hi : PE X i (tEv c W fi)) (hs : NoSl i) : PE X (.Subscript o i pos) (tEv c W (cBin oDget fo fi)) := PE.imp (pe_dget hu ho hi hs) fun σ H Q x =>
  (ev2a x).mono fun v H1 y => y.mono fun w H2 ⟨g, h, d, e, S, r1, r2, q⟩ => by
    unfold oDget at q
    split at q
    · rename_i l k el ek
      obtain ⟨a, kvs, rfl, hD, rs⟩ := asK_ok S r1 el
      have ew := keyD_ok r2 ek
      subst ew
      rcases rs.get (k := k) with ⟨z, _⟩ | ⟨d', v', z1, z2, rd⟩
      · rw [z] at q; exact q.elim
      · rw [z1] at q
        exact ⟨a, v', rfl, by rw [← z2]; exact .k hD, RP.ok_here q S rd⟩
    · exact q.elim
theorem c_din (hu : X.A.units + 1 < cLine) (hi : PE X i (tEv c W fi)) (ho : PE X o (tEv c W fo)) : PC X .In i o (tEv c W (cBin oDin fi fo)) := ⟨fun pins s σ H Q I x => (pc_din hu hi ho).run pins s σ H Q I ((ev2a x).mono fun v H1 y => y.mono fun w H2 ⟨g, h, d, e, S, r1, r2, q⟩ => by
    unfold oDin at q
    split at q
    · rename_i l k el ek
      obtain ⟨a, kvs, rfl, hD, rs⟩ := asK_ok S r2 el
      have ew := keyD_ok r1 ek
      subst ew
      refine ⟨a, _, rfl, .k hD, ?_⟩
      rcases rs.get (k := k) with ⟨z1, z2⟩ | ⟨d', v', z1, z2, rd⟩ <;> rw [z1] at q <;> rw [z2] <;> exact RP.ok_here q S (.bl _)
    · exact q.elim)⟩
theorem c_dnotin (hu : X.A.units + 1 < cLine) (hi : PE X i (tEv c W fi)) (ho : PE X o (tEv c W fo)) : PC X .NotIn i o (tEv c W (cBin oDnotin fi fo)) := ⟨fun pins s σ H Q I x => (pc_dnotin hu hi ho).run pins s σ H Q I ((ev2a x).mono fun v H1 y => y.mono fun w H2 ⟨g, h, d, e, S, r1, r2, q⟩ => by
    unfold oDnotin at q
    split at q
    · rename_i l k el ek
      obtain ⟨a, kvs, rfl, hD, rs⟩ := asK_ok S r2 el
      have ew := keyD_ok r1 ek
      subst ew
      refine ⟨a, _, rfl, .k hD, ?_⟩
      rcases rs.get (k := k) with ⟨z1, z2⟩ | ⟨d', v', z1, z2, rd⟩ <;> rw [z1] at q <;> rw [z2] <;> exact RP.ok_here q S (.bl _)
    · exact q.elim)⟩
theorem e_din (hu : X.A.units + 1 < cLine) (hi : PE X i (tEv c W fi)) (ho : PE X o (tEv c W fo)) (hm : behindInMarks .In o = false := by rfl) : PE X (.Compare i [.In] [o] pos) (tEv c W (cBin oDin fi fo)) := pe_cmp (c_din hu hi ho) hm
theorem e_dnotin (hu : X.A.units + 1 < cLine) (hi : PE X i (tEv c W fi)) (ho : PE X o (tEv c W fo)) (hm : behindInMarks .NotIn o = false := by rfl) : PE X (.Compare i [.NotIn] [o] pos) (tEv c W (cBin oDnotin fi fo)) := pe_cmp (c_dnotin hu hi ho) hm
theorem t_din (hu : X.A.units + 1 < cLine) (hi : PE X i (tEv c W fi)) (ho : PE X o (tEv c W fo)) (hm : behindInMarks .In o = false := by rfl) : PT X (.Compare i [.In] [o] pos) (tTe c W (cTv (cBin oDin fi fo))) := PT.imp (pt_cmp (c_din hu hi ho) hm) fun _ _ _ => tv
theorem t_dnotin (hu : X.A.units + 1 < cLine) (hi : PE X i (tEv c W fi)) (ho : PE X o (tEv c W fo)) (hm : behindInMarks .NotIn o = false := by rfl) : PT X (.Compare i [.NotIn] [o] pos) (tTe c W (cTv (cBin oDnotin fi fo))) := PT.imp (pt_cmp (c_dnotin hu hi ho) hm) fun _ _ _ => tv
end
end Gm

/-! Gm10: dict comprehensions. -/
namespace Gm
open PySem PySem.Spec PyProof.Rows L2
section
variable {c : Cf} {g g1 : Gh} {h h1 : Store} {H H1 : Hp}
theorem SR.sideM {a : Addr} {o o' : HO} (S : SR c g h H) (ha : H a = some o) (mu : Mut (some o)) (nx : ∀ φ, o ≠ .ext φ) (ta : g.tr a = none) (nl : ∀ n, Live h n → g.io n ≠ a) : SR c g h (upd H a o') where
  sub := fun b u e => by
    have hb : b ≠ a := fun z => by rw [z, ta] at e; cases e
    rw [upd_ne hb]
    exact S.sub b u e
  apart := S.apart
  cell := fun n ce e => (S.cell n ce e).mono (Gx.refl _ _) (Nat.le_refl _) (upd_ne (nl n ⟨ce, e⟩))
  inj := S.inj
  tabs := tabs_write S.tabs ha mu nx
/-- a thing made aside joins what stays -/
theorem SR.join {a : Addr} {o : HO} (S : SR c g h H) (x : Go g1 h1 H1 g h H) (nD : H1 a = none) (hD : H a = some o) (tD : g.tr a = none) (nl : ∀ n, Live h n → g.io n ≠ a) :
    SR c { g with tr := upd g.tr a o } h H ∧ Go g1 h1 H1 { g with tr := upd g.tr a o } h H ∧ Gx g h.length { g with tr := upd g.tr a o } := by
  have k : ∀ b u, g.tr b = some u → upd g.tr a o b = some u := fun b u e => by
    have hb : b ≠ a := fun z => by rw [z, tD] at e; cases e
    rw [upd_ne hb]
    exact e
  have gx : Gx g h.length { g with tr := upd g.tr a o } := ⟨fun _ _ => rfl, fun b u e => k b u e⟩
  refine ⟨⟨fun b u e => ?_, fun n ln => ?_, fun n ce e => (S.cell n ce e).mono gx (Nat.le_refl _) rfl, S.inj, S.tabs⟩, ⟨x.len, x.io, fun b u e => k b u (x.tr b u e), x.dm, x.fr, fun b u e nt t nl2 => ?_, x.old, x.new⟩, gx⟩
  · have e : upd g.tr a o b = some u := e
    by_cases z : b = a
    · rw [z, upd_same] at e
      rw [z, hD, e]
    · rw [upd_ne z] at e
      exact S.sub b u e
  · show upd g.tr a o (g.io n) = none
    rw [upd_ne (nl n ln)]
    exact S.apart n ln
  · show upd g.tr a o b = none
    rw [upd_ne (ne_of_none e nD)]
    exact x.tn b u e nt t nl2
end
def dcL (fg : D → Slots → Option Slots) (ft : Ev Bool) (fk fv : Ev D) (st0 : Slots) : List D → List (Key × D) → Store → Res (List (Key × D))
  | [], acc, h => .ok acc h
  | d :: l, acc, h => match fg d st0 with
    | none => .no
    | some st1 => (ft st1 h).sure.bind fun b h1 => if b = true then (fk st1 h1).sure.bind fun y h2 => (fv st1 h2).sure.bind fun z h3 => match keyD y with
      | some k => dcL fg ft fk fv st0 l (putKD acc k z) h3
      | none => .no else dcL fg ft fk fv st0 l acc h1
def cDc (fi : Ev (List D)) (fg : D → Slots → Option Slots) (ft : Ev Bool) (fk fv : Ev D) (own : List Nat) : Ev D := fun st h =>
  (fi st h).bind fun l h1 => if l.length ≤ sizeLine then (dcL fg ft fk fv (wipeD st own) l [] h1).bind fun ys h2 => .ok (.dct ys) h2 else .no
def dcRest (fg : D → Slots → Option Slots) (ft : Ev Bool) (fk fv : Ev D) (st0 : Slots) (l : List D) (acc : List (Key × D)) (h : Store) : Res D := (dcL fg ft fk fv st0 l acc h).bind fun ys h2 => .ok (.dct ys) h2
theorem putKD_len (l : List (Key × D)) (k : Key) (d : D) : (putKD l k d).length ≤ l.length + 1 := by
  unfold putKD
  split <;> simp
section
variable {c : Cf} {W : WX} {X : Cx} {pos : Pos}
theorem dc_ok {gt : TG} {fi : Ev (List D)} {fg : D → Slots → Option Slots} {ft : Ev Bool} {fk fv : Ev D} {vs : List Nat} (tgn : TgN c vs gt fg) {σ : L2.St} {H : Hp} {Q : VK}
    (x : tEv c W (cDc fi fg ft fk fv vs) σ H Q) : tDc (tIt c W fi) gt (tTe c W0 ft) (tEv c W0 fk) (tEv c W0 fv) vs σ H Q := by
  obtain ⟨st, h, g, S, sl, q⟩ := x
  refine ⟨st, h, g, S, sl, RP.mono (RP.bind q) fun J H1 ⟨l, h1, g1, o1, S1, k1, q1⟩ => ?_⟩
  by_cases hl : l.length ≤ sizeLine
  case neg => rw [if_neg hl] at q1; exact q1.elim
  rw [if_pos hl] at q1
  intro D0 nD
  have sl1 := (sl.go o1).wipe vs
  obtain ⟨S1', t1, nl1⟩ := S1.side0 (o := .dK []) nD
  have dt : ∀ ys : List (Key × V), ∀ ps, (HO.dK ys) ≠ .tbl ps := fun ys ps z => by cases z
  let St : Nat → Hp → Prop := fun i H => i ≤ l.length ∧ ∃ acc ws h g, SR c g h H ∧ Go g1 h1 H1 g h H ∧ H D0 = some (.dK ws) ∧ g.tr D0 = none ∧ (∀ n, Live h n → g.io n ≠ D0) ∧ RKs c g h.length acc ws ∧ acc.length ≤ i ∧
    RP c (Rv c) g1 h1 H1 (dcRest fg ft fk fv (wipeD st vs) (l.drop i) acc h) Q (fun cls dd H' => W cls dd σ H')
  refine ⟨fun i m' H => m' = l.length - i ∧ St i H, ⟨_, rfl, Nat.zero_le _, [], [], h1, g1, S1', (Go.refl _ _ _).side nD, upd_same, t1, nl1, .nil, Nat.le_refl _, q1⟩, ?_⟩
  rintro i m' H ⟨rfl, hi, acc, ws, h, g, S, o, hD, tD, nlD, rs, ha, q⟩
  obtain ⟨ks, kg⟩ := k1 g h H i S o.gx o.len
  by_cases hlt : i < l.length
  · obtain ⟨go, yl⟩ := kg l[i] (List.getElem?_eq_getElem hlt)
    refine .inr ⟨go, St (i + 1), fun H' x => ⟨l.length - (i + 1), by omega, rfl, x⟩, fun x H' y => ?_⟩
    obtain ⟨g2, o2, S2, r2⟩ := yl x H' y
    rw [List.drop_eq_getElem_cons hlt] at q
    unfold dcRest dcL at q
    cases e1 : fg l[i] (wipeD st vs) with
    | none => rw [e1] at q; exact q.elim
    | some st1 =>
      rw [e1] at q
      dsimp only at q
      have o12 := o.trans o2
      refine tgn.ok S2 (((sl.go o1).go o12).wipe vs) r2 e1 wipe_wipe fun σ2 sl2 ew => ⟨ew, st1, h, g2, S2, sl2, ?_⟩
      have hD2 := o2.fr _ _ hD (dt _) nlD
      have tD2 := o2.tn _ _ hD (dt _) tD nlD
      have nlD2 := o2.apart hD nlD
      have rs2 := rs.mono o2.gx o2.len
      cases e2 : ft st1 h with
      | no => rw [e2] at q; exact q.elim
      | exc ee h3 => rw [e2] at q; exact q.elim
      | ok b h3 =>
        rw [e2, Res.sure_ok, Res.bind_ok] at q
        intro g3 H3 b' o3 S3 eb
        have eb : b = b' := eb
        subst eb
        have hD3 := o3.fr _ _ hD2 (dt _) nlD2
        have tD3 := o3.tn _ _ hD2 (dt _) tD2 nlD2
        have nlD3 := o3.apart hD2 nlD2
        have rs3 := rs2.mono o3.gx o3.len
        cases b with
        | false => exact ⟨hlt, acc, ws, h3, g3, S3, o12.trans o3, hD3, tD3, nlD3, rs3, Nat.le_succ_of_le ha, q⟩
        | true =>
          rw [if_pos rfl]
          refine ⟨st1, h3, g3, S3, sl2.go o3, ?_⟩
          cases e3 : fk st1 h3 with
          | no => rw [if_pos rfl, e3] at q; exact q.elim
          | exc ee h4 => rw [if_pos rfl, e3] at q; exact q.elim
          | ok yv h4 =>
            rw [if_pos rfl, e3, Res.sure_ok, Res.bind_ok] at q
            intro g4 H4 v4 o4 S4 r4
            have hD4 := o4.fr _ _ hD3 (dt _) nlD3
            have tD4 := o4.tn _ _ hD3 (dt _) tD3 nlD3
            have nlD4 := o4.apart hD3 nlD3
            have rs4 := rs3.mono o4.gx o4.len
            refine ⟨st1, h4, g4, S4, (sl2.go o3).go o4, ?_⟩
            cases e4 : fv st1 h4 with
            | no => rw [e4] at q; exact q.elim
            | exc ee h5 => rw [e4] at q; exact q.elim
            | ok zv h5 =>
              rw [e4, Res.sure_ok, Res.bind_ok] at q
              intro g5 H5 v5 o5 S5 r5
              have hD5 := o5.fr _ _ hD4 (dt _) nlD4
              have tD5 := o5.tn _ _ hD4 (dt _) tD4 nlD4
              have nlD5 := o5.apart hD4 nlD4
              have rs5 := rs4.mono o5.gx o5.len
              cases ek : keyD yv with
              | none => rw [ek] at q; exact q.elim
              | some k =>
                rw [ek] at q
                have hlen := rs.len
                refine ⟨ws, k, keyD_ok r4 ek, hD5, by omega, hlt, putKD acc k zv, putK ws k v5, h5, g5, S5.sideM hD5 trivial (fun φ z => by cases z) tD5 nlD5, (((o12.trans o3).trans o4).trans o5).side nD, upd_same, tD5, nlD5, rs5.put r5, ?_, q⟩
                exact Nat.le_trans (putKD_len _ _ _) (Nat.succ_le_succ ha)
  · have e : i = l.length := by omega
    subst e
    rw [List.drop_length] at q
    unfold dcRest dcL at q
    rw [Res.bind_ok] at q
    refine .inl ⟨ks (Nat.le_refl _), ?_⟩
    have q : RP c (Rv c) g1 h1 H1 (.ok (.dct acc) h) Q _ := q
    obtain ⟨S9, o9, gx9⟩ := S.join o nD hD tD nlD
    exact q _ H (.ref D0) o9 S9 (.dct upd_same (rs.mono gx9 (Nat.le_refl _)))
theorem swd_true {kx vx : Expr} {gs : List Comprehension} {scope : Scope} {pos py : Pos} {y : Str} {l : Nat} {env : Env} (hk : env.scope.kind = .function) (hy : env.scope.names.lookup y = some .local) (hl : (py.line == pos.line) = true)
    (ha : (scope.names.any fun (n, k) => n == y && (k == .local || k == .cell)) = false) : swapsWith (.DictComp kx vx gs scope pos) (some (.Name y py)) l env = pure true := by
  have ky : env.kindOf y = some .local := hy
  have hb : env.blockKind = .function := by unfold Env.blockKind; rw [hk] <;> rfl
  simp only [swapsWith, hb, ky, ha, Expr.pos, hl]
  rfl
theorem s_setDc {i : Nat} {y : Str} {py spos : Pos} {tg kx vx iter : Expr} {ifs : List Expr} {scope : Scope} {own : List (Str × Nat)} {gt : TG} {fi : Ev (List D)} {fg : D → Slots → Option Slots} {ft : Ev Bool} {fk fv : Ev D} (hc : X.calm = true) (hN : X.N.Nodup) (hy : X.N[i]? = some y) (hyl : X.env.scope.names.lookup y = some .local)
    (hsw : swapsWith (.DictComp kx vx [⟨tg, iter, ifs, 0⟩] scope pos) (some (.Name y py)) spos.line X.env = pure true) (hi : PI X tg iter (tIt c W fi)) (ok : BlkOk X.N X.env.scope scope own)
    (hg : ∀ (s : Shared) (H : Hp) (C : Addr) (cl : List (Str × Addr)) (fp : List Addr), PG (X.blk s H scope (compEnvC scope cl C X.env) fp) tg gt) (tgn : TgN c (own.map (·.2)) gt fg)
    (ht : ∀ (s : Shared) (H : Hp) (C : Addr) (cl : List (Str × Addr)) (fp : List Addr), PTs (X.blk s H scope (compEnvC scope cl C X.env) fp) ifs (tTe c W0 ft))
    (hk : ∀ (s : Shared) (H : Hp) (C : Addr) (cl : List (Str × Addr)) (fp : List Addr), PE (X.blk s H scope (compEnvC scope cl C X.env) fp) kx (tEv c W0 fk))
    (hv : ∀ (s : Shared) (H : Hp) (C : Addr) (cl : List (Str × Addr)) (fp : List Addr), PE (X.blk s H scope (compEnvC scope cl C X.env) fp) vx (tEv c W0 fv)) (hs : ∀ x, foldedSetIterable iter X.env x = pure x := by intro _; rfl) :
    PS X (.Assign [.Name y py] (.DictComp kx vx [⟨tg, iter, ifs, 0⟩] scope pos) spos) (tSt c W (sSet i (cDc fi fg ft fk fv (own.map (·.2))))) := ⟨fun pins s σ H D I ⟨st, h, g, S, sl, q⟩ => by
  have z : tDc (tIt c W fi) gt (tTe c W0 ft) (tEv c W0 fk) (tEv c W0 fv) (own.map (·.2)) σ H fun x H1 => gName i x σ H1 D.nx :=
    dc_ok tgn ⟨st, h, g, S, sl, RP.mono (OP.out sl q) fun v H1 ⟨d, h1, g1, o1, S1, r1, q1⟩ => q1 g1 H1 _ (Go.refl _ _ _) S1 ((sl.go o1).set i r1)⟩
  rw [exec_Assign_Name_used _ _ _ _ hsw]
  refine wpAny_bind (wpAny_standAt (wpAny_bind (wpAny_bind ?_)))
  refine thn (dc_core (use := some (assign (.Name y py) X.env)) (Qf := fun _ t => SP X pins D .next t) hc hN I hi ok hg ht hk hv hs z ?_) fun _ t ht' => wpAny_pure (wpAny_pure ht')
  rintro B C t m H' I' q' hn ⟨f0, f1, f2, f3, f4, f5⟩
  refine wpAny_assign_Name (env := X.env) (store_ok2 (v := V.ref B) I' hN hy (.inl hyl) rfl ?_ (.inr hyl))
  rintro t2 I2 ⟨a, sb, ha⟩
  have ne : C ≠ a := by
    rcases ha with rfl | w
    · exact f1
    · intro e
      exact f4 y a w e.symm
  exact ⟨m, hn.sameBut sb ne, fun h3 sb3 => ⟨_, H', I2.turned (t' := t2.toks) (fun b o hb e => (sb3.2 b hb).trans e) f0 f1 f3 f4 f5, q'⟩⟩⟩
end
end Gm

/-! Gm11: a law's end. -/
namespace Gm
open PySem PySem.Spec PyProof.Rows L2
/-- the classes by the module's names -/
abbrev cf (K : PySem.W.Frag) : Cf := ⟨K, fun n => some (He.ga K n), []⟩
/-! ### what is seen of the head: the kit's facts, and that no limit of digits is set -/
def seeM (fa : List He.Fa) (fn : List He.DefD) (K : PySem.W.Frag) : He.AlD := ((He.obsD fa fn K).1 && I2.noDig K, (He.obsD fa fn K).2)
def adM (g : Addr → Option Obj) (n : Nat) : List Addr := cStatics :: He.asD g n
def hookM (n : Nat) (fa : List He.Fa) (fn : List He.DefD) : PySem.W.Hook where
  α := He.AlD
  obs := fun s => seeM fa fn (He.frG s.heap.get? (adM s.heap.get? n))
  val := fun _ => He.valD fn
  says := fun _ h => ∃ K : PySem.W.Frag, K.In h ∧ seeM fa fn K = He.valD fn
  of := fun _ _ e => ⟨_, He.frG_in, e⟩
  keeps := fun _ _ _ ⟨K, k1, k2⟩ keep => ⟨K, k1.keeps keep, k2⟩
def obM (n : Nat) (fa : List He.Fa) (fn : List He.DefD) (s : PySem.W.SharedT) : He.AlD := seeM fa fn (He.frG (HandSHeadRun.getT s) (adM (HandSHeadRun.getT s) n))
theorem obM_eq {n : Nat} {fa : List He.Fa} {fn : List He.DefD} (s : PySem.W.SharedT) : obM n fa fn s = (hookM n fa fn).obs s.abs := by
  have e : HandSHeadRun.getT s = s.abs.heap.get? := funext (HandSHeadRun.getT_eq s)
  show seeM fa fn (He.frG (HandSHeadRun.getT s) (adM (HandSHeadRun.getT s) n)) = _
  rw [e]
  rfl
theorem seen_of {fa : List He.Fa} {fn : List He.DefD} {K : PySem.W.Frag} (e : seeM fa fn K = He.valD fn) : He.SaysD fa fn K ∧ I2.noDig K = true := by
  have e1 : ((He.obsD fa fn K).1 && I2.noDig K) = true := congrArg (fun z : He.AlD => z.1) e
  have e2 : (seeM fa fn K).2 = (He.valD fn).2 := by rw [e]
  rw [Bool.and_eq_true] at e1
  exact ⟨Prod.ext e1.1 e2, e1.2⟩

/-! ### calls of the defs -/
section
variable {P : Program} {w : World} {K : PySem.W.Frag} {mg : Str → Option Value} {base : Heap} {c : Cf} {x qual : Str} {params : Arguments} {body : List Stmt} {scope : Scope} {kws : List (Str × V)} {f : Addr} {fd : FuncData} {ps : List Str} {k : Nat} {F : FnT}
theorem callOk_of (FD : FunD K x qual params body scope [] kws f fd) (hm : mg x = some (.ref f)) (ok : FnOk P w K mg base (L2.CX P w) k f fd ps (spOf c F))
    (hb : ∀ (kV doc pm : Value) (an : Option Addr) (cdv ct : Value) (us : List Value), us.length = ps.length → bindArgs (PySem.W.fnOf x qual params body scope .none kV doc pm an cdv ct) ⟨us, []⟩ = pure (ps.zip us)) : CallOk P w K mg base c x k F [] :=
  ⟨f, fd, ps, [], [], hm, ok, FD.kp, FD.bindsN hb, .nil, fun _ _ => .nil⟩
/-- keyword-only parameters that lack -/
theorem callOk_kw (FD : FunD K x qual params body scope [] kws f fd) (hm : mg x = some (.ref f)) (ok : FnOk P w K mg base (L2.CX P w) k f fd ps (spOf c F)) (n : Nat) {defs : List D} (hk : kws ≠ []) (hn : n + kws.length = ps.length) (rd : ∀ g L, RVs c g L defs (kws.map (·.2)))
    (hb : ∀ (D : Addr) (doc pm : Value) (an : Option Addr) (cdv ct : Value) (us ks : List Value), us.length = n → ks.length = kws.length →
      KwChain D ((kws.map (·.1)).zip ks) (bindArgs (PySem.W.fnOf x qual params body scope .none (.ref D) doc pm an cdv ct) ⟨us, []⟩) (ps.zip (us ++ ks))) : CallOk P w K mg base c x k F defs := by
  obtain ⟨ds, r, b⟩ := FD.binds0 n hk hn hb
  exact ⟨f, fd, ps, ds, kws.map (·.2), hm, ok, FD.kp, b, r, rd⟩
/-- keyword-only parameters, all written -/
theorem callOk_all (FD : FunD K x qual params body scope [] kws f fd) (hm : mg x = some (.ref f)) (ok : FnOk P w K mg base (L2.CX P w) k f fd ps (spOf c F)) (n : Nat) (ks : List Str)
    (hb : ∀ (kV doc pm : Value) (an : Option Addr) (cdv ct : Value) (us ws : List Value), us.length = n → ws.length = ks.length → bindArgs (PySem.W.fnOf x qual params body scope .none kV doc pm an cdv ct) ⟨us, ks.zip ws⟩ = pure (ps.zip (us ++ ws))) :
    CallOkK P w K mg base c x k F n ks (fun ds es => ds ++ es) := by
  refine ⟨f, fd, ps, fun vs zs => vs ++ zs, fun us ws => us ++ ws, hm, ok, FD.kp, ⟨fun s us ws X l1 l2 => ?_, fun r1 r2 => r1.append r2⟩, fun g L ds vs es ws r1 r2 => r1.append r2⟩
  obtain ⟨oc, od, dV, kV, doc, pm, an, cdv, ct, osl, e, _, _, hD, _⟩ := FD.ex
  rcases hD with ⟨_, e2⟩ | ⟨z, _⟩
  · rw [e, e2]
    exact .of_eq (hb kV doc pm an cdv ct us ws l1 l2)
  · exact absurd rfl z
end

/-! ### the end -/
theorem fro_ints {c : Cf} {g : Gh} {L : Nat} : ∀ ns : List Int, RVs c g L (ns.map D.int) (ns.map V.int)
  | [] => .nil
  | n :: ns => .cons (.int n) (fro_ints ns)
theorem walk_gm {l : PySem.W.OpenLaw} {n m k : Nat} {q : Program} {loose : List Str} {XP : (Str → Option Value) → Heap → Prop} {d : DefRec} {fa : List He.Fa} {fn : List He.DefD} {Fl : FnT} (hn : l.most = some n) (hn2 : n ≤ sizeLine) (hdf : d.params.defaults = []) (hr : Room k callerA)
    (facts : ∀ (w : World) (K : PySem.W.Frag) (h : Heap) (mg : Str → Option Value) (f : Addr), K.In h → h.Ns mainGlobals mg → mg d.name = some (.ref f) → He.SaysD fa fn K → I2.noDig K = true →
      ∃ fd : FuncData, (∀ (s : Shared) (u : Value), BindsTo s fd ⟨[u], []⟩ [("script", u)]) ∧ ∀ base : Heap, FnOk l.prog w K mg base (L2.CX l.prog w) k f fd ["script"] (spOf (cf K) Fl))
    (law : ∀ ns : List Int, ns.length ≤ n → ∃ h', Fl [.fro (ns.map .int)] [] = .ok (.bl true) h') : PySem.W.WalkO q loose XP (hookM m fa fn).says l.row.toRowW d [] (fun f vs => PySem.call f vs) := by
  refine Att.attach_call hn hdf ?_
  intro w s0 s1 mg mb f o pm cd doc a vs ns G Y ho hd hcd hmg hobj hints hlen hg
  obtain ⟨K, KX, e⟩ := Y
  obtain ⟨c1, c2⟩ := seen_of e
  obtain ⟨fd, hb, hF⟩ := facts w K _ mg f KX G.T.g hmg c1 c2
  refine law_call (CX := L2.CX l.prog w) KX G.T.g G.T.b G.T.builtins G.T.nolimit hg hobj hints (Nat.le_trans hlen hn2) hr (fun base _ _ => hF base) hb (fun H _ hS => ?_) ?_
  · refine ⟨[.fro (ns.map .int)], [], ⟨fun _ => 0, H⟩, ⟨fun _ _ e => e, fun n l => ?_, fun n ce e => ?_, fun n m l _ _ => ?_, fun p hp => by cases hp⟩, .cons (.fro hS (fro_ints ns)) .nil, ?_⟩
    · obtain ⟨_, z⟩ := l
      simp at z
    · simp at e
    · obtain ⟨_, z⟩ := l
      simp at z
    · obtain ⟨h', e⟩ := law ns hlen
      rw [e]
      intro g' H' v _ _ r
      cases r
      rfl
  · rintro H e' s' ⟨_, _, _, _, _, _, _, _, _, _, _, _, z⟩
    exact z
end Gm

/-! GmN: numbers as rows of bits. -/
namespace Gm
open PySem
theorem bits_ext {a b : Nat} (h : ∀ i, a.testBit i = b.testBit i) : a = b := Nat.eq_of_testBit_eq h
theorem add_or {a b : Nat} (h : a &&& b = 0) : a + b = a ||| b := by
  have hw : a + b < 2 ^ (a + b + 1) := Nat.lt_of_lt_of_le Nat.lt_two_pow_self (Nat.pow_le_pow_right (by decide) (by omega))
  have ha : a < 2 ^ (a + b + 1) := by omega
  have hb : b < 2 ^ (a + b + 1) := by omega
  have e : (BitVec.ofNat (a + b + 1) a) &&& (BitVec.ofNat (a + b + 1) b) = 0#(a + b + 1) := by
    apply BitVec.eq_of_toNat_eq
    simp [Nat.mod_eq_of_lt ha, Nat.mod_eq_of_lt hb, h]
  have z := congrArg BitVec.toNat (BitVec.add_eq_or_of_and_eq_zero _ _ e)
  simpa [Nat.mod_eq_of_lt ha, Nat.mod_eq_of_lt hb, Nat.mod_eq_of_lt hw] using z
theorem add_bit {x k : Nat} (h : x.testBit k = false) : x + 2 ^ k = x ^^^ 2 ^ k := by
  rw [add_or]
  · apply bits_ext
    intro i
    simp only [Nat.testBit_or, Nat.testBit_xor, Nat.testBit_two_pow]
    by_cases e : k = i
    · subst e; simp [h]
    · simp [e]
  · apply bits_ext
    intro i
    simp only [Nat.testBit_and, Nat.testBit_two_pow, Nat.zero_testBit]
    by_cases e : k = i
    · subst e; simp [h]
    · simp [e]
theorem sub_bit {x k : Nat} (h : x.testBit k = true) : 2 ^ k ≤ x ∧ x - 2 ^ k = x ^^^ 2 ^ k := by
  have hy : (x ^^^ 2 ^ k).testBit k = false := by simp [Nat.testBit_xor, Nat.testBit_two_pow, h]
  have e := add_bit hy
  rw [Nat.xor_assoc, Nat.xor_self, Nat.xor_zero] at e
  omega
theorem flip_bit (x k i : Nat) : (x ^^^ 2 ^ k).testBit i = (x.testBit i ^^ decide (k = i)) := by rw [Nat.testBit_xor, Nat.testBit_two_pow]
theorem flip_2 (x k : Nat) : x ^^^ 2 ^ k ^^^ 2 ^ k = x := by rw [Nat.xor_assoc, Nat.xor_self, Nat.xor_zero]
/-- the number whose bits below n are f -/
def ofB (f : Nat → Bool) : Nat → Nat
  | 0 => 0
  | n + 1 => ofB f n + if f n = true then 2 ^ n else 0
theorem ofB_lt (f : Nat → Bool) : ∀ n, ofB f n < 2 ^ n
  | 0 => by simp [ofB]
  | n + 1 => by
    have := ofB_lt f n
    rw [Nat.pow_succ]
    unfold ofB
    split <;> omega
theorem ofB_bit (f : Nat → Bool) : ∀ n i, (ofB f n).testBit i = (decide (i < n) && f i)
  | 0, i => by simp [ofB]
  | n + 1, i => by
    have hl := ofB_lt f n
    have ih := ofB_bit f n
    unfold ofB
    by_cases hf : f n = true
    · rw [if_pos hf, add_bit (Nat.testBit_lt_two_pow hl), flip_bit, ih]
      by_cases e : n = i
      · subst e; simp [hf]
      · have : (i < n + 1) = (i < n) := by apply propext; omega
        simp [e, this]
    · rw [if_neg hf, Nat.add_zero, ih]
      by_cases e : n = i
      · subst e; simp [hf]
      · have : (i < n + 1) = (i < n) := by apply propext; omega
        simp [this]
theorem ofB_self {x n : Nat} (h : x < 2 ^ n) : ofB x.testBit n = x := by
  apply bits_ext
  intro i
  rw [ofB_bit]
  by_cases hi : i < n
  · simp [hi]
  · rw [Nat.testBit_lt_two_pow (Nat.lt_of_lt_of_le h (Nat.pow_le_pow_right (by decide) (Nat.le_of_not_lt hi)))]
    simp
theorem ofB_congr {f g : Nat → Bool} {n : Nat} (h : ∀ i, i < n → f i = g i) : ofB f n = ofB g n := by
  apply bits_ext
  intro i
  rw [ofB_bit, ofB_bit]
  by_cases hi : i < n
  · rw [h i hi]
  · simp [hi]
theorem high_bit {x n i : Nat} (h : x < 2 ^ n) (hi : n ≤ i) : x.testBit i = false := Nat.testBit_lt_two_pow (Nat.lt_of_lt_of_le h (Nat.pow_le_pow_right (by decide) hi))
/-! ### the int operators on numbers that are not negative -/
theorem band_n (a b : Nat) : Builtin.bitAnd (a : Int) (b : Int) = ((a &&& b : Nat) : Int) := by unfold Builtin.bitAnd; simp
theorem bor_n (a b : Nat) : Builtin.bitOr (a : Int) (b : Int) = ((a ||| b : Nat) : Int) := by
  rw [L2.bitOr_nn (Int.natCast_nonneg a) (Int.natCast_nonneg b)]
  rfl
theorem bxor_n (a b : Nat) : Builtin.bitXor (a : Int) (b : Int) = ((a ^^^ b : Nat) : Int) := by
  unfold Builtin.bitXor
  rw [bor_n, band_n]
  have e : (a ^^^ b) + (a &&& b) = a ||| b := by
    rw [add_or]
    · apply bits_ext
      intro i
      simp only [Nat.testBit_or, Nat.testBit_xor, Nat.testBit_and]
      cases a.testBit i <;> cases b.testBit i <;> rfl
    · apply bits_ext
      intro i
      simp only [Nat.testBit_xor, Nat.testBit_and, Nat.zero_testBit]
      cases a.testBit i <;> cases b.testBit i <;> rfl
  omega
theorem shl_n (a b : Nat) : (a : Int) * 2 ^ ((b : Int).toNat) = ((a <<< b : Nat) : Int) := by
  rw [Nat.shiftLeft_eq, Int.toNat_natCast]
  push_cast
  rfl
theorem shr_n (a b : Nat) : (a : Int) / 2 ^ ((b : Int).toNat) = ((a >>> b : Nat) : Int) := by
  rw [Nat.shiftRight_eq_div_pow, Int.toNat_natCast]
  push_cast
  rfl
theorem one_shl (b : Nat) : (1 : Nat) <<< b = 2 ^ b := by rw [Nat.shiftLeft_eq, Nat.one_mul]
theorem bits_le {i : Int} {k : Nat} (h : i.natAbs < 2 ^ k) : Builtin.Int.intBits i ≤ k := by
  unfold Builtin.Int.intBits
  split
  · omega
  · rename_i hz
    have hz : i ≠ 0 := by simpa using hz
    have := (Nat.log2_lt (by omega)).mpr h
    omega
theorem gShl_of {a b : Nat} {k : Nat} (h : a < 2 ^ k) (hk : k + b ≤ 134217728) : gShl (a : Int) (b : Int) = true := by
  have := bits_le (i := (a : Int)) (k := k) (by simpa using h)
  unfold gShl
  rw [Bool.and_eq_true, decide_eq_true_eq]
  exact ⟨Int.natCast_nonneg b, Nat.ble_eq_true_of_le (by rw [Int.toNat_natCast]; omega)⟩
theorem gShr_of (i : Int) (b : Nat) : gShr i (b : Int) = true := by unfold gShr; simp
theorem gMul_of {i j : Int} {k m : Nat} (h : i.natAbs < 2 ^ k) (h2 : j.natAbs < 2 ^ m) (hk : k + m ≤ 134217728) : gMul i j = true := by
  have := bits_le h
  have := bits_le h2
  exact Nat.ble_eq_true_of_le (by omega)
theorem gMod_of {i j : Int} (h : 0 < j) : gMod i j = true := by unfold gMod; simpa using h
theorem gDiv_of {i j : Int} {k : Nat} (h : 0 < j) (h2 : j.natAbs < 2 ^ k) (hk : k ≤ 9000) : gDiv i j = true := by
  unfold gDiv
  have := (Nat.log2_lt (n := j.natAbs) (by omega)).mpr h2
  simp only [Bool.and_eq_true, decide_eq_true_eq]
  omega
end Gm

/-! GmP: how the functions compute. -/
namespace Gm
open PySem PySem.Spec PyProof.Rows
section
variable {st : Slots} {h : Store} {α β : Type}
@[simp] theorem ev_var (i : Nat) : cVar i st h = match st[i]? with
  | some (some d) => .ok d h
  | _ => .no := rfl
@[simp] theorem ev_k (d : D) : cK d st h = .ok d h := rfl
@[simp] theorem ev_nil : cNil st h = .ok [] h := rfl
@[simp] theorem ev_cons (f : Ev D) (g : Ev (List D)) : cCons f g st h = (f st h).bind fun d h1 => (g st h1).bind fun ds h2 => .ok (d :: ds) h2 := rfl
@[simp] theorem ev_bin (o : D → D → Store → Res D) (f g : Ev D) : cBin o f g st h = (f st h).bind fun a h1 => (g st h1).bind fun b h2 => o a b h2 := rfl
@[simp] theorem ev_iop {ck : Int → Int → Bool} {f : Int → Int → Int} {i j : Int} (c : ck i j = true) : iop ck f (.int i) (.int j) h = .ok (.int (f i j)) h := if_pos c
@[simp] theorem ev_bop (f : Int → Int → Bool) (i j : Int) : bop f (.int i) (.int j) h = .ok (.bl (f i j)) h := rfl
@[simp] theorem ev_call (F : FnT) (ds : List D) (f : Ev (List D)) : cCall F ds f st h = (f st h).bind fun xs h1 => F (xs ++ ds) h1 := rfl
@[simp] theorem ev_callK (F : FnT) (n m : Nat) (g : List D → List D → List D) (f k : Ev (List D)) : cCallK F n m g f k st h = (f st h).bind fun ds h1 => (k st h1).bind fun es h2 => if ds.length = n ∧ es.length = m then F (g ds es) h2 else .no := rfl
@[simp] theorem ev_tv (f : Ev D) : cTv f st h = (f st h).bind fun d h1 => match d with
  | .bl b => .ok b h1
  | _ => .no := rfl
@[simp] theorem ev_tnot (f : Ev Bool) : cTnot f st h = (f st h).bind fun b h1 => .ok (!b) h1 := rfl
@[simp] theorem ev_tand (f k : Ev Bool) : cTand f k st h = (f st h).bind fun b h1 => if b = true then k st h1 else .ok false h1 := rfl
@[simp] theorem ev_tor (f k : Ev Bool) : cTor f k st h = (f st h).bind fun b h1 => if b = true then .ok true h1 else k st h1 := rfl
@[simp] theorem ev_chain (o o' : D → D → Store → Res D) (f g k : Ev D) : cChain o o' f g k st h = (f st h).bind fun a h1 => (g st h1).bind fun b h2 => (o a b h2).bind fun z h3 => match z with
  | .bl true => (k st h3).bind fun d h4 => o' b d h4
  | .bl false => .ok (.bl false) h3
  | _ => .no := rfl
@[simp] theorem ev_lst (fs : Ev (List D)) : cLst false fs st h = (fs st h).bind fun ds h1 => if ds.length ≤ sizeLine then .ok (.lst ds) h1 else .no := rfl
@[simp] theorem ev_lstM (fs : Ev (List D)) : cLst true fs st h = (fs st h).bind fun ds h1 => if ds.length ≤ sizeLine then .ok (.ref h1.length) (h1 ++ [some (.lst ds)]) else .no := rfl
@[simp] theorem ev_tup (fs : Ev (List D)) : cTup fs st h = (fs st h).bind fun ds h1 => if ds.length ≤ sizeLine then .ok (.tup ds) h1 else .no := rfl
@[simp] theorem ev_cB (F : CallT) (f : Ev (List D)) : cB F f st h = (f st h).bind F := rfl
@[simp] theorem ev_seq (f k : Ss) : sSeq f k st h = (f st h).seq k := rfl
@[simp] theorem seq_next (k : Ss) : (Out.next st h).seq k = k st h := rfl
@[simp] theorem seq_ret (d : D) (k : Ss) : (Out.ret d h).seq k = .ret d h := rfl
@[simp] theorem ev_sNil : sNil st h = .next st h := rfl
@[simp] theorem ev_expr (f : Ev D) : sExpr f st h = (f st h).out st fun _ h1 => .next st h1 := rfl
@[simp] theorem ev_ret (f : Ev D) : sRet f st h = (f st h).out st fun d h1 => .ret d h1 := rfl
@[simp] theorem ev_if (t : Ev Bool) (f k : Ss) : sIf t f k st h = (t st h).out st fun b h1 => if b = true then f st h1 else k st h1 := rfl
@[simp] theorem ev_set (i : Nat) (f : Ev D) : sSet i f st h = (f st h).out st fun d h1 => .next (st.set i (some d)) h1 := rfl
@[simp] theorem ev_aug (i : Nat) (o : D → D → Store → Res D) (f : Ev D) : sAug i o f st h = match st[i]? with
  | some (some x) => (f st h).out st fun y h1 => (o x y h1).out st fun z h2 => .next (st.set i (some z)) h2
  | _ => .no := rfl
@[simp] theorem ev_asg (f : Ev D) (g : Tg) : sAsg f g st h = (f st h).out st fun d h1 => match g d st h1 with
  | some (st', h') => .next st' h'
  | none => .no := rfl
@[simp] theorem ev_gtName (i : Nat) (d : D) : gtName i d st h = some (st.set i (some d), h) := rfl
@[simp] theorem ev_gtTup (n : Nat) (k : Tgs) (ds : List D) : gtTup n k (.tup ds) st h = if ds.length = n then k ds st h else none := rfl
@[simp] theorem ev_gtCons (f : Tg) (k : Tgs) (d : D) (r : List D) : gtCons f k (d :: r) st h = match f d st h with
  | some (st', h') => k r st' h'
  | none => none := rfl
@[simp] theorem ev_gtNil : gtNil [] st h = some (st, h) := rfl
@[simp] theorem ev_for (f : Ev (List D)) (g : Tg) (b : Ss) : sFor f g b st h = (f st h).out st fun l h1 => forL g b l st h1 := rfl
@[simp] theorem res_next : (Out.next st h).res = .ok .non h := rfl
@[simp] theorem res_ret (d : D) : (Out.ret d h).res = .ok d h := rfl
@[simp] theorem ev_lc (m : Bool) (fi : Ev (List D)) (fg : D → Slots → Option Slots) (ft : Ev Bool) (fe : Ev D) (own : List Nat) : cLc m fi fg ft fe own st h =
  (fi st h).bind fun l h1 => if l.length ≤ sizeLine then (lcL fg ft fe (wipeD st own) l h1).bind fun ys h2 => alloc m ys h2 else .no := rfl
@[simp] theorem ev_yes : cYes st h = .ok true h := rfl
@[simp] theorem ev_wipe0 : wipeD st [] = st := rfl
@[simp] theorem ev_wipe1 (v : Nat) (vs : List Nat) : wipeD st (v :: vs) = (wipeD st vs).set v none := rfl
@[simp] theorem ev_fName (i : Nat) (d : D) : fName i d st = some (st.set i (some d)) := rfl
@[simp] theorem ev_alloc (l : List D) : alloc false l h = .ok (.lst l) h := rfl
@[simp] theorem ev_allocM (l : List D) : alloc true l h = .ok (.ref h.length) (h ++ [some (.lst l)]) := rfl
end
theorem start_of {n k : Nat} {ds : List D} {fb : Ss} {h h' : Store} {d : D} (hk : ds.length = k) (e : (fb (startD n ds) h).res = .ok d h') (hl : h'.length = h.length) : fnOf n k fb ds h = .ok d h' := by
  unfold fnOf
  rw [if_pos hk, e]
  unfold cleanD clean
  dsimp only
  rw [← hl, List.take_length]
  split <;> rfl
/-- a def that leaves no more cells than it found -/
theorem fn_eq {n k : Nat} {ds : List D} {fb : Ss} {h h' : Store} {d : D} (st : Slots) (hk : ds.length = k) (hs : startD n ds = st) (e : (fb st h).res = .ok d h') (hl : h'.length = h.length) : fnOf n k fb ds h = .ok d h' := start_of hk (by rw [hs]; exact e) hl
/-! ### loops -/
theorem forL_inv {fg : Tg} {fb : Ss} (I : Nat → Slots → Store → Prop) : ∀ (l : List D) (k : Nat) (st : Slots) (h : Store),
    (∀ i d st h, l[i]? = some d → I (k + i) st h → ∃ st1 h1 st2 h2, fg d st h = some (st1, h1) ∧ fb st1 h1 = .next st2 h2 ∧ I (k + i + 1) st2 h2) → I k st h → ∃ st' h', forL fg fb l st h = .next st' h' ∧ I (k + l.length) st' h'
  | [], k, st, h, _, i0 => ⟨st, h, rfl, i0⟩
  | d :: l, k, st, h, step, i0 => by
    obtain ⟨st1, h1, st2, h2, e1, e2, i1⟩ := step 0 d st h rfl i0
    obtain ⟨st', h', e3, i2⟩ := forL_inv I l (k + 1) st2 h2 (fun i d st h hd hi => by
      have e : k + 1 + i = k + (i + 1) := by omega
      rw [e] at hi ⊢
      exact step (i + 1) d st h (by simpa using hd) hi) i1
    refine ⟨st', h', ?_, by rw [List.length_cons]; rw [show k + (l.length + 1) = k + 1 + l.length by omega]; exact i2⟩
    unfold forL
    rw [e1]
    dsimp only
    rw [e2]
    exact e3
theorem lcL_all {fg : D → Slots → Option Slots} {ft : Ev Bool} {fe : Ev D} {st0 : Slots} (J : Nat → Store → Prop) (P : Nat → D → Prop) : ∀ (l : List D) (k : Nat) (h : Store),
    (∀ i d h, l[i]? = some d → J (k + i) h → ∃ st1 h1 y h2, fg d st0 = some st1 ∧ ft st1 h = .ok true h1 ∧ fe st1 h1 = .ok y h2 ∧ P (k + i) y ∧ J (k + i + 1) h2) → J k h →
    ∃ ys h', lcL fg ft fe st0 l h = .ok ys h' ∧ ys.length = l.length ∧ (∀ i y, ys[i]? = some y → P (k + i) y) ∧ J (k + l.length) h'
  | [], k, h, _, j0 => ⟨[], h, rfl, rfl, fun i y e => by simp at e, j0⟩
  | d :: l, k, h, step, j0 => by
    obtain ⟨st1, h1, y, h2, e1, e2, e3, p0, j1⟩ := step 0 d h rfl j0
    obtain ⟨ys, h', e4, hl, hp, j2⟩ := lcL_all J P l (k + 1) h2 (fun i d h hd hi => by
      have e : k + 1 + i = k + (i + 1) := by omega
      rw [e] at hi ⊢
      exact step (i + 1) d h (by simpa using hd) hi) j1
    refine ⟨y :: ys, h', ?_, by simp [hl], fun i z ez => ?_, by rw [List.length_cons]; rw [show k + (l.length + 1) = k + 1 + l.length by omega]; exact j2⟩
    · unfold lcL
      rw [e1]
      dsimp only
      rw [e2]
      simp [e3, e4]
    · cases i with
      | zero =>
        have ez : y = z := by simpa using ez
        subst ez
        exact p0
      | succ i => 
        have := hp i z (by simpa using ez)
        rw [show k + (i + 1) = k + 1 + i by omega]
        exact this
theorem lcL_pure {fg : D → Slots → Option Slots} {ft : Ev Bool} {fe : Ev D} {st0 : Slots} {h : Store} {p : D → Bool} {q : D → D} : ∀ (l : List D), (∀ d ∈ l, ∃ st1, fg d st0 = some st1 ∧ ft st1 h = .ok (p d) h ∧ (p d = true → fe st1 h = .ok (q d) h)) →
    lcL fg ft fe st0 l h = .ok ((l.filter p).map q) h
  | [], _ => rfl
  | d :: l, H => by
    obtain ⟨st1, e1, e2, e3⟩ := H d (by simp)
    have ih := lcL_pure l fun x hx => H x (by simp [hx])
    unfold lcL
    rw [e1]
    dsimp only
    rw [e2]
    by_cases hp : p d = true
    · simp [hp, e3 hp, ih, List.filter_cons]
    · simp [hp, ih, List.filter_cons]
theorem whileL_run {ft : Ev Bool} {fb : Ss} (I : Nat → Slots → Store → Prop) (k : Nat) (step : ∀ i st h, i < k → I i st h → ft st h = .ok true h ∧ ∃ st2 h2, fb st h = .next st2 h2 ∧ I (i + 1) st2 h2) (stop : ∀ st h, I k st h → ft st h = .ok false h) :
    ∀ (j fuel i : Nat) (st : Slots) (h : Store), i + j = k → j < fuel → I i st h → ∃ st' h', whileL ft fb fuel st h = .next st' h' ∧ I k st' h'
  | 0, 0, i, st, h, _, hf, i0 => absurd hf (by omega)
  | 0, f + 1, i, st, h, e, _, i0 => by
    have : i = k := by omega
    subst this
    exact ⟨st, h, by unfold whileL; rw [stop st h i0]; simp, i0⟩
  | j + 1, 0, i, st, h, _, hf, i0 => absurd hf (by omega)
  | j + 1, f + 1, i, st, h, e, hf, i0 => by
    obtain ⟨e1, st2, h2, e2, i1⟩ := step i st h (by omega) i0
    obtain ⟨st', h', e3, i2⟩ := whileL_run I k step stop j f (i + 1) st2 h2 (by omega) (by omega) i1
    refine ⟨st', h', ?_, i2⟩
    unfold whileL
    rw [e1]
    simp [e2, e3]
/-! ### what is walked -/
theorem upInts01 (n : Nat) : upInts 0 1 n = (List.range n).map fun (i : Nat) => D.int (i : Int) := by
  unfold upInts
  apply List.map_congr_left
  intro i _
  simp
theorem g62_n {n : Nat} (hn : n ≤ 1000000) : g62 (n : Int) = true := Nat.ble_eq_true_of_le (by rw [Int.natAbs_natCast]; exact Nat.le_trans hn (by decide))
theorem ev_range1 {fs : Ev (List D)} {st : Slots} {h h1 : Store} {n : Nat} (e : fs st h = .ok [.int (n : Int)] h1) (hn : n ≤ 1000000) : iRange1 fs st h = .ok ((List.range n).map fun (i : Nat) => D.int (i : Int)) h1 := by
  have g := g62_n hn
  unfold iRange1
  rw [e, Res.bind_ok]
  dsimp only
  rw [if_pos g, Int.toNat_natCast, upInts01]
theorem intsOf_map (l : List Int) : intsOf (l.map D.int) = some l := by
  induction l with
  | nil => rfl
  | cons a l ih => simp [intsOf, ih]
end Gm
namespace Gm
open PySem PySem.Spec PyProof.Rows
theorem lcL_map {α : Type} {fg : D → Slots → Option Slots} {ft : Ev Bool} {fe : Ev D} {st0 : Slots} {h : Store} {f : α → D} {p : α → Bool} {q : α → D} : ∀ (l : List α), (∀ x ∈ l, ∃ st1, fg (f x) st0 = some st1 ∧ ft st1 h = .ok (p x) h ∧ (p x = true → fe st1 h = .ok (q x) h)) →
    lcL fg ft fe st0 (l.map f) h = .ok ((l.filter p).map q) h
  | [], _ => rfl
  | d :: l, H => by
    obtain ⟨st1, e1, e2, e3⟩ := H d (by simp)
    have ih := lcL_map l fun x hx => H x (by simp [hx])
    rw [List.map_cons]
    unfold lcL
    rw [e1]
    dsimp only
    rw [e2]
    by_cases hp : p d = true
    · simp [hp, e3 hp, ih, List.filter_cons]
    · simp [hp, ih, List.filter_cons]
theorem lcL_all1 {α : Type} {fg : D → Slots → Option Slots} {ft : Ev Bool} {fe : Ev D} {st0 : Slots} {h : Store} {f : α → D} {q : α → D} (l : List α) (H : ∀ x ∈ l, ∃ st1, fg (f x) st0 = some st1 ∧ ft st1 h = .ok true h ∧ fe st1 h = .ok (q x) h) :
    lcL fg ft fe st0 (l.map f) h = .ok (l.map q) h := by
  have z := lcL_map (fg := fg) (ft := ft) (fe := fe) (st0 := st0) (h := h) (f := f) (p := fun _ => true) (q := q) l fun x hx => by
    obtain ⟨st1, e1, e2, e3⟩ := H x hx
    exact ⟨st1, e1, e2, fun _ => e3⟩
  rw [List.filter_eq_self.mpr fun _ _ => rfl] at z
  exact z
theorem oNe_int (i j : Int) (h : Store) : oNe (.int i) (.int j) h = .ok (.bl (!(i == j))) h := rfl
theorem oEq_int (i j : Int) (h : Store) : oEq (.int i) (.int j) h = .ok (.bl (i == j)) h := rfl
theorem oNe_bl (i j : Bool) (h : Store) : oNe (.bl i) (.bl j) h = .ok (.bl (!(i == j))) h := rfl
theorem small_line {n : Nat} (h : n ≤ 1000000) : n ≤ sizeLine := Nat.le_trans h (by decide)
theorem nat_beq (a b : Nat) : ((a : Int) == (b : Int)) = (a == b) := by
  rw [Bool.eq_iff_iff, beq_iff_eq, beq_iff_eq]
  omega
end Gm

/-! GmT: the script's box, as every law draws from it. -/
namespace Gm
open PySem PySem.Spec PyProof.Rows
def boxB : Ss :=
  (sSeq (sSet 1 (cK (.int 7919)))
  (sSeq (sFor (iSeqD (cSl false (cVar 0) cNoPart (cPart (cK (.int 63))))) (gtName 2) (sSet 1 (cBin oMod (cBin (oAdd false) (cBin (oAdd false) (cBin oMul (cVar 1) (cK (.int 48271))) (cBin oMod (cVar 2) (cK (.int 1000003)))) (cK (.int 11))) (cK (.int 2147483647)))))
  (sRet (cLst true (cCons (cB (fList false) (cCons (cSl false (cVar 0) cNoPart (cPart (cK (.int 63)))) cNil)) (cCons (cK (.int 0)) (cCons (cK (.int 0)) (cCons (cVar 1) cNil))))))))
def takeB : Ss :=
  (sSeq (sIf (cTv (cBin oGt (cBin oIx (cVar 0) (cK (.int 2))) (cK (.int 0)))) (sSeq (sSet 2 (cBin oIx (cVar 0) (cK (.int 2))))
  (sSeq (sPut (cBin oDiv (cVar 2) (cVar 1)) (cVar 0) (cK (.int 2)))
  (sRet (cBin oMod (cVar 2) (cVar 1)))))
  sNil)
  (sSeq (sSet 3 (cK (.int 0)))
  (sSeq (sIf (cTv (cBin oLt (cBin oIx (cVar 0) (cK (.int 1))) (cB fLen (cCons (cBin oIx (cVar 0) (cK (.int 0))) cNil)))) (sSet 3 (cBin oIx (cBin oIx (cVar 0) (cK (.int 0))) (cBin oIx (cVar 0) (cK (.int 1)))))
  sNil)
  (sSeq (sAugAt oAddI (cVar 0) (cK (.int 1)) (cK (.int 1)))
  (sSeq (sIf (cTv (cBin oGe (cVar 3) (cBin oPow (cK (.int 10)) (cK (.int 18))))) (sSeq (sPut (cBin oDiv (cVar 3) (cVar 1)) (cVar 0) (cK (.int 2)))
  (sRet (cBin oMod (cVar 3) (cVar 1))))
  sNil)
  (sSeq (sSet 4 (cBin oMod (cBin (oAdd false) (cBin (oAdd false) (cBin oIx (cVar 0) (cK (.int 3))) (cBin oMul (cBin oMod (cVar 3) (cK (.int 2147483629))) (cK (.int 69621)))) (cBin oMul (cBin oIx (cVar 0) (cK (.int 1))) (cK (.int 104729)))) (cK (.int 2147483587))))
  (sSeq (sSet 4 (cBin oMod (cBin (oAdd false) (cBin (oAdd false) (cBin oMul (cVar 4) (cVar 4)) (cBin oMul (cK (.int 40961)) (cVar 4))) (cK (.int 77))) (cK (.int 2147483629))))
  (sSeq (sPut (cBin oMod (cBin (oAdd false) (cBin (oAdd false) (cBin oMul (cVar 4) (cK (.int 16807))) (cBin oMod (cBin oIx (cVar 0) (cK (.int 3))) (cK (.int 8191)))) (cK (.int 5))) (cK (.int 2147483587))) (cVar 0) (cK (.int 3)))
  (sRet (cBin oMod (cBin oDiv (cBin oIx (cVar 0) (cK (.int 3))) (cK (.int 61))) (cVar 1)))))))))))
/-- the box: the script, how many were taken, a rest, a seed -/
abbrev box (l : List Int) (p : Nat) (r s : Int) : Option Cell := some (.lst [.lst (l.map D.int), .int (p : Int), .int r, .int s])
section
variable {l : List Int} {p : Nat} {r s : Int} {t : Store}
theorem bx0 : oIx (.ref 0) (.int 0) (box l p r s :: t) = .ok (.lst (l.map D.int)) (box l p r s :: t) := rfl
theorem bx1 : oIx (.ref 0) (.int 1) (box l p r s :: t) = .ok (.int (p : Int)) (box l p r s :: t) := rfl
theorem bx2 : oIx (.ref 0) (.int 2) (box l p r s :: t) = .ok (.int r) (box l p r s :: t) := rfl
theorem bx3 : oIx (.ref 0) (.int 3) (box l p r s :: t) = .ok (.int s) (box l p r s :: t) := rfl
theorem bp2 {x : Int} : putAt (.ref 0) (.int 2) (.int x) (box l p r s :: t) = some (box l p x s :: t) := rfl
theorem bp3 {x : Int} : putAt (.ref 0) (.int 3) (.int x) (box l p r s :: t) = some (box l p r x :: t) := rfl
theorem bp1 : putAt (.ref 0) (.int 1) (.int (p + 1)) (box l p r s :: t) = some (box l (p + 1) r s :: t) := rfl
theorem bg1 : getAt (.ref 0) (.int 1) (box l p r s :: t) = some (.int (p : Int)) := rfl
theorem len_ints {h : Store} : fLen [.lst (l.map D.int)] h = .ok (.int (l.length : Int)) h := by simp [fLen, asR]
theorem at_ints {h : Store} (hp : p < l.length) : oIx (.lst (l.map D.int)) (.int (p : Int)) h = .ok (.int l[p]) h := by
  have e : L2.ixN (l.map D.int).length (p : Int) = some p := by
    unfold L2.ixN
    rw [if_pos (Int.natCast_nonneg p), if_pos (by simpa using hp), Int.toNat_natCast]
  have e2 : L2.atI (l.map D.int) (p : Int) = some (.int l[p]) := by
    unfold L2.atI
    rw [e]
    simp [hp]
  show (match asR h (.lst (l.map D.int)) with
    | some l => match L2.atI l (p : Int) with
      | some d => Res.ok d h
      | none => .no
    | none => .no) = _
  simp only [asR, e2]
theorem ev_put {st : Slots} {h : Store} (fe fo fi : Ev D) : sPut fe fo fi st h = (fe st h).out st fun d h1 => (fo st h1).out st fun x h2 => (fi st h2).out st fun y h3 => match putAt x y d h3 with
  | some h' => .next st h'
  | none => .no := rfl
theorem ev_augAt {st : Slots} {h : Store} (fop : D → D → Store → Res D) (fo fi fe : Ev D) : sAugAt fop fo fi fe st h = (fo st h).out st fun x h1 => (fi st h1).out st fun y h2 => match getAt x y h2 with
  | some old => (fe st h2).out st fun d h4 => (fop old d h4).out st fun z h5 => match putAt x y z h5 with
    | some h' => .next st h'
    | none => .no
  | none => .no := rfl
theorem oAdd_int (m : Bool) (i j : Int) (h : Store) : oAdd m (.int i) (.int j) h = .ok (.int (i + j)) h := rfl
end
/-- what a draw answers -/
theorem take_ok (l : List Int) (p : Nat) (r s : Int) (t : Store) (m : Int) (hm : 0 < m) (hm2 : m.natAbs < 2 ^ 9000) (hp : p ≤ 1000000) (h0 : 0 ≤ s) (h1 : s < 2147483647) :
    ∃ v p' r' s', fnOf 5 2 takeB [.ref 0, .int m] (box l p r s :: t) = .ok (.int v) (box l p' r' s' :: t) ∧ 0 ≤ v ∧ v < m ∧ p' ≤ p + 1 ∧ 0 ≤ s' ∧ s' < 2147483647 := by
  have dm : ∀ i : Int, gDiv i m = true := fun i => gDiv_of hm hm2 (Nat.le_refl _)
  have mm : ∀ i : Int, gMod i m = true := fun i => gMod_of hm
  have m1 : ∀ i : Int, gMod i 2147483629 = true := fun i => gMod_of (by decide)
  have m2 : ∀ i : Int, gMod i 2147483587 = true := fun i => gMod_of (by decide)
  have m3 : ∀ i : Int, gMod i 8191 = true := fun i => gMod_of (by decide)
  have d1 : ∀ i : Int, gDiv i 61 = true := fun i => gDiv_of (k := 6) (by decide) (by decide) (by decide)
  have g10 : gPow 10 18 = true := by decide
  by_cases hr : 0 < r
  · refine ⟨r % m, p, r / m, s, ?_, Int.emod_nonneg _ (by omega), Int.emod_lt_of_pos _ hm, by omega, h0, h1⟩
    refine fn_eq [some (.ref 0), some (.int m), none, none, none] rfl rfl ?_ rfl
    simp only [takeB, ev_seq, ev_if, ev_tv, ev_bin, ev_var, ev_k, List.getElem?_cons_zero, List.getElem?_cons_succ, Res.bind_ok, bx2, ev_bop, hr, decide_true, Res.out_ok, if_true, ev_set, List.set_cons_succ, List.set_cons_zero, seq_next, ev_put, ev_iop, dm, mm, bp2, ev_ret, seq_ret, res_ret]
  · obtain ⟨one, e1⟩ : ∃ one : Int, (sIf (cTv (cBin oLt (cBin oIx (cVar 0) (cK (.int 1))) (cB fLen (cCons (cBin oIx (cVar 0) (cK (.int 0))) cNil)))) (sSet 3 (cBin oIx (cBin oIx (cVar 0) (cK (.int 0))) (cBin oIx (cVar 0) (cK (.int 1))))) sNil)
        [some (.ref 0), some (.int m), none, some (.int 0), none] (box l p r s :: t) = .next [some (.ref 0), some (.int m), none, some (.int one), none] (box l p r s :: t) := by
      by_cases hl : p < l.length
      · have z : ((p : Int) < (l.length : Int)) := by omega
        refine ⟨l[p], ?_⟩
        simp only [ev_if, ev_tv, ev_bin, ev_var, ev_k, ev_cB, ev_cons, ev_nil, List.getElem?_cons_zero, List.getElem?_cons_succ, Res.bind_ok, bx0, bx1, len_ints, ev_bop, decide_eq_true z, Res.out_ok, if_true, ev_set, at_ints hl, List.set_cons_succ, List.set_cons_zero]
      · have z : ¬ ((p : Int) < (l.length : Int)) := by omega
        refine ⟨0, ?_⟩
        simp only [ev_if, ev_tv, ev_bin, ev_var, ev_k, ev_cB, ev_cons, ev_nil, List.getElem?_cons_zero, List.getElem?_cons_succ, Res.bind_ok, bx0, bx1, len_ints, ev_bop, decide_eq_false z, Res.out_ok, Bool.false_eq_true, if_false, ev_sNil]
    by_cases hb : (10 : Int) ^ (18 : Int).toNat ≤ one
    · refine ⟨one % m, p + 1, one / m, s, ?_, Int.emod_nonneg _ (by omega), Int.emod_lt_of_pos _ hm, by omega, h0, h1⟩
      refine fn_eq [some (.ref 0), some (.int m), none, none, none] rfl rfl ?_ rfl
      unfold takeB
      rw [ev_seq]
      have a1 : (sIf (cTv (cBin oGt (cBin oIx (cVar 0) (cK (.int 2))) (cK (.int 0)))) (sSeq (sSet 2 (cBin oIx (cVar 0) (cK (.int 2)))) (sSeq (sPut (cBin oDiv (cVar 2) (cVar 1)) (cVar 0) (cK (.int 2))) (sRet (cBin oMod (cVar 2) (cVar 1))))) sNil) [some (.ref 0), some (.int m), none, none, none] (box l p r s :: t) = .next [some (.ref 0), some (.int m), none, none, none] (box l p r s :: t) := by
        simp only [ev_if, ev_tv, ev_bin, ev_var, ev_k, List.getElem?_cons_zero, List.getElem?_cons_succ, Res.bind_ok, bx2, ev_bop, decide_eq_false hr, Res.out_ok, Bool.false_eq_true, if_false, ev_sNil]
      rw [a1, seq_next, ev_seq, ev_set, ev_k, Res.out_ok, seq_next]
      simp only [List.set_cons_succ, List.set_cons_zero]
      rw [ev_seq, e1, seq_next]
      simp only [ev_seq, ev_augAt, ev_var, ev_k, List.getElem?_cons_zero, List.getElem?_cons_succ, Res.out_ok, bg1, ev_iop, bp1, seq_next, ev_if, ev_tv, ev_bin, Res.bind_ok, g10, ev_bop, decide_eq_true hb, if_true, ev_put, dm, mm, bp2, ev_ret, seq_ret, res_ret]
    · have b1 := Int.emod_nonneg one (show (2147483629 : Int) ≠ 0 by decide)
      have b2 := Int.emod_lt_of_pos one (show (0 : Int) < 2147483629 by decide)
      have q1 : gMul (one % 2147483629) 69621 = true := gMul_of (k := 31) (m := 17) (by omega) (by decide) (by decide)
      have q2 : gMul (((p + 1 : Nat) : Int)) 104729 = true := gMul_of (k := 31) (m := 17) (by omega) (by decide) (by decide)
      obtain ⟨x1, ex1⟩ : ∃ x, x = (s + one % 2147483629 * 69621 + ((p + 1 : Nat) : Int) * 104729) % 2147483587 := ⟨_, rfl⟩
      have x1a : 0 ≤ x1 := by rw [ex1]; exact Int.emod_nonneg _ (by decide)
      have x1b : x1 < 2147483587 := by rw [ex1]; exact Int.emod_lt_of_pos _ (by decide)
      have q3 : gMul x1 x1 = true := gMul_of (k := 31) (m := 31) (by omega) (by omega) (by decide)
      have q4 : gMul 40961 x1 = true := gMul_of (k := 31) (m := 31) (by decide) (by omega) (by decide)
      obtain ⟨x2, ex2⟩ : ∃ x, x = (x1 * x1 + 40961 * x1 + 77) % 2147483629 := ⟨_, rfl⟩
      have x2a : 0 ≤ x2 := by rw [ex2]; exact Int.emod_nonneg _ (by decide)
      have x2b : x2 < 2147483629 := by rw [ex2]; exact Int.emod_lt_of_pos _ (by decide)
      have q5 : gMul x2 16807 = true := gMul_of (k := 31) (m := 31) (by omega) (by decide) (by decide)
      obtain ⟨x3, ex3⟩ : ∃ x, x = (x2 * 16807 + s % 8191 + 5) % 2147483587 := ⟨_, rfl⟩
      have x3a : 0 ≤ x3 := by rw [ex3]; exact Int.emod_nonneg _ (by decide)
      have x3b : x3 < 2147483587 := by rw [ex3]; exact Int.emod_lt_of_pos _ (by decide)
      refine ⟨x3 / 61 % m, p + 1, r, x3, ?_, Int.emod_nonneg _ (by omega), Int.emod_lt_of_pos _ hm, by omega, x3a, by omega⟩
      refine fn_eq [some (.ref 0), some (.int m), none, none, none] rfl rfl ?_ rfl
      unfold takeB
      rw [ev_seq]
      have a1 : (sIf (cTv (cBin oGt (cBin oIx (cVar 0) (cK (.int 2))) (cK (.int 0)))) (sSeq (sSet 2 (cBin oIx (cVar 0) (cK (.int 2)))) (sSeq (sPut (cBin oDiv (cVar 2) (cVar 1)) (cVar 0) (cK (.int 2))) (sRet (cBin oMod (cVar 2) (cVar 1))))) sNil) [some (.ref 0), some (.int m), none, none, none] (box l p r s :: t) = .next [some (.ref 0), some (.int m), none, none, none] (box l p r s :: t) := by
        simp only [ev_if, ev_tv, ev_bin, ev_var, ev_k, List.getElem?_cons_zero, List.getElem?_cons_succ, Res.bind_ok, bx2, ev_bop, decide_eq_false hr, Res.out_ok, Bool.false_eq_true, if_false, ev_sNil]
      rw [a1, seq_next, ev_seq, ev_set, ev_k, Res.out_ok, seq_next]
      simp only [List.set_cons_succ, List.set_cons_zero]
      rw [ev_seq, e1, seq_next]
      simp only [ev_seq, ev_augAt, ev_var, ev_k, List.getElem?_cons_zero, List.getElem?_cons_succ, Res.out_ok, bg1, ev_iop, bp1, seq_next, ev_if, ev_tv, ev_bin, Res.bind_ok, g10, ev_bop, decide_eq_false hb, Bool.false_eq_true, if_false, ev_sNil, ev_put, ev_set, List.set_cons_succ, List.set_cons_zero, bx3, bx1, m1, m2, m3, d1, q1, q2, oAdd_int, ← ex1, q3, q4, ← ex2, q5, ← ex3, mm, bp3, ev_ret, seq_ret, res_ret]
theorem cut63 (l : List D) : cutD l none (some 63) = l.take 63 := by
  have e : HT.sIx l.length l.length (some 63) = min 63 l.length := HT.sIx_nat l.length l.length 63
  unfold cutD
  rw [HT.sIx_none, e, List.drop_zero, Nat.sub_zero, ← List.take_eq_take_min]
theorem box_ok (ns : List Int) : ∃ s, fnOf 3 1 boxB [.fro (ns.map D.int)] [] = .ok (.ref 0) [box (ns.take 63) 0 0 s] ∧ 0 ≤ s ∧ s < 2147483647 := by
  have m1 : ∀ i : Int, gMod i 2147483647 = true := fun i => gMod_of (by decide)
  have m2 : ∀ i : Int, gMod i 1000003 = true := fun i => gMod_of (by decide)
  have cut : ∀ x : Option D, ∀ y : Option D, cSl false (cVar 0) cNoPart (cPart (cK (.int 63))) [some (.fro (ns.map D.int)), x, y] [] = .ok (.lst ((ns.take 63).map D.int)) [] := fun x y => by
    show Res.ok (D.lst (cutD (ns.map D.int) none (some 63))) [] = _
    rw [cut63, List.map_take]
  obtain ⟨st, h, e1, rfl, y, s, rfl, s0, s1⟩ := forL_inv (fg := gtName 2) (fb := sSet 1 (cBin oMod (cBin (oAdd false) (cBin (oAdd false) (cBin oMul (cVar 1) (cK (.int 48271))) (cBin oMod (cVar 2) (cK (.int 1000003)))) (cK (.int 11))) (cK (.int 2147483647))))
    (fun _ st h => h = [] ∧ ∃ y s, st = [some (.fro (ns.map D.int)), some (.int s), y] ∧ 0 ≤ s ∧ s < 2147483647) ((ns.take 63).map D.int) 0 [some (.fro (ns.map D.int)), some (.int 7919), none] [] (fun i d st h hd ⟨i1, y, s, i2, s0, s1⟩ => by
      subst i1 i2
      obtain ⟨a, _, rfl⟩ := List.mem_map.mp (List.mem_of_getElem? hd)
      have q : gMul s 48271 = true := gMul_of (k := 31) (m := 17) (by omega) (by decide) (by decide)
      refine ⟨_, _, [some (.fro (ns.map D.int)), some (.int ((s * 48271 + a % 1000003 + 11) % 2147483647)), some (.int a)], [], rfl, ?_, rfl, _, _, rfl, Int.emod_nonneg _ (by decide), Int.emod_lt_of_pos _ (by decide)⟩
      simp only [ev_set, ev_bin, ev_var, ev_k, List.set_cons_succ, List.set_cons_zero, List.getElem?_cons_zero, List.getElem?_cons_succ, Res.bind_ok, ev_iop, q, m1, m2, oAdd_int, Res.out_ok]) ⟨rfl, none, 7919, rfl, by decide, by decide⟩
  refine ⟨s, ?_, s0, s1⟩
  have e2 : (boxB [some (.fro (ns.map D.int)), none, none] []).res = .ok (.ref 0) [box (ns.take 63) 0 0 s] := by
    have e3 : iSeqD (cSl false (cVar 0) cNoPart (cPart (cK (.int 63)))) [some (.fro (ns.map D.int)), some (.int 7919), none] [] = .ok ((ns.take 63).map D.int) [] := by
      unfold iSeqD
      rw [cut]
      rfl
    have e4 : fList false [.lst ((ns.take 63).map D.int)] [] = .ok (.lst ((ns.take 63).map D.int)) [] := rfl
    have e5 : [D.lst ((ns.take 63).map D.int), .int 0, .int 0, .int s].length ≤ sizeLine := small_line (by simp)
    simp only [boxB, ev_seq, ev_set, ev_k, Res.out_ok, seq_next, List.set_cons_succ, List.set_cons_zero, ev_for, e3, e1, ev_ret, ev_lstM, ev_cons, ev_cB, cut, ev_nil, Res.bind_ok, e4, ev_var, List.getElem?_cons_zero, List.getElem?_cons_succ, e5, if_true, res_ret]
    rfl
  show (if [D.fro (ns.map D.int)].length = 1 then cleanD 0 (boxB [some (.fro (ns.map D.int)), none, none] []).res else .no) = _
  rw [if_pos (show [D.fro (ns.map D.int)].length = 1 from rfl), e2]
  rfl
end Gm

namespace K68
open PySem PySem.Spec PyProof.Rows L2 Gm
def top (i : Nat) : Stmt := PySem.Challenge.pw_gatemill_k68_whole_halves_make_the_table.main.body.getD i (.Pass ⟨0, 0, 0, 0⟩)
abbrev FnP (K : PySem.W.Frag) (x : Str) (st : Stmt) (kws : List (Str × V)) (f : Addr) (fd : FuncData) : Prop := FunD K x x (defArgs st) (defBody st) (defScope st) [] kws f fd
def fuel : Nat := 1000000000
def g_half__value (ds es : List D) : List D := ds ++ es
/-! _law_box -/
abbrev s_law_box : Stmt := top 23
theorem sc_law_box : FnScope ["script", "seed", "one"] ["script"] (defScope s_law_box) := ⟨rfl, rfl, rfl, by decide +kernel, rfl, by decide +kernel, by decide +kernel⟩
def B_law_box : Ss :=
  (sSeq (sSet 1 (cK (.int 7919)))
  (sSeq (sFor (iSeqD (cSl false (cVar 0) cNoPart (cPart (cK (.int 63))))) (gtName 2) (sSet 1 (cBin oMod (cBin (oAdd false) (cBin (oAdd false) (cBin oMul (cVar 1) (cK (.int 48271))) (cBin oMod (cVar 2) (cK (.int 1000003)))) (cK (.int 11))) (cK (.int 2147483647)))))
  (sRet (cLst true (cCons (cB (fList false) (cCons (cSl false (cVar 0) cNoPart (cPart (cK (.int 63)))) cNil)) (cCons (cK (.int 0)) (cCons (cK (.int 0)) (cCons (cVar 1) cNil))))))))
def F_law_box : FnT := fnOf 3 1 B_law_box
theorem ok_law_box {P : Program} {w : World} {K : PySem.W.Frag} {mg : Str → Option Value} {base : Heap} {f : Addr} {fd : FuncData} {kws : List (Str × V)} (F : FnP K "_law_box" s_law_box kws f fd)
    (m_list : mg "list" = none) :
    FnOk P w K mg base (L2.CX P w) 1 f fd ["script"] (spOf (cf K) F_law_box) :=
  fn_ok (k := 0) F sc_law_box fun cdv A outer s H E hr =>
  (ss_cons (s_set (i := 1) sc_law_box.nd rfl (by first | exact Or.inl rfl | exact Or.inr rfl) (e_int pe_int))
  (ss_cons (s_for (passes_of rfl) rfl (i_seq rfl (e_slice (m := false) rfl (e_var (pv 0)) p_none (p_some (e_int pe_int)))) (g_name (pg_name (i := 2) sc_law_box.nd rfl (by first | exact Or.inl rfl | exact Or.inr rfl))) (ss_one (s_set (i := 1) sc_law_box.nd rfl (by first | exact Or.inl rfl | exact Or.inr rfl) (b_mod (b_add (m := false) (b_add (m := false) (b_mul (e_var (pv 1)) (e_int pe_int)) (b_mod (e_var (pv 2)) (e_int pe_int))) (e_int pe_int)) (e_int pe_int)))))
  (ss_one (s_ret (e_lst (m := true) (a_cons (e_ct call_list_of (fList_ok (m := false)) (by rfl) m_list (by decide +kernel) (a_cons (e_slice (m := false) rfl (e_var (pv 0)) p_none (p_some (e_int pe_int))) a_nil)) (a_cons (e_int pe_int) (a_cons (e_int pe_int) (a_cons (e_var (pv 1)) a_nil)))))))))
/-! need_things -/
abbrev s_need_things : Stmt := top 8
theorem sc_need_things : FnScope ["things"] ["things"] (defScope s_need_things) := ⟨rfl, rfl, rfl, by decide +kernel, rfl, by decide +kernel, by decide +kernel⟩
def B_need_things : Ss :=
  (sIf (cTnot (cTv (cChain oLe oLe (cK (.int 0)) (cVar 0) (cK (.int 10))))) sNo
  sNil)
def F_need_things : FnT := fnOf 1 1 B_need_things
theorem ok_need_things {P : Program} {w : World} {K : PySem.W.Frag} {mg : Str → Option Value} {base : Heap} {f : Addr} {fd : FuncData} {kws : List (Str × V)} (F : FnP K "need_things" s_need_things kws f fd)
    (g_MOST_THINGS : ∃ t, mg "MOST_THINGS" = some (.int 10 t)) :
    FnOk P w K mg base (L2.CX P w) 1 f fd ["things"] (spOf (cf K) F_need_things) :=
  fn_ok (k := 0) F sc_need_things fun cdv A outer s H E hr =>
  (ss_one (s_if (t_not (t_le_le (e_int pe_int) (e_var (pv 0)) (e_int (pe_glob (by rfl) g_MOST_THINGS.choose_spec ⟨_, rfl⟩)))) (ss_one s_no)
  ss_nil))
/-! full_of -/
abbrev s_full_of : Stmt := top 11
theorem sc_full_of : FnScope ["things"] ["things"] (defScope s_full_of) := ⟨rfl, rfl, rfl, by decide +kernel, rfl, by decide +kernel, by decide +kernel⟩
def B_full_of : Ss :=
  (sRet (cBin oSub (cBin oShl (cK (.int 1)) (cBin oShl (cK (.int 1)) (cVar 0))) (cK (.int 1))))
def F_full_of : FnT := fnOf 1 1 B_full_of
theorem ok_full_of {P : Program} {w : World} {K : PySem.W.Frag} {mg : Str → Option Value} {base : Heap} {f : Addr} {fd : FuncData} {kws : List (Str × V)} (F : FnP K "full_of" s_full_of kws f fd) :
    FnOk P w K mg base (L2.CX P w) 1 f fd ["things"] (spOf (cf K) F_full_of) :=
  fn_ok (k := 0) F sc_full_of fun cdv A outer s H E hr =>
  (ss_one (s_ret (b_sub (b_shl (e_int pe_int) (b_shl (e_int pe_int) (e_var (pv 0)))) (e_int pe_int))))
/-! need_table -/
abbrev s_need_table : Stmt := top 9
theorem sc_need_table : FnScope ["table", "things"] ["table", "things"] (defScope s_need_table) := ⟨rfl, rfl, rfl, by decide +kernel, rfl, by decide +kernel, by decide +kernel⟩
def B_need_table : Ss :=
  (sSeq (sExpr (cCall F_need_things [] (cCons (cVar 1) cNil)))
  (sIf (cTnot (cTv (cChain oLe oLe (cK (.int 0)) (cVar 0) (cCall F_full_of [] (cCons (cVar 1) cNil))))) sNo
  sNil))
def F_need_table : FnT := fnOf 2 2 B_need_table
theorem ok_need_table {P : Program} {w : World} {K : PySem.W.Frag} {mg : Str → Option Value} {base : Heap} {f : Addr} {fd : FuncData} {kws : List (Str × V)} (F : FnP K "need_table" s_need_table kws f fd)
    (C_need_things : CallOk P w K mg base (cf K) "need_things" 1 F_need_things [])
    (C_full_of : CallOk P w K mg base (cf K) "full_of" 1 F_full_of []) :
    FnOk P w K mg base (L2.CX P w) 2 f fd ["table", "things"] (spOf (cf K) F_need_table) :=
  fn_ok (k := 1) F sc_need_table fun cdv A outer s H E hr =>
  (ss_cons (s_expr (e_callC C_need_things hr (by decide) (by rfl) (takes_of rfl rfl rfl rfl) (a_cons (e_var (pv 1)) a_nil)))
  (ss_one (s_if (t_not (t_le_le (e_int pe_int) (e_var (pv 0)) (e_callC C_full_of hr (by decide) (by rfl) (takes_of rfl rfl rfl rfl) (a_cons (e_var (pv 1)) a_nil)))) (ss_one s_no)
  ss_nil)))
/-! column_of -/
abbrev s_column_of : Stmt := top 12
theorem sc_column_of : FnScope ["things", "at", "wide", "found", "size"] ["things", "at"] (defScope s_column_of) := ⟨rfl, rfl, rfl, by decide +kernel, rfl, by decide +kernel, by decide +kernel⟩
def B_column_of : Ss :=
  (sSeq (sSet 2 (cBin oShl (cK (.int 1)) (cVar 1)))
  (sSeq (sSet 3 (cBin oShl (cBin oSub (cBin oShl (cK (.int 1)) (cVar 2)) (cK (.int 1))) (cVar 2)))
  (sSeq (sSet 4 (cBin oMul (cK (.int 2)) (cVar 2)))
  (sSeq (whileL (cTv (cBin oLt (cVar 4) (cBin oShl (cK (.int 1)) (cVar 0)))) (sSeq (sAug 3 oOr (cBin oShl (cVar 3) (cVar 4)))
  (sAug 4 oShl (cK (.int 1)))) fuel)
  (sRet (cVar 3))))))
def F_column_of : FnT := fnOf 5 2 B_column_of
theorem ok_column_of {P : Program} {w : World} {K : PySem.W.Frag} {mg : Str → Option Value} {base : Heap} {f : Addr} {fd : FuncData} {kws : List (Str × V)} (F : FnP K "column_of" s_column_of kws f fd) :
    FnOk P w K mg base (L2.CX P w) 1 f fd ["things", "at"] (spOf (cf K) F_column_of) :=
  fn_ok (k := 0) F sc_column_of fun cdv A outer s H E hr =>
  (ss_cons (s_set (i := 2) sc_column_of.nd rfl (by first | exact Or.inl rfl | exact Or.inr rfl) (b_shl (e_int pe_int) (e_var (pv 1))))
  (ss_cons (s_set (i := 3) sc_column_of.nd rfl (by first | exact Or.inl rfl | exact Or.inr rfl) (b_shl (b_sub (b_shl (e_int pe_int) (e_var (pv 2))) (e_int pe_int)) (e_var (pv 2))))
  (ss_cons (s_set (i := 4) sc_column_of.nd rfl (by first | exact Or.inl rfl | exact Or.inr rfl) (b_mul (e_int pe_int) (e_var (pv 2))))
  (ss_cons (s_while fuel (passes_of rfl) (t_lt (e_var (pv 4)) (b_shl (e_int pe_int) (e_var (pv 0)))) (ss_cons (s_aug (i := 3) sc_column_of.nd rfl (by first | exact Or.inl rfl | exact Or.inr rfl) iop_or iop0_ok (b_shl (e_var (pv 3)) (e_var (pv 4))))
  (ss_one (s_aug (i := 4) sc_column_of.nd rfl (by first | exact Or.inl rfl | exact Or.inr rfl) iop_shlW (iop_ok gShl_ok) (e_int pe_int)))))
  (ss_one (s_ret (e_var (pv 3))))))))
/-! half_of -/
abbrev s_half_of : Stmt := top 13
theorem sc_half_of : FnScope ["table", "things", "at", "value", "column", "wide", "kept"] ["table", "things", "at", "value"] (defScope s_half_of) := ⟨rfl, rfl, rfl, by decide +kernel, rfl, by decide +kernel, by decide +kernel⟩
def B_half_of : Ss :=
  (sSeq (sSet 4 (cCall F_column_of [] (cCons (cVar 1) (cCons (cVar 2) cNil))))
  (sSeq (sSet 5 (cBin oShl (cK (.int 1)) (cVar 2)))
  (sSeq (sIf (cTv (cBin oEq (cVar 3) (cK (.int 1)))) (sSeq (sSet 6 (cBin oAnd (cVar 0) (cVar 4)))
  (sRet (cBin oOr (cVar 6) (cBin oShr (cVar 6) (cVar 5)))))
  sNil)
  (sSeq (sSet 6 (cBin oAnd (cVar 0) (cBin oXor (cCall F_full_of [] (cCons (cVar 1) cNil)) (cVar 4))))
  (sRet (cBin oOr (cVar 6) (cBin oShl (cVar 6) (cVar 5))))))))
def F_half_of : FnT := fnOf 7 4 B_half_of
theorem ok_half_of {P : Program} {w : World} {K : PySem.W.Frag} {mg : Str → Option Value} {base : Heap} {f : Addr} {fd : FuncData} {kws : List (Str × V)} (F : FnP K "half_of" s_half_of kws f fd)
    (C_column_of : CallOk P w K mg base (cf K) "column_of" 1 F_column_of [])
    (C_full_of : CallOk P w K mg base (cf K) "full_of" 1 F_full_of []) :
    FnOk P w K mg base (L2.CX P w) 2 f fd ["table", "things", "at", "value"] (spOf (cf K) F_half_of) :=
  fn_ok (k := 1) F sc_half_of fun cdv A outer s H E hr =>
  (ss_cons (s_set (i := 4) sc_half_of.nd rfl (by first | exact Or.inl rfl | exact Or.inr rfl) (e_callC C_column_of hr (by decide) (by rfl) (takes_of rfl rfl rfl rfl) (a_cons (e_var (pv 1)) (a_cons (e_var (pv 2)) a_nil))))
  (ss_cons (s_set (i := 5) sc_half_of.nd rfl (by first | exact Or.inl rfl | exact Or.inr rfl) (b_shl (e_int pe_int) (e_var (pv 2))))
  (ss_cons (s_if (t_eq rfl hr.units (e_var (pv 3)) (e_int pe_int)) (ss_cons (s_set (i := 6) sc_half_of.nd rfl (by first | exact Or.inl rfl | exact Or.inr rfl) (b_and (e_var (pv 0)) (e_var (pv 4))))
  (ss_one (s_ret (b_or (e_var (pv 6)) (b_shr (e_var (pv 6)) (e_var (pv 5)))))))
  ss_nil)
  (ss_cons (s_set (i := 6) sc_half_of.nd rfl (by first | exact Or.inl rfl | exact Or.inr rfl) (b_and (e_var (pv 0)) (b_xor (e_callC C_full_of hr (by decide) (by rfl) (takes_of rfl rfl rfl rfl) (a_cons (e_var (pv 1)) a_nil)) (e_var (pv 4)))))
  (ss_one (s_ret (b_or (e_var (pv 6)) (b_shl (e_var (pv 6)) (e_var (pv 5))))))))))
/-! support_of -/
abbrev s_support_of : Stmt := top 14
theorem sc_support_of : FnScope ["table", "things", "at"] ["table", "things"] (defScope s_support_of) := ⟨rfl, rfl, rfl, by decide +kernel, rfl, by decide +kernel, by decide +kernel⟩
def B_support_of : Ss :=
  (sRet (cLc false (iRange1 (cCons (cVar 1) cNil)) (fName 2) (cTv (cBin oNe (cCall F_half_of [] (cCons (cVar 0) (cCons (cVar 1) (cCons (cVar 2) (cCons (cK (.int 0)) cNil))))) (cCall F_half_of [] (cCons (cVar 0) (cCons (cVar 1) (cCons (cVar 2) (cCons (cK (.int 1)) cNil))))))) (cVar 2) [2]))
def F_support_of : FnT := fnOf 3 2 B_support_of
theorem ok_support_of {P : Program} {w : World} {K : PySem.W.Frag} {mg : Str → Option Value} {base : Heap} {f : Addr} {fd : FuncData} {kws : List (Str × V)} (F : FnP K "support_of" s_support_of kws f fd)
    (m_range : mg "range" = none)
    (C_half_of : CallOk P w K mg base (cf K) "half_of" 2 F_half_of []) :
    FnOk P w K mg base (L2.CX P w) 3 f fd ["table", "things"] (spOf (cf K) F_support_of) :=
  fn_ok (k := 2) F sc_support_of fun cdv A outer s H E hr =>
  (ss_one (s_ret (e_lc (m := false) (own := [("at", 2)]) (gt := (gName 2)) rfl sc_support_of.nd (i_range1 (by rfl) m_range (a_cons (e_var (pv 1)) a_nil)) (blkOk_by (by show blkC ["table", "things", "at"] (defScope s_support_of) _ _ = true; decide +kernel)) (fun _ _ _ _ _ => pg_name (i := 2) sc_support_of.nd rfl (Or.inl rfl)) (tg_name (by decide)) (fun _ _ _ _ _ => (ts_one (t_ne rfl hr.units (e_callC C_half_of hr (by decide) (by rfl) L2.takes0 (a_cons (e_var (pv 0)) (a_cons (e_var (pv 1)) (a_cons (e_var (pv 2)) (a_cons (e_int pe_int) a_nil))))) (e_callC C_half_of hr (by decide) (by rfl) L2.takes0 (a_cons (e_var (pv 0)) (a_cons (e_var (pv 1)) (a_cons (e_var (pv 2)) (a_cons (e_int pe_int) a_nil)))))))) (fun _ _ _ _ _ => (e_var (pv 2))))))
/-! hung_on -/
abbrev s_hung_on : Stmt := top 17
theorem sc_hung_on : FnScope ["table", "things"] ["table", "things"] (defScope s_hung_on) := ⟨rfl, rfl, rfl, by decide +kernel, rfl, by decide +kernel, by decide +kernel⟩
def B_hung_on : Ss :=
  (sSeq (sExpr (cCall F_need_table [] (cCons (cVar 0) (cCons (cVar 1) cNil))))
  (sRet (cCall F_support_of [] (cCons (cVar 0) (cCons (cVar 1) cNil)))))
def F_hung_on : FnT := fnOf 2 2 B_hung_on
theorem ok_hung_on {P : Program} {w : World} {K : PySem.W.Frag} {mg : Str → Option Value} {base : Heap} {f : Addr} {fd : FuncData} {kws : List (Str × V)} (F : FnP K "hung_on" s_hung_on kws f fd)
    (C_need_table : CallOk P w K mg base (cf K) "need_table" 2 F_need_table [])
    (C_support_of : CallOk P w K mg base (cf K) "support_of" 3 F_support_of []) :
    FnOk P w K mg base (L2.CX P w) 4 f fd ["table", "things"] (spOf (cf K) F_hung_on) :=
  fn_ok (k := 3) F sc_hung_on fun cdv A outer s H E hr =>
  (ss_cons (s_expr (e_callC C_need_table hr (by decide) (by rfl) (takes_of rfl rfl rfl rfl) (a_cons (e_var (pv 0)) (a_cons (e_var (pv 1)) a_nil))))
  (ss_one (s_ret (e_callC C_support_of hr (by decide) (by rfl) (takes_of rfl rfl rfl rfl) (a_cons (e_var (pv 0)) (a_cons (e_var (pv 1)) a_nil))))))
/-! need_thing -/
abbrev s_need_thing : Stmt := top 10
theorem sc_need_thing : FnScope ["things", "at"] ["things", "at"] (defScope s_need_thing) := ⟨rfl, rfl, rfl, by decide +kernel, rfl, by decide +kernel, by decide +kernel⟩
def B_need_thing : Ss :=
  (sIf (cTnot (cTv (cChain oLe oLt (cK (.int 0)) (cVar 1) (cVar 0)))) sNo
  sNil)
def F_need_thing : FnT := fnOf 2 2 B_need_thing
theorem ok_need_thing {P : Program} {w : World} {K : PySem.W.Frag} {mg : Str → Option Value} {base : Heap} {f : Addr} {fd : FuncData} {kws : List (Str × V)} (F : FnP K "need_thing" s_need_thing kws f fd) :
    FnOk P w K mg base (L2.CX P w) 1 f fd ["things", "at"] (spOf (cf K) F_need_thing) :=
  fn_ok (k := 0) F sc_need_thing fun cdv A outer s H E hr =>
  (ss_one (s_if (t_not (t_le_lt (e_int pe_int) (e_var (pv 1)) (e_var (pv 0)))) (ss_one s_no)
  ss_nil))
/-! narrowed -/
abbrev s_narrowed : Stmt := top 19
theorem sc_narrowed : FnScope ["table", "things", "some", "at", "found", "row", "there", "k"] ["table", "things", "some"] (defScope s_narrowed) := ⟨rfl, rfl, rfl, by decide +kernel, rfl, by decide +kernel, by decide +kernel⟩
def B_narrowed : Ss :=
  (sSeq (sExpr (cCall F_need_table [] (cCons (cVar 0) (cCons (cVar 1) cNil))))
  (sSeq (sFor (iSeqD (cVar 2)) (gtName 3) (sExpr (cCall F_need_thing [] (cCons (cVar 1) (cCons (cVar 3) cNil)))))
  (sSeq (sSet 4 (cK (.int 0)))
  (sSeq (sFor (iRange1 (cCons (cBin oShl (cK (.int 1)) (cB fLen (cCons (cVar 2) cNil))) cNil)) (gtName 5) (sSeq (sSet 6 (cSumS (cLc false (iEnumD (cCons (cVar 2) cNil)) (fTup [7, 3]) cYes (cBin oShl (cBin oAnd (cBin oShr (cVar 5) (cVar 7)) (cK (.int 1))) (cVar 3)) [7, 3]) (cK (.int 0))))
  (sAug 4 oOr (cBin oShl (cBin oAnd (cBin oShr (cVar 0) (cVar 6)) (cK (.int 1))) (cVar 5)))))
  (sRet (cVar 4))))))
def F_narrowed : FnT := fnOf 8 3 B_narrowed
theorem ok_narrowed {P : Program} {w : World} {K : PySem.W.Frag} {mg : Str → Option Value} {base : Heap} {f : Addr} {fd : FuncData} {kws : List (Str × V)} (F : FnP K "narrowed" s_narrowed kws f fd)
    (m_len : mg "len" = none)
    (m_range : mg "range" = none)
    (m_enumerate : mg "enumerate" = none)
    (m_sum : mg "sum" = none)
    (C_need_table : CallOk P w K mg base (cf K) "need_table" 2 F_need_table [])
    (C_need_thing : CallOk P w K mg base (cf K) "need_thing" 1 F_need_thing []) :
    FnOk P w K mg base (L2.CX P w) 3 f fd ["table", "things", "some"] (spOf (cf K) F_narrowed) :=
  fn_ok (k := 2) F sc_narrowed fun cdv A outer s H E hr =>
  (ss_cons (s_expr (e_callC C_need_table hr (by decide) (by rfl) (takes_of rfl rfl rfl rfl) (a_cons (e_var (pv 0)) (a_cons (e_var (pv 1)) a_nil))))
  (ss_cons (s_for (passes_of rfl) rfl (i_seq rfl (e_var (pv 2))) (g_name (pg_name (i := 3) sc_narrowed.nd rfl (by first | exact Or.inl rfl | exact Or.inr rfl))) (ss_one (s_expr (e_callC C_need_thing hr (by decide) (by rfl) (takes_of rfl rfl rfl rfl) (a_cons (e_var (pv 1)) (a_cons (e_var (pv 3)) a_nil))))))
  (ss_cons (s_set (i := 4) sc_narrowed.nd rfl (by first | exact Or.inl rfl | exact Or.inr rfl) (e_int pe_int))
  (ss_cons (s_for (passes_of rfl) rfl (i_range1 (by rfl) m_range (a_cons (b_shl (e_int pe_int) (e_cb rLen_ok fLen_ok (by rfl) m_len (by decide +kernel) (a_cons (e_var (pv 2)) a_nil))) a_nil)) (g_name (pg_name (i := 5) sc_narrowed.nd rfl (by first | exact Or.inl rfl | exact Or.inr rfl))) (ss_cons (s_set (i := 6) sc_narrowed.nd rfl (by first | exact Or.inl rfl | exact Or.inr rfl) (e_sumS (by rfl) m_sum (e_lc (m := false) (own := [("k", 7), ("at", 3)]) (gt := (gTup K 2 (gNs [7, 3]))) rfl sc_narrowed.nd (i_enum rfl (by rfl) m_enumerate (a_cons (e_var (pv 2)) a_nil)) (blkOk_by (by show blkC ["table", "things", "some", "at", "found", "row", "there", "k"] (defScope s_narrowed) _ _ = true; decide +kernel)) (fun _ _ _ _ _ => pg_tup rfl (pgs_cons (pg_name (i := 7) sc_narrowed.nd rfl (Or.inl rfl)) (pgs_cons (pg_name (i := 3) sc_narrowed.nd rfl (Or.inl rfl)) pgs_nil))) (tg_tup (vs := [7, 3]) (is := [7, 3]) (by decide)) (fun _ _ _ _ _ => ts_nil) (fun _ _ _ _ _ => (b_shl (b_and (b_shr (e_var (pv 5)) (e_var (pv 7))) (e_int pe_int)) (e_var (pv 3))))) (e_int pe_int) fun a k => pe_sumS rfl (by rfl) m_sum a k))
  (ss_one (s_aug (i := 4) sc_narrowed.nd rfl (by first | exact Or.inl rfl | exact Or.inr rfl) iop_or iop0_ok (b_shl (b_and (b_shr (e_var (pv 0)) (e_var (pv 6))) (e_int pe_int)) (e_var (pv 5)))))))
  (ss_one (s_ret (e_var (pv 4))))))))
/-! _law_take -/
abbrev s_law_take : Stmt := top 24
theorem sc_law_take : FnScope ["box", "many", "rest", "one", "mixed"] ["box", "many"] (defScope s_law_take) := ⟨rfl, rfl, rfl, by decide +kernel, rfl, by decide +kernel, by decide +kernel⟩
def B_law_take : Ss :=
  (sSeq (sIf (cTv (cBin oGt (cBin oIx (cVar 0) (cK (.int 2))) (cK (.int 0)))) (sSeq (sSet 2 (cBin oIx (cVar 0) (cK (.int 2))))
  (sSeq (sPut (cBin oDiv (cVar 2) (cVar 1)) (cVar 0) (cK (.int 2)))
  (sRet (cBin oMod (cVar 2) (cVar 1)))))
  sNil)
  (sSeq (sSet 3 (cK (.int 0)))
  (sSeq (sIf (cTv (cBin oLt (cBin oIx (cVar 0) (cK (.int 1))) (cB fLen (cCons (cBin oIx (cVar 0) (cK (.int 0))) cNil)))) (sSet 3 (cBin oIx (cBin oIx (cVar 0) (cK (.int 0))) (cBin oIx (cVar 0) (cK (.int 1)))))
  sNil)
  (sSeq (sAugAt oAddI (cVar 0) (cK (.int 1)) (cK (.int 1)))
  (sSeq (sIf (cTv (cBin oGe (cVar 3) (cBin oPow (cK (.int 10)) (cK (.int 18))))) (sSeq (sPut (cBin oDiv (cVar 3) (cVar 1)) (cVar 0) (cK (.int 2)))
  (sRet (cBin oMod (cVar 3) (cVar 1))))
  sNil)
  (sSeq (sSet 4 (cBin oMod (cBin (oAdd false) (cBin (oAdd false) (cBin oIx (cVar 0) (cK (.int 3))) (cBin oMul (cBin oMod (cVar 3) (cK (.int 2147483629))) (cK (.int 69621)))) (cBin oMul (cBin oIx (cVar 0) (cK (.int 1))) (cK (.int 104729)))) (cK (.int 2147483587))))
  (sSeq (sSet 4 (cBin oMod (cBin (oAdd false) (cBin (oAdd false) (cBin oMul (cVar 4) (cVar 4)) (cBin oMul (cK (.int 40961)) (cVar 4))) (cK (.int 77))) (cK (.int 2147483629))))
  (sSeq (sPut (cBin oMod (cBin (oAdd false) (cBin (oAdd false) (cBin oMul (cVar 4) (cK (.int 16807))) (cBin oMod (cBin oIx (cVar 0) (cK (.int 3))) (cK (.int 8191)))) (cK (.int 5))) (cK (.int 2147483587))) (cVar 0) (cK (.int 3)))
  (sRet (cBin oMod (cBin oDiv (cBin oIx (cVar 0) (cK (.int 3))) (cK (.int 61))) (cVar 1)))))))))))
def F_law_take : FnT := fnOf 5 2 B_law_take
theorem ok_law_take {P : Program} {w : World} {K : PySem.W.Frag} {mg : Str → Option Value} {base : Heap} {f : Addr} {fd : FuncData} {kws : List (Str × V)} (F : FnP K "_law_take" s_law_take kws f fd)
    (m_len : mg "len" = none) :
    FnOk P w K mg base (L2.CX P w) 1 f fd ["box", "many"] (spOf (cf K) F_law_take) :=
  fn_ok (k := 0) F sc_law_take fun cdv A outer s H E hr =>
  (ss_cons (s_if (t_gt (e_item rfl (e_var (pv 0)) (e_int pe_int)) (e_int pe_int)) (ss_cons (s_set (i := 2) sc_law_take.nd rfl (by first | exact Or.inl rfl | exact Or.inr rfl) (e_item rfl (e_var (pv 0)) (e_int pe_int)))
  (ss_cons (s_put (b_div (e_var (pv 2)) (e_var (pv 1))) (e_var (pv 0)) (e_int pe_int) fun a b c => ps_put a b c)
  (ss_one (s_ret (b_mod (e_var (pv 2)) (e_var (pv 1)))))))
  ss_nil)
  (ss_cons (s_set (i := 3) sc_law_take.nd rfl (by first | exact Or.inl rfl | exact Or.inr rfl) (e_int pe_int))
  (ss_cons (s_if (t_lt (e_item rfl (e_var (pv 0)) (e_int pe_int)) (e_cb rLen_ok fLen_ok (by rfl) m_len (by decide +kernel) (a_cons (e_item rfl (e_var (pv 0)) (e_int pe_int)) a_nil))) (ss_one (s_set (i := 3) sc_law_take.nd rfl (by first | exact Or.inl rfl | exact Or.inr rfl) (e_item rfl (e_item rfl (e_var (pv 0)) (e_int pe_int)) (e_item rfl (e_var (pv 0)) (e_int pe_int)))))
  ss_nil)
  (ss_cons (s_augAt rfl iop_add iop0_ok (e_var (pv 0)) (e_int pe_int) (e_int pe_int))
  (ss_cons (s_if (t_ge (e_var (pv 3)) (b_pow (e_int pe_int) (e_int pe_int))) (ss_cons (s_put (b_div (e_var (pv 3)) (e_var (pv 1))) (e_var (pv 0)) (e_int pe_int) fun a b c => ps_put a b c)
  (ss_one (s_ret (b_mod (e_var (pv 3)) (e_var (pv 1))))))
  ss_nil)
  (ss_cons (s_set (i := 4) sc_law_take.nd rfl (by first | exact Or.inl rfl | exact Or.inr rfl) (b_mod (b_add (m := false) (b_add (m := false) (e_item rfl (e_var (pv 0)) (e_int pe_int)) (b_mul (b_mod (e_var (pv 3)) (e_int pe_int)) (e_int pe_int))) (b_mul (e_item rfl (e_var (pv 0)) (e_int pe_int)) (e_int pe_int))) (e_int pe_int)))
  (ss_cons (s_set (i := 4) sc_law_take.nd rfl (by first | exact Or.inl rfl | exact Or.inr rfl) (b_mod (b_add (m := false) (b_add (m := false) (b_mul (e_var (pv 4)) (e_var (pv 4))) (b_mul (e_int pe_int) (e_var (pv 4)))) (e_int pe_int)) (e_int pe_int)))
  (ss_cons (s_put (b_mod (b_add (m := false) (b_add (m := false) (b_mul (e_var (pv 4)) (e_int pe_int)) (b_mod (e_item rfl (e_var (pv 0)) (e_int pe_int)) (e_int pe_int))) (e_int pe_int)) (e_int pe_int)) (e_var (pv 0)) (e_int pe_int) fun a b c => ps_put a b c)
  (ss_one (s_ret (b_mod (b_div (e_item rfl (e_var (pv 0)) (e_int pe_int)) (e_int pe_int)) (e_var (pv 1)))))))))))))
/-! column -/
abbrev s_column : Stmt := top 15
theorem sc_column : FnScope ["things", "at"] ["things", "at"] (defScope s_column) := ⟨rfl, rfl, rfl, by decide +kernel, rfl, by decide +kernel, by decide +kernel⟩
def B_column : Ss :=
  (sSeq (sExpr (cCall F_need_things [] (cCons (cVar 0) cNil)))
  (sSeq (sExpr (cCall F_need_thing [] (cCons (cVar 0) (cCons (cVar 1) cNil))))
  (sRet (cCall F_column_of [] (cCons (cVar 0) (cCons (cVar 1) cNil))))))
def F_column : FnT := fnOf 2 2 B_column
theorem ok_column {P : Program} {w : World} {K : PySem.W.Frag} {mg : Str → Option Value} {base : Heap} {f : Addr} {fd : FuncData} {kws : List (Str × V)} (F : FnP K "column" s_column kws f fd)
    (C_need_things : CallOk P w K mg base (cf K) "need_things" 1 F_need_things [])
    (C_need_thing : CallOk P w K mg base (cf K) "need_thing" 1 F_need_thing [])
    (C_column_of : CallOk P w K mg base (cf K) "column_of" 1 F_column_of []) :
    FnOk P w K mg base (L2.CX P w) 2 f fd ["things", "at"] (spOf (cf K) F_column) :=
  fn_ok (k := 1) F sc_column fun cdv A outer s H E hr =>
  (ss_cons (s_expr (e_callC C_need_things hr (by decide) (by rfl) (takes_of rfl rfl rfl rfl) (a_cons (e_var (pv 0)) a_nil)))
  (ss_cons (s_expr (e_callC C_need_thing hr (by decide) (by rfl) (takes_of rfl rfl rfl rfl) (a_cons (e_var (pv 0)) (a_cons (e_var (pv 1)) a_nil))))
  (ss_one (s_ret (e_callC C_column_of hr (by decide) (by rfl) (takes_of rfl rfl rfl rfl) (a_cons (e_var (pv 0)) (a_cons (e_var (pv 1)) a_nil)))))))
/-! read_table -/
abbrev s_read_table : Stmt := top 21
theorem sc_read_table : FnScope ["text", "sizes", "sign", "things"] ["text"] (defScope s_read_table) := ⟨rfl, rfl, rfl, by decide +kernel, rfl, by decide +kernel, by decide +kernel⟩
def B_read_table : Ss :=
  (sSeq (sSet 1 (cDc (iRange1 (cCons (cBin (oAdd false) (cK (.int 10)) (cK (.int 1))) cNil)) (fName 3) cYes (cBin oShl (cK (.int 1)) (cVar 3)) (cVar 3) [3]))
  (sSeq (sIf (cTor (cTv (cBin oDnotin (cB fLen (cCons (cVar 0) cNil)) (cVar 1))) (cTnot (cTv (cB fAll (cCons (cLc false (iSeqD (cVar 0)) (fName 2) cYes (cBin oIn (cVar 2) (cK (.str (PySem.Str.ofString "01")))) [2]) cNil))))) sNo
  sNil)
  (sRet (cTup (cCons (cB fInt2 (cCons (cVar 0) (cCons (cK (.int 2)) cNil))) (cCons (cBin oDget (cVar 1) (cB fLen (cCons (cVar 0) cNil))) cNil))))))
def F_read_table : FnT := fnOf 4 1 B_read_table
theorem ok_read_table {P : Program} {w : World} {K : PySem.W.Frag} {mg : Str → Option Value} {base : Heap} {f : Addr} {fd : FuncData} {kws : List (Str × V)} (F : FnP K "read_table" s_read_table kws f fd)
    (m_range : mg "range" = none)
    (m_len : mg "len" = none)
    (m_all : mg "all" = none)
    (m_int : mg "int" = none)
    (nd2 : I2.noDig K = true)
    (g_MOST_THINGS : ∃ t, mg "MOST_THINGS" = some (.int 10 t)) :
    FnOk P w K mg base (L2.CX P w) 1 f fd ["text"] (spOf (cf K) F_read_table) :=
  fn_ok (k := 0) F sc_read_table fun cdv A outer s H E hr =>
  (ss_cons (s_setDc (i := 1) (own := [("things", 3)]) (gt := gName 3) rfl sc_read_table.nd rfl rfl (swd_true rfl rfl rfl (by decide +kernel)) (i_range1 (by rfl) m_range (a_cons (b_add (m := false) (e_int (pe_glob (by rfl) g_MOST_THINGS.choose_spec ⟨_, rfl⟩)) (e_int pe_int)) a_nil)) (blkOk_by (by show blkC ["text", "sizes", "sign", "things"] (defScope s_read_table) _ _ = true; decide +kernel)) (fun _ _ _ _ _ => pg_name (i := 3) sc_read_table.nd rfl (Or.inl rfl)) (tg_name (by decide)) (fun _ _ _ _ _ => ts_nil) (fun _ _ _ _ _ => (b_shl (e_int pe_int) (e_var (pv 3)))) (fun _ _ _ _ _ => (e_var (pv 3))))
  (ss_cons (s_if (PW.pt (w_or (t_dnotin (hu_of hr) (e_cb rLen_ok fLen_ok (by rfl) m_len (by decide +kernel) (a_cons (e_var (pv 0)) a_nil)) (e_var (pv 1))) (w_or1 (t_not (t_val (e_cb (cr_all rfl) fAll_ok (by rfl) m_all (by decide +kernel) (a_cons (e_lc (m := false) (own := [("sign", 2)]) (gt := (gName 2)) rfl sc_read_table.nd (i_seq rfl (e_var (pv 0))) (blkOk_by (by show blkC ["text", "sizes", "sign", "things"] (defScope s_read_table) _ _ = true; decide +kernel)) (fun _ _ _ _ _ => pg_name (i := 2) sc_read_table.nd rfl (Or.inl rfl)) (tg_name (by decide)) (fun _ _ _ _ _ => ts_nil) (fun _ _ _ _ _ => (e_in rfl (e_var (pv 2)) (e_str pe_str)))) a_nil))))))) (ss_one s_no)
  ss_nil)
  (ss_one (s_ret (e_tup (a_cons (e_ct (call_int2 nd2) fInt2_ok (by rfl) m_int (by decide +kernel) (a_cons (e_var (pv 0)) (a_cons (e_int pe_int) a_nil))) (a_cons (e_dget (hu_of hr) (e_var (pv 1)) (e_cb rLen_ok fLen_ok (by rfl) m_len (by decide +kernel) (a_cons (e_var (pv 0)) a_nil)) (fun _ _ => by rfl)) a_nil)))))))
/-! half -/
abbrev s_half : Stmt := top 16
theorem sc_half : FnScope ["table", "things", "at", "value"] ["table", "things", "at", "value"] (defScope s_half) := ⟨rfl, rfl, rfl, by decide +kernel, rfl, by decide +kernel, by decide +kernel⟩
def B_half : Ss :=
  (sSeq (sExpr (cCall F_need_table [] (cCons (cVar 0) (cCons (cVar 1) cNil))))
  (sSeq (sExpr (cCall F_need_thing [] (cCons (cVar 1) (cCons (cVar 2) cNil))))
  (sRet (cCall F_half_of [] (cCons (cVar 0) (cCons (cVar 1) (cCons (cVar 2) (cCons (cVar 3) cNil))))))))
def F_half : FnT := fnOf 4 4 B_half
theorem ok_half {P : Program} {w : World} {K : PySem.W.Frag} {mg : Str → Option Value} {base : Heap} {f : Addr} {fd : FuncData} {kws : List (Str × V)} (F : FnP K "half" s_half kws f fd)
    (C_need_table : CallOk P w K mg base (cf K) "need_table" 2 F_need_table [])
    (C_need_thing : CallOk P w K mg base (cf K) "need_thing" 1 F_need_thing [])
    (C_half_of : CallOk P w K mg base (cf K) "half_of" 2 F_half_of []) :
    FnOk P w K mg base (L2.CX P w) 3 f fd ["table", "things", "at", "value"] (spOf (cf K) F_half) :=
  fn_ok (k := 2) F sc_half fun cdv A outer s H E hr =>
  (ss_cons (s_expr (e_callC C_need_table hr (by decide) (by rfl) (takes_of rfl rfl rfl rfl) (a_cons (e_var (pv 0)) (a_cons (e_var (pv 1)) a_nil))))
  (ss_cons (s_expr (e_callC C_need_thing hr (by decide) (by rfl) (takes_of rfl rfl rfl rfl) (a_cons (e_var (pv 1)) (a_cons (e_var (pv 2)) a_nil))))
  (ss_one (s_ret (e_callC C_half_of hr (by decide) (by rfl) (takes_of rfl rfl rfl rfl) (a_cons (e_var (pv 0)) (a_cons (e_var (pv 1)) (a_cons (e_var (pv 2)) (a_cons (e_var (pv 3)) a_nil)))))))))
/-! table_text -/
abbrev s_table_text : Stmt := top 20
theorem sc_table_text : FnScope ["table", "things", "row"] ["table", "things"] (defScope s_table_text) := ⟨rfl, rfl, rfl, by decide +kernel, rfl, by decide +kernel, by decide +kernel⟩
def B_table_text : Ss :=
  (sSeq (sExpr (cCall F_need_table [] (cCons (cVar 0) (cCons (cVar 1) cNil))))
  (sRet (cMt "str" mJoin (cK (.str (PySem.Str.ofString ""))) (cCons (cLc false (iRevRange (cBin oShl (cK (.int 1)) (cVar 1))) (fName 2) cYes (cB fStrI (cCons (cBin oAnd (cBin oShr (cVar 0) (cVar 2)) (cK (.int 1))) cNil)) [2]) cNil))))
def F_table_text : FnT := fnOf 3 2 B_table_text
theorem ok_table_text {P : Program} {w : World} {K : PySem.W.Frag} {mg : Str → Option Value} {base : Heap} {f : Addr} {fd : FuncData} {kws : List (Str × V)} (F : FnP K "table_text" s_table_text kws f fd)
    (m_reversed : mg "reversed" = none)
    (m_range : mg "range" = none)
    (m_str : mg "str" = none)
    (C_need_table : CallOk P w K mg base (cf K) "need_table" 2 F_need_table []) :
    FnOk P w K mg base (L2.CX P w) 3 f fd ["table", "things"] (spOf (cf K) F_table_text) :=
  fn_ok (k := 2) F sc_table_text fun cdv A outer s H E hr =>
  (ss_cons (s_expr (e_callC C_need_table hr (by decide) (by rfl) (takes_of rfl rfl rfl rfl) (a_cons (e_var (pv 0)) (a_cons (e_var (pv 1)) a_nil))))
  (ss_one (s_ret (e_m rfl (by decide) PySem.F.plainAttrs_str PySem.F.slot_str_join PySem.F.type_str_join mt_join mJoin_ok (e_str pe_str) (a_cons (e_lc (m := false) (own := [("row", 2)]) (gt := (gName 2)) rfl sc_table_text.nd (i_revRange (by rfl) m_reversed (by rfl) m_range (b_shl (e_int pe_int) (e_var (pv 1)))) (blkOk_by (by show blkC ["table", "things", "row"] (defScope s_table_text) _ _ = true; decide +kernel)) (fun _ _ _ _ _ => pg_name (i := 2) sc_table_text.nd rfl (Or.inl rfl)) (tg_name (by decide)) (fun _ _ _ _ _ => ts_nil) (fun _ _ _ _ _ => (e_ct call_str_int fStrI_ok (by rfl) m_str (by decide +kernel) (a_cons (b_and (b_shr (e_var (pv 0)) (e_var (pv 2))) (e_int pe_int)) a_nil)))) a_nil)))))
/-! turned -/
abbrev s_turned : Stmt := top 18
theorem sc_turned : FnScope ["table", "things", "at", "column_there", "wide"] ["table", "things", "at"] (defScope s_turned) := ⟨rfl, rfl, rfl, by decide +kernel, rfl, by decide +kernel, by decide +kernel⟩
def B_turned : Ss :=
  (sSeq (sExpr (cCall F_need_table [] (cCons (cVar 0) (cCons (cVar 1) cNil))))
  (sSeq (sExpr (cCall F_need_thing [] (cCons (cVar 1) (cCons (cVar 2) cNil))))
  (sSeq (sSet 3 (cCall F_column_of [] (cCons (cVar 1) (cCons (cVar 2) cNil))))
  (sSeq (sSet 4 (cBin oShl (cK (.int 1)) (cVar 2)))
  (sRet (cBin oOr (cBin oShr (cBin oAnd (cVar 0) (cVar 3)) (cVar 4)) (cBin oShl (cBin oAnd (cVar 0) (cBin oXor (cCall F_full_of [] (cCons (cVar 1) cNil)) (cVar 3))) (cVar 4))))))))
def F_turned : FnT := fnOf 5 3 B_turned
theorem ok_turned {P : Program} {w : World} {K : PySem.W.Frag} {mg : Str → Option Value} {base : Heap} {f : Addr} {fd : FuncData} {kws : List (Str × V)} (F : FnP K "turned" s_turned kws f fd)
    (C_need_table : CallOk P w K mg base (cf K) "need_table" 2 F_need_table [])
    (C_need_thing : CallOk P w K mg base (cf K) "need_thing" 1 F_need_thing [])
    (C_column_of : CallOk P w K mg base (cf K) "column_of" 1 F_column_of [])
    (C_full_of : CallOk P w K mg base (cf K) "full_of" 1 F_full_of []) :
    FnOk P w K mg base (L2.CX P w) 3 f fd ["table", "things", "at"] (spOf (cf K) F_turned) :=
  fn_ok (k := 2) F sc_turned fun cdv A outer s H E hr =>
  (ss_cons (s_expr (e_callC C_need_table hr (by decide) (by rfl) (takes_of rfl rfl rfl rfl) (a_cons (e_var (pv 0)) (a_cons (e_var (pv 1)) a_nil))))
  (ss_cons (s_expr (e_callC C_need_thing hr (by decide) (by rfl) (takes_of rfl rfl rfl rfl) (a_cons (e_var (pv 1)) (a_cons (e_var (pv 2)) a_nil))))
  (ss_cons (s_set (i := 3) sc_turned.nd rfl (by first | exact Or.inl rfl | exact Or.inr rfl) (e_callC C_column_of hr (by decide) (by rfl) (takes_of rfl rfl rfl rfl) (a_cons (e_var (pv 1)) (a_cons (e_var (pv 2)) a_nil))))
  (ss_cons (s_set (i := 4) sc_turned.nd rfl (by first | exact Or.inl rfl | exact Or.inr rfl) (b_shl (e_int pe_int) (e_var (pv 2))))
  (ss_one (s_ret (b_or (b_shr (b_and (e_var (pv 0)) (e_var (pv 3))) (e_var (pv 4))) (b_shl (b_and (e_var (pv 0)) (b_xor (e_callC C_full_of hr (by decide) (by rfl) (takes_of rfl rfl rfl rfl) (a_cons (e_var (pv 1)) a_nil)) (e_var (pv 3)))) (e_var (pv 4))))))))))
/-! _law_bit -/
abbrev s_law_bit : Stmt := top 25
theorem sc_law_bit : FnScope ["number", "at"] ["number", "at"] (defScope s_law_bit) := ⟨rfl, rfl, rfl, by decide +kernel, rfl, by decide +kernel, by decide +kernel⟩
def B_law_bit : Ss :=
  (sRet (cBin oMod (cBin oDiv (cVar 0) (cBin oShl (cK (.int 1)) (cVar 1))) (cK (.int 2))))
def F_law_bit : FnT := fnOf 2 2 B_law_bit
theorem ok_law_bit {P : Program} {w : World} {K : PySem.W.Frag} {mg : Str → Option Value} {base : Heap} {f : Addr} {fd : FuncData} {kws : List (Str × V)} (F : FnP K "_law_bit" s_law_bit kws f fd) :
    FnOk P w K mg base (L2.CX P w) 1 f fd ["number", "at"] (spOf (cf K) F_law_bit) :=
  fn_ok (k := 0) F sc_law_bit fun cdv A outer s H E hr =>
  (ss_one (s_ret (b_mod (b_div (e_var (pv 0)) (b_shl (e_int pe_int) (e_var (pv 1)))) (e_int pe_int))))
/-! law -/
abbrev s_law : Stmt := top 26
theorem sc_law : FnScope ["script", "box", "turn", "wide", "rows", "number", "hung", "k", "high", "low", "there", "whole", "left", "some", "back", "spare", "less", "row"] ["script"] (defScope s_law) := ⟨rfl, rfl, rfl, by decide +kernel, rfl, by decide +kernel, by decide +kernel⟩
def B_law : Ss :=
  (sSeq (sSet 1 (cCall F_law_box [] (cCons (cVar 0) cNil)))
  (sSeq (sFor (iRange1 (cCons (cK (.int 3)) cNil)) (gtName 2) (sSeq (sSet 3 (cBin oIx (cLst false (cCons (cCall F_law_take [] (cCons (cVar 1) (cCons (cK (.int 8)) cNil))) (cCons (cK (.int 10)) cNil))) (cBin oDiv (cCall F_law_take [] (cCons (cVar 1) (cCons (cK (.int 9)) cNil))) (cK (.int 8)))))
  (sSeq (sSet 4 (cBin oShl (cK (.int 1)) (cVar 3)))
  (sSeq (sSet 5 (cB fSum (cCons (cLc false (iRange1 (cCons (cVar 4) cNil)) (fName 17) cYes (cBin oMul (cBin oShl (cK (.int 1)) (cVar 17)) (cBin oMod (cCall F_law_take [] (cCons (cVar 1) (cCons (cK (.int 97)) cNil))) (cK (.int 2)))) [17]) cNil)))
  (sSeq (sIf (cTv (cBin oEq (cCall F_law_take [] (cCons (cVar 1) (cCons (cK (.int 2)) cNil))) (cK (.int 0)))) (sSet 5 (cCall F_law_take [] (cCons (cVar 1) (cCons (cBin oShl (cK (.int 1)) (cVar 4)) cNil))))
  sNil)
  (sSeq (sSet 6 (cCall F_hung_on [] (cCons (cVar 5) (cCons (cVar 3) cNil))))
  (sSeq (sFor (iRange1 (cCons (cVar 3) cNil)) (gtName 7) (sSeq (sAsg (cTup (cCons (cCall F_half [.int 1] (cCons (cVar 5) (cCons (cVar 3) (cCons (cVar 7) cNil)))) (cCons (cCallK F_half 3 1 g_half__value (cCons (cVar 5) (cCons (cVar 3) (cCons (cVar 7) cNil))) (cCons (cK (.int 0)) cNil)) cNil))) (gtTup 2 (gtCons (gtName 8) (gtCons (gtName 9) gtNil))))
  (sSeq (sSet 10 (cCall F_column [] (cCons (cVar 3) (cCons (cVar 7) cNil))))
  (sSeq (sSet 11 (cB fSum (cCons (cLc false (iRange1 (cCons (cVar 4) cNil)) (fName 17) cYes (cBin oMul (cBin oShl (cK (.int 1)) (cVar 17)) (cCall F_law_bit [] (cCons (cBin oIx (cLst false (cCons (cVar 9) (cCons (cVar 8) cNil))) (cCall F_law_bit [] (cCons (cVar 10) (cCons (cVar 17) cNil)))) (cCons (cVar 17) cNil)))) [17]) cNil)))
  (sSeq (sIf (cTor (cTv (cBin oNe (cVar 11) (cVar 5))) (cTv (cBin oNe (cCall F_turned [] (cCons (cCall F_turned [] (cCons (cVar 5) (cCons (cVar 3) (cCons (cVar 7) cNil)))) (cCons (cVar 3) (cCons (cVar 7) cNil)))) (cVar 5)))) (sRet (cK (.bl false)))
  sNil)
  (sIf (cTor (cTv (cBin oNe (cBin oIn (cVar 7) (cVar 6)) (cBin oNe (cVar 8) (cVar 9)))) (cTv (cBin oNe (cBin oIn (cVar 7) (cVar 6)) (cBin oNe (cCall F_turned [] (cCons (cVar 5) (cCons (cVar 3) (cCons (cVar 7) cNil)))) (cVar 5))))) (sRet (cK (.bl false)))
  sNil))))))
  (sSeq (sSet 12 (cLc true (iRange1 (cCons (cVar 3) cNil)) (fName 7) cYes (cVar 7) [7]))
  (sSeq (sSet 13 (cLst true cNil))
  (sSeq (sFor (iRange1 (cCons (cVar 3) cNil)) (gtName 7) (sExpr (cMt "list" mAppend (cVar 13) (cCons (cMt "list" mPopAt (cVar 12) (cCons (cCall F_law_take [] (cCons (cVar 1) (cCons (cB fLen (cCons (cVar 12) cNil)) cNil))) cNil)) cNil))))
  (sSeq (sFrz 13 (sSet 14 (cLc false (iRange1 (cCons (cVar 3) cNil)) (fName 7) cYes (cMt "list" mIndex (cVar 13) (cCons (cVar 7) cNil)) [7])))
  (sSeq (sIf (cTv (cBin oNe (cCall F_narrowed [] (cCons (cCall F_narrowed [] (cCons (cVar 5) (cCons (cVar 3) (cCons (cVar 13) cNil)))) (cCons (cVar 3) (cCons (cVar 14) cNil)))) (cVar 5))) (sRet (cK (.bl false)))
  sNil)
  (sSeq (sSet 15 (cLc false (iRange1 (cCons (cVar 3) cNil)) (fName 7) (cTv (cBin oIn (cVar 7) (cVar 6))) (cVar 7) [7]))
  (sSeq (sSet 16 (cCall F_narrowed [] (cCons (cVar 5) (cCons (cVar 3) (cCons (cVar 15) cNil)))))
  (sSeq (sIf (cTv (cBin oNe (cB fLen (cCons (cCall F_hung_on [] (cCons (cVar 16) (cCons (cB fLen (cCons (cVar 15) cNil)) cNil))) cNil)) (cB fLen (cCons (cVar 15) cNil)))) (sRet (cK (.bl false)))
  sNil)
  (sIf (cTv (cBin oNe (cCall F_read_table [] (cCons (cCall F_table_text [] (cCons (cVar 16) (cCons (cB fLen (cCons (cVar 15) cNil)) cNil))) cNil)) (cTup (cCons (cVar 16) (cCons (cB fLen (cCons (cVar 15) cNil)) cNil))))) (sRet (cK (.bl false)))
  sNil))))))))))))))))
  (sRet (cK (.bl true)))))
def F_law : FnT := fnOf 18 1 B_law
theorem ok_law {P : Program} {w : World} {K : PySem.W.Frag} {mg : Str → Option Value} {base : Heap} {f : Addr} {fd : FuncData} {kws : List (Str × V)} (F : FnP K "law" s_law kws f fd)
    (m_range : mg "range" = none)
    (m_sum : mg "sum" = none)
    (m_len : mg "len" = none)
    (C_law_box : CallOk P w K mg base (cf K) "_law_box" 1 F_law_box [])
    (C_law_take : CallOk P w K mg base (cf K) "_law_take" 1 F_law_take [])
    (C_hung_on : CallOk P w K mg base (cf K) "hung_on" 4 F_hung_on [])
    (C_half : CallOk P w K mg base (cf K) "half" 3 F_half [.int 1])
    (C_column : CallOk P w K mg base (cf K) "column" 2 F_column [])
    (C_law_bit : CallOk P w K mg base (cf K) "_law_bit" 1 F_law_bit [])
    (C_turned : CallOk P w K mg base (cf K) "turned" 3 F_turned [])
    (C_narrowed : CallOk P w K mg base (cf K) "narrowed" 3 F_narrowed [])
    (C_table_text : CallOk P w K mg base (cf K) "table_text" 3 F_table_text [])
    (C_read_table : CallOk P w K mg base (cf K) "read_table" 1 F_read_table [])
    (C_half__value : CallOkK P w K mg base (cf K) "half" 3 F_half 3 ["value"] g_half__value) :
    FnOk P w K mg base (L2.CX P w) 5 f fd ["script"] (spOf (cf K) F_law) :=
  fn_ok (k := 4) F sc_law fun cdv A outer s H E hr =>
  (ss_cons (s_set (i := 1) sc_law.nd rfl (by first | exact Or.inl rfl | exact Or.inr rfl) (e_callC C_law_box hr (by decide) (by rfl) (takes_of rfl rfl rfl rfl) (a_cons (e_var (pv 0)) a_nil)))
  (ss_cons (s_for (passes_of rfl) rfl (i_range1 (by rfl) m_range (a_cons (e_int pe_int) a_nil)) (g_name (pg_name (i := 2) sc_law.nd rfl (by first | exact Or.inl rfl | exact Or.inr rfl))) (ss_cons (s_set (i := 3) sc_law.nd rfl (by first | exact Or.inl rfl | exact Or.inr rfl) (e_item rfl (e_lst (m := false) (a_cons (e_callC C_law_take hr (by decide) (by rfl) (takes_of rfl rfl rfl rfl) (a_cons (e_var (pv 1)) (a_cons (e_int pe_int) a_nil))) (a_cons (e_int pe_int) a_nil))) (b_div (e_callC C_law_take hr (by decide) (by rfl) (takes_of rfl rfl rfl rfl) (a_cons (e_var (pv 1)) (a_cons (e_int pe_int) a_nil))) (e_int pe_int))))
  (ss_cons (s_set (i := 4) sc_law.nd rfl (by first | exact Or.inl rfl | exact Or.inr rfl) (b_shl (e_int pe_int) (e_var (pv 3))))
  (ss_cons (s_set (i := 5) sc_law.nd rfl (by first | exact Or.inl rfl | exact Or.inr rfl) (e_cb (cr_sum rfl) fSum_ok (by rfl) m_sum (by decide +kernel) (a_cons (e_lc (m := false) (own := [("row", 17)]) (gt := (gName 17)) rfl sc_law.nd (i_range1 (by rfl) m_range (a_cons (e_var (pv 4)) a_nil)) (blkOk_by (by show blkC ["script", "box", "turn", "wide", "rows", "number", "hung", "k", "high", "low", "there", "whole", "left", "some", "back", "spare", "less", "row"] (defScope s_law) _ _ = true; decide +kernel)) (fun _ _ _ _ _ => pg_name (i := 17) sc_law.nd rfl (Or.inl rfl)) (tg_name (by decide)) (fun _ _ _ _ _ => ts_nil) (fun _ _ _ _ _ => (b_mul (b_shl (e_int pe_int) (e_var (pv 17))) (b_mod (e_callC C_law_take hr (by decide) (by rfl) L2.takes0 (a_cons (e_var (pv 1)) (a_cons (e_int pe_int) a_nil))) (e_int pe_int))))) a_nil)))
  (ss_cons (s_if (t_eq rfl hr.units (e_callC C_law_take hr (by decide) (by rfl) (takes_of rfl rfl rfl rfl) (a_cons (e_var (pv 1)) (a_cons (e_int pe_int) a_nil))) (e_int pe_int)) (ss_one (s_set (i := 5) sc_law.nd rfl (by first | exact Or.inl rfl | exact Or.inr rfl) (e_callC C_law_take hr (by decide) (by rfl) (takes_of rfl rfl rfl rfl) (a_cons (e_var (pv 1)) (a_cons (b_shl (e_int pe_int) (e_var (pv 4))) a_nil)))))
  ss_nil)
  (ss_cons (s_set (i := 6) sc_law.nd rfl (by first | exact Or.inl rfl | exact Or.inr rfl) (e_callC C_hung_on hr (by decide) (by rfl) (takes_of rfl rfl rfl rfl) (a_cons (e_var (pv 5)) (a_cons (e_var (pv 3)) a_nil))))
  (ss_cons (s_for (passes_of rfl) rfl (i_range1 (by rfl) m_range (a_cons (e_var (pv 3)) a_nil)) (g_name (pg_name (i := 7) sc_law.nd rfl (by first | exact Or.inl rfl | exact Or.inr rfl))) (ss_cons (s_asg (e_tup (a_cons (e_callC C_half hr (by decide) (by rfl) (takes_of rfl rfl rfl rfl) (a_cons (e_var (pv 5)) (a_cons (e_var (pv 3)) (a_cons (e_var (pv 7)) a_nil)))) (a_cons (e_callK (j := 4) (E := E) C_half__value hr (by decide) (by rfl) (passes_call (takes_of rfl rfl rfl rfl) fun _ _ _ _ h => h) (fun _ _ _ _ h => h) (a_cons (e_var (pv 5)) (a_cons (e_var (pv 3)) (a_cons (e_var (pv 7)) a_nil))) (k_cons (e_int pe_int) k_nil)) a_nil))) (g_tup rfl rfl (gs_cons (g_name (pg_name (i := 8) sc_law.nd rfl (by first | exact Or.inl rfl | exact Or.inr rfl))) (gs_cons (g_name (pg_name (i := 9) sc_law.nd rfl (by first | exact Or.inl rfl | exact Or.inr rfl))) gs_nil))))
  (ss_cons (s_set (i := 10) sc_law.nd rfl (by first | exact Or.inl rfl | exact Or.inr rfl) (e_callC C_column hr (by decide) (by rfl) (takes_of rfl rfl rfl rfl) (a_cons (e_var (pv 3)) (a_cons (e_var (pv 7)) a_nil))))
  (ss_cons (s_set (i := 11) sc_law.nd rfl (by first | exact Or.inl rfl | exact Or.inr rfl) (e_cb (cr_sum rfl) fSum_ok (by rfl) m_sum (by decide +kernel) (a_cons (e_lc (m := false) (own := [("row", 17)]) (gt := (gName 17)) rfl sc_law.nd (i_range1 (by rfl) m_range (a_cons (e_var (pv 4)) a_nil)) (blkOk_by (by show blkC ["script", "box", "turn", "wide", "rows", "number", "hung", "k", "high", "low", "there", "whole", "left", "some", "back", "spare", "less", "row"] (defScope s_law) _ _ = true; decide +kernel)) (fun _ _ _ _ _ => pg_name (i := 17) sc_law.nd rfl (Or.inl rfl)) (tg_name (by decide)) (fun _ _ _ _ _ => ts_nil) (fun _ _ _ _ _ => (b_mul (b_shl (e_int pe_int) (e_var (pv 17))) (e_callC C_law_bit hr (by decide) (by rfl) L2.takes0 (a_cons (e_item rfl (e_lst (m := false) (a_cons (e_var (pv 9)) (a_cons (e_var (pv 8)) a_nil))) (e_callC C_law_bit hr (by decide) (by rfl) L2.takes0 (a_cons (e_var (pv 10)) (a_cons (e_var (pv 17)) a_nil)))) (a_cons (e_var (pv 17)) a_nil)))))) a_nil)))
  (ss_cons (s_if (PW.pt (w_or (t_ne rfl hr.units (e_var (pv 11)) (e_var (pv 5))) (w_or1 (t_ne rfl hr.units (e_callC C_turned hr (by decide) (by rfl) (takes_of rfl rfl rfl rfl) (a_cons (e_callC C_turned hr (by decide) (by rfl) (takes_of rfl rfl rfl rfl) (a_cons (e_var (pv 5)) (a_cons (e_var (pv 3)) (a_cons (e_var (pv 7)) a_nil)))) (a_cons (e_var (pv 3)) (a_cons (e_var (pv 7)) a_nil)))) (e_var (pv 5)))))) (ss_one (s_ret (e_bl pe_bl)))
  ss_nil)
  (ss_one (s_if (PW.pt (w_or (t_ne rfl hr.units (e_in rfl (e_var (pv 7)) (e_var (pv 6))) (e_ne rfl hr.units (e_var (pv 8)) (e_var (pv 9)))) (w_or1 (t_ne rfl hr.units (e_in rfl (e_var (pv 7)) (e_var (pv 6))) (e_ne rfl hr.units (e_callC C_turned hr (by decide) (by rfl) (takes_of rfl rfl rfl rfl) (a_cons (e_var (pv 5)) (a_cons (e_var (pv 3)) (a_cons (e_var (pv 7)) a_nil)))) (e_var (pv 5))))))) (ss_one (s_ret (e_bl pe_bl)))
  ss_nil)))))))
  (ss_cons (s_setLc (m := true) (own := [("k", 7)]) (gt := (gName 7)) (i := 12) rfl sc_law.nd rfl rfl (sw_true rfl rfl rfl (by decide +kernel)) (i_range1 (by rfl) m_range (a_cons (e_var (pv 3)) a_nil)) (blkOk_by (by show blkC ["script", "box", "turn", "wide", "rows", "number", "hung", "k", "high", "low", "there", "whole", "left", "some", "back", "spare", "less", "row"] (defScope s_law) _ _ = true; decide +kernel)) (fun _ _ _ _ _ => pg_name (i := 7) sc_law.nd rfl (Or.inl rfl)) (tg_name (by decide)) (fun _ _ _ _ _ => ts_nil) (fun _ _ _ _ _ => (e_var (pv 7))))
  (ss_cons (s_set (i := 13) sc_law.nd rfl (by first | exact Or.inl rfl | exact Or.inr rfl) (e_lst (m := true) a_nil))
  (ss_cons (s_for (passes_of rfl) rfl (i_range1 (by rfl) m_range (a_cons (e_var (pv 3)) a_nil)) (g_name (pg_name (i := 7) sc_law.nd rfl (by first | exact Or.inl rfl | exact Or.inr rfl))) (ss_one (s_expr (e_m rfl (by decide) PySem.F.plainAttrs_list PySem.F.slot_list_append PySem.F.type_list_append mt_append mAppend_ok (e_var (pv 13)) (a_cons (e_m rfl (by decide) PySem.F.plainAttrs_list PySem.F.slot_list_pop PySem.F.type_list_pop mt_popAt mPopAt_ok (e_var (pv 12)) (a_cons (e_callC C_law_take hr (by decide) (by rfl) (takes_of rfl rfl rfl rfl) (a_cons (e_var (pv 1)) (a_cons (e_cb rLen_ok fLen_ok (by rfl) m_len (by decide +kernel) (a_cons (e_var (pv 12)) a_nil)) a_nil))) a_nil)) a_nil)))))
  (ss_cons (s_frz 13 (s_setLc (m := false) (own := [("k", 7)]) (gt := (gName 7)) (i := 14) rfl sc_law.nd rfl rfl (sw_true rfl rfl rfl (by decide +kernel)) (i_range1 (by rfl) m_range (a_cons (e_var (pv 3)) a_nil)) (blkOk_by (by show blkC ["script", "box", "turn", "wide", "rows", "number", "hung", "k", "high", "low", "there", "whole", "left", "some", "back", "spare", "less", "row"] (defScope s_law) _ _ = true; decide +kernel)) (fun _ _ _ _ _ => pg_name (i := 7) sc_law.nd rfl (Or.inl rfl)) (tg_name (by decide)) (fun _ _ _ _ _ => ts_nil) (fun _ _ _ _ _ => (e_m rfl (by decide) PySem.F.plainAttrs_list PySem.F.slot_list_index PySem.F.type_list_index mt_index mIndex_ok (e_var (pv 13)) (a_cons (e_var (pv 7)) a_nil)))))
  (ss_cons (s_if (t_ne rfl hr.units (e_callC C_narrowed hr (by decide) (by rfl) (takes_of rfl rfl rfl rfl) (a_cons (e_callC C_narrowed hr (by decide) (by rfl) (takes_of rfl rfl rfl rfl) (a_cons (e_var (pv 5)) (a_cons (e_var (pv 3)) (a_cons (e_var (pv 13)) a_nil)))) (a_cons (e_var (pv 3)) (a_cons (e_var (pv 14)) a_nil)))) (e_var (pv 5))) (ss_one (s_ret (e_bl pe_bl)))
  ss_nil)
  (ss_cons (s_setLc (m := false) (own := [("k", 7)]) (gt := (gName 7)) (i := 15) rfl sc_law.nd rfl rfl (sw_true rfl rfl rfl (by decide +kernel)) (i_range1 (by rfl) m_range (a_cons (e_var (pv 3)) a_nil)) (blkOk_by (by show blkC ["script", "box", "turn", "wide", "rows", "number", "hung", "k", "high", "low", "there", "whole", "left", "some", "back", "spare", "less", "row"] (defScope s_law) _ _ = true; decide +kernel)) (fun _ _ _ _ _ => pg_name (i := 7) sc_law.nd rfl (Or.inl rfl)) (tg_name (by decide)) (fun _ _ _ _ _ => (ts_one (t_in rfl (e_var (pv 7)) (e_var (pv 6))))) (fun _ _ _ _ _ => (e_var (pv 7))))
  (ss_cons (s_set (i := 16) sc_law.nd rfl (by first | exact Or.inl rfl | exact Or.inr rfl) (e_callC C_narrowed hr (by decide) (by rfl) (takes_of rfl rfl rfl rfl) (a_cons (e_var (pv 5)) (a_cons (e_var (pv 3)) (a_cons (e_var (pv 15)) a_nil)))))
  (ss_cons (s_if (t_ne rfl hr.units (e_cb rLen_ok fLen_ok (by rfl) m_len (by decide +kernel) (a_cons (e_callC C_hung_on hr (by decide) (by rfl) (takes_of rfl rfl rfl rfl) (a_cons (e_var (pv 16)) (a_cons (e_cb rLen_ok fLen_ok (by rfl) m_len (by decide +kernel) (a_cons (e_var (pv 15)) a_nil)) a_nil))) a_nil)) (e_cb rLen_ok fLen_ok (by rfl) m_len (by decide +kernel) (a_cons (e_var (pv 15)) a_nil))) (ss_one (s_ret (e_bl pe_bl)))
  ss_nil)
  (ss_one (s_if (t_ne rfl hr.units (e_callC C_read_table hr (by decide) (by rfl) (takes_of rfl rfl rfl rfl) (a_cons (e_callC C_table_text hr (by decide) (by rfl) (takes_of rfl rfl rfl rfl) (a_cons (e_var (pv 16)) (a_cons (e_cb rLen_ok fLen_ok (by rfl) m_len (by decide +kernel) (a_cons (e_var (pv 15)) a_nil)) a_nil))) a_nil)) (e_tup (a_cons (e_var (pv 16)) (a_cons (e_cb rLen_ok fLen_ok (by rfl) m_len (by decide +kernel) (a_cons (e_var (pv 15)) a_nil)) a_nil)))) (ss_one (s_ret (e_bl pe_bl)))
  ss_nil)))))))))))))))))
  (ss_one (s_ret (e_bl pe_bl)))))
end K68

namespace K68
open PySem PySem.Spec PyProof.Rows Gm
theorem two_le {n : Nat} (hn : n ≤ 10) : 2 ^ n ≤ 1024 := Nat.pow_le_pow_right (n := 2) (by decide) hn
theorem g1 {n : Nat} (hn : n ≤ 10) : gShl 1 (n : Int) = true := gShl_of (a := 1) (k := 1) (by decide) (by omega)
theorem sh1 (n : Nat) : (1 : Int) * 2 ^ ((n : Int).toNat) = ((2 ^ n : Nat) : Int) := by
  rw [Int.one_mul, Int.toNat_natCast]
  push_cast
  rfl
theorem need_things_eq {n : Nat} (hn : n ≤ 10) (h : Store) : F_need_things [.int n] h = .ok .non h := by
  have z : ((n : Int) ≤ 10) := by omega
  exact fn_eq [some (.int n)] rfl rfl (by simp [B_need_things, z]) rfl
theorem full_of_eq {n : Nat} (hn : n ≤ 10) (h : Store) : F_full_of [.int n] h = .ok (.int ((2 ^ 2 ^ n - 1 : Nat) : Int)) h := by
  have e1 := g1 hn
  have e2 : gShl 1 ((2 ^ n : Nat) : Int) = true := gShl_of (a := 1) (k := 1) (by decide) (by have := two_le hn; omega)
  have e3 : 1 ≤ 2 ^ 2 ^ n := Nat.one_le_two_pow
  refine fn_eq [some (.int n)] rfl rfl ?_ rfl
  simp only [B_full_of, ev_ret, ev_bin, ev_k, ev_var, Res.bind_ok, List.getElem?_cons_zero, ev_iop, e1, if_true, sh1, e2, Res.out_ok, res_ret]
  congr 2
  omega
theorem need_table_eq {n t : Nat} (hn : n ≤ 10) (ht : t < 2 ^ 2 ^ n) (h : Store) : F_need_table [.int t, .int n] h = .ok .non h := by
  have z : ((t : Int) ≤ ((2 ^ 2 ^ n - 1 : Nat) : Int)) := by omega
  exact fn_eq [some (.int t), some (.int n)] rfl rfl (by simp only [B_need_table, ev_seq, ev_expr, ev_call, ev_cons, ev_var, List.getElem?_cons_zero, List.getElem?_cons_succ, ev_nil, Res.bind_ok, List.append_nil, need_things_eq hn, Res.out_ok, seq_next, ev_if, ev_tnot, ev_tv, ev_chain, ev_k, full_of_eq hn, ev_bop, z]; simp) rfl
theorem need_thing_eq {n a : Nat} (ha : a < n) (h : Store) : F_need_thing [.int n, .int a] h = .ok .non h := by
  have z : ((a : Int) < n) := by omega
  exact fn_eq [some (.int n), some (.int a)] rfl rfl (by simp [B_need_thing, z]) rfl
/-- the column of a thing -/
def col (n a : Nat) : Nat := ofB (fun i => i.testBit a) (2 ^ n)
theorem col_bit {n a i : Nat} : (col n a).testBit i = (decide (i < 2 ^ n) && i.testBit a) := ofB_bit _ _ _
theorem col_lt (n a : Nat) : col n a < 2 ^ 2 ^ n := ofB_lt _ _
theorem col_0 (a : Nat) : (2 ^ 2 ^ a - 1) <<< 2 ^ a = col (a + 1) a := by
  apply bits_ext
  intro i
  rw [col_bit, Nat.testBit_shiftLeft, Nat.testBit_two_pow_sub_one, Nat.pow_succ]
  by_cases h : i < 2 ^ a
  · rw [Nat.testBit_lt_two_pow h]
    simp; omega
  · have e : i = 2 ^ a + (i - 2 ^ a) := by omega
    by_cases h2 : i - 2 ^ a < 2 ^ a
    · have z : i.testBit a = true := by rw [e, Nat.testBit_two_pow_add_eq, Nat.testBit_lt_two_pow h2] <;> rfl
      have h3 : i < 2 ^ a * 2 := by omega
      have h4 : 2 ^ a ≤ i := by omega
      simp [z, h2, h3, h4]
    · have : ¬ i < 2 ^ a * 2 := by omega
      simp [h2, this]
theorem col_step {a m : Nat} (h : a < m) : col m a ||| col m a <<< 2 ^ m = col (m + 1) a := by
  apply bits_ext
  intro i
  rw [Nat.testBit_or, col_bit, Nat.testBit_shiftLeft, col_bit, col_bit, Nat.pow_succ]
  by_cases h1 : i < 2 ^ m
  · have h2 : ¬ 2 ^ m ≤ i := by omega
    have h3 : i < 2 ^ m * 2 := by omega
    simp [h1, h2, h3]
  · have e : i = 2 ^ m + (i - 2 ^ m) := by omega
    have z : i.testBit a = (i - 2 ^ m).testBit a := by
      conv => lhs; rw [e]
      exact Nat.testBit_two_pow_add_gt h _
    rw [z]
    have h2 : (i < 2 ^ m * 2) = (i - 2 ^ m < 2 ^ m) := by apply propext; omega
    have h3 : 2 ^ m ≤ i := by omega
    simp [h1, h2, h3]
theorem fuel_gt {k : Nat} (h : k ≤ 1000) : k < fuel := Nat.lt_of_le_of_lt h (by decide +kernel)
theorem col_loop {n a : Nat} (hn : n ≤ 10) (ha : a < n) (h : Store) : ∃ st' h', whileL (cTv (cBin oLt (cVar 4) (cBin oShl (cK (.int 1)) (cVar 0)))) (sSeq (sAug 3 oOr (cBin oShl (cVar 3) (cVar 4))) (sAug 4 oShl (cK (.int 1)))) fuel [some (.int n), some (.int a), some (.int (2 ^ a : Nat)), some (.int (col (a + 1) a : Nat)), some (.int (2 ^ (a + 1) : Nat))] h = .next st' h' ∧ h' = h ∧ st' = [some (.int n), some (.int a), some (.int (2 ^ a : Nat)), some (.int (col n a : Nat)), some (.int (2 ^ n : Nat))] := by
  have ha' : a ≤ 10 := by omega
  have w1 := two_le ha'
  have e1 := g1 ha'
  have e0 := g1 hn
  have e2 : gShl 1 ((2 ^ a : Nat) : Int) = true := gShl_of (a := 1) (k := 1) (by decide) (by omega)
  have p1 : 1 ≤ 2 ^ 2 ^ a := Nat.one_le_two_pow
  have e3 : ((2 ^ 2 ^ a : Nat) : Int) - 1 = ((2 ^ 2 ^ a - 1 : Nat) : Int) := by omega
  have e4 : gShl ((2 ^ 2 ^ a - 1 : Nat) : Int) ((2 ^ a : Nat) : Int) = true := gShl_of (k := 2 ^ a) (by omega) (by omega)
  have e5 : gMul 2 ((2 ^ a : Nat) : Int) = true := gMul_of (k := 2) (m := 11) (by decide) (by simp only [Int.natAbs_natCast]; omega) (by decide)
  have e6 : (2 : Int) * ((2 ^ a : Nat) : Int) = ((2 ^ (a + 1) : Nat) : Int) := by rw [Nat.pow_succ]; push_cast; omega
  have hmm : a + 1 + (n - (a + 1)) = n := by omega
  have key := whileL_run (ft := cTv (cBin oLt (cVar 4) (cBin oShl (cK (.int 1)) (cVar 0)))) (fb := sSeq (sAug 3 oOr (cBin oShl (cVar 3) (cVar 4))) (sAug 4 oShl (cK (.int 1))))
    (fun j st h1 => h1 = h ∧ st = [some (.int n), some (.int a), some (.int (2 ^ a : Nat)), some (.int (col (a + 1 + j) a : Nat)), some (.int (2 ^ (a + 1 + j) : Nat))]) (n - (a + 1))
    (fun j st h1 hj ⟨i1, i2⟩ => by
      subst i1 i2
      have hm : a + 1 + j < n := by omega
      have z1 : 2 ^ (a + 1 + j) < 2 ^ n := Nat.pow_lt_pow_right (by decide) hm
      have w2 := two_le hn
      have z2 : (((2 ^ (a + 1 + j) : Nat) : Int) < ((2 ^ n : Nat) : Int)) := by omega
      refine ⟨by simp only [ev_tv, ev_bin, ev_var, ev_k, Res.bind_ok, List.getElem?_cons_zero, List.getElem?_cons_succ, ev_iop, e0, if_true, sh1, ev_bop, decide_eq_true z2], _, _, ?_, rfl, rfl⟩
      have f1 : gShl (col (a + 1 + j) a : Nat) ((2 ^ (a + 1 + j) : Nat) : Int) = true := gShl_of (col_lt _ _) (by omega)
      have f2 : gShl ((2 ^ (a + 1 + j) : Nat) : Int) 1 = true := gShl_of (b := 1) (k := 10) (by omega) (by decide)
      have f3 : ((2 ^ (a + 1 + j) : Nat) : Int) * 2 ^ (1 : Int).toNat = ((2 ^ (a + 1 + (j + 1)) : Nat) : Int) := by
        rw [show a + 1 + (j + 1) = (a + 1 + j) + 1 by omega, Nat.pow_succ]
        push_cast
        rfl
      have f4 : (col (a + 1 + j) a : Nat) ||| (col (a + 1 + j) a) <<< 2 ^ (a + 1 + j) = col (a + 1 + (j + 1)) a := col_step (by omega)
      simp only [ev_seq, ev_aug, List.getElem?_cons_zero, List.getElem?_cons_succ, ev_bin, ev_var, ev_k, Res.bind_ok, ev_iop, f1, if_true, shl_n, bor_n, Res.out_ok, seq_next, f2, f3, f4, List.set_cons_succ, List.set_cons_zero])
    (fun st h1 ⟨i1, i2⟩ => by
      subst i1 i2
      have hm : a + 1 + (n - (a + 1)) = n := by omega
      rw [hm]
      simp only [ev_tv, ev_bin, ev_var, ev_k, Res.bind_ok, List.getElem?_cons_zero, List.getElem?_cons_succ, ev_iop, e0, if_true, sh1, ev_bop]
      simp)
    (n - (a + 1)) fuel 0 _ h (by omega) (fuel_gt (by omega)) ⟨rfl, rfl⟩
  rw [hmm] at key
  exact key
theorem column_of_eq {n a : Nat} (hn : n ≤ 10) (ha : a < n) (h : Store) : F_column_of [.int n, .int a] h = .ok (.int (col n a : Nat)) h := by
  have ha' : a ≤ 10 := by omega
  have w1 := two_le ha'
  have e1 := g1 ha'
  have e0 := g1 hn
  have e2 : gShl 1 ((2 ^ a : Nat) : Int) = true := gShl_of (a := 1) (k := 1) (by decide) (by omega)
  have p1 : 1 ≤ 2 ^ 2 ^ a := Nat.one_le_two_pow
  have e3 : ((2 ^ 2 ^ a : Nat) : Int) - 1 = ((2 ^ 2 ^ a - 1 : Nat) : Int) := by omega
  have e4 : gShl ((2 ^ 2 ^ a - 1 : Nat) : Int) ((2 ^ a : Nat) : Int) = true := gShl_of (k := 2 ^ a) (by omega) (by omega)
  have e5 : gMul 2 ((2 ^ a : Nat) : Int) = true := gMul_of (k := 2) (m := 11) (by decide) (by simp only [Int.natAbs_natCast]; omega) (by decide)
  have e6 : (2 : Int) * ((2 ^ a : Nat) : Int) = ((2 ^ (a + 1) : Nat) : Int) := by rw [Nat.pow_succ]; push_cast; omega
  obtain ⟨st', h', e7, rfl, rfl⟩ := col_loop hn ha h
  refine fn_eq [some (.int n), some (.int a), none, none, none] rfl rfl ?_ rfl
  simp only [B_column_of, ev_seq, ev_set, ev_bin, ev_k, ev_var, Res.bind_ok, List.getElem?_cons_zero, List.getElem?_cons_succ, ev_iop, e1, e2, e3, e4, e5, e6, if_true, sh1, shl_n, Res.out_ok, seq_next, List.set_cons_succ, List.set_cons_zero, col_0]
  rw [e7]
  simp only [seq_next, ev_ret, ev_var, List.getElem?_cons_zero, List.getElem?_cons_succ, Res.out_ok, res_ret]
end K68

namespace K68
open PySem PySem.Spec PyProof.Rows Gm
/-- the bits of a table, one thing held, or turned -/
def hi1 (n t a : Nat) : Nat := ofB (fun r => if r.testBit a = true then t.testBit r else t.testBit (r ^^^ 2 ^ a)) (2 ^ n)
def hi0 (n t a : Nat) : Nat := ofB (fun r => if r.testBit a = true then t.testBit (r ^^^ 2 ^ a) else t.testBit r) (2 ^ n)
def turn (n t a : Nat) : Nat := ofB (fun r => t.testBit (r ^^^ 2 ^ a)) (2 ^ n)
theorem flip_lt {n a r : Nat} (ha : a < n) (hr : r < 2 ^ n) : r ^^^ 2 ^ a < 2 ^ n := Nat.xor_lt_two_pow hr (Nat.pow_lt_pow_right (by decide) ha)
theorem flip_ge {n a r : Nat} (ha : a < n) (hr : ¬ r < 2 ^ n) : ¬ r ^^^ 2 ^ a < 2 ^ n := fun z => hr (by
  have := flip_lt ha z
  rwa [flip_2] at this)
theorem tb_ge {n t r : Nat} (ht : t < 2 ^ 2 ^ n) (hr : ¬ r < 2 ^ n) : t.testBit r = false := high_bit ht (by omega)
/-- t's part within the column, pushed down; the part outside, pushed up -/
theorem down_bit {n t a r : Nat} (ha : a < n) (ht : t < 2 ^ 2 ^ n) : ((t &&& col n a) >>> 2 ^ a).testBit r = (!r.testBit a && t.testBit (r ^^^ 2 ^ a)) := by
  rw [Nat.testBit_shiftRight, Nat.testBit_and, col_bit]
  cases h : r.testBit a with
  | false =>
    have e := add_bit h
    rw [Nat.add_comm, e, flip_bit, h]
    by_cases hr : r ^^^ 2 ^ a < 2 ^ n
    · simp [hr]
    · rw [tb_ge ht hr]; simp
  | true =>
    rw [Nat.testBit_two_pow_add_eq, h]
    simp
theorem up_bit {n t a r : Nat} (ha : a < n) (ht : t < 2 ^ 2 ^ n) : ((t &&& ((2 ^ 2 ^ n - 1) ^^^ col n a)) <<< 2 ^ a).testBit r = (r.testBit a && t.testBit (r ^^^ 2 ^ a)) := by
  rw [Nat.testBit_shiftLeft, Nat.testBit_and, Nat.testBit_xor, Nat.testBit_two_pow_sub_one, col_bit]
  cases h : r.testBit a with
  | true =>
    obtain ⟨e1, e2⟩ := sub_bit h
    have e3 : (decide (r ≥ 2 ^ a)) = true := decide_eq_true e1
    rw [e3, e2, flip_bit, h]
    by_cases hr : r ^^^ 2 ^ a < 2 ^ n
    · simp [hr]
    · rw [tb_ge ht hr]; simp
  | false =>
    by_cases hr : 2 ^ a ≤ r
    · have e : r = 2 ^ a + (r - 2 ^ a) := by omega
      have z : (r - 2 ^ a).testBit a = true := by
        have q := Nat.testBit_two_pow_add_eq (r - 2 ^ a) a
        rw [← e, h] at q
        simpa using q
      rw [z]
      by_cases hr2 : r - 2 ^ a < 2 ^ n
      · simp [hr2]
      · rw [tb_ge ht hr2]; simp
    · simp [hr]
theorem keep_bit {n t a r : Nat} : (t &&& col n a).testBit r = (t.testBit r && (decide (r < 2 ^ n) && r.testBit a)) := by rw [Nat.testBit_and, col_bit]
theorem drop_bit {n t a r : Nat} : (t &&& ((2 ^ 2 ^ n - 1) ^^^ col n a)).testBit r = (t.testBit r && (decide (r < 2 ^ n) && !r.testBit a)) := by
  rw [Nat.testBit_and, Nat.testBit_xor, Nat.testBit_two_pow_sub_one, col_bit]
  cases r.testBit a <;> simp
theorem hi1_eq {n t a : Nat} (ha : a < n) (ht : t < 2 ^ 2 ^ n) : (t &&& col n a) ||| (t &&& col n a) >>> 2 ^ a = hi1 n t a := by
  apply bits_ext
  intro r
  rw [Nat.testBit_or, down_bit ha ht, keep_bit, hi1, ofB_bit]
  by_cases hr : r < 2 ^ n
  · cases h : r.testBit a <;> simp [hr]
  · rw [tb_ge ht hr, tb_ge ht (flip_ge ha hr)]; simp [hr]
theorem hi0_eq {n t a : Nat} (ha : a < n) (ht : t < 2 ^ 2 ^ n) : (t &&& ((2 ^ 2 ^ n - 1) ^^^ col n a)) ||| (t &&& ((2 ^ 2 ^ n - 1) ^^^ col n a)) <<< 2 ^ a = hi0 n t a := by
  apply bits_ext
  intro r
  rw [Nat.testBit_or, up_bit ha ht, drop_bit, hi0, ofB_bit]
  by_cases hr : r < 2 ^ n
  · cases h : r.testBit a <;> simp [hr]
  · rw [tb_ge ht hr, tb_ge ht (flip_ge ha hr)]; simp [hr]
theorem turn_eq {n t a : Nat} (ha : a < n) (ht : t < 2 ^ 2 ^ n) : (t &&& col n a) >>> 2 ^ a ||| (t &&& ((2 ^ 2 ^ n - 1) ^^^ col n a)) <<< 2 ^ a = turn n t a := by
  apply bits_ext
  intro r
  rw [Nat.testBit_or, up_bit ha ht, down_bit ha ht, turn, ofB_bit]
  by_cases hr : r < 2 ^ n
  · cases h : r.testBit a <;> simp [hr]
  · rw [tb_ge ht (flip_ge ha hr)]; simp [hr]
theorem half_of_1 {n t a : Nat} (hn : n ≤ 10) (ha : a < n) (ht : t < 2 ^ 2 ^ n) (h : Store) : F_half_of [.int t, .int n, .int a, .int 1] h = .ok (.int (hi1 n t a : Nat)) h := by
  have e1 := g1 (show a ≤ 10 by omega)
  have e2 : gShr ((t &&& col n a : Nat) : Int) ((2 ^ a : Nat) : Int) = true := gShr_of _ _
  refine fn_eq [some (.int t), some (.int n), some (.int a), some (.int 1), none, none, none] rfl rfl ?_ rfl
  simp only [B_half_of, ev_seq, ev_set, ev_call, ev_cons, ev_nil, ev_var, List.getElem?_cons_zero, List.getElem?_cons_succ, Res.bind_ok, List.append_nil, column_of_eq hn ha, Res.out_ok, seq_next, List.set_cons_succ, List.set_cons_zero, ev_bin, ev_k, ev_iop, e1, sh1, ev_if, ev_tv]
  have eq1 : oEq (.int 1) (.int 1) h = .ok (.bl true) h := rfl
  simp only [eq1, Res.bind_ok, Res.out_ok, if_true, ev_seq, ev_set, ev_bin, ev_var, List.getElem?_cons_zero, List.getElem?_cons_succ, ev_iop, band_n, seq_next, List.set_cons_succ, List.set_cons_zero, ev_ret, e2, shr_n, bor_n, hi1_eq ha ht, seq_ret, res_ret]
theorem half_of_0 {n t a : Nat} (hn : n ≤ 10) (ha : a < n) (ht : t < 2 ^ 2 ^ n) (h : Store) : F_half_of [.int t, .int n, .int a, .int 0] h = .ok (.int (hi0 n t a : Nat)) h := by
  have e1 := g1 (show a ≤ 10 by omega)
  have w1 := two_le (show a ≤ 10 by omega)
  have w2 := two_le hn
  have e2 : gShl ((t &&& ((2 ^ 2 ^ n - 1) ^^^ col n a) : Nat) : Int) ((2 ^ a : Nat) : Int) = true := gShl_of (k := 2 ^ n) (Nat.lt_of_le_of_lt Nat.and_le_left ht) (by omega)
  refine fn_eq [some (.int t), some (.int n), some (.int a), some (.int 0), none, none, none] rfl rfl ?_ rfl
  simp only [B_half_of, ev_seq, ev_set, ev_call, ev_cons, ev_nil, ev_var, List.getElem?_cons_zero, List.getElem?_cons_succ, Res.bind_ok, List.append_nil, column_of_eq hn ha, Res.out_ok, seq_next, List.set_cons_succ, List.set_cons_zero, ev_bin, ev_k, ev_iop, e1, sh1, ev_if, ev_tv]
  have eq1 : oEq (.int 0) (.int 1) h = .ok (.bl false) h := rfl
  simp only [eq1, Res.bind_ok, Res.out_ok, Bool.false_eq_true, if_false, ev_sNil, ev_seq, ev_set, ev_bin, ev_call, ev_cons, ev_nil, List.append_nil, full_of_eq hn, ev_var, List.getElem?_cons_zero, List.getElem?_cons_succ, ev_iop, band_n, bxor_n, seq_next, List.set_cons_succ, List.set_cons_zero, ev_ret, e2, shl_n, bor_n, hi0_eq ha ht, seq_ret, res_ret]
end K68

namespace K68
open PySem PySem.Spec PyProof.Rows Gm
/-- the things that a table hangs on -/
def supp (n t : Nat) : List Nat := (List.range n).filter fun a => !(hi0 n t a == hi1 n t a)
def dnums (l : List Nat) : List D := l.map fun (a : Nat) => D.int (a : Int)
theorem support_eq {n t : Nat} (hn : n ≤ 10) (ht : t < 2 ^ 2 ^ n) (h : Store) : F_support_of [.int t, .int n] h = .ok (.lst (dnums (supp n t))) h := by
  refine fn_eq [some (.int t), some (.int n), none] rfl rfl ?_ rfl
  have e1 : iRange1 (cCons (cVar 1) cNil) [some (.int t), some (.int n), none] h = .ok ((List.range n).map fun (i : Nat) => D.int (i : Int)) h := ev_range1 rfl (by omega)
  have e2 : (List.map (fun (i : Nat) => D.int (i : Int)) (List.range n)).length ≤ sizeLine := small_line (by simp; omega)
  have e3 := lcL_map (fg := fName 2) (ft := cTv (cBin oNe (cCall F_half_of [] (cCons (cVar 0) (cCons (cVar 1) (cCons (cVar 2) (cCons (cK (.int 0)) cNil))))) (cCall F_half_of [] (cCons (cVar 0) (cCons (cVar 1) (cCons (cVar 2) (cCons (cK (.int 1)) cNil))))))) (fe := cVar 2)
    (st0 := [some (.int t), some (.int n), none]) (h := h) (f := fun (i : Nat) => D.int (i : Int)) (p := fun a => !(hi0 n t a == hi1 n t a)) (q := fun (i : Nat) => D.int (i : Int)) (List.range n) fun a ha => by
      have ha : a < n := List.mem_range.mp ha
      refine ⟨[some (.int t), some (.int n), some (.int a)], rfl, ?_, fun _ => rfl⟩
      simp only [ev_tv, ev_bin, ev_call, ev_cons, ev_nil, ev_var, ev_k, List.getElem?_cons_zero, List.getElem?_cons_succ, Res.bind_ok, List.append_nil, half_of_0 hn ha ht, half_of_1 hn ha ht, oNe_int, nat_beq]
  simp only [B_support_of, ev_ret, ev_lc, e1, Res.bind_ok, e2, if_true, ev_wipe1, ev_wipe0, List.set_cons_succ, List.set_cons_zero, e3, ev_alloc, Res.out_ok, res_ret]
  rfl
theorem column_eq {n a : Nat} (hn : n ≤ 10) (ha : a < n) (h : Store) : F_column [.int n, .int a] h = .ok (.int (col n a : Nat)) h :=
  fn_eq [some (.int n), some (.int a)] rfl rfl (by simp only [B_column, ev_seq, ev_expr, ev_call, ev_cons, ev_nil, ev_var, List.getElem?_cons_zero, List.getElem?_cons_succ, Res.bind_ok, List.append_nil, need_things_eq hn, need_thing_eq ha, column_of_eq hn ha, Res.out_ok, seq_next, ev_ret, res_ret]) rfl
theorem half_1 {n t a : Nat} (hn : n ≤ 10) (ha : a < n) (ht : t < 2 ^ 2 ^ n) (h : Store) : F_half [.int t, .int n, .int a, .int 1] h = .ok (.int (hi1 n t a : Nat)) h :=
  fn_eq [some (.int t), some (.int n), some (.int a), some (.int 1)] rfl rfl (by simp only [B_half, ev_seq, ev_expr, ev_call, ev_cons, ev_nil, ev_var, List.getElem?_cons_zero, List.getElem?_cons_succ, Res.bind_ok, List.append_nil, need_table_eq hn ht, need_thing_eq ha, half_of_1 hn ha ht, Res.out_ok, seq_next, ev_ret, res_ret]) rfl
theorem half_0 {n t a : Nat} (hn : n ≤ 10) (ha : a < n) (ht : t < 2 ^ 2 ^ n) (h : Store) : F_half [.int t, .int n, .int a, .int 0] h = .ok (.int (hi0 n t a : Nat)) h :=
  fn_eq [some (.int t), some (.int n), some (.int a), some (.int 0)] rfl rfl (by simp only [B_half, ev_seq, ev_expr, ev_call, ev_cons, ev_nil, ev_var, List.getElem?_cons_zero, List.getElem?_cons_succ, Res.bind_ok, List.append_nil, need_table_eq hn ht, need_thing_eq ha, half_of_0 hn ha ht, Res.out_ok, seq_next, ev_ret, res_ret]) rfl
theorem hung_eq {n t : Nat} (hn : n ≤ 10) (ht : t < 2 ^ 2 ^ n) (h : Store) : F_hung_on [.int t, .int n] h = .ok (.lst (dnums (supp n t))) h :=
  fn_eq [some (.int t), some (.int n)] rfl rfl (by simp only [B_hung_on, ev_seq, ev_expr, ev_call, ev_cons, ev_nil, ev_var, List.getElem?_cons_zero, List.getElem?_cons_succ, Res.bind_ok, List.append_nil, need_table_eq hn ht, support_eq hn ht, Res.out_ok, seq_next, ev_ret, res_ret]) rfl
theorem turned_eq {n t a : Nat} (hn : n ≤ 10) (ha : a < n) (ht : t < 2 ^ 2 ^ n) (h : Store) : F_turned [.int t, .int n, .int a] h = .ok (.int (turn n t a : Nat)) h := by
  have e1 := g1 (show a ≤ 10 by omega)
  have w1 := two_le (show a ≤ 10 by omega)
  have w2 := two_le hn
  have e0 : gShr ((t &&& col n a : Nat) : Int) ((2 ^ a : Nat) : Int) = true := gShr_of _ _
  have e2 : gShl ((t &&& ((2 ^ 2 ^ n - 1) ^^^ col n a) : Nat) : Int) ((2 ^ a : Nat) : Int) = true := gShl_of (k := 2 ^ n) (Nat.lt_of_le_of_lt Nat.and_le_left ht) (by omega)
  exact fn_eq [some (.int t), some (.int n), some (.int a), none, none] rfl rfl (by simp only [B_turned, ev_seq, ev_expr, ev_set, ev_bin, ev_call, ev_cons, ev_nil, ev_k, ev_var, List.getElem?_cons_zero, List.getElem?_cons_succ, Res.bind_ok, List.append_nil, need_table_eq hn ht, need_thing_eq ha, column_of_eq hn ha, full_of_eq hn, Res.out_ok, seq_next, List.set_cons_succ, List.set_cons_zero, ev_iop, e0, e1, e2, sh1, band_n, bxor_n, bor_n, shl_n, shr_n, ev_ret, res_ret, turn_eq ha ht]) rfl
end K68

namespace K68
open PySem PySem.Spec PyProof.Rows Gm
/-- a row's bits set at the places l -/
def plc : List Nat → Nat → Nat → Nat
  | [], _, _ => 0
  | a :: l, k, row => (if row.testBit k = true then 2 ^ a else 0) + plc l (k + 1) row
theorem plc_cons (a : Nat) (l : List Nat) (k row : Nat) : plc (a :: l) k row = (if row.testBit k = true then 2 ^ a else 0) + plc l (k + 1) row := rfl
theorem plc_bits : ∀ (l : List Nat) (k row : Nat), l.Nodup → (∀ i, i ∉ l → (plc l k row).testBit i = false) ∧ ∀ j a, l[j]? = some a → (plc l k row).testBit a = row.testBit (k + j)
  | [], k, row, _ => ⟨fun i _ => by simp [plc], fun j a e => by simp at e⟩
  | b :: l, k, row, nd => by
    obtain ⟨nb, nl⟩ := List.nodup_cons.mp nd
    obtain ⟨h1, h2⟩ := plc_bits l (k + 1) row nl
    have hb := h1 b nb
    have e : ∀ i, (plc (b :: l) k row).testBit i = if i = b then row.testBit k else (plc l (k + 1) row).testBit i := fun i => by
      rw [plc_cons]
      by_cases hr : row.testBit k = true
      · rw [if_pos hr, Nat.add_comm, add_bit hb, flip_bit]
        by_cases z : i = b
        · subst z; simp [hb, hr]
        · simp [z, Ne.symm z]
      · rw [if_neg hr, Nat.zero_add]
        by_cases z : i = b
        · subst z; simp [hb, hr]
        · simp [z]
    refine ⟨fun i hi => ?_, fun j a ea => ?_⟩
    · have z : i ≠ b := fun z => hi (by simp [z])
      rw [e, if_neg z]
      exact h1 i fun w => hi (by simp [w])
    · cases j with
      | zero =>
        have ea : b = a := by simpa using ea
        subst ea
        rw [e, if_pos rfl, Nat.add_zero]
      | succ j =>
        have ea : l[j]? = some a := by simpa using ea
        have z : a ≠ b := fun z => nb (by rw [← z]; exact List.mem_of_getElem? ea)
        rw [e, if_neg z, h2 j a ea]
        congr 1
        omega
theorem plc_lt {l : List Nat} {m : Nat} (nd : l.Nodup) (hl : ∀ a ∈ l, a < m) (k row : Nat) : plc l k row < 2 ^ m := Nat.lt_pow_two_of_testBit _ fun i hi => (plc_bits l k row nd).1 i fun z => absurd (hl i z) (by omega)
theorem low_bit (x k : Nat) : (x >>> k) &&& 1 = if x.testBit k = true then 1 else 0 := by
  have e : x.testBit k = (1 &&& (x >>> k) != 0) := rfl
  rw [Nat.and_comm] at e
  have l : (x >>> k) &&& 1 ≤ 1 := Nat.and_le_right
  by_cases h : (x >>> k) &&& 1 = 0
  · rw [e, h]; simp
  · have h : (x >>> k) &&& 1 = 1 := by omega
    rw [e, h]; simp
theorem plc_sum (row : Nat) : ∀ (l : List Nat) (k : Nat), ((l.zipIdx k).map fun p => (((((row >>> p.2) &&& 1) <<< p.1 : Nat)) : Int)).sum = ((plc l k row : Nat) : Int)
  | [], k => rfl
  | a :: l, k => by
    rw [List.zipIdx_cons, List.map_cons, List.sum_cons, plc_sum row l (k + 1)]
    rw [plc_cons, low_bit]
    by_cases h : row.testBit k = true
    · simp [h, Nat.shiftLeft_eq]
    · simp [h, Nat.shiftLeft_eq]
/-- a table narrowed -/
def nar (t : Nat) (l : List Nat) : Nat := ofB (fun row => t.testBit (plc l 0 row)) (2 ^ l.length)
theorem nar_step (f : Nat → Bool) (i x : Nat) (hx : x.testBit 0 = x.testBit 0) : ofB f i ||| (if f i = true then 1 else 0) <<< i = ofB f (i + 1) := by
  show _ = ofB f i + if f i = true then 2 ^ i else 0
  by_cases h : f i = true
  · rw [if_pos h, if_pos h, one_shl, ← add_or]
    apply bits_ext
    intro j
    rw [Nat.testBit_and, ofB_bit, Nat.testBit_two_pow]
    by_cases e : i = j
    · subst e; simp
    · simp [e]
  · rw [if_neg h, if_neg h]; simp
def sNar : Slots → Prop := fun _ => True
theorem there_eq {n t : Nat} {l : List Nat} (hl : ∀ a ∈ l, a ≤ 10) (hn : l.length ≤ 10) (row : Nat) (x3 x6 : Option D) (f : D) (h : Store) (x7 : Option D) :
    (cSumS (cLc false (iEnumD (cCons (cVar 2) cNil)) (fTup [7, 3]) cYes (cBin oShl (cBin oAnd (cBin oShr (cVar 5) (cVar 7)) (cK (.int 1))) (cVar 3)) [7, 3]) (cK (.int 0)))
      [some (.int (t : Nat)), some (.int (n : Nat)), some (.lst (dnums l)), x3, some f, some (.int (row : Nat)), x6, x7] h = .ok (.int (plc l 0 row : Nat)) h := by
  have e1 : iEnumD (cCons (cVar 2) cNil) [some (.int (t : Nat)), some (.int (n : Nat)), some (.lst (dnums l)), x3, some f, some (.int (row : Nat)), x6, x7] h = .ok ((l.zipIdx).map fun p => D.tup [.int (p.2 : Nat), .int (p.1 : Nat)]) h := by
    show Res.ok (enumD (dnums l)) h = _
    congr 1
    unfold enumD dnums
    rw [List.mapIdx_eq_zipIdx_map, List.zipIdx_map, List.map_map]
    rfl
  have e2 : (l.zipIdx.map fun p => D.tup [.int (p.2 : Nat), .int (p.1 : Nat)]).length ≤ sizeLine := small_line (by simp; omega)
  have e3 := lcL_all1 (fg := fTup [7, 3]) (ft := cYes) (fe := cBin oShl (cBin oAnd (cBin oShr (cVar 5) (cVar 7)) (cK (.int 1))) (cVar 3)) (st0 := [some (.int (t : Nat)), some (.int (n : Nat)), some (.lst (dnums l)), none, some f, some (.int (row : Nat)), x6, none]) (h := h)
    (f := fun (p : Nat × Nat) => D.tup [.int (p.2 : Nat), .int (p.1 : Nat)]) (q := fun p => D.int ((((row >>> p.2) &&& 1) <<< p.1 : Nat) : Int)) l.zipIdx fun p hp => by
      have hp1 : p.1 ≤ 10 := hl _ (List.fst_mem_of_mem_zipIdx hp)
      refine ⟨[some (.int (t : Nat)), some (.int (n : Nat)), some (.lst (dnums l)), some (.int (p.1 : Nat)), some f, some (.int (row : Nat)), x6, some (.int (p.2 : Nat))], rfl, rfl, ?_⟩
      have f1 : gShr (row : Int) (p.2 : Int) = true := gShr_of _ _
      have f2 : gShl ((row >>> p.2 &&& 1 : Nat) : Int) (p.1 : Int) = true := gShl_of (k := 1) (Nat.lt_of_le_of_lt Nat.and_le_right (by decide)) (by omega)
      have f3 : Builtin.bitAnd ((row >>> p.2 : Nat) : Int) 1 = ((row >>> p.2 &&& 1 : Nat) : Int) := band_n _ 1
      simp only [ev_bin, ev_var, ev_k, List.getElem?_cons_zero, List.getElem?_cons_succ, Res.bind_ok, ev_iop, f1, f2, f3, shl_n, shr_n]
  have e4 : List.map (fun p : Nat × Nat => D.int ((((row >>> p.2) &&& 1) <<< p.1 : Nat) : Int)) l.zipIdx = (l.zipIdx.map fun p : Nat × Nat => ((((row >>> p.2) &&& 1) <<< p.1 : Nat) : Int)).map D.int := by rw [List.map_map]; rfl
  unfold cSumS
  simp only [ev_lc, e1, Res.bind_ok, e2, if_true, ev_wipe1, ev_wipe0, List.set_cons_succ, List.set_cons_zero, e3, ev_alloc, ev_k, e4]
  unfold fSumS
  simp only [asR, intsOf_map, plc_sum]
theorem narrowed_eq {n t : Nat} {l : List Nat} (hn : n ≤ 10) (ht : t < 2 ^ 2 ^ n) (hl : ∀ a ∈ l, a < n) (hk : l.length ≤ 10) (nd : l.Nodup) (h : Store) : F_narrowed [.int t, .int n, .lst (dnums l)] h = .ok (.int (nar t l : Nat)) h := by
  have hl' : ∀ a ∈ l, a ≤ 10 := fun a ha => by have := hl a ha; omega
  have w1 := two_le hk
  -- the checks
  obtain ⟨st1, h1, e1, rfl, x3, rfl⟩ := forL_inv (fg := gtName 3) (fb := sExpr (cCall F_need_thing [] (cCons (cVar 1) (cCons (cVar 3) cNil)))) (fun _ st h1 => h1 = h ∧ ∃ x3, st = [some (.int (t : Nat)), some (.int (n : Nat)), some (.lst (dnums l)), x3, none, none, none, none]) (dnums l) 0
    [some (.int (t : Nat)), some (.int (n : Nat)), some (.lst (dnums l)), none, none, none, none, none] h (fun i d st h1 hd ⟨i1, x3, i2⟩ => by
      subst i1 i2
      have hm := List.mem_of_getElem? hd
      obtain ⟨a, ha, rfl⟩ := List.mem_map.mp hm
      refine ⟨_, _, [some (.int (t : Nat)), some (.int (n : Nat)), some (.lst (dnums l)), some (.int (a : Nat)), none, none, none, none], h1, rfl, ?_, rfl, _, rfl⟩
      simp only [ev_expr, ev_call, ev_cons, ev_nil, ev_var, List.set_cons_succ, List.set_cons_zero, List.getElem?_cons_zero, List.getElem?_cons_succ, Res.bind_ok, List.append_nil, need_thing_eq (hl a ha), Res.out_ok]) ⟨rfl, none, rfl⟩
  -- the rows
  have g1' : gShl 1 ((l.length : Nat) : Int) = true := g1 hk
  obtain ⟨st2, h2, e2, rfl, x5, x6, rfl⟩ := forL_inv (fg := gtName 5) (fb := sSeq (sSet 6 (cSumS (cLc false (iEnumD (cCons (cVar 2) cNil)) (fTup [7, 3]) cYes (cBin oShl (cBin oAnd (cBin oShr (cVar 5) (cVar 7)) (cK (.int 1))) (cVar 3)) [7, 3]) (cK (.int 0))))
  (sAug 4 oOr (cBin oShl (cBin oAnd (cBin oShr (cVar 0) (cVar 6)) (cK (.int 1))) (cVar 5))))
    (fun i st h2 => h2 = h1 ∧ ∃ x5 x6, st = [some (.int (t : Nat)), some (.int (n : Nat)), some (.lst (dnums l)), x3, some (.int (ofB (fun row => t.testBit (plc l 0 row)) i : Nat)), x5, x6, none]) ((List.range (2 ^ l.length)).map fun (i : Nat) => D.int (i : Int)) 0
    [some (.int (t : Nat)), some (.int (n : Nat)), some (.lst (dnums l)), x3, some (.int 0), none, none, none] h1 (fun i d st h2 hd ⟨i1, x5, x6, i2⟩ => by
      subst i1 i2
      rw [Nat.zero_add]
      rw [List.getElem?_map] at hd
      have hi : i < 2 ^ l.length := by
        by_cases z : i < 2 ^ l.length
        · exact z
        · rw [List.getElem?_eq_none (by simpa using z)] at hd
          cases hd
      rw [List.getElem?_range hi] at hd
      have hd : D.int (i : Int) = d := by simpa using hd
      subst hd
      refine ⟨_, _, [some (.int (t : Nat)), some (.int (n : Nat)), some (.lst (dnums l)), x3, some (.int (ofB (fun row => t.testBit (plc l 0 row)) (i + 1) : Nat)), some (.int (i : Nat)), some (.int (plc l 0 i : Nat)), none], h2, rfl, ?_, rfl, _, _, rfl⟩
      have f1 : gShr (t : Int) ((plc l 0 i : Nat) : Int) = true := gShr_of _ _
      have f2 : gShl ((t >>> plc l 0 i &&& 1 : Nat) : Int) (i : Int) = true := gShl_of (k := 1) (Nat.lt_of_le_of_lt Nat.and_le_right (by decide)) (by omega)
      have f3 : Builtin.bitAnd ((t >>> plc l 0 i : Nat) : Int) 1 = ((t >>> plc l 0 i &&& 1 : Nat) : Int) := band_n _ 1
      have f4 : ofB (fun row => t.testBit (plc l 0 row)) i ||| ((t >>> plc l 0 i) &&& 1) <<< i = ofB (fun row => t.testBit (plc l 0 row)) (i + 1) := by
        rw [low_bit]
        exact nar_step (fun row => t.testBit (plc l 0 row)) i 0 rfl
      simp only [ev_seq, ev_set, List.set_cons_succ, List.set_cons_zero, there_eq hl' hk, Res.out_ok, seq_next, ev_aug, List.getElem?_cons_zero, List.getElem?_cons_succ, ev_bin, ev_var, ev_k, Res.bind_ok, ev_iop, f1, f2, f3, f4, shl_n, shr_n, bor_n])
    ⟨rfl, none, none, rfl⟩
  rw [Nat.zero_add, List.length_map, List.length_range] at e2
  have r1 : iRange1 (cCons (cBin oShl (cK (.int 1)) (cB fLen (cCons (cVar 2) cNil))) cNil) [some (.int (t : Nat)), some (.int (n : Nat)), some (.lst (dnums l)), x3, some (.int 0), none, none, none] h2 = .ok ((List.range (2 ^ l.length)).map fun (i : Nat) => D.int (i : Int)) h2 := by
    refine ev_range1 ?_ (by omega)
    have q : fLen [.lst (dnums l)] h2 = .ok (.int (l.length : Nat)) h2 := by simp [fLen, asR, dnums]
    simp only [ev_cons, ev_bin, ev_k, ev_cB, ev_var, ev_nil, List.getElem?_cons_zero, List.getElem?_cons_succ, Res.bind_ok, q, ev_iop, g1', sh1]
  refine fn_eq [some (.int (t : Nat)), some (.int (n : Nat)), some (.lst (dnums l)), none, none, none, none, none] rfl rfl ?_ rfl
  have q2 : iSeqD (cVar 2) [some (.int (t : Nat)), some (.int (n : Nat)), some (.lst (dnums l)), none, none, none, none, none] h2 = .ok (dnums l) h2 := rfl
  simp only [B_narrowed, ev_seq, ev_expr, ev_call, ev_cons, ev_nil, ev_var, List.getElem?_cons_zero, List.getElem?_cons_succ, Res.bind_ok, List.append_nil, need_table_eq hn ht, Res.out_ok, seq_next, ev_for, q2, e1, ev_set, ev_k, List.set_cons_succ, List.set_cons_zero, r1, e2, ev_ret, res_ret]
  rfl
end K68

namespace K68
open PySem PySem.Spec PyProof.Rows Gm
/-- a bit as a sign; a table as signs, the high row first -/
def sgn (b : Bool) : Nat := if b = true then 49 else 48
def word (t k : Nat) : List Nat := (List.range k).map fun i => sgn (t.testBit (k - 1 - i))
theorem word_succ (t k : Nat) : word t (k + 1) = sgn (t.testBit k) :: word t k := by
  unfold word
  rw [List.range_succ_eq_map, List.map_cons, List.map_map]
  congr 1
  apply List.map_congr_left
  intro i _
  show sgn (t.testBit (k + 1 - 1 - (i + 1))) = _
  congr 2
  omega
theorem word_len (t k : Nat) : (word t k).length = k := by simp [word]
theorem num2_acc : ∀ (l : List Nat) (n : Nat), l.foldl (fun n a => n * 2 + (a - 48)) n = n * 2 ^ l.length + I2.num2 l
  | [], n => by simp [I2.num2]
  | a :: l, n => by
    unfold I2.num2
    rw [List.foldl_cons, List.foldl_cons, num2_acc l, num2_acc l (0 * 2 + (a - 48)), List.length_cons, Nat.pow_succ]
    rw [Nat.add_mul, Nat.add_mul, Nat.mul_assoc, Nat.mul_comm 2 (2 ^ l.length)]
    omega
theorem num2_word (t : Nat) : ∀ k, I2.num2 (word t k) = ofB t.testBit k
  | 0 => rfl
  | k + 1 => by
    rw [word_succ]
    have e : I2.num2 (sgn (t.testBit k) :: word t k) = (word t k).foldl (fun n a => n * 2 + (a - 48)) (0 * 2 + (sgn (t.testBit k) - 48)) := rfl
    rw [e, num2_acc, word_len, num2_word t k]
    show _ = ofB t.testBit k + if t.testBit k = true then 2 ^ k else 0
    unfold sgn
    by_cases h : t.testBit k = true
    · rw [if_pos h, if_pos h]; omega
    · rw [if_neg h, if_neg h]; omega
theorem join_one : ∀ l : List Nat, TL.joinL [] (l.map fun a => [a]) = l
  | [] => rfl
  | [a] => rfl
  | a :: b :: l => by
    have ih := join_one (b :: l)
    show [a] ++ ([] ++ TL.joinL [] ([b] :: l.map fun a => [a])) = _
    rw [List.nil_append, show TL.joinL [] ([b] :: l.map fun a => [a]) = b :: l from ih]
    rfl
def txt (l : List Nat) : Str := SX.S l
theorem txt_cps (l : List Nat) : (txt l).cps.toList = l := by simp [txt, SX.S]
theorem txt_len (l : List Nat) : (txt l).length = l.length := SX.S_len l
theorem join_txt (l : List Nat) : Txt.join (Str.ofString "") (l.map fun a => txt [a]) = txt l := by
  have z := SX.join_S [] (l.map fun a => [a])
  rw [join_one, List.map_map] at z
  exact z
end K68

namespace K68
open PySem PySem.Spec PyProof.Rows Gm
theorem strsOf_map (l : List Str) : strsOf (l.map D.str) = some l := by
  induction l with
  | nil => rfl
  | cons a l ih => simp [strsOf, ih]
theorem boolsOf_map (l : List Bool) : boolsOf (l.map D.bl) = some l := by
  induction l with
  | nil => rfl
  | cons a l ih => simp [boolsOf, ih]
theorem sgn_str (b : Bool) : ((toString (((if b = true then 1 else 0 : Nat)) : Int) : String) : Str) = txt [sgn b] := by cases b <;> decide
theorem text_eq {n t : Nat} (hn : n ≤ 10) (ht : t < 2 ^ 2 ^ n) (h : Store) : F_table_text [.int t, .int n] h = .ok (.str (txt (word t (2 ^ n)))) h := by
  have w1 := two_le hn
  have e1 : iRevRange (cBin oShl (cK (.int 1)) (cVar 1)) [some (.int t), some (.int n), none] h = .ok ((List.range (2 ^ n)).map fun (i : Nat) => D.int ((2 ^ n - 1 - i : Nat) : Int)) h := by
    have q : cBin oShl (cK (.int 1)) (cVar 1) [some (.int t), some (.int n), none] h = .ok (.int ((2 ^ n : Nat) : Int)) h := by
      simp only [ev_bin, ev_k, ev_var, List.getElem?_cons_zero, List.getElem?_cons_succ, Res.bind_ok, ev_iop, g1 hn, sh1]
    unfold iRevRange
    rw [q, Res.bind_ok]
    dsimp only
    rw [if_pos (g62_n (by omega)), Int.toNat_natCast]
    congr 1
    unfold upInts
    apply List.map_congr_left
    intro i hi
    have hi := List.mem_range.mp hi
    congr 1
    omega
  have e2 : ((List.range (2 ^ n)).map fun (i : Nat) => D.int ((2 ^ n - 1 - i : Nat) : Int)).length ≤ sizeLine := small_line (by simp; omega)
  have e3 := lcL_all1 (fg := fName 2) (ft := cYes) (fe := cB fStrI (cCons (cBin oAnd (cBin oShr (cVar 0) (cVar 2)) (cK (.int 1))) cNil)) (st0 := [some (.int t), some (.int n), none]) (h := h) (f := fun (i : Nat) => D.int ((2 ^ n - 1 - i : Nat) : Int))
    (q := fun i => D.str (txt [sgn (t.testBit (2 ^ n - 1 - i))])) (List.range (2 ^ n)) fun i hi => by
      refine ⟨[some (.int t), some (.int n), some (.int ((2 ^ n - 1 - i : Nat) : Int))], rfl, rfl, ?_⟩
      have f1 : gShr (t : Int) ((2 ^ n - 1 - i : Nat) : Int) = true := gShr_of _ _
      have f3 : Builtin.bitAnd ((t >>> (2 ^ n - 1 - i) : Nat) : Int) 1 = ((if t.testBit (2 ^ n - 1 - i) = true then 1 else 0 : Nat) : Int) := by
        rw [← low_bit]
        exact band_n _ 1
      have f4 : fStrI [.int ((if t.testBit (2 ^ n - 1 - i) = true then 1 else 0 : Nat) : Int)] h = .ok (.str (txt [sgn (t.testBit (2 ^ n - 1 - i))])) h := by
        rw [← sgn_str]
        cases t.testBit (2 ^ n - 1 - i) <;> rfl
      simp only [ev_cB, ev_cons, ev_bin, ev_var, ev_k, ev_nil, List.getElem?_cons_zero, List.getElem?_cons_succ, Res.bind_ok, ev_iop, f1, shr_n, f3, f4]
  have e4 : List.map (fun i => D.str (txt [sgn (t.testBit (2 ^ n - 1 - i))])) (List.range (2 ^ n)) = ((word t (2 ^ n)).map fun a => txt [a]).map D.str := by
    unfold word
    rw [List.map_map, List.map_map]
    rfl
  have e5 : ((((word t (2 ^ n)).map fun a => txt [a]).map (·.length)).sum + ((word t (2 ^ n)).map fun a => txt [a]).length * (Str.ofString "").length ≤ 16777216) := by
    have z : ∀ l : List Nat, ((l.map fun a => txt [a]).map (·.length)).sum = l.length := fun l => by
      induction l with
      | nil => rfl
      | cons a l ih =>
        rw [List.map_cons, List.map_cons, List.sum_cons, ih, txt_len]
        simp; omega
    have z2 : (Str.ofString "").length = 0 := rfl
    rw [z, z2, word_len]
    omega
  have e6 : mJoin (.str (Str.ofString "")) [.lst (((word t (2 ^ n)).map fun a => txt [a]).map D.str)] h = .ok (.str (txt (word t (2 ^ n)))) h := by
    have q : mJoin (.str (Str.ofString "")) [.lst (((word t (2 ^ n)).map fun a => txt [a]).map D.str)] h = (match strsOf (((word t (2 ^ n)).map fun a => txt [a]).map D.str) with
      | some ys => if (ys.map (·.length)).sum + ys.length * (Str.ofString "").length ≤ 16777216 then .ok (.str (Txt.join (Str.ofString "") ys)) h else .no
      | none => .no) := rfl
    rw [q, strsOf_map]
    dsimp only
    rw [if_pos e5, join_txt]
  refine fn_eq [some (.int t), some (.int n), none] rfl rfl ?_ rfl
  have e7 : cMt "str" mJoin (cK (.str (PySem.Str.ofString ""))) (cCons (cLc false (iRevRange (cBin oShl (cK (.int 1)) (cVar 1))) (fName 2) cYes (cB fStrI (cCons (cBin oAnd (cBin oShr (cVar 0) (cVar 2)) (cK (.int 1))) cNil)) [2]) cNil) [some (.int t), some (.int n), none] h = .ok (.str (txt (word t (2 ^ n)))) h := by
    have q : cMt "str" mJoin (cK (.str (PySem.Str.ofString ""))) (cCons (cLc false (iRevRange (cBin oShl (cK (.int 1)) (cVar 1))) (fName 2) cYes (cB fStrI (cCons (cBin oAnd (cBin oShr (cVar 0) (cVar 2)) (cK (.int 1))) cNil)) [2]) cNil) [some (.int t), some (.int n), none] h =
      (cCons (cLc false (iRevRange (cBin oShl (cK (.int 1)) (cVar 1))) (fName 2) cYes (cB fStrI (cCons (cBin oAnd (cBin oShr (cVar 0) (cVar 2)) (cK (.int 1))) cNil)) [2]) cNil [some (.int t), some (.int n), none] h).bind fun ds h2 => mJoin (.str (PySem.Str.ofString "")) ds h2 := rfl
    rw [q]
    simp only [ev_cons, ev_lc, e1, Res.bind_ok, e2, if_true, ev_wipe1, ev_wipe0, List.set_cons_succ, List.set_cons_zero, e3, ev_alloc, ev_nil, e4, e6]
  simp only [B_table_text, ev_seq, ev_expr, ev_call, ev_cons, ev_nil, ev_var, List.getElem?_cons_zero, List.getElem?_cons_succ, Res.bind_ok, List.append_nil, need_table_eq hn ht, Res.out_ok, seq_next, ev_ret, e7, res_ret]
def sizesD : List (L2.Key × D) := (List.range 11).map fun (i : Nat) => ((Sum.inl ((2 ^ i : Nat) : Int) : L2.Key), D.int (i : Int))
theorem sizes_eq (x : Str) (h : Store) : cDc (iRange1 (cCons (cBin (oAdd false) (cK (.int 10)) (cK (.int 1))) cNil)) (fName 3) cYes (cBin oShl (cK (.int 1)) (cVar 3)) (cVar 3) [3] [some (.str x), none, none, none] h = .ok (.dct sizesD) h := by
  kernel_rfl
theorem size_at {m : Nat} (hm : m ≤ 10) : getKD sizesD (Sum.inl ((2 ^ m : Nat) : Int)) = some (.int (m : Int)) := by
  have : m = 0 ∨ m = 1 ∨ m = 2 ∨ m = 3 ∨ m = 4 ∨ m = 5 ∨ m = 6 ∨ m = 7 ∨ m = 8 ∨ m = 9 ∨ m = 10 := by omega
  rcases this with rfl | rfl | rfl | rfl | rfl | rfl | rfl | rfl | rfl | rfl | rfl <;> with_unfolding_all rfl
end K68

namespace K68
open PySem PySem.Spec PyProof.Rows Gm
theorem in01_0 (h : Store) : oIn (.str ⟨#[48]⟩) (.str (Str.ofString "01")) h = .ok (.bl true) h := by
  have e : (!(Builtin.Str.occurrences (Str.ofString "01") ⟨#[48]⟩ 0 (Str.ofString "01").length 1).isEmpty) = true := by decide +kernel
  show (match some (!(Builtin.Str.occurrences (Str.ofString "01") ⟨#[48]⟩ 0 (Str.ofString "01").length 1).isEmpty) with
    | some b => Res.ok (D.bl b) h
    | none => .no) = _
  rw [e]
theorem in01_1 (h : Store) : oIn (.str ⟨#[49]⟩) (.str (Str.ofString "01")) h = .ok (.bl true) h := by
  have e : (!(Builtin.Str.occurrences (Str.ofString "01") ⟨#[49]⟩ 0 (Str.ofString "01").length 1).isEmpty) = true := by decide +kernel
  show (match some (!(Builtin.Str.occurrences (Str.ofString "01") ⟨#[49]⟩ 0 (Str.ofString "01").length 1).isEmpty) with
    | some b => Res.ok (D.bl b) h
    | none => .no) = _
  rw [e]
theorem word_bits (t k : Nat) : ∀ a ∈ word t k, a = 48 ∨ a = 49 := fun a ha => by
  obtain ⟨i, _, rfl⟩ := List.mem_map.mp ha
  unfold sgn
  split <;> simp
theorem all_bl (n : Nat) : boolsOf (List.replicate n (D.bl true)) = some (List.replicate n true) := by
  have := boolsOf_map (List.replicate n true)
  rwa [List.map_replicate] at this
theorem read_eq {m t : Nat} (hm : m ≤ 10) (ht : t < 2 ^ 2 ^ m) (h : Store) : F_read_table [.str (txt (word t (2 ^ m)))] h = .ok (.tup [.int (t : Nat), .int (m : Nat)]) h := by
  have w1 := two_le hm
  generalize ew : word t (2 ^ m) = w
  have wb : ∀ a ∈ w, a = 48 ∨ a = 49 := fun a ha => word_bits t (2 ^ m) a (by rw [ew]; exact ha)
  have wl : w.length = 2 ^ m := by rw [← ew, word_len]
  have wn : I2.num2 w = t := by rw [← ew, num2_word, ofB_self ht]
  have l1 : fLen [.str (txt w)] h = .ok (.int ((2 ^ m : Nat) : Int)) h := by
    have q : (txt w).length ≤ sizeLine := small_line (by rw [txt_len, wl]; omega)
    show (if (txt w).length ≤ sizeLine then Res.ok (D.int ((txt w).length : Nat)) h else .no) = _
    rw [if_pos q, txt_len, wl]
  have d1 : oDnotin (.int ((2 ^ m : Nat) : Int)) (.dct sizesD) h = .ok (.bl false) h := by
    show Res.ok (D.bl (!(getKD sizesD (Sum.inl ((2 ^ m : Nat) : Int))).isSome)) h = _
    rw [size_at hm] <;> rfl
  have d2 : oDget (.dct sizesD) (.int ((2 ^ m : Nat) : Int)) h = .ok (.int (m : Int)) h := by
    show (match getKD sizesD (Sum.inl ((2 ^ m : Nat) : Int)) with
      | some d => Res.ok d h
      | none => .no) = _
    rw [size_at hm]
  have s1 : Gm.signs (txt w) = w.map fun a => D.str ⟨#[a]⟩ := by unfold Gm.signs; rw [txt_cps]
  have s2 : (w.map fun a => D.str ⟨#[a]⟩).length ≤ sizeLine := small_line (by simp [wl]; omega)
  have e3 := lcL_all1 (fg := fName 2) (ft := cYes) (fe := cBin oIn (cVar 2) (cK (.str (PySem.Str.ofString "01")))) (st0 := [some (.str (txt w)), some (.dct sizesD), none, none]) (h := h) (f := fun a => D.str ⟨#[a]⟩) (q := fun _ => D.bl true) w fun a ha => by
    refine ⟨[some (.str (txt w)), some (.dct sizesD), some (.str ⟨#[a]⟩), none], rfl, rfl, ?_⟩
    simp only [ev_bin, ev_var, ev_k, List.getElem?_cons_zero, List.getElem?_cons_succ, Res.bind_ok]
    rcases wb a ha with rfl | rfl
    · exact in01_0 h
    · exact in01_1 h
  have e4 : fAll [.lst (w.map fun _ => D.bl true)] h = .ok (.bl true) h := by
    rw [List.map_const']
    unfold fAll fOf1
    simp only [asR, all_bl]
    simp
  have e5 : (cLc false (iSeqD (cVar 0)) (fName 2) cYes (cBin oIn (cVar 2) (cK (.str (PySem.Str.ofString "01")))) [2]) [some (.str (txt w)), some (.dct sizesD), none, none] h = .ok (.lst (w.map fun _ => D.bl true)) h := by
    have q : iSeqD (cVar 0) [some (.str (txt w)), some (.dct sizesD), none, none] h = .ok (Gm.signs (txt w)) h := rfl
    simp only [ev_lc, q, s1, Res.bind_ok, s2, if_true, ev_wipe1, ev_wipe0, List.set_cons_succ, List.set_cons_zero, e3, ev_alloc]
  have f2 : fInt2 [.str (txt w), .int 2] h = .ok (.int (t : Nat)) h := by
    have q : isBt (txt w) = true := by
      unfold isBt
      rw [txt_cps]
      have ne : w ≠ [] := fun z => by
        rw [z] at wl
        have := Nat.pow_pos (n := m) (show 0 < 2 by decide)
        simp at wl
        omega
      cases w with
      | nil => exact absurd rfl ne
      | cons a w =>
        simp only [List.isEmpty_cons, Bool.not_false, Bool.true_and, List.all_eq_true]
        intro b hb
        rcases wb b hb with rfl | rfl <;> rfl
    show (if isBt (txt w) = true then Res.ok (D.int ((I2.num2 (txt w).cps.toList : Nat) : Int)) h else .no) = _
    rw [if_pos q, txt_cps, wn]
  refine fn_eq [some (.str (txt w)), none, none, none] rfl rfl ?_ rfl
  have two : [D.int (t : Nat), D.int (m : Nat)].length ≤ sizeLine := small_line (by simp)
  simp only [B_read_table, ev_seq, ev_set, sizes_eq, Res.out_ok, seq_next, List.set_cons_succ, List.set_cons_zero, ev_if, ev_tor, ev_tv, ev_bin, ev_cB, ev_cons, ev_nil, ev_var, ev_k, List.getElem?_cons_zero, List.getElem?_cons_succ, Res.bind_ok, l1, d1, Bool.false_eq_true, if_false, ev_tnot, e5, e4, Bool.not_true, ev_sNil, ev_ret, ev_tup, f2, d2, two, if_true, res_ret]
theorem bit_eq {x a : Nat} (ha : a ≤ 2000) (h : Store) : F_law_bit [.int x, .int a] h = .ok (.int (if x.testBit a = true then 1 else 0 : Nat)) h := by
  have f1 : gShl 1 (a : Int) = true := gShl_of (a := 1) (k := 1) (by decide) (by omega)
  have f2 : gDiv (x : Int) ((2 ^ a : Nat) : Int) = true := gDiv_of (k := a + 1) (by have := Nat.pow_pos (n := a) (show 0 < 2 by decide); omega) (by rw [Int.natAbs_natCast, Nat.pow_succ]; have := Nat.pow_pos (n := a) (show 0 < 2 by decide); omega) (by omega)
  have f3 : ∀ i : Int, gMod i 2 = true := fun i => gMod_of (by decide)
  have f4 : ((x : Int) / ((2 ^ a : Nat) : Int)) % 2 = ((if x.testBit a = true then 1 else 0 : Nat) : Int) := by
    have e : x >>> a % 2 = if x.testBit a = true then 1 else 0 := by
      rw [← low_bit, Nat.and_one_is_mod]
    rw [← e, Nat.shiftRight_eq_div_pow]
    push_cast
    rfl
  exact fn_eq [some (.int x), some (.int a)] rfl rfl (by simp only [B_law_bit, ev_ret, ev_bin, ev_var, ev_k, List.getElem?_cons_zero, List.getElem?_cons_succ, Res.bind_ok, ev_iop, f1, f2, f3, sh1, f4, Res.out_ok, res_ret]) rfl
end K68

namespace K68
open PySem PySem.Spec PyProof.Rows Gm
theorem hi1_lt (n t a : Nat) : hi1 n t a < 2 ^ 2 ^ n := ofB_lt _ _
theorem hi0_lt (n t a : Nat) : hi0 n t a < 2 ^ 2 ^ n := ofB_lt _ _
theorem turn_lt (n t a : Nat) : turn n t a < 2 ^ 2 ^ n := ofB_lt _ _
theorem nar_lt (t : Nat) (l : List Nat) : nar t l < 2 ^ 2 ^ l.length := ofB_lt _ _
theorem turn_bit {n t a r : Nat} (hr : r < 2 ^ n) : (turn n t a).testBit r = t.testBit (r ^^^ 2 ^ a) := by rw [turn, ofB_bit]; simp [hr]
theorem turn_2 {n t a : Nat} (ha : a < n) (ht : t < 2 ^ 2 ^ n) : turn n (turn n t a) a = t := by
  apply bits_ext
  intro r
  by_cases hr : r < 2 ^ n
  · rw [turn_bit hr, turn_bit (flip_lt ha hr), flip_2]
  · rw [tb_ge (turn_lt _ _ _) hr, tb_ge ht hr]
theorem hi_iff {n t a : Nat} (ha : a < n) (ht : t < 2 ^ 2 ^ n) : hi0 n t a = hi1 n t a ↔ turn n t a = t := by
  constructor
  · intro e
    apply bits_ext
    intro r
    by_cases hr : r < 2 ^ n
    · have z : (hi0 n t a).testBit r = (hi1 n t a).testBit r := by rw [e]
      rw [hi0, hi1, ofB_bit, ofB_bit] at z
      rw [turn_bit hr]
      cases h : r.testBit a <;> simp [hr, h] at z <;> simp [z]
    · rw [tb_ge (turn_lt _ _ _) hr, tb_ge ht hr]
  · intro e
    rw [hi0, hi1]
    refine ofB_congr fun r hr => ?_
    have z : (turn n t a).testBit r = t.testBit r := by rw [e]
    rw [turn_bit hr] at z
    split <;> simp [z]
theorem mem_supp {n t a : Nat} (ha : a < n) (ht : t < 2 ^ 2 ^ n) : a ∈ supp n t ↔ turn n t a ≠ t := by
  unfold supp
  rw [List.mem_filter, List.mem_range]
  have z := hi_iff ha ht
  show _ ↔ ¬ turn n t a = t
  rw [← z]
  simp [ha]
theorem supp_lt {n t a : Nat} (h : a ∈ supp n t) : a < n := by
  unfold supp at h
  exact List.mem_range.mp (List.mem_filter.mp h).1
theorem supp_nd (n t : Nat) : (supp n t).Nodup := List.nodup_range.filter _
theorem supp_len (n t : Nat) : (supp n t).length ≤ n := by
  have := List.length_filter_le (fun a => !(hi0 n t a == hi1 n t a)) (List.range n)
  rwa [List.length_range] at this
theorem whole_eq {n t k : Nat} (hk : k < n) (ht : t < 2 ^ 2 ^ n) : ofB (fun row => (if row.testBit k = true then hi1 n t k else hi0 n t k).testBit row) (2 ^ n) = t := by
  have e : ofB (fun row => (if row.testBit k = true then hi1 n t k else hi0 n t k).testBit row) (2 ^ n) = ofB t.testBit (2 ^ n) := ofB_congr fun r hr => by
    by_cases h : r.testBit k = true
    · rw [if_pos h, hi1, ofB_bit]; simp [hr, h]
    · rw [if_neg h, hi0, ofB_bit]; simp [hr, h]
  rw [e, ofB_self ht]
theorem nar_bit {t row : Nat} {l : List Nat} (hr : row < 2 ^ l.length) : (nar t l).testBit row = t.testBit (plc l 0 row) := by rw [nar, ofB_bit]; simp [hr]
/-- a permutation and its way back -/
theorem nar_back {n t : Nat} {l : List Nat} (ht : t < 2 ^ 2 ^ n) (hp : l.Perm (List.range n)) : nar (nar t l) ((List.range n).map fun k => l.idxOf k) = t := by
  have nd : l.Nodup := hp.nodup_iff.mpr List.nodup_range
  have ll : l.length = n := by rw [hp.length_eq, List.length_range]
  have mem : ∀ i, i < n → i ∈ l := fun i hi => hp.mem_iff.mpr (List.mem_range.mpr hi)
  have at_ : ∀ i, i < n → l[l.idxOf i]? = some i := fun i hi => by
    have q := List.idxOf_lt_length_of_mem (mem i hi)
    rw [List.getElem?_eq_getElem q, List.getElem_idxOf q]
  have bl : ((List.range n).map fun k => l.idxOf k).length = n := by simp
  have bnd : ((List.range n).map fun k => l.idxOf k).Nodup := by
    show List.Pairwise (· ≠ ·) _
    rw [List.pairwise_map]
    refine List.Pairwise.imp_of_mem (fun {i j} hi hj hij e => ?_) (show List.Pairwise (· ≠ ·) (List.range n) from List.nodup_range)
    have a1 := at_ i (List.mem_range.mp hi)
    rw [e, at_ j (List.mem_range.mp hj)] at a1
    have : j = i := by simpa using a1
    exact hij this.symm
  have blt : ∀ a ∈ (List.range n).map fun k => l.idxOf k, a < n := fun a ha => by
    obtain ⟨i, hi, rfl⟩ := List.mem_map.mp ha
    have := List.idxOf_lt_length_of_mem (mem i (List.mem_range.mp hi))
    omega
  apply bits_ext
  intro row
  by_cases hr : row < 2 ^ n
  · have hx := plc_lt bnd blt 0 row
    rw [nar_bit (by rw [bl]; exact hr), nar_bit (by rw [ll]; exact hx)]
    congr 1
    apply bits_ext
    intro i
    by_cases hi : i < n
    · rw [(plc_bits l 0 _ nd).2 (l.idxOf i) i (at_ i hi), Nat.zero_add]
      have q := (plc_bits _ 0 row bnd).2 i (l.idxOf i) (by rw [List.getElem?_map, List.getElem?_range hi]; rfl)
      rw [q, Nat.zero_add]
    · rw [(plc_bits l 0 _ nd).1 i (fun z => hi (List.mem_range.mp (hp.mem_iff.mp z))), high_bit hr (by omega)]
  · have z := nar_lt (nar t l) ((List.range n).map fun k => l.idxOf k)
    rw [bl] at z
    rw [tb_ge z hr, tb_ge ht hr]
/-- a table looks at nothing but the things that it hangs on -/
theorem same_on {n t r r' : Nat} (ht : t < 2 ^ 2 ^ n) (hr : r < 2 ^ n) (hr' : r' < 2 ^ n) (h : ∀ a ∈ supp n t, r.testBit a = r'.testBit a) : t.testBit r = t.testBit r' := by
  let mix := fun k => ofB (fun i => if i < k then r'.testBit i else r.testBit i) n
  have m0 : mix 0 = r := by
    show ofB _ n = r
    rw [show (fun i => if i < 0 then r'.testBit i else r.testBit i) = r.testBit from funext fun i => by simp, ofB_self hr]
  have mn : mix n = r' := by
    show ofB _ n = r'
    rw [ofB_congr (g := r'.testBit) fun i hi => by simp [hi], ofB_self hr']
  have st : ∀ k, k < n → t.testBit (mix k) = t.testBit (mix (k + 1)) := fun k hk => by
    by_cases e : r.testBit k = r'.testBit k
    · have z : mix k = mix (k + 1) := ofB_congr fun i hi => by
        by_cases h1 : i < k
        · have h2 : i < k + 1 := by omega
          simp [h1, h2]
        · by_cases h3 : i = k
          · subst h3; simp [e]
          · have h2 : ¬ i < k + 1 := by omega
            simp [h1, h2]
      rw [z]
    · have nm : k ∉ supp n t := fun z => e (h k z)
      have tk : turn n t k = t := by
        by_cases q : turn n t k = t
        · exact q
        · exact absurd ((mem_supp hk ht).mpr q) nm
      have lt : mix k < 2 ^ n := ofB_lt _ _
      have z : mix (k + 1) = mix k ^^^ 2 ^ k := by
        apply bits_ext
        intro i
        rw [flip_bit]
        show (ofB _ n).testBit i = ((ofB _ n).testBit i ^^ decide (k = i))
        rw [ofB_bit, ofB_bit]
        by_cases h3 : k = i
        · subst h3
          have : r'.testBit k = !r.testBit k := by cases hh : r.testBit k <;> cases hh2 : r'.testBit k <;> simp_all
          simp [hk, this]
        · by_cases h1 : i < k
          · have h2 : i < k + 1 := by omega
            simp [h1, h2, h3]
          · have h2 : ¬ i < k + 1 := by omega
            simp [h1, h2, h3]
      have q : (turn n t k).testBit (mix k) = t.testBit (mix k) := by rw [tk]
      rw [turn_bit lt] at q
      rw [z, q]
  have all : ∀ k, k ≤ n → t.testBit (mix 0) = t.testBit (mix k) := fun k => by
    induction k with
    | zero => intro _; rfl
    | succ k ih => intro hk; rw [ih (by omega), st k (by omega)]
  rw [← m0, ← mn]
  exact all n (Nat.le_refl n)
theorem ofB_at (f : Nat → Bool) {n i : Nat} (hi : i < n) : (ofB f n).testBit i = f i := by rw [ofB_bit]; simp [hi]
/-- narrowed to these, it hangs on all -/
theorem less_all {n t : Nat} (ht : t < 2 ^ 2 ^ n) : supp (supp n t).length (nar t (supp n t)) = List.range (supp n t).length := by
  generalize el : supp n t = l
  have nd : l.Nodup := by rw [← el]; exact supp_nd n t
  have ll : ∀ a ∈ l, a < n := fun a ha => supp_lt (n := n) (t := t) (by rw [el]; exact ha)
  have lw := nar_lt t l
  unfold supp
  rw [List.filter_eq_self]
  intro j hj
  have hj := List.mem_range.mp hj
  rw [Bool.not_eq_true', beq_eq_false_iff_ne]
  intro e
  have e := (hi_iff hj lw).mp e
  -- the thing behind j
  have ha : l[j]? = some l[j] := List.getElem?_eq_getElem hj
  generalize ea : l[j] = a at ha
  have am : a ∈ l := List.mem_of_getElem? ha
  have an : a < n := ll a am
  have dep : turn n t a ≠ t := (mem_supp an ht).mp (by rw [el]; exact am)
  -- rows of t and of the narrowed one
  have key : ∀ r, r < 2 ^ n → t.testBit r = (nar t l).testBit (ofB (fun i => r.testBit (l.getD i 0)) l.length) := fun r hr => by
    rw [nar_bit (ofB_lt _ _)]
    refine same_on ht hr (plc_lt nd ll 0 _) fun b hb => ?_
    rw [el] at hb
    obtain ⟨i, hi, eb⟩ := List.getElem_of_mem hb
    have e1 : l[i]? = some b := by rw [List.getElem?_eq_getElem hi, eb]
    rw [(plc_bits l 0 _ nd).2 i b e1, Nat.zero_add, ofB_at _ hi]
    congr 1
    rw [List.getD_eq_getElem?_getD, e1] <;> rfl
  apply dep
  apply bits_ext
  intro r
  by_cases hr : r < 2 ^ n
  · rw [turn_bit hr, key r hr, key _ (flip_lt an hr)]
    have z : ofB (fun i => (r ^^^ 2 ^ a).testBit (l.getD i 0)) l.length = ofB (fun i => r.testBit (l.getD i 0)) l.length ^^^ 2 ^ j := by
      apply bits_ext
      intro i
      rw [flip_bit, ofB_bit, ofB_bit]
      by_cases hi : i < l.length
      · have e1 : l.getD i 0 = l[i] := by rw [List.getD_eq_getElem?_getD, List.getElem?_eq_getElem hi] <;> rfl
        have e2 : (a = l[i]) = (j = i) := by
          apply propext
          constructor
          · intro q
            rw [← ea] at q
            exact (List.getElem_inj (h₀ := hj) (h₁ := hi) nd).mp q
          · intro q
            subst q
            exact ea.symm
        rw [e1, flip_bit]
        simp [hi, e2]
      · have : j ≠ i := by omega
        simp [hi, this]
    rw [z]
    have q : (turn l.length (nar t l) j).testBit (ofB (fun i => r.testBit (l.getD i 0)) l.length) = (nar t l).testBit (ofB (fun i => r.testBit (l.getD i 0)) l.length) := by rw [e]
    rw [turn_bit (ofB_lt _ _)] at q
    exact q
  · rw [tb_ge (turn_lt _ _ _) hr, tb_ge ht hr]
end K68

namespace K68
open PySem PySem.Spec PyProof.Rows Gm
def L0 : Ss := (sSet 3 (cBin oIx (cLst false (cCons (cCall F_law_take [] (cCons (cVar 1) (cCons (cK (D.int 8)) cNil))) (cCons (cK (D.int 10)) cNil))) (cBin oDiv (cCall F_law_take [] (cCons (cVar 1) (cCons (cK (D.int 9)) cNil))) (cK (D.int 8)))))
def L1 : Ss := (sSet 4 (cBin oShl (cK (D.int 1)) (cVar 3)))
def L2 : Ss := (sSet 5 (cB fSum (cCons (cLc false (iRange1 (cCons (cVar 4) cNil)) (fName 17) cYes (cBin oMul (cBin oShl (cK (D.int 1)) (cVar 17)) (cBin oMod (cCall F_law_take [] (cCons (cVar 1) (cCons (cK (D.int 97)) cNil))) (cK (D.int 2)))) [17]) cNil)))
def L3 : Ss := (sIf (cTv (cBin oEq (cCall F_law_take [] (cCons (cVar 1) (cCons (cK (D.int 2)) cNil))) (cK (D.int 0)))) (sSet 5 (cCall F_law_take [] (cCons (cVar 1) (cCons (cBin oShl (cK (D.int 1)) (cVar 4)) cNil)))) sNil)
def L4 : Ss := (sSet 6 (cCall F_hung_on [] (cCons (cVar 5) (cCons (cVar 3) cNil))))
def L5_0 : Ss := (sAsg (cTup (cCons (cCall F_half [D.int 1] (cCons (cVar 5) (cCons (cVar 3) (cCons (cVar 7) cNil)))) (cCons (cCallK F_half 3 1 g_half__value (cCons (cVar 5) (cCons (cVar 3) (cCons (cVar 7) cNil))) (cCons (cK (D.int 0)) cNil)) cNil))) (gtTup 2 (gtCons (gtName 8) (gtCons (gtName 9) gtNil))))
def L5_1 : Ss := (sSet 10 (cCall F_column [] (cCons (cVar 3) (cCons (cVar 7) cNil))))
def L5_2 : Ss := (sSet 11 (cB fSum (cCons (cLc false (iRange1 (cCons (cVar 4) cNil)) (fName 17) cYes (cBin oMul (cBin oShl (cK (D.int 1)) (cVar 17)) (cCall F_law_bit [] (cCons (cBin oIx (cLst false (cCons (cVar 9) (cCons (cVar 8) cNil))) (cCall F_law_bit [] (cCons (cVar 10) (cCons (cVar 17) cNil)))) (cCons (cVar 17) cNil)))) [17]) cNil)))
def L5_3 : Ss := (sIf (cTor (cTv (cBin oNe (cVar 11) (cVar 5))) (cTv (cBin oNe (cCall F_turned [] (cCons (cCall F_turned [] (cCons (cVar 5) (cCons (cVar 3) (cCons (cVar 7) cNil)))) (cCons (cVar 3) (cCons (cVar 7) cNil)))) (cVar 5)))) (sRet (cK (D.bl false))) sNil)
def L5_4 : Ss := (sIf (cTor (cTv (cBin oNe (cBin oIn (cVar 7) (cVar 6)) (cBin oNe (cVar 8) (cVar 9)))) (cTv (cBin oNe (cBin oIn (cVar 7) (cVar 6)) (cBin oNe (cCall F_turned [] (cCons (cVar 5) (cCons (cVar 3) (cCons (cVar 7) cNil)))) (cVar 5))))) (sRet (cK (D.bl false))) sNil)
def L5b : Ss := (sSeq L5_0 (sSeq L5_1 (sSeq L5_2 (sSeq L5_3 L5_4))))
def L5 : Ss := (sFor (iRange1 (cCons (cVar 3) cNil)) (gtName 7) L5b)
def L6 : Ss := (sSet 12 (cLc true (iRange1 (cCons (cVar 3) cNil)) (fName 7) cYes (cVar 7) [7]))
def L7 : Ss := (sSet 13 (cLst true cNil))
def L8_0 : Ss := (sExpr (cMt "list" mAppend (cVar 13) (cCons (cMt "list" mPopAt (cVar 12) (cCons (cCall F_law_take [] (cCons (cVar 1) (cCons (cB fLen (cCons (cVar 12) cNil)) cNil))) cNil)) cNil)))
def L8b : Ss := L8_0
def L8 : Ss := (sFor (iRange1 (cCons (cVar 3) cNil)) (gtName 7) L8b)
def L9 : Ss := (sFrz 13 (sSet 14 (cLc false (iRange1 (cCons (cVar 3) cNil)) (fName 7) cYes (cMt "list" mIndex (cVar 13) (cCons (cVar 7) cNil)) [7])))
def L10 : Ss := (sIf (cTv (cBin oNe (cCall F_narrowed [] (cCons (cCall F_narrowed [] (cCons (cVar 5) (cCons (cVar 3) (cCons (cVar 13) cNil)))) (cCons (cVar 3) (cCons (cVar 14) cNil)))) (cVar 5))) (sRet (cK (D.bl false))) sNil)
def L11 : Ss := (sSet 15 (cLc false (iRange1 (cCons (cVar 3) cNil)) (fName 7) (cTv (cBin oIn (cVar 7) (cVar 6))) (cVar 7) [7]))
def L12 : Ss := (sSet 16 (cCall F_narrowed [] (cCons (cVar 5) (cCons (cVar 3) (cCons (cVar 15) cNil)))))
def L13 : Ss := (sIf (cTv (cBin oNe (cB fLen (cCons (cCall F_hung_on [] (cCons (cVar 16) (cCons (cB fLen (cCons (cVar 15) cNil)) cNil))) cNil)) (cB fLen (cCons (cVar 15) cNil)))) (sRet (cK (D.bl false))) sNil)
def L14 : Ss := (sIf (cTv (cBin oNe (cCall F_read_table [] (cCons (cCall F_table_text [] (cCons (cVar 16) (cCons (cB fLen (cCons (cVar 15) cNil)) cNil))) cNil)) (cTup (cCons (cVar 16) (cCons (cB fLen (cCons (cVar 15) cNil)) cNil))))) (sRet (cK (D.bl false))) sNil)
def Lb : Ss := (sSeq L0 (sSeq L1 (sSeq L2 (sSeq L3 (sSeq L4 (sSeq L5 (sSeq L6 (sSeq L7 (sSeq L8 (sSeq L9 (sSeq L10 (sSeq L11 (sSeq L12 (sSeq L13 L14))))))))))))))
theorem B_law_eq : B_law = sSeq (sSet 1 (cCall F_law_box [] (cCons (cVar 0) cNil))) (sSeq (sFor (iRange1 (cCons (cK (D.int 3)) cNil)) (gtName 2) Lb) (sRet (cK (D.bl true)))) := rfl

/-- the box stands, at most b were drawn -/
def Bx (l : List Int) (b : Nat) (t h : Store) : Prop := ∃ p r s, h = box l p r s :: t ∧ p ≤ b ∧ 0 ≤ s ∧ s < 2147483647
theorem Bx.take {l : List Int} {b : Nat} {t h : Store} (x : Bx l b t h) (hb : b ≤ 1000000) {m : Int} (hm : 0 < m) (hm2 : m.natAbs < 2 ^ 9000) :
    ∃ v h', F_law_take [D.ref 0, D.int m] h = .ok (D.int v) h' ∧ 0 ≤ v ∧ v < m ∧ Bx l (b + 1) t h' := by
  obtain ⟨p, r, s, rfl, hp, h0, h1⟩ := x
  obtain ⟨v, p', r', s', e, v0, v1, q1, q2, q3⟩ := take_ok l p r s t m hm hm2 (by omega) h0 h1
  exact ⟨v, _, e, v0, v1, p', r', s', rfl, by omega, q2, q3⟩
theorem lit_lt {m : Int} (h : m.natAbs < 2 ^ 64) : m.natAbs < 2 ^ 9000 := Nat.lt_of_lt_of_le h (Nat.pow_le_pow_right (by decide) (by decide))
variable {l : List Int} {b : Nat} {t h : Store} {sc : D} {x2 x3 x4 x5 x6 x7 x8 x9 x10 x11 x12 x13 x14 x15 x16 x17 : Option D}
theorem l0 (x : Bx l b t h) (hb : b ≤ 900000) : ∃ (n : Nat) (h' : Store), n ≤ 10 ∧ Bx l (b + 2) t h' ∧ L0 [some sc, some (D.ref 0), x2, x3, x4, x5, x6, x7, x8, x9, x10, x11, x12, x13, x14, x15, x16, x17] h = .next [some sc, some (D.ref 0), x2, some (D.int (n : Nat)), x4, x5, x6, x7, x8, x9, x10, x11, x12, x13, x14, x15, x16, x17] h' := by
  obtain ⟨v, h1, e1, v0, v1, x1⟩ := x.take (by omega) (m := 8) (by decide) (by decide +kernel)
  obtain ⟨w, h2, e2, w0, w1, x2'⟩ := x1.take (by omega) (m := 9) (by decide) (by decide +kernel)
  have d : gDiv w 8 = true := gDiv_of (k := 4) (by decide) (by decide) (by decide)
  have two : [D.int v, D.int 10].length ≤ sizeLine := small_line (by simp)
  have hw : w / 8 = 0 ∨ w / 8 = 1 := by omega
  have go : ∀ n : Nat, oIx (D.lst [D.int v, D.int 10]) (D.int (w / 8)) h2 = .ok (D.int (n : Nat)) h2 → L0 [some sc, some (D.ref 0), x2, x3, x4, x5, x6, x7, x8, x9, x10, x11, x12, x13, x14, x15, x16, x17] h = .next [some sc, some (D.ref 0), x2, some (D.int (n : Nat)), x4, x5, x6, x7, x8, x9, x10, x11, x12, x13, x14, x15, x16, x17] h2 := fun n e => by
    simp only [L0, ev_set, ev_bin, ev_lst, ev_cons, ev_call, ev_nil, ev_var, ev_k, List.getElem?_cons_zero, List.getElem?_cons_succ, Res.bind_ok, List.append_nil, e1, two, if_true, e2, ev_iop, d, e, Res.out_ok, List.set_cons_succ, List.set_cons_zero]
  rcases hw with z | z
  · refine ⟨v.toNat, h2, by omega, x2', go _ ?_⟩
    rw [z, Int.toNat_of_nonneg v0] <;> rfl
  · refine ⟨10, h2, by omega, x2', go _ ?_⟩
    rw [z] <;> rfl
theorem l1 {n : Nat} (hn : n ≤ 10) : L1 [some sc, some (D.ref 0), x2, some (D.int (n : Nat)), x4, x5, x6, x7, x8, x9, x10, x11, x12, x13, x14, x15, x16, x17] h = .next [some sc, some (D.ref 0), x2, some (D.int (n : Nat)), some (D.int (2 ^ n : Nat)), x5, x6, x7, x8, x9, x10, x11, x12, x13, x14, x15, x16, x17] h := by
  simp only [L1, ev_set, ev_bin, ev_var, ev_k, List.getElem?_cons_zero, List.getElem?_cons_succ, Res.bind_ok, ev_iop, g1 hn, sh1, Res.out_ok, List.set_cons_succ, List.set_cons_zero]
theorem bits_sum : ∀ (ys : List D) (k : Nat), (∀ i y, ys[i]? = some y → ∃ c : Bool, y = D.int ((if c = true then 2 ^ (k + i) else 0 : Nat) : Int)) → ∃ (ns : List Int) (N : Nat), intsOf ys = some ns ∧ ns.sum = ((2 ^ k * N : Nat) : Int) ∧ N < 2 ^ ys.length
  | [], k, _ => ⟨[], 0, rfl, by simp, by simp⟩
  | y :: ys, k, H => by
    obtain ⟨c, e⟩ := H 0 y rfl
    obtain ⟨ns, N, h1, h2, h3⟩ := bits_sum ys (k + 1) fun i z hz => by
      have := H (i + 1) z (by simpa using hz)
      rwa [show k + (i + 1) = k + 1 + i by omega] at this
    subst e
    refine ⟨((if c = true then 2 ^ (k + 0) else 0 : Nat) : Int) :: ns, (if c = true then 1 else 0) + 2 * N, by simp [intsOf, h1], ?_, ?_⟩
    · rw [List.sum_cons, h2, Nat.mul_add, Nat.pow_succ]
      cases c
      · simp; rw [Int.mul_assoc]
      · simp; rw [Int.mul_assoc]
    · rw [List.length_cons, Nat.pow_succ]
      split <;> omega
theorem l2 {n : Nat} (hn : n ≤ 10) (x : Bx l b t h) (hb : b ≤ 900000) : ∃ (N : Nat) (h' : Store), N < 2 ^ 2 ^ n ∧ Bx l (b + 2 ^ n) t h' ∧ L2 [some sc, some (D.ref 0), x2, some (D.int (n : Nat)), some (D.int (2 ^ n : Nat)), x5, x6, x7, x8, x9, x10, x11, x12, x13, x14, x15, x16, x17] h = .next [some sc, some (D.ref 0), x2, some (D.int (n : Nat)), some (D.int (2 ^ n : Nat)), some (D.int (N : Nat)), x6, x7, x8, x9, x10, x11, x12, x13, x14, x15, x16, x17] h' := by
  have w1 := two_le hn
  have r1 : iRange1 (cCons (cVar 4) cNil) [some sc, some (D.ref 0), x2, some (D.int (n : Nat)), some (D.int (2 ^ n : Nat)), x5, x6, x7, x8, x9, x10, x11, x12, x13, x14, x15, x16, x17] h = .ok ((List.range (2 ^ n)).map fun (i : Nat) => D.int (i : Int)) h := ev_range1 rfl (by omega)
  obtain ⟨ys, h', e1, hl, hp, x'⟩ := lcL_all (fg := fName 17) (ft := cYes) (fe := cBin oMul (cBin oShl (cK (D.int 1)) (cVar 17)) (cBin oMod (cCall F_law_take [] (cCons (cVar 1) (cCons (cK (D.int 97)) cNil))) (cK (D.int 2)))) (st0 := [some sc, some (D.ref 0), x2, some (D.int (n : Nat)), some (D.int (2 ^ n : Nat)), x5, x6, x7, x8, x9, x10, x11, x12, x13, x14, x15, x16, none])
    (fun i h => Bx l (b + i) t h) (fun i y => ∃ c : Bool, y = D.int ((if c = true then 2 ^ i else 0 : Nat) : Int)) ((List.range (2 ^ n)).map fun (i : Nat) => D.int (i : Int)) 0 h (fun i d h hd x => by
      rw [Nat.zero_add] at x ⊢
      rw [List.getElem?_map] at hd
      have hi : i < 2 ^ n := by
        by_cases z : i < 2 ^ n
        · exact z
        · rw [List.getElem?_eq_none (by simpa using z)] at hd
          cases hd
      rw [List.getElem?_range hi] at hd
      have hd : D.int (i : Int) = d := by simpa using hd
      subst hd
      obtain ⟨v, h1, e1, v0, v1, x1⟩ := x.take (by omega) (m := 97) (by decide) (by decide +kernel)
      have f1 : gShl 1 (i : Int) = true := gShl_of (a := 1) (k := 1) (by decide) (by omega)
      have f2 : gMod v 2 = true := gMod_of (by decide)
      have f3 : gMul ((2 ^ i : Nat) : Int) (v % 2) = true := gMul_of (k := i + 1) (m := 2) (by rw [Int.natAbs_natCast]; exact Nat.pow_lt_pow_right (by decide) (by omega)) (by omega) (by omega)
      refine ⟨[some sc, some (D.ref 0), x2, some (D.int (n : Nat)), some (D.int (2 ^ n : Nat)), x5, x6, x7, x8, x9, x10, x11, x12, x13, x14, x15, x16, some (D.int (i : Nat))], h, D.int (((2 ^ i : Nat) : Int) * (v % 2)), h1, rfl, rfl, ?_, ?_, x1⟩
      · simp only [ev_bin, ev_k, ev_var, ev_call, ev_cons, ev_nil, List.getElem?_cons_zero, List.getElem?_cons_succ, Res.bind_ok, List.append_nil, ev_iop, f1, sh1, e1, f2, f3]
      · have hv : v % 2 = 0 ∨ v % 2 = 1 := by omega
        rcases hv with z | z
        · exact ⟨false, by rw [z]; simp⟩
        · exact ⟨true, by rw [z]; simp⟩) x
  obtain ⟨ns, N, q1, q2, q3⟩ := bits_sum ys 0 fun i y hy => hp i y hy
  rw [hl, List.length_map, List.length_range] at q3
  rw [List.length_map, List.length_range, Nat.zero_add] at x'
  rw [Nat.pow_zero, Nat.one_mul] at q2
  have sl : ((List.range (2 ^ n)).map fun (i : Nat) => D.int (i : Int)).length ≤ sizeLine := small_line (by simp; omega)
  have sm : fSum [D.lst ys] h' = .ok (D.int (N : Nat)) h' := by
    unfold fSum fOf1
    simp only [asR, q1, q2]
  refine ⟨N, h', q3, x', ?_⟩
  simp only [L2, ev_set, ev_cB, ev_cons, ev_lc, r1, Res.bind_ok, sl, if_true, ev_wipe1, ev_wipe0, List.set_cons_succ, List.set_cons_zero, e1, ev_alloc, ev_nil, sm, Res.out_ok]
end K68

namespace K68
open PySem PySem.Spec PyProof.Rows Gm
variable {l : List Int} {b : Nat} {t h : Store} {sc : D} {x2 x3 x4 x5 x6 x7 x8 x9 x10 x11 x12 x13 x14 x15 x16 x17 : Option D}
theorem flats_nums (l : List Nat) : flats (dnums l) = some (l.map fun (a : Nat) => L2.V.int (a : Int)) := by
  induction l with
  | nil => rfl
  | cons a l ih =>
    have ih : flats (List.map (fun (a : Nat) => D.int (a : Int)) l) = some (l.map fun (a : Nat) => L2.V.int (a : Int)) := ih
    show flats (D.int (a : Int) :: List.map (fun (a : Nat) => D.int (a : Int)) l) = _
    simp [flats, D.flat, ih]
theorem eqV_n (a b : Nat) : L2.eqV (L2.V.int (a : Int)) (L2.V.int (b : Int)) = (a == b) := nat_beq a b
theorem in_nums (k : Nat) (l : List Nat) (h : Store) : oIn (D.int (k : Int)) (D.lst (dnums l)) h = .ok (D.bl (decide (k ∈ l))) h := by
  have q : inD h (D.int (k : Int)) (D.lst (dnums l)) = some (decide (k ∈ l)) := by
    unfold inD
    simp only [asR, D.flat, flats_nums]
    congr 1
    induction l with
    | nil => rfl
    | cons a l ih =>
      have ih : L2.inV (L2.V.int (k : Int)) (l.map fun (a : Nat) => L2.V.int (a : Int)) = decide (k ∈ l) := ih
      rw [List.map_cons]
      unfold L2.inV at ih ⊢
      rw [List.any_cons, ih, eqV_n]
      by_cases e : a = k
      · subst e; simp
      · have e2 : ¬ k = a := fun z => e z.symm
        simp [e, e2]
  unfold oIn
  rw [q]
theorem l3 {n N : Nat} (hn : n ≤ 10) (hN : N < 2 ^ 2 ^ n) (x : Bx l b t h) (hb : b ≤ 900000) : ∃ (N' : Nat) (h' : Store), N' < 2 ^ 2 ^ n ∧ Bx l (b + 2) t h' ∧ L3 [some sc, some (D.ref 0), x2, some (D.int (n : Nat)), some (D.int (2 ^ n : Nat)), some (D.int (N : Nat)), x6, x7, x8, x9, x10, x11, x12, x13, x14, x15, x16, x17] h = .next [some sc, some (D.ref 0), x2, some (D.int (n : Nat)), some (D.int (2 ^ n : Nat)), some (D.int (N' : Nat)), x6, x7, x8, x9, x10, x11, x12, x13, x14, x15, x16, x17] h' := by
  have w1 := two_le hn
  obtain ⟨v, h1, e1, v0, v1, x1⟩ := x.take (by omega) (m := 2) (by decide) (by decide +kernel)
  by_cases hv : v = 0
  · subst hv
    have pw : (0 : Int) < ((2 ^ 2 ^ n : Nat) : Int) := by have := Nat.pow_pos (n := 2 ^ n) (show 0 < 2 by decide); omega
    obtain ⟨w, h2, e2, w0, w1', x2'⟩ := x1.take (by omega) (m := ((2 ^ 2 ^ n : Nat) : Int)) pw (by rw [Int.natAbs_natCast]; exact Nat.pow_lt_pow_right (by decide) (by omega))
    have f1 : gShl 1 ((2 ^ n : Nat) : Int) = true := gShl_of (a := 1) (k := 1) (by decide) (by omega)
    refine ⟨w.toNat, h2, by omega, x2', ?_⟩
    have ew : ((w.toNat : Nat) : Int) = w := Int.toNat_of_nonneg w0
    rw [ew]
    have q0 : ((0 : Int) == 0) = true := rfl
    simp only [L3, ev_if, ev_tv, ev_bin, ev_call, ev_cons, ev_nil, ev_var, ev_k, List.getElem?_cons_zero, List.getElem?_cons_succ, Res.bind_ok, List.append_nil, e1, oEq_int, q0, Res.out_ok, if_true, ev_set, ev_iop, f1, sh1, e2, List.set_cons_succ, List.set_cons_zero]
  · refine ⟨N, h1, hN, ?_, ?_⟩
    · obtain ⟨p, r, s, e, q1, q2, q3⟩ := x1
      exact ⟨p, r, s, e, by omega, q2, q3⟩
    · have q0 : (v == 0) = false := by simpa using hv
      simp only [L3, ev_if, ev_tv, ev_bin, ev_call, ev_cons, ev_nil, ev_var, ev_k, List.getElem?_cons_zero, List.getElem?_cons_succ, Res.bind_ok, List.append_nil, e1, oEq_int, q0, Res.out_ok, Bool.false_eq_true, if_false, ev_sNil]
theorem l4 {n N : Nat} (hn : n ≤ 10) (hN : N < 2 ^ 2 ^ n) : L4 [some sc, some (D.ref 0), x2, some (D.int (n : Nat)), x4, some (D.int (N : Nat)), x6, x7, x8, x9, x10, x11, x12, x13, x14, x15, x16, x17] h = .next [some sc, some (D.ref 0), x2, some (D.int (n : Nat)), x4, some (D.int (N : Nat)), some (D.lst (dnums (supp n N))), x7, x8, x9, x10, x11, x12, x13, x14, x15, x16, x17] h := by
  simp only [L4, ev_set, ev_call, ev_cons, ev_nil, ev_var, List.getElem?_cons_zero, List.getElem?_cons_succ, Res.bind_ok, List.append_nil, hung_eq hn hN, Res.out_ok, List.set_cons_succ, List.set_cons_zero]
theorem callK_one {F : FnT} {st : Slots} {f k : Ev (List D)} {a b c d : D} (e1 : f st h = .ok [a, b, c] h) (e2 : k st h = .ok [d] h) : cCallK F 3 1 g_half__value f k st h = F [a, b, c, d] h := by
  rw [ev_callK, e1, Res.bind_ok, e2, Res.bind_ok, if_pos (show [a, b, c].length = 3 ∧ [d].length = 1 from ⟨rfl, rfl⟩)]
  rfl
theorem l50 {n N k : Nat} (hn : n ≤ 10) (hN : N < 2 ^ 2 ^ n) (hk : k < n) : L5_0 [some sc, some (D.ref 0), x2, some (D.int (n : Nat)), x4, some (D.int (N : Nat)), x6, some (D.int (k : Nat)), x8, x9, x10, x11, x12, x13, x14, x15, x16, x17] h = .next [some sc, some (D.ref 0), x2, some (D.int (n : Nat)), x4, some (D.int (N : Nat)), x6, some (D.int (k : Nat)), some (D.int (hi1 n N k : Nat)), some (D.int (hi0 n N k : Nat)), x10, x11, x12, x13, x14, x15, x16, x17] h := by
  have c1 : cCallK F_half 3 1 g_half__value (cCons (cVar 5) (cCons (cVar 3) (cCons (cVar 7) cNil))) (cCons (cK (D.int 0)) cNil) [some sc, some (D.ref 0), x2, some (D.int (n : Nat)), x4, some (D.int (N : Nat)), x6, some (D.int (k : Nat)), x8, x9, x10, x11, x12, x13, x14, x15, x16, x17] h = .ok (D.int (hi0 n N k : Nat)) h := by
    rw [callK_one (a := D.int (N : Nat)) (b := D.int (n : Nat)) (c := D.int (k : Nat)) (d := D.int 0) rfl rfl, half_0 hn hk hN]
  have two : (2 : Nat) ≤ sizeLine := small_line (by simp)
  have two2 : [D.int (hi1 n N k : Nat), D.int (hi0 n N k : Nat)].length = 2 := rfl
  simp only [L5_0, ev_asg, ev_tup, ev_cons, ev_call, ev_nil, ev_var, List.getElem?_cons_zero, List.getElem?_cons_succ, Res.bind_ok, List.cons_append, List.nil_append, half_1 hn hk hN, c1, two, if_true, Res.out_ok, ev_gtTup, two2, ev_gtCons, ev_gtName, ev_gtNil, List.set_cons_succ, List.set_cons_zero]
theorem l51 {n k : Nat} (hn : n ≤ 10) (hk : k < n) : L5_1 [some sc, some (D.ref 0), x2, some (D.int (n : Nat)), x4, x5, x6, some (D.int (k : Nat)), x8, x9, x10, x11, x12, x13, x14, x15, x16, x17] h = .next [some sc, some (D.ref 0), x2, some (D.int (n : Nat)), x4, x5, x6, some (D.int (k : Nat)), x8, x9, some (D.int (col n k : Nat)), x11, x12, x13, x14, x15, x16, x17] h := by
  simp only [L5_1, ev_set, ev_call, ev_cons, ev_nil, ev_var, List.getElem?_cons_zero, List.getElem?_cons_succ, Res.bind_ok, List.append_nil, column_eq hn hk, Res.out_ok, List.set_cons_succ, List.set_cons_zero]
theorem sum_ofB (f : Nat → Bool) : ∀ m, ((List.range m).map fun row => ((2 ^ row : Nat) : Int) * ((if f row = true then 1 else 0 : Nat) : Int)).sum = ((ofB f m : Nat) : Int)
  | 0 => rfl
  | m + 1 => by
    rw [List.range_succ, List.map_append, List.sum_append, sum_ofB f m]
    show _ = ((ofB f m + if f m = true then 2 ^ m else 0 : Nat) : Int)
    by_cases h : f m = true <;> simp [h]
theorem l52 {n N k : Nat} (hn : n ≤ 10) (hN : N < 2 ^ 2 ^ n) (hk : k < n) : L5_2 [some sc, some (D.ref 0), x2, x3, some (D.int (2 ^ n : Nat)), x5, x6, x7, some (D.int (hi1 n N k : Nat)), some (D.int (hi0 n N k : Nat)), some (D.int (col n k : Nat)), x11, x12, x13, x14, x15, x16, x17] h =
    .next [some sc, some (D.ref 0), x2, x3, some (D.int (2 ^ n : Nat)), x5, x6, x7, some (D.int (hi1 n N k : Nat)), some (D.int (hi0 n N k : Nat)), some (D.int (col n k : Nat)), some (D.int (N : Nat)), x12, x13, x14, x15, x16, none] h ∨ True := .inr trivial
theorem whole_at {n N k : Nat} (hn : n ≤ 10) (hN : N < 2 ^ 2 ^ n) (hk : k < n) : cLc false (iRange1 (cCons (cVar 4) cNil)) (fName 17) cYes (cBin oMul (cBin oShl (cK (D.int 1)) (cVar 17)) (cCall F_law_bit [] (cCons (cBin oIx (cLst false (cCons (cVar 9) (cCons (cVar 8) cNil))) (cCall F_law_bit [] (cCons (cVar 10) (cCons (cVar 17) cNil)))) (cCons (cVar 17) cNil)))) [17]
    [some sc, some (D.ref 0), x2, x3, some (D.int (2 ^ n : Nat)), x5, x6, x7, some (D.int (hi1 n N k : Nat)), some (D.int (hi0 n N k : Nat)), some (D.int (col n k : Nat)), x11, x12, x13, x14, x15, x16, x17] h = .ok (D.lst (((List.range (2 ^ n)).map fun row => ((2 ^ row : Nat) : Int) * ((if ((if row.testBit k = true then hi1 n N k else hi0 n N k).testBit row) = true then 1 else 0 : Nat) : Int)).map D.int)) h := by
  have w1 := two_le hn
  have r1 : iRange1 (cCons (cVar 4) cNil) [some sc, some (D.ref 0), x2, x3, some (D.int (2 ^ n : Nat)), x5, x6, x7, some (D.int (hi1 n N k : Nat)), some (D.int (hi0 n N k : Nat)), some (D.int (col n k : Nat)), x11, x12, x13, x14, x15, x16, x17] h = .ok ((List.range (2 ^ n)).map fun (i : Nat) => D.int (i : Int)) h := ev_range1 rfl (by omega)
  have sl : ((List.range (2 ^ n)).map fun (i : Nat) => D.int (i : Int)).length ≤ sizeLine := small_line (by simp; omega)
  have e3 := lcL_all1 (fg := fName 17) (ft := cYes) (fe := cBin oMul (cBin oShl (cK (D.int 1)) (cVar 17)) (cCall F_law_bit [] (cCons (cBin oIx (cLst false (cCons (cVar 9) (cCons (cVar 8) cNil))) (cCall F_law_bit [] (cCons (cVar 10) (cCons (cVar 17) cNil)))) (cCons (cVar 17) cNil))))
    (st0 := [some sc, some (D.ref 0), x2, x3, some (D.int (2 ^ n : Nat)), x5, x6, x7, some (D.int (hi1 n N k : Nat)), some (D.int (hi0 n N k : Nat)), some (D.int (col n k : Nat)), x11, x12, x13, x14, x15, x16, none]) (h := h) (f := fun (i : Nat) => D.int (i : Int))
    (q := fun row => D.int (((2 ^ row : Nat) : Int) * ((if ((if row.testBit k = true then hi1 n N k else hi0 n N k).testBit row) = true then 1 else 0 : Nat) : Int))) (List.range (2 ^ n)) fun row hr => by
      have hr := List.mem_range.mp hr
      refine ⟨[some sc, some (D.ref 0), x2, x3, some (D.int (2 ^ n : Nat)), x5, x6, x7, some (D.int (hi1 n N k : Nat)), some (D.int (hi0 n N k : Nat)), some (D.int (col n k : Nat)), x11, x12, x13, x14, x15, x16, some (D.int (row : Nat))], rfl, rfl, ?_⟩
      have f1 : gShl 1 (row : Int) = true := gShl_of (a := 1) (k := 1) (by decide) (by omega)
      have two : [D.int (hi0 n N k : Nat), D.int (hi1 n N k : Nat)].length ≤ sizeLine := small_line (by simp)
      have c1 : (col n k).testBit row = row.testBit k := by rw [col_bit]; simp [hr]
      have ix : oIx (D.lst [D.int (hi0 n N k : Nat), D.int (hi1 n N k : Nat)]) (D.int ((if row.testBit k = true then 1 else 0 : Nat) : Int)) h = .ok (D.int ((if row.testBit k = true then hi1 n N k else hi0 n N k : Nat) : Int)) h := by
        cases row.testBit k <;> rfl
      have f3 : ∀ c : Bool, gMul ((2 ^ row : Nat) : Int) ((if c = true then 1 else 0 : Nat) : Int) = true := fun c => gMul_of (k := row + 1) (m := 2) (by rw [Int.natAbs_natCast]; exact Nat.pow_lt_pow_right (by decide) (by omega)) (by cases c <;> decide) (by omega)
      simp only [ev_bin, ev_k, ev_var, ev_call, ev_cons, ev_nil, ev_lst, List.getElem?_cons_zero, List.getElem?_cons_succ, Res.bind_ok, List.append_nil, ev_iop, f1, sh1, two, if_true, bit_eq (show row ≤ 2000 by omega), c1, ix, f3]
  simp only [ev_lc, r1, Res.bind_ok, sl, if_true, ev_wipe1, ev_wipe0, List.set_cons_succ, List.set_cons_zero, e3, ev_alloc]
  rw [List.map_map]
  rfl
theorem l52' {n N k : Nat} (hn : n ≤ 10) (hN : N < 2 ^ 2 ^ n) (hk : k < n) : L5_2 [some sc, some (D.ref 0), x2, x3, some (D.int (2 ^ n : Nat)), x5, x6, x7, some (D.int (hi1 n N k : Nat)), some (D.int (hi0 n N k : Nat)), some (D.int (col n k : Nat)), x11, x12, x13, x14, x15, x16, x17] h =
    .next [some sc, some (D.ref 0), x2, x3, some (D.int (2 ^ n : Nat)), x5, x6, x7, some (D.int (hi1 n N k : Nat)), some (D.int (hi0 n N k : Nat)), some (D.int (col n k : Nat)), some (D.int (N : Nat)), x12, x13, x14, x15, x16, x17] h := by
  have sm : ∀ ns : List Int, fSum [D.lst (ns.map D.int)] h = .ok (D.int ns.sum) h := fun ns => by
    unfold fSum fOf1
    simp only [asR, intsOf_map]
  have z := sum_ofB (fun row => (if row.testBit k = true then hi1 n N k else hi0 n N k).testBit row) (2 ^ n)
  rw [whole_eq hk hN] at z
  simp only [L5_2, ev_set, ev_cB, ev_cons, whole_at hn hN hk, ev_nil, Res.bind_ok, sm, z, Res.out_ok, List.set_cons_succ, List.set_cons_zero]
theorem l53 {n N k : Nat} (hn : n ≤ 10) (hN : N < 2 ^ 2 ^ n) (hk : k < n) : L5_3 [some sc, some (D.ref 0), x2, some (D.int (n : Nat)), x4, some (D.int (N : Nat)), x6, some (D.int (k : Nat)), x8, x9, x10, some (D.int (N : Nat)), x12, x13, x14, x15, x16, x17] h = .next [some sc, some (D.ref 0), x2, some (D.int (n : Nat)), x4, some (D.int (N : Nat)), x6, some (D.int (k : Nat)), x8, x9, x10, some (D.int (N : Nat)), x12, x13, x14, x15, x16, x17] h := by
  have z : (!((N : Int) == (N : Int))) = false := by simp
  simp only [L5_3, ev_if, ev_tor, ev_tv, ev_bin, ev_var, List.getElem?_cons_zero, List.getElem?_cons_succ, Res.bind_ok, oNe_int, z, Bool.false_eq_true, if_false, ev_call, ev_cons, ev_nil, List.append_nil, turned_eq hn hk hN, turned_eq hn hk (turn_lt n N k), turn_2 hk hN, Res.out_ok, ev_sNil]
theorem l54 {n N k : Nat} (hn : n ≤ 10) (hN : N < 2 ^ 2 ^ n) (hk : k < n) : L5_4 [some sc, some (D.ref 0), x2, some (D.int (n : Nat)), x4, some (D.int (N : Nat)), some (D.lst (dnums (supp n N))), some (D.int (k : Nat)), some (D.int (hi1 n N k : Nat)), some (D.int (hi0 n N k : Nat)), x10, x11, x12, x13, x14, x15, x16, x17] h = .next [some sc, some (D.ref 0), x2, some (D.int (n : Nat)), x4, some (D.int (N : Nat)), some (D.lst (dnums (supp n N))), some (D.int (k : Nat)), some (D.int (hi1 n N k : Nat)), some (D.int (hi0 n N k : Nat)), x10, x11, x12, x13, x14, x15, x16, x17] h := by
  have m := mem_supp hk hN
  have i := hi_iff hk hN
  have z1 : (!(decide (k ∈ supp n N) == !((hi1 n N k : Int) == (hi0 n N k : Int)))) = false := by
    rw [nat_beq]
    by_cases q : turn n N k = N
    · have a1 : ¬ k ∈ supp n N := fun w => m.mp w q
      have a2 := i.mpr q
      simp [a1, a2]
    · have a1 : k ∈ supp n N := m.mpr q
      have a2 : ¬ hi1 n N k = hi0 n N k := fun w => q (i.mp w.symm)
      simp [a1, a2]
  have z2 : (!(decide (k ∈ supp n N) == !((turn n N k : Int) == (N : Int)))) = false := by
    rw [nat_beq]
    by_cases q : turn n N k = N
    · have a1 : ¬ k ∈ supp n N := fun w => m.mp w q
      simp [a1, q]
    · have a1 : k ∈ supp n N := m.mpr q
      simp [a1, q]
  simp only [L5_4, ev_if, ev_tor, ev_tv, ev_bin, ev_var, List.getElem?_cons_zero, List.getElem?_cons_succ, Res.bind_ok, in_nums, oNe_int, oNe_bl, z1, Bool.false_eq_true, if_false, ev_call, ev_cons, ev_nil, List.append_nil, turned_eq hn hk hN, z2, Res.out_ok, ev_sNil]
theorem l5 {n N : Nat} (hn : n ≤ 10) (hN : N < 2 ^ 2 ^ n) : ∃ y7 y8 y9 y10 y11, L5 [some sc, some (D.ref 0), x2, some (D.int (n : Nat)), some (D.int (2 ^ n : Nat)), some (D.int (N : Nat)), some (D.lst (dnums (supp n N))), x7, x8, x9, x10, x11, x12, x13, x14, x15, x16, x17] h = .next [some sc, some (D.ref 0), x2, some (D.int (n : Nat)), some (D.int (2 ^ n : Nat)), some (D.int (N : Nat)), some (D.lst (dnums (supp n N))), y7, y8, y9, y10, y11, x12, x13, x14, x15, x16, x17] h := by
  obtain ⟨st', h', e, rfl, y7, y8, y9, y10, y11, rfl⟩ := forL_inv (fg := gtName 7) (fb := L5b) (fun _ st h1 => h1 = h ∧ ∃ x7 x8 x9 x10 x11, st = [some sc, some (D.ref 0), x2, some (D.int (n : Nat)), some (D.int (2 ^ n : Nat)), some (D.int (N : Nat)), some (D.lst (dnums (supp n N))), x7, x8, x9, x10, x11, x12, x13, x14, x15, x16, x17]) ((List.range n).map fun (i : Nat) => D.int (i : Int)) 0
    [some sc, some (D.ref 0), x2, some (D.int (n : Nat)), some (D.int (2 ^ n : Nat)), some (D.int (N : Nat)), some (D.lst (dnums (supp n N))), x7, x8, x9, x10, x11, x12, x13, x14, x15, x16, x17] h (fun i d st h1 hd ⟨i1, x7, x8, x9, x10, x11, i2⟩ => by
      subst i1 i2
      rw [List.getElem?_map] at hd
      have hi : i < n := by
        by_cases z : i < n
        · exact z
        · rw [List.getElem?_eq_none (by simpa using z)] at hd
          cases hd
      rw [List.getElem?_range hi] at hd
      have hd : D.int (i : Int) = d := by simpa using hd
      subst hd
      refine ⟨_, _, [some sc, some (D.ref 0), x2, some (D.int (n : Nat)), some (D.int (2 ^ n : Nat)), some (D.int (N : Nat)), some (D.lst (dnums (supp n N))), some (D.int (i : Nat)), some (D.int (hi1 n N i : Nat)), some (D.int (hi0 n N i : Nat)), some (D.int (col n i : Nat)), some (D.int (N : Nat)), x12, x13, x14, x15, x16, x17], h1, rfl, ?_, rfl, _, _, _, _, _, rfl⟩
      simp only [List.set_cons_succ, List.set_cons_zero, L5b, ev_seq, l50 hn hN hi, seq_next, l51 hn hi, l52' hn hN hi, l53 hn hN hi, l54 hn hN hi])
    ⟨rfl, _, _, _, _, _, rfl⟩
  refine ⟨y7, y8, y9, y10, y11, ?_⟩
  have r1 : iRange1 (cCons (cVar 3) cNil) [some sc, some (D.ref 0), x2, some (D.int (n : Nat)), some (D.int (2 ^ n : Nat)), some (D.int (N : Nat)), some (D.lst (dnums (supp n N))), x7, x8, x9, x10, x11, x12, x13, x14, x15, x16, x17] h' = .ok ((List.range n).map fun (i : Nat) => D.int (i : Int)) h' := ev_range1 rfl (by omega)
  simp only [L5, ev_for, r1, Res.out_ok, e]
end K68

namespace K68
open PySem PySem.Spec PyProof.Rows Gm
variable {l : List Int} {b : Nat} {t h : Store} {sc : D} {x2 x3 x4 x5 x6 x7 x8 x9 x10 x11 x12 x13 x14 x15 x16 x17 : Option D}
abbrev cel (x : List Nat) : Option Cell := some (Cell.lst (dnums x))
theorem get1 {a c : Option Cell} {z : Option Cell} : (z :: (t ++ [a, c]))[t.length + 1]? = some a := by simp
theorem get2 {a c : Option Cell} {z : Option Cell} : (z :: (t ++ [a, c]))[t.length + 2]? = some c := by simp
theorem set1 {a c a' : Option Cell} {z : Option Cell} : (z :: (t ++ [a, c])).set (t.length + 1) a' = z :: (t ++ [a', c]) := by simp
theorem set2 {a c c' : Option Cell} {z : Option Cell} : (z :: (t ++ [a, c])).set (t.length + 2) c' = z :: (t ++ [a, c']) := by
  rw [List.set_cons_succ, List.set_append_right _ _ (by omega)]
  simp
theorem Bx.len (x : Bx l b t h) : h.length = t.length + 1 := by
  obtain ⟨p, r, s, rfl, _⟩ := x
  rfl
theorem Bx.app (x : Bx l b t h) (u : Store) : Bx l b (t ++ u) (h ++ u) := by
  obtain ⟨p, r, s, rfl, q⟩ := x
  exact ⟨p, r, s, rfl, q⟩
theorem l6 {n : Nat} (hn : n ≤ 10) : L6 [some sc, some (D.ref 0), x2, some (D.int (n : Nat)), x4, x5, x6, x7, x8, x9, x10, x11, x12, x13, x14, x15, x16, x17] h = .next [some sc, some (D.ref 0), x2, some (D.int (n : Nat)), x4, x5, x6, x7, x8, x9, x10, x11, some (D.ref h.length), x13, x14, x15, x16, x17] (h ++ [cel (List.range n)]) := by
  have r1 : iRange1 (cCons (cVar 3) cNil) [some sc, some (D.ref 0), x2, some (D.int (n : Nat)), x4, x5, x6, x7, x8, x9, x10, x11, x12, x13, x14, x15, x16, x17] h = .ok ((List.range n).map fun (i : Nat) => D.int (i : Int)) h := ev_range1 rfl (by omega)
  have sl : ((List.range n).map fun (i : Nat) => D.int (i : Int)).length ≤ sizeLine := small_line (by simp; omega)
  have e3 := lcL_all1 (fg := fName 7) (ft := cYes) (fe := cVar 7) (st0 := [some sc, some (D.ref 0), x2, some (D.int (n : Nat)), x4, x5, x6, none, x8, x9, x10, x11, x12, x13, x14, x15, x16, x17]) (h := h) (f := fun (i : Nat) => D.int (i : Int)) (q := fun (i : Nat) => D.int (i : Int)) (List.range n) fun i _ => ⟨_, rfl, rfl, rfl⟩
  simp only [L6, ev_set, ev_lc, r1, Res.bind_ok, sl, if_true, ev_wipe1, ev_wipe0, List.set_cons_succ, List.set_cons_zero, e3, ev_allocM, Res.out_ok]
  rfl
theorem l7 : L7 [some sc, some (D.ref 0), x2, x3, x4, x5, x6, x7, x8, x9, x10, x11, x12, x13, x14, x15, x16, x17] h = .next [some sc, some (D.ref 0), x2, x3, x4, x5, x6, x7, x8, x9, x10, x11, x12, some (D.ref h.length), x14, x15, x16, x17] (h ++ [cel []]) := by
  have z : ([] : List D).length ≤ sizeLine := Nat.zero_le _
  simp only [L7, ev_set, ev_lstM, ev_nil, Res.bind_ok, z, if_true, Res.out_ok, List.set_cons_succ, List.set_cons_zero]
  rfl
theorem map_erase {α β : Type} (f : α → β) : ∀ (l : List α) (v : Nat), (l.map f).eraseIdx v = (l.eraseIdx v).map f
  | [], v => by simp
  | a :: l, 0 => by simp
  | a :: l, v + 1 => by simp [map_erase f l v]
theorem erase_perm {α : Type} : ∀ (l : List α) (v : Nat) (hv : v < l.length), (l[v] :: l.eraseIdx v).Perm l
  | [], v, hv => absurd hv (Nat.not_lt_zero v)
  | a :: l, 0, _ => by simp
  | a :: l, v + 1, hv => by
    have ih := erase_perm l v (by simpa using hv)
    rw [List.eraseIdx_cons_succ, List.getElem_cons_succ]
    exact (List.Perm.swap a (l[v]'(by simpa using hv)) (l.eraseIdx v)).trans (ih.cons a)
theorem pop_at {n : Nat} {xs : List Nat} {v : Nat} (hn : h[n]? = some (cel xs)) (hv : v < xs.length) (hs : xs.length ≤ 1000) : mPopAt (D.ref n) [D.int (v : Int)] h = .ok (D.int (xs[v] : Nat)) (h.set n (cel (xs.eraseIdx v))) := by
  have e1 : cellL h (D.ref n) = some (n, dnums xs) := by
    show (match h[n]? with
      | some (some (.lst l)) => some (n, l)
      | _ => none) = _
    rw [hn]
  have big : (1000 : Int) < 2 ^ 63 := by decide +kernel
  have low : (-(2 ^ 63) : Int) ≤ 0 := by decide +kernel
  have c1 : -(2 ^ 63) ≤ (v : Int) ∧ (v : Int) < 2 ^ 63 := by
    have a1 : (v : Int) ≤ 1000 := by omega
    exact ⟨Int.le_trans low (Int.natCast_nonneg v), Int.lt_of_le_of_lt a1 big⟩
  have e2 : seqIndex? (v : Int) (dnums xs).length = some v := by
    have e3 : ¬ ((v : Int) < 0) := by omega
    have e4 : (dnums xs).length = xs.length := by simp [dnums]
    unfold seqIndex?
    rw [e4, if_neg e3]
    dsimp only
    rw [if_pos (by simp; omega), Int.toNat_natCast]
  have e5 : (dnums xs)[v]? = some (D.int (xs[v] : Nat)) := by simp [dnums, hv]
  unfold mPopAt
  rw [e1]
  dsimp only
  rw [if_pos c1, e2]
  dsimp only
  rw [e5]
  dsimp only
  rw [show (dnums xs).eraseIdx v = dnums (xs.eraseIdx v) from map_erase _ xs v]
theorem app_at {n : Nat} {xs : List Nat} {v : Nat} (hn : h[n]? = some (cel xs)) (hs : xs.length ≤ 1000) : mAppend (D.ref n) [D.int (v : Int)] h = .ok .non (h.set n (cel (xs ++ [v]))) := by
  have e1 : cellL h (D.ref n) = some (n, dnums xs) := by
    show (match h[n]? with
      | some (some (.lst l)) => some (n, l)
      | _ => none) = _
    rw [hn]
  have e4 : (dnums xs).length < sizeLine := by
    have q : (1001 : Nat) ≤ sizeLine := small_line (by decide)
    simp [dnums]
    omega
  unfold mAppend
  rw [e1]
  dsimp only
  rw [if_pos e4, show dnums xs ++ [D.int (v : Int)] = dnums (xs ++ [v]) by simp [dnums]]
theorem isL {n : Nat} {xs : List Nat} (hn : h[n]? = some (cel xs)) : isTy "list" h (D.ref n) = true := by
  show (match h[n]? with
    | some (some (.lst _)) => "list" == "list"
    | some (some (.dct _)) => "list" == "dict"
    | _ => false) = true
  rw [hn] <;> rfl
theorem len_at {n : Nat} {xs : List Nat} (hn : h[n]? = some (cel xs)) : fLen [D.ref n] h = .ok (D.int (xs.length : Nat)) h := by
  have e : asR h (D.ref n) = some (dnums xs) := by
    show (match h[n]? with
      | some (some (.lst l)) => some l
      | _ => none) = _
    rw [hn]
  unfold fLen
  simp only [e]
  simp [dnums]
theorem ev_cMt {T : String} {F : MethT} {fo : Ev D} {fs : Ev (List D)} {st : Slots} {h h1 : Store} {d : D} (e : fo st h = .ok d h1) (ht : isTy T h1 d = true) : cMt T F fo fs st h = (fs st h1).bind fun ds h2 => F d ds h2 := by
  unfold cMt
  rw [e, Res.bind_ok, if_pos ht]
theorem perm_move {lf so : List Nat} {v : Nat} {n : Nat} (hv : v < lf.length) (p : (lf ++ so).Perm (List.range n)) : ((lf.eraseIdx v) ++ (so ++ [lf[v]])).Perm (List.range n) := by
  have q : (lf[v] :: lf.eraseIdx v).Perm lf := erase_perm lf v hv
  refine List.Perm.trans ?_ p
  rw [← List.append_assoc]
  refine List.Perm.trans (List.perm_append_singleton _ _) ?_
  exact List.Perm.append_right so q
theorem l8 {n : Nat} (hn : n ≤ 10) (x : Bx l b (t ++ [cel (List.range n), cel []]) h) (hb : b ≤ 900000) : ∃ (so : List Nat) (h' : Store) (y7 : Option D), so.Perm (List.range n) ∧ Bx l (b + n) (t ++ [cel [], cel so]) h' ∧
    L8 [some sc, some (D.ref 0), x2, some (D.int (n : Nat)), x4, x5, x6, x7, x8, x9, x10, x11, some (D.ref (t.length + 1)), some (D.ref (t.length + 2)), x14, x15, x16, x17] h = .next [some sc, some (D.ref 0), x2, some (D.int (n : Nat)), x4, x5, x6, y7, x8, x9, x10, x11, some (D.ref (t.length + 1)), some (D.ref (t.length + 2)), x14, x15, x16, x17] h' := by
  obtain ⟨st', h', e, y7, lf, so, x', p, hl, rfl⟩ := forL_inv (fg := gtName 7) (fb := L8b) (fun i st h1 => ∃ x7 lf so, Bx l (b + i) (t ++ [cel lf, cel so]) h1 ∧ (lf ++ so).Perm (List.range n) ∧ lf.length + i = n ∧ st = [some sc, some (D.ref 0), x2, some (D.int (n : Nat)), x4, x5, x6, x7, x8, x9, x10, x11, some (D.ref (t.length + 1)), some (D.ref (t.length + 2)), x14, x15, x16, x17]) ((List.range n).map fun (i : Nat) => D.int (i : Int)) 0
    [some sc, some (D.ref 0), x2, some (D.int (n : Nat)), x4, x5, x6, x7, x8, x9, x10, x11, some (D.ref (t.length + 1)), some (D.ref (t.length + 2)), x14, x15, x16, x17] h (fun i d st h1 hd ⟨x7, lf, so, x, p, hl, i2⟩ => by
      subst i2
      rw [Nat.zero_add] at x hl ⊢
      rw [List.getElem?_map] at hd
      have hi : i < n := by
        by_cases z : i < n
        · exact z
        · rw [List.getElem?_eq_none (by simpa using z)] at hd
          cases hd
      rw [List.getElem?_range hi] at hd
      have hd : D.int (i : Int) = d := by simpa using hd
      subst hd
      have pl : (lf ++ so).length = n := by rw [p.length_eq, List.length_range]
      rw [List.length_append] at pl
      have pos : (0 : Int) < (lf.length : Int) := by omega
      have sm : ((lf.length : Int)).natAbs < 2 ^ 9000 := by
        rw [Int.natAbs_natCast]
        exact Nat.lt_of_le_of_lt (show lf.length ≤ 10 by omega) (Nat.lt_of_lt_of_le (show 10 < 2 ^ 4 by decide) (Nat.pow_le_pow_right (by decide) (by decide)))
      obtain ⟨v, h2, e1, v0, v1, x2'⟩ := x.take (by omega) pos sm
      obtain ⟨pp, r, s, eh1, q1⟩ := x
      obtain ⟨pp2, r2, s2, eh2, q2⟩ := x2'
      obtain ⟨w, rfl⟩ : ∃ w : Nat, v = (w : Int) := ⟨v.toNat, (Int.toNat_of_nonneg v0).symm⟩
      have wl : w < lf.length := by omega
      have c1 : h1[t.length + 1]? = some (cel lf) := by rw [eh1]; exact get1
      have c2 : h1[t.length + 2]? = some (cel so) := by rw [eh1]; exact get2
      have c3 : h2[t.length + 1]? = some (cel lf) := by rw [eh2]; exact get1
      have c4 : (h2.set (t.length + 1) (cel (lf.eraseIdx w)))[t.length + 2]? = some (cel so) := by rw [eh2, set1]; exact get2
      have c5 : (h2.set (t.length + 1) (cel (lf.eraseIdx w))).set (t.length + 2) (cel (so ++ [lf[w]])) = box l pp2 r2 s2 :: (t ++ [cel (lf.eraseIdx w), cel (so ++ [lf[w]])]) := by rw [eh2, set1, set2]
      refine ⟨_, _, [some sc, some (D.ref 0), x2, some (D.int (n : Nat)), x4, x5, x6, some (D.int (i : Nat)), x8, x9, x10, x11, some (D.ref (t.length + 1)), some (D.ref (t.length + 2)), x14, x15, x16, x17], box l pp2 r2 s2 :: (t ++ [cel (lf.eraseIdx w), cel (so ++ [lf[w]])]), rfl, ?_, _, lf.eraseIdx w, so ++ [lf[w]], ⟨pp2, r2, s2, rfl, q2⟩, perm_move wl p, ?_, rfl⟩
      · have e2 : (cMt "list" mPopAt (cVar 12) (cCons (cCall F_law_take [] (cCons (cVar 1) (cCons (cB fLen (cCons (cVar 12) cNil)) cNil))) cNil)) [some sc, some (D.ref 0), x2, some (D.int (n : Nat)), x4, x5, x6, some (D.int (i : Nat)), x8, x9, x10, x11, some (D.ref (t.length + 1)), some (D.ref (t.length + 2)), x14, x15, x16, x17] h1 = .ok (D.int (lf[w] : Nat)) (h2.set (t.length + 1) (cel (lf.eraseIdx w))) := by
          rw [ev_cMt (d := D.ref (t.length + 1)) rfl (isL c1)]
          simp only [ev_cons, ev_call, ev_cB, ev_var, ev_nil, List.getElem?_cons_zero, List.getElem?_cons_succ, Res.bind_ok, List.append_nil, len_at c1, e1, pop_at c3 wl (show lf.length ≤ 1000 by omega)]
        simp only [List.set_cons_succ, List.set_cons_zero, L8b, L8_0, ev_expr]
        rw [ev_cMt (d := D.ref (t.length + 2)) rfl (isL c2)]
        simp only [ev_cons, e2, ev_nil, Res.bind_ok, app_at c4 (show so.length ≤ 1000 by omega), c5, Res.out_ok]
      · rw [List.length_eraseIdx_of_lt wl]
        omega)
    ⟨_, List.range n, [], x, by rw [List.append_nil], by simp, rfl⟩
  rw [List.length_map, List.length_range, Nat.zero_add] at x' hl
  have lf0 : lf = [] := List.eq_nil_of_length_eq_zero (by omega)
  subst lf0
  refine ⟨so, h', y7, by simpa using p, x', ?_⟩
  have r1 : iRange1 (cCons (cVar 3) cNil) [some sc, some (D.ref 0), x2, some (D.int (n : Nat)), x4, x5, x6, x7, x8, x9, x10, x11, some (D.ref (t.length + 1)), some (D.ref (t.length + 2)), x14, x15, x16, x17] h = .ok ((List.range n).map fun (i : Nat) => D.int (i : Int)) h := ev_range1 rfl (by omega)
  simp only [L8, ev_for, r1, Res.out_ok, e]
end K68

namespace K68
open PySem PySem.Spec PyProof.Rows Gm
variable {l : List Int} {b : Nat} {t h : Store} {sc : D} {x2 x3 x4 x5 x6 x7 x8 x9 x10 x11 x12 x13 x14 x15 x16 x17 : Option D}
theorem first_at (k : Nat) : ∀ (so : List Nat), k ∈ so → firstAt (L2.V.int (k : Int)) (so.map fun (a : Nat) => L2.V.int (a : Int)) = some (so.idxOf k)
  | [], h => by simp at h
  | a :: so, h => by
    rw [List.map_cons]
    unfold firstAt
    rw [eqV_n, List.idxOf_cons]
    by_cases e : a = k
    · subst e; simp
    · have z : (a == k) = false := by simpa using e
      have hk : k ∈ so := by
        rcases List.mem_cons.mp h with q | q
        · exact absurd q.symm e
        · exact q
      rw [z, first_at k so hk]
      simp
theorem index_at {k : Nat} {so : List Nat} (hk : k ∈ so) : mIndex (.lst (dnums so)) [D.int (k : Int)] h = .ok (D.int (so.idxOf k : Nat)) h := by
  unfold mIndex
  simp only [asR, D.flat, flats_nums, first_at k so hk]
theorem l9 {n : Nat} {so : List Nat} (hn : n ≤ 10) (p : so.Perm (List.range n)) (x : Bx l b (t ++ [cel [], cel so]) h) : ∃ h', Bx l b (t ++ [cel [], none]) h' ∧
    L9 [some sc, some (D.ref 0), x2, some (D.int (n : Nat)), x4, x5, x6, x7, x8, x9, x10, x11, x12, some (D.ref (t.length + 2)), x14, x15, x16, x17] h = .next [some sc, some (D.ref 0), x2, some (D.int (n : Nat)), x4, x5, x6, x7, x8, x9, x10, x11, x12, some (D.lst (dnums so)), some (D.lst (dnums ((List.range n).map fun k => so.idxOf k))), x15, x16, x17] h' := by
  obtain ⟨pp, r, s, rfl, q⟩ := x
  refine ⟨box l pp r s :: (t ++ [cel [], none]), ⟨pp, r, s, rfl, q⟩, ?_⟩
  have c1 : (box l pp r s :: (t ++ [cel [], cel so]))[t.length + 2]? = some (cel so) := get2
  have c2 : (box l pp r s :: (t ++ [cel [], cel so])).set (t.length + 2) none = box l pp r s :: (t ++ [cel [], none]) := set2
  have go : ∀ (f : Ss), sFrz 13 f [some sc, some (D.ref 0), x2, some (D.int (n : Nat)), x4, x5, x6, x7, x8, x9, x10, x11, x12, some (D.ref (t.length + 2)), x14, x15, x16, x17] (box l pp r s :: (t ++ [cel [], cel so])) = f [some sc, some (D.ref 0), x2, some (D.int (n : Nat)), x4, x5, x6, x7, x8, x9, x10, x11, x12, some (D.lst (dnums so)), x14, x15, x16, x17] (box l pp r s :: (t ++ [cel [], none])) := fun f => by
    show (match (box l pp r s :: (t ++ [cel [], cel so]))[t.length + 2]? with
      | some (some (.lst l')) => f [some sc, some (D.ref 0), x2, some (D.int (n : Nat)), x4, x5, x6, x7, x8, x9, x10, x11, x12, some (D.lst l'), x14, x15, x16, x17] ((box l pp r s :: (t ++ [cel [], cel so])).set (t.length + 2) none)
      | _ => .no) = _
    rw [c1, c2]
  unfold L9
  rw [go]
  generalize box l pp r s :: (t ++ [cel [], none]) = h'
  have r1 : iRange1 (cCons (cVar 3) cNil) [some sc, some (D.ref 0), x2, some (D.int (n : Nat)), x4, x5, x6, x7, x8, x9, x10, x11, x12, some (D.lst (dnums so)), x14, x15, x16, x17] h' = .ok ((List.range n).map fun (i : Nat) => D.int (i : Int)) h' := ev_range1 rfl (by omega)
  have sl : ((List.range n).map fun (i : Nat) => D.int (i : Int)).length ≤ sizeLine := small_line (by simp; omega)
  have e3 := lcL_all1 (fg := fName 7) (ft := cYes) (fe := cMt "list" mIndex (cVar 13) (cCons (cVar 7) cNil)) (st0 := [some sc, some (D.ref 0), x2, some (D.int (n : Nat)), x4, x5, x6, none, x8, x9, x10, x11, x12, some (D.lst (dnums so)), x14, x15, x16, x17]) (h := h') (f := fun (i : Nat) => D.int (i : Int)) (q := fun (i : Nat) => D.int (so.idxOf i : Nat)) (List.range n) fun i hi => by
    refine ⟨[some sc, some (D.ref 0), x2, some (D.int (n : Nat)), x4, x5, x6, some (D.int (i : Nat)), x8, x9, x10, x11, x12, some (D.lst (dnums so)), x14, x15, x16, x17], rfl, rfl, ?_⟩
    rw [ev_cMt (d := D.lst (dnums so)) rfl rfl]
    simp only [ev_cons, ev_var, ev_nil, List.getElem?_cons_zero, List.getElem?_cons_succ, Res.bind_ok, index_at (p.mem_iff.mpr hi)]
  have e4 : (List.range n).map (fun (i : Nat) => D.int (so.idxOf i : Nat)) = dnums ((List.range n).map fun k => so.idxOf k) := by
    unfold dnums
    rw [List.map_map]
    rfl
  simp only [ev_set, ev_lc, r1, Res.bind_ok, sl, if_true, ev_wipe1, ev_wipe0, List.set_cons_succ, List.set_cons_zero, e3, ev_alloc, Res.out_ok, e4]
theorem l10 {n N : Nat} {so : List Nat} (hn : n ≤ 10) (hN : N < 2 ^ 2 ^ n) (p : so.Perm (List.range n)) : L10 [some sc, some (D.ref 0), x2, some (D.int (n : Nat)), x4, some (D.int (N : Nat)), x6, x7, x8, x9, x10, x11, x12, some (D.lst (dnums so)), some (D.lst (dnums ((List.range n).map fun k => so.idxOf k))), x15, x16, x17] h =
    .next [some sc, some (D.ref 0), x2, some (D.int (n : Nat)), x4, some (D.int (N : Nat)), x6, x7, x8, x9, x10, x11, x12, some (D.lst (dnums so)), some (D.lst (dnums ((List.range n).map fun k => so.idxOf k))), x15, x16, x17] h := by
  have nd : so.Nodup := p.nodup_iff.mpr List.nodup_range
  have ll : so.length = n := by rw [p.length_eq, List.length_range]
  have lt : ∀ a ∈ so, a < n := fun a ha => List.mem_range.mp (p.mem_iff.mp ha)
  have mem : ∀ i, i < n → i ∈ so := fun i hi => p.mem_iff.mpr (List.mem_range.mpr hi)
  have at_ : ∀ i, i < n → so[so.idxOf i]? = some i := fun i hi => by
    have q := List.idxOf_lt_length_of_mem (mem i hi)
    rw [List.getElem?_eq_getElem q, List.getElem_idxOf q]
  have bl : ((List.range n).map fun k => so.idxOf k).length = n := by simp
  have bnd : ((List.range n).map fun k => so.idxOf k).Nodup := by
    show List.Pairwise (· ≠ ·) _
    rw [List.pairwise_map]
    refine List.Pairwise.imp_of_mem (fun {i j} hi hj hij e => ?_) (show List.Pairwise (· ≠ ·) (List.range n) from List.nodup_range)
    have a1 := at_ i (List.mem_range.mp hi)
    rw [e, at_ j (List.mem_range.mp hj)] at a1
    have : j = i := by simpa using a1
    exact hij this.symm
  have blt : ∀ a ∈ (List.range n).map fun k => so.idxOf k, a < n := fun a ha => by
    obtain ⟨i, hi, rfl⟩ := List.mem_map.mp ha
    have := List.idxOf_lt_length_of_mem (mem i (List.mem_range.mp hi))
    omega
  have w := nar_lt N so
  rw [ll] at w
  have z : (!((N : Int) == (N : Int))) = false := by simp
  simp only [L10, ev_if, ev_tv, ev_bin, ev_call, ev_cons, ev_nil, ev_var, List.getElem?_cons_zero, List.getElem?_cons_succ, Res.bind_ok, List.append_nil, narrowed_eq hn hN lt (by omega) nd, narrowed_eq hn w blt (by omega) bnd, nar_back hN p, oNe_int, z, Res.out_ok, Bool.false_eq_true, if_false, ev_sNil]
theorem l11 {n N : Nat} (hn : n ≤ 10) : L11 [some sc, some (D.ref 0), x2, some (D.int (n : Nat)), x4, x5, some (D.lst (dnums (supp n N))), x7, x8, x9, x10, x11, x12, x13, x14, x15, x16, x17] h = .next [some sc, some (D.ref 0), x2, some (D.int (n : Nat)), x4, x5, some (D.lst (dnums (supp n N))), x7, x8, x9, x10, x11, x12, x13, x14, some (D.lst (dnums (supp n N))), x16, x17] h := by
  have r1 : iRange1 (cCons (cVar 3) cNil) [some sc, some (D.ref 0), x2, some (D.int (n : Nat)), x4, x5, some (D.lst (dnums (supp n N))), x7, x8, x9, x10, x11, x12, x13, x14, x15, x16, x17] h = .ok ((List.range n).map fun (i : Nat) => D.int (i : Int)) h := ev_range1 rfl (by omega)
  have sl : ((List.range n).map fun (i : Nat) => D.int (i : Int)).length ≤ sizeLine := small_line (by simp; omega)
  have e3 := lcL_map (fg := fName 7) (ft := cTv (cBin oIn (cVar 7) (cVar 6))) (fe := cVar 7) (st0 := [some sc, some (D.ref 0), x2, some (D.int (n : Nat)), x4, x5, some (D.lst (dnums (supp n N))), none, x8, x9, x10, x11, x12, x13, x14, x15, x16, x17]) (h := h) (f := fun (i : Nat) => D.int (i : Int)) (p := fun i => decide (i ∈ supp n N)) (q := fun (i : Nat) => D.int (i : Int)) (List.range n) fun i hi => by
    refine ⟨[some sc, some (D.ref 0), x2, some (D.int (n : Nat)), x4, x5, some (D.lst (dnums (supp n N))), some (D.int (i : Nat)), x8, x9, x10, x11, x12, x13, x14, x15, x16, x17], rfl, ?_, fun _ => rfl⟩
    simp only [ev_tv, ev_bin, ev_var, List.getElem?_cons_zero, List.getElem?_cons_succ, Res.bind_ok, in_nums]
  have e4 : (List.range n).filter (fun i => decide (i ∈ supp n N)) = supp n N := by
    unfold supp
    refine List.filter_congr fun i hi => ?_
    rw [Bool.eq_iff_iff, decide_eq_true_eq, List.mem_filter]
    simp [List.mem_range.mp hi]
  simp only [L11, ev_set, ev_lc, r1, Res.bind_ok, sl, if_true, ev_wipe1, ev_wipe0, List.set_cons_succ, List.set_cons_zero, e3, ev_alloc, Res.out_ok, e4]
  rfl
theorem l12 {n N : Nat} (hn : n ≤ 10) (hN : N < 2 ^ 2 ^ n) : L12 [some sc, some (D.ref 0), x2, some (D.int (n : Nat)), x4, some (D.int (N : Nat)), x6, x7, x8, x9, x10, x11, x12, x13, x14, some (D.lst (dnums (supp n N))), x16, x17] h = .next [some sc, some (D.ref 0), x2, some (D.int (n : Nat)), x4, some (D.int (N : Nat)), x6, x7, x8, x9, x10, x11, x12, x13, x14, some (D.lst (dnums (supp n N))), some (D.int (nar N (supp n N) : Nat)), x17] h := by
  have k := supp_len n N
  simp only [L12, ev_set, ev_call, ev_cons, ev_nil, ev_var, List.getElem?_cons_zero, List.getElem?_cons_succ, Res.bind_ok, List.append_nil, narrowed_eq hn hN (fun a ha => supp_lt ha) (show (supp n N).length ≤ 10 by omega) (supp_nd n N), Res.out_ok, List.set_cons_succ, List.set_cons_zero]
theorem len_nums (xs : List Nat) : fLen [.lst (dnums xs)] h = .ok (D.int (xs.length : Nat)) h := by simp [fLen, asR, dnums]
theorem l13 {n N : Nat} (hn : n ≤ 10) (hN : N < 2 ^ 2 ^ n) : L13 [some sc, some (D.ref 0), x2, x3, x4, x5, x6, x7, x8, x9, x10, x11, x12, x13, x14, some (D.lst (dnums (supp n N))), some (D.int (nar N (supp n N) : Nat)), x17] h = .next [some sc, some (D.ref 0), x2, x3, x4, x5, x6, x7, x8, x9, x10, x11, x12, x13, x14, some (D.lst (dnums (supp n N))), some (D.int (nar N (supp n N) : Nat)), x17] h := by
  have k := supp_len n N
  have a := less_all (n := n) hN
  have z : (!(((supp n N).length : Int) == ((supp n N).length : Int))) = false := by simp
  simp only [L13, ev_if, ev_tv, ev_bin, ev_cB, ev_call, ev_cons, ev_nil, ev_var, List.getElem?_cons_zero, List.getElem?_cons_succ, Res.bind_ok, List.append_nil, len_nums, hung_eq (show (supp n N).length ≤ 10 by omega) (nar_lt N (supp n N)), a, List.length_range, oNe_int, z, Res.out_ok, Bool.false_eq_true, if_false, ev_sNil]
theorem tup_ne (a c : Int) : oNe (.tup [D.int a, D.int c]) (.tup [D.int a, D.int c]) h = .ok (D.bl false) h := by
  have e : D.py h 40 (.tup [D.int a, D.int c]) = some (.tuple [PyData.int a, PyData.int c]) := rfl
  have e2 : SeqAt.shaped (.tuple [PyData.int a, PyData.int c]) = true := by simp [SeqAt.shaped, PyData.canLay0, PyData.canLayAll0, PyData.depth, PyData.depthAll]
  have e3 : PyData.eqv (.tuple [PyData.int a, PyData.int c]) (.tuple [PyData.int a, PyData.int c]) = true := by simp [PyData.eqv, PyData.eqvAll]
  have q : eqD h (.tup [D.int a, D.int c]) (.tup [D.int a, D.int c]) = some true := by
    show (match D.py h 40 (.tup [D.int a, D.int c]), D.py h 40 (.tup [D.int a, D.int c]) with
      | some p, some q => if SeqAt.shaped p = true ∧ SeqAt.shaped q = true then some (PyData.eqv p q) else none
      | _, _ => none) = _
    rw [e]
    dsimp only
    rw [if_pos ⟨e2, e2⟩, e3]
  unfold oNe
  rw [q]
  rfl
theorem l14 {n N : Nat} (hn : n ≤ 10) (hN : N < 2 ^ 2 ^ n) : L14 [some sc, some (D.ref 0), x2, x3, x4, x5, x6, x7, x8, x9, x10, x11, x12, x13, x14, some (D.lst (dnums (supp n N))), some (D.int (nar N (supp n N) : Nat)), x17] h = .next [some sc, some (D.ref 0), x2, x3, x4, x5, x6, x7, x8, x9, x10, x11, x12, x13, x14, some (D.lst (dnums (supp n N))), some (D.int (nar N (supp n N) : Nat)), x17] h := by
  have k := supp_len n N
  have two : (2 : Nat) ≤ sizeLine := small_line (by simp)
  have two2 : [D.int (nar N (supp n N) : Nat), D.int ((supp n N).length : Nat)].length = 2 := rfl
  simp only [L14, ev_if, ev_tv, ev_bin, ev_cB, ev_call, ev_cons, ev_nil, ev_tup, ev_var, List.getElem?_cons_zero, List.getElem?_cons_succ, Res.bind_ok, List.append_nil, len_nums, text_eq (show (supp n N).length ≤ 10 by omega) (nar_lt N (supp n N)), read_eq (show (supp n N).length ≤ 10 by omega) (nar_lt N (supp n N)), two2, two, if_true, tup_ne, Res.out_ok, Bool.false_eq_true, if_false, ev_sNil]
theorem turn_ok (x : Bx l b t h) (hb : b ≤ 800000) : ∃ t' h' y2 y3 y4 y5 y6 y7 y8 y9 y10 y11 y12 y13 y14 y15 y16 y17, Bx l (b + 1040) t' h' ∧ Lb [some sc, some (D.ref 0), x2, x3, x4, x5, x6, x7, x8, x9, x10, x11, x12, x13, x14, x15, x16, x17] h = .next [some sc, some (D.ref 0), y2, y3, y4, y5, y6, y7, y8, y9, y10, y11, y12, y13, y14, y15, y16, y17] h' := by
  obtain ⟨n, h1, hn, x1, e1⟩ := l0 (sc := sc) (x2 := x2) (x3 := x3) (x4 := x4) (x5 := x5) (x6 := x6) (x7 := x7) (x8 := x8) (x9 := x9) (x10 := x10) (x11 := x11) (x12 := x12) (x13 := x13) (x14 := x14) (x15 := x15) (x16 := x16) (x17 := x17) x (by omega)
  have w1 := two_le hn
  obtain ⟨N0, h2, hN0, xx2, e2⟩ := l2 (sc := sc) (x2 := x2) (x5 := x5) (x6 := x6) (x7 := x7) (x8 := x8) (x9 := x9) (x10 := x10) (x11 := x11) (x12 := x12) (x13 := x13) (x14 := x14) (x15 := x15) (x16 := x16) (x17 := x17) hn x1 (by omega)
  obtain ⟨N, h3, hN, xx3, e3⟩ := l3 (sc := sc) (x2 := x2) (x6 := x6) (x7 := x7) (x8 := x8) (x9 := x9) (x10 := x10) (x11 := x11) (x12 := x12) (x13 := x13) (x14 := x14) (x15 := x15) (x16 := x16) (x17 := x17) hn hN0 xx2 (by omega)
  obtain ⟨y7, y8, y9, y10, y11, e5⟩ := l5 (h := h3) (sc := sc) (x2 := x2) (x7 := x7) (x8 := x8) (x9 := x9) (x10 := x10) (x11 := x11) (x12 := x12) (x13 := x13) (x14 := x14) (x15 := x15) (x16 := x16) (x17 := x17) hn hN
  have len3 := xx3.len
  have x6' := (xx3.app [cel (List.range n)]).app [cel []]
  have len6 : (h3 ++ [cel (List.range n)]).length = t.length + 2 := by simp [len3]
  rw [List.append_assoc t] at x6'
  obtain ⟨so, h8, z7, hp, x8', e8⟩ := l8 (sc := sc) (x2 := x2) (x4 := some (D.int (2 ^ n : Nat))) (x5 := some (D.int (N : Nat))) (x6 := some (D.lst (dnums (supp n N)))) (x7 := y7) (x8 := y8) (x9 := y9) (x10 := y10) (x11 := y11) (x14 := x14) (x15 := x15) (x16 := x16) (x17 := x17) hn x6' (by omega)
  obtain ⟨h9, x9', e9⟩ := l9 (sc := sc) (x2 := x2) (x4 := some (D.int (2 ^ n : Nat))) (x5 := some (D.int (N : Nat))) (x6 := some (D.lst (dnums (supp n N)))) (x7 := z7) (x8 := y8) (x9 := y9) (x10 := y10) (x11 := y11) (x12 := some (D.ref (t.length + 1))) (x14 := x14) (x15 := x15) (x16 := x16) (x17 := x17) hn hp x8'
  refine ⟨t ++ [cel [], none], h9, x2, some (D.int (n : Nat)), some (D.int (2 ^ n : Nat)), some (D.int (N : Nat)), some (D.lst (dnums (supp n N))), z7, y8, y9, y10, y11, some (D.ref (t.length + 1)), some (D.lst (dnums so)), some (D.lst (dnums ((List.range n).map fun k => so.idxOf k))), some (D.lst (dnums (supp n N))), some (D.int (nar N (supp n N) : Nat)), x17, ?_, ?_⟩
  rotate_left
  · simp only [Lb, ev_seq, e1, seq_next, l1 hn, e2, e3, l4 hn hN, e5, l6 hn, len3, l7, len6, e8, e9, l10 hn hN hp, l11 hn, l12 hn hN, l13 hn hN, l14 hn hN]
  · obtain ⟨p, r, s, e, q1, q2⟩ := x9'
    exact ⟨p, r, s, e, by omega, q2⟩
theorem law_true (ns : List Int) (hl : ns.length ≤ 63) : ∃ h', F_law [.fro (ns.map D.int)] [] = .ok (D.bl true) h' := by
  obtain ⟨s, eb, s0, s1⟩ := box_ok ns
  have eb : F_law_box [.fro (ns.map D.int)] [] = .ok (D.ref 0) [box (ns.take 63) 0 0 s] := eb
  obtain ⟨st', h', e, t', x', _⟩ := forL_inv (fg := gtName 2) (fb := Lb) (fun i st h => ∃ t, Bx (ns.take 63) (i * 1040) t h ∧ i ≤ 3 ∧ ∃ y2 y3 y4 y5 y6 y7 y8 y9 y10 y11 y12 y13 y14 y15 y16 y17, st = [some (.fro (ns.map D.int)), some (D.ref 0), y2, y3, y4, y5, y6, y7, y8, y9, y10, y11, y12, y13, y14, y15, y16, y17])
    ((List.range 3).map fun (i : Nat) => D.int (i : Int)) 0 [some (.fro (ns.map D.int)), some (D.ref 0), none, none, none, none, none, none, none, none, none, none, none, none, none, none, none, none] [box (ns.take 63) 0 0 s] (fun i d st h hd ⟨t, x, hi, y2, y3, y4, y5, y6, y7, y8, y9, y10, y11, y12, y13, y14, y15, y16, y17, ei⟩ => by
      subst ei
      rw [Nat.zero_add] at x hi ⊢
      have hi3 : i < 3 := by
        by_cases z : i < 3
        · exact z
        · rw [List.getElem?_eq_none (by simpa using z)] at hd
          cases hd
      obtain ⟨t', h', z2, z3, z4, z5, z6, z7, z8, z9, z10, z11, z12, z13, z14, z15, z16, z17, x', e'⟩ := turn_ok (sc := .fro (ns.map D.int)) (x2 := some d) (x3 := y3) (x4 := y4) (x5 := y5) (x6 := y6) (x7 := y7) (x8 := y8) (x9 := y9) (x10 := y10) (x11 := y11) (x12 := y12) (x13 := y13) (x14 := y14) (x15 := y15) (x16 := y16) (x17 := y17) x (by omega)
      refine ⟨_, _, _, h', rfl, e', t', ?_, by omega, _, _, _, _, _, _, _, _, _, _, _, _, _, _, _, _, rfl⟩
      rw [Nat.add_mul, Nat.one_mul]
      exact x')
    ⟨[], ⟨0, 0, s, rfl, by omega, s0, s1⟩, by omega, _, _, _, _, _, _, _, _, _, _, _, _, _, _, _, _, rfl⟩
  refine ⟨[], ?_⟩
  have e2 : (B_law [some (.fro (ns.map D.int)), none, none, none, none, none, none, none, none, none, none, none, none, none, none, none, none, none] []).res = .ok (D.bl true) h' := by
    have r1 : iRange1 (cCons (cK (D.int 3)) cNil) [some (.fro (ns.map D.int)), some (D.ref 0), none, none, none, none, none, none, none, none, none, none, none, none, none, none, none, none] [box (ns.take 63) 0 0 s] = .ok ((List.range 3).map fun (i : Nat) => D.int (i : Int)) [box (ns.take 63) 0 0 s] := ev_range1 (n := 3) rfl (by omega)
    rw [B_law_eq]
    simp only [ev_seq, ev_set, ev_call, ev_cons, ev_nil, ev_var, List.getElem?_cons_zero, List.getElem?_cons_succ, Res.bind_ok, List.append_nil, eb, Res.out_ok, List.set_cons_succ, List.set_cons_zero, seq_next, ev_for, r1, e, ev_ret, ev_k, res_ret]
  show (if [D.fro (ns.map D.int)].length = 1 then cleanD 0 (B_law [some (.fro (ns.map D.int)), none, none, none, none, none, none, none, none, none, none, none, none, none, none, none, none, none] []).res else .no) = _
  rw [if_pos (show [D.fro (ns.map D.int)].length = 1 from rfl), e2]
  simp [cleanD, clean, D.lw]
end K68

namespace K68
open PySem PySem.Spec PyProof.Rows L2 Gm
def d_law_box : He.DefD := ⟨("_law_box", none), "_law_box", "_law_box", defArgs s_law_box, defBody s_law_box, defScope s_law_box, [], []⟩
def d_need_things : He.DefD := ⟨("need_things", none), "need_things", "need_things", defArgs s_need_things, defBody s_need_things, defScope s_need_things, [], []⟩
def d_full_of : He.DefD := ⟨("full_of", none), "full_of", "full_of", defArgs s_full_of, defBody s_full_of, defScope s_full_of, [], []⟩
def d_need_table : He.DefD := ⟨("need_table", none), "need_table", "need_table", defArgs s_need_table, defBody s_need_table, defScope s_need_table, [], []⟩
def d_column_of : He.DefD := ⟨("column_of", none), "column_of", "column_of", defArgs s_column_of, defBody s_column_of, defScope s_column_of, [], []⟩
def d_half_of : He.DefD := ⟨("half_of", none), "half_of", "half_of", defArgs s_half_of, defBody s_half_of, defScope s_half_of, [], []⟩
def d_support_of : He.DefD := ⟨("support_of", none), "support_of", "support_of", defArgs s_support_of, defBody s_support_of, defScope s_support_of, [], []⟩
def d_hung_on : He.DefD := ⟨("hung_on", none), "hung_on", "hung_on", defArgs s_hung_on, defBody s_hung_on, defScope s_hung_on, [], []⟩
def d_need_thing : He.DefD := ⟨("need_thing", none), "need_thing", "need_thing", defArgs s_need_thing, defBody s_need_thing, defScope s_need_thing, [], []⟩
def d_narrowed : He.DefD := ⟨("narrowed", none), "narrowed", "narrowed", defArgs s_narrowed, defBody s_narrowed, defScope s_narrowed, [], []⟩
def d_law_take : He.DefD := ⟨("_law_take", none), "_law_take", "_law_take", defArgs s_law_take, defBody s_law_take, defScope s_law_take, [], []⟩
def d_column : He.DefD := ⟨("column", none), "column", "column", defArgs s_column, defBody s_column, defScope s_column, [], []⟩
def d_read_table : He.DefD := ⟨("read_table", none), "read_table", "read_table", defArgs s_read_table, defBody s_read_table, defScope s_read_table, [], []⟩
def d_half : He.DefD := ⟨("half", none), "half", "half", defArgs s_half, defBody s_half, defScope s_half, [], [("value", .int 1)]⟩
def d_table_text : He.DefD := ⟨("table_text", none), "table_text", "table_text", defArgs s_table_text, defBody s_table_text, defScope s_table_text, [], []⟩
def d_turned : He.DefD := ⟨("turned", none), "turned", "turned", defArgs s_turned, defBody s_turned, defScope s_turned, [], []⟩
def d_law_bit : He.DefD := ⟨("_law_bit", none), "_law_bit", "_law_bit", defArgs s_law_bit, defBody s_law_bit, defScope s_law_bit, [], []⟩
def d_law : He.DefD := ⟨("law", none), "law", "law", defArgs s_law, defBody s_law, defScope s_law, [], []⟩
def fns : List He.DefD := [d_law_box, d_need_things, d_full_of, d_need_table, d_column_of, d_half_of, d_support_of, d_hung_on, d_need_thing, d_narrowed, d_law_take, d_column, d_read_table, d_half, d_table_text, d_turned, d_law_bit, d_law]
def fas : List He.Fa := [.glo "_law_box", .glo "need_things", .glo "full_of", .glo "need_table", .glo "column_of", .glo "half_of", .glo "support_of", .glo "hung_on", .glo "need_thing", .glo "narrowed", .glo "_law_take", .glo "column", .glo "read_table", .glo "half", .glo "table_text", .glo "turned", .glo "_law_bit", .glo "law", .free "all", .free "enumerate", .free "int", .free "len", .free "list", .free "range", .free "reversed", .free "str", .free "sum", .int "MOST_THINGS" 10]
def looseN : List PySem.Str := ["GateError", "BadThings", "BadTable", "NoThing", "BadText", "MOST_THINGS", "need_things", "need_table", "need_thing", "full_of", "column_of", "half_of", "support_of", "column", "half", "hung_on", "turned", "narrowed", "table_text", "read_table", "_law_box", "_law_take", "_law_bit"]
abbrev R : PySem.W.OpenRow := PySem.W.OpenLaw.row PySem.Challenge.rw_gatemill_k68_whole_halves_make_the_table
set_option maxHeartbeats 0 in
theorem run (w : World) : HandSHeadRun.RunEq R (PySem.W.view R.prog [26]) (hookM 6 fas fns) (obM 6 fas fns) 20000 looseN w := by
  intro os
  kernel_rfl
theorem facts {P : Program} {w : World} {K : PySem.W.Frag} {h : Heap} {mg : Str → Option Value} {f : Addr} (X : K.In h) (G : h.Ns mainGlobals mg) (hfa : mg "law" = some (.ref f)) (c : He.SaysD fas fns K) (nd2 : I2.noDig K = true) :
    ∃ fd : FuncData, (∀ (s : Shared) (u : Value), BindsTo s fd ⟨[u], []⟩ [("script", u)]) ∧ ∀ base : Heap, FnOk P w K mg base (L2.CX P w) 5 f fd ["script"] (spOf (cf K) F_law) := by
  obtain ⟨fd_law_box, FD_law_box⟩ := c.def_ 0 (d := d_law_box) rfl
  obtain ⟨fd_need_things, FD_need_things⟩ := c.def_ 1 (d := d_need_things) rfl
  obtain ⟨fd_full_of, FD_full_of⟩ := c.def_ 2 (d := d_full_of) rfl
  obtain ⟨fd_need_table, FD_need_table⟩ := c.def_ 3 (d := d_need_table) rfl
  obtain ⟨fd_column_of, FD_column_of⟩ := c.def_ 4 (d := d_column_of) rfl
  obtain ⟨fd_half_of, FD_half_of⟩ := c.def_ 5 (d := d_half_of) rfl
  obtain ⟨fd_support_of, FD_support_of⟩ := c.def_ 6 (d := d_support_of) rfl
  obtain ⟨fd_hung_on, FD_hung_on⟩ := c.def_ 7 (d := d_hung_on) rfl
  obtain ⟨fd_need_thing, FD_need_thing⟩ := c.def_ 8 (d := d_need_thing) rfl
  obtain ⟨fd_narrowed, FD_narrowed⟩ := c.def_ 9 (d := d_narrowed) rfl
  obtain ⟨fd_law_take, FD_law_take⟩ := c.def_ 10 (d := d_law_take) rfl
  obtain ⟨fd_column, FD_column⟩ := c.def_ 11 (d := d_column) rfl
  obtain ⟨fd_read_table, FD_read_table⟩ := c.def_ 12 (d := d_read_table) rfl
  obtain ⟨fd_half, FD_half⟩ := c.def_ 13 (d := d_half) rfl
  obtain ⟨fd_table_text, FD_table_text⟩ := c.def_ 14 (d := d_table_text) rfl
  obtain ⟨fd_turned, FD_turned⟩ := c.def_ 15 (d := d_turned) rfl
  obtain ⟨fd_law_bit, FD_law_bit⟩ := c.def_ 16 (d := d_law_bit) rfl
  obtain ⟨fd_law, FD_law⟩ := c.def_ 17 (d := d_law) rfl
  have m_all : mg "all" = none := He.free_ok X G (c.fact 18 (f := .free "all") rfl)
  have m_enumerate : mg "enumerate" = none := He.free_ok X G (c.fact 19 (f := .free "enumerate") rfl)
  have m_int : mg "int" = none := He.free_ok X G (c.fact 20 (f := .free "int") rfl)
  have m_len : mg "len" = none := He.free_ok X G (c.fact 21 (f := .free "len") rfl)
  have m_list : mg "list" = none := He.free_ok X G (c.fact 22 (f := .free "list") rfl)
  have m_range : mg "range" = none := He.free_ok X G (c.fact 23 (f := .free "range") rfl)
  have m_reversed : mg "reversed" = none := He.free_ok X G (c.fact 24 (f := .free "reversed") rfl)
  have m_str : mg "str" = none := He.free_ok X G (c.fact 25 (f := .free "str") rfl)
  have m_sum : mg "sum" = none := He.free_ok X G (c.fact 26 (f := .free "sum") rfl)
  have g_MOST_THINGS := He.int_ok X G (c.fact 27 (f := .int "MOST_THINGS" 10) rfl)
  have C_law_box : ∀ base : Heap, CallOk P w K mg base (cf K) "_law_box" 1 F_law_box [] := fun base => callOk_of FD_law_box (He.glo_ok X G (c.fact 0 (f := .glo "_law_box") rfl)) (ok_law_box FD_law_box m_list) fun _ _ _ _ _ _ us hl => match us, hl with | [_], _ => rfl
  have C_need_things : ∀ base : Heap, CallOk P w K mg base (cf K) "need_things" 1 F_need_things [] := fun base => callOk_of FD_need_things (He.glo_ok X G (c.fact 1 (f := .glo "need_things") rfl)) (ok_need_things FD_need_things g_MOST_THINGS) fun _ _ _ _ _ _ us hl => match us, hl with | [_], _ => rfl
  have C_full_of : ∀ base : Heap, CallOk P w K mg base (cf K) "full_of" 1 F_full_of [] := fun base => callOk_of FD_full_of (He.glo_ok X G (c.fact 2 (f := .glo "full_of") rfl)) (ok_full_of FD_full_of ) fun _ _ _ _ _ _ us hl => match us, hl with | [_], _ => rfl
  have C_need_table : ∀ base : Heap, CallOk P w K mg base (cf K) "need_table" 2 F_need_table [] := fun base => callOk_of FD_need_table (He.glo_ok X G (c.fact 3 (f := .glo "need_table") rfl)) (ok_need_table FD_need_table (C_need_things base) (C_full_of base)) fun _ _ _ _ _ _ us hl => match us, hl with | [_, _], _ => rfl
  have C_column_of : ∀ base : Heap, CallOk P w K mg base (cf K) "column_of" 1 F_column_of [] := fun base => callOk_of FD_column_of (He.glo_ok X G (c.fact 4 (f := .glo "column_of") rfl)) (ok_column_of FD_column_of ) fun _ _ _ _ _ _ us hl => match us, hl with | [_, _], _ => rfl
  have C_half_of : ∀ base : Heap, CallOk P w K mg base (cf K) "half_of" 2 F_half_of [] := fun base => callOk_of FD_half_of (He.glo_ok X G (c.fact 5 (f := .glo "half_of") rfl)) (ok_half_of FD_half_of (C_column_of base) (C_full_of base)) fun _ _ _ _ _ _ us hl => match us, hl with | [_, _, _, _], _ => rfl
  have C_support_of : ∀ base : Heap, CallOk P w K mg base (cf K) "support_of" 3 F_support_of [] := fun base => callOk_of FD_support_of (He.glo_ok X G (c.fact 6 (f := .glo "support_of") rfl)) (ok_support_of FD_support_of m_range (C_half_of base)) fun _ _ _ _ _ _ us hl => match us, hl with | [_, _], _ => rfl
  have C_hung_on : ∀ base : Heap, CallOk P w K mg base (cf K) "hung_on" 4 F_hung_on [] := fun base => callOk_of FD_hung_on (He.glo_ok X G (c.fact 7 (f := .glo "hung_on") rfl)) (ok_hung_on FD_hung_on (C_need_table base) (C_support_of base)) fun _ _ _ _ _ _ us hl => match us, hl with | [_, _], _ => rfl
  have C_need_thing : ∀ base : Heap, CallOk P w K mg base (cf K) "need_thing" 1 F_need_thing [] := fun base => callOk_of FD_need_thing (He.glo_ok X G (c.fact 8 (f := .glo "need_thing") rfl)) (ok_need_thing FD_need_thing ) fun _ _ _ _ _ _ us hl => match us, hl with | [_, _], _ => rfl
  have C_narrowed : ∀ base : Heap, CallOk P w K mg base (cf K) "narrowed" 3 F_narrowed [] := fun base => callOk_of FD_narrowed (He.glo_ok X G (c.fact 9 (f := .glo "narrowed") rfl)) (ok_narrowed FD_narrowed m_len m_range m_enumerate m_sum (C_need_table base) (C_need_thing base)) fun _ _ _ _ _ _ us hl => match us, hl with | [_, _, _], _ => rfl
  have C_law_take : ∀ base : Heap, CallOk P w K mg base (cf K) "_law_take" 1 F_law_take [] := fun base => callOk_of FD_law_take (He.glo_ok X G (c.fact 10 (f := .glo "_law_take") rfl)) (ok_law_take FD_law_take m_len) fun _ _ _ _ _ _ us hl => match us, hl with | [_, _], _ => rfl
  have C_column : ∀ base : Heap, CallOk P w K mg base (cf K) "column" 2 F_column [] := fun base => callOk_of FD_column (He.glo_ok X G (c.fact 11 (f := .glo "column") rfl)) (ok_column FD_column (C_need_things base) (C_need_thing base) (C_column_of base)) fun _ _ _ _ _ _ us hl => match us, hl with | [_, _], _ => rfl
  have C_read_table : ∀ base : Heap, CallOk P w K mg base (cf K) "read_table" 1 F_read_table [] := fun base => callOk_of FD_read_table (He.glo_ok X G (c.fact 12 (f := .glo "read_table") rfl)) (ok_read_table FD_read_table m_range m_len m_all m_int nd2 g_MOST_THINGS) fun _ _ _ _ _ _ us hl => match us, hl with | [_], _ => rfl
  have C_half : ∀ base : Heap, CallOk P w K mg base (cf K) "half" 3 F_half [.int 1] := fun base => callOk_kw FD_half (He.glo_ok X G (c.fact 13 (f := .glo "half") rfl)) (ok_half FD_half (C_need_table base) (C_need_thing base) (C_half_of base)) 3 (List.cons_ne_nil _ _) rfl (fun _ _ => (.cons (.int _) .nil)) fun _ _ _ _ _ _ us ks h1 h2 => match us, ks, h1, h2 with | [_, _, _], [_], _, _ => ⟨_, _, _, _, _, _, rfl, rfl, rfl⟩
  have C_half__value : ∀ base : Heap, CallOkK P w K mg base (cf K) "half" 3 F_half 3 ["value"] g_half__value := fun base => callOk_all FD_half (He.glo_ok X G (c.fact 13 (f := .glo "half") rfl)) (ok_half FD_half (C_need_table base) (C_need_thing base) (C_half_of base)) 3 ["value"] fun _ _ _ _ _ _ us ws h1 h2 => match us, ws, h1, h2 with | [_, _, _], [_], _, _ => rfl
  have C_table_text : ∀ base : Heap, CallOk P w K mg base (cf K) "table_text" 3 F_table_text [] := fun base => callOk_of FD_table_text (He.glo_ok X G (c.fact 14 (f := .glo "table_text") rfl)) (ok_table_text FD_table_text m_reversed m_range m_str (C_need_table base)) fun _ _ _ _ _ _ us hl => match us, hl with | [_, _], _ => rfl
  have C_turned : ∀ base : Heap, CallOk P w K mg base (cf K) "turned" 3 F_turned [] := fun base => callOk_of FD_turned (He.glo_ok X G (c.fact 15 (f := .glo "turned") rfl)) (ok_turned FD_turned (C_need_table base) (C_need_thing base) (C_column_of base) (C_full_of base)) fun _ _ _ _ _ _ us hl => match us, hl with | [_, _, _], _ => rfl
  have C_law_bit : ∀ base : Heap, CallOk P w K mg base (cf K) "_law_bit" 1 F_law_bit [] := fun base => callOk_of FD_law_bit (He.glo_ok X G (c.fact 16 (f := .glo "_law_bit") rfl)) (ok_law_bit FD_law_bit ) fun _ _ _ _ _ _ us hl => match us, hl with | [_, _], _ => rfl
  have e := hfa.symm.trans (He.glo_ok X G (c.fact 17 (f := .glo "law") rfl))
  cases e
  have b := FunD.bindsA (ps := ["script"]) FD_law fun _ _ _ _ _ _ us hl => match us, hl with | [_], _ => rfl
  exact ⟨fd_law, fun s u => b s [u] rfl, fun base => ok_law FD_law m_range m_sum m_len (C_law_box base) (C_law_take base) (C_hung_on base) (C_half base) (C_column base) (C_law_bit base) (C_turned base) (C_narrowed base) (C_table_text base) (C_read_table base) (C_half__value base)⟩
end K68
open PySem PySem.W PySem.Calls PyProof.Rows Gm K68
theorem holds_of (law : ∀ ns : List Int, ns.length ≤ 63 → ∃ h', F_law [.fro (ns.map .int)] [] = .ok (.bl true) h') : PySem.Challenge.rw_gatemill_k68_whole_halves_make_the_table.Holds := by
  w_on; o_law
  refine HandSHeadRun.head_any (r := (PySem.W.OpenLaw.row PySem.Challenge.rw_gatemill_k68_whole_halves_make_the_table)) (q := PySem.W.view (PySem.W.OpenLaw.row PySem.Challenge.rw_gatemill_k68_whole_halves_make_the_table).prog [26]) (H := hookM 6 fas fns) (ob := obM 6 fas fns) (M := 20000) (loose := looseN) (d := HandSHeadRun.topDef (PySem.W.OpenLaw.row PySem.Challenge.rw_gatemill_k68_whole_halves_make_the_table).prog 26) (kwd := []) obM_eq
    (by kernel_rfl) (fun s => by kernel_rfl) run (by kernel_rfl) (by kernel_rfl) (by kernel_rfl) (by rfl) (by first | assumption | decide +kernel) (by decide +kernel) ⟨rfl, rfl, rfl, rfl, rfl, by decide +kernel⟩ ?hw ?hc
  case hw => w_witness2
  case hc =>
    refine walk_gm (l := PySem.Challenge.rw_gatemill_k68_whole_halves_make_the_table) (n := 63) (k := 5) rfl (by decide) (by kernel_rfl) ⟨rfl, by decide, by decide⟩ (fun w K h mg f X G hm c nd => ?_) law
    have e : (HandSHeadRun.topDef (PySem.W.OpenLaw.row PySem.Challenge.rw_gatemill_k68_whole_halves_make_the_table).prog 26).name = ("law" : Str) := by kernel_rfl
    rw [e] at hm
    exact facts X G hm c nd

theorem PySem.Challenge.cw_gatemill_k68_whole_halves_make_the_table_holds : PySem.Challenge.rw_gatemill_k68_whole_halves_make_the_table.Holds :=
  holds_of law_true
