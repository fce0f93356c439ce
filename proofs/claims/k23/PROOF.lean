import PyProof.Rows.All
import HandS.ForMost
import HandS.Exc
import HandS.ExcCtx
import HandS.WordsExc
import HandS.CallSlots
import HandS.Lambda
import HandS.TryMany
import HandS.Wide
import HandS.WideBits
import HandS.Defaults
import HandS.RevRange
import HandS.Zip
import HandS.DictComp
import HandS.IntHex
import PyProof.SumWalkG
import PyProof.Rows.CallKwBuiltin
import HandS.Head0
import HandS.Head1
import HandS.Head2
import HandS.HeadEnd
import HandS.HeadHook1
import HandS.HeadHook2
import HandS.Words
import HandS.Ends
import HandS.IsInst
import HandS.ExcOwn
import HandS.Style
import PyProof.StrOps2
import HandS.Strs
import HandS.Hot
import HandS.HotCalls
import HandS.Iter
import PyProof.ZipIter
import HandS.ExcIs
import HandS.ExcField
import HandS.HeadHook4
import HandS.EndTab
import HandS.HeadWalk
import KE.OsArith
import HandS.ExcInit
import HandS.SetFor
import PyProof.EnumMake
import KE.GoesMore
import Wide.All
import OpenK.AllK
import Wide.FinOn
import KE.KStateDown
import Lean
import HandS.Base
import HandS.Call
import HandS.More
import PySem.Challenge.RW_gatemill_k23_tables_over_leaves
set_option Elab.async false
set_option linter.all false
set_option maxRecDepth 100000
set_option maxHeartbeats 4000000
/-! Gm1: data as trees and cells, the ghost, the relation to the abstract heap. -/
namespace Gm
open PySem PySem.Spec PyProof.Rows L2

/-- data: trees that never change, and names of cells -/
inductive D where
  | non | bl (b : Bool) | int (i : Int) | str (x : Str)
  | tup (l : List D) | lst (l : List D) | fro (l : List D) | dct (l : List (Key × D))
  | obj (c : Str) (fs : List (Str × D))
  | ref (n : Nat)
  | ty (n : String) | cls (n : Str) | exn (n : Str) (fs : List (Str × D))
instance : Inhabited D := ⟨.non⟩

/-- what may change -/
inductive Cell where
  | lst (l : List D) | dct (l : List (Key × D)) | obj (c : Str) (fs : List (Str × D))

abbrev Store := List (Option Cell)

mutual
def D.lw (n : Nat) : D → Bool
  | .tup l => D.lws n l
  | .lst l => D.lws n l
  | .fro l => D.lws n l
  | .dct l => D.lwk n l
  | .obj _ fs => D.lwf n fs
  | .exn _ fs => D.lwf n fs
  | .ref m => decide (m < n)
  | _ => true
def D.lws (n : Nat) : List D → Bool
  | [] => true
  | d :: r => d.lw n && D.lws n r
def D.lwk (n : Nat) : List (Key × D) → Bool
  | [] => true
  | (_, d) :: r => d.lw n && D.lwk n r
def D.lwf (n : Nat) : List (Str × D) → Bool
  | [] => true
  | (_, d) :: r => d.lw n && D.lwf n r
end
def Cell.lw (n : Nat) : Cell → Bool
  | .lst l => D.lws n l
  | .dct l => D.lwk n l
  | .obj _ fs => D.lwf n fs
def cellLw (n : Nat) : Option Cell → Bool
  | some c => c.lw n
  | none => true

/-- the ghost: where the cells stand; the part of the heap that stays -/
structure Gh where
  io : Nat → Addr
  tr : Hp

/-- the module's side: the written part, the classes by name, the tables of code objects -/
structure Cf where
  K : PySem.W.Frag
  cl : Str → Option Addr
  tabs : List (Addr × Str)
  ex : Option (Addr × Str × Option Addr)

mutual
inductive RV (c : Cf) (g : Gh) (L : Nat) : D → V → Prop where
  | non : RV c g L .non .non
  | bl (b : Bool) : RV c g L (.bl b) (.bl b)
  | int (i : Int) : RV c g L (.int i) (.int i)
  | str (x : Str) : RV c g L (.str x) (.str x)
  | tup {ds : List D} {a : Addr} {vs : List V} (h : SqT c.K g.tr a vs) (r : RVs c g L ds vs) : RV c g L (.tup ds) (.ref a)
  | lst {ds : List D} {a : Addr} {vs : List V} (h : g.tr a = some (.lst vs)) (r : RVs c g L ds vs) : RV c g L (.lst ds) (.ref a)
  | fro {ds : List D} {a : Addr} {vs : List V} (h : SqL c.K g.tr a vs) (r : RVs c g L ds vs) : RV c g L (.fro ds) (.ref a)
  | dct {l : List (Key × D)} {a : Addr} {kvs : List (Key × V)} (h : g.tr a = some (.dK kvs)) (r : RKs c g L l kvs) : RV c g L (.dct l) (.ref a)
  | obj {n : Str} {fs : List (Str × D)} {a C dx : Addr} {fvs : List (Str × V)} (h : g.tr a = some (.ins C dx fvs)) (hc : c.cl n = some C) (r : RFs c g L fs fvs) : RV c g L (.obj n fs) (.ref a)
  | ref {n : Nat} (h : n < L) : RV c g L (.ref n) (.ref (g.io n))
  | ty (n : String) : RV c g L (.ty n) (.ty n)
  | cls {n : Str} {C : Addr} (h : c.cl n = some C) : RV c g L (.cls n) (.ref C)
  | exn0 {n : Str} {a : Addr} (h : c.ex = some (a, n, none)) : RV c g L (.exn n []) (.ref a)
  | exn1 {n : Str} {fs : List (Str × D)} {a dd : Addr} {fvs : List (Str × V)} (h : c.ex = some (a, n, some dd)) (hd : g.tr dd = some (.xd fvs)) (r : RFs c g L fs fvs) : RV c g L (.exn n fs) (.ref a)
inductive RVs (c : Cf) (g : Gh) (L : Nat) : List D → List V → Prop where
  | nil : RVs c g L [] []
  | cons {d : D} {v : V} {ds : List D} {vs : List V} (h : RV c g L d v) (r : RVs c g L ds vs) : RVs c g L (d :: ds) (v :: vs)
inductive RKs (c : Cf) (g : Gh) (L : Nat) : List (Key × D) → List (Key × V) → Prop where
  | nil : RKs c g L [] []
  | cons {k : Key} {d : D} {v : V} {ds : List (Key × D)} {vs : List (Key × V)} (h : RV c g L d v) (r : RKs c g L ds vs) : RKs c g L ((k, d) :: ds) ((k, v) :: vs)
inductive RFs (c : Cf) (g : Gh) (L : Nat) : List (Str × D) → List (Str × V) → Prop where
  | nil : RFs c g L [] []
  | cons {k : Str} {d : D} {v : V} {ds : List (Str × D)} {vs : List (Str × V)} (h : RV c g L d v) (r : RFs c g L ds vs) : RFs c g L ((k, d) :: ds) ((k, v) :: vs)
end

theorem SqL.sub {K : PySem.W.Frag} {H H' : Hp} {a : Addr} {xs : List V} (e : ∀ b o, H b = some o → H' b = some o) (h : SqL K H a xs) : SqL K H' a xs := Same.seq e h
theorem SqT.sub {K : PySem.W.Frag} {H H' : Hp} {a : Addr} {xs : List V} (e : ∀ b o, H b = some o → H' b = some o) (h : SqT K H a xs) : SqT K H' a xs := by
  rcases h with (h | ⟨o, h⟩) | h
  · exact .inl (.inl (e _ _ h))
  · exact .inl (.inr ⟨o, e _ _ h⟩)
  · exact .inr h

/-- g' goes on from g below L -/
structure Gx (g : Gh) (L : Nat) (g' : Gh) : Prop where
  io : ∀ n, n < L → g'.io n = g.io n
  tr : ∀ a o, g.tr a = some o → g'.tr a = some o
theorem Gx.refl (g : Gh) (L : Nat) : Gx g L g := ⟨fun _ _ => rfl, fun _ _ h => h⟩

section
variable {c : Cf} {g g' : Gh} {L L' : Nat}
mutual
theorem RV.mono (x : Gx g L g') (hl : L ≤ L') : ∀ {d : D} {v : V}, RV c g L d v → RV c g' L' d v
  | _, _, .non => .non
  | _, _, .bl b => .bl b
  | _, _, .int i => .int i
  | _, _, .str s => .str s
  | _, _, .tup h r => .tup (SqT.sub x.tr h) (RVs.mono x hl r)
  | _, _, .lst h r => .lst (x.tr _ _ h) (RVs.mono x hl r)
  | _, _, .fro h r => .fro (SqL.sub x.tr h) (RVs.mono x hl r)
  | _, _, .dct h r => .dct (x.tr _ _ h) (RKs.mono x hl r)
  | _, _, .obj h hc r => .obj (x.tr _ _ h) hc (RFs.mono x hl r)
  | _, _, .ref (n := n) h => by
    have e := x.io n h
    rw [← e]
    exact .ref (Nat.lt_of_lt_of_le h hl)
  | _, _, .ty n => .ty n
  | _, _, .cls h => .cls h
  | _, _, .exn0 h => .exn0 h
  | _, _, .exn1 h hd r => .exn1 h (x.tr _ _ hd) (RFs.mono x hl r)
theorem RVs.mono (x : Gx g L g') (hl : L ≤ L') : ∀ {d : List D} {v : List V}, RVs c g L d v → RVs c g' L' d v
  | _, _, .nil => .nil
  | _, _, .cons h r => .cons (RV.mono x hl h) (RVs.mono x hl r)
theorem RKs.mono (x : Gx g L g') (hl : L ≤ L') : ∀ {d : List (Key × D)} {v : List (Key × V)}, RKs c g L d v → RKs c g' L' d v
  | _, _, .nil => .nil
  | _, _, .cons h r => .cons (RV.mono x hl h) (RKs.mono x hl r)
theorem RFs.mono (x : Gx g L g') (hl : L ≤ L') : ∀ {d : List (Str × D)} {v : List (Str × V)}, RFs c g L d v → RFs c g' L' d v
  | _, _, .nil => .nil
  | _, _, .cons h r => .cons (RV.mono x hl h) (RFs.mono x hl r)
end
mutual
theorem RV.low {n : Nat} : ∀ {d : D} {v : V}, RV c g L d v → d.lw n = true → RV c g n d v
  | _, _, .non, _ => .non
  | _, _, .bl b, _ => .bl b
  | _, _, .int i, _ => .int i
  | _, _, .str s, _ => .str s
  | _, _, .tup h r, b => .tup h (RVs.low r (by simpa only [D.lw] using b))
  | _, _, .lst h r, b => .lst h (RVs.low r (by simpa only [D.lw] using b))
  | _, _, .fro h r, b => .fro h (RVs.low r (by simpa only [D.lw] using b))
  | _, _, .dct h r, b => .dct h (RKs.low r (by simpa only [D.lw] using b))
  | _, _, .obj h hc r, b => .obj h hc (RFs.low r (by simpa only [D.lw] using b))
  | _, _, .ref h, b => .ref (by simpa only [D.lw, decide_eq_true_eq] using b)
  | _, _, .ty n, _ => .ty n
  | _, _, .cls h, _ => .cls h
  | _, _, .exn0 h, _ => .exn0 h
  | _, _, .exn1 h hd r, b => .exn1 h hd (RFs.low r (by simpa only [D.lw] using b))
theorem RVs.low {n : Nat} : ∀ {d : List D} {v : List V}, RVs c g L d v → D.lws n d = true → RVs c g n d v
  | _, _, .nil, _ => .nil
  | _, _, .cons h r, b => by
    simp only [D.lws, Bool.and_eq_true] at b
    exact .cons (RV.low h b.1) (RVs.low r b.2)
theorem RKs.low {n : Nat} : ∀ {d : List (Key × D)} {v : List (Key × V)}, RKs c g L d v → D.lwk n d = true → RKs c g n d v
  | _, _, .nil, _ => .nil
  | _, _, .cons h r, b => by
    simp only [D.lwk, Bool.and_eq_true] at b
    exact .cons (RV.low h b.1) (RKs.low r b.2)
theorem RFs.low {n : Nat} : ∀ {d : List (Str × D)} {v : List (Str × V)}, RFs c g L d v → D.lwf n d = true → RFs c g n d v
  | _, _, .nil, _ => .nil
  | _, _, .cons h r, b => by
    simp only [D.lwf, Bool.and_eq_true] at b
    exact .cons (RV.low h b.1) (RFs.low r b.2)
end
theorem RVs.length : ∀ {d : List D} {v : List V}, RVs c g L d v → d.length = v.length
  | _, _, .nil => rfl
  | _, _, .cons _ r => by simp only [List.length_cons, RVs.length r]
theorem RVs.get : ∀ {d : List D} {v : List V} {i : Nat} {x : D}, RVs c g L d v → d[i]? = some x → ∃ y, v[i]? = some y ∧ RV c g L x y
  | _, _, _, _, .nil, e => by simp at e
  | _, _, 0, _, .cons h _, e => by simp at e; subst e; exact ⟨_, rfl, h⟩
  | _, _, i + 1, _, .cons _ r, e => by
    obtain ⟨y, e1, e2⟩ := RVs.get (i := i) r (by simpa using e)
    exact ⟨y, by simpa using e1, e2⟩
theorem RVs.append : ∀ {d d' : List D} {v v' : List V}, RVs c g L d v → RVs c g L d' v' → RVs c g L (d ++ d') (v ++ v')
  | _, _, _, _, .nil, s => s
  | _, _, _, _, .cons h r, s => .cons h (RVs.append r s)
theorem RVs.set {x : D} {y : V} (q : RV c g L x y) : ∀ {d : List D} {v : List V} (i : Nat), RVs c g L d v → RVs c g L (d.set i x) (v.set i y)
  | _, _, _, .nil => .nil
  | _, _, 0, .cons _ r => .cons q r
  | _, _, i + 1, .cons h r => .cons h (RVs.set q i r)
theorem RVs.eraseIdx : ∀ {d : List D} {v : List V} (i : Nat), RVs c g L d v → RVs c g L (d.eraseIdx i) (v.eraseIdx i)
  | _, _, _, .nil => .nil
  | _, _, 0, .cons _ r => r
  | _, _, i + 1, .cons h r => .cons h (RVs.eraseIdx i r)
theorem RVs.take : ∀ {d : List D} {v : List V} (n : Nat), RVs c g L d v → RVs c g L (d.take n) (v.take n)
  | _, _, 0, _ => by simp; exact .nil
  | _, _, _ + 1, .nil => by simp; exact .nil
  | _, _, n + 1, .cons h r => by simp; exact .cons h (RVs.take n r)
theorem RVs.drop : ∀ {d : List D} {v : List V} (n : Nat), RVs c g L d v → RVs c g L (d.drop n) (v.drop n)
  | _, _, 0, r => by simpa using r
  | _, _, _ + 1, .nil => by simp; exact .nil
  | _, _, n + 1, .cons h r => by simpa using RVs.drop n r
end

/-- a cell's content at its address -/
def RC (c : Cf) (g : Gh) (L : Nat) (H : Hp) : Cell → Addr → Prop
  | .lst ds, a => ∃ vs, H a = some (.lst vs) ∧ RVs c g L ds vs
  | .dct l, a => ∃ kvs, H a = some (.dK kvs) ∧ RKs c g L l kvs
  | .obj n fs, a => ∃ C dx fvs, H a = some (.ins C dx fvs) ∧ c.cl n = some C ∧ RFs c g L fs fvs
theorem RC.mono {c : Cf} {g g' : Gh} {L L' : Nat} {H H' : Hp} {ce : Cell} {a : Addr} (x : Gx g L g') (hl : L ≤ L') (hH : H' a = H a) (r : RC c g L H ce a) : RC c g' L' H' ce a := by
  cases ce with
  | lst ds => obtain ⟨vs, e, r⟩ := r; exact ⟨vs, hH.trans e, r.mono x hl⟩
  | dct l => obtain ⟨vs, e, r⟩ := r; exact ⟨vs, hH.trans e, r.mono x hl⟩
  | obj n fs => obtain ⟨C, dx, vs, e, hc, r⟩ := r; exact ⟨C, dx, vs, hH.trans e, hc, r.mono x hl⟩
theorem RC.low {c : Cf} {g : Gh} {L n : Nat} {H : Hp} {ce : Cell} {a : Addr} (r : RC c g L H ce a) (b : ce.lw n = true) : RC c g n H ce a := by
  cases ce with
  | lst ds => obtain ⟨vs, e, r⟩ := r; exact ⟨vs, e, r.low b⟩
  | dct l => obtain ⟨vs, e, r⟩ := r; exact ⟨vs, e, r.low b⟩
  | obj n fs => obtain ⟨C, dx, vs, e, hc, r⟩ := r; exact ⟨C, dx, vs, e, hc, r.low b⟩
theorem RC.some {c : Cf} {g : Gh} {L : Nat} {H : Hp} {ce : Cell} {a : Addr} (r : RC c g L H ce a) : ∃ o, H a = some o ∧ Mut (some o) := by
  cases ce with
  | lst ds => obtain ⟨vs, e, r⟩ := r; exact ⟨_, e, trivial⟩
  | dct l => obtain ⟨vs, e, r⟩ := r; exact ⟨_, e, trivial⟩
  | obj n fs => obtain ⟨C, dx, vs, e, hc, r⟩ := r; exact ⟨_, e, trivial⟩

def Live (h : Store) (n : Nat) : Prop := ∃ c, h[n]? = some (some c)
theorem Live.lt {h : Store} {n : Nat} (l : Live h n) : n < h.length := by
  obtain ⟨c, e⟩ := l
  exact (List.getElem?_eq_some_iff.mp e).1

/-- the store and the ghost are held by the heap -/
structure SR (c : Cf) (g : Gh) (h : Store) (H : Hp) : Prop where
  sub : ∀ a o, g.tr a = some o → H a = some o
  apart : ∀ n, Live h n → g.tr (g.io n) = none
  cell : ∀ n ce, h[n]? = some (some ce) → RC c g h.length H ce (g.io n)
  inj : ∀ n m, Live h n → Live h m → g.io n = g.io m → n = m
  tabs : LamX.Tabs c.tabs H
  nt : ∀ a ps, g.tr a ≠ some (.tbl ps)
theorem nt_upd {tr : Hp} {p : Addr} {o : HO} (n : ∀ a ps, tr a ≠ some (.tbl ps)) (no : ∀ ps, o ≠ .tbl ps) : ∀ a ps, upd tr p o a ≠ some (.tbl ps) := fun a ps z => by
  by_cases e : a = p
  · rw [e, upd_same] at z
    exact no ps (Option.some.inj z)
  · rw [upd_ne e] at z
    exact n a ps z

/-- from one state to a later one -/
structure Go (g : Gh) (h : Store) (H : Hp) (g' : Gh) (h' : Store) (H' : Hp) : Prop where
  len : h.length ≤ h'.length
  io : ∀ n, n < h.length → g'.io n = g.io n
  tr : ∀ a o, g.tr a = some o → g'.tr a = some o
  dm : ∀ a o, H a = some o → (∀ ps, o ≠ .tbl ps) → ∃ o', H' a = some o' ∧ ∀ ps, o' ≠ .tbl ps
  fr : ∀ a o, H a = some o → (∀ ps, o ≠ .tbl ps) → (∀ n, Live h n → g.io n ≠ a) → H' a = some o
  tn : ∀ a o, H a = some o → (∀ ps, o ≠ .tbl ps) → g.tr a = none → (∀ n, Live h n → g.io n ≠ a) → g'.tr a = none
  old : ∀ n, n < h.length → Live h' n → Live h n
  new : ∀ n, h.length ≤ n → Live h' n → ∀ o, H (g'.io n) = some o → ∃ ps, o = .tbl ps
theorem Go.gx {g g' : Gh} {h h' : Store} {H H' : Hp} (x : Go g h H g' h' H') : Gx g h.length g' := ⟨x.io, x.tr⟩
theorem Go.refl (g : Gh) (h : Store) (H : Hp) : Go g h H g h H :=
  ⟨Nat.le_refl _, fun _ _ => rfl, fun _ _ e => e, fun _ o e nt => ⟨o, e, nt⟩, fun _ _ e _ _ => e, fun _ _ _ _ e _ => e, fun _ _ l => l, fun n hn l => absurd l.lt (Nat.not_lt.mpr hn)⟩
theorem Go.apart {g g' : Gh} {h h' : Store} {H H' : Hp} (x : Go g h H g' h' H') {a : Addr} {o : HO} (e : H a = some o) (nt : ∀ ps, o ≠ .tbl ps) (nl : ∀ n, Live h n → g.io n ≠ a) : ∀ n, Live h' n → g'.io n ≠ a := fun n l z => by
  by_cases hn : n < h.length
  · have l0 := x.old n hn l
    rw [x.io n hn] at z
    exact nl n l0 z
  · obtain ⟨ps, q⟩ := x.new n (Nat.not_lt.mp hn) l o (by rw [z]; exact e)
    exact nt ps q
theorem Go.trans {g g1 g2 : Gh} {h h1 h2 : Store} {H H1 H2 : Hp} (x : Go g h H g1 h1 H1) (y : Go g1 h1 H1 g2 h2 H2) : Go g h H g2 h2 H2 where
  len := Nat.le_trans x.len y.len
  io := fun n hn => (y.io n (Nat.lt_of_lt_of_le hn x.len)).trans (x.io n hn)
  tr := fun a o e => y.tr a o (x.tr a o e)
  dm := fun a o e nt => by
    obtain ⟨o1, e1, n1⟩ := x.dm a o e nt
    exact y.dm a o1 e1 n1
  fr := fun a o e nt nl => y.fr a o (x.fr a o e nt nl) nt (x.apart e nt nl)
  tn := fun a o e nt tn nl => y.tn a o (x.fr a o e nt nl) nt (x.tn a o e nt tn nl) (x.apart e nt nl)
  old := fun n hn l => x.old n hn (y.old n (Nat.lt_of_lt_of_le hn x.len) l)
  new := fun n hn l o e => by
    by_cases hn1 : n < h1.length
    · have l1 := y.old n hn1 l
      rw [y.io n hn1] at e
      exact x.new n hn l1 o e
    · have q := y.new n (Nat.not_lt.mp hn1) l
      cases o with
      | tbl ps => exact ⟨ps, rfl⟩
      | _ =>
        obtain ⟨o1, e1, n1⟩ := x.dm _ _ e (by intro ps z; cases z)
        obtain ⟨ps, z⟩ := q o1 e1
        exact absurd z (n1 ps)

/-! ### steps -/
section
variable {c : Cf} {g : Gh} {h : Store} {H : Hp}
theorem SR.rvs_mono {g' : Gh} {h' : Store} {H' : Hp} (x : Go g h H g' h' H') {d : D} {v : V} (r : RV c g h.length d v) : RV c g' h'.length d v := r.mono x.gx x.len
theorem tabs_alloc {T : List (Addr × Str)} {p : Addr} {o : HO} (t : LamX.Tabs T H) (hp : H p = none) : LamX.Tabs T (upd H p o) := t.ext fun b u e => by
  rw [upd_ne (ne_of_none e hp)]
  exact e
theorem tabs_write {T : List (Addr × Str)} {p : Addr} {o u : HO} (t : LamX.Tabs T H) (hp : H p = some u) (mu : Mut (some u)) (nx : ∀ φ, u ≠ .ext φ) : LamX.Tabs T (upd H p o) := fun q hq => by
  obtain ⟨ps, h1, h2, h3⟩ := t q hq
  have n1 : q.1 ≠ p := fun z => by
    rw [z, hp] at h1
    cases h1
    exact mu
  refine ⟨ps, by rw [upd_ne n1]; exact h1, h2, fun pos cv hc => ?_⟩
  obtain ⟨a, e1, e2⟩ := h3 pos cv hc
  refine ⟨a, e1, ?_⟩
  have n2 : a ≠ p := fun z => by
    rw [z, hp] at e2
    cases e2
    exact nx _ rfl
  rw [upd_ne n2]
  exact e2
/-- a new thing that stays -/
theorem SR.tree (S : SR c g h H) {p : Addr} {o : HO} (hp : H p = none) (no : ∀ ps, o ≠ .tbl ps := by intro ps z; cases z) : SR c { g with tr := upd g.tr p o } h (upd H p o) ∧ Go g h H { g with tr := upd g.tr p o } h (upd H p o) := by
  have np : ∀ {a u}, g.tr a = some u → a ≠ p := fun {a u} e => ne_of_none (S.sub a u e) hp
  have tp : g.tr p = none := by
    cases e : g.tr p with
    | none => rfl
    | some u => exact absurd rfl (np e)
  have nl : ∀ n, Live h n → g.io n ≠ p := fun n ⟨ce, e⟩ z => by
    obtain ⟨u, q, _⟩ := (S.cell n ce e).some
    rw [z, hp] at q
    cases q
  have gx : Gx g h.length { g with tr := upd g.tr p o } := ⟨fun _ _ => rfl, fun a u e => by
    show upd g.tr p o a = some u
    rw [upd_ne (np e)]
    exact e⟩
  refine ⟨⟨fun a u e => ?_, fun n l => ?_, fun n ce e => ?_, S.inj, tabs_alloc S.tabs hp, nt_upd S.nt no⟩, ⟨Nat.le_refl _, gx.io, gx.tr, fun a u e nt => ⟨u, by rw [upd_ne (ne_of_none e hp)]; exact e, nt⟩, fun a u e _ _ => by rw [upd_ne (ne_of_none e hp)]; exact e, fun a u e _ t _ => ?_, fun _ _ l => l, fun n hn l => absurd l.lt (Nat.not_lt.mpr hn)⟩⟩
  · have e : upd g.tr p o a = some u := e
    by_cases z : a = p
    · rw [z, upd_same] at e
      rw [z, upd_same]
      exact e
    · rw [upd_ne z] at e
      rw [upd_ne z]
      exact S.sub a u e
  · show upd g.tr p o (g.io n) = none
    rw [upd_ne (nl n l)]
    exact S.apart n l
  · exact (S.cell n ce e).mono gx (Nat.le_refl _) (upd_ne (nl n ⟨ce, e⟩))
  · show upd g.tr p o a = none
    rw [upd_ne (ne_of_none e hp)]
    exact t
theorem live_push {n : Nat} {ce : Cell} (l : Live (h ++ [some ce]) n) : Live h n ∨ n = h.length := by
  obtain ⟨c1, e⟩ := l
  by_cases hn : n < h.length
  · rw [List.getElem?_append_left hn] at e
    exact .inl ⟨c1, e⟩
  · rw [List.getElem?_append_right (Nat.not_lt.mp hn)] at e
    have := (List.getElem?_eq_some_iff.mp e).1
    simp at this
    exact .inr (by omega)
/-- a new cell -/
def Gh.push (g : Gh) (L : Nat) (p : Addr) : Gh := { g with io := fun n => if n = L then p else g.io n }
theorem SR.push (S : SR c g h H) {p : Addr} {o : HO} {ce : Cell} (hp : H p = none) (rc : ∀ g' , Gx g h.length g' → RC c g' (h ++ [some ce]).length (upd H p o) ce p) :
    SR c (g.push h.length p) (h ++ [some ce]) (upd H p o) ∧ Go g h H (g.push h.length p) (h ++ [some ce]) (upd H p o) := by
  have gx : Gx g h.length (g.push h.length p) := ⟨fun n hn => by
    show (if n = h.length then p else g.io n) = g.io n
    rw [if_neg (Nat.ne_of_lt hn)], fun _ _ e => e⟩
  have tp : g.tr p = none := by
    cases e : g.tr p with
    | none => rfl
    | some u => rw [S.sub _ _ e] at hp; cases hp
  have nl : ∀ n, Live h n → g.io n ≠ p := fun n ⟨ce, e⟩ z => by
    obtain ⟨u, q, _⟩ := (S.cell n ce e).some
    rw [z, hp] at q
    cases q
  have io : ∀ n, Live h n → (g.push h.length p).io n = g.io n := fun n l => gx.io n l.lt
  have ioL : (g.push h.length p).io h.length = p := by
    show (if h.length = h.length then p else _) = p
    rw [if_pos rfl]
  refine ⟨⟨fun a u e => ?_, fun n l => ?_, fun n ce' e => ?_, fun n m l1 l2 e => ?_, tabs_alloc S.tabs hp, S.nt⟩, ⟨by simp, gx.io, gx.tr, fun a u e nt => ⟨u, by rw [upd_ne (ne_of_none e hp)]; exact e, nt⟩, fun a u e _ _ => by rw [upd_ne (ne_of_none e hp)]; exact e, fun a u e _ t _ => t, fun n hn l => ?_, fun n hn l => ?_⟩⟩
  · have e : g.tr a = some u := e
    rw [upd_ne (ne_of_none (S.sub a u e) hp)]
    exact S.sub a u e
  · show g.tr _ = none
    rcases live_push l with l | rfl
    · rw [io n l]
      exact S.apart n l
    · rw [ioL]
      exact tp
  · rcases live_push ⟨ce', e⟩ with l | rfl
    · rw [List.getElem?_append_left l.lt] at e
      rw [io n l]
      exact (S.cell n ce' e).mono gx (by simp) (upd_ne (nl n l))
    · have e2 : ce' = ce := by simpa using e.symm
      rw [e2, ioL]
      exact rc _ gx
  · rcases live_push l1 with l1 | rfl <;> rcases live_push l2 with l2 | rfl
    · rw [io n l1, io m l2] at e
      exact S.inj n m l1 l2 e
    · rw [io n l1, ioL] at e
      exact absurd e (nl n l1)
    · rw [io m l2, ioL] at e
      exact absurd e.symm (nl m l2)
    · rfl
  · rcases live_push l with l | rfl
    · exact l
    · exact absurd hn (Nat.lt_irrefl _)
  · rcases live_push l with l | rfl
    · exact absurd l.lt (Nat.not_lt.mpr hn)
    · intro o e
      rw [ioL, hp] at e
      cases e
theorem live_set {n m : Nat} {ce : Cell} (l : Live (h.set n (some ce)) m) : m ≠ n → Live h m := fun hn => by
  obtain ⟨c1, e⟩ := l
  rw [List.getElem?_set_ne (Ne.symm hn)] at e
  exact ⟨c1, e⟩
/-- a cell is written -/
theorem SR.write (S : SR c g h H) {n : Nat} {o : HO} {ce ce' : Cell} (hn : h[n]? = some (some ce)) (rc : RC c g h.length (upd H (g.io n) o) ce' (g.io n)) :
    SR c g (h.set n (some ce')) (upd H (g.io n) o) ∧ Go g h H g (h.set n (some ce')) (upd H (g.io n) o) := by
  have ln : Live h n := ⟨ce, hn⟩
  obtain ⟨u, hu, mu⟩ := (S.cell n ce hn).some
  have nx : ∀ φ, u ≠ .ext φ := fun φ z => by
    have rr := S.cell n ce hn
    subst z
    cases ce with
    | lst ds => obtain ⟨_, e, _⟩ := rr; rw [hu] at e; cases e
    | dct ds => obtain ⟨_, e, _⟩ := rr; rw [hu] at e; cases e
    | obj _ ds => obtain ⟨_, _, _, e, _⟩ := rr; rw [hu] at e; cases e
  have lv : ∀ m, Live (h.set n (some ce')) m → Live h m := fun m l => by
    by_cases z : m = n
    · rw [z]; exact ln
    · exact live_set l z
  have ne : ∀ m, Live h m → m ≠ n → g.io m ≠ g.io n := fun m l z e => z (S.inj m n l ln e)
  have tp : ∀ {a u}, g.tr a = some u → a ≠ g.io n := fun {a u} e z => by
    rw [z, S.apart n ln] at e
    cases e
  refine ⟨⟨fun a u e => by rw [upd_ne (tp e)]; exact S.sub a u e, fun m l => S.apart m (lv m l), fun m ce2 e => ?_, fun m k l1 l2 e => S.inj m k (lv m l1) (lv k l2) e, tabs_write S.tabs hu mu nx, S.nt⟩,
    ⟨by simp, fun _ _ => rfl, fun _ _ e => e, fun a u e nt => ?_, fun a u e _ nl => by rw [upd_ne (Ne.symm (nl n ln))]; exact e, fun a u e _ t _ => t, fun m _ l => lv m l, fun m hm l => absurd l.lt (by simpa using hm)⟩⟩
  · rw [List.length_set]
    by_cases z : m = n
    · subst z
      rw [List.getElem?_set_self ln.lt] at e
      cases e
      exact rc
    · rw [List.getElem?_set_ne (Ne.symm z)] at e
      exact (S.cell m ce2 e).mono (Gx.refl _ _) (Nat.le_refl _) (upd_ne (ne m ⟨_, e⟩ z))
  · by_cases z : a = g.io n
    · obtain ⟨o2, q, mo⟩ := rc.some
      rw [upd_same] at q
      exact ⟨o, by rw [z, upd_same], fun ps y => by cases q; subst y; exact mo⟩
    · exact ⟨u, by rw [upd_ne z]; exact e, nt⟩
/-- cells above are let go -/
theorem live_take {n m : Nat} (l : Live (h.take n) m) : Live h m ∧ m < n := by
  obtain ⟨c1, e⟩ := l
  have hm : m < n := by
    have := (List.getElem?_eq_some_iff.mp e).1
    simp at this
    omega
  rw [List.getElem?_take_of_lt hm] at e
  exact ⟨⟨c1, e⟩, hm⟩
theorem SR.take (S : SR c g h H) {n : Nat} (hn : n ≤ h.length) (b : (h.take n).all (cellLw n) = true) : SR c g (h.take n) H := by
  refine ⟨S.sub, fun m l => S.apart m (live_take l).1, fun m ce e => ?_, fun m k l1 l2 e => S.inj m k (live_take l1).1 (live_take l2).1 e, S.tabs, S.nt⟩
  have l := live_take ⟨ce, e⟩
  rw [List.getElem?_take_of_lt l.2] at e
  have hb : ce.lw n = true := by
    have := List.all_eq_true.mp b (some ce) (List.mem_of_getElem? (by rw [List.getElem?_take_of_lt l.2]; exact e))
    exact this
  rw [List.length_take, Nat.min_eq_left hn]
  exact (S.cell m ce e).low hb
theorem Go.take {g' : Gh} {h' : Store} {H' : Hp} (x : Go g h H g' h' H') : Go g h H g' (h'.take h.length) H' where
  len := by rw [List.length_take]; have := x.len; omega
  io := x.io
  tr := x.tr
  dm := x.dm
  fr := x.fr
  tn := x.tn
  old := fun n hn l => x.old n hn (live_take l).1
  new := fun n hn l => x.new n hn (live_take l).1
end
end Gm

/-! Gm2: what code does as a function; the readings that it answers. -/
namespace Gm
open PySem PySem.Spec PyProof.Rows L2

structure Exn where
  cls : Str
  pay : Option (Str × D)
inductive Res (α : Type) where
  | ok (a : α) (h : Store)
  | exc (e : Exn) (h : Store)
  | no
abbrev Slots := List (Option D)
abbrev Ev (α : Type) := Slots → Store → Res α
def Res.bind {α β : Type} (r : Res α) (k : α → Store → Res β) : Res β :=
  match r with
  | .ok a h => k a h
  | .exc e h => .exc e h
  | .no => .no
@[simp] theorem Res.bind_ok {α β : Type} (a : α) (h : Store) (k : α → Store → Res β) : (Res.ok a h).bind k = k a h := rfl
@[simp] theorem Res.bind_exc {α β : Type} (e : Exn) (h : Store) (k : α → Store → Res β) : (Res.exc e h : Res α).bind k = .exc e h := rfl
@[simp] theorem Res.bind_no {α β : Type} (k : α → Store → Res β) : (Res.no : Res α).bind k = .no := rfl

/-- an exception as it lies -/
def RX (c : Cf) (g : Gh) (L : Nat) (e : Exn) (cls : Value) (dd : Option Addr) : Prop :=
  ∃ C, c.cl e.cls = some C ∧ cls = .ref C ∧ match e.pay with
    | none => dd = none
    | some (f, d) => ∃ a v, dd = some a ∧ g.tr a = some (.xd [(f, v)]) ∧ RV c g L d v
/-- what is wanted of a result -/
def RP (c : Cf) {α β : Type} (R : Gh → Nat → α → β → Prop) (g : Gh) (h : Store) (H : Hp) (r : Res α) (Q : β → Hp → Prop) (E : XK) : Prop :=
  match r with
  | .ok a h' => ∀ g' H' v, Go g h H g' h' H' → SR c g' h' H' → R g' h'.length a v → Q v H'
  | .exc e h' => ∀ g' H' cls dd, Go g h H g' h' H' → SR c g' h' H' → RX c g' h'.length e cls dd → E cls dd H'
  | .no => False
section
variable {c : Cf} {α β α' β' : Type} {R : Gh → Nat → α → β → Prop} {R' : Gh → Nat → α' → β' → Prop} {g g1 : Gh} {h h1 : Store} {H H1 : Hp} {Q : β → Hp → Prop} {E : XK}
theorem RP.go {r : Res α} (x : RP c R g h H r Q E) (o : Go g h H g1 h1 H1) : RP c R g1 h1 H1 r Q E := by
  cases r with
  | ok a h' => exact fun g' H' v o' s r => x g' H' v (o.trans o') s r
  | exc e h' => exact fun g' H' cls dd o' s r => x g' H' cls dd (o.trans o') s r
  | no => exact x
theorem RP.bind {r : Res α'} {k : α' → Store → Res α} (x : RP c R g h H (r.bind k) Q E) :
    RP c R' g h H r (fun (v : β') H1 => ∃ d h1 g1, Go g h H g1 h1 H1 ∧ SR c g1 h1 H1 ∧ R' g1 h1.length d v ∧ RP c R g1 h1 H1 (k d h1) Q E) E := by
  cases r with
  | ok a h' => exact fun g' H' v o s r => ⟨a, h', g', o, s, r, RP.go (r := k a h') x o⟩
  | exc e h' => exact x
  | no => exact x
theorem RP.mono {r : Res α} {Q' : β → Hp → Prop} (x : RP c R g h H r Q E) (k : ∀ v H', Q v H' → Q' v H') : RP c R g h H r Q' E := by
  cases r with
  | ok a h' => exact fun g' H' v o s r => k _ _ (x g' H' v o s r)
  | exc e h' => exact x
  | no => exact x
theorem RP.ok_here {a : α} {v : β} (x : RP c R g h H (.ok a h) Q E) (S : SR c g h H) (r : R g h.length a v) : Q v H := x g H v (Go.refl _ _ _) S r
end
abbrev Rv (c : Cf) : Gh → Nat → D → V → Prop := fun g L d v => RV c g L d v
abbrev Rvs (c : Cf) : Gh → Nat → List D → List V → Prop := fun g L d v => RVs c g L d v
abbrev Rb : Gh → Nat → Bool → Bool → Prop := fun _ _ a b => a = b

/-- the slots -/
def SL (c : Cf) (g : Gh) (L : Nat) (st : Slots) (σ : L2.St) : Prop := st.length = σ.length ∧ ∀ (i : Nat) d, st[i]? = some (some d) → ∃ v, σ[i]? = some (some v) ∧ RV c g L d v
theorem SL.go {c : Cf} {g g' : Gh} {h h' : Store} {H H' : Hp} {st : Slots} {σ : L2.St} (s : SL c g h.length st σ) (o : Go g h H g' h' H') : SL c g' h'.length st σ :=
  ⟨s.1, fun i d e => let ⟨v, e1, r⟩ := s.2 i d e; ⟨v, e1, r.mono o.gx o.len⟩⟩
theorem SL.set {c : Cf} {g : Gh} {L : Nat} {st : Slots} {σ : L2.St} (s : SL c g L st σ) (i : Nat) {d : D} {v : V} (r : RV c g L d v) : SL c g L (st.set i (some d)) (σ.set i (some v)) := by
  refine ⟨by rw [List.length_set, List.length_set, s.1], fun j d' e => ?_⟩
  by_cases z : i = j
  · subst z
    have hi : i < st.length := by
      have := (List.getElem?_eq_some_iff.mp e).1
      simpa using this
    rw [List.getElem?_set_self hi] at e
    have e' : d = d' := by simpa using e
    subst e'
    exact ⟨v, List.getElem?_set_self (by rw [← s.1]; exact hi), r⟩
  · rw [List.getElem?_set_ne z] at e
    rw [List.getElem?_set_ne z]
    exact s.2 j d' e
theorem SL.unset {c : Cf} {g : Gh} {L : Nat} {st : Slots} {σ : L2.St} (s : SL c g L st σ) (i : Nat) : SL c g L (st.set i none) (σ.set i none) := by
  refine ⟨by rw [List.length_set, List.length_set, s.1], fun j d' e => ?_⟩
  by_cases z : i = j
  · subst z
    have hi : i < st.length := by
      have := (List.getElem?_eq_some_iff.mp e).1
      simpa using this
    rw [List.getElem?_set_self hi] at e
    cases e
  · rw [List.getElem?_set_ne z] at e
    rw [List.getElem?_set_ne z]
    exact s.2 j d' e

/-! ### the readings -/
def tEv (c : Cf) (W : WX) (f : Ev D) : TE := fun σ H Q => ∃ st h g, SR c g h H ∧ SL c g h.length st σ ∧ RP c (Rv c) g h H (f st h) Q (fun cls dd H' => W cls dd σ H')
def tTe (c : Cf) (W : WX) (f : Ev Bool) : TT := fun σ H Q => ∃ st h g, SR c g h H ∧ SL c g h.length st σ ∧ RP c Rb g h H (f st h) Q (fun cls dd H' => W cls dd σ H')
def tAr (c : Cf) (W : WX) (f : Ev (List D)) : TA := fun σ H Q => ∃ st h g, SR c g h H ∧ SL c g h.length st σ ∧ RP c (Rvs c) g h H (f st h) Q (fun cls dd H' => W cls dd σ H')

theorem PE.imp {X : Cx} {e : Expr} {t t' : TE} (p : PE X e t) (k : ∀ σ H Q, t' σ H Q → t σ H Q) : PE X e t' := ⟨fun pins s σ H Q I h => p.run pins s σ H Q I (k σ H Q h)⟩
theorem PT.imp {X : Cx} {e : Expr} {t t' : TT} (p : PT X e t) (k : ∀ σ H Q, t' σ H Q → t σ H Q) : PT X e t' := ⟨fun pins s σ H Q I h => p.run pins s σ H Q I (k σ H Q h)⟩
theorem PW.imp {X : Cx} {e : Expr} {t t' : TT} (p : PW X e t) (k : ∀ σ H Q, t' σ H Q → t σ H Q) : PW X e t' := ⟨fun w pins s σ H Q I h => p.run w pins s σ H Q I (k σ H Q h)⟩
theorem PA.imp {X : Cx} {e : List Expr} {t t' : TA} (p : PA X e t) (k : ∀ σ H Q, t' σ H Q → t σ H Q) : PA X e t' := ⟨fun w pins s σ H Q I h => p.run w pins s σ H Q I (k σ H Q h)⟩
theorem PS.imp {X : Cx} {e : Stmt} {t t' : TS} (p : PS X e t) (k : ∀ D σ H, t' D σ H → t D σ H) : PS X e t' := ⟨fun pins s σ H Q I h => p.run pins s σ H Q I (k Q σ H h)⟩
theorem PSs.imp {X : Cx} {e : List Stmt} {t t' : TS} (p : PSs X e t) (k : ∀ D σ H, t' D σ H → t D σ H) : PSs X e t' := ⟨fun pins s σ H Q I h => p.run pins s σ H Q I (k Q σ H h)⟩

/-! ### names, constants -/
section
variable {c : Cf} {W : WX} {X : Cx}
def cVar (i : Nat) : Ev D := fun st h => match st[i]? with
  | some (some d) => .ok d h
  | _ => .no
theorem e_var {i : Nat} {e : Expr} (p : PE X e (tVar i)) : PE X e (tEv c W (cVar i)) := PE.imp p fun σ H Q ⟨st, h, g, S, sl, q⟩ => by
  unfold cVar at q
  split at q
  · rename_i d e
    obtain ⟨v, e1, r⟩ := sl.2 i d e
    exact ⟨v, e1, q.ok_here S r⟩
  · exact q.elim
def cK (d : D) : Ev D := fun _ h => .ok d h
theorem e_k {v : V} {d : D} {e : Expr} (p : PE X e (tC v)) (r : ∀ g L, RV c g L d v) : PE X e (tEv c W (cK d)) := PE.imp p fun σ H Q ⟨st, h, g, S, sl, q⟩ => q.ok_here S (r _ _)
theorem e_int {i : Int} {e : Expr} (p : PE X e (tC (.int i))) : PE X e (tEv c W (cK (.int i))) := e_k p fun _ _ => .int i
theorem e_str {i : Str} {e : Expr} (p : PE X e (tC (.str i))) : PE X e (tEv c W (cK (.str i))) := e_k p fun _ _ => .str i
theorem e_bl {i : Bool} {e : Expr} (p : PE X e (tC (.bl i))) : PE X e (tEv c W (cK (.bl i))) := e_k p fun _ _ => .bl i
theorem e_non {e : Expr} (p : PE X e (tC .non)) : PE X e (tEv c W (cK .non)) := e_k p fun _ _ => .non

/-! ### two operands -/
def cBin (fo : D → D → Store → Res D) (fa fb : Ev D) : Ev D := fun st h => (fa st h).bind fun a h1 => (fb st h1).bind fun b h2 => fo a b h2
def R2Ok (c : Cf) (r : R2) (fo : D → D → Store → Res D) : Prop :=
  ∀ g h H d1 v1 d2 v2 Q E, SR c g h H → RV c g h.length d1 v1 → RV c g h.length d2 v2 → RP c (Rv c) g h H (fo d1 d2 h) Q E → r v1 v2 H Q
theorem ev2 {r : R2} {fo : D → D → Store → Res D} {fa fb : Ev D} (hr : R2Ok c r fo) {σ : L2.St} {H : Hp} {Q : VK} (x : tEv c W (cBin fo fa fb) σ H Q) : tOp r (tEv c W fa) (tEv c W fb) σ H Q := by
  obtain ⟨st, h, g, S, sl, q⟩ := x
  refine ⟨st, h, g, S, sl, RP.mono q.bind fun v1 H1 ⟨d1, h1, g1, o1, S1, r1, q1⟩ => ?_⟩
  refine ⟨st, h1, g1, S1, sl.go o1, RP.mono q1.bind fun v2 H2 ⟨d2, h2, g2, o2, S2, r2, q2⟩ => ?_⟩
  exact hr g2 h2 H2 d1 v1 d2 v2 _ _ S2 (r1.mono o2.gx o2.len) r2 q2
theorem e_bin {op : Operator} {r : R2} {fo : D → D → Store → Res D} {fa fb : Ev D} {a b : Expr} {pos : Pos} (ho : OpR X (binaryOp op) r) (hr : R2Ok c r fo) (ha : PE X a (tEv c W fa)) (hb : PE X b (tEv c W fb)) :
    PE X (.BinOp a op b pos) (tEv c W (cBin fo fa fb)) := PE.imp (pe_op ho ha hb) fun _ _ _ => ev2 hr
theorem e_cmp {op : CmpOp} {r : R2} {fo : D → D → Store → Res D} {fa fb : Ev D} {a b : Expr} {pos : Pos} (ho : OpR X (compareOp op) r) (hr : R2Ok c r fo) (ha : PE X a (tEv c W fa)) (hb : PE X b (tEv c W fb)) (hm : behindInMarks op b = false) :
    PE X (.Compare a [op] [b] pos) (tEv c W (cBin fo fa fb)) := PE.imp (pe_cmpR ho ha hb hm) fun _ _ _ => ev2 hr
theorem e_ix {r : R2} {fo : D → D → Store → Res D} {fa fb : Ev D} {a b : Expr} {pos : Pos} (ho : IxR X r) (hr : R2Ok c r fo) (ha : PE X a (tEv c W fa)) (hb : PE X b (tEv c W fb)) (hs : PlainIx b := by exact fun _ _ => rfl) :
    PE X (.Subscript a b pos) (tEv c W (cBin fo fa fb)) := PE.imp (pe_ix ho ha hb hs) fun _ _ _ => ev2 hr

/-! ### tests -/
/-- an expression whose value is True or False -/
def cTv (f : Ev D) : Ev Bool := fun st h => (f st h).bind fun d h1 => match d with
  | .bl b => .ok b h1
  | _ => .no
theorem tv {f : Ev D} {σ : L2.St} {H : Hp} {Q : Bool → Hp → Prop} (x : tTe c W (cTv f) σ H Q) : tEv c W f σ H fun v H1 => ∃ k, v = .bl k ∧ Q k H1 := by
  obtain ⟨st, h, g, S, sl, q⟩ := x
  refine ⟨st, h, g, S, sl, RP.mono q.bind fun v1 H1 ⟨d1, h1, g1, o1, S1, r1, q1⟩ => ?_⟩
  cases r1 with
  | bl b => exact ⟨b, rfl, RP.ok_here q1 S1 rfl⟩
  | _ => exact q1.elim
theorem t_val {f : Ev D} {e : Expr} (h : PE X e (tEv c W f)) (he : ∀ whole, isTrue e X.env whole = (do let v ← whole; standAt e.pos; holding [v] (truthy v)) := by intro _; rfl) : PT X e (tTe c W (cTv f)) := PT.imp (pt_val h he) fun _ _ _ => tv
theorem t_cmp {op : CmpOp} {r : R2} {fo : D → D → Store → Res D} {fa fb : Ev D} {a b : Expr} {pos : Pos} (ho : OpR X (compareOp op) r) (hr : R2Ok c r fo) (ha : PE X a (tEv c W fa)) (hb : PE X b (tEv c W fb)) (hm : behindInMarks op b = false) :
    PT X (.Compare a [op] [b] pos) (tTe c W (cTv (cBin fo fa fb))) := PT.imp (pt_cmpR ho ha hb hm) fun σ H Q x => by
  obtain ⟨st, h, g, S, sl, q⟩ := tv x
  exact ev2 hr ⟨st, h, g, S, sl, q⟩
def cTnot (f : Ev Bool) : Ev Bool := fun st h => (f st h).bind fun b h1 => .ok (!b) h1
theorem t_not {f : Ev Bool} {a : Expr} {pos : Pos} (ha : PT X a (tTe c W f)) : PT X (.UnaryOp .Not a pos) (tTe c W (cTnot f)) := PT.imp (pt_not ha) fun σ H Q ⟨st, h, g, S, sl, q⟩ =>
  ⟨st, h, g, S, sl, RP.mono q.bind fun b H1 ⟨d, h1, g1, o1, S1, r1, q1⟩ => RP.ok_here (α := Bool) (β := Bool) (R := Rb) q1 S1 (by rw [show d = b from r1])⟩
def cTand (f k : Ev Bool) : Ev Bool := fun st h => (f st h).bind fun b h1 => if b = true then k st h1 else .ok false h1
def cTor (f k : Ev Bool) : Ev Bool := fun st h => (f st h).bind fun b h1 => if b = true then .ok true h1 else k st h1
theorem tand {f k : Ev Bool} {σ : L2.St} {H : Hp} {Q : Bool → Hp → Prop} (x : tTe c W (cTand f k) σ H Q) : tAnd (tTe c W f) (tTe c W k) σ H Q := by
  obtain ⟨st, h, g, S, sl, q⟩ := x
  refine ⟨st, h, g, S, sl, RP.mono q.bind fun b H1 ⟨d, h1, g1, o1, S1, r1, q1⟩ => ?_⟩
  have e : d = b := r1
  subst e
  cases d with
  | true => exact ⟨st, h1, g1, S1, sl.go o1, q1⟩
  | false => exact RP.ok_here (α := Bool) (β := Bool) (R := Rb) q1 S1 rfl
theorem tor {f k : Ev Bool} {σ : L2.St} {H : Hp} {Q : Bool → Hp → Prop} (x : tTe c W (cTor f k) σ H Q) : tOr (tTe c W f) (tTe c W k) σ H Q := by
  obtain ⟨st, h, g, S, sl, q⟩ := x
  refine ⟨st, h, g, S, sl, RP.mono q.bind fun b H1 ⟨d, h1, g1, o1, S1, r1, q1⟩ => ?_⟩
  have e : d = b := r1
  subst e
  cases d with
  | false => exact ⟨st, h1, g1, S1, sl.go o1, q1⟩
  | true => exact RP.ok_here (α := Bool) (β := Bool) (R := Rb) q1 S1 rfl
variable {a b : Expr} {rest : List Expr} {pos : Pos} {f k : Ev Bool}
theorem w_and1 (ha : PT X a (tTe c W f)) : PW X (.BoolOp .And [a] pos) (tTe c W f) := pw_and1 ha
theorem w_or1 (ha : PT X a (tTe c W f)) : PW X (.BoolOp .Or [a] pos) (tTe c W f) := pw_or1 ha
theorem w_and (ha : PT X a (tTe c W f)) (hb : PW X (.BoolOp .And (b :: rest) pos) (tTe c W k)) : PW X (.BoolOp .And (a :: b :: rest) pos) (tTe c W (cTand f k)) := PW.imp (pw_and ha hb) fun _ _ _ => tand
theorem w_or (ha : PT X a (tTe c W f)) (hb : PW X (.BoolOp .Or (b :: rest) pos) (tTe c W k)) : PW X (.BoolOp .Or (a :: b :: rest) pos) (tTe c W (cTor f k)) := PW.imp (pw_or ha hb) fun _ _ _ => tor
/-- and, or, not as values (True or False) -/
def cAnd (f k : Ev D) : Ev D := fun st h => (f st h).bind fun d h1 => match d with
  | .bl true => k st h1
  | .bl false => .ok (.bl false) h1
  | _ => .no
def cOr (f k : Ev D) : Ev D := fun st h => (f st h).bind fun d h1 => match d with
  | .bl false => k st h1
  | .bl true => .ok (.bl true) h1
  | _ => .no
def cNot (f : Ev D) : Ev D := fun st h => (f st h).bind fun d h1 => match d with
  | .bl b => .ok (.bl (!b)) h1
  | _ => .no
theorem e_one {op : BoolOp} {fa : Ev D} (ha : PE X a (tEv c W fa)) : PE X (.BoolOp op [a] pos) (tEv c W fa) := pe_one ha
theorem e_and {fa fb : Ev D} (ha : PE X a (tEv c W fa)) (hb : PE X (.BoolOp .And (b :: rest) pos) (tEv c W fb)) : PE X (.BoolOp .And (a :: b :: rest) pos) (tEv c W (cAnd fa fb)) := PE.imp (pe_and ha hb) fun σ H Q ⟨st, h, g, S, sl, q⟩ => by
  refine ⟨st, h, g, S, sl, RP.mono q.bind fun v1 H1 ⟨d1, h1, g1, o1, S1, r1, q1⟩ => ?_⟩
  cases r1 with
  | bl b =>
    refine ⟨b, rfl, ?_⟩
    cases b with
    | true => exact ⟨st, h1, g1, S1, sl.go o1, q1⟩
    | false => exact RP.ok_here q1 S1 (.bl false)
  | _ => exact q1.elim
theorem e_or {fa fb : Ev D} (ha : PE X a (tEv c W fa)) (hb : PE X (.BoolOp .Or (b :: rest) pos) (tEv c W fb)) : PE X (.BoolOp .Or (a :: b :: rest) pos) (tEv c W (cOr fa fb)) := PE.imp (pe_or ha hb) fun σ H Q ⟨st, h, g, S, sl, q⟩ => by
  refine ⟨st, h, g, S, sl, RP.mono q.bind fun v1 H1 ⟨d1, h1, g1, o1, S1, r1, q1⟩ => ?_⟩
  cases r1 with
  | bl b =>
    refine ⟨b, rfl, ?_⟩
    cases b with
    | false => exact ⟨st, h1, g1, S1, sl.go o1, q1⟩
    | true => exact RP.ok_here q1 S1 (.bl true)
  | _ => exact q1.elim
theorem e_not {fa : Ev D} (ha : PE X a (tEv c W fa)) : PE X (.UnaryOp .Not a pos) (tEv c W (cNot fa)) := PE.imp (pe_not ha) fun σ H Q ⟨st, h, g, S, sl, q⟩ => by
  refine ⟨st, h, g, S, sl, RP.mono q.bind fun v1 H1 ⟨d1, h1, g1, o1, S1, r1, q1⟩ => ?_⟩
  cases r1 with
  | bl b => exact ⟨b, rfl, RP.ok_here q1 S1 (.bl _)⟩
  | _ => exact q1.elim
def cIf (t : Ev Bool) (fa fb : Ev D) : Ev D := fun st h => (t st h).bind fun b h1 => if b = true then fa st h1 else fb st h1
theorem e_if {t : Expr} {ft : Ev Bool} {fa fb : Ev D} (ht : PT X t (tTe c W ft)) (ha : PE X a (tEv c W fa)) (hb : PE X b (tEv c W fb)) : PE X (.IfExp t a b pos) (tEv c W (cIf ft fa fb)) := PE.imp (pe_ifExp ht ha hb) fun σ H Q ⟨st, h, g, S, sl, q⟩ => by
  refine ⟨st, h, g, S, sl, RP.mono q.bind fun v1 H1 ⟨d1, h1, g1, o1, S1, r1, q1⟩ => ?_⟩
  have e : d1 = v1 := r1
  subst e
  cases d1 with
  | true => exact ⟨st, h1, g1, S1, sl.go o1, q1⟩
  | false => exact ⟨st, h1, g1, S1, sl.go o1, q1⟩
/-- a < b < c -/
def cChain (fo fo' : D → D → Store → Res D) (fa fb fc : Ev D) : Ev D := fun st h => (fa st h).bind fun a h1 => (fb st h1).bind fun b h2 => (fo a b h2).bind fun z h3 => match z with
  | .bl true => (fc st h3).bind fun d h4 => fo' b d h4
  | .bl false => .ok (.bl false) h3
  | _ => .no
variable {cc : Expr} {fo fo' : D → D → Store → Res D} {r r' : R2} {op op' : CmpOp} {fa fb fc : Ev D}
theorem evChain (hr : R2Ok c r fo) (hr' : R2Ok c r' fo') {σ : L2.St} {H : Hp} {Q : VK} (x : tEv c W (cChain fo fo' fa fb fc) σ H Q) : tChain r r' (tEv c W fa) (tEv c W fb) (tEv c W fc) σ H Q := by
  obtain ⟨st, h, g, S, sl, q⟩ := x
  refine ⟨st, h, g, S, sl, RP.mono q.bind fun v1 H1 ⟨d1, h1, g1, o1, S1, r1, q1⟩ => ?_⟩
  refine ⟨st, h1, g1, S1, sl.go o1, RP.mono q1.bind fun v2 H2 ⟨d2, h2, g2, o2, S2, r2, q2⟩ => ?_⟩
  refine hr g2 h2 H2 d1 v1 d2 v2 _ _ S2 (r1.mono o2.gx o2.len) r2 (RP.mono (RP.bind (R' := Rv c) q2) fun z H3 ⟨d3, h3, g3, o3, S3, r3, q3⟩ => ?_)
  cases r3 with
  | bl k =>
    refine ⟨k, rfl, ?_⟩
    cases k with
    | false => exact RP.ok_here q3 S3 (.bl false)
    | true =>
      refine ⟨st, h3, g3, S3, sl.go (o1.trans (o2.trans o3)), RP.mono q3.bind fun v4 H4 ⟨d4, h4, g4, o4, S4, r4, q4⟩ => ?_⟩
      exact hr' g4 h4 H4 d2 v2 d4 v4 _ _ S4 (r2.mono (o3.trans o4).gx (o3.trans o4).len) r4 q4
  | _ => exact q3.elim
theorem e_chain (ho : OpR X (compareOp op) r) (ho' : OpR X (compareOp op') r') (hr : R2Ok c r fo) (hr' : R2Ok c r' fo') (ha : PE X a (tEv c W fa)) (hb : PE X b (tEv c W fb)) (hc : PE X cc (tEv c W fc))
    (hm : lastMarks [op, op'] [b, cc] = false := by with_unfolding_all rfl) : PE X (.Compare a [op, op'] [b, cc] pos) (tEv c W (cChain fo fo' fa fb fc)) := PE.imp (pe_chain ho ho' ha hb hc hm) fun _ _ _ => evChain hr hr'
theorem t_chain (ho : OpR X (compareOp op) r) (ho' : OpR X (compareOp op') r') (hr : R2Ok c r fo) (hr' : R2Ok c r' fo') (ha : PE X a (tEv c W fa)) (hb : PE X b (tEv c W fb)) (hc : PE X cc (tEv c W fc))
    (hm : lastMarks [op, op'] [b, cc] = false := by with_unfolding_all rfl) : PT X (.Compare a [op, op'] [b, cc] pos) (tTe c W (cTv (cChain fo fo' fa fb fc))) := PT.imp (pt_chain ho ho' ha hb hc hm) fun _ _ _ x => evChain hr hr' (tv x)

/-! ### argument lists, displays -/
variable {e : Expr} {es : List Expr} {fe : Ev D} {fs : Ev (List D)}
def cNil : Ev (List D) := fun _ h => .ok [] h
def cCons (fe : Ev D) (fs : Ev (List D)) : Ev (List D) := fun st h => (fe st h).bind fun d h1 => (fs st h1).bind fun ds h2 => .ok (d :: ds) h2
theorem a_nil : PA X [] (tAr c W cNil) := PA.imp pa_nil fun σ H Q ⟨st, h, g, S, sl, q⟩ => RP.ok_here q S .nil
theorem a_cons (ha : PE X e (tEv c W fe)) (hr : PA X es (tAr c W fs)) (hs : starEach (e :: es) X.env = (false, eval e X.env) :: starEach es X.env := by rfl) : PA X (e :: es) (tAr c W (cCons fe fs)) := PA.imp (pa_cons ha hr hs) fun σ H Q ⟨st, h, g, S, sl, q⟩ => by
  refine ⟨st, h, g, S, sl, RP.mono q.bind fun v1 H1 ⟨d1, h1, g1, o1, S1, r1, q1⟩ => ?_⟩
  refine ⟨st, h1, g1, S1, sl.go o1, RP.mono q1.bind fun v2 H2 ⟨d2, h2, g2, o2, S2, r2, q2⟩ => ?_⟩
  exact RP.ok_here q2 S2 (.cons (r1.mono o2.gx o2.len) r2)
/-- a new list: a tree, or a cell -/
def alloc (m : Bool) (l : List D) (h : Store) : Res D := if m = true then .ok (.ref h.length) (h ++ [some (.lst l)]) else .ok (.lst l) h
theorem alloc_ok {m : Bool} {l : List D} {vs : List V} {g : Gh} {h : Store} {H : Hp} {Q : VK} {E : XK} (S : SR c g h H) (r : RVs c g h.length l vs) (q : RP c (Rv c) g h H (alloc m l h) Q E) : ∀ p, H p = none → Q (.ref p) (upd H p (.lst vs)) := fun p hp => by
  cases m with
  | false =>
    have q : RP c (Rv c) g h H (.ok (.lst l) h) Q E := q
    obtain ⟨S1, o1⟩ := S.tree (o := .lst vs) hp
    exact q _ _ _ o1 S1 (.lst upd_same (r.mono o1.gx (Nat.le_refl _)))
  | true =>
    have q : RP c (Rv c) g h H (.ok (.ref h.length) (h ++ [some (.lst l)])) Q E := q
    obtain ⟨S1, o1⟩ := S.push (o := .lst vs) (ce := .lst l) hp fun g' gx => ⟨vs, upd_same, r.mono gx (by simp)⟩
    have e : (g.push h.length p).io h.length = p := by
      show (if h.length = h.length then p else _) = p
      rw [if_pos rfl]
    have q2 := q _ _ (.ref ((g.push h.length p).io h.length)) o1 S1 (.ref (by simp))
    rw [e] at q2
    exact q2
def cTup (fs : Ev (List D)) : Ev D := fun st h => (fs st h).bind fun ds h1 => if ds.length ≤ sizeLine then .ok (.tup ds) h1 else .no
def cLst (m : Bool) (fs : Ev (List D)) : Ev D := fun st h => (fs st h).bind fun ds h1 => if ds.length ≤ sizeLine then alloc m ds h1 else .no
theorem e_tup {x1} (h : PA X es (tAr c W fs)) : PE X (.Tuple es x1 pos) (tEv c W (cTup fs)) := PE.imp (pe_tup h) fun σ H Q ⟨st, h, g, S, sl, q⟩ => by
  refine ⟨st, h, g, S, sl, RP.mono q.bind fun v1 H1 ⟨d1, h1, g1, o1, S1, r1, q1⟩ => ?_⟩
  split at q1
  · rename_i hl
    refine ⟨by rw [← r1.length]; exact hl, fun p hp => ?_⟩
    obtain ⟨S2, o2⟩ := S1.tree (o := .tup v1) hp
    exact q1 _ _ _ o2 S2 (.tup (.inl (.inl upd_same)) (r1.mono o2.gx (Nat.le_refl _)))
  · exact q1.elim
theorem e_lst {m : Bool} (h : PA X es (tAr c W fs)) : PE X (.List es pos) (tEv c W (cLst m fs)) := PE.imp (pe_lst h) fun σ H Q ⟨st, h, g, S, sl, q⟩ => by
  refine ⟨st, h, g, S, sl, RP.mono q.bind fun v1 H1 ⟨d1, h1, g1, o1, S1, r1, q1⟩ => ?_⟩
  split at q1
  · rename_i hl
    exact ⟨by rw [← r1.length]; exact hl, alloc_ok S1 r1 q1⟩
  · exact q1.elim

/-! ### calls of defs -/
/-- behind a call the cells that it made are let go, where nothing tells of them -/
def clean {α : Type} (lw : Nat → α → Bool) (n : Nat) (r : Res α) : Res α := match r with
  | .ok d h' => if lw n d = true ∧ (h'.take n).all (cellLw n) = true then .ok d (h'.take n) else .ok d h'
  | .exc e h' => if (e.pay.all fun p => p.2.lw n) = true ∧ (h'.take n).all (cellLw n) = true then .exc e (h'.take n) else .exc e h'
  | .no => .no
abbrev cleanD (n : Nat) (r : Res D) : Res D := clean (fun n d => d.lw n) n r
theorem RP.clean {g : Gh} {h : Store} {H : Hp} {r : Res D} {Q : VK} {E : XK} (q : RP c (Rv c) g h H (cleanD h.length r) Q E) : RP c (Rv c) g h H r Q E := by
  cases r with
  | ok d h' =>
    intro g' H' v o S rv
    have q : RP c (Rv c) g h H (if d.lw h.length = true ∧ (h'.take h.length).all (cellLw h.length) = true then .ok d (h'.take h.length) else .ok d h') Q E := q
    by_cases hc : d.lw h.length = true ∧ (h'.take h.length).all (cellLw h.length) = true
    · rw [if_pos hc] at q
      have e : (h'.take h.length).length = h.length := by rw [List.length_take]; have := o.len; omega
      exact q g' H' v o.take (S.take o.len hc.2) (by rw [e]; exact rv.low hc.1)
    · rw [if_neg hc] at q
      exact q g' H' v o S rv
  | exc e h' =>
    intro g' H' cls dd o S rv
    have q : RP c (Rv c) g h H (if (e.pay.all fun p => p.2.lw h.length) = true ∧ (h'.take h.length).all (cellLw h.length) = true then .exc e (h'.take h.length) else .exc e h') Q E := q
    by_cases hc : (e.pay.all fun p => p.2.lw h.length) = true ∧ (h'.take h.length).all (cellLw h.length) = true
    · rw [if_pos hc] at q
      have el : (h'.take h.length).length = h.length := by rw [List.length_take]; have := o.len; omega
      refine q g' H' cls dd o.take (S.take o.len hc.2) ?_
      obtain ⟨C, e1, e2, e3⟩ := rv
      refine ⟨C, e1, e2, ?_⟩
      cases hp : e.pay with
      | none => rw [hp] at e3; exact e3
      | some p =>
        rw [hp] at e3
        obtain ⟨fn, d⟩ := p
        obtain ⟨a, v, q1, q2, q3⟩ := e3
        have hb := hc.1
        rw [hp] at hb
        exact ⟨a, v, q1, q2, by rw [el]; exact q3.low hb⟩
    · rw [if_neg hc] at q
      exact q g' H' cls dd o S rv
  | no => exact q

abbrev FnT := List D → Store → Res D
/-- nothing is let out -/
theorem no_tk {X : Cx} : L2N.Takes X (fun _ _ _ _ => False) := fun _ _ z => by
  obtain ⟨_, _, _, _, _, _, _, _, _, _, _, _, _, _, _, _, y⟩ := z
  exact y.elim
/-- the promise of a def -/
def spOf (c : Cf) (F : FnT) : Sp := fun vs H Q E => ∃ ds h g, SR c g h H ∧ RVs c g h.length ds vs ∧ RP c (Rv c) g h H (F ds h) Q E
def cCall (F : FnT) (defs : List D) (fs : Ev (List D)) : Ev D := fun st h => (fs st h).bind fun ds h1 => F (ds ++ defs) h1
theorem e_call {k : Nat} {f : Addr} {fd : FuncData} {ps : List Str} {F : FnT} {defs : List D} {dvs : List V} {ds : List Value} {x : Str} {p : Pos} (G : FnOk X.prog X.w X.K X.mg X.base (L2N.CX X.prog X.w) k f fd ps (spOf c F)) (hr : Room k X.A) (hg : Gl X x) (hm : X.mg x = some (.ref f))
    (hk : PySem.W.keepIn X.K (.ref f) = true) (hb : L2.Binds X.K fd ps ds) (hd : Vals dvs ds) (rd : ∀ g L, RVs c g L defs dvs) (tk : L2N.Takes X W) (ha : PA X (e :: es) (tAr c W fs)) (hdb : (x == ("__debug__" : Str)) = false := by decide)
    (he : starEach (e :: es) X.env = (false, eval e X.env) :: starEach es X.env := by rfl) (hpl : (backTo pos (starEach es X.env)).any (·.1) = false := by rfl) :
    PE X (.Call (.Name x p) (e :: es) [] pos) (tEv c W (cCall F defs fs)) := PE.imp (pe_callSD (E := fun σ cls d H' => W cls d σ H') G hr hg hm hk hb hd (fun σ => L2N.passAt tk σ) ha hdb he hpl) fun σ H Q ⟨st, h, g, S, sl, q⟩ => by
  refine ⟨st, h, g, S, sl, RP.mono q.bind fun vs H1 ⟨ds, h1, g1, o1, S1, r1, q1⟩ => ?_⟩
  exact ⟨ds ++ defs, h1, g1, S1, r1.append (rd _ _), q1⟩
end
end Gm

/-! Gm3: operators. -/
namespace Gm
open PySem PySem.Spec PyProof.Rows L2

/-- a list that may be read: a tree's, a cell's -/
def asL (h : Store) : D → Option (List D)
  | .lst l => some l
  | .ref n => match h[n]? with
    | some (some (.lst l)) => some l
    | _ => none
  | _ => none
def asR (h : Store) : D → Option (List D)
  | .lst l => some l
  | .fro l => some l
  | .ref n => match h[n]? with
    | some (some (.lst l)) => some l
    | _ => none
  | _ => none
section
variable {c : Cf} {g : Gh} {h : Store} {H : Hp} {d : D} {v : V} {l : List D}
theorem asL_ok (S : SR c g h H) (r : RV c g h.length d v) (e : asL h d = some l) : ∃ a vs, v = .ref a ∧ H a = some (.lst vs) ∧ RVs c g h.length l vs := by
  cases r with
  | lst h1 r => cases e; exact ⟨_, _, rfl, S.sub _ _ h1, r⟩
  | @ref n hn =>
    unfold asL at e
    dsimp only at e
    split at e
    · rename_i l' e1
      cases e
      obtain ⟨vs, e2, r2⟩ := S.cell n _ e1
      exact ⟨_, vs, rfl, e2, r2⟩
    · cases e
  | _ => cases e
theorem asR_ok (S : SR c g h H) (r : RV c g h.length d v) (e : asR h d = some l) : ∃ a vs, v = .ref a ∧ SqL c.K H a vs ∧ RVs c g h.length l vs := by
  cases r with
  | lst h1 r => cases e; exact ⟨_, _, rfl, .inl (.inl (S.sub _ _ h1)), r⟩
  | fro h1 r => cases e; exact ⟨_, _, rfl, SqL.sub S.sub h1, r⟩
  | @ref n hn =>
    unfold asR at e
    dsimp only at e
    split at e
    · rename_i l' e1
      cases e
      obtain ⟨vs, e2, r2⟩ := S.cell n _ e1
      exact ⟨_, vs, rfl, .inl (.inl e2), r2⟩
    · cases e
  | _ => cases e
theorem RV.tup' (S : SR c g h H) (r : RV c g h.length (.tup l) v) : ∃ a vs, v = .ref a ∧ SqT c.K H a vs ∧ RVs c g h.length l vs := by
  cases r with
  | tup h1 r => exact ⟨_, _, rfl, SqT.sub S.sub h1, r⟩
end

/-! ### ints -/
def iop (ck : Int → Int → Bool) (f : Int → Int → Int) (x y : D) (h : Store) : Res D := match x, y with
  | .int i, .int j => if ck i j = true then .ok (.int (f i j)) h else .no
  | _, _ => .no
def bop (f : Int → Int → Bool) (x y : D) (h : Store) : Res D := match x, y with
  | .int i, .int j => .ok (.bl (f i j)) h
  | _, _ => .no
section
variable {c : Cf}
theorem iop_ok {C : Int → Int → Prop} {ck : Int → Int → Bool} {f : Int → Int → Int} (k : ∀ i j, ck i j = true → C i j) : R2Ok c (rI C fun i j => .int (f i j)) (iop ck f) := by
  intro g h H d1 v1 d2 v2 Q E S r1 r2 q
  cases r1 with
  | int i =>
    cases r2 with
    | int j =>
      have q : RP c (Rv c) g h H (if ck i j = true then .ok (.int (f i j)) h else .no) Q E := q
      by_cases hc : ck i j = true
      · rw [if_pos hc] at q
        exact ⟨i, j, rfl, rfl, k i j hc, q.ok_here S (.int _)⟩
      · rw [if_neg hc] at q
        exact q.elim
    | _ => exact q.elim
  | _ => exact q.elim
theorem iop0_ok {f : Int → Int → Int} : R2Ok c (rI0 fun i j => .int (f i j)) (iop (fun _ _ => true) f) := by
  intro g h H d1 v1 d2 v2 Q E S r1 r2 q
  cases r1 with
  | int i =>
    cases r2 with
    | int j => exact ⟨i, j, rfl, rfl, RP.ok_here (show RP c (Rv c) g h H (.ok (.int (f i j)) h) Q E from q) S (.int _)⟩
    | _ => exact q.elim
  | _ => exact q.elim
theorem bop_ok {f : Int → Int → Bool} : R2Ok c (rI0 fun i j => .bl (f i j)) (bop f) := by
  intro g h H d1 v1 d2 v2 Q E S r1 r2 q
  cases r1 with
  | int i =>
    cases r2 with
    | int j => exact ⟨i, j, rfl, rfl, RP.ok_here (show RP c (Rv c) g h H (.ok (.bl (f i j)) h) Q E from q) S (.bl _)⟩
    | _ => exact q.elim
  | _ => exact q.elim
theorem R2Ok.orL {r r' : R2} {fo : D → D → Store → Res D} (k : R2Ok c r fo) : R2Ok c (fun x y H Q => r x y H Q ∨ r' x y H Q) fo := fun g h H d1 v1 d2 v2 Q E S r1 r2 q => .inl (k g h H d1 v1 d2 v2 Q E S r1 r2 q)
end
abbrev oSub : D → D → Store → Res D := iop (fun _ _ => true) fun i j => i - j
def gMul (i j : Int) : Bool := Nat.ble (Builtin.Int.intBits i + Builtin.Int.intBits j) 134217728
abbrev oMul : D → D → Store → Res D := iop gMul fun i j => i * j
def gDiv (_ j : Int) : Bool := decide (0 < j) && decide (j.natAbs.log2 < 9000)
abbrev oDiv : D → D → Store → Res D := iop gDiv fun i j => i / j
def gMod (_ j : Int) : Bool := decide (0 < j)
abbrev oMod : D → D → Store → Res D := iop gMod fun i j => i % j
def gPow (i j : Int) : Bool := decide (0 ≤ j) && Nat.ble j.toNat 1000000 && Nat.ble i.natAbs 18446744073709551615
abbrev oPow : D → D → Store → Res D := iop gPow fun i j => i ^ j.toNat
def gShl (i j : Int) : Bool := decide (0 ≤ j) && Nat.ble (Builtin.Int.intBits i + j.toNat) 134217728
abbrev oShl : D → D → Store → Res D := iop gShl fun i j => i * 2 ^ j.toNat
def gShr (_ j : Int) : Bool := decide (0 ≤ j)
abbrev oShr : D → D → Store → Res D := iop gShr fun i j => i / 2 ^ j.toNat
abbrev oAnd : D → D → Store → Res D := iop (fun _ _ => true) Builtin.bitAnd
abbrev oOr : D → D → Store → Res D := iop (fun _ _ => true) Builtin.bitOr
abbrev oXor : D → D → Store → Res D := iop (fun _ _ => true) Builtin.bitXor
abbrev oLt : D → D → Store → Res D := bop fun i j => decide (i < j)
abbrev oLe : D → D → Store → Res D := bop fun i j => decide (i ≤ j)
abbrev oGt : D → D → Store → Res D := bop fun i j => decide (j < i)
abbrev oGe : D → D → Store → Res D := bop fun i j => decide (j ≤ i)
section
variable {c : Cf} {W : WX} {X : Cx} {a b cc : Expr} {fa fb fc : Ev D} {pos : Pos}
theorem b_sub (ha : PE X a (tEv c W fa)) (hb : PE X b (tEv c W fb)) : PE X (.BinOp a .Sub b pos) (tEv c W (cBin oSub fa fb)) := e_bin op_sub iop0_ok ha hb
theorem gMul_ok (i j : Int) (h : gMul i j = true) : CMulX i j := by
  have := Nat.le_of_ble_eq_true h
  unfold CMulX
  omega
theorem b_mul (ha : PE X a (tEv c W fa)) (hb : PE X b (tEv c W fb)) : PE X (.BinOp a .Mult b pos) (tEv c W (cBin oMul fa fb)) := e_bin op_mulX (iop_ok gMul_ok) ha hb
theorem gDiv_ok (i j : Int) (h : gDiv i j = true) : CDivW i j := by
  simp only [gDiv, Bool.and_eq_true, decide_eq_true_eq] at h
  exact h
theorem b_div (ha : PE X a (tEv c W fa)) (hb : PE X b (tEv c W fb)) : PE X (.BinOp a .FloorDiv b pos) (tEv c W (cBin oDiv fa fb)) := e_bin op_fdivW (iop_ok gDiv_ok) ha hb
theorem b_mod (ha : PE X a (tEv c W fa)) (hb : PE X b (tEv c W fb)) : PE X (.BinOp a .Mod b pos) (tEv c W (cBin oMod fa fb)) := e_bin op_mod (iop_ok fun i j h => of_decide_eq_true h) ha hb
theorem b_pow (ha : PE X a (tEv c W fa)) (hb : PE X b (tEv c W fb)) : PE X (.BinOp a .Pow b pos) (tEv c W (cBin oPow fa fb)) := e_bin op_pow (iop_ok fun i j h => by
  simp only [gPow, Bool.and_eq_true, decide_eq_true_eq] at h
  have h1 := Nat.le_of_ble_eq_true h.1.2
  have h2 := Nat.le_of_ble_eq_true h.2
  exact ⟨h.1.1, by omega, Nat.lt_of_le_of_lt h2 (by decide)⟩) ha hb
theorem gShl_ok (i j : Int) (h : gShl i j = true) : CShl i j := by
  simp only [gShl, Bool.and_eq_true, decide_eq_true_eq] at h
  have h1 := Nat.le_of_ble_eq_true h.2
  exact ⟨h.1, by omega⟩
theorem b_shl (ha : PE X a (tEv c W fa)) (hb : PE X b (tEv c W fb)) : PE X (.BinOp a .LShift b pos) (tEv c W (cBin oShl fa fb)) := e_bin op_shlW (iop_ok gShl_ok) ha hb
theorem b_shr (ha : PE X a (tEv c W fa)) (hb : PE X b (tEv c W fb)) : PE X (.BinOp a .RShift b pos) (tEv c W (cBin oShr fa fb)) := e_bin op_shr (iop_ok fun i j h => of_decide_eq_true h) ha hb
theorem b_and (ha : PE X a (tEv c W fa)) (hb : PE X b (tEv c W fb)) : PE X (.BinOp a .BitAnd b pos) (tEv c W (cBin oAnd fa fb)) := e_bin op_and iop0_ok ha hb
theorem b_or (ha : PE X a (tEv c W fa)) (hb : PE X b (tEv c W fb)) : PE X (.BinOp a .BitOr b pos) (tEv c W (cBin oOr fa fb)) := e_bin op_or iop0_ok ha hb
theorem b_xor (ha : PE X a (tEv c W fa)) (hb : PE X b (tEv c W fb)) : PE X (.BinOp a .BitXor b pos) (tEv c W (cBin oXor fa fb)) := e_bin op_xor iop0_ok ha hb
theorem e_lt (ha : PE X a (tEv c W fa)) (hb : PE X b (tEv c W fb)) : PE X (.Compare a [.Lt] [b] pos) (tEv c W (cBin oLt fa fb)) := e_cmp op_lt bop_ok ha hb (nomark _)
theorem e_le (ha : PE X a (tEv c W fa)) (hb : PE X b (tEv c W fb)) : PE X (.Compare a [.LtE] [b] pos) (tEv c W (cBin oLe fa fb)) := e_cmp op_le bop_ok ha hb (nomark _)
theorem e_gt (ha : PE X a (tEv c W fa)) (hb : PE X b (tEv c W fb)) : PE X (.Compare a [.Gt] [b] pos) (tEv c W (cBin oGt fa fb)) := e_cmp op_gt bop_ok ha hb (nomark _)
theorem e_ge (ha : PE X a (tEv c W fa)) (hb : PE X b (tEv c W fb)) : PE X (.Compare a [.GtE] [b] pos) (tEv c W (cBin oGe fa fb)) := e_cmp op_ge bop_ok ha hb (nomark _)
theorem t_lt (ha : PE X a (tEv c W fa)) (hb : PE X b (tEv c W fb)) : PT X (.Compare a [.Lt] [b] pos) (tTe c W (cTv (cBin oLt fa fb))) := t_cmp op_lt bop_ok ha hb (nomark _)
theorem t_le (ha : PE X a (tEv c W fa)) (hb : PE X b (tEv c W fb)) : PT X (.Compare a [.LtE] [b] pos) (tTe c W (cTv (cBin oLe fa fb))) := t_cmp op_le bop_ok ha hb (nomark _)
theorem t_gt (ha : PE X a (tEv c W fa)) (hb : PE X b (tEv c W fb)) : PT X (.Compare a [.Gt] [b] pos) (tTe c W (cTv (cBin oGt fa fb))) := t_cmp op_gt bop_ok ha hb (nomark _)
theorem t_ge (ha : PE X a (tEv c W fa)) (hb : PE X b (tEv c W fb)) : PT X (.Compare a [.GtE] [b] pos) (tTe c W (cTv (cBin oGe fa fb))) := t_cmp op_ge bop_ok ha hb (nomark _)
theorem e_le_lt (ha : PE X a (tEv c W fa)) (hb : PE X b (tEv c W fb)) (hc : PE X cc (tEv c W fc)) (hm : lastMarks [.LtE, .Lt] [b, cc] = false := by with_unfolding_all rfl) : PE X (.Compare a [.LtE, .Lt] [b, cc] pos) (tEv c W (cChain oLe oLt fa fb fc)) := e_chain op_le op_lt bop_ok bop_ok ha hb hc hm
theorem e_le_le (ha : PE X a (tEv c W fa)) (hb : PE X b (tEv c W fb)) (hc : PE X cc (tEv c W fc)) (hm : lastMarks [.LtE, .LtE] [b, cc] = false := by with_unfolding_all rfl) : PE X (.Compare a [.LtE, .LtE] [b, cc] pos) (tEv c W (cChain oLe oLe fa fb fc)) := e_chain op_le op_le bop_ok bop_ok ha hb hc hm
theorem e_lt_le (ha : PE X a (tEv c W fa)) (hb : PE X b (tEv c W fb)) (hc : PE X cc (tEv c W fc)) (hm : lastMarks [.Lt, .LtE] [b, cc] = false := by with_unfolding_all rfl) : PE X (.Compare a [.Lt, .LtE] [b, cc] pos) (tEv c W (cChain oLt oLe fa fb fc)) := e_chain op_lt op_le bop_ok bop_ok ha hb hc hm
theorem t_le_lt (ha : PE X a (tEv c W fa)) (hb : PE X b (tEv c W fb)) (hc : PE X cc (tEv c W fc)) (hm : lastMarks [.LtE, .Lt] [b, cc] = false := by with_unfolding_all rfl) : PT X (.Compare a [.LtE, .Lt] [b, cc] pos) (tTe c W (cTv (cChain oLe oLt fa fb fc))) := t_chain op_le op_lt bop_ok bop_ok ha hb hc hm
theorem t_le_le (ha : PE X a (tEv c W fa)) (hb : PE X b (tEv c W fb)) (hc : PE X cc (tEv c W fc)) (hm : lastMarks [.LtE, .LtE] [b, cc] = false := by with_unfolding_all rfl) : PT X (.Compare a [.LtE, .LtE] [b, cc] pos) (tTe c W (cTv (cChain oLe oLe fa fb fc))) := t_chain op_le op_le bop_ok bop_ok ha hb hc hm
theorem t_lt_le (ha : PE X a (tEv c W fa)) (hb : PE X b (tEv c W fb)) (hc : PE X cc (tEv c W fc)) (hm : lastMarks [.Lt, .LtE] [b, cc] = false := by with_unfolding_all rfl) : PT X (.Compare a [.Lt, .LtE] [b, cc] pos) (tTe c W (cTv (cChain oLt oLe fa fb fc))) := t_chain op_lt op_le bop_ok bop_ok ha hb hc hm
/-- -a -/
def cNeg (fa : Ev D) : Ev D := fun st h => (fa st h).bind fun d h1 => match d with
  | .int i => .ok (.int (-i)) h1
  | _ => .no
theorem e_neg (ha : PE X a (tEv c W fa)) : PE X (.UnaryOp .USub a pos) (tEv c W (cNeg fa)) := PE.imp (pe_un un_neg ha) fun σ H Q ⟨st, h, g, S, sl, q⟩ => by
  refine ⟨st, h, g, S, sl, RP.mono q.bind fun v1 H1 ⟨d1, h1, g1, o1, S1, r1, q1⟩ => ?_⟩
  cases r1 with
  | int i => exact ⟨i, rfl, RP.ok_here q1 S1 (.int _)⟩
  | _ => exact q1.elim
/-- is None -/
def D.isNon : D → Bool
  | .non => true
  | _ => false
def oIsN (x y : D) (h : Store) : Res D := match y with
  | .non => .ok (.bl x.isNon) h
  | _ => .no
def oNotN (x y : D) (h : Store) : Res D := match y with
  | .non => .ok (.bl (!x.isNon)) h
  | _ => .no
theorem RV.non_iff {g : Gh} {L : Nat} {d : D} {v : V} (r : RV c g L d v) : decide (v = .non) = d.isNon := by
  cases r <;> first | rfl | (refine decide_eq_false ?_; intro z; cases z)
theorem oIsN_ok : R2Ok c (fun x y H Q => y = .non ∧ Q (.bl (decide (x = .non))) H) oIsN := by
  intro g h H d1 v1 d2 v2 Q E S r1 r2 q
  cases r2 with
  | non => exact ⟨rfl, by rw [r1.non_iff]; exact RP.ok_here (show RP c (Rv c) g h H (.ok (.bl _) h) Q E from q) S (.bl _)⟩
  | _ => exact q.elim
theorem oNotN_ok : R2Ok c (fun x y H Q => y = .non ∧ Q (.bl (!decide (x = .non))) H) oNotN := by
  intro g h H d1 v1 d2 v2 Q E S r1 r2 q
  cases r2 with
  | non => exact ⟨rfl, by rw [r1.non_iff]; exact RP.ok_here (show RP c (Rv c) g h H (.ok (.bl _) h) Q E from q) S (.bl _)⟩
  | _ => exact q.elim
theorem e_isN (ha : PE X a (tEv c W fa)) (hb : PE X b (tEv c W fb)) : PE X (.Compare a [.Is] [b] pos) (tEv c W (cBin oIsN fa fb)) := e_cmp op_isN oIsN_ok ha hb (nomark _)
theorem e_notN (ha : PE X a (tEv c W fa)) (hb : PE X b (tEv c W fb)) : PE X (.Compare a [.IsNot] [b] pos) (tEv c W (cBin oNotN fa fb)) := e_cmp op_notN oNotN_ok ha hb (nomark _)
theorem t_isN (ha : PE X a (tEv c W fa)) (hb : PE X b (tEv c W fb)) : PT X (.Compare a [.Is] [b] pos) (tTe c W (cTv (cBin oIsN fa fb))) := t_cmp op_isN oIsN_ok ha hb (nomark _)
theorem t_notN (ha : PE X a (tEv c W fa)) (hb : PE X b (tEv c W fb)) : PT X (.Compare a [.IsNot] [b] pos) (tTe c W (cTv (cBin oNotN fa fb))) := t_cmp op_notN oNotN_ok ha hb (nomark _)

/-! ### == -/
def D.py (h : Store) : Nat → D → Option PyData
  | 0, _ => none
  | n + 1, d => match d with
    | .non => some .none
    | .bl b => some (.bool b)
    | .int i => some (.int i)
    | .str x => some (.str x)
    | .tup l => (l.mapM (D.py h n)).map .tuple
    | .lst l => (l.mapM (D.py h n)).map .list
    | .fro l => (l.mapM (D.py h n)).map .list
    | .ref m => match h[m]? with
      | some (some (.lst l)) => (l.mapM (D.py h n)).map .list
      | _ => none
    | _ => none
theorem py_all {c : Cf} {g : Gh} {h : Store} {H : Hp} {n : Nat} (S : SR c g h H) (ih : ∀ d v p, RV c g h.length d v → D.py h n d = some p → Dp c.K H v p) :
    ∀ {l : List D} {vs : List V} {ps : List PyData}, RVs c g h.length l vs → l.mapM (D.py h n) = some ps → DpAll c.K H vs ps
  | _, _, ps, .nil, e => by
    have e : some [] = some ps := e
    cases e
    exact .nil
  | _, _, ps, .cons (d := d) (ds := ds) r rs, e => by
    rw [List.mapM_cons] at e
    cases e1 : D.py h n d with
    | none => rw [e1] at e; cases e
    | some p =>
      rw [e1] at e
      cases e2 : ds.mapM (D.py h n) with
      | none => rw [e2] at e; cases e
      | some qs =>
        rw [e2] at e
        have e : some (p :: qs) = some ps := e
        cases e
        exact .cons (ih _ _ _ r e1) (py_all S ih rs e2)
theorem py_ok {c : Cf} {g : Gh} {h : Store} {H : Hp} (S : SR c g h H) : ∀ (n : Nat) d v p, RV c g h.length d v → D.py h n d = some p → Dp c.K H v p := by
  intro n
  induction n with
  | zero => intro d v p r e; cases e
  | succ n ih =>
    intro d v p r e
    have lm : ∀ {l : List D} {vs : List V} {f : List PyData → PyData}, RVs c g h.length l vs → (l.mapM (D.py h n)).map f = some p → ∃ ps, p = f ps ∧ DpAll c.K H vs ps := fun {l vs f} rs e => by
      cases e2 : l.mapM (D.py h n) with
      | none => rw [e2] at e; cases e
      | some qs =>
        rw [e2] at e
        exact ⟨qs, (Option.some.inj e).symm, py_all S ih rs e2⟩
    cases r with
    | non => cases e; exact .non
    | bl b => cases e; exact .bl b
    | int b => cases e; exact .int b
    | str b => cases e; exact .str b
    | tup h1 rs =>
      obtain ⟨ps, rfl, z⟩ := lm (f := .tuple) rs e
      exact .tup (SqT.sub S.sub h1) z
    | lst h1 rs =>
      obtain ⟨ps, rfl, z⟩ := lm (f := .list) rs e
      exact .lst (.inl (.inl (S.sub _ _ h1))) z
    | fro h1 rs =>
      obtain ⟨ps, rfl, z⟩ := lm (f := .list) rs e
      exact .lst (SqL.sub S.sub h1) z
    | @ref m hm =>
      unfold D.py at e
      dsimp only at e
      split at e
      · rename_i l e1
        obtain ⟨vs, e2, r2⟩ := S.cell m _ e1
        obtain ⟨ps, rfl, z⟩ := lm (f := .list) r2 e
        exact .lst (.inl (.inl e2)) z
      · cases e
    | _ => cases e
/-- == as a Bool, where it is known -/
def eqD (h : Store) (x y : D) : Option Bool := match x, y with
  | .int i, .int j => some (i == j)
  | .str i, .str j => some (decide (i = j))
  | .bl i, .bl j => some (i == j)
  | .non, .non => some true
  | .non, .int _ => some false
  | .int _, .non => some false
  | .non, .str _ => some false
  | .str _, .non => some false
  | .int _, .str _ => some false
  | .str _, .int _ => some false
  | x, y => match D.py h 40 x, D.py h 40 y with
    | some p, some q => if SeqAt.shaped p = true ∧ SeqAt.shaped q = true then some (PyData.eqv p q) else none
    | _, _ => none
def oEq (x y : D) (h : Store) : Res D := match eqD h x y with
  | some b => .ok (.bl b) h
  | none => .no
def oNe (x y : D) (h : Store) : Res D := match eqD h x y with
  | some b => .ok (.bl (!b)) h
  | none => .no
theorem eqD_ok {g : Gh} {h : Store} {H : Hp} {x y : D} {v w : V} {b : Bool} (S : SR c g h H) (r1 : RV c g h.length x v) (r2 : RV c g h.length y w) (e : eqD h x y = some b) :
    (scal v w = true ∧ decide (v = w) = b) ∨ ∃ d e, Dp c.K H v d ∧ Dp c.K H w e ∧ SeqAt.shaped d = true ∧ SeqAt.shaped e = true ∧ PyData.eqv d e = b := by
  unfold eqD at e
  split at e
  · cases r1; cases r2; cases e; exact .inl ⟨rfl, dec_int⟩
  · rename_i i j
    cases r1; cases r2; cases e
    refine .inl ⟨rfl, ?_⟩
    rw [dec_str]
    exact Bool.beq_eq_decide_eq i j
  · cases r1; cases r2; cases e; exact .inl ⟨rfl, dec_bl⟩
  · cases r1; cases r2; cases e; exact .inl ⟨rfl, rfl⟩
  · cases r1; cases r2; cases e; exact .inl ⟨rfl, rfl⟩
  · cases r1; cases r2; cases e; exact .inl ⟨rfl, rfl⟩
  · cases r1; cases r2; cases e; exact .inl ⟨rfl, rfl⟩
  · cases r1; cases r2; cases e; exact .inl ⟨rfl, rfl⟩
  · cases r1; cases r2; cases e; exact .inl ⟨rfl, rfl⟩
  · cases r1; cases r2; cases e; exact .inl ⟨rfl, rfl⟩
  · split at e
    · rename_i p q e1 e2
      split at e
      · rename_i hs
        cases e
        exact .inr ⟨p, q, py_ok S _ _ _ _ r1 e1, py_ok S _ _ _ _ r2 e2, hs.1, hs.2, rfl⟩
      · cases e
    · cases e
theorem oEq_ok : R2Ok c (fun x y H Q => rEq x y H Q ∨ rEqD c.K x y H Q) oEq := by
  intro g h H d1 v1 d2 v2 Q E S r1 r2 q
  unfold oEq at q
  cases e : eqD h d1 d2 with
  | none => rw [e] at q; exact q.elim
  | some b =>
    rw [e] at q
    have q2 : Q (.bl b) H := RP.ok_here q S (.bl b)
    rcases eqD_ok S r1 r2 e with ⟨h1, h2⟩ | ⟨d, e, h1, h2, h3, h4, h5⟩
    · exact .inl ⟨h1, by rw [h2]; exact q2⟩
    · exact .inr ⟨d, e, h1, h2, h3, h4, by rw [h5]; exact q2⟩
theorem oNe_ok : R2Ok c (fun x y H Q => rNe x y H Q ∨ rNeD c.K x y H Q) oNe := by
  intro g h H d1 v1 d2 v2 Q E S r1 r2 q
  unfold oNe at q
  cases e : eqD h d1 d2 with
  | none => rw [e] at q; exact q.elim
  | some b =>
    rw [e] at q
    have q2 : Q (.bl (!b)) H := RP.ok_here q S (.bl _)
    rcases eqD_ok S r1 r2 e with ⟨h1, h2⟩ | ⟨d, e, h1, h2, h3, h4, h5⟩
    · exact .inl ⟨h1, by rw [h2]; exact q2⟩
    · exact .inr ⟨d, e, h1, h2, h3, h4, by rw [h5]; exact q2⟩
theorem e_eq (hk : c.K = X.K) (hu : X.A.units + 64 < cLine) (ha : PE X a (tEv c W fa)) (hb : PE X b (tEv c W fb)) : PE X (.Compare a [.Eq] [b] pos) (tEv c W (cBin oEq fa fb)) := e_cmp (OpR.or op_eq (op_eqD hu)) (by rw [← hk]; exact oEq_ok) ha hb (nomark _)
theorem e_ne (hk : c.K = X.K) (hu : X.A.units + 64 < cLine) (ha : PE X a (tEv c W fa)) (hb : PE X b (tEv c W fb)) : PE X (.Compare a [.NotEq] [b] pos) (tEv c W (cBin oNe fa fb)) := e_cmp (OpR.or op_ne (op_neD hu)) (by rw [← hk]; exact oNe_ok) ha hb (nomark _)
theorem t_eq (hk : c.K = X.K) (hu : X.A.units + 64 < cLine) (ha : PE X a (tEv c W fa)) (hb : PE X b (tEv c W fb)) : PT X (.Compare a [.Eq] [b] pos) (tTe c W (cTv (cBin oEq fa fb))) := t_cmp (OpR.or op_eq (op_eqD hu)) (by rw [← hk]; exact oEq_ok) ha hb (nomark _)
theorem t_ne (hk : c.K = X.K) (hu : X.A.units + 64 < cLine) (ha : PE X a (tEv c W fa)) (hb : PE X b (tEv c W fb)) : PT X (.Compare a [.NotEq] [b] pos) (tTe c W (cTv (cBin oNe fa fb))) := t_cmp (OpR.or op_ne (op_neD hu)) (by rw [← hk]; exact oNe_ok) ha hb (nomark _)
end
end Gm

/-! Gm4: statements, loops, defs. -/
namespace Gm
open PySem PySem.Spec PyProof.Rows L2

inductive Out where
  | next (st : Slots) (h : Store)
  | ret (d : D) (h : Store)
  | brk (st : Slots) (h : Store)
  | cont (st : Slots) (h : Store)
  | exc (e : Exn) (st : Slots) (h : Store)
  | no
abbrev Ss := Slots → Store → Out

/-- what is wanted behind a statement -/
def OP (c : Cf) (g : Gh) (h : Store) (H : Hp) (o : Out) (D : Ends) (W : WX) : Prop :=
  match o with
  | .next st h' => ∀ g' H' σ, Go g h H g' h' H' → SR c g' h' H' → SL c g' h'.length st σ → D.nx σ H'
  | .ret d h' => ∀ g' H' v, Go g h H g' h' H' → SR c g' h' H' → RV c g' h'.length d v → D.rt v H'
  | .brk st h' => ∀ g' H' σ, Go g h H g' h' H' → SR c g' h' H' → SL c g' h'.length st σ → D.bk σ H'
  | .cont st h' => ∀ g' H' σ, Go g h H g' h' H' → SR c g' h' H' → SL c g' h'.length st σ → D.ct σ H'
  | .exc e st h' => ∀ g' H' σ cls dd, Go g h H g' h' H' → SR c g' h' H' → SL c g' h'.length st σ → RX c g' h'.length e cls dd → W cls dd σ H'
  | .no => False
theorem OP.go {c : Cf} {g g1 : Gh} {h h1 : Store} {H H1 : Hp} {o : Out} {D : Ends} {W : WX} (x : OP c g h H o D W) (y : Go g h H g1 h1 H1) : OP c g1 h1 H1 o D W := by
  cases o with
  | next st h' => exact fun g' H' σ z s l => x g' H' σ (y.trans z) s l
  | ret d h' => exact fun g' H' σ z s l => x g' H' σ (y.trans z) s l
  | brk st h' => exact fun g' H' σ z s l => x g' H' σ (y.trans z) s l
  | cont st h' => exact fun g' H' σ z s l => x g' H' σ (y.trans z) s l
  | exc e st h' => exact fun g' H' σ cls dd z s l r => x g' H' σ cls dd (y.trans z) s l r
  | no => exact x
def tSt (c : Cf) (W : WX) (f : Ss) : TS := fun D σ H => ∃ st h g, SR c g h H ∧ SL c g h.length st σ ∧ OP c g h H (f st h) D W
/-- an expression ahead of a statement's rest -/
def Res.out {α : Type} (r : Res α) (st : Slots) (k : α → Store → Out) : Out := match r with
  | .ok a h => k a h
  | .exc e h => .exc e st h
  | .no => .no
@[simp] theorem Res.out_ok {α : Type} (a : α) (h : Store) (st : Slots) (k : α → Store → Out) : (Res.ok a h).out st k = k a h := rfl
@[simp] theorem Res.out_exc {α : Type} (e : Exn) (h : Store) (st : Slots) (k : α → Store → Out) : (Res.exc e h : Res α).out st k = .exc e st h := rfl
@[simp] theorem Res.out_no {α : Type} (st : Slots) (k : α → Store → Out) : (Res.no : Res α).out st k = .no := rfl
theorem OP.out {c : Cf} {α β : Type} {R : Gh → Nat → α → β → Prop} {g : Gh} {h : Store} {H : Hp} {st : Slots} {σ : L2.St} {r : Res α} {k : α → Store → Out} {D : Ends} {W : WX} (sl : SL c g h.length st σ) (x : OP c g h H (r.out st k) D W) :
    RP c R g h H r (fun (v : β) H1 => ∃ d h1 g1, Go g h H g1 h1 H1 ∧ SR c g1 h1 H1 ∧ R g1 h1.length d v ∧ OP c g1 h1 H1 (k d h1) D W) (fun cls dd H' => W cls dd σ H') := by
  cases r with
  | ok a h' => exact fun g' H' v o s r => ⟨a, h', g', o, s, r, OP.go (o := k a h') x o⟩
  | exc e h' => exact fun g' H' cls dd o s r => x g' H' σ cls dd o s (sl.go o) r
  | no => exact x
/-- one statement, then the rest -/
def Out.seq (o : Out) (k : Ss) : Out := match o with
  | .next st h => k st h
  | o => o
section
variable {c : Cf} {W : WX} {X : Cx} {pos : Pos}
def sNil : Ss := fun st h => .next st h
def sSeq (f k : Ss) : Ss := fun st h => (f st h).seq k
variable {s : Stmt} {ss : List Stmt} {f k : Ss} {e : Expr} {fe : Ev D}
theorem ss_nil : PSs X [] (tSt c W sNil) := PSs.imp pss_nil fun D σ H ⟨st, h, g, S, sl, q⟩ => q g H σ (Go.refl _ _ _) S sl
theorem ss_one (h : PS X s (tSt c W f)) : PSs X [s] (tSt c W f) := pss_one h
theorem ss_cons (h1 : PS X s (tSt c W f)) (h2 : PSs X ss (tSt c W k)) : PSs X (s :: ss) (tSt c W (sSeq f k)) := PSs.imp (pss_cons h1 h2) fun D σ H ⟨st, h, g, S, sl, q⟩ => by
  refine ⟨st, h, g, S, sl, ?_⟩
  unfold sSeq at q
  cases e : f st h with
  | next st' h' =>
    rw [e] at q
    exact fun g' H' σ' o S' sl' => ⟨st', h', g', S', sl', OP.go (o := k st' h') q o⟩
  | ret d h' => rw [e] at q; exact q
  | brk st' h' => rw [e] at q; exact q
  | cont st' h' => rw [e] at q; exact q
  | exc ee st' h' => rw [e] at q; exact q
  | no => rw [e] at q; exact q
theorem s_pass : PS X (.Pass pos) (tSt c W sNil) := PS.imp ps_pass fun D σ H ⟨st, h, g, S, sl, q⟩ => q g H σ (Go.refl _ _ _) S sl
def sBrk : Ss := fun st h => .brk st h
def sCont : Ss := fun st h => .cont st h
theorem s_brk : PS X (.Break pos) (tSt c W sBrk) := PS.imp ps_break fun D σ H ⟨st, h, g, S, sl, q⟩ => q g H σ (Go.refl _ _ _) S sl
theorem s_cont : PS X (.Continue pos) (tSt c W sCont) := PS.imp ps_continue fun D σ H ⟨st, h, g, S, sl, q⟩ => q g H σ (Go.refl _ _ _) S sl
/-- a statement that is never come to -/
def sNo : Ss := fun _ _ => .no
theorem s_no : PS X s (tSt c W sNo) := PS.imp ps_never fun D σ H ⟨st, h, g, S, sl, q⟩ => q.elim
def sExpr (fe : Ev D) : Ss := fun st h => (fe st h).out st fun _ h1 => .next st h1
theorem s_expr (he : PE X e (tEv c W fe)) (hs : swapsWith e none pos.line X.env = pure false := by rfl) : PS X (.Expr e pos) (tSt c W (sExpr fe)) := PS.imp (ps_expr he hs) fun D σ H ⟨st, h, g, S, sl, q⟩ =>
  ⟨st, h, g, S, sl, RP.mono (OP.out sl q) fun v H1 ⟨d, h1, g1, o1, S1, r1, q1⟩ => q1 g1 H1 σ (Go.refl _ _ _) S1 (sl.go o1)⟩
def sRet (fe : Ev D) : Ss := fun st h => (fe st h).out st fun d h1 => .ret d h1
theorem s_ret (he : PE X e (tEv c W fe)) : PS X (.Return (some e) pos) (tSt c W (sRet fe)) := PS.imp (ps_ret he) fun D σ H ⟨st, h, g, S, sl, q⟩ =>
  ⟨st, h, g, S, sl, RP.mono (OP.out sl q) fun v H1 ⟨d, h1, g1, o1, S1, r1, q1⟩ => q1 g1 H1 v (Go.refl _ _ _) S1 r1⟩
def sRetN : Ss := fun st h => .ret .non h
theorem s_retN : PS X (.Return none pos) (tSt c W sRetN) := PS.imp ps_retN fun D σ H ⟨st, h, g, S, sl, q⟩ => q g H .non (Go.refl _ _ _) S .non
def sIf (t : Ev Bool) (f k : Ss) : Ss := fun st h => (t st h).out st fun b h1 => if b = true then f st h1 else k st h1
theorem s_if {t : Expr} {ft : Ev Bool} {a b : List Stmt} (ht : PT X t (tTe c W ft)) (ha : PSs X a (tSt c W f)) (hb : PSs X b (tSt c W k)) : PS X (.If t a b pos) (tSt c W (sIf ft f k)) := PS.imp (ps_if ht ha hb) fun D σ H ⟨st, h, g, S, sl, q⟩ =>
  ⟨st, h, g, S, sl, RP.mono (OP.out (R := Rb) sl q) fun v H1 ⟨d, h1, g1, o1, S1, r1, q1⟩ => by
    have e : d = v := r1
    subst e
    cases d with
    | true => exact ⟨st, h1, g1, S1, sl.go o1, q1⟩
    | false => exact ⟨st, h1, g1, S1, sl.go o1, q1⟩⟩

/-! ### targets -/
abbrev Tg := D → Slots → Store → Option (Slots × Store)
def tGt (c : Cf) (f : Tg) : TG := fun v σ H Q => ∃ d st h g, SR c g h H ∧ SL c g h.length st σ ∧ RV c g h.length d v ∧
  match f d st h with
  | some (st', h') => ∀ g' H' σ', Go g h H g' h' H' → SR c g' h' H' → SL c g' h'.length st' σ' → Q σ' H'
  | none => False
theorem PG.imp {e : Expr} {t t' : TG} (p : PG X e t) (k : ∀ v σ H Q, t' v σ H Q → t v σ H Q) : PG X e t' := ⟨fun pins s σ H v u Q I r h => p.run pins s σ H v u Q I r (k v σ H Q h)⟩
def gtName (i : Nat) : Tg := fun d st h => some (st.set i (some d), h)
theorem g_name {i : Nat} {e : Expr} (p : PG X e (gName i)) : PG X e (tGt c (gtName i)) := PG.imp p fun v σ H Q ⟨d, st, h, g, S, sl, r, q⟩ => q g H _ (Go.refl _ _ _) S (sl.set i r)
/-- several targets -/
abbrev Tgs := List D → Slots → Store → Option (Slots × Store)
def tGs (c : Cf) (f : Tgs) : TGs := fun vs σ H Q => ∃ ds st h g, SR c g h H ∧ SL c g h.length st σ ∧ RVs c g h.length ds vs ∧
  match f ds st h with
  | some (st', h') => ∀ g' H' σ', Go g h H g' h' H' → SR c g' h' H' → SL c g' h'.length st' σ' → Q σ' H'
  | none => False
theorem PGs.imp {e : List Expr} {t t' : TGs} (p : PGs X e t) (k : ∀ v σ H Q, t' v σ H Q → t v σ H Q) : PGs X e t' := ⟨fun pins s σ H v u Q I r h => p.run pins s σ H v u Q I r (k v σ H Q h)⟩
def gtNil : Tgs := fun ds st h => match ds with
  | [] => some (st, h)
  | _ => none
def gtCons (f : Tg) (k : Tgs) : Tgs := fun ds st h => match ds with
  | d :: r => match f d st h with
    | some (st', h') => k r st' h'
    | none => none
  | [] => none
theorem gs_nil : PGs X [] (tGs c gtNil) := PGs.imp pgs_nil fun vs σ H Q ⟨ds, st, h, g, S, sl, r, q⟩ => by
  cases r with
  | nil => exact ⟨rfl, q g H σ (Go.refl _ _ _) S sl⟩
  | cons _ _ => exact q.elim
theorem gs_cons {es : List Expr} {fg : Tg} {kg : Tgs} (h1 : PG X e (tGt c fg)) (h2 : PGs X es (tGs c kg)) (hs : (assignEach (e :: es) X.env).map (·.2) = assign e X.env :: (assignEach es X.env).map (·.2) := by rfl) : PGs X (e :: es) (tGs c (gtCons fg kg)) :=
  PGs.imp (pgs_cons h1 h2 hs) fun vs σ H Q ⟨ds, st, h, g, S, sl, r, q⟩ => by
    cases r with
    | nil => exact q.elim
    | @cons d v ds' vs' r1 rs =>
      refine ⟨v, vs', rfl, d, st, h, g, S, sl, r1, ?_⟩
      unfold gtCons at q
      dsimp only at q
      cases e1 : fg d st h with
      | none => rw [e1] at q; exact q.elim
      | some p =>
        obtain ⟨st', h'⟩ := p
        rw [e1] at q
        dsimp only at q ⊢
        intro g' H' σ' o S' sl'
        refine ⟨ds', st', h', g', S', sl', rs.mono o.gx o.len, ?_⟩
        cases e2 : kg ds' st' h' with
        | none => rw [e2] at q; exact q.elim
        | some p2 =>
          obtain ⟨st2, h2'⟩ := p2
          rw [e2] at q
          exact fun g2 H2 σ2 o2 S2 sl2 => q g2 H2 σ2 (o.trans o2) S2 sl2
def gtTup (n : Nat) (k : Tgs) : Tg := fun d st h => match d with
  | .tup ds => if ds.length = n then k ds st h else none
  | _ => none
theorem g_tup {es : List Expr} {j n : Nat} {kg : Tgs} (hK : c.K = X.K) (hc : X.calm = true) (h : PGs X es (tGs c kg)) (hn : (assignEach es X.env).length = n := by rfl) (hst : (assignEach es X.env).findIdx? (·.1) = none := by rfl) : PG X (.Tuple es j pos) (tGt c (gtTup n kg)) :=
  PG.imp (pg_tup hc h hn hst) fun v σ H Q ⟨d, st, h, g, S, sl, r, q⟩ => by
    cases d with
    | tup ds =>
      obtain ⟨a, vs, rfl, hq, rs⟩ := RV.tup' S r
      unfold gtTup at q
      dsimp only at q
      by_cases hl : ds.length = n
      · rw [if_pos hl] at q
        exact ⟨a, vs, rfl, by rw [← hK]; exact hq, by rw [← rs.length]; exact hl, ds, st, h, g, S, sl, rs, q⟩
      · rw [if_neg hl] at q
        exact q.elim
    | _ => exact q.elim
/-- target = value -/
def sAsg (fe : Ev D) (fg : Tg) : Ss := fun st h => (fe st h).out st fun d h1 => match fg d st h1 with
  | some (st', h') => .next st' h'
  | none => .no
theorem asgOk {fg : Tg} {D : Ends} {st : Slots} {σ : L2.St} {g1 : Gh} {h1 : Store} {H1 : Hp} {d : Gm.D} {v : V} (S1 : SR c g1 h1 H1) (sl : SL c g1 h1.length st σ) (r1 : RV c g1 h1.length d v)
    (q1 : OP c g1 h1 H1 (match fg d st h1 with | some (st', h') => .next st' h' | none => .no) D W) : tGt c fg v σ H1 D.nx := by
  refine ⟨d, st, h1, g1, S1, sl, r1, ?_⟩
  cases e : fg d st h1 with
  | none => rw [e] at q1; exact q1.elim
  | some p =>
    obtain ⟨st', h'⟩ := p
    rw [e] at q1
    exact q1
theorem s_asg {tg : Expr} {fg : Tg} (he : PE X e (tEv c W fe)) (hg : PG X tg (tGt c fg)) (hs : swapsWithSole [tg] e pos.line X.env = pure false := by rfl) (hw : swappedStores [tg] e X.env = pure none := by rfl)
    (h1 : (assignEach [tg] X.env).map (·.2) = [assign tg X.env] := by rfl) : PS X (.Assign [tg] e pos) (tSt c W (sAsg fe fg)) := PS.imp (ps_asg he hg hs hw h1) fun D σ H ⟨st, h, g, S, sl, q⟩ =>
  ⟨st, h, g, S, sl, RP.mono (OP.out sl q) fun v H1 ⟨d, h1, g1, o1, S1, r1, q1⟩ => asgOk S1 (sl.go o1) r1 q1⟩
def sSet (i : Nat) (fe : Ev D) : Ss := fun st h => (fe st h).out st fun d h1 => .next (st.set i (some d)) h1
theorem s_set {i : Nat} {x : Str} {pos' : Pos} (hN : X.N.Nodup) (hi : X.N[i]? = some x) (hx : Loc X.env.scope x) (he : PE X e (tEv c W fe)) (hs : swapsWith e (some (.Name x pos')) pos.line X.env = pure false := by rfl) (hf : X.fn x = true ∨ X.env.scope.names.lookup x = some .local := by first | exact .inl rfl | exact .inr rfl | assumption) :
    PS X (.Assign [.Name x pos'] e pos) (tSt c W (sSet i fe)) := PS.imp (ps_set hN hi hx he hs hf) fun D σ H ⟨st, h, g, S, sl, q⟩ =>
  ⟨st, h, g, S, sl, RP.mono (OP.out sl q) fun v H1 ⟨d, h1, g1, o1, S1, r1, q1⟩ => q1 g1 H1 _ (Go.refl _ _ _) S1 ((sl.go o1).set i r1)⟩
/-- name op= e -/
def sAug (i : Nat) (fo : D → D → Store → Res D) (fe : Ev D) : Ss := fun st h => match st[i]? with
  | some (some x) => (fe st h).out st fun y h1 => (fo x y h1).out st fun z h2 => .next (st.set i (some z)) h2
  | _ => .no
theorem s_aug {i : Nat} {x : Str} {op : Operator} {r : R2} {fo : D → D → Store → Res D} {pos' : Pos} (hN : X.N.Nodup) (hi : X.N[i]? = some x) (hx : Loc X.env.scope x) (ho : OpR X (inplaceOp op) r) (hr : R2Ok c r fo) (he : PE X e (tEv c W fe))
    (hf : X.fn x = true ∨ X.env.scope.names.lookup x = some .local := by first | exact .inl rfl | exact .inr rfl | assumption) : PS X (.AugAssign (.Name x pos') op e pos) (tSt c W (sAug i fo fe)) := PS.imp (ps_aug (ti := r) hN hi hx he ho hf) fun D σ H ⟨st, h, g, S, sl, q⟩ => by
  unfold sAug at q
  split at q
  · rename_i d e1
    obtain ⟨v, e2, rv⟩ := sl.2 i d e1
    refine ⟨v, e2, st, h, g, S, sl, RP.mono (OP.out sl q) fun w H1 ⟨d1, h1, g1, o1, S1, r1, q1⟩ => ?_⟩
    exact hr g1 h1 H1 d v d1 w _ _ S1 (rv.mono o1.gx o1.len) r1 (RP.mono (OP.out (sl.go o1) q1) fun z H2 ⟨d2, h2, g2, o2, S2, r2, q2⟩ => q2 g2 H2 _ (Go.refl _ _ _) S2 ((sl.go (o1.trans o2)).set i r2))
  · exact q.elim

/-! ### while -/
def whileL (ft : Ev Bool) (fb : Ss) : Nat → Ss
  | 0, _, _ => .no
  | n + 1, st, h => (ft st h).out st fun b h1 => if b = true then
      match fb st h1 with
      | .next st2 h2 => whileL ft fb n st2 h2
      | .cont st2 h2 => whileL ft fb n st2 h2
      | .brk st2 h2 => .next st2 h2
      | o => o
    else .next st h1
theorem s_while {t : Expr} {ft : Ev Bool} {body : List Stmt} {fb : Ss} (n : Nat) (hp : PassesOwn (model X.prog X.w) X.A X.env X.xe) (ht : PT X t (tTe c W ft)) (hb : PSs X body (tSt c W fb)) : PS X (.While t body [] pos) (tSt c W (whileL ft fb n)) := PS.imp (ps_while hp ht hb) fun D σ H ⟨st, h, g, S, sl, q⟩ => by
  refine ⟨fun m σ H => ∃ st h g, SR c g h H ∧ SL c g h.length st σ ∧ OP c g h H (whileL ft fb m st h) D W, ⟨n, st, h, g, S, sl, q⟩, ?_⟩
  rintro m σ H ⟨st, h, g, S, sl, q⟩
  cases m with
  | zero => exact q.elim
  | succ m =>
    refine ⟨st, h, g, S, sl, RP.mono (OP.out (R := Rb) sl q) fun v H1 ⟨d, h1, g1, o1, S1, r1, q1⟩ => ?_⟩
    have e : d = v := r1
    subst e
    cases d with
    | false => exact q1 g1 H1 σ (Go.refl _ _ _) S1 (sl.go o1)
    | true =>
      rw [if_pos rfl] at q1
      rw [if_pos rfl]
      refine ⟨fun σ H => ∃ st h g, SR c g h H ∧ SL c g h.length st σ ∧ OP c g h H (whileL ft fb m st h) D W, fun σ' H' x => ⟨m, Nat.lt_succ_self m, x⟩, st, h1, g1, S1, sl.go o1, ?_⟩
      cases e : fb st h1 with
      | next st2 h2 => rw [e] at q1; exact fun g' H' σ' o S' sl' => ⟨st2, h2, g', S', sl', OP.go (o := whileL ft fb m st2 h2) q1 o⟩
      | cont st2 h2 => rw [e] at q1; exact fun g' H' σ' o S' sl' => ⟨st2, h2, g', S', sl', OP.go (o := whileL ft fb m st2 h2) q1 o⟩
      | brk st2 h2 => rw [e] at q1; exact q1
      | ret d2 h2 => rw [e] at q1; exact q1
      | exc ee st2 h2 => rw [e] at q1; exact q1
      | no => rw [e] at q1; exact q1.elim

/-! ### what is walked -/
/-- the iterator J yields l, turn by turn -/
def ItOk (c : Cf) (J : It) (l : List D) (g0 : Gh) (L0 : Nat) : Prop := ∀ g h H (i : Nat), SR c g h H → Gx g0 L0 g → L0 ≤ h.length →
  (l.length ≤ i → J.stop i H) ∧ (∀ d, l[i]? = some d → J.go i H ∧ ∀ x H', J.yld i H x H' → ∃ g', Go g h H g' h H' ∧ SR c g' h H' ∧ RV c g' h.length d x)
theorem Gx.trans {g g1 g2 : Gh} {L L1 : Nat} (x : Gx g L g1) (y : Gx g1 L1 g2) (hl : L ≤ L1) : Gx g L g2 := ⟨fun n hn => (y.io n (Nat.lt_of_lt_of_le hn hl)).trans (x.io n hn), fun a o e => y.tr a o (x.tr a o e)⟩
theorem ItOk.mono {J : It} {l : List D} {g0 g1 : Gh} {L0 L1 : Nat} (k : ItOk c J l g0 L0) (x : Gx g0 L0 g1) (hl : L0 ≤ L1) : ItOk c J l g1 L1 := fun g h H i S gx hL => k g h H i S (x.trans gx hl) (Nat.le_trans hl hL)
def tIt (c : Cf) (W : WX) (f : Ev (List D)) : TI := fun σ H R => ∃ st h g, SR c g h H ∧ SL c g h.length st σ ∧ RP c (fun g L l J => ItOk c J l g L) g h H (f st h) R (fun cls dd H' => W cls dd σ H')
theorem PI.imp {tg e : Expr} {t t' : TI} (p : PI X tg e t) (k : ∀ σ H Q, t' σ H Q → t σ H Q) : PI X tg e t' := ⟨fun pins s σ H Q I h => p.run pins s σ H Q I (k σ H Q h)⟩
def forL (fg : Tg) (fb : Ss) : List D → Ss
  | [], st, h => .next st h
  | d :: l, st, h => match fg d st h with
    | none => .no
    | some (st1, h1) => match fb st1 h1 with
      | .next st2 h2 => forL fg fb l st2 h2
      | .cont st2 h2 => forL fg fb l st2 h2
      | .brk st2 h2 => .next st2 h2
      | o => o
def sFor (fi : Ev (List D)) (fg : Tg) (fb : Ss) : Ss := fun st h => (fi st h).out st fun l h1 => forL fg fb l st h1
theorem s_for {tg iter : Expr} {body : List Stmt} {fi : Ev (List D)} {fg : Tg} {fb : Ss} (hp : PassesOwn (model X.prog X.w) X.A X.env X.xe) (hc : X.calm = true) (hi : PI X tg iter (tIt c W fi)) (hg : PG X tg (tGt c fg)) (hb : PSs X body (tSt c W fb))
    (hs : ∀ x, foldedSetIterable iter X.env x = pure x := by intro _; rfl) : PS X (.For tg iter body [] pos) (tSt c W (sFor fi fg fb)) := PS.imp (ps_for hp hc hi hg hb hs) fun D σ H ⟨st, h, g, S, sl, q⟩ => by
  refine ⟨st, h, g, S, sl, RP.mono (OP.out (R := fun g L l J => ItOk c J l g L) sl q) fun J H1 ⟨l, h1, g1, o1, S1, k1, q1⟩ => ?_⟩
  refine ⟨fun i m σ H => m = l.length - i ∧ i ≤ l.length ∧ ∃ st h g, SR c g h H ∧ SL c g h.length st σ ∧ Gx g1 h1.length g ∧ h1.length ≤ h.length ∧ OP c g h H (forL fg fb (l.drop i) st h) D W, ⟨_, rfl, Nat.zero_le _, st, h1, g1, S1, sl.go o1, Gx.refl _ _, Nat.le_refl _, q1⟩, ?_⟩
  rintro i m σ H ⟨rfl, hi, st, h, g, S, sl, gx, hL, q⟩
  obtain ⟨ks, kg⟩ := k1 g h H i S gx hL
  by_cases hlt : i < l.length
  · obtain ⟨go, yl⟩ := kg l[i] (List.getElem?_eq_getElem hlt)
    refine .inr ⟨go, fun σ H => ∃ st h g, SR c g h H ∧ SL c g h.length st σ ∧ Gx g1 h1.length g ∧ h1.length ≤ h.length ∧ OP c g h H (forL fg fb (l.drop (i + 1)) st h) D W, fun σ' H' x => ⟨l.length - (i + 1), by omega, rfl, hlt, x⟩, fun x H' y => ?_⟩
    obtain ⟨g', o', S', r'⟩ := yl x H' y
    rw [List.drop_eq_getElem_cons hlt] at q
    unfold forL at q
    refine ⟨l[i], st, h, g', S', sl.go o', r', ?_⟩
    cases e1 : fg l[i] st h with
    | none => rw [e1] at q; exact q.elim
    | some p =>
      obtain ⟨st1, h2⟩ := p
      rw [e1] at q
      dsimp only at q ⊢
      intro g2 H2 σ2 o2 S2 sl2
      refine ⟨st1, h2, g2, S2, sl2, ?_⟩
      have o12 := o'.trans o2
      cases e2 : fb st1 h2 with
      | next st3 h3 =>
        rw [e2] at q
        exact fun g3 H3 σ3 o3 S3 sl3 => ⟨st3, h3, g3, S3, sl3, gx.trans (o12.trans o3).gx hL, Nat.le_trans hL (o12.trans o3).len, OP.go (o := forL fg fb (l.drop (i + 1)) st3 h3) q (o12.trans o3)⟩
      | cont st3 h3 =>
        rw [e2] at q
        exact fun g3 H3 σ3 o3 S3 sl3 => ⟨st3, h3, g3, S3, sl3, gx.trans (o12.trans o3).gx hL, Nat.le_trans hL (o12.trans o3).len, OP.go (o := forL fg fb (l.drop (i + 1)) st3 h3) q (o12.trans o3)⟩
      | brk st3 h3 => rw [e2] at q; exact fun g3 H3 σ3 o3 S3 sl3 => q g3 H3 σ3 (o12.trans o3) S3 sl3
      | ret d3 h3 => rw [e2] at q; exact fun g3 H3 σ3 o3 S3 sl3 => q g3 H3 σ3 (o12.trans o3) S3 sl3
      | exc ee st3 h3 => rw [e2] at q; exact fun g3 H3 σ3 cls dd o3 S3 sl3 r3 => q g3 H3 σ3 cls dd (o12.trans o3) S3 sl3 r3
      | no => rw [e2] at q; exact q.elim
  · have e : i = l.length := by omega
    subst e
    rw [List.drop_length] at q
    exact .inl ⟨ks (Nat.le_refl _), q g H σ (Go.refl _ _ _) S sl⟩
end

/-! ### a def -/
def startD (n : Nat) (ds : List D) : Slots := ds.map some ++ List.replicate (n - ds.length) none
def Out.res (o : Out) : Res D := match o with
  | .ret d h => .ok d h
  | .next _ h => .ok .non h
  | .exc e _ h => .exc e h
  | _ => .no
/-- a def by its body: n names, k parameters -/
def fnOf (n k : Nat) (fb : Ss) : FnT := fun ds h => if ds.length = k then cleanD h.length (fb (startD n ds) h).res else .no
theorem SL.start {c : Cf} {g : Gh} {L : Nat} {N : List Str} {ds : List D} {vs : List V} (r : RVs c g L ds vs) : SL c g L (startD N.length ds) (L2.start N vs) := by
  have e := r.length
  refine ⟨by unfold startD L2.start; simp [e], fun i d q => ?_⟩
  unfold startD at q
  unfold L2.start
  by_cases hi : i < ds.length
  · rw [List.getElem?_append_left (by simpa using hi), List.getElem?_map] at q
    cases e2 : ds[i]? with
    | none => rw [e2] at q; cases q
    | some x =>
      rw [e2] at q
      have q : x = d := by simpa using q
      subst q
      obtain ⟨y, e3, r3⟩ := r.get e2
      exact ⟨y, by rw [List.getElem?_append_left (by simpa [← e] using hi), List.getElem?_map, e3]; rfl, r3⟩
  · rw [List.getElem?_append_right (by simpa using hi), List.getElem?_replicate] at q
    split at q <;> cases q
theorem fn_ok {P : Program} {w : World} {K : PySem.W.Frag} {mg : Str → Option Value} {base : Heap} {c : Cf} {x qual : Str} {params : Arguments} {body : List Stmt} {scope : Scope} {dvs : List V} {kws : List (Str × V)} {f : Addr} {fd : FuncData} {N ps : List Str} {k : Nat} {fb : Ss}
    (F : FunD K x qual params body scope dvs kws f fd) (S : FnScope N ps scope)
    (hbody : ∀ (cdv : Value) (A : Around) (outer : List Env) (s : Shared) (H : Hp) (E : XK), Room k (A.deeper (envOfC qual scope s.heap.objs.size f cdv)) →
      PSs (cxOf (L2N.CX P w) P w K mg base N qual scope f cdv A outer s H E) body (tSt c (fun cls d _ H' => E cls d H') fb)) :
    FnOk P w K mg base (L2N.CX P w) (k + 1) f fd ps (spOf c (fnOf N.length ps.length fb)) := by
  refine FunD.ok F S (fun vs H Q E ⟨ds, h, g, S, r, q⟩ => ?_) fun cdv A outer s H vs Q E hr ⟨ds, h, g, S, r, q⟩ => ⟨_, hbody cdv A outer s H E hr, ?_⟩
  · unfold fnOf at q
    by_cases hl : ds.length = ps.length
    · rw [← hl, r.length]
    · rw [if_neg hl] at q
      exact q.elim
  · unfold fnOf at q
    by_cases hl : ds.length = ps.length
    · rw [if_pos hl] at q
      have q := RP.clean q
      refine ⟨startD N.length ds, h, g, S, SL.start r, ?_⟩
      cases e : fb (startD N.length ds) h with
      | next st' h' => rw [e] at q; exact fun g' H' σ o S' _ => q g' H' .non o S' .non
      | ret d h' => rw [e] at q; exact q
      | brk st' h' => rw [e] at q; exact q.elim
      | cont st' h' => rw [e] at q; exact q.elim
      | exc ee st' h' => rw [e] at q; exact fun g' H' σ cls dd o S' _ rx => q g' H' cls dd o S' rx
      | no => rw [e] at q; exact q.elim
    · rw [if_neg hl] at q
      exact q.elim
/-- a def by the way it is called: its level, its function, the defaults behind the written arguments -/
def CallOk (P : Program) (w : World) (K : PySem.W.Frag) (mg : Str → Option Value) (base : Heap) (c : Cf) (x : Str) (k : Nat) (F : FnT) (defs : List D) : Prop :=
  ∃ (f : Addr) (fd : FuncData) (ps : List Str) (ds : List Value) (dvs : List V), mg x = some (.ref f) ∧ FnOk P w K mg base (L2N.CX P w) k f fd ps (spOf c F) ∧ PySem.W.keepIn K (.ref f) = true ∧ L2.Binds K fd ps ds ∧ Vals dvs ds ∧ ∀ g L, RVs c g L defs dvs
theorem e_callC {c : Cf} {W : WX} {X : Cx} {x : Str} {k j : Nat} {F : FnT} {defs : List D} {e : Expr} {es : List Expr} {fs : Ev (List D)} {p pos : Pos} (G : CallOk X.prog X.w X.K X.mg X.base c x k F defs) (hr : Room j X.A) (hj : k ≤ j) (hg : Gl X x) (tk : L2N.Takes X W) (ha : PA X (e :: es) (tAr c W fs))
    (hdb : (x == ("__debug__" : Str)) = false := by decide) (he : starEach (e :: es) X.env = (false, eval e X.env) :: starEach es X.env := by rfl) (hpl : (backTo pos (starEach es X.env)).any (·.1) = false := by rfl) :
    PE X (.Call (.Name x p) (e :: es) [] pos) (tEv c W (cCall F defs fs)) := by
  obtain ⟨f, fd, ps, ds, dvs, hm, G, hk, hb, hd, rd⟩ := G
  exact e_call G (hr.mono hj) hg hm hk hb hd rd tk ha hdb he hpl
/-- .. with keywords: gD puts the written values and the keywords' values (with what lacks) in the parameters' order -/
def CallOkK (P : Program) (w : World) (K : PySem.W.Frag) (mg : Str → Option Value) (base : Heap) (c : Cf) (x : Str) (k : Nat) (F : FnT) (n : Nat) (ks : List Str) (gD : List D → List D → List D) : Prop :=
  ∃ (f : Addr) (fd : FuncData) (ps : List Str) (gV : List V → List V → List V) (gU : List Value → List Value → List Value), mg x = some (.ref f) ∧ FnOk P w K mg base (L2N.CX P w) k f fd ps (spOf c F) ∧ PySem.W.keepIn K (.ref f) = true ∧ L2.KBn K fd ps n ks gU gV ∧
    ∀ g L ds vs es ws, RVs c g L ds vs → RVs c g L es ws → RVs c g L (gD ds es) (gV vs ws)
def cCallK (F : FnT) (n m : Nat) (gD : List D → List D → List D) (fs fk : Ev (List D)) : Ev D := fun st h => (fs st h).bind fun ds h1 => (fk st h1).bind fun es h2 => if ds.length = n ∧ es.length = m then F (gD ds es) h2 else .no
def tKw (c : Cf) (W : WX) (f : Ev (List D)) : TA := tAr c W f
theorem PK.imp {X : Cx} {e : List Keyword} {t t' : TA} (p : L2.PK X e t) (k : ∀ σ H Q, t' σ H Q → t σ H Q) : L2.PK X e t' := ⟨fun w pins s σ H Q I h => p.run w pins s σ H Q I (k σ H Q h)⟩
section
variable {c : Cf} {W : WX} {X : Cx} {e : Expr} {es : List Expr} {kws : List Keyword} {fe : Ev D} {fs fk : Ev (List D)} {nm : Option Str} {kpos p pos : Pos}
theorem k_nil : L2.PK X [] (tAr c W cNil) := PK.imp pk_nil fun σ H Q ⟨st, h, g, S, sl, q⟩ => RP.ok_here q S .nil
theorem k_cons (ha : PE X e (tEv c W fe)) (hr : L2.PK X kws (tAr c W fk)) : L2.PK X (⟨nm, e, kpos⟩ :: kws) (tAr c W (cCons fe fk)) := PK.imp (pk_cons ha hr) fun σ H Q ⟨st, h, g, S, sl, q⟩ => by
  refine ⟨st, h, g, S, sl, RP.mono q.bind fun v1 H1 ⟨d1, h1, g1, o1, S1, r1, q1⟩ => ?_⟩
  refine ⟨st, h1, g1, S1, sl.go o1, RP.mono q1.bind fun v2 H2 ⟨d2, h2, g2, o2, S2, r2, q2⟩ => ?_⟩
  exact RP.ok_here q2 S2 (.cons (r1.mono o2.gx o2.len) r2)
theorem e_callK {x : Str} {k j n m : Nat} {F : FnT} {ks : List Str} {gD : List D → List D → List D} {E : XK} (G : CallOkK X.prog X.w X.K X.mg X.base c x k F n ks gD) (hr : Room j X.A) (hj : k ≤ j) (hg : Gl X x) (hx : Passes (L2N.CX X.prog X.w) X E) (hW : ∀ cls dd σ H, W cls dd σ H → E cls dd H)
    (ha : PA X (e :: es) (tAr c W fs)) (hkw : L2.PK X kws (tAr c W fk)) (hall : (backToKw pos (keywordEach kws X.env)).all (·.1.isSome) = true := by rfl) (hks : (backToKw pos (keywordEach kws X.env)).filterMap (·.1) = ks := by rfl)
    (hdb : (x == ("__debug__" : Str)) = false := by decide) (he : starEach (e :: es) X.env = (false, eval e X.env) :: starEach es X.env := by rfl)
    (hpl : ((backTo pos (starEach (e :: es) X.env)).any (·.1) || (backToKw pos (keywordEach kws X.env)).any (·.1.isNone)) = false := by rfl) (hlen : ks.length = m := by rfl) :
    PE X (.Call (.Name x p) (e :: es) kws pos) (tEv c W (cCallK F n m gD fs fk)) := by
  subst hlen
  obtain ⟨f, fd, ps, gV, gU, hm, G, hk, hb, rd⟩ := G
  refine PE.imp (pe_callN G (hr.mono hj) hg hm hk hb hx ha hkw hall hks hdb he hpl) fun σ H Q ⟨st, h, g, S, sl, q⟩ => ?_
  refine ⟨st, h, g, S, sl, RP.mono q.bind fun vs H1 ⟨ds, h1, g1, o1, S1, r1, q1⟩ => ?_⟩
  refine ⟨st, h1, g1, S1, sl.go o1, RP.mono q1.bind fun zs H2 ⟨es', h2, g2, o2, S2, r2, q2⟩ => ?_⟩
  by_cases hl : ds.length = n ∧ es'.length = ks.length
  · rw [if_pos hl] at q2
    refine ⟨by rw [← r1.length]; exact hl.1, by rw [← r2.length]; exact hl.2, gD ds es', h2, g2, S2, rd _ _ _ _ _ _ (r1.mono o2.gx o2.len) r2, ?_⟩
    cases er : F (gD ds es') h2 with
    | ok d h3 => rw [er] at q2; exact q2
    | exc ee h3 => rw [er] at q2; exact fun g' H' cls dd o S' rx => hW _ _ _ _ (q2 g' H' cls dd o S' rx)
    | no => rw [er] at q2; exact q2
  · rw [if_neg hl] at q2
    exact q2.elim
end
end Gm

/-! Gm5: what is walked; comprehensions; freezing. -/
namespace Gm
open PySem PySem.Spec PyProof.Rows L2

/-! ### freezing a cell -/
theorem SR.frz {c : Cf} {g : Gh} {h : Store} {H : Hp} (S : SR c g h H) {n : Nat} {l : List D} {vs : List V} (hn : h[n]? = some (some (.lst l))) (hv : H (g.io n) = some (.lst vs)) :
    SR c { g with tr := upd g.tr (g.io n) (.lst vs) } (h.set n none) H ∧ Go g h H { g with tr := upd g.tr (g.io n) (.lst vs) } (h.set n none) H := by
  have ln : Live h n := ⟨_, hn⟩
  have lv : ∀ m, Live (h.set n none) m → Live h m ∧ m ≠ n := fun m ⟨ce, e⟩ => by
    by_cases z : m = n
    · subst z
      rw [List.getElem?_set_self ln.lt] at e
      cases e
    · rw [List.getElem?_set_ne (Ne.symm z)] at e
      exact ⟨⟨ce, e⟩, z⟩
  have gx : Gx g h.length { g with tr := upd g.tr (g.io n) (.lst vs) } := ⟨fun _ _ => rfl, fun a u e => by
    show upd g.tr (g.io n) (.lst vs) a = some u
    rw [upd_ne (fun z => by rw [z, S.apart n ln] at e; cases e)]
    exact e⟩
  refine ⟨⟨fun a u e => ?_, fun m l => ?_, fun m ce e => ?_, fun m k l1 l2 e => S.inj m k (lv m l1).1 (lv k l2).1 e, S.tabs, nt_upd S.nt (by intro ps z; cases z)⟩, ⟨by simp, gx.io, gx.tr, fun a u e nt => ⟨u, e, nt⟩, fun a u e _ _ => e, fun a u e _ t nl => ?_, fun m _ l => (lv m l).1, fun m hm l => absurd l.lt (by simpa using hm)⟩⟩
  · have e : upd g.tr (g.io n) (.lst vs) a = some u := e
    by_cases z : a = g.io n
    · rw [z, upd_same] at e
      rw [z, hv]
      exact e
    · rw [upd_ne z] at e
      exact S.sub a u e
  · show upd g.tr (g.io n) (.lst vs) (g.io m) = none
    obtain ⟨l0, nm⟩ := lv m l
    rw [upd_ne (fun e => nm (S.inj m n l0 ln e))]
    exact S.apart m l0
  · obtain ⟨l0, nm⟩ := lv m ⟨ce, e⟩
    rw [List.getElem?_set_ne (Ne.symm nm)] at e
    rw [List.length_set]
    exact (S.cell m ce e).mono gx (Nat.le_refl _) rfl
  · show upd g.tr (g.io n) (.lst vs) a = none
    rw [upd_ne (Ne.symm (nl n ln))]
    exact t
/-- the cell in slot i is frozen ahead of a statement -/
def sFrz (i : Nat) (f : Ss) : Ss := fun st h => match st[i]? with
  | some (some (.ref n)) => match h[n]? with
    | some (some (.lst l)) => f (st.set i (some (.lst l))) (h.set n none)
    | _ => .no
  | _ => .no
theorem s_frz {c : Cf} {W : WX} {X : Cx} {s : Stmt} {f : Ss} (i : Nat) (p : PS X s (tSt c W f)) : PS X s (tSt c W (sFrz i f)) := PS.imp p fun D σ H ⟨st, h, g, S, sl, q⟩ => by
  unfold sFrz at q
  split at q
  · rename_i n e1
    split at q
    · rename_i l e2
      obtain ⟨v, e3, rv⟩ := sl.2 i _ e1
      obtain ⟨vs, e4, rs⟩ := S.cell n _ e2
      cases rv with
      | ref hn =>
        obtain ⟨S1, o1⟩ := S.frz e2 e4
        have sl1 : SL c { g with tr := upd g.tr (g.io n) (.lst vs) } (h.set n none).length (st.set i (some (.lst l))) σ := by
          have sl' := (sl.go o1).set i (d := .lst l) (v := .ref (g.io n)) (.lst upd_same (by rw [List.length_set]; exact rs.mono o1.gx (Nat.le_refl _)))
          have e : σ.set i (some (.ref (g.io n))) = σ := by
            apply List.ext_getElem?
            intro j
            by_cases z : i = j
            · subst z
              rw [List.getElem?_set_self (List.getElem?_eq_some_iff.mp e3).1, e3]
            · rw [List.getElem?_set_ne z]
          rw [e] at sl'
          exact sl'
        exact ⟨_, _, _, S1, sl1, OP.go q o1⟩
    · exact q.elim
  · exact q.elim

/-! ### what is walked -/
def iSeq (K : PySem.W.Frag) (tl : TE) : TI := fun σ H R => tl σ H fun x H1 => (∃ a, x = .ref a ∧ (∃ xs, SqL K H1 a xs) ∧ R (Itl K a) H1) ∨ (∃ a, x = .ref a ∧ (∃ xs, SqT K H1 a xs) ∧ R (Itt K a) H1) ∨ ∃ z, x = .str z ∧ R (Its z) H1
theorem pi_seq {X : Cx} {tg e : Expr} {te : TE} (he : PE X e te) : PI X tg e (iSeq X.K te) := by
  refine ⟨fun pins s σ H R I h => ?_⟩
  refine thn (he.run pins s σ H _ I h) fun v s1 ⟨x, H1, I1, r1, q1⟩ => ?_
  have tc : PE X e te := he
  rcases q1 with ⟨a, ex, hx, q⟩ | ⟨a, ex, hx, q⟩ | ⟨z, ex, q⟩
  · subst ex
    cases r1
    obtain ⟨xs, hq⟩ := hx
    obtain ⟨its, rv, p, hz⟩ := I1.list hq
    refine wpAny_pyIter_list p.isList ?_
    refine ⟨s1.heap.objs.size, [s1.heap.objs.size], _, _, H1, rfl, I1.kept (t' := s1.toks) fun b o e => Heap.get?_push_of_some _ e, turn_list a _, ⟨_, Heap.get?_push_size _ rfl, rfl, rfl⟩, fun b hb => ?_, q⟩
    have e : b = s1.heap.objs.size := by simpa using hb
    subst e
    exact I1.fpOk (Nat.le_refl _) (I1.hok.fresh (Nat.le_refl _))
  · subst ex
    cases r1
    obtain ⟨xs, hq⟩ := hx
    obtain ⟨its, rv, p, hz⟩ := I1.tuple hq
    refine wpAny_pyIter_tuple (show s1.heap.IsTuple a its.toArray from p) ?_
    refine ⟨s1.heap.objs.size, [s1.heap.objs.size], _, _, H1, rfl, I1.kept (t' := s1.toks) fun b o e => Heap.get?_push_of_some _ e, turn_tuple a _, ⟨_, Heap.get?_push_size _ rfl, rfl, rfl⟩, fun b hb => ?_, q⟩
    have e : b = s1.heap.objs.size := by simpa using hb
    subst e
    exact I1.fpOk (Nat.le_refl _) (I1.hok.fresh (Nat.le_refl _))
  · subst ex
    obtain ⟨t, rfl⟩ := r1
    cases ha : z.cps.all (· < 128)
    · exact wpAny_pyIter_wide ha (pi_one (tk := s1.toks) I1 _ (turn_str _ z t "str_iterator" (.inr rfl)) ⟨_, Heap.get?_push_size _ rfl, rfl, rfl⟩ q)
    · exact wpAny_pyIter_ascii ha (pi_one (tk := s1.toks) I1 _ (turn_str _ z t "str_ascii_iterator" (.inl rfl)) ⟨_, Heap.get?_push_size _ rfl, rfl, rfl⟩ q)
section
variable {c : Cf} {W : WX} {X : Cx} {tg e : Expr} {fe : Ev D} {pos : Pos}
theorem itl_ok {a : Addr} {l : List D} {vs : List V} {g0 : Gh} {L0 : Nat} (hq : SqL c.K g0.tr a vs) (rs : RVs c g0 L0 l vs) : ItOk c (Itl c.K a) l g0 L0 := fun g h H i S gx hL => by
  have q : SqL c.K H a vs := SqL.sub S.sub (SqL.sub gx.tr hq)
  refine ⟨fun hi => ⟨vs, q, by rw [← rs.length]; exact hi⟩, fun d hd => ?_⟩
  obtain ⟨y, e1, r1⟩ := rs.get hd
  refine ⟨⟨vs, y, q, e1⟩, fun x H' ⟨eH, hx⟩ => ?_⟩
  have e2 := hx vs q
  rw [e1] at e2
  cases e2
  subst eH
  exact ⟨g, Go.refl _ _ _, S, r1.mono gx hL⟩
theorem itt_ok {a : Addr} {l : List D} {vs : List V} {g0 : Gh} {L0 : Nat} (hq : SqT c.K g0.tr a vs) (rs : RVs c g0 L0 l vs) : ItOk c (Itt c.K a) l g0 L0 := fun g h H i S gx hL => by
  have q : SqT c.K H a vs := SqT.sub S.sub (SqT.sub gx.tr hq)
  refine ⟨fun hi => ⟨vs, q, by rw [← rs.length]; exact hi⟩, fun d hd => ?_⟩
  obtain ⟨y, e1, r1⟩ := rs.get hd
  refine ⟨⟨vs, y, q, e1⟩, fun x H' ⟨eH, hx⟩ => ?_⟩
  have e2 := hx vs q
  rw [e1] at e2
  cases e2
  subst eH
  exact ⟨g, Go.refl _ _ _, S, r1.mono gx hL⟩
/-- the signs of a text -/
def signs (x : Str) : List D := x.cps.toList.map fun c => .str ⟨#[c]⟩
theorem its_ok {x : Str} {g0 : Gh} {L0 : Nat} : ItOk c (Its x) (signs x) g0 L0 := fun g h H i S gx hL => by
  refine ⟨fun hi => (show x.cps.size ≤ i by simpa [signs] using hi), fun d hd => ?_⟩
  unfold signs at hd
  rw [List.getElem?_map] at hd
  cases e : x.cps.toList[i]? with
  | none => rw [e] at hd; cases hd
  | some k =>
    rw [e] at hd
    have hd : D.str ⟨#[k]⟩ = d := by simpa using hd
    subst hd
    have hi : i < x.cps.size := by
      have := (List.getElem?_eq_some_iff.mp e).1
      simpa using this
    refine ⟨hi, fun v H' ⟨eH, k2, e2, ev⟩ => ?_⟩
    subst eH
    have e3 : x.cps[i]? = some k := by rw [← Array.getElem?_toList]; exact e
    rw [e3] at e2
    cases e2
    rw [ev]
    exact ⟨g, Go.refl _ _ _, S, .str _⟩
/-- the items of what is walked: a list or a tuple that stays, a text -/
def items : D → Option (List D)
  | .lst l => some l
  | .fro l => some l
  | .tup l => some l
  | .str x => some (signs x)
  | _ => none
def iSeqD (fe : Ev D) : Ev (List D) := fun st h => (fe st h).bind fun d h1 => match items d with
  | some l => .ok l h1
  | none => .no
theorem i_seq (hK : c.K = X.K) (he : PE X e (tEv c W fe)) : PI X tg e (tIt c W (iSeqD fe)) := PI.imp (pi_seq he) fun σ H R ⟨st, h, g, S, sl, q⟩ => by
  refine ⟨st, h, g, S, sl, RP.mono (RP.bind q) fun v H1 ⟨d, h1, g1, o1, S1, r1, q1⟩ => ?_⟩
  rw [← hK]
  cases r1 with
  | lst h2 rs =>
    have q1 : RP c _ g1 h1 H1 (.ok _ h1) R _ := q1
    exact .inl ⟨_, rfl, ⟨_, .inl (.inl (S1.sub _ _ h2))⟩, RP.ok_here q1 S1 (itl_ok (.inl (.inl h2)) rs)⟩
  | fro h2 rs =>
    have q1 : RP c _ g1 h1 H1 (.ok _ h1) R _ := q1
    exact .inl ⟨_, rfl, ⟨_, SqL.sub S1.sub h2⟩, RP.ok_here q1 S1 (itl_ok h2 rs)⟩
  | tup h2 rs =>
    have q1 : RP c _ g1 h1 H1 (.ok _ h1) R _ := q1
    exact .inr (.inl ⟨_, rfl, ⟨_, SqT.sub S1.sub h2⟩, RP.ok_here q1 S1 (itt_ok h2 rs)⟩)
  | str x =>
    have q1 : RP c _ g1 h1 H1 (.ok _ h1) R _ := q1
    exact .inr (.inr ⟨_, rfl, RP.ok_here q1 S1 its_ok⟩)
  | _ => exact q1.elim
/-- upInts lo, lo + k, .. -/
def upInts (lo k : Int) (n : Nat) : List D := (List.range n).map fun i => .int (lo + (i : Nat) * k)
theorem ints_get {lo k : Int} {n i : Nat} {d : D} (h : (upInts lo k n)[i]? = some d) : i < n ∧ d = .int (lo + (i : Nat) * k) := by
  unfold upInts at h
  rw [List.getElem?_map] at h
  by_cases hi : i < n
  · rw [List.getElem?_range hi] at h
    exact ⟨hi, (Option.some.inj h).symm⟩
  · rw [List.getElem?_eq_none (by simpa using hi)] at h
    cases h
theorem itr_ok {lo : Int} {n : Nat} {g0 : Gh} {L0 : Nat} : ItOk c (Itr lo n) (upInts lo 1 n) g0 L0 := fun g h H i S gx hL => by
  refine ⟨fun hi => (show n ≤ i by simpa [upInts] using hi), fun d hd => ?_⟩
  obtain ⟨hi, rfl⟩ := ints_get hd
  refine ⟨hi, fun v H' ⟨eH, ev⟩ => ?_⟩
  subst eH
  rw [ev, Int.mul_one]
  exact ⟨g, Go.refl _ _ _, S, .int _⟩
theorem itc_ok {lo k : Int} {n : Nat} {g0 : Gh} {L0 : Nat} : ItOk c (Itc lo k n) (upInts lo k n) g0 L0 := fun g h H i S gx hL => by
  refine ⟨fun hi => (show n ≤ i by simpa [upInts] using hi), fun d hd => ?_⟩
  obtain ⟨hi, rfl⟩ := ints_get hd
  refine ⟨hi, fun v H' ⟨eH, ev⟩ => ?_⟩
  subst eH
  rw [ev]
  exact ⟨g, Go.refl _ _ _, S, .int _⟩
def g62 (i : Int) : Bool := Nat.ble i.natAbs 4611686018427387903
theorem g62_ok {i : Int} (h : g62 i = true) : -(2 ^ 62) ≤ i ∧ i < 2 ^ 62 := by
  have := Nat.le_of_ble_eq_true h
  omega
def iRange1 (fs : Ev (List D)) : Ev (List D) := fun st h => (fs st h).bind fun ds h1 => match ds with
  | [.int j] => if g62 j = true then .ok (upInts 0 1 j.toNat) h1 else .no
  | _ => .no
def iRange2 (fs : Ev (List D)) : Ev (List D) := fun st h => (fs st h).bind fun ds h1 => match ds with
  | [.int i, .int j] => if g62 i = true ∧ g62 j = true then .ok (upInts i 1 (j - i).toNat) h1 else .no
  | _ => .no
theorem i_range1 {a : Expr} {fs : Ev (List D)} {p pos : Pos} (hg : Gl X "range") (hm : X.mg "range" = none) (ha : PA X [a] (tAr c W fs)) (hs : starEach [a] X.env = [(false, eval a X.env)] := by rfl) : PI X tg (.Call (.Name "range" p) [a] [] pos) (tIt c W (iRange1 fs)) :=
  PI.imp (pi_range1 hg hm ha hs) fun σ H R ⟨st, h, g, S, sl, q⟩ => by
    refine ⟨st, h, g, S, sl, RP.mono (RP.bind q) fun vs H1 ⟨ds, h1, g1, o1, S1, r1, q1⟩ => ?_⟩
    split at q1
    · rename_i j
      cases r1 with
      | cons r rr =>
        cases rr
        cases r
        by_cases hj : g62 j = true
        · rw [if_pos hj] at q1
          exact ⟨j, rfl, (g62_ok hj).1, (g62_ok hj).2, RP.ok_here q1 S1 itr_ok⟩
        · rw [if_neg hj] at q1
          exact q1.elim
    · exact q1.elim
theorem i_range2 {a b : Expr} {fs : Ev (List D)} {p pos : Pos} (hg : Gl X "range") (hm : X.mg "range" = none) (ha : PA X [a, b] (tAr c W fs)) (hs : starEach [a, b] X.env = [(false, eval a X.env), (false, eval b X.env)] := by rfl) (hs2 : starEach [b] X.env = [(false, eval b X.env)] := by rfl) : PI X tg (.Call (.Name "range" p) [a, b] [] pos) (tIt c W (iRange2 fs)) :=
  PI.imp (pi_range2 hg hm ha hs hs2) fun σ H R ⟨st, h, g, S, sl, q⟩ => by
    refine ⟨st, h, g, S, sl, RP.mono (RP.bind q) fun vs H1 ⟨ds, h1, g1, o1, S1, r1, q1⟩ => ?_⟩
    split at q1
    · rename_i i j
      cases r1 with
      | cons r rr =>
        cases rr with
        | cons r2 rr =>
          cases rr
          cases r
          cases r2
          by_cases hj : g62 i = true ∧ g62 j = true
          · rw [if_pos hj] at q1
            exact ⟨i, j, rfl, ⟨(g62_ok hj.1).1, (g62_ok hj.1).2, (g62_ok hj.2).1, (g62_ok hj.2).2⟩, RP.ok_here q1 S1 itr_ok⟩
          · rw [if_neg hj] at q1
            exact q1.elim
    · exact q1.elim
/-- reversed(range(n)) -/
def iRevRange (fe : Ev D) : Ev (List D) := fun st h => (fe st h).bind fun d h1 => match d with
  | .int b => if g62 b = true then .ok (upInts (((b.toNat : Nat) : Int) - 1) (-1) b.toNat) h1 else .no
  | _ => .no
theorem i_revRange {a : Expr} {fa : Ev D} {p p2 pos pos2 : Pos} (hg : Gl X "reversed") (hm : X.mg "reversed" = none) (hg2 : Gl X "range") (hm2 : X.mg "range" = none) (ha : PE X a (tEv c W fa)) (na : starEach [a] X.env = (false, eval a X.env) :: starEach [] X.env := by rfl)
    (hs : starEach [.Call (.Name "range" p2) [a] [] pos2] X.env = (false, eval (.Call (.Name "range" p2) [a] [] pos2) X.env) :: starEach [] X.env := by rfl) : PI X tg (.Call (.Name "reversed" p) [.Call (.Name "range" p2) [a] [] pos2] [] pos) (tIt c W (iRevRange fa)) :=
  PI.imp (pi_revR hg hm (prg_1 hg2 hm2 ha na) hs) fun σ H R ⟨st, h, g, S, sl, q⟩ => by
    refine ⟨st, h, g, S, sl, RP.mono (RP.bind q) fun v H1 ⟨d, h1, g1, o1, S1, r1, q1⟩ => ?_⟩
    cases r1 with
    | int b =>
      have q1 : RP c (fun g L l J => ItOk c J l g L) g1 h1 H1 (if g62 b = true then Res.ok (upInts (((b.toNat : Nat) : Int) - 1) (-1) b.toNat) h1 else Res.no) R (fun cls dd H' => W cls dd σ H') := q1
      by_cases hj : g62 b = true
      · rw [if_pos hj] at q1
        refine ⟨b, rfl, by decide, by decide, (g62_ok hj).1, (g62_ok hj).2, ?_⟩
        have e : (b - 0).toNat = b.toNat := by rw [Int.sub_zero]
        have e2 : (0 : Int) + ((b.toNat : Nat) : Int) - 1 = ((b.toNat : Nat) : Int) - 1 := by omega
        rw [e, e2]
        exact RP.ok_here q1 S1 itc_ok
      · rw [if_neg hj] at q1
        exact q1.elim
    | _ => exact q1.elim
/-- enumerate(xs) -/
def enumD (l : List D) : List D := l.mapIdx fun i d => .tup [.int (i : Nat), d]
theorem ite_ok {a : Addr} {l : List D} {vs : List V} {g0 : Gh} {L0 : Nat} (hq : SqL c.K g0.tr a vs) (rs : RVs c g0 L0 l vs) : ItOk c (Ite c.K a) (enumD l) g0 L0 := fun g h H i S gx hL => by
  have q : SqL c.K H a vs := SqL.sub S.sub (SqL.sub gx.tr hq)
  refine ⟨fun hi => ⟨vs, q, by rw [← rs.length]; simpa [enumD] using hi⟩, fun d hd => ?_⟩
  unfold enumD at hd
  rw [List.getElem?_mapIdx] at hd
  cases e : l[i]? with
  | none => rw [e] at hd; cases hd
  | some d0 =>
    rw [e] at hd
    have hd : D.tup [.int (i : Nat), d0] = d := by simpa using hd
    subst hd
    obtain ⟨y, e1, r1⟩ := rs.get e
    refine ⟨⟨vs, y, q, e1⟩, fun x H' ⟨T, x0, ev, nT, eH, hx⟩ => ?_⟩
    have e2 := hx vs q
    rw [e1] at e2
    cases e2
    subst ev eH
    obtain ⟨S2, o2⟩ := S.tree (o := .tup [.int (i : Nat), y]) nT
    exact ⟨_, o2, S2, .tup (.inl (.inl upd_same)) (.cons (.int _) (.cons (r1.mono (gx.trans o2.gx hL) hL) .nil))⟩
/-- a list that stays, for an iterator over it -/
def asI : D → Option (List D)
  | .lst l => some l
  | .fro l => some l
  | _ => none
theorem asI_ok {g : Gh} {L : Nat} {d : D} {v : V} {l : List D} (r : RV c g L d v) (e : asI d = some l) : ∃ a vs, v = .ref a ∧ SqL c.K g.tr a vs ∧ RVs c g L l vs := by
  cases r with
  | lst h1 r => cases e; exact ⟨_, _, rfl, .inl (.inl h1), r⟩
  | fro h1 r => cases e; exact ⟨_, _, rfl, h1, r⟩
  | _ => cases e
def iEnumD (fs : Ev (List D)) : Ev (List D) := fun st h => (fs st h).bind fun ds h1 => match ds with
  | [d] => match asI d with
    | some l => .ok (enumD l) h1
    | none => .no
  | _ => .no
theorem i_enum {fs : Ev (List D)} {p pos tpos : Pos} {elts : List Expr} {kk : Nat} (hK : c.K = X.K) (hg : Gl X "enumerate") (hm : X.mg "enumerate" = none) (ha : PA X [e] (tAr c W fs)) (hs : starEach [e] X.env = [(false, eval e X.env)] := by rfl) : PI X (.Tuple elts kk tpos) (.Call (.Name "enumerate" p) [e] [] pos) (tIt c W (iEnumD fs)) :=
  PI.imp (pi_enum hg hm ha hs) fun σ H R ⟨st, h, g, S, sl, q⟩ => by
    refine ⟨st, h, g, S, sl, RP.mono (RP.bind q) fun vs H1 ⟨ds, h1, g1, o1, S1, r1, q1⟩ => ?_⟩
    split at q1
    · rename_i d
      split at q1
      · rename_i l el
        cases r1 with
        | cons r rr =>
          cases rr
          obtain ⟨a, vs, rfl, hq, rs⟩ := asI_ok r el
          rw [← hK]
          exact ⟨a, vs, rfl, SqL.sub S1.sub hq, RP.ok_here q1 S1 (ite_ok hq rs)⟩
      · exact q1.elim
    · exact q1.elim
/-- zip(xs, ys) -/
def zipD : List D → List D → List D
  | a :: r, b :: s => .tup [a, b] :: zipD r s
  | _, _ => []
theorem zipD_get : ∀ {l k : List D} {i : Nat} {d : D}, (zipD l k)[i]? = some d → ∃ a b, l[i]? = some a ∧ k[i]? = some b ∧ d = .tup [a, b]
  | [], _, _, _, h => by simp [zipD] at h
  | _ :: _, [], _, _, h => by simp [zipD] at h
  | a :: r, b :: s, 0, d, h => by
    simp [zipD] at h
    exact ⟨a, b, rfl, rfl, h.symm⟩
  | a :: r, b :: s, i + 1, d, h => by
    simp only [zipD, List.getElem?_cons_succ] at h
    obtain ⟨x, y, e1, e2, e3⟩ := zipD_get h
    exact ⟨x, y, by simpa using e1, by simpa using e2, e3⟩
theorem zipD_len : ∀ (l k : List D), (zipD l k).length = min l.length k.length
  | [], _ => by simp [zipD]
  | _ :: _, [] => by simp [zipD]
  | a :: r, b :: s => by simp only [zipD, List.length_cons, zipD_len r s]; omega
theorem itz_ok {a b : Addr} {l k : List D} {vs ws : List V} {g0 : Gh} {L0 : Nat} (hq : SqL c.K g0.tr a vs) (rs : RVs c g0 L0 l vs) (hq2 : SqL c.K g0.tr b ws) (rs2 : RVs c g0 L0 k ws) : ItOk c (Itz c.K a b) (zipD l k) g0 L0 := fun g h H i S gx hL => by
  have q : SqL c.K H a vs := SqL.sub S.sub (SqL.sub gx.tr hq)
  have q2 : SqL c.K H b ws := SqL.sub S.sub (SqL.sub gx.tr hq2)
  refine ⟨fun hi => ⟨vs, ws, q, q2, ?_⟩, fun d hd => ?_⟩
  · rw [zipD_len] at hi
    rw [← rs.length, ← rs2.length]
    omega
  · obtain ⟨d1, d2, e1, e2, rfl⟩ := zipD_get hd
    obtain ⟨y1, f1, r1⟩ := rs.get e1
    obtain ⟨y2, f2, r2⟩ := rs2.get e2
    refine ⟨⟨vs, ws, y1, y2, q, q2, f1, f2⟩, fun x H' ⟨T, x1, x2, ev, nT, eH, hx1, hx2⟩ => ?_⟩
    have z1 := hx1 vs q
    have z2 := hx2 ws q2
    rw [f1] at z1
    rw [f2] at z2
    cases z1
    cases z2
    subst ev eH
    obtain ⟨S2, o2⟩ := S.tree (o := .tup [y1, y2]) nT
    exact ⟨_, o2, S2, .tup (.inl (.inl upd_same)) (.cons (r1.mono (gx.trans o2.gx hL) hL) (.cons (r2.mono (gx.trans o2.gx hL) hL) .nil))⟩
def iZipD (fs : Ev (List D)) : Ev (List D) := fun st h => (fs st h).bind fun ds h1 => match ds with
  | [d, d'] => match asI d, asI d' with
    | some l, some k => .ok (zipD l k) h1
    | _, _ => .no
  | _ => .no
theorem i_zip {fs : Ev (List D)} {e2 : Expr} {p pos tpos : Pos} {elts : List Expr} {kk : Nat} (hK : c.K = X.K) (P : ∀ {ta : TA}, PA X [e, e2] ta → PI X (.Tuple elts kk tpos) (.Call (.Name "zip" p) [e, e2] [] pos) (iZip X.K ta)) (ha : PA X [e, e2] (tAr c W fs)) : PI X (.Tuple elts kk tpos) (.Call (.Name "zip" p) [e, e2] [] pos) (tIt c W (iZipD fs)) :=
  PI.imp (P ha) fun σ H R ⟨st, h, g, S, sl, q⟩ => by
    refine ⟨st, h, g, S, sl, RP.mono (RP.bind q) fun vs H1 ⟨ds, h1, g1, o1, S1, r1, q1⟩ => ?_⟩
    split at q1
    · rename_i d d'
      split at q1
      · rename_i l k el ek
        cases r1 with
        | cons r rr =>
          cases rr with
          | cons r' rr =>
            cases rr
            obtain ⟨a, vs, rfl, hq, rs⟩ := asI_ok r el
            obtain ⟨b, ws, rfl, hq2, rs2⟩ := asI_ok r' ek
            rw [← hK]
            exact ⟨a, b, vs, ws, rfl, SqL.sub S1.sub hq, SqL.sub S1.sub hq2, RP.ok_here q1 S1 (itz_ok hq rs hq2 rs2)⟩
      · exact q1.elim
    · exact q1.elim

/-! ### comprehensions -/
theorem wipe_get {σ : L2.St} : ∀ {vs : List Nat} {j : Nat}, (wipe σ vs)[j]? = if j ∈ vs then (if j < σ.length then some none else none) else σ[j]?
  | [], j => by simp [wipe]
  | v :: vs, j => by
    unfold wipe
    by_cases e : v = j
    · subst e
      rw [if_pos List.mem_cons_self]
      by_cases hl : v < σ.length
      · rw [if_pos hl, List.getElem?_set_self (by rw [wipe_length]; exact hl)]
      · rw [if_neg hl, List.getElem?_eq_none (by rw [List.length_set, wipe_length]; omega)]
    · rw [List.getElem?_set_ne e, wipe_get]
      by_cases m : j ∈ vs
      · rw [if_pos m, if_pos (List.mem_cons_of_mem _ m)]
      · rw [if_neg m, if_neg (fun z => by
          rcases List.mem_cons.mp z with z | z
          · exact e z.symm
          · exact m z)]
theorem wipe_set {σ : L2.St} {vs : List Nat} {i : Nat} {x : Option V} (hi : i ∈ vs) : wipe (σ.set i x) vs = wipe σ vs := by
  apply List.ext_getElem?
  intro j
  rw [wipe_get, wipe_get]
  by_cases m : j ∈ vs
  · rw [if_pos m, if_pos m, List.length_set]
  · rw [if_neg m, if_neg m, List.getElem?_set_ne (fun e => m (by rw [← e]; exact hi))]
theorem wipe_wipe {σ : L2.St} {vs : List Nat} : wipe (wipe σ vs) vs = wipe σ vs := by
  apply List.ext_getElem?
  intro j
  rw [wipe_get, wipe_get]
  by_cases m : j ∈ vs
  · rw [if_pos m, if_pos m, wipe_length]
  · rw [if_neg m, if_neg m]
def wipeD (st : Slots) : List Nat → Slots
  | [] => st
  | v :: vs => (wipeD st vs).set v none
theorem SL.wipe {g : Gh} {L : Nat} {st : Slots} {σ : L2.St} (s : SL c g L st σ) : ∀ vs : List Nat, SL c g L (wipeD st vs) (L2.wipe σ vs)
  | [] => s
  | v :: vs => (SL.wipe s vs).unset v
/-- a comprehension's target: a name, or several -/
structure TgN (c : Cf) (vs : List Nat) (gt : TG) (fg : D → Slots → Option Slots) : Prop where
  ok : ∀ {v : V} {σ σ0 : L2.St} {H : Hp} {d : D} {st st1 : Slots} {h : Store} {g : Gh} {Q : L2.St → Hp → Prop}, SR c g h H → SL c g h.length st σ → RV c g h.length d v → fg d st = some st1 → (L2.wipe σ vs = σ0) →
    (∀ σ1, SL c g h.length st1 σ1 → L2.wipe σ1 vs = σ0 → Q σ1 H) → gt v σ H Q
def fName (i : Nat) : D → Slots → Option Slots := fun d st => some (st.set i (some d))
theorem tg_name {vs : List Nat} {i : Nat} (hi : i ∈ vs) : TgN c vs (gName i) (fName i) := ⟨fun {v σ σ0 H d st st1 h g Q} S sl r e ew k => by
  cases e
  exact k _ (sl.set i r) (by rw [wipe_set hi]; exact ew)⟩
def gNs : List Nat → TGs
  | [] => gNil
  | i :: r => gCons (gName i) (gNs r)
def fNs : List Nat → List D → Slots → Option Slots
  | [], [], st => some st
  | i :: r, d :: ds, st => fNs r ds (st.set i (some d))
  | _, _, _ => none
def fTup (is : List Nat) : D → Slots → Option Slots := fun d st => match d with
  | .tup ds => fNs is ds st
  | _ => none
theorem fNs_ok {vs : List Nat} {σ0 : L2.St} {H : Hp} {h : Store} {g : Gh} {Q : L2.St → Hp → Prop} (S : SR c g h H) : ∀ {is : List Nat} {ds : List D} {xs : List V} {st st1 : Slots} {σ : L2.St}, (∀ i ∈ is, i ∈ vs) → SL c g h.length st σ → RVs c g h.length ds xs → fNs is ds st = some st1 →
    L2.wipe σ vs = σ0 → (∀ σ1, SL c g h.length st1 σ1 → L2.wipe σ1 vs = σ0 → Q σ1 H) → gNs is xs σ H Q
  | [], [], _, st, st1, σ, _, sl, .nil, e, ew, k => by
    have e : some st = some st1 := e
    cases e
    exact ⟨rfl, k σ sl ew⟩
  | i :: is, d :: ds, _, st, st1, σ, hm, sl, .cons r rs, e, ew, k => by
    refine ⟨_, _, rfl, ?_⟩
    exact fNs_ok S (fun j hj => hm j (List.mem_cons_of_mem _ hj)) (sl.set i r) rs e (by rw [wipe_set (hm i List.mem_cons_self)]; exact ew) k
  | [], _ :: _, _, _, _, _, _, _, _, e, _, _ => by cases e
  | _ :: _, [], _, _, _, _, _, _, _, e, _, _ => by cases e
theorem fNs_len : ∀ {is : List Nat} {ds : List D} {st st1 : Slots}, fNs is ds st = some st1 → ds.length = is.length
  | [], [], _, _, _ => rfl
  | _ :: is, _ :: ds, _, _, e => by simp only [List.length_cons]; rw [fNs_len (is := is) (ds := ds) e]
  | [], _ :: _, _, _, e => by cases e
  | _ :: _, [], _, _, e => by cases e
theorem tg_tup {vs : List Nat} {is : List Nat} (hi : ∀ i ∈ is, i ∈ vs) : TgN c vs (gTup c.K is.length (gNs is)) (fTup is) := ⟨fun {v σ σ0 H d st st1 h g Q} S sl r e ew k => by
  cases d with
  | tup ds =>
    obtain ⟨a, xs, rfl, hq, rs⟩ := RV.tup' S r
    have e : fNs is ds st = some st1 := e
    exact ⟨a, xs, rfl, hq, by rw [← rs.length]; exact fNs_len e, fNs_ok S hi sl rs e ew k⟩
  | _ => cases e⟩
/-- no exception is let out -/
def Res.sure {α : Type} : Res α → Res α
  | .ok a h => .ok a h
  | _ => .no
@[simp] theorem Res.sure_ok {α : Type} (a : α) (h : Store) : (Res.ok a h).sure = .ok a h := rfl
@[simp] theorem Res.sure_exc {α : Type} (e : Exn) (h : Store) : (Res.exc e h : Res α).sure = .no := rfl
@[simp] theorem Res.sure_no {α : Type} : (Res.no : Res α).sure = .no := rfl
def lcL (fg : D → Slots → Option Slots) (ft : Ev Bool) (fe : Ev D) (st0 : Slots) : List D → Store → Res (List D)
  | [], h => .ok [] h
  | d :: l, h => match fg d st0 with
    | none => .no
    | some st1 => (ft st1 h).sure.bind fun b h1 => if b = true then (fe st1 h1).sure.bind fun y h2 => (lcL fg ft fe st0 l h2).bind fun ys h3 => .ok (y :: ys) h3 else lcL fg ft fe st0 l h1
def cLc (m : Bool) (fi : Ev (List D)) (fg : D → Slots → Option Slots) (ft : Ev Bool) (fe : Ev D) (own : List Nat) : Ev D := fun st h =>
  (fi st h).bind fun l h1 => if l.length ≤ sizeLine then (lcL fg ft fe (wipeD st own) l h1).bind fun ys h2 => alloc m ys h2 else .no
theorem Go.side {g1 g : Gh} {h1 h : Store} {H1 H : Hp} {a : Addr} {o : HO} (x : Go g1 h1 H1 g h H) (n : H1 a = none) : Go g1 h1 H1 g h (upd H a o) :=
  ⟨x.len, x.io, x.tr, fun b u e nt => by
    obtain ⟨o', e1, n1⟩ := x.dm b u e nt
    exact ⟨o', by rw [upd_ne (ne_of_none e n)]; exact e1, n1⟩, fun b u e nt nl => by
    rw [upd_ne (ne_of_none e n)]
    exact x.fr b u e nt nl, x.tn, x.old, x.new⟩
theorem SR.side {g : Gh} {h : Store} {H : Hp} {a : Addr} {xs ys : List V} (S : SR c g h H) (ha : H a = some (.lst xs)) (ta : g.tr a = none) (nl : ∀ n, Live h n → g.io n ≠ a) : SR c g h (upd H a (.lst ys)) :=
  ⟨fun b u e => by rw [upd_ne (fun z => by rw [z, ta] at e; cases e)]; exact S.sub b u e, S.apart, fun n ce e => (S.cell n ce e).mono (Gx.refl _ _) (Nat.le_refl _) (upd_ne (nl n ⟨ce, e⟩)), S.inj, tabs_write S.tabs ha trivial (fun φ z => by cases z), S.nt⟩
theorem SR.side0 {g : Gh} {h : Store} {H : Hp} {a : Addr} {o : HO} (S : SR c g h H) (ha : H a = none) : SR c g h (upd H a o) ∧ g.tr a = none ∧ ∀ n, Live h n → g.io n ≠ a := by
  have nl : ∀ n, Live h n → g.io n ≠ a := fun n ⟨ce, e⟩ z => by
    obtain ⟨u, q, _⟩ := (S.cell n ce e).some
    rw [z, ha] at q
    cases q
  have ta : g.tr a = none := by
    cases e : g.tr a with
    | none => rfl
    | some u => rw [S.sub _ _ e] at ha; cases ha
  exact ⟨⟨fun b u e => by rw [upd_ne (fun z => by rw [z, ta] at e; cases e)]; exact S.sub b u e, S.apart, fun n ce e => (S.cell n ce e).mono (Gx.refl _ _) (Nat.le_refl _) (upd_ne (nl n ⟨ce, e⟩)), S.inj, tabs_alloc S.tabs ha, S.nt⟩, ta, nl⟩
/-- what is left of the comprehension -/
def lcRest (m : Bool) (fg : D → Slots → Option Slots) (ft : Ev Bool) (fe : Ev D) (st0 : Slots) (acc l : List D) (h : Store) : Res D := (lcL fg ft fe st0 l h).bind fun ys h2 => alloc m (acc ++ ys) h2
abbrev W0 : WX := fun _ _ _ _ => False
theorem lc_ok {m : Bool} {gt : TG} {fi : Ev (List D)} {fg : D → Slots → Option Slots} {ft : Ev Bool} {fe : Ev D} {vs : List Nat} (tgn : TgN c vs gt fg) {σ : L2.St} {H : Hp} {Q : VK}
    (x : tEv c W (cLc m fi fg ft fe vs) σ H Q) : tLc (tIt c W fi) gt (tTe c W0 ft) (tEv c W0 fe) vs σ H Q := by
  obtain ⟨st, h, g, S, sl, q⟩ := x
  refine ⟨st, h, g, S, sl, RP.mono (RP.bind q) fun J H1 ⟨l, h1, g1, o1, S1, k1, q1⟩ => ?_⟩
  by_cases hl : l.length ≤ sizeLine
  case neg => rw [if_neg hl] at q1; exact q1.elim
  rw [if_pos hl] at q1
  intro D0 nD
  have sl1 := (sl.go o1).wipe vs
  obtain ⟨S1', t1, nl1⟩ := S1.side0 (o := .lst []) nD
  have dt : ∀ ys : List V, ∀ ps, (HO.lst ys) ≠ .tbl ps := fun ys ps z => by cases z
  refine ⟨fun i m' H => m' = l.length - i ∧ i ≤ l.length ∧ ∃ acc ws h g, SR c g h H ∧ Go g1 h1 H1 g h H ∧ H D0 = some (.lst ws) ∧ g.tr D0 = none ∧ (∀ n, Live h n → g.io n ≠ D0) ∧ RVs c g h.length acc ws ∧ acc.length ≤ i ∧
    RP c (Rv c) g1 h1 H1 (lcRest m fg ft fe (wipeD st vs) acc (l.drop i) h) Q (fun cls dd H' => W cls dd σ H'), ⟨_, rfl, Nat.zero_le _, [], [], h1, g1, S1', (Go.refl _ _ _).side nD, upd_same, t1, nl1, .nil, Nat.le_refl _, q1⟩, ?_⟩
  rintro i m' H ⟨rfl, hi, acc, ws, h, g, S, o, hD, tD, nlD, rs, ha, q⟩
  obtain ⟨ks, kg⟩ := k1 g h H i S o.gx o.len
  by_cases hlt : i < l.length
  · obtain ⟨go, yl⟩ := kg l[i] (List.getElem?_eq_getElem hlt)
    refine .inr ⟨go, fun H => ∃ acc ws h g, SR c g h H ∧ Go g1 h1 H1 g h H ∧ H D0 = some (.lst ws) ∧ g.tr D0 = none ∧ (∀ n, Live h n → g.io n ≠ D0) ∧ RVs c g h.length acc ws ∧ acc.length ≤ i + 1 ∧
      RP c (Rv c) g1 h1 H1 (lcRest m fg ft fe (wipeD st vs) acc (l.drop (i + 1)) h) Q (fun cls dd H' => W cls dd σ H'), fun H' x => ⟨l.length - (i + 1), by omega, rfl, hlt, x⟩, fun x H' y => ?_⟩
    obtain ⟨g2, o2, S2, r2⟩ := yl x H' y
    rw [List.drop_eq_getElem_cons hlt] at q
    unfold lcRest lcL at q
    cases e1 : fg l[i] (wipeD st vs) with
    | none => rw [e1] at q; exact q.elim
    | some st1 =>
      rw [e1] at q
      dsimp only at q
      have o12 := o.trans o2
      refine tgn.ok S2 (((sl.go o1).go o12).wipe vs) r2 e1 wipe_wipe fun σ2 sl2 ew => ⟨ew, st1, h, g2, S2, sl2, ?_⟩
      have hD2 := o2.fr _ _ hD (dt _) nlD
      have tD2 := o2.tn _ _ hD (dt _) tD nlD
      have nlD2 := o2.apart hD (dt _) nlD
      have rs2 := rs.mono o2.gx o2.len
      cases e2 : ft st1 h with
      | no => rw [e2] at q; exact q.elim
      | exc ee h3 => rw [e2] at q; exact q.elim
      | ok b h3 =>
        rw [e2, Res.sure_ok, Res.bind_ok] at q
        intro g3 H3 b' o3 S3 eb
        have eb : b = b' := eb
        subst eb
        have hD3 := o3.fr _ _ hD2 (dt _) nlD2
        have tD3 := o3.tn _ _ hD2 (dt _) tD2 nlD2
        have nlD3 := o3.apart hD2 (dt _) nlD2
        have rs3 := rs2.mono o3.gx o3.len
        cases b with
        | false =>
          exact ⟨acc, ws, h3, g3, S3, o12.trans o3, hD3, tD3, nlD3, rs3, Nat.le_succ_of_le ha, q⟩
        | true =>
          rw [if_pos rfl]
          refine ⟨st1, h3, g3, S3, sl2.go o3, ?_⟩
          cases e3 : fe st1 h3 with
          | no => rw [if_pos rfl, e3] at q; exact q.elim
          | exc ee h4 => rw [if_pos rfl, e3] at q; exact q.elim
          | ok yv h4 =>
            intro g4 H4 v4 o4 S4 r4
            have hD4 := o4.fr _ _ hD3 (dt _) nlD3
            have tD4 := o4.tn _ _ hD3 (dt _) tD3 nlD3
            have nlD4 := o4.apart hD3 (dt _) nlD3
            have rs4 := rs3.mono o4.gx o4.len
            refine ⟨ws, hD4, by rw [← rs.length]; omega, acc ++ [yv], ws ++ [v4], h4, g4, S4.side hD4 tD4 nlD4, ((o12.trans o3).trans o4).side nD, upd_same, tD4, nlD4, rs4.append (.cons r4 .nil), by rw [List.length_append, List.length_singleton]; omega, ?_⟩
            rw [if_pos rfl, e3, Res.sure_ok, Res.bind_ok] at q
            unfold lcRest
            cases e4 : lcL fg ft fe (wipeD st vs) (l.drop (i + 1)) h4 with
            | no => rw [e4] at q; exact q
            | exc ee h5 => rw [e4] at q; exact q
            | ok ys h5 =>
              rw [e4] at q
              rw [Res.bind_ok, List.append_assoc]
              exact q
  · have e : i = l.length := by omega
    subst e
    rw [List.drop_length] at q
    unfold lcRest lcL at q
    rw [Res.bind_ok, List.append_nil] at q
    refine .inl ⟨ks (Nat.le_refl _), ?_⟩
    cases m with
    | false =>
      have q : RP c (Rv c) g1 h1 H1 (.ok (.lst acc) h) Q _ := q
      have gx : Gx g h.length { g with tr := upd g.tr D0 (.lst ws) } := ⟨fun _ _ => rfl, fun a u e => by
        show upd g.tr D0 (.lst ws) a = some u
        rw [upd_ne (fun z => by rw [z, tD] at e; cases e)]
        exact e⟩
      refine q { g with tr := upd g.tr D0 (.lst ws) } H (.ref D0) ⟨o.len, o.io, fun a u e => gx.tr a u (o.tr a u e), o.dm, o.fr, fun a u e nt t nl => ?_, o.old, o.new⟩ ⟨fun a u e => ?_, fun n ln => ?_, fun n ce e => (S.cell n ce e).mono gx (Nat.le_refl _) rfl, S.inj, S.tabs, nt_upd S.nt (by intro ps z; cases z)⟩ (.lst upd_same (rs.mono gx (Nat.le_refl _)))
      · show upd g.tr D0 (.lst ws) a = none
        rw [upd_ne (ne_of_none e nD)]
        exact o.tn a u e nt t nl
      · have e : upd g.tr D0 (.lst ws) a = some u := e
        by_cases z : a = D0
        · rw [z, upd_same] at e
          rw [z, hD]
          exact e
        · rw [upd_ne z] at e
          exact S.sub a u e
      · show upd g.tr D0 (.lst ws) (g.io n) = none
        rw [upd_ne (nlD n ln)]
        exact S.apart n ln
    | true =>
      have q : RP c (Rv c) g1 h1 H1 (.ok (.ref h.length) (h ++ [some (.lst acc)])) Q _ := q
      have gx : Gx g h.length (g.push h.length D0) := ⟨fun n hn => by
        show (if n = h.length then D0 else g.io n) = g.io n
        rw [if_neg (Nat.ne_of_lt hn)], fun _ _ e => e⟩
      have ioL : (g.push h.length D0).io h.length = D0 := by
        show (if h.length = h.length then D0 else _) = D0
        rw [if_pos rfl]
      have io : ∀ n, Live h n → (g.push h.length D0).io n = g.io n := fun n l => gx.io n l.lt
      have q2 := q (g.push h.length D0) H (.ref ((g.push h.length D0).io h.length)) ⟨by rw [List.length_append]; exact Nat.le_trans o.len (Nat.le_add_right _ _), fun n hn => (gx.io n (Nat.lt_of_lt_of_le hn o.len)).trans (o.io n hn), o.tr, o.dm, o.fr, o.tn, fun n hn ln => ?_, fun n hn ln => ?_⟩
        ⟨S.sub, fun n ln => ?_, fun n ce e => ?_, fun n k l1 l2 e => ?_, S.tabs, S.nt⟩ (.ref (by simp))
      · rw [ioL] at q2
        exact q2
      · rcases live_push ln with l | rfl
        · exact o.old n hn l
        · exact absurd hn (Nat.not_lt.mpr o.len)
      · rcases live_push ln with l | rfl
        · rw [io n l]
          exact o.new n hn l
        · intro o e
          rw [ioL, nD] at e
          cases e
      · show g.tr _ = none
        rcases live_push ln with l | rfl
        · rw [io n l]
          exact S.apart n l
        · rw [ioL]
          exact tD
      · rcases live_push ⟨ce, e⟩ with l | rfl
        · rw [List.getElem?_append_left l.lt] at e
          rw [io n l]
          exact (S.cell n ce e).mono gx (by simp) rfl
        · have e2 : ce = .lst acc := by simpa using e.symm
          rw [e2, ioL]
          exact ⟨ws, hD, rs.mono gx (by simp)⟩
      · rcases live_push l1 with l1 | rfl <;> rcases live_push l2 with l2 | rfl
        · rw [io n l1, io k l2] at e
          exact S.inj n k l1 l2 e
        · rw [io n l1, ioL] at e
          exact absurd e (nlD n l1)
        · rw [io k l2, ioL] at e
          exact absurd e.symm (nlD k l2)
        · rfl
theorem PTs.imp {es : List Expr} {t t' : TT} (p : PTs X es t) (k : ∀ σ H Q, t' σ H Q → t σ H Q) : PTs X es t' := ⟨fun pins s σ H Q I h => p.run pins s σ H Q I (k σ H Q h)⟩
def cYes : Ev Bool := fun _ h => .ok true h
theorem ts_nil : PTs X [] (tTe c W cYes) := PTs.imp pts_nil fun σ H Q ⟨st, h, g, S, sl, q⟩ => RP.ok_here (α := Bool) (β := Bool) (R := Rb) q S rfl
theorem ts_one {t : Expr} {ft : Ev Bool} (h : PT X t (tTe c W ft)) : PTs X [t] (tTe c W ft) := pts_one h
theorem e_lc {m : Bool} {elt iter : Expr} {ifs : List Expr} {scope : Scope} {own : List (Str × Nat)} {gt : TG} {fi : Ev (List D)} {fg : D → Slots → Option Slots} {ft : Ev Bool} {fe : Ev D} (hc : X.calm = true) (hN : X.N.Nodup) (hi : PI X tg iter (tIt c W fi)) (ok : BlkOk X.N X.env.scope scope own)
    (hg : ∀ (s : Shared) (H : Hp) (C : Addr) (cl : List (Str × Addr)) (fp : List Addr), PG (X.blk s H scope (compEnvC scope cl C X.env) fp) tg gt) (tgn : TgN c (own.map (·.2)) gt fg)
    (ht : ∀ (s : Shared) (H : Hp) (C : Addr) (cl : List (Str × Addr)) (fp : List Addr), PTs (X.blk s H scope (compEnvC scope cl C X.env) fp) ifs (tTe c W0 ft))
    (he : ∀ (s : Shared) (H : Hp) (C : Addr) (cl : List (Str × Addr)) (fp : List Addr), PE (X.blk s H scope (compEnvC scope cl C X.env) fp) elt (tEv c W0 fe)) (hs : ∀ x, foldedSetIterable iter X.env x = pure x := by intro _; rfl) :
    PE X (.ListComp elt [⟨tg, iter, ifs, 0⟩] scope pos) (tEv c W (cLc m fi fg ft fe (own.map (·.2)))) := PE.imp (pe_lc hc hN hi ok hg ht he hs) fun σ H Q x => lc_ok tgn x
/-- name = [..] -/
theorem s_setLc {m : Bool} {i : Nat} {y : Str} {py spos : Pos} {elt iter : Expr} {ifs : List Expr} {scope : Scope} {own : List (Str × Nat)} {gt : TG} {fi : Ev (List D)} {fg : D → Slots → Option Slots} {ft : Ev Bool} {fe : Ev D} (hc : X.calm = true) (hN : X.N.Nodup) (hy : X.N[i]? = some y) (hyl : X.env.scope.names.lookup y = some .local)
    (hsw : swapsWith (.ListComp elt [⟨tg, iter, ifs, 0⟩] scope pos) (some (.Name y py)) spos.line X.env = pure true) (hi : PI X tg iter (tIt c W fi)) (ok : BlkOk X.N X.env.scope scope own)
    (hg : ∀ (s : Shared) (H : Hp) (C : Addr) (cl : List (Str × Addr)) (fp : List Addr), PG (X.blk s H scope (compEnvC scope cl C X.env) fp) tg gt) (tgn : TgN c (own.map (·.2)) gt fg)
    (ht : ∀ (s : Shared) (H : Hp) (C : Addr) (cl : List (Str × Addr)) (fp : List Addr), PTs (X.blk s H scope (compEnvC scope cl C X.env) fp) ifs (tTe c W0 ft))
    (he : ∀ (s : Shared) (H : Hp) (C : Addr) (cl : List (Str × Addr)) (fp : List Addr), PE (X.blk s H scope (compEnvC scope cl C X.env) fp) elt (tEv c W0 fe)) (hs : ∀ x, foldedSetIterable iter X.env x = pure x := by intro _; rfl) :
    PS X (.Assign [.Name y py] (.ListComp elt [⟨tg, iter, ifs, 0⟩] scope pos) spos) (tSt c W (sSet i (cLc m fi fg ft fe (own.map (·.2))))) := PS.imp (ps_setLc hc hN hy hyl hsw hi ok hg ht he hs) fun D σ H ⟨st, h, g, S, sl, q⟩ => by
  show tLc _ _ _ _ _ σ H (fun x H1 => gName i x σ H1 D.nx)
  exact lc_ok (m := m) tgn ⟨st, h, g, S, sl, RP.mono (OP.out sl q) fun v H1 ⟨d, h1, g1, o1, S1, r1, q1⟩ => q1 g1 H1 _ (Go.refl _ _ _) S1 ((sl.go o1).set i r1)⟩
end
end Gm

/-! Gm6: built-ins, methods, subscripts, slices. -/
namespace Gm
open PySem PySem.Spec PyProof.Rows L2

/-! ### calls by values -/
abbrev CallT := List D → Store → Res D
def CROk (c : Cf) (r : List V → Hp → VK → Prop) (F : CallT) : Prop :=
  ∀ g h H ds vs Q E, SR c g h H → RVs c g h.length ds vs → RP c (Rv c) g h H (F ds h) Q E → r vs H Q
def cB (F : CallT) (fs : Ev (List D)) : Ev D := fun st h => (fs st h).bind F
section
variable {c : Cf} {W : WX} {X : Cx} {e : Expr} {es : List Expr} {fs : Ev (List D)} {x : Str} {p pos : Pos} {id T : String} {r r' : List V → Hp → VK → Prop} {F : CallT}
theorem CROk.orL (k : CROk c r F) : CROk c (fun xs H Q => r xs H Q ∨ r' xs H Q) F := fun g h H ds vs Q E S rs q => .inl (k g h H ds vs Q E S rs q)
theorem crB {σ : L2.St} {H : Hp} {Q : VK} (k : CROk c r F) (q : tEv c W (cB F fs) σ H Q) : tCB r (tAr c W fs) σ H Q := by
  obtain ⟨st, h, g, S, sl, q⟩ := q
  exact ⟨st, h, g, S, sl, RP.mono (RP.bind q) fun vs H1 ⟨ds, h1, g1, o1, S1, r1, q1⟩ => k g1 h1 H1 ds vs Q _ S1 r1 q1⟩
theorem e_cb (hc : CallR X (.builtin id) r) (k : CROk c r F) (hg : Gl X x) (hm : X.mg x = none) (hv : bootBuiltins x = some (.builtin id)) (ha : PA X (e :: es) (tAr c W fs)) (hn : x ≠ "__name__" := by decide) (hdb : (x == ("__debug__" : Str)) = false := by decide)
    (he : starEach (e :: es) X.env = (false, eval e X.env) :: starEach es X.env := by rfl) (hpl : (backTo pos (starEach es X.env)).any (·.1) = false := by rfl) : PE X (.Call (.Name x p) (e :: es) [] pos) (tEv c W (cB F fs)) := PE.imp (pe_callB hc hg hm hv ha hn hdb he hpl) fun _ _ _ => crB k
theorem e_ct (hc : CallR X (.type T) r) (k : CROk c r F) (hg : Gl X x) (hm : X.mg x = none) (hv : bootBuiltins x = some (.type T)) (ha : PA X (e :: es) (tAr c W fs)) (hn : x ≠ "__name__" := by decide) (hdb : (x == ("__debug__" : Str)) = false := by decide)
    (he : starEach (e :: es) X.env = (false, eval e X.env) :: starEach es X.env := by rfl) (hpl : (backTo pos (starEach es X.env)).any (·.1) = false := by rfl) : PE X (.Call (.Name x p) (e :: es) [] pos) (tEv c W (cB F fs)) := PE.imp (pe_callTy hc hg hm hv ha hn hdb he hpl) fun _ _ _ => crB k
end

/-! ### len, list, sum, all, any, str -/
section
variable {c : Cf} {X : Cx}
def fLen : CallT := fun ds h => match ds with
  | [.str z] => if z.length ≤ sizeLine then .ok (.int z.length) h else .no
  | [.tup l] => .ok (.int l.length) h
  | [d] => match asR h d with
    | some l => .ok (.int l.length) h
    | none => .no
  | _ => .no
def rLen (K : PySem.W.Frag) : List V → Hp → VK → Prop := fun xs H Q => (∃ p ys, xs = [.ref p] ∧ (SqL K H p ys ∨ SqT K H p ys) ∧ Q (.int ys.length) H) ∨ ∃ z, xs = [.str z] ∧ z.length ≤ sizeLine ∧ Q (.int z.length) H
theorem rLen_ok : CallR X (.builtin "len") (rLen X.K) := CallR.or call_len_seq call_len_str
theorem fLen_ok : CROk c (rLen c.K) fLen := by
  intro g h H ds vs Q E S rs q
  unfold fLen at q
  split at q
  · rename_i z
    cases rs with
    | cons r rr =>
      cases rr
      cases r
      by_cases hz : z.length ≤ sizeLine
      · rw [if_pos hz] at q
        exact .inr ⟨z, rfl, hz, RP.ok_here q S (.int _)⟩
      · rw [if_neg hz] at q
        exact q.elim
  · rename_i l
    cases rs with
    | cons r rr =>
      cases rr
      obtain ⟨a, vs, rfl, hq, r2⟩ := RV.tup' S r
      exact .inl ⟨a, vs, rfl, .inr hq, by rw [← r2.length]; exact RP.ok_here q S (.int _)⟩
  · rename_i d _ _
    split at q
    · rename_i l el
      cases rs with
      | cons r rr =>
        cases rr
        obtain ⟨a, vs, rfl, hq, r2⟩ := asR_ok S r el
        exact .inl ⟨a, vs, rfl, .inl hq, by rw [← r2.length]; exact RP.ok_here q S (.int _)⟩
    · exact q.elim
  · exact q.elim
/-- list(xs) of a list or a tuple -/
def fList (m : Bool) : CallT := fun ds h => match ds with
  | [.tup l] => alloc m l h
  | [d] => match asR h d with
    | some l => alloc m l h
    | none => .no
  | _ => .no
theorem fList_ok {m : Bool} : CROk c (fun xs H Q => ∃ p ys, xs = [.ref p] ∧ (SqL c.K H p ys ∨ SqT c.K H p ys) ∧ ∀ l, H l = none → Q (.ref l) (upd H l (.lst ys))) (fList m) := by
  intro g h H ds vs Q E S rs q
  unfold fList at q
  split at q
  · rename_i l
    cases rs with
    | cons r rr =>
      cases rr
      obtain ⟨a, vs, rfl, hq, r2⟩ := RV.tup' S r
      exact ⟨a, vs, rfl, .inr hq, alloc_ok S r2 q⟩
  · rename_i d _
    split at q
    · rename_i l el
      cases rs with
      | cons r rr =>
        cases rr
        obtain ⟨a, vs, rfl, hq, r2⟩ := asR_ok S r el
        exact ⟨a, vs, rfl, .inl hq, alloc_ok S r2 q⟩
    · exact q.elim
  · exact q.elim
/-- the ints, the truths of a list -/
def intsOf : List D → Option (List Int)
  | [] => some []
  | .int i :: l => (intsOf l).map (i :: ·)
  | _ => none
theorem intsOf_ok {g : Gh} {L : Nat} : ∀ {l : List D} {vs : List V} {ns : List Int}, RVs c g L l vs → intsOf l = some ns → vs = ns.map V.int
  | [], _, _, .nil, e => by cases e; rfl
  | d :: l, _, ns, .cons r rs, e => by
    cases r with
    | int i =>
      have e : (intsOf l).map (i :: ·) = some ns := e
      cases e2 : intsOf l with
      | none => rw [e2] at e; cases e
      | some ms =>
        rw [e2] at e
        cases e
        rw [intsOf_ok rs e2]
        rfl
    | _ => cases e
def boolsOf : List D → Option (List Bool)
  | [] => some []
  | .bl i :: l => (boolsOf l).map (i :: ·)
  | _ => none
theorem boolsOf_ok {g : Gh} {L : Nat} : ∀ {l : List D} {vs : List V} {ns : List Bool}, RVs c g L l vs → boolsOf l = some ns → vs = ns.map V.bl
  | [], _, _, .nil, e => by cases e; rfl
  | d :: l, _, ns, .cons r rs, e => by
    cases r with
    | bl i =>
      have e : (boolsOf l).map (i :: ·) = some ns := e
      cases e2 : boolsOf l with
      | none => rw [e2] at e; cases e
      | some ms =>
        rw [e2] at e
        cases e
        rw [boolsOf_ok rs e2]
        rfl
    | _ => cases e
def strsOf : List D → Option (List Str)
  | [] => some []
  | .str i :: l => (strsOf l).map (i :: ·)
  | _ => none
theorem strsOf_ok {g : Gh} {L : Nat} : ∀ {l : List D} {vs : List V} {ns : List Str}, RVs c g L l vs → strsOf l = some ns → vs = ns.map V.str
  | [], _, _, .nil, e => by cases e; rfl
  | d :: l, _, ns, .cons r rs, e => by
    cases r with
    | str i =>
      have e : (strsOf l).map (i :: ·) = some ns := e
      cases e2 : strsOf l with
      | none => rw [e2] at e; cases e
      | some ms =>
        rw [e2] at e
        cases e
        rw [strsOf_ok rs e2]
        rfl
    | _ => cases e
/-- a built-in of one list, by its items -/
def fOf1 {α : Type} (of : List D → Option α) (k : α → D) : CallT := fun ds h => match ds with
  | [d] => match asR h d with
    | some l => match of l with
      | some x => .ok (k x) h
      | none => .no
    | none => .no
  | _ => .no
theorem fOf1_ok {α : Type} {of : List D → Option α} {k : α → D} {kv : α → V} {mk : α → List V} (h1 : ∀ {g L l vs x}, RVs c g L l vs → of l = some x → vs = mk x) (h2 : ∀ g L x, RV c g L (k x) (kv x)) :
    CROk c (fun xs H Q => ∃ (a : Addr) (x : α), xs = [V.ref a] ∧ SqL c.K H a (mk x) ∧ Q (kv x) H) (fOf1 of k) := by
  intro g h H ds vs Q E S rs q
  unfold fOf1 at q
  split at q
  · rename_i d
    split at q
    · rename_i l el
      split at q
      · rename_i x ex
        cases rs with
        | cons r rr =>
          cases rr
          obtain ⟨a, vs, rfl, hq, r2⟩ := asR_ok S r el
          have ev := h1 r2 ex
          subst ev
          exact ⟨a, x, rfl, hq, RP.ok_here q S (h2 _ _ _)⟩
      · exact q.elim
    · exact q.elim
  · exact q.elim
def fSum : CallT := fOf1 intsOf fun ns => .int ns.sum
theorem fSum_ok : CROk c (rSum c.K) fSum := fOf1_ok (mk := fun ns => ns.map V.int) (kv := fun ns => V.int ns.sum) (fun rs e => intsOf_ok rs e) fun _ _ _ => .int _
def fAll : CallT := fOf1 boolsOf fun ns => .bl (ns.all id)
theorem fAll_ok : CROk c (rAll c.K) fAll := fOf1_ok (mk := fun ns => ns.map V.bl) (kv := fun ns => V.bl (ns.all id)) (fun rs e => boolsOf_ok rs e) fun _ _ _ => .bl _
def fAny : CallT := fOf1 boolsOf fun ns => .bl (ns.any id)
theorem fAny_ok : CROk c (rAny c.K) fAny := fOf1_ok (mk := fun ns => ns.map V.bl) (kv := fun ns => V.bl (ns.any id)) (fun rs e => boolsOf_ok rs e) fun _ _ _ => .bl _
/-- str(n) -/
def fStrI : CallT := fun ds h => match ds with
  | [.int i] => if i.natAbs.log2 < 1920 then .ok (.str (toString i)) h else .no
  | _ => .no
theorem fStrI_ok : CROk c (fun xs H Q => ∃ i : Int, xs = [.int i] ∧ i.natAbs.log2 < 1920 ∧ Q (.str (toString i)) H) fStrI := by
  intro g h H ds vs Q E S rs q
  unfold fStrI at q
  split at q
  · rename_i i
    cases rs with
    | cons r rr =>
      cases rr
      cases r
      by_cases hz : i.natAbs.log2 < 1920
      · rw [if_pos hz] at q
        exact ⟨i, rfl, hz, RP.ok_here q S (.str _)⟩
      · rw [if_neg hz] at q
        exact q.elim
  · exact q.elim
end

/-! ### methods -/
abbrev MethT := D → List D → Store → Res D
def MROk (c : Cf) (r : V → List V → Hp → VK → Prop) (F : MethT) : Prop :=
  ∀ g h H d v ds vs Q E, SR c g h H → RV c g h.length d v → RVs c g h.length ds vs → RP c (Rv c) g h H (F d ds h) Q E → r v vs H Q
def cM (F : MethT) (fo : Ev D) (fs : Ev (List D)) : Ev D := fun st h => (fo st h).bind fun d h1 => (fs st h1).bind fun ds h2 => F d ds h2
/-- the type whose methods are asked -/
def isTy (T : String) (h : Store) : D → Bool
  | .str _ => T == "str"
  | .lst _ => T == "list"
  | .fro _ => T == "list"
  | .tup _ => T == "tuple"
  | .dct _ => T == "dict"
  | .ref n => match h[n]? with
    | some (some (.lst _)) => T == "list"
    | some (some (.dct _)) => T == "dict"
    | _ => false
  | _ => false
def cMt (T : String) (F : MethT) (fo : Ev D) (fs : Ev (List D)) : Ev D := fun st h => (fo st h).bind fun d h1 => if isTy T h1 d = true then (fs st h1).bind fun ds h2 => F d ds h2 else .no
section
variable {c : Cf} {W : WX} {X : Cx} {e o : Expr} {es : List Expr} {fs : Ev (List D)} {fo : Ev D} {pos apos cpos : Pos} {name : Str} {id T : String} {r : V → List V → Hp → VK → Prop} {F : MethT}
theorem isTy_ok {g : Gh} {h : Store} {H : Hp} {d : D} {v : V} (hT : T ≠ "tuple") (S : SR c g h H) (rv : RV c g h.length d v) (e : isTy T h d = true) : tyV c.K T v H := by
  cases rv with
  | str x => exact beq_iff_eq.mp e
  | lst h1 r => exact .inl ⟨beq_iff_eq.mp e, _, .inl (.inl (S.sub _ _ h1))⟩
  | fro h1 r => exact .inl ⟨beq_iff_eq.mp e, _, SqL.sub S.sub h1⟩
  | tup h1 r => exact absurd (beq_iff_eq.mp e) hT
  | dct h1 r => exact .inr (.inr (.inl ⟨beq_iff_eq.mp e, .inl ⟨_, S.sub _ _ h1⟩⟩))
  | @ref n hn =>
    have e : (match h[n]? with
      | some (some (.lst _)) => T == "list"
      | some (some (.dct _)) => T == "dict"
      | _ => false) = true := e
    split at e
    · rename_i l e1
      obtain ⟨vs, e2, _⟩ := S.cell n _ e1
      exact .inl ⟨beq_iff_eq.mp e, _, .inl (.inl e2)⟩
    · rename_i l e1
      obtain ⟨vs, e2, _⟩ := S.cell n _ e1
      exact .inr (.inr (.inl ⟨beq_iff_eq.mp e, .inl ⟨_, e2⟩⟩))
    · cases e
  | _ => cases e
theorem e_m (hK : c.K = X.K) (hT : T ≠ "tuple") (pa : PlainAttrs T) (slot : Slot T name id) (hty : typeOf (.builtin id) = pure (.type "method_descriptor")) (hm : MtR X id r) (k : MROk c r F) (ho : PE X o (tEv c W fo)) (ha : PA X (e :: es) (tAr c W fs))
    (hb : attributeBase o name X.env (eval o X.env) = eval o X.env := by rfl) (hs : (((((backTo cpos (starEach (e :: es) X.env)).all fun x => !x.1) && (backToKw cpos (keywordEach [] X.env)).all fun x => x.1.isSome) && decide (((e :: es).length + ([] : List Keyword).length + if ([] : List Keyword).isEmpty = true then 0 else 1) < 30)) = true) := by rfl)
    (hl : (apos.endLine == cpos.line) = true := by rfl) (he : starEach (e :: es) X.env = (false, eval e X.env) :: starEach es X.env := by rfl) (hp : ((backTo cpos (starEach es X.env)).any (·.1)) = false := by rfl) :
    PE X (.Call (.Attribute o name apos) (e :: es) [] cpos) (tEv c W (cMt T F fo fs)) := PE.imp (pe_bm pa slot hty hm ho ha hb hs hl he hp) fun σ H Q ⟨st, h, g, S, sl, q⟩ => by
  refine ⟨st, h, g, S, sl, RP.mono (RP.bind q) fun v H1 ⟨d, h1, g1, o1, S1, r1, q1⟩ => ?_⟩
  by_cases ht : isTy T h1 d = true
  · rw [if_pos ht] at q1
    refine ⟨by rw [← hK]; exact isTy_ok hT S1 r1 ht, st, h1, g1, S1, sl.go o1, RP.mono (RP.bind q1) fun vs H2 ⟨ds, h2, g2, o2, S2, r2, q2⟩ => ?_⟩
    exact k g2 h2 H2 d v ds vs Q _ S2 (r1.mono o2.gx o2.len) r2 q2
  · rw [if_neg ht] at q1
    exact q1.elim
theorem e_m0 (hK : c.K = X.K) (hT : T ≠ "tuple") (pa : PlainAttrs T) (slot : Slot T name id) (hty : typeOf (.builtin id) = pure (.type "method_descriptor")) (hm : MtR X id r) (k : MROk c r F) (P : ∀ {to : TE}, PE X o to → PE X (.Call (.Attribute o name apos) [] [] cpos) (tBM0 X.K T r to)) (ho : PE X o (tEv c W fo)) :
    PE X (.Call (.Attribute o name apos) [] [] cpos) (tEv c W (cMt T F fo cNil)) := PE.imp (P ho) fun σ H Q ⟨st, h, g, S, sl, q⟩ => by
  refine ⟨st, h, g, S, sl, RP.mono (RP.bind q) fun v H1 ⟨d, h1, g1, o1, S1, r1, q1⟩ => ?_⟩
  by_cases ht : isTy T h1 d = true
  · rw [if_pos ht] at q1
    exact ⟨by rw [← hK]; exact isTy_ok hT S1 r1 ht, k g1 h1 H1 d v [] [] Q _ S1 r1 .nil q1⟩
  · rw [if_neg ht] at q1
    exact q1.elim

/-! ### lists' methods -/
/-- a cell that holds a list -/
def cellL (h : Store) : D → Option (Nat × List D)
  | .ref n => match h[n]? with
    | some (some (.lst l)) => some (n, l)
    | _ => none
  | _ => none
theorem cellL_ok {g : Gh} {h : Store} {H : Hp} {d : D} {v : V} {n : Nat} {l : List D} (S : SR c g h H) (r : RV c g h.length d v) (e : cellL h d = some (n, l)) : v = .ref (g.io n) ∧ h[n]? = some (some (.lst l)) ∧ ∃ vs, H (g.io n) = some (.lst vs) ∧ RVs c g h.length l vs := by
  cases r with
  | @ref m hm =>
    have e : (match h[m]? with
      | some (some (.lst l)) => some (m, l)
      | _ => none) = some (n, l) := e
    split at e
    · rename_i l' e2
      cases e
      obtain ⟨vs, q, r⟩ := S.cell _ _ e2
      exact ⟨rfl, e2, vs, q, r⟩
    · cases e
  | _ => cases e
def mAppend : MethT := fun d ds h => match cellL h d, ds with
  | some (n, l), [y] => if l.length < sizeLine then .ok .non (h.set n (some (.lst (l ++ [y])))) else .no
  | _, _ => .no
/-- a cell's list is changed -/
theorem cell_set {g : Gh} {h : Store} {H : Hp} {n : Nat} {l l' : List D} {vs' : List V} {Q : VK} {E : XK} {d : D} {v : V} (S : SR c g h H) (hn : h[n]? = some (some (.lst l))) (r : RVs c g h.length l' vs') (rv : RV c g h.length d v)
    (q : RP c (Rv c) g h H (.ok d (h.set n (some (.lst l')))) Q E) : Q v (upd H (g.io n) (.lst vs')) := by
  obtain ⟨S1, o1⟩ := S.write (o := .lst vs') (ce' := .lst l') hn ⟨vs', upd_same, r⟩
  exact q g _ v o1 S1 (by rw [List.length_set]; exact rv)
theorem mAppend_ok : MROk c rAppend mAppend := by
  intro g h H d v ds vs Q E S rv rs q
  unfold mAppend at q
  split at q
  · rename_i n l y e
    obtain ⟨rfl, e1, ws, e2, r2⟩ := cellL_ok S rv e
    cases rs with
    | cons r rr =>
      cases rr
      by_cases hl : l.length < sizeLine
      · rw [if_pos hl] at q
        exact ⟨_, ws, _, rfl, rfl, e2, by rw [← r2.length]; exact hl, cell_set S e1 (r2.append (.cons r .nil)) .non q⟩
      · rw [if_neg hl] at q
        exact q.elim
  · exact q.elim
/-- xs.pop(i) -/
def mPopAt : MethT := fun d ds h => match cellL h d, ds with
  | some (n, l), [.int i] => if -(2 ^ 63) ≤ i ∧ i < 2 ^ 63 then match seqIndex? i l.length with
      | some k => match l[k]? with
        | some y => .ok y (h.set n (some (.lst (l.eraseIdx k))))
        | none => .no
      | none => .no
    else .no
  | _, _ => .no
theorem mPopAt_ok : MROk c rPopAt mPopAt := by
  intro g h H d v ds vs Q E S rv rs q
  unfold mPopAt at q
  split at q
  · rename_i n l i e
    obtain ⟨rfl, e1, ws, e2, r2⟩ := cellL_ok S rv e
    cases rs with
    | cons r rr =>
      cases rr
      cases r
      by_cases hi : -(2 ^ 63) ≤ i ∧ i < 2 ^ 63
      · rw [if_pos hi] at q
        split at q
        · rename_i k ek
          split at q
          · rename_i y ey
            obtain ⟨w, ew, rw'⟩ := r2.get ey
            exact ⟨_, ws, i, k, w, rfl, rfl, e2, hi.1, hi.2, by rw [← r2.length]; exact ek, ew, cell_set S e1 (r2.eraseIdx k) rw' q⟩
          · exact q.elim
        · exact q.elim
      · rw [if_neg hi] at q
        exact q.elim
  · exact q.elim
/-- flat data as a value -/
def D.flat : D → Option V
  | .non => some .non
  | .bl b => some (.bl b)
  | .int i => some (.int i)
  | .str x => some (.str x)
  | _ => none
theorem flat_ok {g : Gh} {L : Nat} {d : D} {v w : V} (r : RV c g L d v) (e : d.flat = some w) : w = v ∧ flatV v = true := by
  cases r <;> first | (cases e; exact ⟨rfl, rfl⟩) | cases e
def flats : List D → Option (List V)
  | [] => some []
  | d :: l => match d.flat, flats l with
    | some v, some vs => some (v :: vs)
    | _, _ => none
theorem flats_ok {g : Gh} {L : Nat} : ∀ {l : List D} {vs ws : List V}, RVs c g L l vs → flats l = some ws → ws = vs ∧ vs.all flatV = true
  | [], _, _, .nil, e => by cases e; exact ⟨rfl, rfl⟩
  | d :: l, _, ws, .cons r rs, e => by
    unfold flats at e
    split at e
    · rename_i v vs' e1 e2
      cases e
      obtain ⟨rfl, f1⟩ := flat_ok r e1
      obtain ⟨rfl, f2⟩ := flats_ok rs e2
      exact ⟨rfl, by rw [List.all_cons, f1, f2]; rfl⟩
    · cases e
/-- the first place that is == y -/
def firstAt (y : V) : List V → Option Nat
  | [] => none
  | z :: l => if eqV z y = true then some 0 else (firstAt y l).map (· + 1)
theorem firstAt_ok {y : V} : ∀ {l : List V} {j : Nat}, firstAt y l = some j → (∃ z, l[j]? = some z ∧ eqV z y = true) ∧ ∀ (m : Nat) (z' : V), m < j → l[m]? = some z' → eqV z' y = false
  | [], j, e => by cases e
  | z :: l, j, e => by
    unfold firstAt at e
    by_cases h : eqV z y = true
    · rw [if_pos h] at e
      cases e
      exact ⟨⟨z, rfl, h⟩, fun m z' hm => absurd hm (Nat.not_lt_zero m)⟩
    · rw [if_neg h] at e
      cases e2 : firstAt y l with
      | none => rw [e2] at e; cases e
      | some k =>
        rw [e2] at e
        have e : k + 1 = j := by simpa using e
        subst e
        obtain ⟨⟨z2, h1, h2⟩, h3⟩ := firstAt_ok e2
        refine ⟨⟨z2, by simpa using h1, h2⟩, fun m z' hm hz => ?_⟩
        cases m with
        | zero =>
          have hz : z = z' := by simpa using hz
          rw [← hz]
          exact Bool.eq_false_iff.mpr h
        | succ m => exact h3 m z' (by omega) (by simpa using hz)
def mIndex : MethT := fun d ds h => match asR h d, ds with
  | some l, [y] => match y.flat, flats l with
    | some v, some vs => match firstAt v vs with
      | some j => .ok (.int (j : Nat)) h
      | none => .no
    | _, _ => .no
  | _, _ => .no
theorem mIndex_ok : MROk c (rIndex c.K) mIndex := by
  intro g h H d v ds vs Q E S rv rs q
  unfold mIndex at q
  split at q
  · rename_i l y e
    obtain ⟨a, ws, rfl, hq, r2⟩ := asR_ok S rv e
    cases rs with
    | cons r rr =>
      cases rr
      split at q
      · rename_i v1 vs1 e1 e2
        split at q
        · rename_i j ej
          obtain ⟨rfl, f1⟩ := flat_ok r e1
          obtain ⟨rfl, f2⟩ := flats_ok r2 e2
          obtain ⟨⟨z, h1, h2⟩, h3⟩ := firstAt_ok ej
          exact ⟨a, vs1, v1, j, z, rfl, rfl, hq, f1, f2, h1, h2, h3, RP.ok_here q S (.int _)⟩
        · exact q.elim
      · exact q.elim
  · exact q.elim
/-- sep.join(texts) -/
def mJoin : MethT := fun d ds h => match d, ds with
  | .str a, [.tup l] => match strsOf l with
    | some ys => if (ys.map (·.length)).sum + ys.length * a.length ≤ 16777216 then .ok (.str (Txt.join a ys)) h else .no
    | none => .no
  | .str a, [y] => match asR h y with
    | some l => match strsOf l with
      | some ys => if (ys.map (·.length)).sum + ys.length * a.length ≤ 16777216 then .ok (.str (Txt.join a ys)) h else .no
      | none => .no
    | none => .no
  | _, _ => .no
theorem mJoin_ok : MROk c (fun x xs H Q => ∃ a p, ∃ ys : List Str, x = .str a ∧ xs = [.ref p] ∧ (SqL c.K H p (ys.map V.str) ∨ SqT c.K H p (ys.map V.str)) ∧ (ys.map (·.length)).sum + ys.length * a.length ≤ 16777216 ∧ Q (.str (Txt.join a ys)) H) mJoin := by
  intro g h H d v ds vs Q E S rv rs q
  unfold mJoin at q
  split at q
  · rename_i a l
    cases rv
    cases rs with
    | cons r rr =>
      cases rr
      obtain ⟨p, ws, rfl, hq, r2⟩ := RV.tup' S r
      split at q
      · rename_i ys ey
        have ew := strsOf_ok r2 ey
        subst ew
        by_cases hz : (ys.map (·.length)).sum + ys.length * a.length ≤ 16777216
        · rw [if_pos hz] at q
          exact ⟨a, p, ys, rfl, rfl, .inr hq, hz, RP.ok_here q S (.str _)⟩
        · rw [if_neg hz] at q
          exact q.elim
      · exact q.elim
  · rename_i a y _
    cases rv
    cases rs with
    | cons r rr =>
      cases rr
      split at q
      · rename_i l el
        obtain ⟨p, ws, rfl, hq, r2⟩ := asR_ok S r el
        split at q
        · rename_i ys ey
          have ew := strsOf_ok r2 ey
          subst ew
          by_cases hz : (ys.map (·.length)).sum + ys.length * a.length ≤ 16777216
          · rw [if_pos hz] at q
            exact ⟨a, p, ys, rfl, rfl, .inl hq, hz, RP.ok_here q S (.str _)⟩
          · rw [if_neg hz] at q
            exact q.elim
        · exact q.elim
      · exact q.elim
  · exact q.elim

/-! ### in, not in -/
def inD (h : Store) (x y : D) : Option Bool := match x, y with
  | .str i, .str j => some (!(Builtin.Str.occurrences j i 0 j.length 1).isEmpty)
  | x, .tup l => match x.flat, flats l with
    | some v, some vs => some (inV v vs)
    | _, _ => none
  | x, y => match asR h y with
    | some l => match x.flat, flats l with
      | some v, some vs => some (inV v vs)
      | _, _ => none
    | none => none
def oIn (x y : D) (h : Store) : Res D := match inD h x y with
  | some b => .ok (.bl b) h
  | none => .no
def oNotIn (x y : D) (h : Store) : Res D := match inD h x y with
  | some b => .ok (.bl (!b)) h
  | none => .no
theorem inD_ok {g : Gh} {h : Store} {H : Hp} {x y : D} {v w : V} {b : Bool} (S : SR c g h H) (r1 : RV c g h.length x v) (r2 : RV c g h.length y w) (e : inD h x y = some b) :
    (∃ p xs, w = .ref p ∧ (SqL c.K H p xs ∨ SqT c.K H p xs) ∧ flatV v = true ∧ xs.all flatV = true ∧ inV v xs = b) ∨ ∃ i j, v = .str i ∧ w = .str j ∧ (!(Builtin.Str.occurrences j i 0 j.length 1).isEmpty) = b := by
  unfold inD at e
  split at e
  · cases r1; cases r2; cases e; exact .inr ⟨_, _, rfl, rfl, rfl⟩
  · split at e
    · rename_i v1 vs1 e1 e2
      cases e
      obtain ⟨p, ws, rfl, hq, r3⟩ := RV.tup' S r2
      obtain ⟨rfl, f1⟩ := flat_ok r1 e1
      obtain ⟨rfl, f2⟩ := flats_ok r3 e2
      exact .inl ⟨p, vs1, rfl, .inr hq, f1, f2, rfl⟩
    · cases e
  · split at e
    · rename_i l el
      split at e
      · rename_i v1 vs1 e1 e2
        cases e
        obtain ⟨p, ws, rfl, hq, r3⟩ := asR_ok S r2 el
        obtain ⟨rfl, f1⟩ := flat_ok r1 e1
        obtain ⟨rfl, f2⟩ := flats_ok r3 e2
        exact .inl ⟨p, vs1, rfl, .inl hq, f1, f2, rfl⟩
      · cases e
    · cases e
theorem oIn_ok : R2Ok c (fun x y H Q => rIn c.K false x y H Q ∨ (∃ i j, x = .str i ∧ y = .str j ∧ Q (.bl (!(Builtin.Str.occurrences j i 0 j.length 1).isEmpty)) H)) oIn := by
  intro g h H d1 v1 d2 v2 Q E S r1 r2 q
  unfold oIn at q
  cases e : inD h d1 d2 with
  | none => rw [e] at q; exact q.elim
  | some b =>
    rw [e] at q
    have q2 : Q (.bl b) H := RP.ok_here q S (.bl b)
    rcases inD_ok S r1 r2 e with ⟨p, xs, e1, e2, e3, e4, e5⟩ | ⟨i, j, e1, e2, e3⟩
    · exact .inl ⟨p, xs, e1, e2, e3, e4, by rw [if_neg Bool.false_ne_true, e5]; exact q2⟩
    · exact .inr ⟨i, j, e1, e2, by rw [e3]; exact q2⟩
theorem oNotIn_ok : R2Ok c (fun x y H Q => rIn c.K true x y H Q ∨ (∃ i j, x = .str i ∧ y = .str j ∧ Q (.bl (!(!(Builtin.Str.occurrences j i 0 j.length 1).isEmpty))) H)) oNotIn := by
  intro g h H d1 v1 d2 v2 Q E S r1 r2 q
  unfold oNotIn at q
  cases e : inD h d1 d2 with
  | none => rw [e] at q; exact q.elim
  | some b =>
    rw [e] at q
    have q2 : Q (.bl (!b)) H := RP.ok_here q S (.bl _)
    rcases inD_ok S r1 r2 e with ⟨p, xs, e1, e2, e3, e4, e5⟩ | ⟨i, j, e1, e2, e3⟩
    · exact .inl ⟨p, xs, e1, e2, e3, e4, by rw [if_pos rfl, e5]; exact q2⟩
    · exact .inr ⟨i, j, e1, e2, by rw [e3]; exact q2⟩

/-! ### a + b, a * b of any kind -/
def oAdd (m : Bool) (x y : D) (h : Store) : Res D := match x, y with
  | .int i, .int j => .ok (.int (i + j)) h
  | .str i, .str j => if i.length + j.length ≤ sizeLine then .ok (.str (i ++ j)) h else .no
  | x, y => match asL h x, asL h y with
    | some l, some k => if l.length + k.length ≤ sizeLine then alloc m (l ++ k) h else .no
    | _, _ => .no
theorem oAdd_ok {m : Bool} : R2Ok c (fun x y H Q => rI0 (fun i j => .int (i + j)) x y H Q ∨ (fun x y H Q => (∃ i j, x = .str i ∧ y = .str j ∧ i.length + j.length ≤ sizeLine ∧ Q (.str (i ++ j)) H) ∨ rCat x y H Q) x y H Q) (oAdd m) := by
  intro g h H d1 v1 d2 v2 Q E S r1 r2 q
  unfold oAdd at q
  split at q
  · rename_i i j
    cases r1; cases r2
    exact .inl ⟨i, j, rfl, rfl, RP.ok_here q S (.int _)⟩
  · rename_i i j
    cases r1; cases r2
    by_cases hz : i.length + j.length ≤ sizeLine
    · rw [if_pos hz] at q
      exact .inr (.inl ⟨i, j, rfl, rfl, hz, RP.ok_here q S (.str _)⟩)
    · rw [if_neg hz] at q
      exact q.elim
  · split at q
    · rename_i l k e1 e2
      obtain ⟨a, vs, rfl, h1, s1⟩ := asL_ok S r1 e1
      obtain ⟨b, ws, rfl, h2, s2⟩ := asL_ok S r2 e2
      by_cases hz : l.length + k.length ≤ sizeLine
      · rw [if_pos hz] at q
        exact .inr (.inr ⟨a, b, vs, ws, rfl, rfl, h1, h2, by rw [← s1.length, ← s2.length]; exact hz, alloc_ok S (s1.append s2) q⟩)
      · rw [if_neg hz] at q
        exact q.elim
    · exact q.elim
theorem b_add {m : Bool} {a b : Expr} {fa fb : Ev D} (ha : PE X a (tEv c W fa)) (hb : PE X b (tEv c W fb)) : PE X (.BinOp a .Add b pos) (tEv c W (cBin (oAdd m) fa fb)) := e_bin (OpR.or op_add (OpR.or op_add_str op_cat)) oAdd_ok ha hb
theorem e_in {a b : Expr} {fa fb : Ev D} (hK : c.K = X.K) (ha : PE X a (tEv c W fa)) (hb : PE X b (tEv c W fb)) (hm : behindInMarks .In b = false := by rfl) : PE X (.Compare a [.In] [b] pos) (tEv c W (cBin oIn fa fb)) := e_cmp (OpR.or op_in_seq op_in_str) (by rw [← hK]; exact oIn_ok) ha hb hm
theorem e_notIn {a b : Expr} {fa fb : Ev D} (hK : c.K = X.K) (ha : PE X a (tEv c W fa)) (hb : PE X b (tEv c W fb)) (hm : behindInMarks .NotIn b = false := by rfl) : PE X (.Compare a [.NotIn] [b] pos) (tEv c W (cBin oNotIn fa fb)) := e_cmp (OpR.or op_notIn_seq L2.op_notIn_str) (by rw [← hK]; exact oNotIn_ok) ha hb hm
theorem t_in {a b : Expr} {fa fb : Ev D} (hK : c.K = X.K) (ha : PE X a (tEv c W fa)) (hb : PE X b (tEv c W fb)) (hm : behindInMarks .In b = false := by rfl) : PT X (.Compare a [.In] [b] pos) (tTe c W (cTv (cBin oIn fa fb))) := t_cmp (OpR.or op_in_seq op_in_str) (by rw [← hK]; exact oIn_ok) ha hb hm
theorem t_notIn {a b : Expr} {fa fb : Ev D} (hK : c.K = X.K) (ha : PE X a (tEv c W fa)) (hb : PE X b (tEv c W fb)) (hm : behindInMarks .NotIn b = false := by rfl) : PT X (.Compare a [.NotIn] [b] pos) (tTe c W (cTv (cBin oNotIn fa fb))) := t_cmp (OpR.or op_notIn_seq L2.op_notIn_str) (by rw [← hK]; exact oNotIn_ok) ha hb hm

/-! ### subscripts -/
theorem atI_at {α : Type} {xs : List α} {i : Int} {v : α} (h : L2.atI xs i = some v) : ∃ j, L2.ixN xs.length i = some j ∧ xs[j]? = some v := by
  unfold L2.atI at h
  cases e : L2.ixN xs.length i with
  | none => rw [e] at h; cases h
  | some j => rw [e] at h; exact ⟨j, rfl, h⟩
def oIx (x y : D) (h : Store) : Res D := match x, y with
  | .str z, .int i => if z.length ≤ sizeLine then match L2.atI z.cps.toList i with
      | some k => .ok (.str ⟨#[k]⟩) h
      | none => .no
    else .no
  | .tup l, .int i => match L2.atI l i with
    | some d => .ok d h
    | none => .no
  | x, .int i => match asR h x with
    | some l => match L2.atI l i with
      | some d => .ok d h
      | none => .no
    | none => .no
  | _, _ => .no
theorem atI_rel {g : Gh} {L : Nat} {l : List D} {vs : List V} {i : Int} {d : D} (rs : RVs c g L l vs) (e : L2.atI l i = some d) : ∃ v, L2.atI vs i = some v ∧ RV c g L d v := by
  obtain ⟨j, h1, h2⟩ := atI_at e
  obtain ⟨y, h3, h4⟩ := rs.get h2
  refine ⟨y, ?_, h4⟩
  unfold L2.atI
  rw [← rs.length, h1]
  exact h3
theorem oIx_ok : R2Ok c (L2.rIx c.K) oIx := by
  intro g h H d1 v1 d2 v2 Q E S r1 r2 q
  unfold oIx at q
  split at q
  · rename_i z i
    cases r1; cases r2
    by_cases hz : z.length ≤ sizeLine
    · rw [if_pos hz] at q
      split at q
      · rename_i k ek
        exact .inr (.inr ⟨z, i, k, rfl, rfl, hz, ek, RP.ok_here q S (.str _)⟩)
      · exact q.elim
    · rw [if_neg hz] at q
      exact q.elim
  · rename_i l i
    cases r2
    obtain ⟨a, vs, rfl, hq, rs⟩ := RV.tup' S r1
    split at q
    · rename_i d ed
      obtain ⟨v, h1, h2⟩ := atI_rel rs ed
      exact .inr (.inl ⟨a, vs, i, v, rfl, rfl, hq, h1, RP.ok_here q S h2⟩)
    · exact q.elim
  · rename_i x i _ _
    cases r2
    split at q
    · rename_i l el
      obtain ⟨a, vs, rfl, hq, rs⟩ := asR_ok S r1 el
      split at q
      · rename_i d ed
        obtain ⟨v, h1, h2⟩ := atI_rel rs ed
        exact .inl ⟨a, vs, i, v, rfl, rfl, hq, h1, RP.ok_here q S h2⟩
      · exact q.elim
    · exact q.elim
  · exact q.elim
theorem e_item {a b : Expr} {fa fb : Ev D} (hK : c.K = X.K) (ha : PE X a (tEv c W fa)) (hb : PE X b (tEv c W fb)) (hs : PlainIx b := by exact fun _ _ => rfl) : PE X (.Subscript a b pos) (tEv c W (cBin oIx fa fb)) := e_ix ix_seq (by rw [← hK]; exact oIx_ok) ha hb hs
end
end Gm

/-! Gm7: stores to places, slices, pairs, keywords. -/
namespace Gm
open PySem PySem.Spec PyProof.Rows L2

/-! ### o[i] = v, o[i] op= v of a list's cell -/
section
variable {c : Cf} {W : WX} {X : Cx} {pos : Pos} {o i e : Expr} {fo fi fe : Ev D}
/-- the store to a place of a cell's list -/
def putAt (x y d : D) (h : Store) : Option Store := match cellL h x, y with
  | some (n, l), .int k => match L2.ixN l.length k with
    | some j => some (h.set n (some (.lst (l.set j d))))
    | none => none
  | _, _ => none
theorem putAt_ok {g : Gh} {h h' : Store} {H : Hp} {x y d : D} {vx vy vd : V} {Q : Hp → Prop} (S : SR c g h H) (rx : RV c g h.length x vx) (ry : RV c g h.length y vy) (rd : RV c g h.length d vd) (ep : putAt x y d h = some h')
    (k : ∀ H', Go g h H g h' H' → SR c g h' H' → Q H') : L2.rSetL vx vy vd H Q := by
  unfold putAt at ep
  split at ep
  · rename_i n l kk en
    split at ep
    · rename_i j ej
      cases ep
      cases ry
      obtain ⟨rfl, e1, ws, e2, rs⟩ := cellL_ok S rx en
      obtain ⟨S1, o1⟩ := S.write (o := .lst (ws.set j vd)) (ce' := .lst (l.set j d)) e1 ⟨_, upd_same, rs.set rd j⟩
      exact ⟨_, ws, kk, j, rfl, rfl, e2, by rw [← rs.length]; exact ej, k _ o1 S1⟩
    · cases ep
  · cases ep
def gtSub (fo fi : Ev D) : Tg := fun d st h => match (fo st h).sure, (fi st h).sure with
  | .ok x h1, .ok y h2 => match putAt x y d h with
    | some h' => some (st, h')
    | none => none
  | _, _ => none
/-- an expression that leaves the store as it is -/
def Still (f : Ev D) : Prop := ∀ st h d h', f st h = .ok d h' → h' = h
theorem still_var (i : Nat) : Still (cVar i) := fun st h d h' e => by
  unfold cVar at e
  split at e
  · cases e; rfl
  · cases e
theorem still_k (d : D) : Still (cK d) := fun st h d h' e => by cases e; rfl
theorem still_bin {fo : D → D → Store → Res D} {fa fb : Ev D} (ho : ∀ x y h d h', fo x y h = .ok d h' → h' = h) (ha : Still fa) (hb : Still fb) : Still (cBin fo fa fb) := fun st h d h' e => by
  unfold cBin at e
  cases e1 : fa st h with
  | ok x h1 =>
    rw [e1, Res.bind_ok] at e
    cases e2 : fb st h1 with
    | ok y h2 =>
      rw [e2, Res.bind_ok] at e
      rw [ho _ _ _ _ _ e, hb _ _ _ _ e2, ha _ _ _ _ e1]
    | exc _ _ => rw [e2] at e; cases e
    | no => rw [e2] at e; cases e
  | exc _ _ => rw [e1] at e; cases e
  | no => rw [e1] at e; cases e
/-- o[i] = e, as a statement -/
def sPut (fe fo fi : Ev D) : Ss := fun st h => (fe st h).out st fun d h1 => (fo st h1).out st fun x h2 => (fi st h2).out st fun y h3 => match putAt x y d h3 with
  | some h' => .next st h'
  | none => .no
theorem s_put (he : PE X e (tEv c W fe)) (ho : PE X o (tEv c W fo)) (hi : PE X i (tEv c W fi)) {p2 : Pos} (P : ∀ {te to ti : TE}, PE X e te → PE X o to → PE X i ti → PS X (.Assign [.Subscript o i p2] e pos) (tAsg te (gSub to ti L2.rSetL))) :
    PS X (.Assign [.Subscript o i p2] e pos) (tSt c W (sPut fe fo fi)) := PS.imp (P he ho hi) fun D σ H ⟨st, h, g, S, sl, q⟩ => by
  refine ⟨st, h, g, S, sl, RP.mono (OP.out sl q) fun v H1 ⟨d, h1, g1, o1, S1, r1, q1⟩ => ?_⟩
  refine ⟨st, h1, g1, S1, sl.go o1, RP.mono (OP.out (sl.go o1) q1) fun vx H2 ⟨x, h2, g2, o2, S2, r2, q2⟩ => ?_⟩
  have o12 := o1.trans o2
  refine ⟨st, h2, g2, S2, sl.go o12, RP.mono (OP.out (sl.go o12) q2) fun vy H3 ⟨y, h3, g3, o3, S3, r3, q3⟩ => ?_⟩
  cases ep : putAt x y d h3 with
  | none => rw [ep] at q3; exact q3.elim
  | some h' =>
    rw [ep] at q3
    exact putAt_ok S3 (r2.mono o3.gx o3.len) r3 (r1.mono (o2.trans o3).gx (o2.trans o3).len) ep fun H' o4 S4 => q3 g3 H' σ o4 S4 (sl.go ((o12.trans o3).trans o4))
theorem ps_put {p2 : Pos} {te to ti : TE} (he : PE X e te) (ho : PE X o to) (hi : PE X i ti) (ha : ∀ v, assign (.Subscript o i p2) X.env v = (do
      let ov ← holding [v] (eval o X.env)
      let iv ← holding [v, ov] (eval i X.env)
      standAt p2
      holding [v, ov, iv] (setItem ov iv v)
      release [v, ov, iv] []) := by intro _; rfl) (hs : swapsWithSole [.Subscript o i p2] e pos.line X.env = pure false := by rfl) (hw : swappedStores [.Subscript o i p2] e X.env = pure none := by rfl)
    (h1 : (assignEach [.Subscript o i p2] X.env).map (·.2) = [assign (.Subscript o i p2) X.env] := by rfl) : PS X (.Assign [.Subscript o i p2] e pos) (tAsg te (gSub to ti L2.rSetL)) := ps_asg he (pg_sub ho hi set_list ha) hs hw h1
/-- o[i], by values -/
theorem get_list : PGet X (L2.rIxL X.K) := by
  intro pins s σ H x y ov iv Q I rx ry q
  obtain ⟨p, xs, k, z, e1, e2, hq, he, hQ⟩ := q
  subst e1 e2
  cases rx
  obtain ⟨t, rfl⟩ := ry
  obtain ⟨its, rv, pl, hz⟩ := I.list hq
  obtain ⟨j, f1, f2, f3, f4, f5⟩ := L2.atI_get he
  obtain ⟨u, eu, ru⟩ := rv.get f2
  have hlen := rv.length
  have hbig := L2.line63
  by_cases hk : 0 ≤ k
  · have ej : k.toNat = j := Option.some.inj ((PySem.seqIndex_of hk f5).symm.trans f1)
    exact wpAny_getItem_list pl.isList hk (by omega) (by rw [ej]; simpa using eu) ⟨z, H, I, ru, hQ⟩
  · have ej : (k + (its.toArray.size : Int)).toNat = j := by
      rw [List.size_toArray, ← hlen]
      exact Option.some.inj ((PySem.seqIndex_neg (by omega) f4).symm.trans f1)
    exact wpAny_getItem_list_neg pl.isList (by omega) (by rw [List.size_toArray]; omega) (by omega) (by rw [ej]; simpa using eu) ⟨z, H, I, ru, hQ⟩
/-- o[i] of a cell's list -/
def getAt (x y : D) (h : Store) : Option D := match cellL h x, y with
  | some (_, l), .int k => L2.atI l k
  | _, _ => none
theorem getAt_ok {g : Gh} {h : Store} {H : Hp} {x y d : D} {vx vy : V} {Q : VK} (S : SR c g h H) (rx : RV c g h.length x vx) (ry : RV c g h.length y vy) (ep : getAt x y h = some d) (k : ∀ v, RV c g h.length d v → Q v H) : L2.rIxL c.K vx vy H Q := by
  unfold getAt at ep
  split at ep
  · rename_i n l kk en
    cases ry
    obtain ⟨rfl, e1, ws, e2, rs⟩ := cellL_ok S rx en
    obtain ⟨v, f1, f2⟩ := atI_rel rs ep
    exact ⟨_, ws, kk, v, rfl, rfl, .inl (.inl e2), f1, k v f2⟩
  · cases ep
/-- o[i] op= e -/
def sAugAt (fop : D → D → Store → Res D) (fo fi fe : Ev D) : Ss := fun st h => (fo st h).out st fun x h1 => (fi st h1).out st fun y h2 => match getAt x y h2 with
  | some old => (fe st h2).out st fun d h4 => (fop old d h4).out st fun z h5 => match putAt x y z h5 with
    | some h' => .next st h'
    | none => .no
  | none => .no
theorem s_augAt {op : Operator} {r : R2} {fop : D → D → Store → Res D} {tpos : Pos} (hK : c.K = X.K) (hop : OpR X (inplaceOp op) r) (hr : R2Ok c r fop) (ho : PE X o (tEv c W fo)) (hi : PE X i (tEv c W fi)) (he : PE X e (tEv c W fe))
    (ha : ∀ ov iv new, augStore i ov iv new = (do holding [new, ov, iv] (setItem ov iv new); release [new, ov, iv] []; pure .next) := by intros; rfl) : PS X (.AugAssign (.Subscript o i tpos) op e pos) (tSt c W (sAugAt fop fo fi fe)) :=
  PS.imp (ps_augS (tip := r) ho hi get_list he hop set_list ha) fun D σ H ⟨st, h, g, S, sl, q⟩ => by
    refine ⟨st, h, g, S, sl, RP.mono (OP.out sl q) fun vx H1 ⟨x, h1, g1, o1, S1, r1, q1⟩ => ?_⟩
    refine ⟨st, h1, g1, S1, sl.go o1, RP.mono (OP.out (sl.go o1) q1) fun vy H2 ⟨y, h2, g2, o2, S2, r2, q2⟩ => ?_⟩
    have o12 := o1.trans o2
    cases eg : getAt x y h2 with
    | none => rw [eg] at q2; exact q2.elim
    | some old =>
      rw [eg] at q2
      rw [← hK]
      refine getAt_ok S2 (r1.mono o2.gx o2.len) r2 eg fun v rold => ⟨st, h2, g2, S2, sl.go o12, RP.mono (OP.out (sl.go o12) q2) fun ve H3 ⟨d, h3, g3, o3, S3, r3, q3⟩ => ?_⟩
      have o13 := o12.trans o3
      refine hr g3 h3 H3 old v d ve _ _ S3 (rold.mono o3.gx o3.len) r3 (RP.mono (OP.out (sl.go o13) q3) fun vz H4 ⟨z, h4, g4, o4, S4, r4, q4⟩ => ?_)
      cases ep : putAt x y z h4 with
      | none => rw [ep] at q4; exact q4.elim
      | some h' =>
        rw [ep] at q4
        have o24 := o2.trans (o3.trans o4)
        have o34 := o3.trans o4
        exact putAt_ok S4 (r1.mono o24.gx o24.len) (r2.mono o34.gx o34.len) r4 ep fun H' o5 S5 => q4 g4 H' σ o5 S5 (sl.go ((o13.trans o4).trans o5))

/-! ### a, b = x, y -/
def sPar (i j : Nat) (fs : Ev (List D)) : Ss := fun st h => (fs st h).out st fun ds h1 => match ds with
  | [a, b] => .next ((st.set i (some a)).set j (some b)) h1
  | _ => .no
theorem s_par {i j : Nat} {s : Stmt} {fs : Ev (List D)} (P : PS X s (tPar i j (tAr c W fs))) : PS X s (tSt c W (sPar i j fs)) := PS.imp P fun D σ H ⟨st, h, g, S, sl, q⟩ =>
  ⟨st, h, g, S, sl, RP.mono (OP.out sl q) fun vs H1 ⟨ds, h1, g1, o1, S1, r1, q1⟩ => by
    split at q1
    · cases r1 with
      | cons r1 rr =>
        cases rr with
        | cons r2 rr =>
          cases rr
          exact ⟨_, _, rfl, q1 g1 H1 _ (Go.refl _ _ _) S1 (((sl.go o1).set i r1).set j r2)⟩
    · exact q1.elim⟩

/-! ### slices -/
def tPo (c : Cf) (W : WX) (f : Ev (Option Int)) : L2.TO := fun σ H Q => ∃ st h g, SR c g h H ∧ SL c g h.length st σ ∧ RP c (fun _ _ a b => a = b) g h H (f st h) Q (fun cls dd H' => W cls dd σ H')
theorem PO.imp {e : Option Expr} {t t' : L2.TO} (p : L2.PO X e t) (k : ∀ σ H Q, t' σ H Q → t σ H Q) : L2.PO X e t' := ⟨fun pins s σ H Q I h => p.run pins s σ H Q I (k σ H Q h)⟩
def cNoPart : Ev (Option Int) := fun _ h => .ok none h
def cPart (f : Ev D) : Ev (Option Int) := fun st h => (f st h).bind fun d h1 => match d with
  | .int i => .ok (some i) h1
  | _ => .no
theorem p_none : L2.PO X none (tPo c W cNoPart) := PO.imp po_none fun σ H Q ⟨st, h, g, S, sl, q⟩ => RP.ok_here (R := fun _ _ a b => a = b) q S rfl
theorem p_some {f : Ev D} (he : PE X e (tEv c W f)) : L2.PO X (some e) (tPo c W (cPart f)) := PO.imp (po_some he) fun σ H Q ⟨st, h, g, S, sl, q⟩ =>
  ⟨st, h, g, S, sl, RP.mono (RP.bind q) fun v H1 ⟨d, h1, g1, o1, S1, r1, q1⟩ => by
    cases r1 with
    | int i => exact ⟨i, rfl, RP.ok_here (R := fun _ _ a b => a = b) q1 S1 rfl⟩
    | _ => exact q1.elim⟩
def cutD (l : List D) (lo hi : Option Int) : List D := (l.drop (HT.sIx l.length 0 lo)).take (HT.sIx l.length l.length hi - HT.sIx l.length 0 lo)
theorem cutD_ok {g : Gh} {L : Nat} {l : List D} {vs : List V} {lo hi : Option Int} (r : RVs c g L l vs) : RVs c g L (cutD l lo hi) (L2.cutV vs lo hi) := by
  unfold cutD L2.cutV
  rw [← r.length]
  exact (r.drop _).take _
def oSl (m : Bool) (d : D) (lo hi : Option Int) (h : Store) : Res D := match d with
  | .str z => if z.length ≤ sizeLine then .ok (.str (cutS z lo hi)) h else .no
  | d => match asR h d with
    | some l => alloc m (cutD l lo hi) h
    | none => .no
def cSl (m : Bool) (fe : Ev D) (fl fh : Ev (Option Int)) : Ev D := fun st h => (fe st h).bind fun d h1 => (fl st h1).bind fun lo h2 => (fh st h2).bind fun hi h3 => oSl m d lo hi h3
theorem e_slice {m : Bool} {lo hi : Option Expr} {p2 : Pos} {fl fh : Ev (Option Int)} (hK : c.K = X.K) (he : PE X e (tEv c W fe)) (hl : L2.PO X lo (tPo c W fl)) (hh : L2.PO X hi (tPo c W fh)) : PE X (.Subscript e (.Slice lo hi none p2) pos) (tEv c W (cSl m fe fl fh)) :=
  PE.imp (pe_slice (SlR.or sl_list sl_str) he hl hh) fun σ H Q ⟨st, h, g, S, sl, q⟩ => by
    refine ⟨st, h, g, S, sl, RP.mono (RP.bind q) fun v H1 ⟨d, h1, g1, o1, S1, r1, q1⟩ => ?_⟩
    refine ⟨st, h1, g1, S1, sl.go o1, RP.mono (RP.bind (R' := fun _ _ a b => a = b) q1) fun l H2 ⟨l', h2, g2, o2, S2, r2, q2⟩ => ?_⟩
    have r2 : l' = l := r2
    subst r2
    refine ⟨st, h2, g2, S2, sl.go (o1.trans o2), RP.mono (RP.bind (R' := fun _ _ a b => a = b) q2) fun u H3 ⟨u', h3, g3, o3, S3, r3, q3⟩ => ?_⟩
    have r3 : u' = u := r3
    subst r3
    have rv := r1.mono (o2.trans o3).gx (o2.trans o3).len
    by_cases hd : ∃ z, d = .str z
    · obtain ⟨z, rfl⟩ := hd
      cases rv
      have q3 : RP c (Rv c) g3 h3 H3 (if z.length ≤ sizeLine then .ok (.str (cutS z l' u')) h3 else .no) Q _ := q3
      by_cases hz : z.length ≤ sizeLine
      · rw [if_pos hz] at q3
        exact .inr ⟨z, rfl, hz, RP.ok_here q3 S3 (.str _)⟩
      · rw [if_neg hz] at q3
        exact q3.elim
    · have ed : oSl m d l' u' h3 = (match asR h3 d with
        | some l => alloc m (cutD l l' u') h3
        | none => .no) := by
        cases d <;> first | rfl | exact absurd ⟨_, rfl⟩ hd
      rw [ed] at q3
      split at q3
      · rename_i k ek
        obtain ⟨a, vs, rfl, hq, rs⟩ := asR_ok S3 rv ek
        rw [← hK]
        exact .inl ⟨a, vs, rfl, hq, alloc_ok S3 (cutD_ok rs) q3⟩
      · exact q3.elim
end
end Gm

/-! Gm8: sum with a start, dicts, int of a text of noughts and ones. -/
namespace Gm
open PySem PySem.Spec PyProof.Rows L2
abbrev oAddI : D → D → Store → Res D := iop (fun _ _ => true) fun i j => i + j

/-! ### sum(xs, start=0) -/
theorem args_sum_start (a v : Value) : argsOk "sum" ⟨[a], [("start", v)]⟩ := by unfold argsOk; kernel_rfl
theorem call_tree_kw {prog : Program} {w : World} {A : Around} {E : Value → Shared → Prop} {s : Shared} {id : String} {b : Builtin} {args : List Value} {kw : List (Str × Value)} {Q : Value → Shared → Prop} (kind : builtinKind id = none) (plain : plainId id = true)
    (entry : entryFor table id = some b) (fits : argsOk id ⟨args, kw⟩)
    (body : wpAny (model prog w) A.in1 (b ⟨args, kw⟩) (fun fin s' => match fin with
      | .done f => (match (Except.ok f : Result) with | .ok (.ret v) => Q v s' | .ok _ => False | .error e => E e s')
      | .again c' => c'.quiet = true ∧ codeAny (model prog w) A c' (fun r s' => match r with | .ok (.ret v) => Q v s' | .ok _ => False | .error e => E e s') s') E s) :
    wpAny (model prog w) A (call (.builtin id) args kw) Q E s := by
  refine wpAny_call (codeAny_call_builtin plain entry ?_)
  simp only [checkBuiltinCall, kind]
  cases sg : Manifest.signature? id with
  | none => exact wpAny_pure body
  | some sig =>
    simp only [argsOk, sg] at fits
    have fits2 : Bind.checkArgs id sig ⟨args, kw⟩ = pure () := fits
    show wpAny _ A.in1 (Bind.checkArgs id sig ⟨args, kw⟩) _ _ s
    rw [fits2]
    exact wpAny_pure body
theorem sum_start_raw {prog : Program} {w : World} {A : Around} {E : Value → Shared → Prop} {s : Shared} {l : Addr} {its : List Value} {ns : List Int} {u : Tok} {Q : Value → Shared → Prop} (hh : A.handled = none) (hl : s.heap.IsList l its.toArray) (hi : IntsAre its ns)
    (fin : ∀ h' tk t', (∀ b o, s.heap.get? b = some o → h'.get? b = some o) → Q (.int ns.sum t') { s with heap := h', toks := tk }) : wpAny (model prog w) A (call (.builtin "sum") [.ref l] [("start", .int 0 u)]) Q E s := by
  obtain ⟨xs, e⟩ := hi.allInts.items
  have hn : numsOf (intItems xs).toList = ns := by
    rw [← e]
    exact hi.numsOf
  rw [nums_intItems] at hn
  rw [e] at hl
  refine call_tree_kw F.kind_sum F.plain_sum F.entry_sum (args_sum_start _ _) ?_
  unfold Builtin.«sum»
  simp only [List.length_cons, List.length_nil]
  rw [if_neg (by decide)]
  have hb : Builtin.Builtins.bindParams "sum" ["start"] 0 ⟨[], [("start", .int 0 u)]⟩ = pure [some (.int 0 u)] := by with_unfolding_all rfl
  refine wpAny_bind (wpAny_of_eq hb ?_)
  refine wpAny_bind (iter_intList hl fun s2 e2 st hfp hlI => ?_)
  subst e2
  dsimp only
  split
  case isFalse hf => exact absurd (by rfl) hf
  refine wpAny_bind (wpAny_rule (wpAny_bind (wpAny_mkInt (wpAny_bind (wpAny_pure ?_)))))
  simp only [List.forIn_cons, List.forIn_nil]
  have no : ∀ {T : String} {t : Tok} {s3 : Shared} {R : Bool → Shared → Prop}, isSubtype (.type "int") (.type T) = pure false → R false s3 → wpAny (model prog w) A.in1 (isInstance (.int 0 t) (.type T)) R E s3 := fun sub k =>
    wpAny_isInstance (T := "int") (b := false) (typeIs_int _ _ _) sub k
  refine wpAny_bind (wpAny_bind (wpAny_bind (no PySem.sub_int_str ?_)))
  rw [if_neg Bool.false_ne_true]
  refine wpAny_pure (wpAny_bind (wpAny_bind (no PySem.sub_int_bytes ?_)))
  rw [if_neg Bool.false_ne_true]
  refine wpAny_pure (wpAny_bind (wpAny_bind (no PySem.sub_int_bytearray ?_)))
  rw [if_neg Bool.false_ne_true]
  refine wpAny_pure (wpAny_pure ?_)
  refine wpAny_bind (wpAny_newObj_type ?_)
  have hSf : s.heap.objs.size + 1 ∉ [s.heap.objs.size, l] := fun hm => by
    have q := hfp _ hm
    rw [Heap.size_push] at q
    exact Nat.lt_irrefl _ q
  have Wk := Walks.list (prog := prog) (w := w) (A := A.in1) hh s.heap.objs.size l hlI (intItems xs)
  have esz : (s.heap.push { cls := .type "list_iterator", data := .fields #[.ref l, .int 0 0] }).objs.size = s.heap.objs.size + 1 := Heap.size_push _ _
  refine wpAny_pure ⟨plainId_quiet F.plain_sum_loop _, codeAny_sum_loopG Wk (numAt xs) (fun _ _ => intItems_at) _ (by rw [esz]; exact hSf) _ 0 _ s.toks 0 0 (Or.inl rfl) rfl (Nat.zero_le _) (Wk.frame _ _ _ st fun b _ o q => Heap.get?_push_of_some _ q) (Heap.get?_push_size _ rfl) fun h' tk t' hk => ?_⟩
  have z := fin h' tk t' fun b o q => by
    have lt := Heap.lt_size q
    refine hk b o ?_ ?_ (Heap.get?_push_of_some _ (Heap.get?_push_of_some _ q))
    · intro hm
      have e : b = s.heap.objs.size := by simpa using hm
      exact absurd lt (by rw [e]; exact Nat.lt_irrefl _)
    · rw [esz]
      exact Nat.ne_of_lt (Nat.lt_succ_of_lt lt)
  rw [preSum_eq, List.take_of_length_le (by simp [intItems]), hn]
  exact z
section
variable {c : Cf} {W : WX} {X : Cx} {e ek : Expr} {fe fk : Ev D} {p pos kp : Pos}
def tSumS (K : PySem.W.Frag) (ta tk : TA) : TE := fun σ H Q => ta σ H fun xs H1 => tk σ H1 fun ys H2 => ∃ (a : Addr) (ns : List Int), xs = [.ref a] ∧ ys = [.int 0] ∧ SqL K H2 a (ns.map V.int) ∧ Q (.int ns.sum) H2
theorem pe_sumS {ta tk : TA} (calm : X.calm = true) (hg : Gl X "sum") (hm : X.mg "sum" = none) (ha : PA X [e] ta) (hk : L2.PK X [⟨some "start", ek, kp⟩] tk)
    (he : backTo pos (starEach [e] X.env) = (false, eval e X.env) :: backTo pos (starEach [] X.env) := by rfl) (hp : (backTo pos (starEach [e] X.env)).any (·.1) = false := by rfl) : PE X (.Call (.Name "sum" p) [e] [⟨some "start", ek, kp⟩] pos) (tSumS X.K ta tk) := by
  refine ⟨fun pins s σ H Q I h => ?_⟩
  refine wpAny_Call_Name_kw (ld_blt I hg hm boot_sum ?_)
  refine callWith_kw (env := X.env) (thn (ha.run pos pins s σ H _ I h) fun us s1 ⟨xs, H1, I1, r1, q1⟩ => thn (hk.run pos pins s1 σ H1 _ I1 q1) fun ws s2 ⟨ys, H2, I2, r2, a, ns, e1, e2, hq, q2⟩ => ?_) he hp
  subst e1 e2
  obtain ⟨u2, rfl, t, rfl⟩ := vals1 r2
  obtain ⟨u1, rfl, hr1⟩ := vals1 r1
  obtain rfl : u1 = Value.ref a := hr1
  obtain ⟨its, rv, pl, _⟩ := I2.list hq
  show wpAny _ _ (call (.builtin "sum") [.ref a] [("start", .int 0 t)]) _ _ _
  exact sum_start_raw (I2.ok.hd calm) pl.isList rv.ints fun h' tk t' hk' => ⟨.int _, H2, I2.kept hk', ⟨_, rfl⟩, q2⟩
def fSumS (d k : D) (h : Store) : Res D := match k with
  | .int 0 => match asR h d with
    | some l => match intsOf l with
      | some ns => .ok (.int ns.sum) h
      | none => .no
    | none => .no
  | _ => .no
def cSumS (fe fk : Ev D) : Ev D := fun st h => (fe st h).bind fun d h1 => (fk st h1).bind fun k h2 => fSumS d k h2
theorem e_sumS (hg : Gl X "sum") (hm : X.mg "sum" = none) (ha : PE X e (tEv c W fe)) (hk : PE X ek (tEv c W fk)) (P : ∀ {ta tk : TA}, PA X [e] ta → L2.PK X [⟨some "start", ek, kp⟩] tk → PE X (.Call (.Name "sum" p) [e] [⟨some "start", ek, kp⟩] pos) (tSumS c.K ta tk))
    (hs : starEach [e] X.env = (false, eval e X.env) :: starEach [] X.env := by rfl) : PE X (.Call (.Name "sum" p) [e] [⟨some "start", ek, kp⟩] pos) (tEv c W (cSumS fe fk)) :=
  PE.imp (P (a_cons ha a_nil hs) (k_cons hk k_nil)) fun σ H Q ⟨st, h, g, S, sl, q⟩ => by
    have q : RP c (Rv c) g h H ((cCons fe cNil st h).bind fun ds h1 => (cCons fk cNil st h1).bind fun ks h2 => match ks, ds with
      | [k], [d] => fSumS d k h2
      | _, _ => .no) Q (fun cls dd H' => W cls dd σ H') := by
      unfold cSumS at q
      unfold cCons cNil
      cases e1 : fe st h with
      | ok d h1 =>
        rw [e1] at q
        simp only [Res.bind_ok] at q ⊢
        cases e2 : fk st h1 with
        | ok k h2 =>
          rw [e2] at q
          simp only [Res.bind_ok] at q ⊢
          exact q
        | exc ee h2 => rw [e2] at q; exact q
        | no => rw [e2] at q; exact q
      | exc ee h1 => rw [e1] at q; exact q
      | no => rw [e1] at q; exact q
    refine ⟨st, h, g, S, sl, RP.mono (RP.bind q) fun vs H1 ⟨ds, h1, g1, o1, S1, r1, q1⟩ => ?_⟩
    refine ⟨st, h1, g1, S1, sl.go o1, RP.mono (RP.bind q1) fun ws H2 ⟨ks, h2, g2, o2, S2, r2, q2⟩ => ?_⟩
    split at q2
    · rename_i k d
      unfold fSumS at q2
      split at q2
      · cases r2 with
        | cons rk rr =>
          cases rr
          cases rk
          cases r1 with
          | cons rd rr =>
            cases rr
            split at q2
            · rename_i l el
              split at q2
              · rename_i ns en
                obtain ⟨a, vs, rfl, hq, rs⟩ := asR_ok S2 (rd.mono o2.gx o2.len) el
                have ev := intsOf_ok rs en
                subst ev
                exact ⟨a, ns, rfl, rfl, hq, RP.ok_here q2 S2 (.int _)⟩
              · exact q2.elim
            · exact q2.elim
      · exact q2.elim
    · exact q2.elim
end
end Gm

/-! Gm9: int of a text of noughts and ones; dicts. -/
namespace Gm
open PySem PySem.Spec PyProof.Rows L2

/-! ### int(t, 2) -/
namespace I2
open PySem.NumText PySem.Calls
abbrev Bt (a : Nat) : Prop := a = 48 ∨ a = 49
def num2 (l : List Nat) : Nat := l.foldl (fun n a => n * 2 + (a - 48)) 0
theorem dig {a : Nat} (h : Bt a) : digit? a = some (a - 48) := by rcases h with rfl | rfl <;> rfl
theorem stp {ds : Array Nat} {b : Bool} {a : Nat} (h : Bt a) : PySem.NumText.step 2 (ds, b) a = some (ds.push (a - 48), true) := by rcases h with rfl | rfl <;> rfl
theorem fld : ∀ (l : List Nat) (ds : Array Nat) (b : Bool), (∀ a ∈ l, Bt a) → l.foldlM (PySem.NumText.step 2) (ds, b) = some (ds ++ (l.map (· - 48)).toArray, b || !l.isEmpty)
  | [], ds, b, _ => by simp
  | a :: l, ds, b, h => by
    rw [List.foldlM_cons, stp (h a (by simp))]
    have e := fld l (ds.push (a - 48)) true fun x hx => h x (by simp [hx])
    simp only [Option.bind_eq_bind, Option.bind_some, e]
    simp
theorem digs {l : List Nat} (h : ∀ a ∈ l, Bt a) (hne : l ≠ []) : digits? 2 l = some (l.map (· - 48)).toArray := by
  unfold digits?
  have e := fld l #[] false h
  rw [e]
  cases l with
  | nil => exact absurd rfl hne
  | cons a l => simp
theorem val (l : List Nat) : (l.map (· - 48)).toArray.foldl (fun acc d => acc * 2 + d) 0 = num2 l := by
  rw [List.foldl_toArray', List.foldl_map]
  · rfl
  · simp
theorem drp {l : List Nat} (h : ∀ a ∈ l, Bt a) : l.dropWhile blank = l := by
  cases l with
  | nil => rfl
  | cons a l => rcases h a (by simp) with rfl | rfl <;> rfl
theorem sgn {l : List Nat} (h : ∀ a ∈ l, Bt a) : sign l = (false, l) := by
  cases l with
  | nil => rfl
  | cons a l => rcases h a (by simp) with rfl | rfl <;> rfl
theorem bsd {l : List Nat} (h : ∀ a ∈ l, Bt a) : based 2 l = (2, false, l) := by
  match l, h with
  | [], _ => rfl
  | [a], h => rcases h a (by simp) with rfl | rfl <;> rfl
  | a :: b :: r, h => rcases h a (by simp) with rfl | rfl <;> rcases h b (by simp) with rfl | rfl <;> rfl
theorem read {l : List Nat} (lim : Nat) (h : ∀ a ∈ l, Bt a) (hne : l ≠ []) : (int_private% "readNumeral") lim 2 l = (int_private% "Numeral.value") ((num2 l : Nat) : Int) := by
  have hr : ∀ a ∈ l.reverse, Bt a := fun a m => h a (List.mem_reverse.mp m)
  rw [readNumeral_eq, drp h, sgn h]
  dsimp only
  rw [bsd h]
  dsimp only
  rw [drp hr, List.reverse_reverse, digs h hne]
  unfold judge
  simp only [val]
  rfl
theorem seen {x : Str} (h : ∀ a ∈ x.cps.toList, Bt a) : numTextOf x = x.cps.toList ∧ numSeenOf x = x.cps.toList := by
  have e1 : numTextOf x = x.cps.toList := by
    refine if_pos ?_
    rw [← Array.all_toList, List.all_eq_true]
    intro a m
    rcases h a m with rfl | rfl <;> rfl
  refine ⟨e1, ?_⟩
  show (numTextOf x).takeWhile _ = _
  rw [e1]
  refine takeWhile_all fun a m => ?_
  rcases h a m with rfl | rfl <;> rfl
/-- no limit of digits is set -/
def noDig (K : PySem.W.Frag) : Bool := PySem.W.nsIn K cStatics "sys.int_max_str_digits" == some none
theorem lim {M : Model} {A : Around} {E : Value → Shared → Prop} {s : Shared} {Q : Nat → Shared → Prop} {K : PySem.W.Frag} (x : K.In s.heap) (e : noDig K = true) (q : Q 4300 s) : wpAny M A Builtin.intMaxStrDigits Q E s := by
  unfold Builtin.intMaxStrDigits
  exact wpAny_bind ((PySem.W.looks_nsIn (M := M) x (eq_of_beq e)).here (wpAny_pure q))
theorem txt {M : Model} {A : Around} {E : Value → Shared → Prop} {s : Shared} {Q : Value → Shared → Prop} {K : PySem.W.Frag} {v : Value} {t : List Nat} {n : Int} (x : K.In s.heap) (e : noDig K = true)
    (hr : ∀ k, (int_private% "readNumeral") k 2 (t.takeWhile (· != 0)) = (int_private% "Numeral.value") n) (ha : ((t.takeWhile (· != 0)).length == t.length) = true) (q : Q (.int n s.toks) { s with toks := s.toks + 1 }) :
    wpAny M A ((int_private% "intFromText") v t 2) Q E s := by
  by_cases hs : (t.takeWhile (· != 0)).length ≤ 640
  · exact Hx.wp_textB hs (hr 0) ha q
  · obtain ⟨hp, g, d, tk, os⟩ := s
    repeat (any_goals (first
      | assumption
      | (with_reducible refine lim (K := K) x e ?_)
      | (with_reducible refine wpAny_ite_false (decide_eq_false hs) ?_)
      | (with_reducible refine wpAny_ite_true (decide_eq_true ha) ?_)
      | wp_step))
    all_goals (try rw [hr])
    all_goals (try dsimp only)
    repeat (any_goals (first
      | assumption
      | (with_reducible refine wpAny_ite_true (decide_eq_true ha) ?_)
      | wp_step))
theorem made {K : PySem.W.Frag} (e : noDig K = true) {x : Str} {u t : Tok} (h : ∀ a ∈ x.cps.toList, Bt a) (hne : x.cps.toList ≠ []) :
    Meets (Builtin.«int.__new__» ⟨[.type "int", .str x u, .int 2 t], []⟩) (fun _ R s => K.In s.heap ∧ R (.ok (.ret (.int ((num2 x.cps.toList : Nat) : Int) s.toks))) { s with toks := s.toks + 1 }) :=
  .of_wp fun _ _ A R s hq => by
    obtain ⟨hK, hQ⟩ := hq
    have f1 := F.conv_sub_int
    have f2 := F.madeHere_int
    have f6 : typeOf (.str x u) = pure (.type "str") := rfl
    obtain ⟨e1, e2⟩ := seen h
    have hr : ∀ k, (int_private% "readNumeral") k 2 (numSeenOf x) = (int_private% "Numeral.value") ((num2 x.cps.toList : Nat) : Int) := fun k => by
      rw [e2]
      exact read k h hne
    have ha : ((numSeenOf x).length == (numTextOf x).length) = true := by rw [e1, e2]; simp
    obtain ⟨hp, g, d, tk, os⟩ := s
    have hk := Hx.Hid.mk (And.intro hK (And.intro hr ha))
    clear hr ha e1 e2 hne h hK
    repeat (any_goals (first
      | assumption
      | ((with_reducible show wpAny _ _ ((int_private% "intFromText") _ _ _) _ _ _); refine txt (K := K) hk.out.1 e hk.out.2.1 hk.out.2.2 ?_)
      | wp_step))
    all_goals first | exact ⟨_, rfl, hQ⟩ | skip
end I2
def rInt2 (K : PySem.W.Frag) : List V → Hp → VK → Prop := fun xs H Q => ∃ x : Str, xs = [.str x, .int 2] ∧ x.cps.toList ≠ [] ∧ (∀ a ∈ x.cps.toList, I2.Bt a) ∧ Q (.int ((I2.num2 x.cps.toList : Nat) : Int)) H
theorem call_int2 {X : Cx} (e : I2.noDig X.K = true) : CallR X (.type "int") (rInt2 X.K) := by
  intro pins s σ H xs us Q I r h
  obtain ⟨x, rfl, hne, hx, q⟩ := h
  obtain ⟨u, w', rfl, r1, r2⟩ := vals2 r
  obtain ⟨t1, rfl⟩ := r1
  obtain ⟨t2, rfl⟩ := r2
  exact callType_new F.called_int F.newNe_int (Hx.typeCall_int_2 _ _) (Hx.newCall_int_2 _ _) (fun obj => F.initArgs_range_2 obj _ _) F.entry_int_new (I2.made e hx hne) ⟨I.kIn, rfl, .int ((I2.num2 x.cps.toList : Nat) : Int), H, I.tok _, ⟨_, rfl⟩, q⟩
def isBt (x : Str) : Bool := !x.cps.toList.isEmpty && x.cps.toList.all fun a => a == 48 || a == 49
theorem isBt_ok {x : Str} (h : isBt x = true) : x.cps.toList ≠ [] ∧ ∀ a ∈ x.cps.toList, I2.Bt a := by
  unfold isBt at h
  simp only [Bool.and_eq_true, Bool.not_eq_true', List.all_eq_true, Bool.or_eq_true, beq_iff_eq] at h
  exact ⟨fun e => by rw [e] at h; simp at h, h.2⟩
def fInt2 : CallT := fun ds h => match ds with
  | [.str x, .int 2] => if isBt x = true then .ok (.int ((I2.num2 x.cps.toList : Nat) : Int)) h else .no
  | _ => .no
theorem fInt2_ok {c : Cf} : CROk c (rInt2 c.K) fInt2 := by
  intro g h H ds vs Q E S rs q
  unfold fInt2 at q
  split at q
  · rename_i x
    cases rs with
    | cons r rr =>
      cases rr with
      | cons r2 rr =>
        cases rr
        cases r
        cases r2
        by_cases hx : isBt x = true
        · rw [if_pos hx] at q
          obtain ⟨h1, h2⟩ := isBt_ok hx
          exact ⟨x, rfl, h1, h2, RP.ok_here q S (.int _)⟩
        · rw [if_neg hx] at q
          exact q.elim
  · exact q.elim

/-! ### dicts -/
def keyD : D → Option Key
  | .int i => some (.inl i)
  | .str x => some (.inr x)
  | _ => none
theorem keyD_ok {c : Cf} {g : Gh} {L : Nat} {d : D} {v : V} {k : Key} (r : RV c g L d v) (e : keyD d = some k) : v = kV k := by
  cases r <;> cases e <;> rfl
def getKD (l : List (Key × D)) (k : Key) : Option D := (l.find? fun p => decide (p.1 = k)).map (·.2)
def putKD (l : List (Key × D)) (k : Key) (d : D) : List (Key × D) := if (l.any fun p => decide (p.1 = k)) = true then l.map (fun p => if p.1 = k then (p.1, d) else p) else l ++ [(k, d)]
section
variable {c : Cf} {g : Gh} {L : Nat}
theorem RKs.get {k : Key} : ∀ {l : List (Key × D)} {kvs : List (Key × V)}, RKs c g L l kvs → (getKD l k = none ∧ valV kvs k = none) ∨ ∃ d v, getKD l k = some d ∧ valV kvs k = some v ∧ RV c g L d v
  | _, _, .nil => .inl ⟨rfl, rfl⟩
  | _, _, .cons (k := j) (d := d) (v := v) h r => by
    by_cases e : j = k
    · exact .inr ⟨d, v, by simp [getKD, e], by simp [valV, e], h⟩
    · have e1 : ∀ l, getKD ((j, d) :: l) k = getKD l k := fun l => by simp [getKD, e]
      have e2 : ∀ l, valV ((j, v) :: l) k = valV l k := fun l => by simp [valV, e]
      rw [e1, e2]
      exact RKs.get r
theorem RKs.len : ∀ {l : List (Key × D)} {kvs : List (Key × V)}, RKs c g L l kvs → l.length = kvs.length
  | _, _, .nil => rfl
  | _, _, .cons _ r => by simp only [List.length_cons, RKs.len r]
theorem RKs.any {k : Key} : ∀ {l : List (Key × D)} {kvs : List (Key × V)}, RKs c g L l kvs → (l.any fun p => decide (p.1 = k)) = kvs.any fun p => decide (p.1 = k)
  | _, _, .nil => rfl
  | _, _, .cons _ r => by simp only [List.any_cons, RKs.any r]
theorem RKs.app {l : List (Key × D)} {kvs : List (Key × V)} {l' : List (Key × D)} {kvs' : List (Key × V)} : RKs c g L l kvs → RKs c g L l' kvs' → RKs c g L (l ++ l') (kvs ++ kvs')
  | .nil, s => s
  | .cons h r, s => .cons h (RKs.app r s)
theorem RKs.mapK {k : Key} {d : D} {v : V} (q : RV c g L d v) : ∀ {l : List (Key × D)} {kvs : List (Key × V)}, RKs c g L l kvs → RKs c g L (l.map fun p => if p.1 = k then (p.1, d) else p) (kvs.map fun p => if p.1 = k then (p.1, v) else p)
  | _, _, .nil => .nil
  | _, _, .cons (k := j) h r => by
    rw [List.map_cons, List.map_cons]
    by_cases e : j = k
    · rw [if_pos e, if_pos e]
      exact .cons q (RKs.mapK q r)
    · rw [if_neg e, if_neg e]
      exact .cons h (RKs.mapK q r)
theorem RKs.put {k : Key} {d : D} {v : V} {l : List (Key × D)} {kvs : List (Key × V)} (r : RKs c g L l kvs) (q : RV c g L d v) : RKs c g L (putKD l k d) (putK kvs k v) := by
  unfold putKD putK
  rw [r.any]
  split
  · exact r.mapK q
  · exact r.app (.cons q .nil)
end
def asK (h : Store) : D → Option (List (Key × D))
  | .dct l => some l
  | .ref n => match h[n]? with
    | some (some (.dct l)) => some l
    | _ => none
  | _ => none
section
variable {c : Cf} {g : Gh} {h : Store} {H : Hp} {d : D} {v : V} {l : List (Key × D)}
theorem asK_ok (S : SR c g h H) (r : RV c g h.length d v) (e : asK h d = some l) : ∃ a kvs, v = .ref a ∧ H a = some (.dK kvs) ∧ RKs c g h.length l kvs := by
  cases r with
  | dct h1 r => cases e; exact ⟨_, _, rfl, S.sub _ _ h1, r⟩
  | @ref n hn =>
    unfold asK at e
    dsimp only at e
    split at e
    · rename_i l' e1
      cases e
      obtain ⟨vs, e2, r2⟩ := S.cell n _ e1
      exact ⟨_, vs, rfl, e2, r2⟩
    · cases e
  | _ => cases e
end
/-- d[k], k in d -/
def oDget (x y : D) (h : Store) : Res D := match asK h x, keyD y with
  | some l, some k => match getKD l k with
    | some d => .ok d h
    | none => .no
  | _, _ => .no
def oDin (y x : D) (h : Store) : Res D := match asK h x, keyD y with
  | some l, some k => .ok (.bl (getKD l k).isSome) h
  | _, _ => .no
def oDnotin (y x : D) (h : Store) : Res D := match asK h x, keyD y with
  | some l, some k => .ok (.bl (!(getKD l k).isSome)) h
  | _, _ => .no
section
variable {c : Cf} {W : WX} {X : Cx} {o i : Expr} {fo fi : Ev D} {pos : Pos}
/-- two values, one after the other -/
theorem ev2a {fo : D → D → Store → Res D} {fa fb : Ev D} {σ : L2.St} {H : Hp} {Q : VK} (x : tEv c W (cBin fo fa fb) σ H Q) : tEv c W fa σ H fun v H1 => tEv c W fb σ H1 fun w H2 => ∃ g h d e, SR c g h H2 ∧ RV c g h.length d v ∧ RV c g h.length e w ∧ RP c (Rv c) g h H2 (fo d e h) Q (fun cls dd H' => W cls dd σ H') := by
  obtain ⟨st, h, g, S, sl, q⟩ := x
  have q : RP c (Rv c) g h H ((fa st h).bind fun a h1 => (fb st h1).bind fun b h2 => fo a b h2) Q (fun cls dd H' => W cls dd σ H') := q
  refine ⟨st, h, g, S, sl, ?_⟩
  cases e1 : fa st h with
  | no => rw [e1] at q; exact q.elim
  | exc ee h1 => rw [e1] at q; exact q
  | ok a h1 =>
    rw [e1, Res.bind_ok] at q
    intro g1 H1 v1 o1 S1 r1
    refine ⟨st, h1, g1, S1, sl.go o1, ?_⟩
    cases e2 : fb st h1 with
    | no => rw [e2] at q; exact q.elim
    | exc ee h2 => rw [e2] at q; exact fun g' H' cls dd o S' rx => q g' H' cls dd (o1.trans o) S' rx
    | ok b h2 =>
      rw [e2, Res.bind_ok] at q
      intro g2 H2 v2 o2 S2 r2
      exact ⟨g2, h2, a, b, S2, r1.mono o2.gx o2.len, r2, RP.go q (o1.trans o2)⟩
theorem tEv.mono {f : Ev D} {σ : L2.St} {H : Hp} {Q Q' : VK} (x : tEv c W f σ H Q) (k : ∀ v H', Q v H' → Q' v H') : tEv c W f σ H Q' := by
  obtain ⟨st, h, g, S, sl, q⟩ := x
  exact ⟨st, h, g, S, sl, RP.mono q k⟩
theorem e_dget (hu : X.A.units + 1 < cLine) (ho : PE X o (tEv c W fo)) (hi : PE X i (tEv c W fi)) (hs : NoSl i) : PE X (.Subscript o i pos) (tEv c W (cBin oDget fo fi)) := PE.imp (pe_dget hu ho hi hs) fun σ H Q x =>
  (ev2a x).mono fun v H1 y => y.mono fun w H2 ⟨g, h, d, e, S, r1, r2, q⟩ => by
    unfold oDget at q
    split at q
    · rename_i l k el ek
      obtain ⟨a, kvs, rfl, hD, rs⟩ := asK_ok S r1 el
      have ew := keyD_ok r2 ek
      subst ew
      rcases rs.get (k := k) with ⟨z, _⟩ | ⟨d', v', z1, z2, rd⟩
      · rw [z] at q; exact q.elim
      · rw [z1] at q
        exact ⟨a, v', rfl, by rw [← z2]; exact .k hD, RP.ok_here q S rd⟩
    · exact q.elim
theorem c_din (hu : X.A.units + 1 < cLine) (hi : PE X i (tEv c W fi)) (ho : PE X o (tEv c W fo)) : PC X .In i o (tEv c W (cBin oDin fi fo)) := ⟨fun pins s σ H Q I x => (pc_din hu hi ho).run pins s σ H Q I ((ev2a x).mono fun v H1 y => y.mono fun w H2 ⟨g, h, d, e, S, r1, r2, q⟩ => by
    unfold oDin at q
    split at q
    · rename_i l k el ek
      obtain ⟨a, kvs, rfl, hD, rs⟩ := asK_ok S r2 el
      have ew := keyD_ok r1 ek
      subst ew
      refine ⟨a, _, rfl, .k hD, ?_⟩
      rcases rs.get (k := k) with ⟨z1, z2⟩ | ⟨d', v', z1, z2, rd⟩ <;> rw [z1] at q <;> rw [z2] <;> exact RP.ok_here q S (.bl _)
    · exact q.elim)⟩
theorem c_dnotin (hu : X.A.units + 1 < cLine) (hi : PE X i (tEv c W fi)) (ho : PE X o (tEv c W fo)) : PC X .NotIn i o (tEv c W (cBin oDnotin fi fo)) := ⟨fun pins s σ H Q I x => (pc_dnotin hu hi ho).run pins s σ H Q I ((ev2a x).mono fun v H1 y => y.mono fun w H2 ⟨g, h, d, e, S, r1, r2, q⟩ => by
    unfold oDnotin at q
    split at q
    · rename_i l k el ek
      obtain ⟨a, kvs, rfl, hD, rs⟩ := asK_ok S r2 el
      have ew := keyD_ok r1 ek
      subst ew
      refine ⟨a, _, rfl, .k hD, ?_⟩
      rcases rs.get (k := k) with ⟨z1, z2⟩ | ⟨d', v', z1, z2, rd⟩ <;> rw [z1] at q <;> rw [z2] <;> exact RP.ok_here q S (.bl _)
    · exact q.elim)⟩
theorem e_din (hu : X.A.units + 1 < cLine) (hi : PE X i (tEv c W fi)) (ho : PE X o (tEv c W fo)) (hm : behindInMarks .In o = false := by rfl) : PE X (.Compare i [.In] [o] pos) (tEv c W (cBin oDin fi fo)) := pe_cmp (c_din hu hi ho) hm
theorem e_dnotin (hu : X.A.units + 1 < cLine) (hi : PE X i (tEv c W fi)) (ho : PE X o (tEv c W fo)) (hm : behindInMarks .NotIn o = false := by rfl) : PE X (.Compare i [.NotIn] [o] pos) (tEv c W (cBin oDnotin fi fo)) := pe_cmp (c_dnotin hu hi ho) hm
theorem t_din (hu : X.A.units + 1 < cLine) (hi : PE X i (tEv c W fi)) (ho : PE X o (tEv c W fo)) (hm : behindInMarks .In o = false := by rfl) : PT X (.Compare i [.In] [o] pos) (tTe c W (cTv (cBin oDin fi fo))) := PT.imp (pt_cmp (c_din hu hi ho) hm) fun _ _ _ => tv
theorem t_dnotin (hu : X.A.units + 1 < cLine) (hi : PE X i (tEv c W fi)) (ho : PE X o (tEv c W fo)) (hm : behindInMarks .NotIn o = false := by rfl) : PT X (.Compare i [.NotIn] [o] pos) (tTe c W (cTv (cBin oDnotin fi fo))) := PT.imp (pt_cmp (c_dnotin hu hi ho) hm) fun _ _ _ => tv
end
end Gm

/-! Gm10: dict comprehensions. -/
namespace Gm
open PySem PySem.Spec PyProof.Rows L2
section
variable {c : Cf} {g g1 : Gh} {h h1 : Store} {H H1 : Hp}
theorem SR.sideM {a : Addr} {o o' : HO} (S : SR c g h H) (ha : H a = some o) (mu : Mut (some o)) (nx : ∀ φ, o ≠ .ext φ) (ta : g.tr a = none) (nl : ∀ n, Live h n → g.io n ≠ a) : SR c g h (upd H a o') where
  sub := fun b u e => by
    have hb : b ≠ a := fun z => by rw [z, ta] at e; cases e
    rw [upd_ne hb]
    exact S.sub b u e
  apart := S.apart
  cell := fun n ce e => (S.cell n ce e).mono (Gx.refl _ _) (Nat.le_refl _) (upd_ne (nl n ⟨ce, e⟩))
  inj := S.inj
  tabs := tabs_write S.tabs ha mu nx
  nt := S.nt
/-- a thing made aside joins what stays -/
theorem SR.join {a : Addr} {o : HO} (S : SR c g h H) (x : Go g1 h1 H1 g h H) (nD : H1 a = none) (hD : H a = some o) (tD : g.tr a = none) (nl : ∀ n, Live h n → g.io n ≠ a) (no : ∀ ps, o ≠ .tbl ps := by intro ps z; cases z) :
    SR c { g with tr := upd g.tr a o } h H ∧ Go g1 h1 H1 { g with tr := upd g.tr a o } h H ∧ Gx g h.length { g with tr := upd g.tr a o } := by
  have k : ∀ b u, g.tr b = some u → upd g.tr a o b = some u := fun b u e => by
    have hb : b ≠ a := fun z => by rw [z, tD] at e; cases e
    rw [upd_ne hb]
    exact e
  have gx : Gx g h.length { g with tr := upd g.tr a o } := ⟨fun _ _ => rfl, fun b u e => k b u e⟩
  refine ⟨⟨fun b u e => ?_, fun n ln => ?_, fun n ce e => (S.cell n ce e).mono gx (Nat.le_refl _) rfl, S.inj, S.tabs, nt_upd S.nt no⟩, ⟨x.len, x.io, fun b u e => k b u (x.tr b u e), x.dm, x.fr, fun b u e nt t nl2 => ?_, x.old, x.new⟩, gx⟩
  · have e : upd g.tr a o b = some u := e
    by_cases z : b = a
    · rw [z, upd_same] at e
      rw [z, hD, e]
    · rw [upd_ne z] at e
      exact S.sub b u e
  · show upd g.tr a o (g.io n) = none
    rw [upd_ne (nl n ln)]
    exact S.apart n ln
  · show upd g.tr a o b = none
    rw [upd_ne (ne_of_none e nD)]
    exact x.tn b u e nt t nl2
end
def dcL (fg : D → Slots → Option Slots) (ft : Ev Bool) (fk fv : Ev D) (st0 : Slots) : List D → List (Key × D) → Store → Res (List (Key × D))
  | [], acc, h => .ok acc h
  | d :: l, acc, h => match fg d st0 with
    | none => .no
    | some st1 => (ft st1 h).sure.bind fun b h1 => if b = true then (fk st1 h1).sure.bind fun y h2 => (fv st1 h2).sure.bind fun z h3 => match keyD y with
      | some k => dcL fg ft fk fv st0 l (putKD acc k z) h3
      | none => .no else dcL fg ft fk fv st0 l acc h1
def cDc (fi : Ev (List D)) (fg : D → Slots → Option Slots) (ft : Ev Bool) (fk fv : Ev D) (own : List Nat) : Ev D := fun st h =>
  (fi st h).bind fun l h1 => if l.length ≤ sizeLine then (dcL fg ft fk fv (wipeD st own) l [] h1).bind fun ys h2 => .ok (.dct ys) h2 else .no
def dcRest (fg : D → Slots → Option Slots) (ft : Ev Bool) (fk fv : Ev D) (st0 : Slots) (l : List D) (acc : List (Key × D)) (h : Store) : Res D := (dcL fg ft fk fv st0 l acc h).bind fun ys h2 => .ok (.dct ys) h2
theorem putKD_len (l : List (Key × D)) (k : Key) (d : D) : (putKD l k d).length ≤ l.length + 1 := by
  unfold putKD
  split <;> simp
section
variable {c : Cf} {W : WX} {X : Cx} {pos : Pos}
theorem dc_ok {gt : TG} {fi : Ev (List D)} {fg : D → Slots → Option Slots} {ft : Ev Bool} {fk fv : Ev D} {vs : List Nat} (tgn : TgN c vs gt fg) {σ : L2.St} {H : Hp} {Q : VK}
    (x : tEv c W (cDc fi fg ft fk fv vs) σ H Q) : tDc (tIt c W fi) gt (tTe c W0 ft) (tEv c W0 fk) (tEv c W0 fv) vs σ H Q := by
  obtain ⟨st, h, g, S, sl, q⟩ := x
  refine ⟨st, h, g, S, sl, RP.mono (RP.bind q) fun J H1 ⟨l, h1, g1, o1, S1, k1, q1⟩ => ?_⟩
  by_cases hl : l.length ≤ sizeLine
  case neg => rw [if_neg hl] at q1; exact q1.elim
  rw [if_pos hl] at q1
  intro D0 nD
  have sl1 := (sl.go o1).wipe vs
  obtain ⟨S1', t1, nl1⟩ := S1.side0 (o := .dK []) nD
  have dt : ∀ ys : List (Key × V), ∀ ps, (HO.dK ys) ≠ .tbl ps := fun ys ps z => by cases z
  let St : Nat → Hp → Prop := fun i H => i ≤ l.length ∧ ∃ acc ws h g, SR c g h H ∧ Go g1 h1 H1 g h H ∧ H D0 = some (.dK ws) ∧ g.tr D0 = none ∧ (∀ n, Live h n → g.io n ≠ D0) ∧ RKs c g h.length acc ws ∧ acc.length ≤ i ∧
    RP c (Rv c) g1 h1 H1 (dcRest fg ft fk fv (wipeD st vs) (l.drop i) acc h) Q (fun cls dd H' => W cls dd σ H')
  refine ⟨fun i m' H => m' = l.length - i ∧ St i H, ⟨_, rfl, Nat.zero_le _, [], [], h1, g1, S1', (Go.refl _ _ _).side nD, upd_same, t1, nl1, .nil, Nat.le_refl _, q1⟩, ?_⟩
  rintro i m' H ⟨rfl, hi, acc, ws, h, g, S, o, hD, tD, nlD, rs, ha, q⟩
  obtain ⟨ks, kg⟩ := k1 g h H i S o.gx o.len
  by_cases hlt : i < l.length
  · obtain ⟨go, yl⟩ := kg l[i] (List.getElem?_eq_getElem hlt)
    refine .inr ⟨go, St (i + 1), fun H' x => ⟨l.length - (i + 1), by omega, rfl, x⟩, fun x H' y => ?_⟩
    obtain ⟨g2, o2, S2, r2⟩ := yl x H' y
    rw [List.drop_eq_getElem_cons hlt] at q
    unfold dcRest dcL at q
    cases e1 : fg l[i] (wipeD st vs) with
    | none => rw [e1] at q; exact q.elim
    | some st1 =>
      rw [e1] at q
      dsimp only at q
      have o12 := o.trans o2
      refine tgn.ok S2 (((sl.go o1).go o12).wipe vs) r2 e1 wipe_wipe fun σ2 sl2 ew => ⟨ew, st1, h, g2, S2, sl2, ?_⟩
      have hD2 := o2.fr _ _ hD (dt _) nlD
      have tD2 := o2.tn _ _ hD (dt _) tD nlD
      have nlD2 := o2.apart hD (dt _) nlD
      have rs2 := rs.mono o2.gx o2.len
      cases e2 : ft st1 h with
      | no => rw [e2] at q; exact q.elim
      | exc ee h3 => rw [e2] at q; exact q.elim
      | ok b h3 =>
        rw [e2, Res.sure_ok, Res.bind_ok] at q
        intro g3 H3 b' o3 S3 eb
        have eb : b = b' := eb
        subst eb
        have hD3 := o3.fr _ _ hD2 (dt _) nlD2
        have tD3 := o3.tn _ _ hD2 (dt _) tD2 nlD2
        have nlD3 := o3.apart hD2 (dt _) nlD2
        have rs3 := rs2.mono o3.gx o3.len
        cases b with
        | false => exact ⟨hlt, acc, ws, h3, g3, S3, o12.trans o3, hD3, tD3, nlD3, rs3, Nat.le_succ_of_le ha, q⟩
        | true =>
          rw [if_pos rfl]
          refine ⟨st1, h3, g3, S3, sl2.go o3, ?_⟩
          cases e3 : fk st1 h3 with
          | no => rw [if_pos rfl, e3] at q; exact q.elim
          | exc ee h4 => rw [if_pos rfl, e3] at q; exact q.elim
          | ok yv h4 =>
            rw [if_pos rfl, e3, Res.sure_ok, Res.bind_ok] at q
            intro g4 H4 v4 o4 S4 r4
            have hD4 := o4.fr _ _ hD3 (dt _) nlD3
            have tD4 := o4.tn _ _ hD3 (dt _) tD3 nlD3
            have nlD4 := o4.apart hD3 (dt _) nlD3
            have rs4 := rs3.mono o4.gx o4.len
            refine ⟨st1, h4, g4, S4, (sl2.go o3).go o4, ?_⟩
            cases e4 : fv st1 h4 with
            | no => rw [e4] at q; exact q.elim
            | exc ee h5 => rw [e4] at q; exact q.elim
            | ok zv h5 =>
              rw [e4, Res.sure_ok, Res.bind_ok] at q
              intro g5 H5 v5 o5 S5 r5
              have hD5 := o5.fr _ _ hD4 (dt _) nlD4
              have tD5 := o5.tn _ _ hD4 (dt _) tD4 nlD4
              have nlD5 := o5.apart hD4 (dt _) nlD4
              have rs5 := rs4.mono o5.gx o5.len
              cases ek : keyD yv with
              | none => rw [ek] at q; exact q.elim
              | some k =>
                rw [ek] at q
                have hlen := rs.len
                refine ⟨ws, k, keyD_ok r4 ek, hD5, by omega, hlt, putKD acc k zv, putK ws k v5, h5, g5, S5.sideM hD5 trivial (fun φ z => by cases z) tD5 nlD5, (((o12.trans o3).trans o4).trans o5).side nD, upd_same, tD5, nlD5, rs5.put r5, ?_, q⟩
                exact Nat.le_trans (putKD_len _ _ _) (Nat.succ_le_succ ha)
  · have e : i = l.length := by omega
    subst e
    rw [List.drop_length] at q
    unfold dcRest dcL at q
    rw [Res.bind_ok] at q
    refine .inl ⟨ks (Nat.le_refl _), ?_⟩
    have q : RP c (Rv c) g1 h1 H1 (.ok (.dct acc) h) Q _ := q
    obtain ⟨S9, o9, gx9⟩ := S.join o nD hD tD nlD
    exact q _ H (.ref D0) o9 S9 (.dct upd_same (rs.mono gx9 (Nat.le_refl _)))
theorem swd_true {kx vx : Expr} {gs : List Comprehension} {scope : Scope} {pos py : Pos} {y : Str} {l : Nat} {env : Env} (hk : env.scope.kind = .function) (hy : env.scope.names.lookup y = some .local) (hl : (py.line == pos.line) = true)
    (ha : (scope.names.any fun (n, k) => n == y && (k == .local || k == .cell)) = false) : swapsWith (.DictComp kx vx gs scope pos) (some (.Name y py)) l env = pure true := by
  have ky : env.kindOf y = some .local := hy
  have hb : env.blockKind = .function := by unfold Env.blockKind; rw [hk] <;> rfl
  simp only [swapsWith, hb, ky, ha, Expr.pos, hl]
  rfl
theorem s_setDc {i : Nat} {y : Str} {py spos : Pos} {tg kx vx iter : Expr} {ifs : List Expr} {scope : Scope} {own : List (Str × Nat)} {gt : TG} {fi : Ev (List D)} {fg : D → Slots → Option Slots} {ft : Ev Bool} {fk fv : Ev D} (hc : X.calm = true) (hN : X.N.Nodup) (hy : X.N[i]? = some y) (hyl : X.env.scope.names.lookup y = some .local)
    (hsw : swapsWith (.DictComp kx vx [⟨tg, iter, ifs, 0⟩] scope pos) (some (.Name y py)) spos.line X.env = pure true) (hi : PI X tg iter (tIt c W fi)) (ok : BlkOk X.N X.env.scope scope own)
    (hg : ∀ (s : Shared) (H : Hp) (C : Addr) (cl : List (Str × Addr)) (fp : List Addr), PG (X.blk s H scope (compEnvC scope cl C X.env) fp) tg gt) (tgn : TgN c (own.map (·.2)) gt fg)
    (ht : ∀ (s : Shared) (H : Hp) (C : Addr) (cl : List (Str × Addr)) (fp : List Addr), PTs (X.blk s H scope (compEnvC scope cl C X.env) fp) ifs (tTe c W0 ft))
    (hk : ∀ (s : Shared) (H : Hp) (C : Addr) (cl : List (Str × Addr)) (fp : List Addr), PE (X.blk s H scope (compEnvC scope cl C X.env) fp) kx (tEv c W0 fk))
    (hv : ∀ (s : Shared) (H : Hp) (C : Addr) (cl : List (Str × Addr)) (fp : List Addr), PE (X.blk s H scope (compEnvC scope cl C X.env) fp) vx (tEv c W0 fv)) (hs : ∀ x, foldedSetIterable iter X.env x = pure x := by intro _; rfl) :
    PS X (.Assign [.Name y py] (.DictComp kx vx [⟨tg, iter, ifs, 0⟩] scope pos) spos) (tSt c W (sSet i (cDc fi fg ft fk fv (own.map (·.2))))) := ⟨fun pins s σ H D I ⟨st, h, g, S, sl, q⟩ => by
  have z : tDc (tIt c W fi) gt (tTe c W0 ft) (tEv c W0 fk) (tEv c W0 fv) (own.map (·.2)) σ H fun x H1 => gName i x σ H1 D.nx :=
    dc_ok tgn ⟨st, h, g, S, sl, RP.mono (OP.out sl q) fun v H1 ⟨d, h1, g1, o1, S1, r1, q1⟩ => q1 g1 H1 _ (Go.refl _ _ _) S1 ((sl.go o1).set i r1)⟩
  rw [exec_Assign_Name_used _ _ _ _ hsw]
  refine wpAny_bind (wpAny_standAt (wpAny_bind (wpAny_bind ?_)))
  refine thn (dc_core (use := some (assign (.Name y py) X.env)) (Qf := fun _ t => SP X pins D .next t) hc hN I hi ok hg ht hk hv hs z ?_) fun _ t ht' => wpAny_pure (wpAny_pure ht')
  rintro B C t m H' I' q' hn ⟨f0, f1, f2, f3, f4, f5⟩
  refine wpAny_assign_Name (env := X.env) (store_ok2 (v := V.ref B) I' hN hy (.inl hyl) rfl ?_ (.inr hyl))
  rintro t2 I2 ⟨a, sb, ha⟩
  have ne : C ≠ a := by
    rcases ha with rfl | w
    · exact f1
    · intro e
      exact f4 y a w e.symm
  exact ⟨m, hn.sameBut sb ne, fun h3 sb3 => ⟨_, H', I2.turned (t' := t2.toks) (fun b o hb e => (sb3.2 b hb).trans e) f0 f1 f3 f4 f5, q'⟩⟩⟩
end
end Gm

/-! Gm11: a law's end. -/
namespace Gm
open PySem PySem.Spec PyProof.Rows L2
/-- the classes by the module's names -/
abbrev cf (K : PySem.W.Frag) : Cf := ⟨K, fun n => some (He.ga K n), [], none⟩
/-! ### what is seen of the head: the kit's facts, and that no limit of digits is set -/
def seeM (fa : List He.Fa) (fn : List He.DefD) (K : PySem.W.Frag) : He.AlD := ((He.obsD fa fn K).1 && I2.noDig K, (He.obsD fa fn K).2)
def adM (g : Addr → Option Obj) (n : Nat) : List Addr := cStatics :: He.asD g n
def hookM (n : Nat) (fa : List He.Fa) (fn : List He.DefD) : PySem.W.Hook where
  α := He.AlD
  obs := fun s => seeM fa fn (He.frG s.heap.get? (adM s.heap.get? n))
  val := fun _ => He.valD fn
  says := fun _ h => ∃ K : PySem.W.Frag, K.In h ∧ seeM fa fn K = He.valD fn
  of := fun _ _ e => ⟨_, He.frG_in, e⟩
  keeps := fun _ _ _ ⟨K, k1, k2⟩ keep => ⟨K, k1.keeps keep, k2⟩
def obM (n : Nat) (fa : List He.Fa) (fn : List He.DefD) (s : PySem.W.SharedT) : He.AlD := seeM fa fn (He.frG (HandSHeadRun.getT s) (adM (HandSHeadRun.getT s) n))
theorem obM_eq {n : Nat} {fa : List He.Fa} {fn : List He.DefD} (s : PySem.W.SharedT) : obM n fa fn s = (hookM n fa fn).obs s.abs := by
  have e : HandSHeadRun.getT s = s.abs.heap.get? := funext (HandSHeadRun.getT_eq s)
  show seeM fa fn (He.frG (HandSHeadRun.getT s) (adM (HandSHeadRun.getT s) n)) = _
  rw [e]
  rfl
theorem seen_of {fa : List He.Fa} {fn : List He.DefD} {K : PySem.W.Frag} (e : seeM fa fn K = He.valD fn) : He.SaysD fa fn K ∧ I2.noDig K = true := by
  have e1 : ((He.obsD fa fn K).1 && I2.noDig K) = true := congrArg (fun z : He.AlD => z.1) e
  have e2 : (seeM fa fn K).2 = (He.valD fn).2 := by rw [e]
  rw [Bool.and_eq_true] at e1
  exact ⟨Prod.ext e1.1 e2, e1.2⟩

/-! ### calls of the defs -/
section
variable {P : Program} {w : World} {K : PySem.W.Frag} {mg : Str → Option Value} {base : Heap} {c : Cf} {x qual : Str} {params : Arguments} {body : List Stmt} {scope : Scope} {kws : List (Str × V)} {f : Addr} {fd : FuncData} {ps : List Str} {k : Nat} {F : FnT}
theorem callOk_of (FD : FunD K x qual params body scope [] kws f fd) (hm : mg x = some (.ref f)) (ok : FnOk P w K mg base (L2N.CX P w) k f fd ps (spOf c F))
    (hb : ∀ (kV doc pm : Value) (an : Option Addr) (cdv ct : Value) (us : List Value), us.length = ps.length → bindArgs (PySem.W.fnOf x qual params body scope .none kV doc pm an cdv ct) ⟨us, []⟩ = pure (ps.zip us)) : CallOk P w K mg base c x k F [] :=
  ⟨f, fd, ps, [], [], hm, ok, FD.kp, FD.bindsN hb, .nil, fun _ _ => .nil⟩
/-- keyword-only parameters that lack -/
theorem callOk_kw (FD : FunD K x qual params body scope [] kws f fd) (hm : mg x = some (.ref f)) (ok : FnOk P w K mg base (L2N.CX P w) k f fd ps (spOf c F)) (n : Nat) {defs : List D} (hk : kws ≠ []) (hn : n + kws.length = ps.length) (rd : ∀ g L, RVs c g L defs (kws.map (·.2)))
    (hb : ∀ (D : Addr) (doc pm : Value) (an : Option Addr) (cdv ct : Value) (us ks : List Value), us.length = n → ks.length = kws.length →
      KwChain D ((kws.map (·.1)).zip ks) (bindArgs (PySem.W.fnOf x qual params body scope .none (.ref D) doc pm an cdv ct) ⟨us, []⟩) (ps.zip (us ++ ks))) : CallOk P w K mg base c x k F defs := by
  obtain ⟨ds, r, b⟩ := FD.binds0 n hk hn hb
  exact ⟨f, fd, ps, ds, kws.map (·.2), hm, ok, FD.kp, b, r, rd⟩
/-- keyword-only parameters, all written -/
theorem callOk_all (FD : FunD K x qual params body scope [] kws f fd) (hm : mg x = some (.ref f)) (ok : FnOk P w K mg base (L2N.CX P w) k f fd ps (spOf c F)) (n : Nat) (ks : List Str)
    (hb : ∀ (kV doc pm : Value) (an : Option Addr) (cdv ct : Value) (us ws : List Value), us.length = n → ws.length = ks.length → bindArgs (PySem.W.fnOf x qual params body scope .none kV doc pm an cdv ct) ⟨us, ks.zip ws⟩ = pure (ps.zip (us ++ ws))) :
    CallOkK P w K mg base c x k F n ks (fun ds es => ds ++ es) := by
  refine ⟨f, fd, ps, fun vs zs => vs ++ zs, fun us ws => us ++ ws, hm, ok, FD.kp, ⟨fun s us ws X l1 l2 => ?_, fun r1 r2 => r1.append r2⟩, fun g L ds vs es ws r1 r2 => r1.append r2⟩
  obtain ⟨oc, od, dV, kV, doc, pm, an, cdv, ct, osl, e, _, _, hD, _⟩ := FD.ex
  rcases hD with ⟨_, e2⟩ | ⟨z, _⟩
  · rw [e, e2]
    exact .of_eq (hb kV doc pm an cdv ct us ws l1 l2)
  · exact absurd rfl z
end

/-! ### the end -/
/-- a heap without its tables -/
def noT (H : Hp) : Hp := fun a => match H a with
  | some (.tbl _) => none
  | o => o
theorem noT_eq {H : Hp} {a : Addr} {o : HO} (h : H a = some o) (n : ∀ ps, o ≠ .tbl ps) : noT H a = some o := by
  unfold noT
  rw [h]
  cases o with
  | tbl ps => exact absurd rfl (n ps)
  | _ => rfl
theorem noT_of {H : Hp} {a : Addr} {o : HO} (h : noT H a = some o) : H a = some o := by
  unfold noT at h
  split at h
  · cases h
  · exact h
theorem noT_nt {H : Hp} (a : Addr) (ps : Array Value) : noT H a ≠ some (.tbl ps) := fun z => by
  unfold noT at z
  split at z
  · cases z
  · rename_i n
    exact n ps z
theorem noT_sqL {K : PySem.W.Frag} {H : Hp} {a : Addr} {xs : List V} (h : SqL K H a xs) : SqL K (noT H) a xs := by
  rcases h with (h | ⟨o, h⟩) | h
  · exact .inl (.inl (noT_eq h fun ps z => by cases z))
  · exact .inl (.inr ⟨o, noT_eq h fun ps z => by cases z⟩)
  · exact .inr h
/-- where a law begins -/
theorem SR.begin {c : Cf} {H : Hp} (t : LamX.Tabs c.tabs H) : SR c ⟨fun _ => 0, noT H⟩ [] H :=
  ⟨fun _ _ e => noT_of e, fun n l => by obtain ⟨_, z⟩ := l; simp at z, fun n ce e => by simp at e, fun n m l _ _ => by obtain ⟨_, z⟩ := l; simp at z, t, noT_nt⟩
theorem fro_ints {c : Cf} {g : Gh} {L : Nat} : ∀ ns : List Int, RVs c g L (ns.map D.int) (ns.map V.int)
  | [] => .nil
  | n :: ns => .cons (.int n) (fro_ints ns)
theorem walk_gm {l : PySem.W.OpenLaw} {n m k : Nat} {q : Program} {loose : List Str} {XP : (Str → Option Value) → Heap → Prop} {d : DefRec} {fa : List He.Fa} {fn : List He.DefD} {Fl : FnT} (hn : l.most = some n) (hn2 : n ≤ sizeLine) (hdf : d.params.defaults = []) (hr : Room k callerA)
    (facts : ∀ (w : World) (K : PySem.W.Frag) (h : Heap) (mg : Str → Option Value) (f : Addr), K.In h → h.Ns mainGlobals mg → mg d.name = some (.ref f) → He.SaysD fa fn K → I2.noDig K = true →
      ∃ fd : FuncData, (∀ (s : Shared) (u : Value), BindsTo s fd ⟨[u], []⟩ [("script", u)]) ∧ ∀ base : Heap, FnOk l.prog w K mg base (L2N.CX l.prog w) k f fd ["script"] (spOf (cf K) Fl))
    (law : ∀ ns : List Int, ns.length ≤ n → ∃ h', Fl [.fro (ns.map .int)] [] = .ok (.bl true) h') : PySem.W.WalkO q loose XP (hookM m fa fn).says l.row.toRowW d [] (fun f vs => PySem.call f vs) := by
  refine Att.attach_call hn hdf ?_
  intro w s0 s1 mg mb f o pm cd doc a vs ns G Y ho hd hcd hmg hobj hints hlen hg
  obtain ⟨K, KX, e⟩ := Y
  obtain ⟨c1, c2⟩ := seen_of e
  obtain ⟨fd, hb, hF⟩ := facts w K _ mg f KX G.T.g hmg c1 c2
  refine law_call (CX := L2N.CX l.prog w) KX G.T.g G.T.b G.T.builtins G.T.nolimit hg hobj hints (Nat.le_trans hlen hn2) hr (fun base _ _ => hF base) hb (fun H _ hS => ?_) ?_
  · refine ⟨[.fro (ns.map .int)], [], ⟨fun _ => 0, noT H⟩, SR.begin (fun p hp => by cases hp), .cons (.fro (noT_sqL hS) (fro_ints ns)) .nil, ?_⟩
    obtain ⟨h', e⟩ := law ns hlen
    rw [e]
    intro g' H' v _ _ r
    cases r
    rfl
  · rintro H e' s' ⟨_, _, _, _, _, _, _, _, _, _, _, _, z⟩
    exact z
end Gm

/-! Gm12: types as values, isinstance, defs that call themselves. -/
namespace Gm
open PySem PySem.Spec PyProof.Rows L2
/-- the name of a value's type -/
def tyD (h : Store) : D → Option String
  | .non => some "NoneType"
  | .bl _ => some "bool"
  | .int _ => some "int"
  | .str _ => some "str"
  | .lst _ => some "list"
  | .fro _ => some "list"
  | .tup _ => some "tuple"
  | .dct _ => some "dict"
  | .ref n => match h[n]? with
    | some (some (.lst _)) => some "list"
    | some (some (.dct _)) => some "dict"
    | _ => none
  | _ => none
def tyNames : List String := ["NoneType", "bool", "int", "str", "list", "tuple", "dict"]
def tyAsk : List String := ["bool", "int", "str", "list", "tuple", "dict"]
def tyIs (a b : String) : Bool := a == b || (a == "bool" && b == "int")
theorem kit_all : (tyNames.all fun a => tyAsk.all fun b => kitB a b == some (tyIs a b)) = true := by decide +kernel
theorem kit_is {a b : String} (ha : a ∈ tyNames) (hb : b ∈ tyAsk) : kitB a b = some (tyIs a b) := by
  have z := List.all_eq_true.mp (List.all_eq_true.mp kit_all a ha) b hb
  exact eq_of_beq z
section
variable {c : Cf} {g : Gh} {h : Store} {H : Hp}
theorem tyD_ok (S : SR c g h H) {d : D} {v : V} {a : String} (r : RV c g h.length d v) (e : tyD h d = some a) : TyX c.K H v (.type a) ∧ a ∈ tyNames := by
  have sq : ∀ {p : Addr} {vs : List V}, SqL c.K H p vs → TyX c.K H (.ref p) (.type "list") := fun {p vs} q => by
    rcases q with (q | ⟨o, q⟩) | ⟨o, its, n, q1, q2, _⟩
    · exact .base (.lst q)
    · exact .base (.frz q)
    · exact .kList q1 q2
  have st : ∀ {p : Addr} {vs : List V}, SqT c.K H p vs → TyX c.K H (.ref p) (.type "tuple") := fun {p vs} q => by
    rcases q with (q | ⟨o, q⟩) | ⟨o, its, n, q1, q2, _⟩
    · exact .base (.tup q)
    · exact .fTuple q
    · exact .kTuple q1 q2
  cases r with
  | non => cases e; exact ⟨.base .non, by decide⟩
  | bl b => cases e; exact ⟨.base (.bl b), by decide⟩
  | int b => cases e; exact ⟨.base (.int b), by decide⟩
  | str b => cases e; exact ⟨.base (.str b), by decide⟩
  | lst q _ => cases e; exact ⟨.base (.lst (S.sub _ _ q)), by decide⟩
  | fro q _ => cases e; exact ⟨sq (SqL.sub S.sub q), by decide⟩
  | tup q _ => cases e; exact ⟨st (SqT.sub S.sub q), by decide⟩
  | dct q _ => cases e; exact ⟨.base (.dK (S.sub _ _ q)), by decide⟩
  | @ref n hn =>
    unfold tyD at e
    dsimp only at e
    split at e
    · rename_i l e1
      cases e
      obtain ⟨vs, e2, _⟩ := S.cell n _ e1
      exact ⟨.base (.lst e2), by decide⟩
    · rename_i l e1
      cases e
      obtain ⟨vs, e2, _⟩ := S.cell n _ e1
      exact ⟨.base (.dK e2), by decide⟩
    · cases e
  | _ => cases e
def fIsi : CallT := fun ds h => match ds with
  | [d, .ty b] => match tyD h d with
    | some a => if b ∈ tyAsk then .ok (.bl (tyIs a b)) h else .no
    | none => .no
  | _ => .no
theorem fIsi_ok : CROk c (rIsi c.K) fIsi := by
  intro g h H ds vs Q E S rs q
  unfold fIsi at q
  split at q
  · rename_i d b
    cases rs with
    | cons r rr =>
      cases rr with
      | cons r2 rr =>
        cases rr
        cases r2
        split at q
        · rename_i a ea
          obtain ⟨ty, hm⟩ := tyD_ok S r ea
          by_cases hb : b ∈ tyAsk
          · rw [if_pos hb] at q
            exact ⟨_, _, _, _, _, rfl, .ty b, ty, kit_ty (kit_is hm hb), RP.ok_here q S (.bl _)⟩
          · rw [if_neg hb] at q
            exact q.elim
        · exact q.elim
  · exact q.elim
end
section
variable {c : Cf} {W : WX} {X : Cx} {e : Expr} {fe : Ev D} {p pos tpos : Pos}
/-- a built-in type's name as a value -/
theorem e_bty {x : Str} {T : String} (hg : Gl X x) (hm : X.mg x = none) (hv : bootBuiltins x = some (.type T)) (hn : x ≠ "__name__" := by decide) (hd : (x == ("__debug__" : Str)) = false := by decide) : PE X (.Name x p) (tEv c W (cK (.ty T))) := e_k (pe_bltn (v := .ty T) hg hm hv rfl hn hd) fun _ _ => .ty T
/-- isinstance(x, (A, B)) -/
def cIs2 (fe : Ev D) (A B : String) : Ev D := fun st h => (fe st h).bind fun d h1 => match tyD h1 d with
  | some a => if A ∈ tyAsk ∧ B ∈ tyAsk then .ok (.bl (tyIs a A || tyIs a B)) h1 else .no
  | none => .no
theorem e_is2 {x y : Str} {A B : String} {k : Nat} {p1 p2 : Pos} (hK : c.K = X.K) (hg : Gl X "isinstance") (hm : X.mg "isinstance" = none) (hv : bootBuiltins "isinstance" = some (.builtin "isinstance")) (he : PE X e (tEv c W fe)) (h1 : PE X (.Name x p1) (tC (.ty A))) (h2 : PE X (.Name y p2) (tC (.ty B)))
    (s1 : starEach [e, .Tuple [.Name x p1, .Name y p2] k tpos] X.env = (false, eval e X.env) :: starEach [.Tuple [.Name x p1, .Name y p2] k tpos] X.env := by rfl) (s2 : starEach [.Tuple [.Name x p1, .Name y p2] k tpos] X.env = (false, eval (.Tuple [.Name x p1, .Name y p2] k tpos) X.env) :: starEach [] X.env := by rfl)
    (s3 : starEach [.Name x p1, .Name y p2] X.env = (false, eval (.Name x p1) X.env) :: starEach [.Name y p2] X.env := by rfl) (s4 : starEach [.Name y p2] X.env = (false, eval (.Name y p2) X.env) :: starEach [] X.env := by rfl)
    (hpl : (backTo pos (starEach [.Tuple [.Name x p1, .Name y p2] k tpos] X.env)).any (·.1) = false := by rfl) :
    PE X (.Call (.Name "isinstance" p) [e, .Tuple [.Name x p1, .Name y p2] k tpos] [] pos) (tEv c W (cIs2 fe A B)) := by
  have pt : PE X (.Tuple [.Name x p1, .Name y p2] k tpos) (tTup (tCons (tC (.ty A)) (tCons (tC (.ty B)) tNil))) := pe_tup (pa_cons h1 (pa_cons h2 pa_nil s4) s3)
  refine PE.imp (pe_callB call_isiT hg hm hv (pa_cons he (pa_cons pt pa_nil s2) s1) (by decide) (by decide) s1 hpl) fun σ H Q ⟨st, h, g, S, sl, q⟩ => ?_
  refine ⟨st, h, g, S, sl, RP.mono (RP.bind q) fun v H1 ⟨d, h1, g1, o1, S1, r1, q1⟩ => ?_⟩
  split at q1
  · rename_i a ea
    by_cases hb : A ∈ tyAsk ∧ B ∈ tyAsk
    · rw [if_pos hb] at q1
      refine ⟨show 2 ≤ sizeLine by decide, fun tp hp => ?_⟩
      obtain ⟨S2, o2⟩ := S1.tree (o := .tup [.ty A, .ty B]) hp
      obtain ⟨ty, hm2⟩ := tyD_ok S2 (r1.mono o2.gx (Nat.le_refl _)) ea
      rw [hK] at ty
      refine ⟨v, tp, [.ty A, .ty B], .type a, [.type A, .type B], tyIs a A || tyIs a B, rfl, upd_same, .cons (.ty A) (.cons (.ty B) .nil), ty, ?_, q1 _ _ _ o2 S2 (.bl _)⟩
      refine kitAny_cons (kit_ty (kit_is hm2 hb.1)) (fun z => ?_) (fun z => by rw [z]; rfl)
      rw [z, Bool.false_or]
      exact kitAny_cons (r := tyIs a B) (kit_ty (kit_is hm2 hb.2)) (fun z2 => by rw [z2]; rfl) (fun z2 => z2)
    · rw [if_neg hb] at q1
      exact q1.elim
  · exact q1.elim
end
/-- a promise of nothing -/
theorem fnOk_no {P : Program} {w : World} {K : PySem.W.Frag} {mg : Str → Option Value} {base : Heap} {CX : CXT} {k : Nat} {f : Addr} {fd : FuncData} {ps : List Str} {c : Cf} : FnOk P w K mg base CX k f fd ps (spOf c fun _ _ => .no) :=
  ⟨fun _ _ _ _ ⟨_, _, _, _, _, q⟩ => q.elim, fun _ _ _ _ _ _ _ _ _ _ _ _ _ ⟨_, _, _, _, _, q⟩ => q.elim⟩
end Gm

/-! Gm13: raising an own class without arguments. -/
namespace Gm
open PySem PySem.Spec PyProof.Rows L2
/-- the module's name x is an own exception class under ValueError, without an own __init__ -/
structure ExOwn (K : PySem.W.Frag) (mg : Str → Option Value) (x : Str) : Prop where
  glo : mg x = some (.ref (He.ga K x))
  inn : PySem.W.excIn K (He.ga K x) He.veBase "ValueError.__new__" = true
  kp : PySem.W.keepIn K (.ref (He.ga K x)) = true
  sub : PySem.W.subIn K (.ref (He.ga K x)) (.type "BaseException") = some true
  ty : PySem.W.typeIn K (.ref (He.ga K x)) = some (.type "type")
theorem exOwn_of {K : PySem.W.Frag} {h : Heap} {mg : Str → Option Value} {x : Str} (k : K.In h) (n : h.Ns mainGlobals mg) (c1 : (He.Fa.glo x).ok K = true) (c2 : (He.Fa.exc x).ok K = true) : ExOwn K mg x := by
  obtain ⟨e1, e2, e3, e4⟩ := He.exc_ok c2
  exact ⟨He.glo_ok k n c1, e1, e2, e3, e4⟩
def sRaise (x : Str) : Ss := fun st h => .exc ⟨x, none⟩ st h
section
variable {c : Cf} {W : WX} {X : Cx} {x : Str} {p pos rpos : Pos}
theorem mk_own0 (F : ExOwn X.K X.mg x) (hg : Gl X x) (hd : (x == ("__debug__" : Str)) = false := by decide) : L2N.PMk X (.Call (.Name x p) [] [] pos) (fun _ H Q => Q (.ref (He.ga X.K x)) none H) := by
  intro pins s σ H Q I q
  refine wpAny_Call_Name_kw (ld_glob I hg F.glo ?_ hd)
  refine PySem.W.callWith_K0 I.kIn F.kp ?_
  obtain ⟨bm, N, nm, qn, bs, hdct, sn, sub, ab, col, dd, k0, k1, k2, k3, k5, mN, hC, hN, hni, T⟩ := exc_obj I.kIn F.inn
  exact wpAny_call_exc_subT PySem.F.excBase_ValueError T hC hN hni (fun h' e hm => L2N.mk_of I hm (raises_own F.sub F.ty) q (I.hok.gone hm.new)) (Nat.zero_le _)
theorem s_raise (hc : X.calm = true) (tk : L2N.Takes X W) (hC : c.cl x = some (He.ga X.K x)) (F : ExOwn X.K X.mg x) (hg : Gl X x) (hd : (x == ("__debug__" : Str)) = false := by decide) : PS X (.Raise (some (.Call (.Name x p) [] [] pos)) none rpos) (tSt c W (sRaise x)) :=
  PS.imp (L2N.ps_raise hc tk (mk_own0 F hg hd)) fun D σ H ⟨st, h, g, S, sl, q⟩ => q g H σ _ none (Go.refl _ _ _) S sl ⟨_, hC, rfl, rfl⟩
end
end Gm

/-! Gm14: instances: made, read, their methods called. -/
namespace Gm
open PySem PySem.Spec PyProof.Rows L2
/-- a cell that becomes what stays -/
theorem SR.still {c : Cf} {g : Gh} {h : Store} {H : Hp} (S : SR c g h H) {n : Nat} {ce : Cell} {o : HO} (hn : h[n]? = some (some ce)) (hv : H (g.io n) = some o) :
    SR c { g with tr := upd g.tr (g.io n) o } (h.set n none) H ∧ Go g h H { g with tr := upd g.tr (g.io n) o } (h.set n none) H := by
  have ln : Live h n := ⟨_, hn⟩
  have no : ∀ ps, o ≠ .tbl ps := fun ps z => by
    obtain ⟨u, hu, mu⟩ := (S.cell n ce hn).some
    rw [hv] at hu
    cases hu
    subst z
    exact mu
  have keep : ∀ a u, g.tr a = some u → upd g.tr (g.io n) o a = some u := fun a u e => by
    have hb : a ≠ g.io n := fun z => by rw [z, S.apart n ln] at e; cases e
    rw [upd_ne hb]
    exact e
  have gx : Gx g h.length { g with tr := upd g.tr (g.io n) o } := ⟨fun _ _ => rfl, fun a u e => keep a u e⟩
  have lv : ∀ m, Live (h.set n none) m → Live h m ∧ m ≠ n := fun m ⟨ce', e⟩ => by
    by_cases z : m = n
    · subst z
      rw [List.getElem?_set_self ln.lt] at e
      cases e
    · rw [List.getElem?_set_ne (Ne.symm z)] at e
      exact ⟨⟨ce', e⟩, z⟩
  constructor
  · refine ⟨fun a u e => ?_, fun m l => ?_, fun m ce' e => ?_, fun m k l1 l2 e => S.inj m k (lv m l1).1 (lv k l2).1 e, S.tabs, nt_upd S.nt no⟩
    · have e : upd g.tr (g.io n) o a = some u := e
      by_cases z : a = g.io n
      · rw [z, upd_same] at e
        rw [z, hv, e]
      · rw [upd_ne z] at e
        exact S.sub a u e
    · show upd g.tr (g.io n) o (g.io m) = none
      obtain ⟨l0, nm⟩ := lv m l
      rw [upd_ne (fun e => nm (S.inj m n l0 ln e))]
      exact S.apart m l0
    · obtain ⟨l0, nm⟩ := lv m ⟨ce', e⟩
      rw [List.getElem?_set_ne (Ne.symm nm)] at e
      rw [List.length_set]
      exact (S.cell m ce' e).mono gx (Nat.le_refl _) rfl
  · refine ⟨by simp, gx.io, gx.tr, fun a u e nt => ⟨u, e, nt⟩, fun a u e _ _ => e, fun a u e _ t nl => ?_, fun m _ l => (lv m l).1, fun m hm l => absurd l.lt (by simpa using hm)⟩
    show upd g.tr (g.io n) o a = none
    rw [upd_ne (Ne.symm (nl n ln))]
    exact t
section
variable {c : Cf} {g : Gh} {L : Nat} {fs : List (Str × D)} {fvs : List (Str × V)}
theorem RFs.lookup {f : Str} : ∀ {fs : List (Str × D)} {fvs : List (Str × V)}, RFs c g L fs fvs → (fs.lookup f = none ∧ fvs.lookup f = none) ∨ ∃ d v, fs.lookup f = some d ∧ fvs.lookup f = some v ∧ RV c g L d v
  | _, _, .nil => .inl ⟨rfl, rfl⟩
  | _, _, .cons (k := k) (d := d) (v := v) h r => by
    rw [List.lookup_cons, List.lookup_cons]
    cases e : f == k with
    | true => exact .inr ⟨d, v, rfl, rfl, h⟩
    | false => exact RFs.lookup r
theorem RFs.len : ∀ {fs : List (Str × D)} {fvs : List (Str × V)}, RFs c g L fs fvs → fs.length = fvs.length
  | _, _, .nil => rfl
  | _, _, .cons _ r => by simp only [List.length_cons, RFs.len r]
end
/-- an instance: one that stays, a cell's -/
def asO (h : Store) : D → Option (Str × List (Str × D))
  | .obj n fs => some (n, fs)
  | .ref m => match h[m]? with
    | some (some (.obj n fs)) => some (n, fs)
    | _ => none
  | _ => none
theorem asO_ok {c : Cf} {g : Gh} {h : Store} {H : Hp} {d : D} {v : V} {n : Str} {fs : List (Str × D)} (S : SR c g h H) (r : RV c g h.length d v) (e : asO h d = some (n, fs)) : ∃ a C dx fvs, v = .ref a ∧ H a = some (.ins C dx fvs) ∧ c.cl n = some C ∧ RFs c g h.length fs fvs := by
  cases r with
  | obj h1 hc r => cases e; exact ⟨_, _, _, _, rfl, S.sub _ _ h1, hc, r⟩
  | @ref m hm =>
    unfold asO at e
    dsimp only at e
    split at e
    · rename_i n' fs' e1
      cases e
      obtain ⟨C, dx, fvs, e2, e3, r2⟩ := S.cell m _ e1
      exact ⟨_, C, dx, fvs, rfl, e2, e3, r2⟩
    · cases e
  | _ => cases e
section
variable {c : Cf} {W : WX} {X : Cx} {o value : Expr} {fo fv : Ev D} {f n : Str} {C : Addr} {pos pos' apos cpos : Pos}
def cFld (n f : Str) (fo : Ev D) : Ev D := fun st h => (fo st h).bind fun d h1 => match asO h1 d with
  | some (n', fs) => if n' = n then match fs.lookup f with
      | some v => .ok v h1
      | none => .no
    else .no
  | none => .no
theorem e_fld (hK : c.K = X.K) (hC : c.cl n = some C) (hc : Cls X.K C) (hn : NoAttr X.K C f) (ho : PE X o (tEv c W fo)) (hb : attributeBase o f X.env (eval o X.env) = eval o X.env := by rfl) : PE X (.Attribute o f pos) (tEv c W (cFld n f fo)) :=
  PE.imp (pe_fld ho hb) fun σ H Q ⟨st, h, g, S, sl, q⟩ => by
    refine ⟨st, h, g, S, sl, RP.mono (RP.bind q) fun v H1 ⟨d, h1, g1, o1, S1, r1, q1⟩ => ?_⟩
    split at q1
    · rename_i n' fs en
      by_cases e : n' = n
      · rw [if_pos e] at q1
        subst e
        obtain ⟨a, C', dx, fvs, rfl, e2, e3, r2⟩ := asO_ok S1 r1 en
        have : C' = C := by rw [hC] at e3; exact (Option.some.inj e3).symm
        subst this
        rcases r2.lookup (f := f) with ⟨z1, _⟩ | ⟨d', v', z1, z2, rv⟩
        · rw [z1] at q1; exact q1.elim
        · rw [z1] at q1
          exact ⟨a, C', dx, fvs, v', rfl, e2, hc, hn, z2, RP.ok_here q1 S1 rv⟩
      · rw [if_neg e] at q1; exact q1.elim
    · exact q1.elim
/-- fields, written -/
def putFD (f : Str) (d : D) : List (Str × D) → List (Str × D)
  | [] => [(f, d)]
  | (k, e) :: r => if k = f then (k, d) :: r else (k, e) :: putFD f d r
theorem RFs.put {g : Gh} {L : Nat} {d : D} {v : V} (q : RV c g L d v) : ∀ {fs : List (Str × D)} {fvs : List (Str × V)}, RFs c g L fs fvs → RFs c g L (putFD f d fs) (putF f v fvs)
  | _, _, .nil => .cons q .nil
  | _, _, .cons (k := k) h r => by
    unfold putFD putF
    by_cases e : k = f
    · rw [if_pos e, if_pos e]
      exact .cons q r
    · rw [if_neg e, if_neg e]
      exact .cons h (RFs.put q r)
def sFldD (n f : Str) (fv fo : Ev D) : Ss := fun st h => (fv st h).out st fun d h1 => (fo st h1).out st fun x h2 => match x with
  | .ref m => match h2[m]? with
    | some (some (.obj n' fs)) => if n' = n ∧ fs.length < 1000 then .next st (h2.set m (some (.obj n' (putFD f d fs)))) else .no
    | _ => .no
  | _ => .no
theorem s_fld (hK : c.K = X.K) (hC : c.cl n = some C) (hc : Cls X.K C) (hn : NoAttr X.K C f) (ho : PE X o (tEv c W fo)) (hv : PE X value (tEv c W fv)) (hs : swapsWith value (some (.Attribute o f pos')) pos.line X.env = pure false := by rfl) :
    PS X (.Assign [.Attribute o f pos'] value pos) (tSt c W (sFldD n f fv fo)) := PS.imp (ps_fld ho hv hs) fun D σ H ⟨st, h, g, S, sl, q⟩ => by
  refine ⟨st, h, g, S, sl, RP.mono (OP.out sl q) fun v H1 ⟨d, h1, g1, o1, S1, r1, q1⟩ => ?_⟩
  refine ⟨st, h1, g1, S1, sl.go o1, RP.mono (OP.out (sl.go o1) q1) fun x H2 ⟨xd, h2, g2, o2, S2, r2, q2⟩ => ?_⟩
  have o12 := o1.trans o2
  cases r2 with
  | @ref m hm =>
    dsimp only at q2
    split at q2
    · rename_i n' fs e1
      by_cases e : n' = n ∧ fs.length < 1000
      · rw [if_pos e] at q2
        obtain ⟨en, el⟩ := e
        subst en
        obtain ⟨C', dx, fvs, e2, e3, rr⟩ := S2.cell m _ e1
        have : C' = C := by rw [hC] at e3; exact (Option.some.inj e3).symm
        subst this
        obtain ⟨S3, o3⟩ := S2.write (o := .ins C' dx (putF f v fvs)) (ce' := .obj n' (putFD f d fs)) e1 ⟨C', dx, _, upd_same, hC, rr.put (r1.mono o2.gx o2.len)⟩
        exact ⟨_, C', dx, fvs, rfl, e2, hc, hn, by rw [← rr.len]; exact el, q2 g2 _ σ o3 S3 (sl.go (o12.trans o3))⟩
      · rw [if_neg e] at q2; exact q2.elim
    · exact q2.elim
  | _ => exact q2.elim
/-- a method of the class n -/
def cMeth (n m : Str) (F : FnT) (defs : List D) (fo : Ev D) (fs : Ev (List D)) : Ev D := fun st h => (fo st h).bind fun d h1 => match asO h1 d with
  | some (n', ff) => if n' = n ∧ ff.lookup m = none then (fs st h1).bind fun ds h2 => F (d :: (ds ++ defs)) h2 else .no
  | none => .no
/-- a method by the way it is called -/
def MethOk (P : Program) (w : World) (K : PySem.W.Frag) (mg : Str → Option Value) (base : Heap) (c : Cf) (n m : Str) (k : Nat) (F : FnT) (defs : List D) : Prop :=
  ∃ (C f : Addr) (fd : FuncData) (ps : List Str) (ds : List Value) (dvs : List V), c.cl n = some C ∧ Cls K C ∧ Meth K C m f ∧ FnOk P w K mg base (L2N.CX P w) k f fd ps (spOf c F) ∧ L2.Binds K fd ps ds ∧ Vals dvs ds ∧ ∀ g L, RVs c g L defs dvs
theorem methR {m : Str} {F : FnT} {defs : List D} {dvs : List V} {E : XK} {ta : TA} {fs : Ev (List D)} (hC : c.cl n = some C) (rd : ∀ g L, RVs c g L defs dvs) (hW : ∀ cls dd σ H, W cls dd σ H → E cls dd H) (hta : ∀ σ H Q, tAr c W fs σ H Q → ta σ H Q) {σ : L2.St} {H : Hp} {Q : VK}
    (x : tEv c W (cMeth n m F defs fo fs) σ H Q) : tMeth C m (spOf c F) dvs E (tEv c W fo) ta σ H Q := by
  obtain ⟨st, h, g, S, sl, q⟩ := x
  refine ⟨st, h, g, S, sl, RP.mono (RP.bind q) fun v H1 ⟨d, h1, g1, o1, S1, r1, q1⟩ => ?_⟩
  split at q1
  · rename_i n' ff en
    by_cases e : n' = n ∧ ff.lookup m = none
    · rw [if_pos e] at q1
      obtain ⟨e1, e2⟩ := e
      subst e1
      obtain ⟨a, C', dx, fvs, ev, e3, e4, r2⟩ := asO_ok S1 r1 en
      have : C' = C := by rw [hC] at e4; exact (Option.some.inj e4).symm
      subst this
      have lk : fvs.lookup m = none := by
        rcases r2.lookup (f := m) with ⟨_, z⟩ | ⟨d', v', z1, _, _⟩
        · exact z
        · rw [z1] at e2; cases e2
      refine ⟨a, dx, fvs, ev, e3, lk, hta _ _ _ ⟨st, h1, g1, S1, sl.go o1, RP.mono (RP.bind q1) fun vs H2 ⟨ds, h2, g2, o2, S2, r3, q2⟩ => ?_⟩⟩
      refine ⟨d :: (ds ++ defs), h2, g2, S2, .cons (r1.mono o2.gx o2.len) (r3.append (rd _ _)), ?_⟩
      cases er : F (d :: (ds ++ defs)) h2 with
      | ok d3 h3 => rw [er] at q2; exact q2
      | exc ee h3 => rw [er] at q2; exact fun g' H' cls dd o S' rx => hW _ _ _ _ (q2 g' H' cls dd o S' rx)
      | no => rw [er] at q2; exact q2
    · rw [if_neg e] at q1; exact q1.elim
  · exact q1.elim
theorem e_meth0 {m : Str} {k j : Nat} {F : FnT} {defs : List D} {E : XK} {pl : Sem Bool} (G : MethOk X.prog X.w X.K X.mg X.base c n m k F defs) (hr : Room j X.A) (hj : k ≤ j) (hx : Passes (L2N.CX X.prog X.w) X E) (hW : ∀ cls dd σ H, W cls dd σ H → E cls dd H) (ho : PE X o (tEv c W fo))
    (ht : eval (.Call (.Attribute o m apos) [] [] cpos) X.env = (do
      let ov ← eval o X.env
      standAt apos.atName
      let (f, first) ← holding [ov] (getMethod ov m pl)
      callWith cpos f first (backTo cpos (starEach [] X.env)) (backToKw cpos (keywordEach [] X.env))) := by rfl) : PE X (.Call (.Attribute o m apos) [] [] cpos) (tEv c W (cMeth n m F defs fo cNil)) := by
  obtain ⟨C, f, fd, ps, ds, dvs, hC, hc, hm, ok, hb, hd, rd⟩ := G
  exact PE.imp (pe_meth0 (E := E) ho hc hm ok (hr.mono hj) hb hd hx ht) fun σ H Q x => methR hC rd hW (fun σ H Q ⟨st, h, g, S, sl, q⟩ => RP.ok_here (α := List D) (β := List V) (R := Rvs c) q S .nil) x
theorem e_meth {m : Str} {k j : Nat} {F : FnT} {defs : List D} {E : XK} {pl : Sem Bool} {e : Expr} {es : List Expr} {fs : Ev (List D)} (G : MethOk X.prog X.w X.K X.mg X.base c n m k F defs) (hr : Room j X.A) (hj : k ≤ j) (hx : Passes (L2N.CX X.prog X.w) X E) (hW : ∀ cls dd σ H, W cls dd σ H → E cls dd H)
    (ho : PE X o (tEv c W fo)) (ha : PA X (e :: es) (tAr c W fs)) (hst : starEach (e :: es) X.env = (false, eval e X.env) :: starEach es X.env := by rfl) (hpl : (backTo cpos (starEach es X.env)).any (·.1) = false := by rfl)
    (ht : eval (.Call (.Attribute o m apos) (e :: es) [] cpos) X.env = (do
      let ov ← eval o X.env
      standAt apos.atName
      let (f, first) ← holding [ov] (getMethod ov m pl)
      callWith cpos f first (backTo cpos (starEach (e :: es) X.env)) (backToKw cpos (keywordEach [] X.env))) := by rfl) : PE X (.Call (.Attribute o m apos) (e :: es) [] cpos) (tEv c W (cMeth n m F defs fo fs)) := by
  obtain ⟨C, f, fd, ps, ds, dvs, hC, hc, hm, ok, hb, hd, rd⟩ := G
  exact PE.imp (pe_meth (E := E) ho hc hm ok (hr.mono hj) hb hd hx ha hst hpl ht) fun σ H Q x => methR hC rd hW (fun _ _ _ z => z) x
/-- n(..): a new instance, which stays as __init__ leaves it -/
def cMake (n : Str) (F : FnT) (defs : List D) (fs : Ev (List D)) : Ev D := fun st h => (fs st h).bind fun ds h1 => (F (.ref h1.length :: (ds ++ defs)) (h1 ++ [some (.obj n [])])).bind fun d h2 => match d, h2[h1.length]? with
  | .non, some (some (.obj n' ff)) => cleanD h1.length (.ok (.obj n' ff) (h2.set h1.length none))
  | _, _ => .no
def MakeOk (P : Program) (w : World) (K : PySem.W.Frag) (mg : Str → Option Value) (base : Heap) (c : Cf) (n : Str) (k : Nat) (F : FnT) (defs : List D) : Prop :=
  ∃ (C f : Addr) (fd : FuncData) (ps : List Str) (ds : List Value) (dvs : List V), mg n = some (.ref C) ∧ c.cl n = some C ∧ Mk K C f ∧ FnOk P w K mg base (L2N.CX P w) k f fd ps (spOf c F) ∧ L2.Binds K fd ps ds ∧ Vals dvs ds ∧ ∀ g L, RVs c g L defs dvs
theorem makeR {F : FnT} {defs : List D} {dvs : List V} {E : XK} {fs : Ev (List D)} (hC : c.cl n = some C) (rd : ∀ g L, RVs c g L defs dvs) (hW : ∀ cls dd σ H, W cls dd σ H → E cls dd H) {σ : L2.St} {H : Hp} {Q : VK}
    (x : tEv c W (cMake n F defs fs) σ H Q) : tMake C (spOf c F) dvs E (tAr c W fs) σ H Q := by
  obtain ⟨st, h, g, S, sl, q⟩ := x
  refine ⟨st, h, g, S, sl, RP.mono (RP.bind q) fun vs H1 ⟨ds, h1, g1, o1, S1, r1, q1⟩ => ?_⟩
  intro a dx ha hd hne
  obtain ⟨S2, _, _⟩ := S1.side0 (o := .own a) hd
  have o2 : Go g1 h1 H1 g1 h1 (upd H1 dx (.own a)) := (Go.refl g1 h1 H1).side hd
  have ha2 : upd H1 dx (.own a) a = none := by rw [upd_ne (Ne.symm hne)]; exact ha
  obtain ⟨S3, o3⟩ := S2.push (o := .ins C dx []) (ce := .obj n []) ha2 fun g' gx => ⟨C, dx, [], upd_same, hC, .nil⟩
  have o23 := o2.trans o3
  have io3 : (g1.push h1.length a).io h1.length = a := by
    show (if h1.length = h1.length then a else _) = a
    rw [if_pos rfl]
  have hl : h1.length < (h1 ++ [some (Cell.obj n [])]).length := by simp
  have r0 : RV c (g1.push h1.length a) (h1 ++ [some (Cell.obj n [])]).length (.ref h1.length) (.ref a) := by
    have z := RV.ref (c := c) (g := g1.push h1.length a) hl
    rw [io3] at z
    exact z
  refine ⟨.ref h1.length :: (ds ++ defs), h1 ++ [some (.obj n [])], g1.push h1.length a, S3, .cons r0 ((r1.mono o23.gx o23.len).append (rd _ _)), ?_⟩
  cases er : F (.ref h1.length :: (ds ++ defs)) (h1 ++ [some (.obj n [])]) with
  | no => rw [er] at q1; exact q1.elim
  | exc ee h3 => rw [er] at q1; exact fun g' H' cls dd o S' rx => hW _ _ _ _ (q1 g' H' cls dd (o23.trans o) S' rx)
  | ok d h2 =>
    rw [er, Res.bind_ok] at q1
    intro g4 H4 v4 o4 S4 r4
    split at q1
    · rename_i n' ff ec
      cases r4
      refine ⟨rfl, ?_⟩
      have q2 := RP.clean q1
      obtain ⟨C', dx', fvs, e2, e3, rr⟩ := S4.cell _ _ ec
      obtain ⟨S5, o5⟩ := S4.still ec e2
      have io4 : g4.io h1.length = a := by rw [o4.io _ hl, io3]
      have z := q2 _ H4 (.ref (g4.io h1.length)) ((o23.trans o4).trans o5) S5 (.obj upd_same e3 (by rw [List.length_set]; exact rr.mono o5.gx (by simp)))
      rw [io4] at z
      exact z
    · exact q1.elim
theorem e_make {k j : Nat} {F : FnT} {defs : List D} {E : XK} {p pos : Pos} {e : Expr} {es : List Expr} {fs : Ev (List D)} (G : MakeOk X.prog X.w X.K X.mg X.base c n k F defs) (hr : Room j X.A) (hj : k + 1 ≤ j) (hx : Passes (L2N.CX X.prog X.w) X E) (hW : ∀ cls dd σ H, W cls dd σ H → E cls dd H) (hg : Gl X n)
    (ha : PA X (e :: es) (tAr c W fs)) (hdb : (n == ("__debug__" : Str)) = false := by decide) (he : starEach (e :: es) X.env = (false, eval e X.env) :: starEach es X.env := by rfl) (hpl : (backTo pos (starEach es X.env)).any (·.1) = false := by rfl) :
    PE X (.Call (.Name n p) (e :: es) [] pos) (tEv c W (cMake n F defs fs)) := by
  obtain ⟨C, f, fd, ps, ds, dvs, hm, hC, M, ok, hb, hd, rd⟩ := G
  exact PE.imp (pe_make (E := E) M ok (hr.mono hj) hg hm hb hd hx ha hdb he hpl) fun σ H Q x => makeR hC rd hW x
end
end Gm

/-! Gm15: min, max, int, tuple; lists and texts times an int; xs[::-1]; d.get(k, x); nested targets of comprehensions. -/
namespace Gm
open PySem PySem.Spec PyProof.Rows L2
section
variable {c : Cf} {X : Cx}
def fMin2 : CallT := fun ds h => match ds with
  | [.int i, .int j] => .ok (.int (if j < i then j else i)) h
  | _ => .no
theorem fMin2_ok : CROk c (fun xs H Q => ∃ i j : Int, xs = [.int i, .int j] ∧ Q (.int (if j < i then j else i)) H) fMin2 := by
  intro g h H ds vs Q E S rs q
  unfold fMin2 at q
  split at q
  · cases rs with
    | cons r rr =>
      cases rr with
      | cons r2 rr =>
        cases rr; cases r; cases r2
        exact ⟨_, _, rfl, RP.ok_here q S (.int _)⟩
  · exact q.elim
def fMax2 : CallT := fun ds h => match ds with
  | [.int i, .int j] => .ok (.int (if j > i then j else i)) h
  | _ => .no
theorem fMax2_ok : CROk c (fun xs H Q => ∃ i j : Int, xs = [.int i, .int j] ∧ Q (.int (if j > i then j else i)) H) fMax2 := by
  intro g h H ds vs Q E S rs q
  unfold fMax2 at q
  split at q
  · cases rs with
    | cons r rr =>
      cases rr with
      | cons r2 rr =>
        cases rr; cases r; cases r2
        exact ⟨_, _, rfl, RP.ok_here q S (.int _)⟩
  · exact q.elim
def fInt1 : CallT := fun ds h => match ds with
  | [.int i] => .ok (.int i) h
  | [.bl k] => .ok (.int (if k then 1 else 0)) h
  | _ => .no
theorem fInt1_ok : CROk c (fun xs H Q => (∃ i : Int, xs = [.int i] ∧ Q (.int i) H) ∨ ∃ k : Bool, xs = [.bl k] ∧ Q (.int (if k then 1 else 0)) H) fInt1 := by
  intro g h H ds vs Q E S rs q
  unfold fInt1 at q
  split at q
  · cases rs with
    | cons r rr => cases rr; cases r; exact .inl ⟨_, rfl, RP.ok_here q S (.int _)⟩
  · cases rs with
    | cons r rr => cases rr; cases r; exact .inr ⟨_, rfl, RP.ok_here q S (.int _)⟩
  · exact q.elim
/-- tuple(xs) -/
def fTuple : CallT := fun ds h => match ds with
  | [.tup l] => .ok (.tup l) h
  | [d] => match asR h d with
    | some l => .ok (.tup l) h
    | none => .no
  | _ => .no
theorem fTuple_ok : CROk c (fun xs H Q => ∃ p ys, xs = [.ref p] ∧ ((SqL c.K H p ys ∧ ∀ l, H l = none → Q (.ref l) (upd H l (.tup ys))) ∨ (SqT c.K H p ys ∧ Q (.ref p) H))) fTuple := by
  intro g h H ds vs Q E S rs q
  unfold fTuple at q
  split at q
  · cases rs with
    | cons r rr =>
      cases rr
      obtain ⟨a, ws, rfl, hq, r3⟩ := RV.tup' S r
      exact ⟨a, ws, rfl, .inr ⟨hq, RP.ok_here q S r⟩⟩
  · rename_i d _
    split at q
    · rename_i l el
      cases rs with
      | cons r rr =>
        cases rr
        obtain ⟨a, ws, rfl, hq, r2⟩ := asR_ok S r el
        refine ⟨a, ws, rfl, .inl ⟨hq, fun p hp => ?_⟩⟩
        obtain ⟨S2, o2⟩ := S.tree (o := .tup ws) hp
        exact q _ _ _ o2 S2 (.tup (.inl (.inl upd_same)) (r2.mono o2.gx (Nat.le_refl _)))
    · exact q.elim
  · exact q.elim
end

/-! ### times an int -/
theorem RVs.rep {c : Cf} {g : Gh} {L : Nat} {l : List D} {vs : List V} (r : RVs c g L l vs) : ∀ n, RVs c g L (List.replicate n l).flatten (List.replicate n vs).flatten
  | 0 => .nil
  | n + 1 => by
    rw [List.replicate_succ, List.replicate_succ, List.flatten_cons, List.flatten_cons]
    exact r.append (RVs.rep r n)
def g63 (k : Int) : Bool := Nat.ble k.natAbs 9223372036854775807
def oRep (m : Bool) (x y : D) (h : Store) : Res D := match asL h x, y with
  | some l, .int k => if g63 k = true ∧ l.length * k.toNat ≤ sizeLine then alloc m (List.replicate k.toNat l).flatten h else .no
  | _, _ => .no
theorem oRep_ok {c : Cf} {m : Bool} : R2Ok c rRep (oRep m) := by
  intro g h H d1 v1 d2 v2 Q E S r1 r2 q
  unfold oRep at q
  split at q
  · rename_i l k el
    cases r2
    obtain ⟨a, vs, rfl, hq, rs⟩ := asL_ok S r1 el
    by_cases hk : g63 k = true ∧ l.length * k.toNat ≤ sizeLine
    · rw [if_pos hk] at q
      have h1 := Nat.le_of_ble_eq_true hk.1
      exact ⟨a, k, vs, rfl, rfl, hq, by omega, by omega, by rw [← rs.length]; exact hk.2, alloc_ok S (rs.rep _) q⟩
    · rw [if_neg hk] at q; exact q.elim
  · exact q.elim
theorem b_rep {c : Cf} {W : WX} {X : Cx} {a b : Expr} {fa fb : Ev D} {m : Bool} {pos : Pos} (ha : PE X a (tEv c W fa)) (hb : PE X b (tEv c W fb)) : PE X (.BinOp a .Mult b pos) (tEv c W (cBin (oRep m) fa fb)) := e_bin op_rep oRep_ok ha hb
/-- a text times an int -/
def repS (x : Str) (n : Int) : Str := if n < 1 then Str.empty else if (n == 1 || x.length == 0) = true then x else ⟨(List.replicate n.toNat x.cps).foldl (· ++ ·) #[]⟩
def rMulS : R2 := fun x y H Q => ∃ (z : Str) (n : Int), x = .str z ∧ y = .int n ∧ 0 ≤ n ∧ n ≤ 3000 ∧ z.length ≤ 300 ∧ Q (.str (repS z n)) H
def oMulS (x y : D) (h : Store) : Res D := match x, y with
  | .str z, .int n => if 0 ≤ n ∧ n ≤ 3000 ∧ z.length ≤ 300 then .ok (.str (repS z n)) h else .no
  | _, _ => .no
theorem oMulS_ok {c : Cf} : R2Ok c rMulS oMulS := by
  intro g h H d1 v1 d2 v2 Q E S r1 r2 q
  unfold oMulS at q
  split at q
  · rename_i z n
    cases r1; cases r2
    by_cases hk : 0 ≤ n ∧ n ≤ 3000 ∧ z.length ≤ 300
    · rw [if_pos hk] at q
      exact ⟨z, n, rfl, rfl, hk.1, hk.2.1, hk.2.2, RP.ok_here q S (.str _)⟩
    · rw [if_neg hk] at q; exact q.elim
  · exact q.elim

/-! ### xs[::-1] -/
def cRev (m : Bool) (fe : Ev D) : Ev D := fun st h => (fe st h).bind fun d h1 => match asR h1 d with
  | some l => alloc m l.reverse h1
  | none => .no
theorem RVs.rev {c : Cf} {g : Gh} {L : Nat} : ∀ {l : List D} {vs : List V}, RVs c g L l vs → RVs c g L l.reverse vs.reverse
  | _, _, .nil => .nil
  | _, _, .cons h r => by
    rw [List.reverse_cons, List.reverse_cons]
    exact (RVs.rev r).append (.cons h .nil)
section
variable {c : Cf} {W : WX} {X : Cx} {e : Expr} {fe : Ev D} {pos p1 p2 p3 : Pos}
theorem e_rev {m : Bool} {k : Nat} (hK : c.K = X.K) (he : PE X e (tEv c W fe)) : PE X (.Subscript e (.Slice none none (some (.UnaryOp .USub (.Constant (.int 1) k p1) p2)) p3) pos) (tEv c W (cRev m fe)) := PE.imp (pe_revL he) fun σ H Q ⟨st, h, g, S, sl, q⟩ => by
  refine ⟨st, h, g, S, sl, RP.mono (RP.bind q) fun v H1 ⟨d, h1, g1, o1, S1, r1, q1⟩ => ?_⟩
  split at q1
  · rename_i l el
    obtain ⟨a, vs, rfl, hq, rs⟩ := asR_ok S1 r1 el
    rw [← hK]
    exact ⟨a, vs, rfl, hq, alloc_ok S1 rs.rev q1⟩
  · exact q1.elim

/-! ### nested targets -/
structure TgNs (c : Cf) (vs : List Nat) (gt : TGs) (fg : List D → Slots → Option Slots) : Prop where
  ok : ∀ {xs : List V} {σ σ0 : L2.St} {H : Hp} {ds : List D} {st st1 : Slots} {h : Store} {g : Gh} {Q : L2.St → Hp → Prop}, SR c g h H → SL c g h.length st σ → RVs c g h.length ds xs → fg ds st = some st1 → (L2.wipe σ vs = σ0) →
    (∀ σ1, SL c g h.length st1 σ1 → L2.wipe σ1 vs = σ0 → Q σ1 H) → gt xs σ H Q
def fgNil : List D → Slots → Option Slots
  | [], st => some st
  | _, _ => none
def fgCons (f : D → Slots → Option Slots) (k : List D → Slots → Option Slots) : List D → Slots → Option Slots
  | d :: ds, st => (f d st).bind fun st1 => k ds st1
  | _, _ => none
def fgTup (n : Nat) (k : List D → Slots → Option Slots) : D → Slots → Option Slots
  | .tup ds, st => if ds.length = n then k ds st else none
  | _, _ => none
theorem tgs_nil {vs : List Nat} : TgNs c vs gNil fgNil := ⟨fun {xs σ σ0 H ds st st1 h g Q} S sl r e ew k => by
  cases r with
  | nil =>
    have e : some st = some st1 := e
    cases e
    exact ⟨rfl, k σ sl ew⟩
  | cons _ _ => cases e⟩
theorem tgs_cons {vs : List Nat} {g1 : TG} {g2 : TGs} {f1 : D → Slots → Option Slots} {f2 : List D → Slots → Option Slots} (a : TgN c vs g1 f1) (b : TgNs c vs g2 f2) : TgNs c vs (gCons g1 g2) (fgCons f1 f2) := ⟨fun {xs σ σ0 H ds st st1 h g Q} S sl r e ew k => by
  cases r with
  | nil => cases e
  | @cons d v ds' vs' r1 rs =>
    have e : (f1 d st).bind (fun st1 => f2 ds' st1) = some st1 := e
    cases e1 : f1 d st with
    | none => rw [e1] at e; cases e
    | some st2 =>
      rw [e1] at e
      exact ⟨v, vs', rfl, a.ok S sl r1 e1 ew fun σ1 sl1 ew1 => b.ok S sl1 rs e ew1 k⟩⟩
theorem tg_tupN {vs : List Nat} {n : Nat} {gt : TGs} {fg : List D → Slots → Option Slots} (a : TgNs c vs gt fg) : TgN c vs (gTup c.K n gt) (fgTup n fg) := ⟨fun {v σ σ0 H d st st1 h g Q} S sl r e ew k => by
  cases d with
  | tup ds =>
    obtain ⟨p, xs, rfl, hq, rs⟩ := RV.tup' S r
    have e : (if ds.length = n then fg ds st else none) = some st1 := e
    by_cases hl : ds.length = n
    · rw [if_pos hl] at e
      exact ⟨p, xs, rfl, hq, by rw [← rs.length]; exact hl, a.ok S sl rs e ew k⟩
    · rw [if_neg hl] at e; cases e
  | _ => cases e⟩
end
end Gm

/-! Gm16: a text times an int; d.get(k, x). -/
namespace Gm
open PySem PySem.Spec PyProof.Rows L2
theorem p63a : (-(2 ^ 63) : Int) ≤ 0 := by decide +kernel
theorem small1m : (1000000 : Nat) ≤ sizeLine := by decide
theorem p63b : (3000 : Int) < 2 ^ 63 := by decide +kernel
theorem rep_size (a : Array Nat) : ∀ (k : Nat) (b : Array Nat), ((List.replicate k a).foldl (· ++ ·) b).size = b.size + k * a.size
  | 0, b => by simp
  | k + 1, b => by
    rw [List.replicate_succ, List.foldl_cons, rep_size a k (b ++ a), Array.size_append, Nat.add_mul]
    omega
theorem op_mulS {X : Cx} : OpR X (binaryOp .Mult) rMulS := by
  intro pins s σ H x y v u Q I rx ry h
  obtain ⟨z, n, rfl, rfl, n0, n1, zl, q⟩ := h
  obtain ⟨t, rfl⟩ := rx
  obtain ⟨t2, rfl⟩ := ry
  have a1 : ¬ n < -(2 ^ 63 : Int) := Int.not_lt.mpr (Int.le_trans p63a n0)
  have a2 : ¬ n ≥ (2 ^ 63 : Int) := Int.not_le.mpr (Int.lt_of_le_of_lt n1 p63b)
  refine PySem.P.mul_str (by rw [decide_eq_false a1, decide_eq_false a2] <;> rfl) (fun h1 _ => ?_) (fun _ _ => ?_) ?_
  · have b1 : (300 : Int) ≤ (2 ^ 63 - 1) / 3000 := by decide +kernel
    have b2 : ((2 ^ 63 - 1) / 3000 : Int) ≤ (2 ^ 63 - 1) / n := by
      have p : (0 : Int) < n := by omega
      refine Int.le_ediv_of_mul_le p ?_
      have c1 : ((2 ^ 63 - 1) / 3000 : Int) * n ≤ (2 ^ 63 - 1) / 3000 * 3000 := Int.mul_le_mul_of_nonneg_left n1 (by decide +kernel)
      exact Int.le_trans c1 (by decide +kernel)
    omega
  · have c1 : z.length * n.toNat ≤ 300 * 3000 := Nat.mul_le_mul zl (by omega)
    have c2 : (1000000 : Nat) ≤ sizeLine := small1m
    show decide (z.length * n.toNat > sizeLine) = false
    exact decide_eq_false (by omega)
  · unfold repS at q
    by_cases h1 : n < 1
    · rw [if_pos h1] at q ⊢
      exact ⟨by decide, .str Str.empty, H, I.tok _, ⟨_, rfl⟩, q⟩
    · rw [if_neg h1] at q ⊢
      by_cases h2 : (n == 1 || z.length == 0) = true
      · rw [if_pos h2] at q ⊢
        exact ⟨.str z, H, I, ⟨_, rfl⟩, q⟩
      · rw [if_neg h2] at q ⊢
        refine ⟨?_, .str _, H, I.tok _, ⟨_, rfl⟩, q⟩
        show ((List.replicate n.toNat z.cps).foldl (· ++ ·) #[]).size ≤ sizeLine
        rw [rep_size]
        have c1 : n.toNat * z.cps.size ≤ 3000 * 300 := Nat.mul_le_mul (by omega) zl
        have c2 : (1000000 : Nat) ≤ sizeLine := small1m
        simp
        omega
theorem b_mulS {c : Cf} {W : WX} {X : Cx} {a b : Expr} {fa fb : Ev D} {pos : Pos} (ha : PE X a (tEv c W fa)) (hb : PE X b (tEv c W fb)) : PE X (.BinOp a .Mult b pos) (tEv c W (cBin oMulS fa fb)) := e_bin op_mulS oMulS_ok ha hb
/-! ### d.get(k, x) -/
section
variable {c : Cf} {W : WX} {X : Cx} {o e f : Expr} {fo fe ff : Ev D} {apos cpos : Pos}
def cDget2 (fo fe ff : Ev D) : Ev D := fun st h => (fo st h).bind fun d h1 => match asK h1 d with
  | some _ => (fe st h1).bind fun y h2 => (ff st h2).bind fun z h3 => match asK h3 d, keyD y with
    | some l, some k => .ok ((getKD l k).getD z) h3
    | _, _ => .no
  | none => .no
theorem e_dget2 (hu : X.A.units + 1 < cLine) (ho : PE X o (tEv c W fo)) (he : PE X e (tEv c W fe)) (hf : PE X f (tEv c W ff)) (m : M2 X o "get" apos e f cpos) : PE X (.Call (.Attribute o "get" apos) [e, f] [] cpos) (tEv c W (cDget2 fo fe ff)) :=
  PE.imp (pe_dget2 hu ho he hf m) fun σ H Q ⟨st, h, g, S, sl, q⟩ => by
    refine ⟨st, h, g, S, sl, RP.mono (RP.bind q) fun v H1 ⟨d, h1, g1, o1, S1, r1, q1⟩ => ?_⟩
    cases e1 : asK h1 d with
    | none => rw [e1] at q1; exact q1.elim
    | some l1 =>
      rw [e1] at q1
      obtain ⟨a, kvs, ev, hD, _⟩ := asK_ok S1 r1 e1
      refine ⟨a, ev, .inl ⟨kvs, .inl hD⟩, st, h1, g1, S1, sl.go o1, RP.mono (RP.bind q1) fun w H2 ⟨y, h2, g2, o2, S2, r2, q2⟩ => ?_⟩
      refine ⟨st, h2, g2, S2, sl.go (o1.trans o2), RP.mono (RP.bind q2) fun u H3 ⟨z, h3, g3, o3, S3, r3, q3⟩ => ?_⟩
      split at q3
      · rename_i l k el ek
        obtain ⟨a', kvs', ev', hD', rs⟩ := asK_ok S3 (r1.mono (o2.trans o3).gx (o2.trans o3).len) el
        rw [ev] at ev'
        have ea : a = a' := by
          have z : V.ref a = V.ref a' := ev'
          cases z
          rfl
        subst ea
        have ey := keyD_ok (r2.mono o3.gx o3.len) ek
        subst ey
        refine ⟨valV kvs' k, .k hD', ?_⟩
        rcases rs.get (k := k) with ⟨z1, z2⟩ | ⟨d', v', z1, z2, rd⟩
        · rw [z1] at q3; rw [z2]; exact RP.ok_here q3 S3 r3
        · rw [z1] at q3; rw [z2]; exact RP.ok_here q3 S3 rd
      · exact q3.elim
end
end Gm

/-! Gm17: len(set(xs)) of a list of texts. -/
namespace Gm
open PySem PySem.Spec PyProof.Rows
/-- the distinct ones among the first i -/
def dst (xs : List Str) : Nat → Nat
  | 0 => 0
  | i + 1 => if (xs.take i).contains (xs.getD i Str.empty) = true then dst xs i else dst xs i + 1
theorem dst_le (xs : List Str) : ∀ i, dst xs i ≤ i
  | 0 => Nat.le_refl 0
  | i + 1 => by
    have := dst_le xs i
    unfold dst
    split <;> omega
abbrev TxSet (p : Program) (w : World) (xs : List Str) (i : Nat) (a : Addr) (h : Heap) : Prop := h.SetOf (PySem.strKind p w) a (fun k => (xs.take i).contains k) (dst xs i)
theorem TxSet.next {p : Program} {w : World} {xs : List Str} {i : Nat} {a : Addr} {h : Heap} (hi : i < xs.length) (q : h.SetOf (PySem.strKind p w) a (fun k => (xs.take i).contains k || decide (k = xs.getD i Str.empty)) (if (xs.take i).contains (xs.getD i Str.empty) then dst xs i else dst xs i + 1)) : TxSet p w xs (i + 1) a h := by
  refine PyProof.Rows.SetOf_congr q (fun k => ?_) rfl
  have e : xs.take (i + 1) = xs.take i ++ [xs.getD i Str.empty] := by
    rw [List.take_succ_eq_append_getElem hi, List.getD_eq_getElem?_getD, List.getElem?_eq_getElem hi]
    rfl
  rw [e, List.contains_append]
  congr 1
  simp only [List.contains_cons, List.contains_nil, Bool.or_false]
  exact (Bool.beq_eq_decide_eq k _).symm
theorem TxSet.moved {p : Program} {w : World} {xs : List Str} {i : Nat} {a : Addr} {h h' : Heap} (x : TxSet p w xs i a h) (k : ∀ o, h.get? a = some o → h'.get? a = some o) : TxSet p w xs i a h' := by
  obtain ⟨o, es, ep, t, ho, r⟩ := x
  exact ⟨o, es, ep, t, k o ho, r⟩
section
variable {prog : Program} {w : World} {A : Around} {R : Result → Shared → Prop} {I S : Addr} {fp wr : List Addr} {G : Array GenState → Array GenState → Prop} {n : Nat} {P : Nat → Value → Prop} {St : Nat → Shared → Prop} {xs : List Str}
theorem tx_loop (W : WalksS prog w A.in1 I fp wr G n P St) (nS : S ∉ fp) (ln : xs.length = n) (fits : n + 1 < scanBound) (at_ : ∀ i v, P i v → ∃ t, v = .str (xs.getD i Str.empty) t) : ∀ (j : Nat) (s : Shared), j ≤ n → St (n - j) s → TxSet prog w xs (n - j) S s.heap →
    (∀ s', Moved (S :: wr) G s s' → TxSet prog w xs n S s'.heap → R (.ok (.ret .none)) s') → codeAny (model prog w) A (.builtin "set.update.loop" ⟨[.ref S, .ref I], []⟩) R s := by
  have nW : S ∉ wr := fun z => nS (W.sub _ z)
  have up : ∀ b ∈ wr, b ∈ S :: wr := fun b => List.mem_cons_of_mem S
  intro j
  induction j with
  | zero =>
    intro s _ st tx fin
    refine codeAny_builtin PyProof.Rows.F.entry_set_update_loop ?_
    rw [Around.under_plainId PyProof.Rows.F.plain_set_update_loop _]
    refine wpAny_bind (m := pyNext (.ref I)) (W.done s _ _ st fun s' mv => ?_)
    exact wpAny_pure (fin s' (mv.mono up) (tx.moved fun o e => mv.heap S o nW e))
  | succ j ih =>
    intro s hj st tx fin
    have lt : n - (j + 1) < n := by omega
    have nx : n - j = n - (j + 1) + 1 := by omega
    refine codeAny_builtin PyProof.Rows.F.entry_set_update_loop ?_
    rw [Around.under_plainId PyProof.Rows.F.plain_set_update_loop _]
    refine wpAny_bind (m := pyNext (.ref I)) (W.item (n - (j + 1)) s _ _ lt st fun v s1 pv st1 mv => ?_)
    obtain ⟨t, rfl⟩ := at_ _ v pv
    have tx1 := tx.moved (h' := s1.heap) fun o e => mv.heap S o nW e
    refine wpAny_bind (m := holding [Value.str (xs.getD (n - (j + 1)) Str.empty) t] (setAdd S (.str (xs.getD (n - (j + 1)) Str.empty) t))) (wpAny_holding ?_)
    unfold setAdd
    refine wpAny_holding (wpAny_bind ((PySem.strKind prog w).pyHash (k := xs.getD (n - (j + 1)) Str.empty) (strKind_is _ _ _ _) ?_))
    have room : dst xs (n - (j + 1)) + 1 < scanBound := by have := dst_le xs (n - (j + 1)); omega
    refine wpAny_setAddHashed_of (knd := PySem.strKind prog w) (s := { s1 with toks := s1.toks + 1 }) (strKind_is _ _ _ _) rfl tx1 room fun h2 same tx2 => ?_
    have tx3 : TxSet prog w xs (n - j) S h2 := by
      rw [nx]
      exact TxSet.next (by omega) tx2
    have off : ∀ b, b ≠ S → ∀ o, s1.heap.get? b = some o → h2.get? b = some o := fun b nb o e => (same.2 b nb).trans e
    refine wpAny_pure ⟨plainId_quiet PyProof.Rows.F.plain_set_update_loop _, ih _ (by omega) ?_ tx3 fun s3 mv3 tx4 => ?_⟩
    · rw [nx]
      exact W.frame _ s1 _ _ st1 (Nat.le_succ _) fun b hb o e => off b (fun z => nS (by rw [← z]; exact hb)) o e
    · exact fin s3 (Moved.trans W.gtrans ((mv.mono up).then_heap (Nat.le_succ _) fun b o hb e => off b (fun z => hb (by rw [z]; exact List.mem_cons_self)) o e) mv3) tx4
end
section
variable {prog : Program} {w : World} {A : Around} {E : Value → Shared → Prop} {s : Shared}
/-- the new, empty set -/
abbrev set0 (led : Bool) : Obj := { cls := .type "set", dict := none, data := .set #[] 0 (.fresh 0 0 led) }
/-- what stands behind set(xs) -/
def SetDone (p : Program) (w : World) (xs : List Str) (s t : Shared) : Prop := ∃ (h' : Heap) (tk : Nat), t = { s with heap := h', toks := tk } ∧ TxSet p w xs xs.length s.heap.objs.size h' ∧ ∀ b o, b < s.heap.objs.size → s.heap.get? b = some o → h'.get? b = some o
set_option maxHeartbeats 3200000 in
theorem set_texts {l : Addr} {items : Array Value} {xs : List Str} {Q : Value → Shared → Prop} (hh : A.handled = none) (hl : s.heap.IsList l items) (hi : PyProof.Rows.StrsAre items.toList xs) (few : xs.length + 1 < scanBound)
    (q : ∀ t, SetDone prog w xs s t → Q (.ref s.heap.objs.size) t) : wpAny (model prog w) A (call (.type "set") [.ref l]) Q E s := by
  have ks := PySem.F.called_set
  obtain ⟨c, tl, hmro⟩ := ks.mro
  have u1 := ks.made
  have u2 := ks.sub
  have u3 := ks.notType
  have u4 := ks.canCreate
  have u5 := PySem.F.typeCall_set_1 (.ref l)
  refine wpAny_call (codeAny_of_tree (show wpAny _ _ (callAny (.type "set") _) _ _ _ from ?_))
  refine wpAny_pure ⟨Code.quiet_builtin _ (by decide +kernel), codeAny_builtin PySem.F.entry_type_call ?_⟩
  rw [Around.under_plain (weight_type_call_type "set" [.ref l] []) rfl]
  repeat (any_goals (first
    | assumption
    | wp_step))
  refine codeAny_mono (code_set_new_1 (.ref l) (E := E) (Q₁ := fun obj t => ∃ led : Bool, obj = .ref s.heap.objs.size ∧ t = { s with heap := s.heap.push (set0 led) }) fun led => ⟨led, rfl, rfl⟩) fun r t hr => ?_
  cases r with
  | error e => exact hr
  | ok fl =>
    cases fl with
    | ret obj =>
      obtain ⟨led, rfl, rfl⟩ := hr
      have hS : (s.heap.push (set0 led)).get? s.heap.objs.size = some (set0 led) := Heap.get?_push_size _ rfl
      have hT : Shared.TypeIs { s with heap := s.heap.push (set0 led) } (.ref s.heap.objs.size) "set" := ⟨_, hS, rfl⟩
      have v1 := ks.init.lookup
      have v2 := ks.init.bind (.ref s.heap.objs.size)
      repeat (any_goals (first
        | assumption
        | wp_step))
      refine codeAny_mono (codeAny_call_builtin (R := wants (fun r t => r = .none ∧ SetDone prog w xs s t) E) ks.init.plain PySem.F.entry_set_init (check_set_init_1 hT ?_)) fun r2 t2 hr2 => ?_
      · obtain ⟨⟨oc, od, odt, osl⟩, hol, hcl, nl, hdl⟩ := hl
        simp only at hcl hdl
        subst hcl hdl
        have hol2 : (s.heap.push (set0 led)).get? l = some { cls := .type "list", dict := od, data := .seq items nl, slots := osl } := Heap.get?_push_of_some _ hol
        have hls : (s.heap.push (set0 led)).IsList l items := ⟨_, hol2, rfl, nl, rfl⟩
        have q1 := PySem.F.sub_list_set
        have q2 := PySem.F.sub_list_frozenset
        have q3 : (Value.type "list" == Value.type "dict") = false := by decide
        unfold Builtin.«set.__init__» noKeywords
        unfold Builtin.Frozenset.updateFrom
        generalize eI : pyIter = PI
        wp_walk
        subst eI
        refine wpAny_pyIter_list hls (wpAny_bind (wpAny_runValue ?_))
        have lS : l < s.heap.objs.size := Heap.lt_size hol
        have calm3 : A.in1.in1.in1.handled = none := by simp [hh]
        have sz : (s.heap.push (set0 led)).objs.size = s.heap.objs.size + 1 := Heap.size_push _ _
        have neI : l ≠ (s.heap.push (set0 led)).objs.size := by
          rw [sz]
          exact Nat.ne_of_lt (Nat.lt_succ_of_lt lS)
        have away : s.heap.objs.size ∉ [(s.heap.push (set0 led)).objs.size, l] := by
          intro z
          rcases List.mem_cons.mp z with z | z
          · rw [sz] at z
            exact Nat.ne_of_lt (Nat.lt_succ_self _) z
          · exact Nat.ne_of_lt lS (List.mem_singleton.mp z).symm
        have ln : xs.length = items.size := by rw [← PyProof.Rows.StrsAre.len_eq hi, Array.length_toList]
        have begin0 : TxSet prog w xs (items.size - items.size) s.heap.objs.size ((s.heap.push (set0 led)).push { cls := .type "list_iterator", data := .fields #[.ref l, .int 0 0] }) := by
          rw [Nat.sub_self]
          exact PyProof.Rows.SetOf_congr ((PyProof.Rows.setObjOf_fresh (knd := PySem.strKind prog w) led).setOf (Heap.get?_push_of_some _ hS) (by unfold scanBound; omega)) (fun _ => rfl) rfl
        refine tx_loop (xs := xs) ((Walks.list calm3 _ l neI items).toS) away ln (by rw [← ln]; exact few) (fun i v hv => SS.strs_at hi i v (by rw [Array.getElem?_toList]; exact hv)) items.size _ (Nat.le_refl _)
          (by rw [Nat.sub_self]; exact ⟨⟨_, Heap.get?_push_size _ rfl, rfl, rfl⟩, hls.push _⟩) begin0 fun s3 mv tx => ?_
        obtain ⟨h3, g3, d3, k3, os3⟩ := s3
        have e1 : g3 = s.gens := mv.gens
        have e2 : d3 = s.drawn := mv.drawn
        have e3 : os3 = s.os := mv.os
        subst e1 e2 e3
        refine wpAny_pure (show wpAny _ _ (ret Value.none) _ _ _ from wpAny_pure ⟨rfl, h3, k3, rfl, by rw [ln]; exact tx, fun b o hb e => ?_⟩)
        refine mv.heap b o (fun z => ?_) (Heap.get?_push_of_some _ (Heap.get?_push_of_some _ e))
        rcases List.mem_cons.mp z with z | z
        · exact Nat.ne_of_lt hb z
        · have z := List.mem_singleton.mp z
          rw [sz] at z
          exact Nat.ne_of_lt (Nat.lt_succ_of_lt hb) z
      · cases r2 with
        | error e => exact hr2
        | ok f2 =>
          cases f2 with
          | ret r =>
            obtain ⟨rfl, done⟩ := hr2
            have done2 := q t2 done
            obtain ⟨h9, k9, rfl, _⟩ := done
            repeat (any_goals (first
              | assumption
              | wp_step))
          | _ => exact hr2.elim
    | _ => exact hr.elim
end
open L2
def tLenTx (K : PySem.W.Frag) (ta : TE) : TE := fun σ H Q => ta σ H fun x H1 => ∃ (l : Addr) (xs : List Str), x = .ref l ∧ SqL K H1 l (xs.map V.str) ∧ xs.length ≤ 1000 ∧ Q (.int (dst xs xs.length : Nat)) H1
theorem few1000 : (1001 : Nat) < scanBound := by decide
section
variable {c : Cf} {W : WX} {X : Cx} {a : Expr} {fa : Ev D} {p p2 q pos : Pos}
theorem pe_lenTx {ta : TE} (hc : X.calm = true) (hg : Gl X "len") (hm : X.mg "len" = none) (hg2 : Gl X "set") (hm2 : X.mg "set" = none) (ha : PE X a ta) (na : starEach [a] X.env = (false, eval a X.env) :: starEach [] X.env := by rfl) :
    PE X (.Call (.Name "len" p) [.Call (.Name "set" p2) [a] [] q] [] pos) (tLenTx X.K ta) := by
  constructor
  intro pins s σ H Q I h
  refine Call_ (ld_blt I hg hm boot_len (PyProof.Rows.callWith_builtin1 (PyProof.Rows.args_cons (Call_ (ld_blt I hg2 hm2 boot_set ?_)) rfl) rfl rfl))
  refine PyProof.Rows.callWith_type1 (PyProof.Rows.args_cons (thn (ha.run pins s σ H _ I h) ?_) na) na rfl
  rintro v s1 ⟨x, H1, I1, r1, l, xs, rfl, hq, hl, q1⟩
  cases r1
  obtain ⟨its, r, pl, hz⟩ := I1.list hq
  have few : xs.length + 1 < scanBound := Nat.lt_of_le_of_lt (Nat.succ_le_succ hl) few1000
  refine PyProof.Rows.args_nil (set_texts (I1.ok.hd hc) pl.isList (by simpa using strsAre_of r) few ?_)
  rintro t ⟨h', tk, rfl, tx, keep⟩
  refine PyProof.Rows.args_nil ?_
  obtain ⟨o, es, ep, tb, ho, hex, hd, _, _, _, hf, hn⟩ := tx
  have I2 : Inv X pins σ H1 { s1 with heap := h', toks := tk } := I1.kept fun b o e => keep b o (Heap.lt_size e) e
  have dl := dst_le xs xs.length
  refine call_len_set ho hex hd hf (by rw [hn]; omega) ⟨.int (dst xs xs.length : Nat), H1, I2.tok _, ⟨_, by rw [hn]⟩, q1⟩
def cLenSet (fe : Ev D) : Ev D := fun st h => (fe st h).bind fun d h1 => match asR h1 d with
  | some l => match strsOf l with
    | some xs => if xs.length ≤ 1000 then .ok (.int (dst xs xs.length : Nat)) h1 else .no
    | none => .no
  | none => .no
theorem e_lenSet (hK : c.K = X.K) (hc : X.calm = true) (hg : Gl X "len") (hm : X.mg "len" = none) (hg2 : Gl X "set") (hm2 : X.mg "set" = none) (ha : PE X a (tEv c W fa)) (na : starEach [a] X.env = (false, eval a X.env) :: starEach [] X.env := by rfl) :
    PE X (.Call (.Name "len" p) [.Call (.Name "set" p2) [a] [] q] [] pos) (tEv c W (cLenSet fa)) := PE.imp (pe_lenTx hc hg hm hg2 hm2 ha na) fun σ H Q ⟨st, h, g, S, sl, q⟩ => by
  refine ⟨st, h, g, S, sl, RP.mono (RP.bind q) fun v H1 ⟨d, h1, g1, o1, S1, r1, q1⟩ => ?_⟩
  split at q1
  · rename_i l el
    split at q1
    · rename_i xs ex
      by_cases hl : xs.length ≤ 1000
      · rw [if_pos hl] at q1
        obtain ⟨b, vs, rfl, hq, rs⟩ := asR_ok S1 r1 el
        have ev := strsOf_ok rs ex
        subst ev
        rw [← hK]
        exact ⟨b, xs, rfl, hq, hl, RP.ok_here q1 S1 (.int _)⟩
      · rw [if_neg hl] at q1; exact q1.elim
    · exact q1.elim
  · exact q1.elim
end
end Gm

/-! Gm18: walking two lists side by side while an exception is handled. -/
namespace Gm
open PySem PySem.Spec PyProof.Rows L2 HotX
section
variable {prog : Program} {w : World} {A : Around} {E : Value → Shared → Prop} {s : Shared}
/-- a list's iterator is through: the new exception bears the handled one -/
theorem nextOf_through {it l x1 : Addr} {i : Nat} {its : Array Value} {Q : Value → Shared → Prop} (hot : HotAt A x1 s.heap) (nx : x1 ≠ it) (hit : s.heap.IsListIter it l i) (hl : s.heap.IsList l its) (hx : its[i]? = none)
    (k : ∀ h' e, Heap.ExtBut it s.heap h' → (∃ o, h'.get? e = some o ∧ o.cls = .type "StopIteration") → E (.ref e) { s with heap := h' }) : wpAny (model prog w) A (Builtin.SmallTypes.nextOf (.ref it)) Q E s := by
  obtain ⟨hh, oo, vv, g1, g2, g3⟩ := hot
  obtain ⟨o, ho, hc, hd⟩ := id hit
  obtain ⟨ol, hol, _, nl, hdl⟩ := hl
  unfold Builtin.SmallTypes.nextOf
  refine wpAny_bind (wpAny_callSpecial?_slot (name := Str.ofString "__next__") hit.typeIs slot_listiter_next (wpAny_call_entry slot_listiter_next hit.typeIs entry_listiter_next ?_ (args_listiter_next _)))
  show wpAny _ _ (field (.ref it) 0 >>= _) _ _ _
  refine wpAny_bind (wpAny_field ho hd (x := .ref l) rfl ?_)
  show wpAny _ _ (if (Value.ref l == Value.none) = true then _ else _) _ _ _
  rw [if_neg (fun z : (Value.ref l == Value.none) = true => Bool.false_ne_true z)]
  show wpAny _ _ (field (.ref it) 1 >>= _) _ _ _
  refine wpAny_bind (wpAny_field ho hd (x := .int i 0) rfl ?_)
  show wpAny _ _ (seqItems? (.ref l) >>= _) _ _ _
  refine wpAny_bind (wpAny_seqItems hol hdl ?_)
  simp only [Int.toNat_natCast, hx]
  refine wpAny_bind (wpAny_rule (wpAny_bind (wpAny_setField ho hd (by simp) ?_)))
  show wpAny _ _ (newExc (.type "StopIteration") [] >>= _) _ _ _
  refine wpAny_bind ?_
  simp only [newExc, newTuple]
  refine wpAny_bind (wpAny_newObj_type ?_ (by size_fits))
  refine wpAny_bind (m := firstArgMember _ _) (wpAny_of_eq (a := Value.none) (by first | rfl | (simp only [firstArgMember]; rfl)) ?_)
  refine wpAny_newObj_type ?_ (by size_fits)
  have up : ∀ b o, b ≠ it → s.heap.get? b = some o → (s.heap.update it (Obj.mapFields (·.setIfInBounds 0 Value.none))).get? b = some o := fun b o hb e => by
    rw [Heap.get?_update_other _ _ (Ne.symm hb)]
    exact e
  refine raiseNew_hot ⟨hh, oo, vv, Heap.get?_push_of_some _ (Heap.get?_push_of_some _ (up _ _ nx g1)), g2, g3⟩ (Nat.ne_of_lt (Heap.lt_size (Heap.get?_push_of_some _ (up _ _ nx g1)))) (Heap.get?_push_size _ rfl) rfl (by first | (simp; done) | (simp; omega)) ?_
  refine k _ _ (fun b o hb e => ?_) ⟨_, Heap.get?_update_self _ (Heap.get?_push_size _ rfl) rfl, rfl⟩
  rw [Heap.get?_update_other _ _ (Nat.ne_of_gt (Heap.lt_size (Heap.get?_push_of_some _ (up _ _ hb e))))]
  exact Heap.get?_push_of_some _ (Heap.get?_push_of_some _ (up _ _ hb e))
/-- zip's end where an exception is handled: the first list is through -/
theorem zip_through {z TI TO i1 i2 l1 l2 x1 : Addr} {k1 : Nat} {xs : Array Value} {Q : Option Value → Shared → Prop} (hot : HotAt A x1 s.heap) (n1 : x1 ≠ i1) (nz : x1 ≠ z) (D : ZipApart z TI TO i1 i2 l1 l2)
    (hz : IsZip s.heap z TI TO .none) (hTI : IsPair s.heap TI (.ref i1) (.ref i2)) (h1 : s.heap.IsListIter i1 l1 k1) (hl1 : s.heap.IsList l1 xs) (hx : xs[k1]? = none)
    (k : ∀ h', (∀ c o, c ≠ z → c ≠ i1 → s.heap.get? c = some o → h'.get? c = some o) → Q none { s with heap := h' }) : wpAny (model prog w) A (pyNext (.ref z)) Q E s := by
  have ty : s.TypeIs (.ref z) "zip" := ⟨_, hz, rfl⟩
  unfold pyNext
  refine wpAny_bind (wpAny_attempt (wpAny_callSpecial?_slot (name := Str.ofString "__next__") ty F.slot_zip_next (wpAny_call_entry F.slot_zip_next ty F.entry_zip_next ?_ (F.args_zip_next_1 _))))
  show wpAny _ _ (field (.ref z) 2 >>= _) _ _ s
  refine wpAny_bind (wpAny_field hz rfl (x := .bool false) rfl ?_)
  show wpAny _ _ (field (.ref z) 3 >>= _) _ _ s
  refine wpAny_bind (wpAny_field hz rfl (x := .ref TI) rfl (wpAny_bind (wpAny_seqItems hTI rfl ?_)))
  show wpAny _ _ (Builtin.SmallTypes.ownedTupleIsFree (.ref z) >>= _) _ _ s
  refine wpAny_bind ?_
  unfold Builtin.SmallTypes.ownedTupleIsFree
  refine wpAny_bind (wpAny_field hz rfl (x := .none) rfl (wpAny_pure ?_))
  simp only [if_true]
  refine wpAny_bind (wpAny_rule (wpAny_bind (wpAny_field hz rfl (x := .ref TO) rfl (wpAny_bind (wpAny_setField_rec hz (by simp) fun hA zA sA => ?_)))))
  replace zA : IsZip hA z TI TO .ellipsis := zA
  refine wpAny_bind ?_
  simp only [List.zipIdx_cons, List.zipIdx_nil, List.forIn_cons, List.forIn_nil]
  refine wpAny_bind (wpAny_bind (wpAny_onRaise ?_))
  show wpAny _ _ (Builtin.SmallTypes.nextOf (.ref i1) >>= _) _ _ _
  obtain ⟨hh, oo, vv, g1, g2, g3⟩ := hot
  refine wpAny_bind (nextOf_through (x1 := x1) (s := { s with heap := hA }) ⟨hh, oo, vv, sA.extBut _ _ nz g1, g2, g3⟩ n1 (h1.extBut sA.extBut D.i1z) (hl1.extBut sA.extBut D.l1z) hx fun hB e sB eB => ?_)
  obtain ⟨oe, hoe, hce⟩ := eB
  have zB : IsZip hB z TI TO .ellipsis := sB _ _ D.i1z.symm zA
  have ez : e ≠ z := fun q => by
    subst q
    rw [zB] at hoe
    cases hoe
    simp at hce
  refine wpAny_setField_rec zB (by simp) fun hC _ sC => ?_
  refine wpAny_bind (wpAny_isInstance (T := "StopIteration") (b := true) ⟨oe, sC.extBut _ _ ez hoe, hce⟩ isSubtype_stop ?_)
  exact wpAny_pure (k _ fun c o c1 c2 q => sC.extBut _ _ c1 (sB _ _ c2 (sA.extBut _ _ c1 q)))
/-- a tuple's iterator is through: the new exception bears the handled one -/
theorem next_tup_through {it t x1 : Addr} {i : Nat} {items : Array Value} {Q : Option Value → Shared → Prop} (hot : HotAt A x1 s.heap) (nx : x1 ≠ it) (hit : IsTupIter s.heap it t i) (ht : IsTup s.heap t items) (hx : items[i]? = none)
    (k : ∀ h', Heap.ExtBut it s.heap h' → Q none { s with heap := h' }) : wpAny (model prog w) A (pyNext (.ref it)) Q E s := by
  obtain ⟨hh, oo, vv, g1, g2, g3⟩ := hot
  obtain ⟨o, ho, hc, hd⟩ := id hit
  obtain ⟨ol, hol, _, nl, hdl⟩ := ht
  unfold pyNext
  refine wpAny_bind (wpAny_attempt (wpAny_callSpecial?_slot (name := Str.ofString "__next__") hit.typeIs slot_tupleiter_next (wpAny_call_entry slot_tupleiter_next hit.typeIs entry_tupleiter_next ?_ (args_tupleiter_next _))))
  show wpAny _ _ (field (.ref it) 0 >>= _) _ _ s
  refine wpAny_bind (wpAny_field ho hd (x := .ref t) rfl ?_)
  show wpAny _ _ (if (Value.ref t == Value.none) = true then _ else _) _ _ s
  rw [if_neg (fun z : (Value.ref t == Value.none) = true => Bool.false_ne_true z)]
  show wpAny _ _ (field (.ref it) 1 >>= _) _ _ s
  refine wpAny_bind (wpAny_field ho hd (x := .int i 0) rfl ?_)
  show wpAny _ _ (seqItems? (.ref t) >>= _) _ _ s
  refine wpAny_bind (wpAny_seqItems hol hdl ?_)
  simp only [Int.toNat_natCast, hx]
  refine wpAny_bind (wpAny_rule (wpAny_bind (wpAny_setField ho hd (by simp) ?_)))
  show wpAny _ _ (newExc (.type "StopIteration") [] >>= _) _ _ _
  refine wpAny_bind ?_
  simp only [newExc, newTuple]
  refine wpAny_bind (wpAny_newObj_type ?_ (by size_fits))
  refine wpAny_bind (m := firstArgMember _ _) (wpAny_of_eq (a := Value.none) (by first | rfl | (simp only [firstArgMember]; rfl)) ?_)
  refine wpAny_newObj_type ?_ (by size_fits)
  have up : ∀ b o, b ≠ it → s.heap.get? b = some o → (s.heap.update it (Obj.mapFields (·.setIfInBounds 0 Value.none))).get? b = some o := fun b o hb e => by
    rw [Heap.get?_update_other _ _ (Ne.symm hb)]
    exact e
  refine raiseNew_hot ⟨hh, oo, vv, Heap.get?_push_of_some _ (Heap.get?_push_of_some _ (up _ _ nx g1)), g2, g3⟩ (Nat.ne_of_lt (Heap.lt_size (Heap.get?_push_of_some _ (up _ _ nx g1)))) (Heap.get?_push_size _ rfl) rfl (by first | (simp; done) | (simp; omega)) ?_
  refine wpAny_bind (wpAny_isInstance (T := "StopIteration") (b := true) ⟨_, Heap.get?_update_self _ (Heap.get?_push_size _ rfl) rfl, rfl⟩ isSubtype_stop ?_)
  refine wpAny_pure (k _ fun b o hb e => ?_)
  rw [Heap.get?_update_other _ _ (Nat.ne_of_gt (Heap.lt_size (Heap.get?_push_of_some _ (up _ _ hb e))))]
  exact Heap.get?_push_of_some _ (Heap.get?_push_of_some _ (up _ _ hb e))
/-- a, b = t where an exception is handled -/
theorem assign_tup_hot {env : Env} {elts : List Expr} {kk : Nat} {pos : Pos} {t x1 : Addr} {items : Array Value} {Q : Unit → Shared → Prop} (hot : HotAt A x1 s.heap) (ht : IsTup s.heap t items)
    (hn : (assignEach elts env).length = items.size) (hstar : (assignEach elts env).findIdx? (·.1) = none)
    (h : ∀ h', Heap.ExtBut s.heap.objs.size s.heap h' → wpAny (model prog w) A (assignInOrder ((assignEach elts env).map (·.2)) items.toList) Q E { s with heap := h' }) :
    wpAny (model prog w) A (assign (.Tuple elts kk pos) env (.ref t)) Q E s := by
  rw [assign_Tuple]
  refine wpAny_bind (wpAny_standAt ?_)
  have hlt : t ≠ s.heap.objs.size := by
    obtain ⟨o, ho, _⟩ := ht
    exact Nat.ne_of_lt (Heap.lt_size ho)
  have nx1 : x1 ≠ s.heap.objs.size := by
    obtain ⟨_, o, _, ho, _⟩ := hot
    exact Nat.ne_of_lt (Heap.lt_size ho)
  unfold unpack
  rw [hn, hstar]
  refine wpAny_bind (wpAny_holding ?_)
  unfold unpackItems notIterableAtAll
  refine wpAny_bind (wpAny_bind (wpAny_specialOf ht.typeIs slot_tuple_iter.lookup (wpAny_pure ?_)))
  simp only [Bool.false_eq_true, if_false]
  refine wpAny_bind (wpAny_holding (iter_tuple ht ?_))
  refine wpAny_bind (wpAny_holding (draw_tuple hlt items.size 0 _ _ ⟨_, Heap.get?_push_size _ rfl, rfl, rfl⟩ (ht.push _) (by omega) fun h1 hit1 hs1 => ?_))
  have hall : List.take items.size (List.drop 0 items.toList) = items.toList := by
    rw [List.drop_zero]
    exact List.take_of_length_le (by simp)
  rw [hall, if_neg (by simp)]
  have hot1 : HotAt A x1 h1 := by
    obtain ⟨q1, o, v, q2, q3, q4⟩ := hot
    exact ⟨q1, o, v, hs1.extBut _ _ nx1 (Heap.get?_push_of_some _ q2), q3, q4⟩
  refine wpAny_bind (wpAny_holding (next_tup_through hot1 nx1 hit1 ((ht.push _).extBut hs1.extBut hlt) (by simp) fun h2 he2 => ?_))
  simp only [Option.isSome_none, Bool.false_eq_true, if_false]
  exact wpAny_pure (h h2 fun b o hb e => he2 b o hb (hs1.extBut b o hb (Heap.get?_push_of_some _ e)))
end
end Gm

/-! Gm19: a list comprehension over zip while an exception is handled. -/
namespace Gm
open PySem PySem.Spec PyProof.Rows L2 HotX
/-- two lists side by side, through when the first one is -/
def ItF (K : PySem.W.Frag) (a b : Addr) : It := { Itz K a b with stop := fun i H => ∃ xs : List V, SqL K H a xs ∧ xs.length ≤ i }
/-- the iterator's objects at the turn i -/
abbrev ZAt (z TI TO i1 i2 a b : Addr) (i : Nat) (h : Heap) : Prop := IsZip h z TI TO .none ∧ IsPair h TI (.ref i1) (.ref i2) ∧ (∃ x y, IsPair h TO x y) ∧ h.IsListIter i1 a i ∧ h.IsListIter i2 b i
section
variable {Y : Cx} {pins : List (Addr × Obj)} {σ : L2.St} {H : Hp} {s : Shared} {E : Value → Shared → Prop} {z TI TO i1 i2 a b : Addr} {i : Nat}
theorem fp_cases {c : Addr} (h : c ∈ [z, TI, TO, i1, i2]) : c = z ∨ c = TI ∨ c = TO ∨ c = i1 ∨ c = i2 := by simpa using h
theorem zat_lt (st : ZAt z TI TO i1 i2 a b i s.heap) {c : Addr} (h : c ∈ [z, TI, TO, i1, i2]) : c < s.heap.objs.size := by
  obtain ⟨sz, sI, ⟨_, _, sO⟩, ⟨_, s1, _⟩, ⟨_, s2, _⟩⟩ := st
  rcases fp_cases h with q | q | q | q | q <;> rw [q]
  · exact Heap.lt_size sz
  · exact Heap.lt_size sI
  · exact Heap.lt_size sO
  · exact Heap.lt_size s1
  · exact Heap.lt_size s2
/-- a turn -/
theorem zip_turn {elts : List Expr} {kk : Nat} {tpos : Pos} (D : ZipApart z TI TO i1 i2 a b) (I : Inv Y pins σ H s) (hf : ∀ c ∈ [z, TI, TO, i1, i2], FpOk Y pins H c) (st : ZAt z TI TO i1 i2 a b i s.heap) (go : (ItF Y.K a b).go i H) :
    wpAny (model Y.prog Y.w) Y.A (pyNext (.ref z)) (fun r s1 => ∃ u, r = some u ∧
      wpAny (model Y.prog Y.w) Y.A (letOwnedTupleGo (.Tuple elts kk tpos) (.ref z) u) (fun _ s2 => ∃ x H', Inv Y pins σ H' s2 ∧ RelV x u ∧ (ItF Y.K a b).yld i H x H' ∧ ZAt z TI TO i1 i2 a b (i + 1) s2.heap ∧ ∀ c ∈ [z, TI, TO, i1, i2], H' c = none) E s1) E s := by
  obtain ⟨xs, ys, x, y, qx, qy, gx, gy⟩ := go
  obtain ⟨l1, v1, p1, _⟩ := I.list qx
  obtain ⟨l2, v2, p2, _⟩ := I.list qy
  obtain ⟨u1, hu1, w1⟩ := v1.get gx
  obtain ⟨u2, hu2, w2⟩ := v2.get gy
  have lt := fun {c : Addr} (h : c ∈ [z, TI, TO, i1, i2]) => zat_lt st h
  obtain ⟨sz, sI, ⟨_, _, sO⟩, s1, s2⟩ := st
  refine wpAny_pyNext_zip_item D sz sI sO s1 s2 p1.isList p2.isList (x := u1) (y := u2) (by simpa using hu1) (by simpa using hu2) fun hA zA oA s1A s2A tA _ kA => ⟨_, rfl, ?_⟩
  refine wpAny_letOwnedTupleGo_zip (s := { s with heap := hA }) zA fun hB zB sB => ?_
  have tB : hB.get? s.heap.objs.size = some { cls := .type "tuple", data := .seq #[u1, u2] } := (sB.2 _ (Nat.ne_of_gt (lt (by simp)))).trans tA
  have nw : ObjOk Y.prog Y.w (upd H s.heap.objs.size (.tup [x, y])) hB s.heap.objs.size (.tup [x, y]) := ⟨show 2 ≤ sizeLine by decide, [u1, u2], .cons w1 (.cons w2 .nil), _, tB, rfl, _, rfl⟩
  have I1 : Inv Y pins σ (upd H s.heap.objs.size (.tup [x, y])) { s with heap := hB } := I.turnedNew (t' := s.toks) (ch := [z, TI, TO, i1, i2]) (fun c o nc e => by
    have k1 : c ≠ z := fun q => nc (by simp [q])
    exact (sB.2 c k1).trans (kA c o k1 (fun q => nc (by simp [q])) (fun q => nc (by simp [q])) (fun q => nc (by simp [q])) e)) hf (Nat.le_refl _) nw
  refine ⟨.ref s.heap.objs.size, _, I1, rfl, ⟨_, x, y, rfl, I.hok.fresh (Nat.le_refl _), rfl, fun l hl => by rw [I.list_inj hl qx]; exact gx, fun l hl => by rw [I.list_inj hl qy]; exact gy⟩, ⟨zB, ?_, ⟨u1, u2, (sB.2 _ D.TOz).trans oA⟩, s1A.at fun o e => (sB.2 _ D.i1z).trans e, s2A.at fun o e => (sB.2 _ D.i2z).trans e⟩, fun c hc => ?_⟩
  · exact (sB.2 _ D.TIz).trans (kA _ _ D.TIz D.TITO D.TIi1 D.TIi2 sI)
  · rw [upd_ne (Nat.ne_of_lt (lt hc))]
    exact (hf c hc).1
/-- the end -/
theorem zip_gone {x1 : Addr} (hot : HotAt Y.A x1 s.heap) (nf : x1 ∉ [z, TI, TO, i1, i2]) (D : ZipApart z TI TO i1 i2 a b) (I : Inv Y pins σ H s) (hf : ∀ c ∈ [z, TI, TO, i1, i2], FpOk Y pins H c) (st : ZAt z TI TO i1 i2 a b i s.heap) (stop : (ItF Y.K a b).stop i H) :
    wpAny (model Y.prog Y.w) Y.A (pyNext (.ref z)) (fun r s1 => r = none ∧ Inv Y pins σ H s1) E s := by
  obtain ⟨sz, sI, _, s1, s2⟩ := st
  obtain ⟨xs, qx, hl⟩ := stop
  obtain ⟨l1, v1, p1, _⟩ := I.list qx
  have e1 := v1.length
  refine zip_through hot (fun q => nf (by simp [q])) (fun q => nf (by simp [q])) D sz sI s1 p1.isList (by simp; omega) fun hA kA => ⟨rfl, I.turnedL (t' := s.toks) (ch := [z, TI, TO, i1, i2]) (fun c o nc e => kA c o (fun q => nc (by simp [q])) (fun q => nc (by simp [q])) e) hf⟩
end
def iZF (K : PySem.W.Frag) (ta : TA) : TI := fun σ H R => ta σ H fun vs H1 => ∃ a b xs ys, vs = [.ref a, .ref b] ∧ SqL K H1 a xs ∧ SqL K H1 b ys ∧ R (ItF K a b) H1
/-- a target, where x1 is handled -/
structure PGh (X : Cx) (e : Expr) (t : TG) : Prop where
  run : ∀ (x1 : Addr) (pins : List (Addr × Obj)) (s : Shared) (σ : L2.St) (H : Hp) (v : V) (u : Value) (Q : L2.St → Hp → Prop), HotAt X.A x1 s.heap → Inv X pins σ H s → RelV v u → t v σ H Q →
    wpAny (model X.prog X.w) X.A (assign e X.env u) (fun _ s' => ∃ σ' H', Inv X pins σ' H' s' ∧ Q σ' H') X.xe s
theorem pgh_tup {X : Cx} {es : List Expr} {k n : Nat} {t : TGs} {pos : Pos} (h : PGs X es t) (hn : (assignEach es X.env).length = n := by rfl) (hst : (assignEach es X.env).findIdx? (·.1) = none := by rfl) : PGh X (.Tuple es k pos) (gTup X.K n t) := by
  refine ⟨fun x1 pins s σ H v u Q hot I r hw => ?_⟩
  obtain ⟨a, xs, e1, hq, hl, hw⟩ := hw
  subst e1
  cases r
  obtain ⟨its, rv, ht, hz⟩ := I.tuple hq
  refine assign_tup_hot hot ht (by simp [hn, ← hl, rv.length]) hst fun h' hx => ?_
  have I1 : Inv X pins σ H { s with heap := h' } := I.kept (t' := s.toks) fun b o e => hx b o (Nat.ne_of_lt (Heap.lt_size e)) e
  exact h.run pins _ σ H xs _ Q I1 (by simpa using rv) hw
section
variable {X : Cx}
/-- [elt for .. in zip(e, e2) if ..] where an exception is handled -/
theorem lcHot_core {pins : List (Addr × Obj)} {s : Shared} {σ : L2.St} {H : Hp} {Q : VK} {use : Option (Value → Sem Unit)} {Qf : Value → Shared → Prop} {pos' : Pos} {elt e e2 : Expr} {elts ifs : List Expr} {kk : Nat} {scope : Scope} {own : List (Str × Nat)} {p zpos tpos lpos : Pos} {ta : TA} {g : TG} {tt : TT} {te : TE} (hot : L2H.HotC X) (hN : X.N.Nodup) (hz : Gl X "zip") (hm : X.mg "zip" = none) (ha : PA X [e, e2] ta) (ok : BlkOk X.N X.env.scope scope own)
    (hg : ∀ (s : Shared) (H : Hp) (C : Addr) (cl : List (Str × Addr)) (fp : List Addr), PGh (X.blk s H scope (compEnvC scope cl C X.env) fp) (.Tuple elts kk tpos) g) (ht : ∀ (s : Shared) (H : Hp) (C : Addr) (cl : List (Str × Addr)) (fp : List Addr), PTs (X.blk s H scope (compEnvC scope cl C X.env) fp) ifs tt)
    (he : ∀ (s : Shared) (H : Hp) (C : Addr) (cl : List (Str × Addr)) (fp : List Addr), PE (X.blk s H scope (compEnvC scope cl C X.env) fp) elt te)
    (I : Inv X pins σ H s) (h : tLc (iZF X.K ta) g tt te (own.map (·.2)) σ H Q)
    (hRR : ∀ D C s' m H', Inv X pins σ H' s' → Q (.ref D) H' → s'.heap.Ns C m → FpOk X pins H' C → compPost (model X.prog X.w) X.A X.xe use Qf (.ref D) C (.ok .next) s')
    (s1 : starEach [e, e2] X.env = (false, eval e X.env) :: starEach [e2] X.env := by rfl) (s2 : (backTo zpos (starEach [e2] X.env)).any (·.1) = false := by rfl) (hs : ∀ x, foldedSetIterable (.Call (.Name "zip" p) [e, e2] [] zpos) X.env x = pure x := by intro _; rfl) :
    wpAny (model X.prog X.w) X.A (comprehension (.ListComp elt [⟨.Tuple elts kk tpos, .Call (.Name "zip" p) [e, e2] [] zpos, ifs, 0⟩] scope lpos) scope X.env pos' (newList []) false (eval (.Call (.Name "zip" p) [e, e2] [] zpos) X.env) use) Qf X.xe s := by
  have fr : ∀ y ∈ scope.names, y.2 = .free → ∃ c, X.env.cells.lookup y.1 = some c := fun y hy q => (ok.free y hy q).elim (fun k => I.ok.has _ (.inl k)) fun k => I.ok.has _ (.inr k)
  refine wpAny_comprehension_free (use := use) rfl hs (closure_ok fr) ok.kind (fun y hy q => by rw [ok.uniq y hy, q]) ?_
  refine Call_ (ld_blt I hz hm PyProof.Rows.boot_zip (PyProof.Rows.callWith_type1 (thn (ha.run zpos pins s σ H _ I h) fun us sA ⟨vs, HA, IA, rA, qA⟩ => ?_) s1 s2))
  obtain ⟨a, b, xs, ys, ev, qx, qy, q⟩ := qA
  subst ev
  cases rA with
  | cons r rr =>
  cases rr with
  | cons r' rr =>
  cases rr
  cases r
  cases r'
  obtain ⟨l1, v1, p1, _⟩ := IA.list qx
  obtain ⟨l2, v2, p2, _⟩ := IA.list qy
  have D := PySem.W.ktu_apart sA.heap.objs.size a b p1.lt p2.lt
  refine call_zip_2 p1.isList p2.isList fun hB zB iB oB j1 j2 szB kB => wpAny_pyIter_zip zB ?_
  have IB : Inv X pins σ HA { sA with heap := hB } := IA.kept (t' := sA.toks) kB
  have lo : ∀ c ∈ [sA.heap.objs.size + 4, sA.heap.objs.size + 2, sA.heap.objs.size + 3, sA.heap.objs.size, sA.heap.objs.size + 1], sA.heap.objs.size ≤ c ∧ c < hB.objs.size := fun c hc => by
    rcases fp_cases hc with w | w | w | w | w <;> rw [w, szB] <;> omega
  have fB : ∀ c ∈ [sA.heap.objs.size + 4, sA.heap.objs.size + 2, sA.heap.objs.size + 3, sA.heap.objs.size, sA.heap.objs.size + 1], FpOk X pins HA c := fun c hc => IA.fpOk (lo c hc).1 (IA.hok.fresh (lo c hc).1)
  have stB : ZAt (sA.heap.objs.size + 4) (sA.heap.objs.size + 2) (sA.heap.objs.size + 3) sA.heap.objs.size (sA.heap.objs.size + 1) a b 0 hB := ⟨zB, iB, ⟨_, _, oB⟩, j1, j2⟩
  obtain ⟨x1, hx1⟩ : ∃ x1, X.A.handled = some (.ref x1) ∧ ∃ o vs, (x1, o) ∈ X.pn ∧ o.data = .fields vs ∧ vs[2]? = some Value.none := by
    obtain ⟨pp, ⟨k1, vs, k2, k3⟩, k4⟩ := hot
    exact ⟨pp.1, k1, pp.2, vs, k4, k2, k3⟩
  obtain ⟨hh, ox, vx, mx, dx, cx⟩ := hx1
  have nx1 : x1 ∉ [sA.heap.objs.size + 4, sA.heap.objs.size + 2, sA.heap.objs.size + 3, sA.heap.objs.size, sA.heap.objs.size + 1] := fun w => (fB x1 w).2.2.2.2.2 (x1, ox) (List.mem_append_left _ mx) rfl
  clear lo szB zB iB oB j1 j2 kB
  generalize sA.heap.objs.size + 4 = z at *
  generalize sA.heap.objs.size + 3 = TO at *
  generalize sA.heap.objs.size + 2 = TI at *
  generalize sA.heap.objs.size + 1 = i2 at *
  generalize sA.heap.objs.size = i1 at *
  have ltB := fun {c : Addr} (hc : c ∈ [z, TI, TO, i1, i2]) => zat_lt (s := { sA with heap := hB }) stB hc
  refine wpAny_newObj_type (newEnv_comp ?_) (show 0 ≤ sizeLine by decide)
  generalize eL : hB.objs.size = L
  have nL : HA L = none := IB.hok.fresh (Nat.le_of_eq eL)
  obtain ⟨Wt, ⟨m0, w0⟩, step⟩ := q L nL
  generalize eC : ({ sA with heap := hB.push { cls := .type "list", data := .seq ([] : List Value).toArray } } : Shared) = sC
  have hpC : sC.heap = hB.push { cls := .type "list", data := .seq ([] : List Value).toArray } := by rw [← eC]
  have IC : Inv X pins σ (upd HA L (.lst [])) sC := by
    rw [← eC]
    refine IB.laid (t' := sA.toks) (fun c o w => Heap.get?_push_of_some _ w) (Nat.le_of_eq eL) ⟨Nat.zero_le _, [], 0, .nil, ?_⟩
    rw [← eL]
    exact Heap.get?_push_size _ rfl
  have upL : ∀ {c : Addr}, c ∈ [z, TI, TO, i1, i2] → c ≠ L := fun {c} hc w => by
    have := ltB hc
    rw [w, ← eL] at this
    exact Nat.lt_irrefl _ this
  have fC : ∀ c ∈ [z, TI, TO, i1, i2], FpOk X pins (upd HA L (.lst [])) c ∧ c < sC.heap.objs.size := fun c hc => ⟨⟨(upd_ne (upL hc)).trans (fB c hc).1, (fB c hc).2⟩, by rw [hpC, Heap.size_push]; exact Nat.lt_succ_of_lt (ltB hc)⟩
  have T := turn_zip (P := X.prog) (w := X.w) (K := X.K) (elts := elts) (kk := kk) (tpos := tpos) D
  have stC : ZAt z TI TO i1 i2 a b 0 sC.heap := T.keep _ _ _ stB fun c _ o w => by
    rw [hpC]
    exact Heap.get?_push_of_some _ w
  have I0 := block_start IC ok hN fC
  have pg := hg sC (upd HA L (.lst [])) sC.heap.objs.size (cellsFrom (sC.heap.objs.size + 1) scope.names (cloFrom X.env.cells scope.names [])) [z, TI, TO, i1, i2]
  have pt := ht sC (upd HA L (.lst [])) sC.heap.objs.size (cellsFrom (sC.heap.objs.size + 1) scope.names (cloFrom X.env.cells scope.names [])) [z, TI, TO, i1, i2]
  have pe := he sC (upd HA L (.lst [])) sC.heap.objs.size (cellsFrom (sC.heap.objs.size + 1) scope.names (cloFrom X.env.cells scope.names [])) [z, TI, TO, i1, i2]
  have nfp : ∀ c ∈ [z, TI, TO, i1, i2], (upd HA L (.lst [])) c = none := fun c hc => (fC c hc).1.1
  show codeAny _ _ (.compStart _ 0 (.ref z) (.ref L) (compEnvC scope (cellsFrom (sC.heap.objs.size + 1) scope.names (cloFrom X.env.cells scope.names [])) sC.heap.objs.size X.env)) (compPost (model X.prog X.w) X.A X.xe use _ (.ref L) sC.heap.objs.size) { sC with heap := pushCells (sC.heap.push { cls := .type "dict", data := .dict #[] }) scope.names }
  generalize eE : compEnvC scope (cellsFrom (sC.heap.objs.size + 1) scope.names (cloFrom X.env.cells scope.names [])) sC.heap.objs.size X.env = ce at I0 pg pt pe ⊢
  have cL : ce.locals = sC.heap.objs.size := by rw [← eE]; rfl
  have gx : sC.heap.get? x1 = some ox := (IC.pin (x1, ox) (List.mem_append_left _ mx)).1
  have px := IC.pin (x1, ox) (List.mem_append_left _ mx)
  generalize upd HA L (.lst []) = HC at IC I0 pg pt pe w0 nfp fC px
  generalize eD : ({ sC with heap := pushCells (sC.heap.push { cls := .type "dict", data := .dict #[] }) scope.names } : Shared) = sD at I0 ⊢
  have stD : ZAt z TI TO i1 i2 a b 0 sD.heap := T.keep _ _ _ stC fun c _ o w => by
    rw [← eD]
    exact pushCells_keeps _ _ _ _ (Heap.get?_push_of_some _ w)
  have stat : ∀ {σ' : L2.St} {H' : Hp} {s' : Shared}, Inv (X.blk sC HC scope ce [z, TI, TO, i1, i2]) [] σ' H' s' → (∀ c ∈ [z, TI, TO, i1, i2], H' c = none) → ∀ c ∈ [z, TI, TO, i1, i2], FpOk (X.blk sC HC scope ce [z, TI, TO, i1, i2]) [] H' c := fun {σ' H' s'} J hn c hc =>
    ⟨hn c hc, (J.ok.exf c hc).1, J.ok.exfs c hc, .inl hc, fun y d w => (J.ok.exf c hc).2 y d w, fun pp hp => absurd (show pp ∈ ([] : List (Addr × Obj)) ++ [] from hp) (by simp)⟩
  have loop : codeAny (model X.prog X.w) X.A (.compLoop (.ListComp elt [⟨.Tuple elts kk tpos, .Call (.Name "zip" p) [e, e2] [] zpos, ifs, 0⟩] scope lpos) 0 (.ref z) (.ref L) ce) (compPost (model X.prog X.w) X.A X.xe use Qf (.ref L) sC.heap.objs.size) sD := by
    refine compLoop_any (fun n s' => ∃ i H', Inv (X.blk sC HC scope ce [z, TI, TO, i1, i2]) [] (wipe σ (own.map (·.2))) H' s' ∧ ZAt z TI TO i1 i2 a b i s'.heap ∧ (∀ c ∈ [z, TI, TO, i1, i2], H' c = none) ∧ Wt i n H') ?_ m0 ⟨0, HC, I0, stD, nfp, w0⟩
    rintro n s5 ⟨i, H5, I5, st5, n5, w5⟩
    rcases step i n H5 w5 with ⟨stop, qq⟩ | ⟨go, Nx, hNx, st1⟩
    · have hx5 : s5.heap.get? x1 = some ox := I5.base.keep x1 ox gx px.2.1 (fun hm => (List.mem_cons.mp (IC.stkSub x1 hm)).elim px.2.2.1 px.2.2.2.1) nx1
      refine thnF (zip_gone (Y := X.blk sC HC scope ce [z, TI, TO, i1, i2]) (E := fun _ _ => False) ⟨hh, ox, vx, hx5, dx, cx⟩ nx1 D I5 (stat I5 n5) st5 stop) fun r s6 ⟨hr, I6⟩ => ?_
      subst hr
      have I7 : Inv X pins σ H5 s6 := IC.call' (ch := [z, TI, TO, i1, i2]) I6.os I6.base I6.hok I6.bare fun c hc => ⟨(fC c hc).1.2.2.2.1, (fC c hc).1.2.1, (fC c hc).1.2.2.2.2.1, (fC c hc).1.2.2.2.2.2⟩
      have nC : H5 sC.heap.objs.size = none := by
        rw [← cL]
        exact I6.free
      obtain ⟨m, hn, _⟩ := I6.loc
      have hn : s6.heap.Ns ce.locals m := hn
      rw [cL] at hn
      exact hRR L _ _ m H5 I7 qq hn (IC.fpOk (H' := H5) (Nat.le_refl _) nC)
    · refine thnF (zip_turn (Y := X.blk sC HC scope ce [z, TI, TO, i1, i2]) (E := fun _ _ => False) (elts := elts) (kk := kk) (tpos := tpos) D I5 (stat I5 n5) st5 go) fun r s6 ⟨u, hr, h6⟩ => ?_
      subst hr
      refine thnF h6 fun _ s7 ⟨x, H7, I7, r7, y7, st7, n7⟩ => ?_
      have I7p := I7.pinned (stat I7 n7) (T.obj _ _ st7)
      have hx7 : s7.heap.get? x1 = some ox := I7.base.keep x1 ox gx px.2.1 (fun hm => (List.mem_cons.mp (IC.stkSub x1 hm)).elim px.2.2.1 px.2.2.2.1) nx1
      refine thnF (pg.run x1 _ s7 _ H7 x u _ ⟨hh, ox, vx, hx7, dx, cx⟩ I7p r7 (st1 x H7 y7)) fun _ s8 ⟨σ8, H8, I8, hw8, q8⟩ => ?_
      refine thnF (pt.run _ s8 σ8 H8 _ I8 q8) fun t s9 ⟨H9, I9, q9⟩ => ?_
      have done : ∀ {s' : Shared} {H' : Hp}, Inv (X.blk sC HC scope ce [z, TI, TO, i1, i2]) ([] ++ pinsAt [z, TI, TO, i1, i2] s7.heap) σ8 H' s' → Nx H' → ∃ m, m < n ∧ ∃ i H', Inv (X.blk sC HC scope ce [z, TI, TO, i1, i2]) [] (wipe σ (own.map (·.2))) H' s' ∧ ZAt z TI TO i1 i2 a b i s'.heap ∧ (∀ c ∈ [z, TI, TO, i1, i2], H' c = none) ∧ Wt i m H' := fun {s' H'} J nx => by
        obtain ⟨m', lm, w'⟩ := hNx H' nx
        have pin : ∀ c ∈ [z, TI, TO, i1, i2], ∀ o, s7.heap.get? c = some o → s'.heap.get? c = some o ∧ H' c = none := fun c hc o w => by
          have y := J.pin (c, o) (List.mem_append_right _ (List.mem_append_right _ (mem_pinsAt hc w)))
          exact ⟨y.1, y.2.1⟩
        refine ⟨m', lm, i + 1, H', (J.unpinned (pins := [])).weak (by rw [← hw8, wipe_length]) (fun j v w => ?_), T.keep _ _ _ st7 fun c hc o w => (pin c hc o w).1, fun c hc => ?_, w'⟩
        · rw [← hw8] at w
          exact (wipe_some w).1
        · obtain ⟨o, w, _⟩ := T.obj _ _ st7 c hc
          exact (pin c hc o w).2
      cases t with
      | false => exact done I9 q9
      | true =>
        refine thnF (pe.run _ s9 σ8 H9 _ I9 q9) fun y s10 ⟨yv, H10, I10, r10, acc, d10, z10, nx⟩ => ?_
        exact app_ok (X := X.blk sC HC scope ce [z, TI, TO, i1, i2]) I10 d10 z10 r10 fun s11 I11 => done I11 nx
  exact codeAny_compStart_list loop (T.self X.A 0 _ _ _ stD loop)
/-- [elt for .. in zip(e, e2) if ..] where an exception is handled -/
theorem pe_lcHot {elt e e2 : Expr} {elts ifs : List Expr} {kk : Nat} {scope : Scope} {own : List (Str × Nat)} {p zpos tpos lpos : Pos} {ta : TA} {g : TG} {tt : TT} {te : TE} (hot : L2H.HotC X) (hN : X.N.Nodup) (hz : Gl X "zip") (hm : X.mg "zip" = none) (ha : PA X [e, e2] ta) (ok : BlkOk X.N X.env.scope scope own)
    (hg : ∀ (s : Shared) (H : Hp) (C : Addr) (cl : List (Str × Addr)) (fp : List Addr), PGh (X.blk s H scope (compEnvC scope cl C X.env) fp) (.Tuple elts kk tpos) g) (ht : ∀ (s : Shared) (H : Hp) (C : Addr) (cl : List (Str × Addr)) (fp : List Addr), PTs (X.blk s H scope (compEnvC scope cl C X.env) fp) ifs tt)
    (he : ∀ (s : Shared) (H : Hp) (C : Addr) (cl : List (Str × Addr)) (fp : List Addr), PE (X.blk s H scope (compEnvC scope cl C X.env) fp) elt te)
    (s1 : starEach [e, e2] X.env = (false, eval e X.env) :: starEach [e2] X.env := by rfl) (s2 : (backTo zpos (starEach [e2] X.env)).any (·.1) = false := by rfl) (hs : ∀ x, foldedSetIterable (.Call (.Name "zip" p) [e, e2] [] zpos) X.env x = pure x := by intro _; rfl) :
    PE X (.ListComp elt [⟨.Tuple elts kk tpos, .Call (.Name "zip" p) [e, e2] [] zpos, ifs, 0⟩] scope lpos) (tLc (iZF X.K ta) g tt te (own.map (·.2))) := by
  refine ⟨fun pins s σ H Q I h => ?_⟩
  rw [eval_ListComp]
  refine lcHot_core hot hN hz hm ha ok hg ht he I h (fun D C s' m H' I' q hn f => ⟨m, hn, fun h2 sb => ?_⟩) s1 s2 hs
  obtain ⟨f0, f1, f2, f3, f4, f5⟩ := f
  exact ⟨.ref D, H', I'.turned (t' := s'.toks) (fun c o hc w => (sb.2 c hc).trans w) f0 f1 f3 f4 f5, rfl, q⟩
/-- .. bound to a name on one line -/
theorem ps_setLcHot {i : Nat} {y : Str} {py spos : Pos} {elt e e2 : Expr} {elts ifs : List Expr} {kk : Nat} {scope : Scope} {own : List (Str × Nat)} {p zpos tpos lpos : Pos} {ta : TA} {g : TG} {tt : TT} {te : TE} (hot : L2H.HotC X) (hN : X.N.Nodup) (hy : X.N[i]? = some y) (hyl : X.env.scope.names.lookup y = some .local)
    (hsw : swapsWith (.ListComp elt [⟨.Tuple elts kk tpos, .Call (.Name "zip" p) [e, e2] [] zpos, ifs, 0⟩] scope lpos) (some (.Name y py)) spos.line X.env = pure true) (hz : Gl X "zip") (hm : X.mg "zip" = none) (ha : PA X [e, e2] ta) (ok : BlkOk X.N X.env.scope scope own)
    (hg : ∀ (s : Shared) (H : Hp) (C : Addr) (cl : List (Str × Addr)) (fp : List Addr), PGh (X.blk s H scope (compEnvC scope cl C X.env) fp) (.Tuple elts kk tpos) g) (ht : ∀ (s : Shared) (H : Hp) (C : Addr) (cl : List (Str × Addr)) (fp : List Addr), PTs (X.blk s H scope (compEnvC scope cl C X.env) fp) ifs tt)
    (he : ∀ (s : Shared) (H : Hp) (C : Addr) (cl : List (Str × Addr)) (fp : List Addr), PE (X.blk s H scope (compEnvC scope cl C X.env) fp) elt te)
    (s1 : starEach [e, e2] X.env = (false, eval e X.env) :: starEach [e2] X.env := by rfl) (s2 : (backTo zpos (starEach [e2] X.env)).any (·.1) = false := by rfl) (hs : ∀ x, foldedSetIterable (.Call (.Name "zip" p) [e, e2] [] zpos) X.env x = pure x := by intro _; rfl) :
    PS X (.Assign [.Name y py] (.ListComp elt [⟨.Tuple elts kk tpos, .Call (.Name "zip" p) [e, e2] [] zpos, ifs, 0⟩] scope lpos) spos) (tAsg (tLc (iZF X.K ta) g tt te (own.map (·.2))) (gName i)) := by
  refine ⟨fun pins s σ H D I h => ?_⟩
  rw [exec_Assign_Name_used _ _ _ _ hsw]
  refine wpAny_bind (wpAny_standAt (wpAny_bind ?_))
  have h : tLc (iZF X.K ta) g tt te (own.map (·.2)) σ H (fun x H1 => gName i x σ H1 D.nx) := h
  refine wpAny_bind (thn (lcHot_core (Qf := fun _ s' => SP X pins D .next s') (use := some (assign (.Name y py) X.env)) hot hN hz hm ha ok hg ht he I h (fun L C s' m H' I' q hn f => ?_) s1 s2 hs) fun _ s' hq => wpAny_pure (wpAny_pure hq))
  show wpAny _ _ (assign (.Name y py) X.env (.ref L)) _ _ _
  refine wpAny_assign_Name (store_ok2 (v := V.ref L) I' hN hy (.inl hyl) rfl (fun s2 I2 ⟨a, sb, ha⟩ => ?_) (.inr hyl))
  obtain ⟨f0, f1, f2, f3, f4, f5⟩ := f
  have haC : C ≠ a := ha.elim (fun z => by rw [z]; exact f1) fun z w => f4 y a z w.symm
  exact ⟨m, hn.sameBut sb haC, fun h3 sb3 => ⟨_, H', I2.turned (t' := s2.toks) (fun b o hb e => (sb3.2 b hb).trans e) f0 f1 f3 f4 f5, q⟩⟩
end
/-! ### over the readings of data -/
theorem itf_ok {c : Cf} {a b : Addr} {l k : List D} {vs ws : List V} {g0 : Gh} {L0 : Nat} (hq : SqL c.K g0.tr a vs) (rs : RVs c g0 L0 l vs) (hq2 : SqL c.K g0.tr b ws) (rs2 : RVs c g0 L0 k ws) (hl : l.length ≤ k.length) : ItOk c (ItF c.K a b) (zipD l k) g0 L0 := fun g h H i S gx hL => by
  obtain ⟨_, z2⟩ := itz_ok hq rs hq2 rs2 g h H i S gx hL
  refine ⟨fun hi => ⟨vs, SqL.sub S.sub (SqL.sub gx.tr hq), ?_⟩, z2⟩
  rw [zipD_len, Nat.min_eq_left hl, rs.length] at hi
  exact hi
/-- two lists side by side, the first one no longer than the second -/
def iZipF (fs : Ev (List D)) : Ev (List D) := fun st h => (fs st h).bind fun ds h1 => match ds with
  | [d, d'] => match asI d, asI d' with
    | some l, some k => if l.length ≤ k.length then .ok (zipD l k) h1 else .no
    | _, _ => .no
  | _ => .no
theorem zf_of {c : Cf} {W : WX} {fs : Ev (List D)} {σ : L2.St} {H : Hp} {R : It → Hp → Prop} (x : tIt c W (iZipF fs) σ H R) : iZF c.K (tAr c W fs) σ H R := by
  obtain ⟨st, h, g, S, sl, q⟩ := x
  refine ⟨st, h, g, S, sl, RP.mono (RP.bind q) fun vs H1 ⟨ds, h1, g1, o1, S1, r1, q1⟩ => ?_⟩
  split at q1
  · rename_i d d'
    split at q1
    · rename_i l k el ek
      by_cases hl : l.length ≤ k.length
      · rw [if_pos hl] at q1
        cases r1 with
        | cons r rr =>
          cases rr with
          | cons r' rr =>
            cases rr
            obtain ⟨a, vs, rfl, hq, rs⟩ := asI_ok r el
            obtain ⟨b, ws, rfl, hq2, rs2⟩ := asI_ok r' ek
            exact ⟨a, b, vs, ws, rfl, SqL.sub S1.sub hq, SqL.sub S1.sub hq2, RP.ok_here q1 S1 (itf_ok hq rs hq2 rs2 hl)⟩
      · rw [if_neg hl] at q1
        exact q1.elim
    · exact q1.elim
  · exact q1.elim
section
variable {c : Cf} {W : WX} {X : Cx}
theorem e_lcHot {m : Bool} {elt e e2 : Expr} {elts ifs : List Expr} {kk : Nat} {scope : Scope} {own : List (Str × Nat)} {p zpos tpos lpos : Pos} {gt : TG} {fs : Ev (List D)} {fg : D → Slots → Option Slots} {ft : Ev Bool} {fe : Ev D} (hK : c.K = X.K) (hot : L2H.HotC X) (hN : X.N.Nodup) (hz : Gl X "zip") (hm : X.mg "zip" = none) (ha : PA X [e, e2] (tAr c W fs)) (ok : BlkOk X.N X.env.scope scope own)
    (hg : ∀ (s : Shared) (H : Hp) (C : Addr) (cl : List (Str × Addr)) (fp : List Addr), PGh (X.blk s H scope (compEnvC scope cl C X.env) fp) (.Tuple elts kk tpos) gt) (tgn : TgN c (own.map (·.2)) gt fg)
    (ht : ∀ (s : Shared) (H : Hp) (C : Addr) (cl : List (Str × Addr)) (fp : List Addr), PTs (X.blk s H scope (compEnvC scope cl C X.env) fp) ifs (tTe c W0 ft))
    (he : ∀ (s : Shared) (H : Hp) (C : Addr) (cl : List (Str × Addr)) (fp : List Addr), PE (X.blk s H scope (compEnvC scope cl C X.env) fp) elt (tEv c W0 fe))
    (s1 : starEach [e, e2] X.env = (false, eval e X.env) :: starEach [e2] X.env := by rfl) (s2 : (backTo zpos (starEach [e2] X.env)).any (·.1) = false := by rfl) (hs : ∀ x, foldedSetIterable (.Call (.Name "zip" p) [e, e2] [] zpos) X.env x = pure x := by intro _; rfl) :
    PE X (.ListComp elt [⟨.Tuple elts kk tpos, .Call (.Name "zip" p) [e, e2] [] zpos, ifs, 0⟩] scope lpos) (tEv c W (cLc m (iZipF fs) fg ft fe (own.map (·.2)))) := PE.imp (pe_lcHot hot hN hz hm ha ok hg ht he s1 s2 hs) fun σ H Q x => by
  rw [← hK]
  exact zf_of (lc_ok tgn x)
theorem s_setLcHot {m : Bool} {i : Nat} {y : Str} {py spos : Pos} {elt e e2 : Expr} {elts ifs : List Expr} {kk : Nat} {scope : Scope} {own : List (Str × Nat)} {p zpos tpos lpos : Pos} {gt : TG} {fs : Ev (List D)} {fg : D → Slots → Option Slots} {ft : Ev Bool} {fe : Ev D} (hK : c.K = X.K) (hot : L2H.HotC X) (hN : X.N.Nodup) (hy : X.N[i]? = some y) (hyl : X.env.scope.names.lookup y = some .local)
    (hsw : swapsWith (.ListComp elt [⟨.Tuple elts kk tpos, .Call (.Name "zip" p) [e, e2] [] zpos, ifs, 0⟩] scope lpos) (some (.Name y py)) spos.line X.env = pure true) (hz : Gl X "zip") (hm : X.mg "zip" = none) (ha : PA X [e, e2] (tAr c W fs)) (ok : BlkOk X.N X.env.scope scope own)
    (hg : ∀ (s : Shared) (H : Hp) (C : Addr) (cl : List (Str × Addr)) (fp : List Addr), PGh (X.blk s H scope (compEnvC scope cl C X.env) fp) (.Tuple elts kk tpos) gt) (tgn : TgN c (own.map (·.2)) gt fg)
    (ht : ∀ (s : Shared) (H : Hp) (C : Addr) (cl : List (Str × Addr)) (fp : List Addr), PTs (X.blk s H scope (compEnvC scope cl C X.env) fp) ifs (tTe c W0 ft))
    (he : ∀ (s : Shared) (H : Hp) (C : Addr) (cl : List (Str × Addr)) (fp : List Addr), PE (X.blk s H scope (compEnvC scope cl C X.env) fp) elt (tEv c W0 fe))
    (s1 : starEach [e, e2] X.env = (false, eval e X.env) :: starEach [e2] X.env := by rfl) (s2 : (backTo zpos (starEach [e2] X.env)).any (·.1) = false := by rfl) (hs : ∀ x, foldedSetIterable (.Call (.Name "zip" p) [e, e2] [] zpos) X.env x = pure x := by intro _; rfl) :
    PS X (.Assign [.Name y py] (.ListComp elt [⟨.Tuple elts kk tpos, .Call (.Name "zip" p) [e, e2] [] zpos, ifs, 0⟩] scope lpos) spos) (tSt c W (sSet i (cLc m (iZipF fs) fg ft fe (own.map (·.2))))) := PS.imp (ps_setLcHot hot hN hy hyl hsw hz hm ha ok hg ht he s1 s2 hs) fun D σ H ⟨st, h, g, S, sl, q⟩ => by
  show tLc _ _ _ _ _ σ H (fun x H1 => gName i x σ H1 D.nx)
  rw [← hK]
  have key : tEv c W (cLc m (iZipF fs) fg ft fe (own.map (·.2))) σ H (fun x H1 => gName i x σ H1 D.nx) := ⟨st, h, g, S, sl, RP.mono (OP.out sl q) fun v H1 ⟨d, h1, g1, o1, S1, r1, q1⟩ => q1 g1 H1 _ (Go.refl _ _ _) S1 ((sl.go o1).set i r1)⟩
  exact zf_of (lc_ok tgn key)
end
end Gm

/-! Gm20: the exception that is handled as a value: isinstance of it, its fields. -/
namespace PySem.W
open PySem PySem.Spec PySem.Calls PyProof.Rows
section
variable {prog : Program} {w : World} {A : Around} {E : Value → Shared → Prop} {s : Shared} {K : Frag} {x D : Addr} {ox : Obj} {od : Option Obj}
theorem gm_findObj_data {C : Addr} {name : Str} {a g : Value} (hc : (clsIn K C).isSome = true) (ha : findIn K (.ref C) name = some (some a)) (hg : specialIn K a "__get__" = some (some g)) (ht : takesIn K a = some true) : findObj K C od name = some (.bind g a) := by
  obtain ⟨cd, hc⟩ := Option.isSome_iff_exists.mp hc
  unfold findObj
  rw [hc, Option.bind_some, ha, Option.bind_some]
  simp [hg, ht]
theorem gm_classE {Q : Option Value → Shared → Prop} (hga : findIn K (.ref D) "__getattribute__" = some (some (.builtin "BaseException.__getattribute__"))) (hgt : findIn K (.ref D) "__getattr__" = some none) (hsub : subIn K (.ref D) (.type "BaseException") = some true)
    (hdct : hasDictIn K D = true) (ha : findIn K (.ref D) "__class__" = some (some (.builtin "object.__class__")))
    (hn : specialIn K (.builtin "object.__class__") "__get__" = some (some (.builtin "getset_descriptor.__get__"))) (htk : takesIn K (.builtin "object.__class__") = some true) (hm : mroIn K D (.type "object") = some true)
    (X : K.In s.heap) (I : InstAt s.heap x ox D od) (h : Q (some (.ref D)) { s with toks := s.toks + 1 }) : wpAny (model prog w) A (getAttr? (.ref x) "__class__") Q E s := by
  have hf : findObj K D od "__class__" = some (.bind (.builtin "getset_descriptor.__get__") (.builtin "object.__class__")) := gm_findObj_data (by obtain ⟨cd, hc, _⟩ := any_some hdct; rw [hc]; rfl) ha hn htk
  obtain ⟨hp, g, d, t, os⟩ := s
  have L0 := I.type (M := model prog w)
  have L1 := looks_findIn (M := model prog w) X hga
  have L2 := looks_findIn (M := model prog w) X hgt
  have L3 := looks_find (M := model prog w) X I hf
  have sub : Looks (model prog w) hp (isInstance (.ref x) (.type "BaseException")) true := L0.andThen (looks_subIn X hsub)
  have hx0 : (false && onTheHeap (Value.builtin "BaseException.__getattribute__")) = false := rfl
  have hx2 : (Value.builtin "BaseException.__getattribute__" == Value.builtin "object.__getattribute__") = false := by decide +kernel
  have hx1 : (onTheHeap (Value.ref D) && Value.builtin "BaseException.__getattribute__" == Value.builtin "object.__getattribute__") = false := by rw [hx2]; rfl
  unfold getAttr? getAttrBy? getAttrBy
  refine wpAny_bind (wpAny_mkText (wpAny_bind (wpAny_attempt (wpAny_holding (wpAny_bind (L0.at (wpAny_bind (L1.at ?_))))))))
  show wpAny _ _ (if (onTheHeap (Value.ref D) && Value.builtin "BaseException.__getattribute__" == Value.builtin "object.__getattribute__") = true then _ else _) _ _ _
  rw [hx1, if_neg Bool.false_ne_true]
  unfold getAttrByItsOwn hookBefore
  refine wpAny_bind ?_
  rw [if_pos (show onTheHeap (Value.ref D) = true from rfl)]
  refine L2.at ?_
  refine wpAny_bind (wpAny_attempt (wpAny_holding ?_))
  unfold callGetattribute
  rw [hx0, if_neg Bool.false_ne_true]
  unfold boundAndCalled
  rw [PySem.F.excAttr_ValueError.ga.bind (.ref x)]
  refine wpAny_bind (wpAny_pure ?_)
  show wpAny _ _ (call (.builtin "BaseException.__getattribute__") [.ref x, .str "__class__" t]) _ _ _
  refine wpAny_call (codeAny_call_builtin PySem.F.excAttr_ValueError.ga.plain PySem.F.entry_bexc_ga ?_)
  refine @check_slot (model prog w) _ _ ⟨hp, g, d, t + 1, os⟩ "BaseException.__getattribute__" "BaseException" "__getattribute__" (.ref x) [.str "__class__" t] [] _ (by decide +kernel) (by decide +kernel) sub (PySem.F.args_bexc_ga (.ref x) (.str "__class__" t)) ?_
  unfold Builtin.«object.__getattribute__»
  refine wpAny_bind (wpAny_of_eq (a := ((Value.ref x : Value), [Value.str "__class__" t])) (by first | rfl | (simp only [slotArgs]; rfl)) ?_)
  refine wpAny_bind (wpAny_pure (wpAny_bind (L0.at (wpAny_bind (L3.at ?_)))))
  show wpAny _ _ (holding [Value.builtin "object.__class__"] (call (.builtin "getset_descriptor.__get__") [.builtin "object.__class__", .ref x, .ref D]) >>= ret) _ _ _
  refine wpAny_bind (wpAny_holding (wpAny_call (class_get (s := ⟨hp, g, d, t + 1, os⟩) (ox := ox) (od := od) X I hm ?_)))
  refine wpAny_pure ?_
  show wpAny _ _ (handedOut (.ref D)) _ _ _
  rw [handedOut_of (v := .ref D) rfl]
  first
    | exact wpAny_pure (wpAny_pure h)
    | exact wpAny_pure h
    | exact wpAny_pure (wpAny_bind (wpAny_pure (wpAny_pure h)))
theorem gm_kitx_exc (hga : findIn K (.ref D) "__getattribute__" = some (some (.builtin "BaseException.__getattribute__"))) (hgt : findIn K (.ref D) "__getattr__" = some none) (hsub : subIn K (.ref D) (.type "BaseException") = some true) (hdct : hasDictIn K D = true) (ha : findIn K (.ref D) "__class__" = some (some (.builtin "object.__class__")))
    (hn : specialIn K (.builtin "object.__class__") "__get__" = some (some (.builtin "getset_descriptor.__get__"))) (htk : takesIn K (.builtin "object.__class__") = some true) (hm : mroIn K D (.type "object") = some true) :
    KitX K (.ref x) (.ref D) (fun h => InstAt h x ox D od) where
  ty := fun _ _ _ I => I.type
  it := fun _ _ X _ => by
    obtain ⟨cdD, hcD, _⟩ := any_some hdct
    unfold clsIn at hcD
    split at hcD
    · rename_i c' d' cd' sl' ho
      intro A' Q' E' s' k q
      unfold isType loadHead
      exact wpAny_bind (wpAny_loadPart (k _ _ (X _ _ ho)) (wpAny_pure q))
    · cases hcD
  ne := fun h tp dd its n sl X htp => by
    obtain ⟨cdD, hcD, _⟩ := any_some hdct
    refine Bool.eq_false_iff.mpr fun q => ?_
    have e : D = tp := Value.ref.inj (beq_iff_eq.mp q)
    subst e
    unfold clsIn at hcD
    split at hcD
    · rename_i c' d' cd' sl' ho
      have z := (X _ _ ho).symm.trans htp
      cases z
    · cases hcD
  ca := fun X I k => gm_classE hga hgt hsub hdct ha hn htk hm X I k
end
end PySem.W
namespace Gm
open PySem PySem.Spec PyProof.Rows L2
/-! ### the classes of exceptions by names -/
def subE (T : List (Str × Str)) : Nat → Str → Str → Bool
  | 0, n, C => n == C
  | k + 1, n, C => n == C || match T.lookup n with
    | some m => subE T k m C
    | none => false
/-- T: whose base is what; ns: classes that are raised here; ms: own classes that are asked for -/
structure ExcT where
  T : List (Str × Str)
  ns : List Str
  ms : List Str
def ExcT.is (t : ExcT) (n C : Str) : Bool := subE t.T 4 n C
def bltE : List String := ["ValueError", "LookupError"]
def excCB (K : PySem.W.Frag) (D : Addr) : Bool :=
  decide (PySem.W.findIn K (.ref D) "__getattribute__" = some (some (.builtin "BaseException.__getattribute__"))) && (decide (PySem.W.findIn K (.ref D) "__getattr__" = some none) && (decide (PySem.W.subIn K (.ref D) (.type "BaseException") = some true) && (PySem.W.hasDictIn K D &&
    (decide (PySem.W.findIn K (.ref D) "__class__" = some (some (.builtin "object.__class__"))) && (decide (PySem.W.specialIn K (.builtin "object.__class__") "__get__" = some (some (.builtin "getset_descriptor.__get__"))) && (decide (PySem.W.takesIn K (.builtin "object.__class__") = some true) &&
      decide (PySem.W.mroIn K D (.type "object") = some true)))))))
theorem excCB_ok {K : PySem.W.Frag} {D : Addr} (h : excCB K D = true) : ExcC K D := by
  unfold excCB at h
  simp only [Bool.and_eq_true, decide_eq_true_eq] at h
  obtain ⟨h1, h2, h3, h4, h5, h6, h7, h8⟩ := h
  exact ⟨h1, h2, h3, h4, h5, h6, h7, h8⟩
def excTB (t : ExcT) (K : PySem.W.Frag) : Bool := t.ns.all fun n => excCB K (He.ga K n) && (t.ms.all (fun m => decide (PySem.W.kitOne K (.ref (He.ga K n)) (.ref (He.ga K m)) = some (t.is n m)) && decide (PySem.W.exmOne K (.ref (He.ga K n)) (.ref (He.ga K m)) = some (t.is n m))) &&
  bltE.all fun b => decide (PySem.W.kitOne K (.ref (He.ga K n)) (.type b) = some (t.is n (PySem.Str.ofString b))))
structure ExcOk (t : ExcT) (K : PySem.W.Frag) : Prop where
  c : ∀ n, n ∈ t.ns → ExcC K (He.ga K n)
  kit : ∀ n m, n ∈ t.ns → m ∈ t.ms → PySem.W.kitOne K (.ref (He.ga K n)) (.ref (He.ga K m)) = some (t.is n m)
  exm : ∀ n m, n ∈ t.ns → m ∈ t.ms → PySem.W.exmOne K (.ref (He.ga K n)) (.ref (He.ga K m)) = some (t.is n m)
  blt : ∀ n b, n ∈ t.ns → b ∈ bltE → PySem.W.kitOne K (.ref (He.ga K n)) (.type b) = some (t.is n (PySem.Str.ofString b))
theorem excOk_of {t : ExcT} {K : PySem.W.Frag} (h : excTB t K = true) : ExcOk t K := by
  have key : ∀ n, n ∈ t.ns → excCB K (He.ga K n) = true ∧ (∀ m ∈ t.ms, PySem.W.kitOne K (.ref (He.ga K n)) (.ref (He.ga K m)) = some (t.is n m) ∧ PySem.W.exmOne K (.ref (He.ga K n)) (.ref (He.ga K m)) = some (t.is n m)) ∧
      ∀ b ∈ bltE, PySem.W.kitOne K (.ref (He.ga K n)) (.type b) = some (t.is n (PySem.Str.ofString b)) := fun n hn => by
    have h1 := List.all_eq_true.mp h n hn
    rw [Bool.and_eq_true, Bool.and_eq_true] at h1
    obtain ⟨h2, h3, h4⟩ := h1
    refine ⟨h2, fun m hm => ?_, fun b hb => ?_⟩
    · have h5 := List.all_eq_true.mp h3 m hm
      rw [Bool.and_eq_true] at h5
      exact ⟨of_decide_eq_true h5.1, of_decide_eq_true h5.2⟩
    · exact of_decide_eq_true (List.all_eq_true.mp h4 b hb)
  exact ⟨fun n hn => excCB_ok (key n hn).1, fun n m hn hm => ((key n hn).2.1 m hm).1, fun n m hn hm => ((key n hn).2.1 m hm).2, fun n b hn hb => (key n hn).2.2 b hb⟩
/-! ### the handled exception in a context -/
/-- p is the object of the exception that c tells -/
structure PinE (c : Cf) (p : Addr × Obj) : Prop where
  at_ : ∃ n dd C, c.ex = some (p.1, n, dd) ∧ c.cl n = some C ∧ L2N.Zn (.ref C) dd p.2
  fld : ∃ vs, p.2.data = .fields vs
def HotE (c : Cf) (X : Cx) : Prop := ∃ p ∈ X.pn, PinE c p ∧ X.A.handled = some (.ref p.1)
theorem PinE.hot1 {c : Cf} {p : Addr × Obj} {A : Around} (x : PinE c p) (h : A.handled = some (.ref p.1)) : L2H.Hot1 A p := by
  obtain ⟨⟨n, dd, C, _, _, z⟩, vs, hv⟩ := x
  exact ⟨h, vs, hv, z.2.2 vs hv⟩
theorem HotE.hot {c : Cf} {X : Cx} (x : HotE c X) : L2H.HotC X := by
  obtain ⟨p, hp, z, h⟩ := x
  exact ⟨p, z.hot1 h, hp⟩
section
variable {c : Cf} {W : WX} {X : Cx} {t : ExcT}
/-- isinstance(e, c), e the handled one -/
def rIsX (c : Cf) (K : PySem.W.Frag) : List V → Hp → VK → Prop := fun xs H Q => ∃ (a : Addr) (n : Str) (dd : Option Addr) (D : Addr) (k : V) (kv : Value) (b : Bool), xs = [.ref a, k] ∧ c.ex = some (a, n, dd) ∧ c.cl n = some D ∧ (dd = none ∨ ∃ d fs, dd = some d ∧ H d = some (.xd fs)) ∧
  ExcC K D ∧ (∀ u, RelV k u → u = kv) ∧ PySem.W.kitOne K (.ref D) kv = some b ∧ Q (.bl b) H
theorem inst_at {pins : List (Addr × Obj)} {σ : L2.St} {H : Hp} {s : Shared} (ht : HotE c X) {a : Addr} {n : Str} {dd : Option Addr} {D : Addr} (I : Inv X pins σ H s) (e : c.ex = some (a, n, dd)) (hD : c.cl n = some D) (hd : dd = none ∨ ∃ d fs, dd = some d ∧ H d = some (.xd fs)) :
    ∃ ox od, PySem.W.InstAt s.heap a ox D od := by
  obtain ⟨p, hp, ⟨⟨n', dd', C, e', hC, hz⟩, vs, hv⟩, _⟩ := ht
  rw [e] at e'
  cases e'
  rw [hD] at hC
  cases hC
  obtain ⟨hget, _⟩ := I.pin p (List.mem_append_left _ hp)
  obtain ⟨a, oc, od, oda, osl⟩ := p
  obtain ⟨h1, h2, _⟩ := hz
  dsimp only at h1 h2 hv
  subst h1 h2 hv
  rcases hd with rfl | ⟨d, fs, rfl, hd⟩
  · exact ⟨_, none, hget, rfl, rfl, trivial⟩
  · obtain ⟨mA, hns, _⟩ := (show ObjOk X.prog X.w H s.heap d (.xd fs) from I.hok d _ hd)
    obtain ⟨o, ho, _⟩ := lookIn_ns hns
    exact ⟨_, some o, hget, rfl, rfl, ho⟩
theorem call_isX (ht : HotE c X) : CallR X (.builtin "isinstance") (rIsX c X.K) := by
  intro pins s σ H xs us Q I r h
  obtain ⟨a, n, dd, D, k, kv, b, rfl, e, hD, hd, C, hk, ek, q⟩ := h
  cases r with
  | cons rx rr =>
    cases rr with
    | cons rt rr =>
      cases rr
      cases rx
      have ec := hk _ rt
      subst ec
      obtain ⟨ox, od, J⟩ := inst_at ht I e hD hd
      exact PySem.W.kia_one (PySem.W.gm_kitx_exc (od := od) C.hg C.hk C.hs C.hd C.ha C.hn C.ht C.hm) I.kIn J ek (fun z => nomatch z) fun tk => ⟨.bl b, H, I.kept (t' := tk) fun _ _ z => z, rfl, q⟩
def rIsX2 (c : Cf) (K : PySem.W.Frag) : List V → Hp → VK → Prop := fun xs H Q => ∃ (a : Addr) (n : Str) (dd : Option Addr) (D : Addr) (tp : Addr) (cs : List V) (us : List Value) (b : Bool), xs = [.ref a, .ref tp] ∧ c.ex = some (a, n, dd) ∧ c.cl n = some D ∧ (dd = none ∨ ∃ d fs, dd = some d ∧ H d = some (.xd fs)) ∧
  ExcC K D ∧ H tp = some (.tup cs) ∧ Paired ClsV cs us ∧ PySem.W.kitAny K (.ref D) us = some b ∧ Q (.bl b) H
theorem call_isX2 (ht : HotE c X) : CallR X (.builtin "isinstance") (rIsX2 c X.K) := by
  intro pins s σ H xs us Q I r h
  obtain ⟨a, n, dd, D, tp, cs, ws, b, rfl, e, hD, hd, C, hT, k, ek, q⟩ := h
  obtain ⟨u1, u2, rfl, r1, r2⟩ := vals2 r
  cases (show u1 = Value.ref a from r1)
  cases (show u2 = Value.ref tp from r2)
  obtain ⟨_, its, rv, o, h1, h2, m, h3⟩ := (show ObjOk X.prog X.w H s.heap tp (.tup cs) from I.hok tp _ hT)
  have e3 := ClsV.all k rv
  subst e3
  obtain ⟨oc, oda, dt, sl⟩ := o
  simp only at h2 h3
  subst h2 h3
  obtain ⟨ox, od, J⟩ := inst_at ht I e hD hd
  exact PySem.W.kia_tup (PySem.W.gm_kitx_exc (od := od) C.hg C.hk C.hs C.hd C.ha C.hn C.ht C.hm) I.kIn J h1 ek (fun z => nomatch z) fun tk => ⟨.bl b, H, I.tok tk, rfl, q⟩
def exnOf (t : ExcT) (d : D) : Option Str := match d with
  | .exn n _ => if n ∈ t.ns then some n else none
  | _ => none
theorem exnOf_ok {g : Gh} {h : Store} {H : Hp} {d : D} {v : V} {n : Str} (S : SR c g h H) (r : RV c g h.length d v) (e : exnOf t d = some n) : n ∈ t.ns ∧ ∃ a dd, v = .ref a ∧ c.ex = some (a, n, dd) ∧ (dd = none ∨ ∃ d fs, dd = some d ∧ H d = some (.xd fs)) := by
  cases r with
  | @exn0 m a he =>
    unfold exnOf at e
    dsimp only at e
    by_cases hm : m ∈ t.ns
    · rw [if_pos hm] at e
      cases e
      exact ⟨hm, a, none, rfl, he, .inl rfl⟩
    · rw [if_neg hm] at e
      cases e
  | @exn1 m fs a dd fvs he hd _ =>
    unfold exnOf at e
    dsimp only at e
    by_cases hm : m ∈ t.ns
    · rw [if_pos hm] at e
      cases e
      exact ⟨hm, a, some dd, rfl, he, .inr ⟨dd, fvs, rfl, S.sub _ _ hd⟩⟩
    · rw [if_neg hm] at e
      cases e
  | _ => cases e
def cIsE (t : ExcT) (fe : Ev D) (C : Str) : Ev D := fun st h => (fe st h).bind fun d h1 => match exnOf t d with
  | some n => .ok (.bl (t.is n C)) h1
  | none => .no
variable {e : Expr} {fe : Ev D} {p pos tpos p1 p2 : Pos}
theorem e_isE {C : Str} (hcl : ∀ n, c.cl n = some (He.ga X.K n)) (ho : ExcOk t X.K) (ht : HotE c X) (hg : Gl X "isinstance") (hm : X.mg "isinstance" = none) (hv : bootBuiltins "isinstance" = some (.builtin "isinstance")) (he : PE X e (tEv c W fe)) (hgC : Gl X C) (hmC : X.mg C = some (.ref (He.ga X.K C))) (hC : C ∈ t.ms)
    (hdC : (C == ("__debug__" : Str)) = false := by decide)
    (s1 : starEach [e, .Name C p1] X.env = (false, eval e X.env) :: starEach [.Name C p1] X.env := by rfl) (s2 : starEach [.Name C p1] X.env = (false, eval (.Name C p1) X.env) :: starEach [] X.env := by rfl)
    (hpl : (backTo pos (starEach [.Name C p1] X.env)).any (·.1) = false := by rfl) :
    PE X (.Call (.Name "isinstance" p) [e, .Name C p1] [] pos) (tEv c W (cIsE t fe C)) := by
  have pc : PE X (.Name C p1) (tC (.ref (He.ga X.K C))) := pe_glob hgC hmC rfl hdC
  refine PE.imp (pe_callB (call_isX ht) hg hm hv (pa_cons he (pa_cons pc pa_nil s2) s1) (by decide) (by decide) s1 hpl) fun σ H Q ⟨st, h, g, S, sl, q⟩ => ?_
  refine ⟨st, h, g, S, sl, RP.mono (RP.bind q) fun v H1 ⟨d, h1, g1, o1, S1, r1, q1⟩ => ?_⟩
  split at q1
  · rename_i n en
    obtain ⟨hn, a, dd, rfl, ea, hd⟩ := exnOf_ok S1 r1 en
    exact ⟨a, n, dd, He.ga X.K n, .ref (He.ga X.K C), .ref (He.ga X.K C), _, rfl, ea, hcl n, hd, ho.c n hn, fun u r => r, ho.kit n C hn hC, RP.ok_here q1 S1 (.bl _)⟩
  · exact q1.elim
def cIsE2 (t : ExcT) (fe : Ev D) (A B : String) : Ev D := fun st h => (fe st h).bind fun d h1 => match exnOf t d with
  | some n => .ok (.bl (t.is n (PySem.Str.ofString A) || t.is n (PySem.Str.ofString B))) h1
  | none => .no
theorem e_isE2 {x y : Str} {A B : String} {k : Nat} (hcl : ∀ n, c.cl n = some (He.ga X.K n)) (ho : ExcOk t X.K) (ht : HotE c X) (hg : Gl X "isinstance") (hm : X.mg "isinstance" = none) (hv : bootBuiltins "isinstance" = some (.builtin "isinstance")) (he : PE X e (tEv c W fe)) (h1 : PE X (.Name x p1) (tC (.ty A))) (h2 : PE X (.Name y p2) (tC (.ty B)))
    (hA : A ∈ bltE) (hB : B ∈ bltE)
    (s1 : starEach [e, .Tuple [.Name x p1, .Name y p2] k tpos] X.env = (false, eval e X.env) :: starEach [.Tuple [.Name x p1, .Name y p2] k tpos] X.env := by rfl) (s2 : starEach [.Tuple [.Name x p1, .Name y p2] k tpos] X.env = (false, eval (.Tuple [.Name x p1, .Name y p2] k tpos) X.env) :: starEach [] X.env := by rfl)
    (s3 : starEach [.Name x p1, .Name y p2] X.env = (false, eval (.Name x p1) X.env) :: starEach [.Name y p2] X.env := by rfl) (s4 : starEach [.Name y p2] X.env = (false, eval (.Name y p2) X.env) :: starEach [] X.env := by rfl)
    (hpl : (backTo pos (starEach [.Tuple [.Name x p1, .Name y p2] k tpos] X.env)).any (·.1) = false := by rfl) :
    PE X (.Call (.Name "isinstance" p) [e, .Tuple [.Name x p1, .Name y p2] k tpos] [] pos) (tEv c W (cIsE2 t fe A B)) := by
  have pt : PE X (.Tuple [.Name x p1, .Name y p2] k tpos) (tTup (tCons (tC (.ty A)) (tCons (tC (.ty B)) tNil))) := pe_tup (pa_cons h1 (pa_cons h2 pa_nil s4) s3)
  refine PE.imp (pe_callB (call_isX2 ht) hg hm hv (pa_cons he (pa_cons pt pa_nil s2) s1) (by decide) (by decide) s1 hpl) fun σ H Q ⟨st, h, g, S, sl, q⟩ => ?_
  refine ⟨st, h, g, S, sl, RP.mono (RP.bind q) fun v H1 ⟨d, h1, g1, o1, S1, r1, q1⟩ => ?_⟩
  split at q1
  · rename_i n en
    refine ⟨show 2 ≤ sizeLine by decide, fun tp hp => ?_⟩
    obtain ⟨S2, o2⟩ := S1.tree (o := .tup [.ty A, .ty B]) hp
    obtain ⟨hn, a, dd, rfl, ea, hd⟩ := exnOf_ok S2 (r1.mono o2.gx (Nat.le_refl _)) en
    refine ⟨a, n, dd, He.ga X.K n, tp, [.ty A, .ty B], [.type A, .type B], _, rfl, ea, hcl n, hd, ho.c n hn, upd_same, .cons (.ty A) (.cons (.ty B) .nil), ?_, q1 _ _ _ o2 S2 (.bl _)⟩
    refine kitAny_cons (ho.blt n A hn hA) (fun z => ?_) (fun z => by rw [z]; rfl)
    rw [z, Bool.false_or]
    exact kitAny_cons (r := t.is n (PySem.Str.ofString B)) (ho.blt n B hn hB) (fun z2 => by rw [z2]; rfl) (fun z2 => z2)
  · exact q1.elim
end
end Gm

/-! Gm21: defs that are called while an exception is handled. -/
namespace Gm
open PySem PySem.Spec PyProof.Rows L2
/-- what such a def promises: Z, what is known of the handled exception's object -/
structure FnX (P : Program) (w : World) (K : PySem.W.Frag) (mg : Str → Option Value) (base : Heap) (k : Nat) (f : Addr) (fd : FuncData) (ps : List Str) (Z : Addr × Obj → Prop) (sp : Sp) : Prop where
  len : ∀ vs H Q E, sp vs H Q E → vs.length = ps.length
  run : ∀ (A : Around) (outer : List Env) (s : Shared) (H : Hp) (args : Args) (us : List Value) (vs : List V) (Q : VK) (E : XK) (p : Addr × Obj), L2H.RoomH k A → Z p → L2H.Hot1 A p → L2H.PinOk outer H s p → Env0 P w K mg base A outer s H → BindsTo s fd args (ps.zip us) → Vals vs us → sp vs H Q E →
    codeAny (model P w) A (.call (.ref f) args) (CR (L2N.CX P w) outer P w H s Q E) s
theorem fnX_of {P : Program} {w : World} {K : PySem.W.Frag} {mg : Str → Option Value} {base : Heap} {k : Nat} {f : Addr} {name qual : Str} {params : Arguments} {body : List Stmt} {scope : Scope} {dV kV doc pm cdv ct oc : Value} {an od : Option Addr}
    {osl : Array (Option Value)} {N ps : List Str} {Z : Addr × Obj → Prop} {sp : Sp} (lk : K.lookup f = some ⟨oc, od, .func (PySem.W.fnOf name qual params body scope dV kV doc pm an cdv ct), osl⟩) (hcd : PySem.W.codeIn K cdv qual = true) (S : FnScope N ps scope)
    (len : ∀ vs H Q E, sp vs H Q E → vs.length = ps.length)
    (hbody : ∀ (A : Around) (outer : List Env) (s : Shared) (H : Hp) (vs : List V) (Q : VK) (E : XK) (p : Addr × Obj), Z p → L2H.Hot1 A p → L2H.RoomH k (A.deeper (envOfC qual scope s.heap.objs.size f cdv)) → sp vs H Q E →
      ∃ t, PSs (L2H.cxH (L2N.CX P w) P w K mg base N qual scope f cdv A outer s H E p) body t ∧ t { nx := fun _ H' => Q .non H', rt := Q } (L2.start N vs) H) :
    FnX P w K mg base (k + 1) f (PySem.W.fnOf name qual params body scope dV kV doc pm an cdv ct) ps Z sp := by
  refine ⟨len, fun A outer s H args us vs Q E p hr hz hot hpin e0 hb r hsp => ?_⟩
  have hl := len _ _ _ _ hsp
  have KX : K.In s.heap := e0.mod.kin.keeps fun b o e => (e0.bs b o e).1
  have lim : s.heap.NoLimit := e0.mod.nolimit.keeps fun b o e => (e0.bs b o e).1
  have hkind : ∀ y ∈ ps.zip us, scope.names.lookup y.1 = some .local ∨ (scope.names.lookup y.1 = some .cell ∧ ((cellsFrom (s.heap.objs.size + 1) scope.names []).lookup y.1).isSome = true) := fun ⟨n, v⟩ hy => by
    rcases S.par n (List.of_mem_zip hy).1 with q | q
    · exact .inl q
    · exact .inr ⟨q, PySem.W.cellsFrom_some _ _ _ (.inl q)⟩
  refine codeAny_call_function hr.depth (KX _ _ lk) rfl S.co S.gen rfl (PySem.W.codeRec_of KX hcd) (hb _ _ _ _ ?_)
  refine wpAny_newFunctionEnv_cells S.kind hkind fun env he s1 x => ?_
  subst he
  refine ⟨lim.keeps x.toInCall.keep, codeAny_func ?_⟩
  obtain ⟨t, ht, hq⟩ := hbody A outer s H vs Q E p hz hot (hr.deeper _) hsp
  have I : Inv (L2H.cxH (L2N.CX P w) P w K mg base N qual scope f cdv A outer s H E p) [] (L2.start N vs) H s1 := L2H.inv_startH S hpin e0 hl r x
  refine wpAny_mono (ht.run [] s1 (L2.start N vs) H _ I hq) (fun fl s' hs => ?_) fun e s' hs => hs
  have fin : ∀ {σ' : L2.St} {H' : Hp} {v : V} {u : Value}, Inv (L2H.cxH (L2N.CX P w) P w K mg base N qual scope f cdv A outer s H E p) [] σ' H' s' → L2.RelV v u → Q v H' → CE outer P w H s Q u s' :=
    fun {σ' H' v u} J rv q => ⟨v, H', J.os, J.bare, J.base, J.hok, rv, q⟩
  cases fl with
  | ret u =>
    obtain ⟨v, σ', H', J, rv, q⟩ := hs
    exact fin J rv q
  | next =>
    obtain ⟨σ', H', J, q⟩ := hs
    exact fin (v := V.non) (u := Value.none) J rfl q
  | brk =>
    obtain ⟨_, _, _, q⟩ := hs
    exact False.elim q
  | cont =>
    obtain ⟨_, _, _, q⟩ := hs
    exact False.elim q
/-- a promise without exceptions -/
def spOf0 (c : Cf) (F : FnT) : Sp := fun vs H Q _ => spOf c F vs H Q fun _ _ _ => False
/-- the promise of such a def by its function: nothing is raised -/
theorem fnX_ok {P : Program} {w : World} {K : PySem.W.Frag} {mg : Str → Option Value} {base : Heap} {c : Cf} {x qual : Str} {params : Arguments} {body : List Stmt} {scope : Scope} {dvs : List V} {kws : List (Str × V)} {f : Addr} {fd : FuncData} {N ps : List Str} {k : Nat} {fb : Ss}
    (F : FunD K x qual params body scope dvs kws f fd) (S : FnScope N ps scope)
    (hbody : ∀ (cdv : Value) (A : Around) (outer : List Env) (s : Shared) (H : Hp) (E : XK) (p : Addr × Obj), HotE c (L2H.cxH (L2N.CX P w) P w K mg base N qual scope f cdv A outer s H E p) → L2H.RoomH k (A.deeper (envOfC qual scope s.heap.objs.size f cdv)) →
      PSs (L2H.cxH (L2N.CX P w) P w K mg base N qual scope f cdv A outer s H E p) body (tSt c W0 fb)) : FnX P w K mg base (k + 1) f fd ps (PinE c) (spOf0 c (fnOf N.length ps.length fb)) := by
  obtain ⟨oc, od, dV, kV, doc, pm, an, cdv, ct, osl, rfl, lk, hcd, _, _⟩ := F.ex
  refine fnX_of lk hcd S (fun vs H Q E ⟨ds, h, g, S, r, q⟩ => ?_) fun A outer s H vs Q E p hz hot hr ⟨ds, h, g, S, r, q⟩ => ⟨_, hbody cdv A outer s H E p ⟨p, List.mem_cons_self, hz, hot.1⟩ hr, ?_⟩
  · unfold fnOf at q
    by_cases hl : ds.length = ps.length
    · rw [← hl, r.length]
    · rw [if_neg hl] at q
      exact q.elim
  · unfold fnOf at q
    by_cases hl : ds.length = ps.length
    · rw [if_pos hl] at q
      have q := RP.clean q
      refine ⟨startD N.length ds, h, g, S, SL.start r, ?_⟩
      cases e : fb (startD N.length ds) h with
      | next st' h' => rw [e] at q; exact fun g' H' σ o S' _ => q g' H' .non o S' .non
      | ret d h' => rw [e] at q; exact q
      | brk st' h' => rw [e] at q; exact q.elim
      | cont st' h' => rw [e] at q; exact q.elim
      | exc ee st' h' => rw [e] at q; exact fun g' H' σ cls dd o S' _ rx => q g' H' cls dd o S' rx
      | no => rw [e] at q; exact q.elim
    · rw [if_neg hl] at q
      exact q.elim
/-- a def by the way it is called there -/
def CallOkX (P : Program) (w : World) (K : PySem.W.Frag) (mg : Str → Option Value) (base : Heap) (c : Cf) (x : Str) (k : Nat) (F : FnT) : Prop :=
  ∃ (f : Addr) (fd : FuncData) (ps : List Str), mg x = some (.ref f) ∧ FnX P w K mg base k f fd ps (PinE c) (spOf0 c F) ∧ PySem.W.keepIn K (.ref f) = true ∧ L2.Binds K fd ps []
section
variable {c : Cf} {W : WX} {X : Cx} {k : Nat} {f : Addr} {fd : FuncData} {ps : List Str} {sp : Sp} {x : Str} {q pos : Pos} {e : Expr} {es : List Expr} {t : TA}
theorem run_fnX {pins : List (Addr × Obj)} {σ : L2.St} {H : Hp} {s : Shared} {Q : VK} {us : List Value} {vs : List V} {F : FnT} (G : FnX X.prog X.w X.K X.mg X.base k f fd ps (PinE c) (spOf0 c F)) (hr : L2H.RoomH k X.A) (ht : HotE c X) (hb : L2.Binds X.K fd ps [])
    (I : Inv X pins σ H s) (r : Vals vs us) (h : spOf c F vs H Q fun _ _ _ => False) : wpAny (model X.prog X.w) X.A (call (.ref f) us) (EP X pins σ Q) X.xe s := by
  obtain ⟨p, hp, hz, hh⟩ := ht
  have h : spOf0 c F vs H Q (fun _ _ _ => False) := h
  have hl : us.length = ps.length := by rw [← r.length]; exact G.len _ _ _ _ h
  have b := hb s us I.kIn (by rw [List.append_nil]; exact hl)
  rw [List.append_nil] at b
  have P1 := I.pin p (List.mem_append_left _ hp)
  have hpin : L2H.PinOk X.stack H s p := ⟨P1.1, P1.2.1, fun hm => (List.mem_cons.mp (I.stkSub p.1 hm)).elim P1.2.2.1 P1.2.2.2.1, P1.2.2.2.2⟩
  refine wpAny_call (codeAny_mono (G.run X.A X.stack s H ⟨us, []⟩ us vs Q (fun _ _ _ => False) p hr hz (hz.hot1 hh) hpin I.env0 b r h) fun r s' hq => ?_)
  cases r with
  | error e =>
    obtain ⟨_, _, _, _, _, _, _, _, _, _, _, _, z⟩ := (show L2N.CX X.prog X.w X.stack H s (fun _ _ _ => False) e s' from hq)
    exact z.elim
  | ok fl =>
    cases fl with
    | ret u => exact I.after hq
    | next => exact False.elim hq
    | brk => exact False.elim hq
    | cont => exact False.elim hq
def cCallX (F : FnT) (fs : Ev (List D)) : Ev D := fun st h => (fs st h).bind fun ds h1 => match F ds h1 with
  | .ok d h2 => .ok d h2
  | _ => .no
theorem e_callX {j : Nat} {F : FnT} {fs : Ev (List D)} {p : Pos} (G : CallOkX X.prog X.w X.K X.mg X.base c x k F) (hr : L2H.RoomH j X.A) (hj : k ≤ j) (ht : HotE c X) (hg : Gl X x) (ha : PA X (e :: es) (tAr c W fs))
    (hdb : (x == ("__debug__" : Str)) = false := by decide) (he : starEach (e :: es) X.env = (false, eval e X.env) :: starEach es X.env := by rfl) (hpl : (backTo pos (starEach es X.env)).any (·.1) = false := by rfl) :
    PE X (.Call (.Name x p) (e :: es) [] pos) (tEv c W (cCallX F fs)) := by
  obtain ⟨f, fd, ps, hm, G, hk, hb⟩ := G
  refine ⟨fun pins s σ H Q I ⟨st, h, g, S, sl, q⟩ => ?_⟩
  refine wpAny_Call_Name_kw (ld_glob I hg hm ?_ hdb)
  refine PySem.W.callWith_K (h₀ := X.base) I.ok.mod.kin hk (thn (ha.run pos pins s σ H _ I ⟨st, h, g, S, sl, RP.bind q⟩) fun us s1 ⟨vs, H1, I1, r, d, h1, g1, o1, S1, r1, q1⟩ => ⟨I1.kIn, ?_⟩) he hpl
  refine run_fnX G (hr.mono hj) ht hb I1 r ⟨d, h1, g1, S1, r1, ?_⟩
  cases e2 : F d h1 with
  | ok d2 h2 => rw [e2] at q1; exact q1
  | exc ee h2 => rw [e2] at q1; exact q1.elim
  | no => rw [e2] at q1; exact q1.elim
end
theorem callOkX_of {P : Program} {w : World} {K : PySem.W.Frag} {mg : Str → Option Value} {base : Heap} {c : Cf} {x qual : Str} {params : Arguments} {body : List Stmt} {scope : Scope} {kws : List (Str × V)} {f : Addr} {fd : FuncData} {ps : List Str} {k : Nat} {F : FnT} (FD : FunD K x qual params body scope [] kws f fd) (hm : mg x = some (.ref f)) (ok : FnX P w K mg base k f fd ps (PinE c) (spOf0 c F))
    (hb : ∀ (kV doc pm : Value) (an : Option Addr) (cdv ct : Value) (us : List Value), us.length = ps.length → bindArgs (PySem.W.fnOf x qual params body scope .none kV doc pm an cdv ct) ⟨us, []⟩ = pure (ps.zip us)) : CallOkX P w K mg base c x k F :=
  ⟨f, fd, ps, hm, ok, FD.kp, FD.bindsN hb⟩
/-! ### an expression over another Cf, from an empty store -/
mutual
def D.nx : D → Bool
  | .tup l => D.nxs l
  | .lst l => D.nxs l
  | .fro l => D.nxs l
  | .dct l => D.nxk l
  | .obj _ fs => D.nxf fs
  | .exn _ _ => false
  | _ => true
def D.nxs : List D → Bool
  | [] => true
  | d :: r => d.nx && D.nxs r
def D.nxk : List (Key × D) → Bool
  | [] => true
  | (_, d) :: r => d.nx && D.nxk r
def D.nxf : List (Str × D) → Bool
  | [] => true
  | (_, d) :: r => d.nx && D.nxf r
end
abbrev Cf.exc (c : Cf) (x : Option (Addr × Str × Option Addr)) : Cf := { c with ex := x }
section
variable {c : Cf} {g : Gh} {L : Nat} {x y : Option (Addr × Str × Option Addr)}
mutual
theorem RV.exs (e : c.ex = none) : ∀ {d : D} {v : V}, RV c g L d v → RV (c.exc x) g L d v
  | _, _, .non => .non
  | _, _, .bl b => .bl b
  | _, _, .int i => .int i
  | _, _, .str s => .str s
  | _, _, .tup h r => .tup h (RVs.exs e r)
  | _, _, .lst h r => .lst h (RVs.exs e r)
  | _, _, .fro h r => .fro h (RVs.exs e r)
  | _, _, .dct h r => .dct h (RKs.exs e r)
  | _, _, .obj h hc r => .obj h hc (RFs.exs e r)
  | _, _, .ref h => .ref h
  | _, _, .ty n => .ty n
  | _, _, .cls h => .cls h
  | _, _, .exn0 h => by rw [e] at h; cases h
  | _, _, .exn1 h _ _ => by rw [e] at h; cases h
theorem RVs.exs (e : c.ex = none) : ∀ {d : List D} {v : List V}, RVs c g L d v → RVs (c.exc x) g L d v
  | _, _, .nil => .nil
  | _, _, .cons h r => .cons (RV.exs e h) (RVs.exs e r)
theorem RKs.exs (e : c.ex = none) : ∀ {d : List (Key × D)} {v : List (Key × V)}, RKs c g L d v → RKs (c.exc x) g L d v
  | _, _, .nil => .nil
  | _, _, .cons h r => .cons (RV.exs e h) (RKs.exs e r)
theorem RFs.exs (e : c.ex = none) : ∀ {d : List (Str × D)} {v : List (Str × V)}, RFs c g L d v → RFs (c.exc x) g L d v
  | _, _, .nil => .nil
  | _, _, .cons h r => .cons (RV.exs e h) (RFs.exs e r)
end
mutual
theorem RV.unex : ∀ {d : D} {v : V}, RV (c.exc x) g L d v → d.nx = true → RV c g L d v
  | _, _, .non, _ => .non
  | _, _, .bl b, _ => .bl b
  | _, _, .int i, _ => .int i
  | _, _, .str s, _ => .str s
  | _, _, .tup h r, b => .tup h (RVs.unex r (by simpa only [D.nx] using b))
  | _, _, .lst h r, b => .lst h (RVs.unex r (by simpa only [D.nx] using b))
  | _, _, .fro h r, b => .fro h (RVs.unex r (by simpa only [D.nx] using b))
  | _, _, .dct h r, b => .dct h (RKs.unex r (by simpa only [D.nx] using b))
  | _, _, .obj h hc r, b => .obj h hc (RFs.unex r (by simpa only [D.nx] using b))
  | _, _, .ref h, _ => .ref h
  | _, _, .ty n, _ => .ty n
  | _, _, .cls h, _ => .cls h
  | _, _, .exn0 h, b => by simp [D.nx] at b
  | _, _, .exn1 h _ _, b => by simp [D.nx] at b
theorem RVs.unex : ∀ {d : List D} {v : List V}, RVs (c.exc x) g L d v → D.nxs d = true → RVs c g L d v
  | _, _, .nil, _ => .nil
  | _, _, .cons h r, b => by
    simp only [D.nxs, Bool.and_eq_true] at b
    exact .cons (RV.unex h b.1) (RVs.unex r b.2)
theorem RKs.unex : ∀ {d : List (Key × D)} {v : List (Key × V)}, RKs (c.exc x) g L d v → D.nxk d = true → RKs c g L d v
  | _, _, .nil, _ => .nil
  | _, _, .cons h r, b => by
    simp only [D.nxk, Bool.and_eq_true] at b
    exact .cons (RV.unex h b.1) (RKs.unex r b.2)
theorem RFs.unex : ∀ {d : List (Str × D)} {v : List (Str × V)}, RFs (c.exc x) g L d v → D.nxf d = true → RFs c g L d v
  | _, _, .nil, _ => .nil
  | _, _, .cons h r, b => by
    simp only [D.nxf, Bool.and_eq_true] at b
    exact .cons (RV.unex h b.1) (RFs.unex r b.2)
end
end
/-- the inner run's store is empty again -/
theorem SR.inner {c : Cf} {g : Gh} {h : Store} {H : Hp} (S : SR c g h H) (x : Option (Addr × Str × Option Addr)) : SR (c.exc x) { io := fun _ => 0, tr := g.tr } [] H :=
  ⟨S.sub, fun n l => by obtain ⟨_, z⟩ := l; simp at z, fun n ce e => by simp at e, fun n m l _ _ => by obtain ⟨_, z⟩ := l; simp at z, S.tabs, S.nt⟩
theorem SR.outer {c : Cf} {g g' : Gh} {h h' : Store} {H H' : Hp} {x : Option (Addr × Str × Option Addr)} (S : SR c g h H) (o : Go { io := fun _ => 0, tr := g.tr } [] H g' h' H') (S' : SR (c.exc x) g' h' H') :
    SR c { io := g.io, tr := g'.tr } h H' ∧ Go g h H { io := g.io, tr := g'.tr } h H' := by
  have nl : ∀ a : Addr, ∀ n, Live [] n → (fun _ => 0 : Nat → Addr) n ≠ a := fun a n l => by obtain ⟨_, z⟩ := l; simp at z
  have mu0 : ∀ n, Live h n → ∃ u, H (g.io n) = some u ∧ ∀ ps, u ≠ .tbl ps := fun n ⟨ce, e⟩ => by
    obtain ⟨u, hu, mu⟩ := (S.cell n ce e).some
    exact ⟨u, hu, fun ps z => by subst z; exact mu⟩
  have gx : Gx g h.length { io := g.io, tr := g'.tr } := ⟨fun _ _ => rfl, o.tr⟩
  have fr : ∀ a u, H a = some u → (∀ ps, u ≠ .tbl ps) → H' a = some u := fun a u e nt => o.fr a u e nt (nl a)
  refine ⟨⟨S'.sub, fun n l => ?_, fun n ce e => ?_, S.inj, S'.tabs, S'.nt⟩, ⟨Nat.le_refl _, fun _ _ => rfl, o.tr, o.dm, fun a u e nt _ => fr a u e nt, fun a u e nt tn _ => o.tn a u e nt tn (nl a), fun _ _ l => l, fun n hn l => absurd l.lt (Nat.not_lt.mpr hn)⟩⟩
  · obtain ⟨u, hu, nt⟩ := mu0 n l
    exact o.tn _ u hu nt (S.apart n l) (nl _)
  · obtain ⟨u, hu, nt⟩ := mu0 n ⟨ce, e⟩
    exact (S.cell n ce e).mono gx (Nat.le_refl _) ((fr _ u hu nt).trans hu.symm)
theorem RV.gh {c : Cf} {g g' : Gh} (h : g'.tr = g.tr) {L : Nat} {d : D} {v : V} (r : RV c g 0 d v) : RV c g' L d v := r.mono ⟨fun n hn => absurd hn (Nat.not_lt_zero n), fun a o e => by rw [h]; exact e⟩ (Nat.zero_le _)
theorem RFs.gh {c : Cf} {g g' : Gh} (h : g'.tr = g.tr) {L : Nat} {d : List (Str × D)} {v : List (Str × V)} (r : RFs c g 0 d v) : RFs c g' L d v := r.mono ⟨fun n hn => absurd hn (Nat.not_lt_zero n), fun a o e => by rw [h]; exact e⟩ (Nat.zero_le _)
/-- the exception as a value -/
def exnD (e : Exn) : D := .exn e.cls e.pay.toList
/-- a suite's slots: n names, the exception in the slot i -/
def hotS (n : Nat) (i : Option Nat) (e : Exn) : Slots := match i with
  | some i => (List.replicate n none).set i (some (exnD e))
  | none => List.replicate n none
/-- an expression of an except suite -/
def slotIn (n : Nat) : Option Nat → Bool
  | some i => decide (i < n)
  | none => true
def hotV (n : Nat) (i : Option Nat) (fx : Ev D) (e : Exn) : Option D := if D.lwf 0 e.pay.toList = true ∧ slotIn n i = true then match fx (hotS n i e) [] with
  | .ok d _ => if d.nx = true ∧ d.lw 0 = true then some d else none
  | _ => none
  else none
theorem SL.blank {c : Cf} {g : Gh} {L : Nat} {σ : L2.St} : SL c g L (List.replicate σ.length none) σ := ⟨List.length_replicate, fun j d' e' => by
  rw [List.getElem?_replicate] at e'
  split at e' <;> cases e'⟩
/-- the suite's reading of an expression, from the outer state -/
theorem hot_ok {c : Cf} {W : WX} {g : Gh} {h : Store} {H : Hp} {σ : L2.St} {i : Option Nat} {fx : Ev D} {e : Exn} {d : D} {a : Addr} {cls : Value} {dd : Option Addr} {Q : VK} (hc : c.ex = none) (S : SR c g h H) (hσ : ∀ j, i = some j → σ[j]? = some (some (.ref a)))
    (rx : RX c g h.length e cls dd) (ev : hotV σ.length i fx e = some d) (q : ∀ g' H' v, Go g h H g' h H' → SR c g' h H' → RV c g' h.length d v → Q v H') :
    tEv (c.exc (some (a, e.cls, dd))) W fx σ H Q := by
  unfold hotV at ev
  split at ev
  · rename_i hl
    obtain ⟨hl, _⟩ := hl
    refine ⟨hotS σ.length i e, [], { io := fun _ => 0, tr := g.tr }, S.inner _, ?_, ?_⟩
    · cases i with
      | none => exact SL.blank
      | some i =>
        have hσ := hσ i rfl
        refine ⟨by unfold hotS; simp, fun j d' e' => ?_⟩
        unfold hotS at e'
        dsimp only at e'
        by_cases z : i = j
        · subst z
          rw [List.getElem?_set_self (by rw [List.length_replicate]; exact (List.getElem?_eq_some_iff.mp hσ).1)] at e'
          have e' : exnD e = d' := by simpa using e'
          subst e'
          refine ⟨_, hσ, ?_⟩
          obtain ⟨C, e1, e2, e3⟩ := rx
          cases hp : e.pay with
          | none =>
            rw [hp] at e3
            subst e3
            unfold exnD
            rw [hp]
            exact .exn0 rfl
          | some p =>
            rw [hp] at e3
            obtain ⟨fn, d0⟩ := p
            obtain ⟨b, v, q1, q2, q3⟩ := e3
            subst q1
            unfold exnD
            rw [hp]
            have hl2 : d0.lw 0 = true := by
              rw [hp] at hl
              simpa [D.lwf] using hl
            refine .exn1 rfl (show g.tr b = some _ from q2) (.cons ?_ .nil)
            exact RV.exs hc (RV.gh (g := g) (g' := { io := fun _ => 0, tr := g.tr }) rfl (q3.low hl2))
        · rw [List.getElem?_set_ne z, List.getElem?_replicate] at e'
          split at e' <;> cases e'
    · split at ev
      · rename_i d1 h1 e1
        split at ev
        · rename_i hd
          cases ev
          show RP _ _ _ _ _ (fx (hotS σ.length i e) []) _ _
          rw [e1]
          intro g' H' v o S' r
          obtain ⟨S2, o2⟩ := S.outer o S'
          exact q _ _ _ o2 S2 (RV.gh (g := g') (g' := { io := g.io, tr := g'.tr }) rfl ((RV.unex r hd.1).low hd.2))
        · cases ev
      · cases ev
  · cases ev
theorem hotV_in {n i : Nat} {fx : Ev D} {e : Exn} {d : D} (ev : hotV n (some i) fx e = some d) : i < n := by
  unfold hotV at ev
  split at ev
  · rename_i hl
    exact of_decide_eq_true hl.2
  · cases ev
end Gm

/-! Gm22: try with one except clause: a class or a pair of classes, with a name or without. -/
namespace Gm
open PySem PySem.Spec PyProof.Rows L2
/-- the clause's test: what it answers of a class; the heap may grow meanwhile -/
def HTest (X : Cx) (te : Expr) (mt : Value → Bool → Prop) : Prop :=
  ∀ (a : Addr) (pn : List (Addr × Obj)) (σ : L2.St) (H : Hp) (s : Shared) (b : Bool) (oe : Obj) (Q : Bool → Shared → Prop) (E : Value → Shared → Prop), Inv (X.suite a pn) [] σ H s → s.heap.get? a = some oe → mt oe.cls b →
    (∀ h' : Heap, (∀ b o, s.heap.get? b = some o → h'.get? b = some o) → Q b { s with heap := h' }) →
    wpAny (model X.prog X.w) (X.A.mark (some (.ref a))) (eval te X.env) (fun c s1 => wpAny (model X.prog X.w) (X.A.mark (some (.ref a))) (excMatches (.ref a) c) Q E s1) E s
section
variable {X : Cx}
theorem ht_name {x : Str} {c : Value} {np : Pos} (hc : Names X x c) : HTest X (.Name x np) (fun cls b => PySem.W.exmOne X.K cls c = some b) := by
  intro a pn σ H s b oe Q E I he hm q
  have LT : PySem.W.Looks (model X.prog X.w) s.heap (typeOf (.ref a)) oe.cls := fun A Q E s k q => wpAny_typeOf_ref (k _ _ he) q
  have LM := PySem.W.exm_one (M := model X.prog X.w) I.kIn LT hm
  have here : wpAny (model X.prog X.w) (X.A.mark (some (.ref a))) (excMatches (.ref a) c) Q E s := LM.here (q s.heap fun _ _ z => z)
  obtain ⟨hg, hd, hm | ⟨hm, hv, hn⟩⟩ := hc
  · exact ld_glob (X := X.suite a pn) I hg hm here hd
  · exact ld_blt (X := X.suite a pn) I hg hm hv here hn hd
theorem ht_pair {x y : Str} {c d : Value} {kk : Nat} {p1 p2 tpos : Pos} (hc : Names X x c) (hd : Names X y d)
    (s1 : starEach [.Name x p1, .Name y p2] X.env = (false, eval (.Name x p1) X.env) :: starEach [.Name y p2] X.env := by rfl) (s2 : starEach [.Name y p2] X.env = (false, eval (.Name y p2) X.env) :: starEach [] X.env := by rfl) :
    HTest X (.Tuple [.Name x p1, .Name y p2] kk tpos) (fun cls b => PySem.W.exmAny X.K cls [c, d] = some b) := by
  intro a pn σ H s b oe Q E I he hm q
  have LT : PySem.W.Looks (model X.prog X.w) s.heap (typeOf (.ref a)) oe.cls := fun A Q E s k q => wpAny_typeOf_ref (k _ _ he) q
  have ld : ∀ {z : Str} {u : Value} {pz : Pos} {Q : Value → Shared → Prop}, Names X z u → Q u s → wpAny (model X.prog X.w) (X.A.mark (some (.ref a))) (eval (.Name z pz) X.env) Q E s := fun {z u pz Q} n k => by
    obtain ⟨g, hdb, m | ⟨m, v, nn⟩⟩ := n
    · exact ld_glob (X := X.suite a pn) I g m k hdb
    · exact ld_blt (X := X.suite a pn) I g m v k nn hdb
  refine wpAny_Tuple (wpAny_items_cons (ld hc ?_) s1)
  refine wpAny_items_cons (ld hd ?_) s2
  refine wpAny_items_nil ⟨by size_fits, ?_⟩
  have kp : ∀ b o, s.heap.get? b = some o → (s.heap.push { cls := .type "tuple", data := .seq [c, d].toArray }).get? b = some o := fun _ _ z => Heap.get?_push_of_some _ z
  exact (PySem.W.exm_tup2 (I.kIn.keeps kp) (LT.keeps kp) (Heap.get?_push_size s.heap rfl) hm).here (q _ kp)
end
theorem fly_keeps {base h h' : Heap} {l : List Env} {e : Addr} {Z : Obj → Prop} (f : HandSPX.FlyingZ base l e Z h) (k : ∀ b o, h.get? b = some o → h'.get? b = some o) : HandSPX.FlyingZ base l e Z h' := by
  obtain ⟨f1, f2, f3, oe, vs, T, oT, ts, a1, a2, a3, a4, a5, a6, a7, a8, a9⟩ := f
  exact ⟨fun b o e => k _ _ (f1 b o e), f2, Heap.FunFrames.of_keeps (fun b o e _ => ⟨o, k _ _ e, rfl⟩) f3, oe, vs, T, oT, ts, k _ _ a1, a2, a3, a4, a5, a6, k _ _ a7, a8, a9⟩
/-- the wish of a try's body: the suite's reading, or the exception goes on; i: the slot of the clause's name -/
def wTry (mt : Value → Bool → Prop) (i : Option Nat) (ts : Addr → Value → Option Addr → TS) (Wout : WX) (D : Ends) : WX := fun cls d σ H =>
  ∃ b, mt cls b ∧ (b = true → ∀ a, H a = none → match i with
    | some i => ts a cls d { nx := fun σ' H' => D.nx (σ'.set i none) H', rt := D.rt, bk := fun σ' H' => D.bk (σ'.set i none) H', ct := fun σ' H' => D.ct (σ'.set i none) H' } (σ.set i (some (.ref a))) H
    | none => ts a cls d D σ H) ∧ (b = false → Wout cls d σ H)
/-- the clause's name and its slot -/
def NameAt (X : Cx) : Option Str → Option Nat → Prop
  | some n, some i => X.N.Nodup ∧ X.N[i]? = some n ∧ X.env.kindOf n = some .local
  | none, none => True
  | _, _ => False
section
variable {X : Cx} {te : Expr} {mt : Value → Bool → Prop} {on : Option Str} {oi : Option Nat} {body suite : List Stmt} {b₀ : Stmt} {pos pos' : Pos} {tb : WX → TS} {ts : Addr → Value → Option Addr → TS} {Wout : WX}
theorem ps_tryT (hs : X.stack = X.env :: X.outer) (hf : X.env.frame = some X.env.locals) (hn : NameAt X on oi) (ht : HTest X te mt) (tk : L2N.Takes X Wout)
    (hb : ∀ (W : WX) (pn : List (Addr × Obj)) (xe : Value → Shared → Prop), L2N.Takes (X.tr pn xe) W → PassesOwn (model X.prog X.w) X.A X.env xe → PSs (X.tr pn xe) body (tb W))
    (hsu : ∀ (a : Addr) (oe : Obj) (cls : Value) (d : Option Addr) (pn : List (Addr × Obj)), L2N.Zn cls d oe → (∃ vs, oe.data = .fields vs) → PSs (X.suite a ((a, oe) :: pn)) (b₀ :: suite) (ts a cls d)) :
    PS X (.Try body [.ExceptHandler (some te) on (b₀ :: suite) pos'] [] [] pos) (fun D σ H => tb (wTry mt oi ts Wout D) D σ H) := by
  refine ⟨fun pins s σ H D I h => wpAny_Try_except ?_⟩
  have ok := I.ok
  have hfr : X.A.frames = some (X.env :: X.outer) := ok.frames.trans (congrArg some hs)
  refine wpAny_mono ((hb (wTry mt oi ts Wout D) (X.pn ++ pins) (fun e t1 => wpAny (model X.prog X.w) X.A (noteFrame e X.env) (fun _ t2 => wpAny (model X.prog X.w) X.A (setFlight e none) (fun _ t3 =>
    wpAny (model X.prog X.w) X.A (handleBy e X.env [.ExceptHandler (some te) on (b₀ :: suite) pos']) (SP X pins D) X.xe t3) X.xe t2) X.xe t1) (fun u s' xx => ?_) PassesOwn.looking).run [] s σ H D (I.toTry _) h) (fun f s1 hsp => ?_) (fun e s1 he => he)
  case refine_2 =>
    cases f with
    | next => exact let ⟨σ', H', J', q⟩ := hsp; wpAny_execs_nil ⟨σ', H', J'.ofTry ok, q⟩
    | brk => exact let ⟨σ', H', J', q⟩ := hsp; ⟨σ', H', J'.ofTry ok, q⟩
    | cont => exact let ⟨σ', H', J', q⟩ := hsp; ⟨σ', H', J'.ofTry ok, q⟩
    | ret u => exact let ⟨v, σ', H', J', r, q⟩ := hsp; ⟨v, σ', H', J'.ofTry ok, r, q⟩
  obtain ⟨a, B, sI, pins', σ', H', cls, d, rfl, J', nb, up, sky, na, os, ag, b, hb1, hyes, hno⟩ := xx
  have J : Inv X pins σ' H' sI := J'.ofTry ok
  rw [show (X.tr (X.pn ++ pins) _).stack = X.env :: X.outer from hs] at sky
  refine L2N.Sky.land L2N.Zn.steady hfr hf sky fun hA flA upA => ?_
  -- the exception's object is no frame
  have away : ∀ {h : Heap} {o : Obj} {vs : Array Value}, h.FunFrames B (X.env :: X.outer) → h.get? a = some o → o.data = .fields vs → a ≠ X.env.locals ∧ a ∉ X.fs := fun {h o vs} ff e dd => by
    have nf : a ∉ frs (X.env :: X.outer) := fun hm => by
      obtain ⟨_, o', e', hnf⟩ := ff.mem hm
      rw [e] at e'
      cases e'
      exact hnf _ dd
    refine ⟨fun z => nf (List.mem_filterMap.mpr ⟨X.env, List.mem_cons_self, by rw [hf, z]⟩), fun hm => ?_⟩
    obtain ⟨e, he, q⟩ := List.mem_filterMap.mp hm
    exact nf (List.mem_filterMap.mpr ⟨e, List.mem_cons_of_mem _ he, q⟩)
  -- a state in which the exception flies on is a state of the suite
  have suiteAt : ∀ {h : Heap}, HandSPX.FlyingZ B (X.env :: X.outer) a (L2N.Zn cls d) h → sI.heap.UpToSlots h → ∃ oe, h.get? a = some oe ∧ L2N.Zn cls d oe ∧ (∃ vs, oe.data = .fields vs) ∧ Inv (X.suite a ((a, oe) :: (X.pn ++ pins))) [] σ' H' { s' with heap := h } := fun {h} fl u => by
    obtain ⟨oe, vs, he, hz, hd⟩ := fl.there
    have nn := away fl.2.2.1 he hd
    exact ⟨oe, he, hz, ⟨vs, hd⟩, (J.landed (s' := { s' with heap := h }) nb fl.1 u os ag).suite he hd na nn.1 nn.2⟩
  obtain ⟨oA, eA, zA, _, SA⟩ := suiteAt flA (up.trans upA)
  refine wpAny_handleBy_cons (codeAny_handlers_test (ht a _ _ _ _ b oA _ _ SA eA (by rw [zA.1]; exact hb1) fun hB kB => ?_)) (by intro q; cases q)
  have flB := fly_keeps flA kB
  have upB : sI.heap.UpToSlots hB := (up.trans upA).trans (Heap.UpToSlots.of_keeps kB)
  cases b with
  | false =>
    show wpAny _ X.A (handleBy (.ref a) X.env []) _ _ _
    refine wpAny_handleBy_nil ?_
    obtain ⟨_, _, _, oe, vs, T, oT, ts', he, _, hd, h1, _⟩ := id flB
    have fin : wpAny (model X.prog X.w) X.A (setFlight (.ref a) X.env.frame) (fun _ t => wpAny (model X.prog X.w) X.A (throw (.ref a) : Sem Flow) (SP X pins D) X.xe t) X.xe { s' with heap := hB } := by
      rw [hf]
      exact HandSPX.setFlight_upZ flB fun hC hh upC => wpAny_throw (tk _ _ ⟨a, B, sI, pins, σ', H', cls, d, rfl, J, nb, upB.trans upC, .inr (.inr (by rw [hs]; exact hh)), na, os, ag, hno rfl⟩)
    unfold PySem.passOn
    refine wpAny_bind (wpAny_field he hd h1 ?_)
    rw [if_neg (show ¬ ((Value.ref T == Value.none) = true) from by simp)]
    first
      | exact wpAny_bind (wpAny_pure (wpAny_bind fin))
      | exact wpAny_bind fin
  | true =>
    cases on with
    | none =>
      cases oi with
      | some _ => exact hn.elim
      | none =>
        refine codeAny_handlers_suite (HandSPX.lands_againZ flB fun hC flC upC => ?_)
        obtain ⟨oC, eC, zC, fC, SC⟩ := suiteAt flC (upB.trans upC)
        refine wpAny_mono ((hsu a oC cls d _ zC fC).run [] _ _ H' _ SC (hyes rfl a na)) (fun f s6 hsp => ?_) (fun _ _ z => False.elim z)
        cases f with
        | next => exact let ⟨_, _, S6, q6⟩ := hsp; ⟨_, _, S6.unsuite ok, q6⟩
        | brk => exact let ⟨_, _, S6, q6⟩ := hsp; ⟨_, _, S6.unsuite ok, q6⟩
        | cont => exact let ⟨_, _, S6, q6⟩ := hsp; ⟨_, _, S6.unsuite ok, q6⟩
        | ret u => exact let ⟨_, _, _, S6, r6, q6⟩ := hsp; ⟨_, _, _, S6.unsuite ok, r6, q6⟩
    | some n =>
      cases oi with
      | none => exact hn.elim
      | some i =>
        obtain ⟨hN, hi, hln⟩ := hn
        refine codeAny_handlers_suite_as (HandSPX.lands_againZ flB fun hC flC upC => ?_)
        obtain ⟨oC, eC, zC, fC, SC⟩ := suiteAt flC (upB.trans upC)
        refine store_ok (X := X.suite a ((a, oC) :: (X.pn ++ pins))) (v := .ref a) SC hN hi (.inl hln) rfl (fun s5 S5 => ?_) (.inr hln)
        refine wpAny_mono ((hsu a oC cls d _ zC fC).run [] s5 _ H' _ S5 (hyes rfl a na)) (fun f s6 hsp => ?_) (fun _ _ z => False.elim z)
        have end_ : ∀ {σ6 : L2.St} {H6 : Hp} {Q : Shared → Prop}, Inv (X.suite a ((a, oC) :: (X.pn ++ pins))) [] σ6 H6 s6 → (∀ s7, Inv X pins (σ6.set i none) H6 s7 → Q s7) →
            wpAny (model X.prog X.w) X.A (do bindName X.env n .none; unbindBehindTheSuite X.env n pos') (fun _ s7 => Q s7) X.xe s6 := fun {σ6 H6 Q} S6 hq => gone_ok (S6.unsuite ok) hN hi hln hq
        cases f with
        | next => exact let ⟨_, _, S6, q6⟩ := hsp; end_ S6 fun s7 J7 => ⟨_, _, J7, q6⟩
        | brk => exact let ⟨_, _, S6, q6⟩ := hsp; end_ S6 fun s7 J7 => ⟨_, _, J7, q6⟩
        | cont => exact let ⟨_, _, S6, q6⟩ := hsp; end_ S6 fun s7 J7 => ⟨_, _, J7, q6⟩
        | ret u => exact let ⟨_, _, _, S6, r6, q6⟩ := hsp; end_ S6 fun s7 J7 => ⟨_, _, _, J7, r6, q6⟩
end
end Gm
namespace Gm
open PySem PySem.Spec PyProof.Rows L2
/-! ### over the readings of data -/
/-- the clause's test by the classes' names -/
def MtOk (c : Cf) (t : ExcT) (mt : Value → Bool → Prop) (f : Str → Bool) : Prop := ∀ n C, n ∈ t.ns → c.cl n = some C → mt (.ref C) (f n)
/-- try: fb / except ..: x = fx; n in i: the clause's name; j: x -/
def sTry (t : ExcT) (f : Str → Bool) (i : Option Nat) (fb : Ss) (j : Nat) (fx : Ev D) : Ss := fun st h => match fb st h with
  | .exc e st' h' => if e.cls ∈ t.ns then
      if f e.cls = true then match hotV st'.length i fx e with
        | some d => .next (match i with
          | some i => ((st'.set i none).set j (some d)).set i none
          | none => st'.set j (some d)) h'
        | none => .no
      else .exc e st' h'
    else .no
  | o => o
theorem SL.drop {c : Cf} {g : Gh} {L : Nat} {st : Slots} {σ : L2.St} (s : SL c g L st σ) (i : Nat) (x : Option V) : SL c g L (st.set i none) (σ.set i x) := by
  refine ⟨by rw [List.length_set, List.length_set, s.1], fun j d' e => ?_⟩
  by_cases z : i = j
  · subst z
    have hi : i < st.length := by
      have := (List.getElem?_eq_some_iff.mp e).1
      simpa using this
    rw [List.getElem?_set_self hi] at e
    cases e
  · rw [List.getElem?_set_ne z] at e
    rw [List.getElem?_set_ne z]
    exact s.2 j d' e
theorem hotE_suite {c : Cf} {X : Cx} {a : Addr} {oe : Obj} {n : Str} {C : Addr} {dd : Option Addr} {pn : List (Addr × Obj)} (hC : c.cl n = some C) (hz : L2N.Zn (.ref C) dd oe) (hf : ∃ vs, oe.data = .fields vs) : HotE (c.exc (some (a, n, dd))) (X.suite a ((a, oe) :: pn)) :=
  ⟨(a, oe), List.mem_cons_self, ⟨⟨n, dd, C, rfl, hC, hz⟩, hf⟩, rfl⟩
section
variable {c : Cf} {t : ExcT} {f : Str → Bool} {X : Cx} {te : Expr} {mt : Value → Bool → Prop} {on : Option Str} {oi : Option Nat} {body : List Stmt} {ex : Expr} {x : Str} {j : Nat} {xp p2 pos pos' : Pos} {fb : Ss} {fx : Ev D} {Wout : WX}
theorem s_try (hcx : c.ex = none) (hs : X.stack = X.env :: X.outer) (hf : X.env.frame = some X.env.locals) (hn : NameAt X on oi) (ht : HTest X te mt) (hm : MtOk c t mt f) (tk : L2N.Takes X Wout)
    (hb : ∀ (W : WX) (pn : List (Addr × Obj)) (xe : Value → Shared → Prop), L2N.Takes (X.tr pn xe) W → PassesOwn (model X.prog X.w) X.A X.env xe → PSs (X.tr pn xe) body (tSt c W fb))
    (hN : X.N.Nodup) (hj : X.N[j]? = some x) (hx : Loc X.env.scope x) (hfn : X.fn x = true ∨ X.env.scope.names.lookup x = some .local)
    (hsu : ∀ (a : Addr) (oe : Obj) (n : Str) (dd : Option Addr) (pn : List (Addr × Obj)), HotE (c.exc (some (a, n, dd))) (X.suite a ((a, oe) :: pn)) → PE (X.suite a ((a, oe) :: pn)) ex (tEv (c.exc (some (a, n, dd))) W0 fx))
    (hsw : ∀ env : Env, swapsWith ex (some (.Name x xp)) p2.line env = pure false := by intro _; rfl) :
    PS X (.Try body [.ExceptHandler (some te) on [.Assign [.Name x xp] ex p2] pos'] [] [] pos) (tSt c Wout (sTry t f oi fb j fx)) := by
  have key := ps_tryT (X := X) (te := te) (mt := mt) (on := on) (oi := oi) (body := body) (suite := []) (b₀ := .Assign [.Name x xp] ex p2) (pos := pos) (pos' := pos') (tb := fun W => tSt c W fb) (Wout := Wout)
    (ts := fun a cls d D σ H => ∃ n C, c.cl n = some C ∧ cls = .ref C ∧ tEv (c.exc (some (a, n, d))) W0 fx σ H fun v H1 => D.nx (σ.set j (some v)) H1) hs hf hn ht tk hb (fun a oe cls d pn hz hfl => ⟨fun pins s σ H D I ⟨n, C, hC, ec, h⟩ => by
      subst ec
      exact (pss_one (ps_set (X := X.suite a ((a, oe) :: pn)) hN hj hx (hsu a oe n d pn (hotE_suite hC hz hfl)) (hsw _) hfn)).run pins s σ H D I h⟩)
  refine PS.imp key fun D σ H ⟨st, h, g, S, sl, q⟩ => ⟨st, h, g, S, sl, ?_⟩
  unfold sTry at q
  cases e : fb st h with
  | next st' h' => rw [e] at q; exact q
  | ret d h' => rw [e] at q; exact q
  | brk st' h' => rw [e] at q; exact q
  | cont st' h' => rw [e] at q; exact q
  | no => rw [e] at q; exact q
  | exc ee st' h' =>
    rw [e] at q
    dsimp only at q
    intro g' H' σ' cls dd o S' sl' rx
    by_cases hns : ee.cls ∈ t.ns
    case neg => rw [if_neg hns] at q; exact q.elim
    rw [if_pos hns] at q
    obtain ⟨C, hC, rfl, _⟩ := id rx
    refine ⟨f ee.cls, hm _ _ hns hC, fun hb' a na => ?_, fun hb' => ?_⟩
    · rw [if_pos hb'] at q
      cases ev : hotV st'.length oi fx ee with
      | none => rw [ev] at q; exact q.elim
      | some d =>
        rw [ev] at q
        dsimp only at q
        cases oi with
        | none =>
          refine ⟨_, _, hC, rfl, hot_ok (i := none) hcx S' (fun j' z => by cases z) rx (by rw [← sl'.1]; exact ev) fun g2 H2 v o2 S2 r2 => ?_⟩
          exact q g2 H2 _ (o.trans o2) S2 ((sl'.go o2).set j r2)
        | some i =>
          have hi : i < σ'.length := by
            rw [← sl'.1]
            exact hotV_in ev
          refine ⟨_, _, hC, rfl, hot_ok (i := some i) hcx S' (fun j' z => ?_) rx (by rw [List.length_set, ← sl'.1]; exact ev) fun g2 H2 v o2 S2 r2 => ?_⟩
          · cases z
            exact List.getElem?_set_self hi
          · exact q g2 H2 _ (o.trans o2) S2 ((((sl'.go o2).drop i _).set j r2).unset i)
    · rw [if_neg (by rw [hb']; decide)] at q
      exact q g' H' σ' _ dd o S' sl' rx
end
end Gm
namespace Gm
open PySem PySem.Spec PyProof.Rows L2
section
variable {c : Cf} {t : ExcT} {K : PySem.W.Frag} {A B : Str}
theorem mt_one (hcl : ∀ n, c.cl n = some (He.ga K n)) (ho : ExcOk t K) (hA : A ∈ t.ms) : MtOk c t (fun cls b => PySem.W.exmOne K cls (.ref (He.ga K A)) = some b) (fun n => t.is n A) := fun n C hn hC => by
  rw [hcl] at hC
  cases hC
  exact ho.exm n A hn hA
theorem mt_pair (hcl : ∀ n, c.cl n = some (He.ga K n)) (ho : ExcOk t K) (hA : A ∈ t.ms) (hB : B ∈ t.ms) : MtOk c t (fun cls b => PySem.W.exmAny K cls [.ref (He.ga K A), .ref (He.ga K B)] = some b) (fun n => t.is n A || t.is n B) := fun n C hn hC => by
  rw [hcl] at hC
  cases hC
  show PySem.W.exmAny K _ _ = _
  unfold PySem.W.exmAny
  rw [ho.exm n A hn hA]
  unfold PySem.W.exmAny
  rw [ho.exm n B hn hB]
  unfold PySem.W.exmAny
  simp
end
end Gm

/-! Gm23: lambdas handed to a def that tries them. -/
namespace Gm
open PySem PySem.Spec PyProof.Rows L2 LamX
/-- the context of the lambda's body; what is raised bears no context -/
abbrev lamCxN (X : Cx) (A : Around) (outer : List Env) (s : Shared) (H : Hp) (E : XK) (scope : Scope) (f c' : Addr) : Cx :=
  { lamCx X A outer s H E scope f c' with xe := fun e s' => wpAny (model X.prog X.w) (A.deeper (lamEnv X scope s.heap.objs.size f c')) (leaving (lamEnv X scope s.heap.objs.size f c') e) (fun _ s2 => L2N.CX X.prog X.w outer H s E e s2) (fun e' s2 => L2N.CX X.prog X.w outer H s E e' s2) s' }
section
variable {X : Cx} {pins : List (Addr × Obj)} {σ : L2.St} {H : Hp} {s : Shared}
theorem lam_startN {HZ : Hp} {s1 : Shared} {A : Around} {outer : List Env} {E : XK} {scope : Scope} {f c' : Addr} {h₁ : Heap} {tk : Nat} (I : Inv X pins σ H s) (L : LamS X.env.scope scope) (e0 : Env0 X.prog X.w X.K X.mg X.base A outer s1 HZ) (hd : A.handled = none)
    (un : Un (frs X.stack) [] H HZ s.heap s1.heap) (hns : h₁.Ns s1.heap.objs.size fun y => ([] : List (Str × Value)).reverse.lookup y) (kp : ∀ b o, s1.heap.get? b = some o → h₁.get? b = some o) :
    Inv (lamCxN X A outer s1 HZ E scope f c') [] σ HZ { s1 with heap := h₁, toks := tk } := by
  have J := lam_start2 (E := E) (tk := tk) (f := f) (c' := c') I L e0 hd un hns kp
  exact Inv.unwish (X := lamCxN X A outer s1 HZ E scope f c') (E := (lamCx X A outer s1 HZ E scope f c').xe) J
/-- x(), in the def that got the lambda -/
theorem pe_actN {CXg : CXT} {Eg : XK} {Ng : List Str} {qg : Str} {sg : Scope} {g f c' : Addr} {cdg pm ctv : Value} {params : Arguments} {body : Expr} {scope : Scope} {k i : Nat} {a : Str} {pn : List (Addr × Obj)} {xe : Value → Shared → Prop} {W : WX} {t : XK → TE} {p1 p2 : Pos}
    (I : Inv X pins σ H s) (L : LamS X.env.scope scope) (hf : s.heap.get? f = some (PySem.W.kla_obj "<lambda>" (X.env.qual ++ "<lambda>") params body scope (cloFrom X.env.cells scope.names []) pm c' ctv)) (hfn : H f = none) (hfr : f ∉ frs X.stack)
    (hbind : bindArgs (PySem.W.kla_fn "<lambda>" (X.env.qual ++ "<lambda>") params body scope (cloFrom X.env.cells scope.names []) pm (.ref c') ctv) ⟨[], []⟩ = pure [])
    (tk : L2N.Takes ((cxOf CXg X.prog X.w X.K X.mg X.base Ng qg sg g cdg X.A X.stack s H Eg).tr pn xe) W) (hr : Room (k + 1) (X.A.deeper (envOfC qg sg s.heap.objs.size g cdg)))
    (hbody : ∀ (A : Around) (outer : List Env) (s : Shared) (H : Hp) (E : XK), Room k (A.deeper (lamEnv X scope s.heap.objs.size f c')) → PE (lamCxN X A outer s H E scope f c') body (t E))
    (hN : Ng[i]? = some a) (hv : Vis sg a) (hd : (a == ("__debug__" : Str)) = false := by decide) (hcd : (a == ("__classdict__" : Str)) = false := by decide) :
    PE ((cxOf CXg X.prog X.w X.K X.mg X.base Ng qg sg g cdg X.A X.stack s H Eg).tr pn xe) (.Call (.Name a p1) [] [] p2)
      (fun σZ HZ Q => σZ[i]? = some (some (.ref f)) ∧ HZ c' = some (CodeO c' (X.env.qual ++ "<lambda>")) ∧ t (fun cls d H' => W cls d σZ H') σ HZ Q) := by
  refine ⟨fun pinsZ sZ σZ HZ Q IZ ⟨hs, hc, ht⟩ => ?_⟩
  refine wpAny_Call_Name_kw (thn ((pe_var (pos := p1) (i := i) hN hv hd hcd).run pinsZ sZ σZ HZ (fun v H1 => v = .ref f ∧ H1 = HZ) IZ ⟨.ref f, hs, rfl, rfl⟩) fun u s1 ⟨v, H1, I1, r1, ev, eH⟩ => ?_)
  subst ev
  rw [eH] at I1
  cases (show u = Value.ref f from r1)
  have of1 : s1.heap.get? f = some (PySem.W.kla_obj "<lambda>" (X.env.qual ++ "<lambda>") params body scope (cloFrom X.env.cells scope.names []) pm c' ctv) := I1.base.keep f _ hf hfn hfr (fun z => nomatch (show f ∈ ([] : List Addr) from z))
  refine PySem.W.callWith_F0 ⟨_, _, _, _, of1⟩ ?_
  have un : Un (frs X.stack) [] H HZ s.heap s1.heap := I1.base
  obtain ⟨⟨oc, vs, tt, hoc, hdc, hvc⟩, _, _⟩ := I1.hok c' _ hc
  have rc : codeAny (model X.prog X.w) (X.A.deeper (envOfC qg sg s.heap.objs.size g cdg)) (.call (.ref f) ⟨[], []⟩) (CR (L2N.CX X.prog X.w) (envOfC qg sg s.heap.objs.size g cdg :: X.stack) X.prog X.w HZ s1 Q fun cls d H' => W cls d σZ H') s1 := by
    refine PySem.W.kla_callFunE hr.depth of1 rfl L.co L.gen rfl ⟨c', oc, vs, tt, rfl, hoc, hdc, hvc⟩ ?_
    rw [hbind]
    refine wpAny_pure (wpAny_newFunctionEnv (fun y hy => (L.own y hy).2) (fun y hy => absurd hy (by simp)) (fun h₁ hns hsb => ⟨I1.nolimit.fresh _ hsb, ?_⟩) L.kind)
    show codeAny _ _ (.expr body (lamEnv X scope s1.heap.objs.size f c')) _ _
    have kp : ∀ b o, s1.heap.get? b = some o → h₁.get? b = some o := fun b o e => hsb.extBut b o (Nat.ne_of_lt (Heap.lt_size e)) (Heap.get?_push_of_some _ e)
    have J := lam_startN (E := fun cls d H' => W cls d σZ H') (tk := s1.toks + ([] : List (Str × Value)).length) (f := f) (c' := c') I L I1.env0 hr.hd un hns kp
    refine PySem.W.kla_codeExpr (wpAny_mono ((hbody _ _ s1 HZ _ (hr.deeper _)).run [] _ _ HZ Q J ht) (fun v s' hq => ?_) fun e s' hq => hq)
    obtain ⟨w', H', J', rv, q⟩ := hq
    exact ⟨w', H', J'.os, J'.bare, J'.base, J'.hok, rv, q⟩
  refine wpAny_call (codeAny_mono rc fun r s' hq => ?_)
  cases r with
  | error e => exact L2N.passAt tk σZ pinsZ HZ s1 e s' I1 hq
  | ok fl =>
    cases fl with
    | ret u => exact I1.after hq
    | next => exact False.elim hq
    | brk => exact False.elim hq
    | cont => exact False.elim hq
end
/-! ### the def that tries -/
/-- (what it answers, w0), or (None, what the suite makes of it) -/
def triedF (t : ExcT) (f : Str → Bool) (w0 : Str) (fx : Ev D) (r : Res D) : Res D := match r with
  | .ok d h => .ok (.tup [d, .str w0]) h
  | .exc e h => if e.cls ∈ t.ns ∧ f e.cls = true then match hotV 4 (some 3) fx e with
    | some d => .ok (.tup [.non, d]) h
    | none => .no
    else .no
  | .no => .no
abbrev trZ (P : Program) (w : World) (K : PySem.W.Frag) (mg : Str → Option Value) (base : Heap) (Ng : List Str) (x : Str) (sg : Scope) (g : Addr) (cdg : Value) (A : Around) (outer : List Env) (s : Shared) (H : Hp) : Cx := cxOf (L2N.CX P w) P w K mg base Ng x sg g cdg A outer s H fun _ _ _ => False
/-- the body makes F of what the lambda makes -/
def GivesN (P : Program) (w : World) (K : PySem.W.Frag) (mg : Str → Option Value) (base : Heap) (c : Cf) (k : Nat) (Ng : List Str) (x : Str) (sg : Scope) (g : Addr) (cdg : Value) (bg : List Stmt) (a : Str) (F : Res D → Res D) : Prop :=
  ∀ (A : Around) (outer : List Env) (s : Shared) (H : Hp) (f c' : Addr) (q : Str) (Q : VK) (tl : XK → Hp → VK → Prop) (g1 : Gh) (h : Store) (r : Res D), Room k (A.deeper (envOfC x sg s.heap.objs.size g cdg)) →
    (∀ (W : WX) (pn : List (Addr × Obj)) (xe : Value → Shared → Prop) (p1 p2 : Pos), L2N.Takes ((trZ P w K mg base Ng x sg g cdg A outer s H).tr pn xe) W →
      PE ((trZ P w K mg base Ng x sg g cdg A outer s H).tr pn xe) (.Call (.Name a p1) [] [] p2) (fun σZ HZ Q => σZ[0]? = some (some (.ref f)) ∧ HZ c' = some (CodeO c' q) ∧ tl (fun cls d H' => W cls d σZ H') HZ Q)) →
    H c' = some (CodeO c' q) → SR c g1 h H → (∀ E Q, RP c (Rv c) g1 h H r Q E → tl E H Q) → RP c (Rv c) g1 h H (F r) Q (fun _ _ _ => False) →
    ∃ t, PSs (trZ P w K mg base Ng x sg g cdg A outer s H) bg t ∧ t { nx := fun _ H' => Q .non H', rt := Q } (L2.start Ng [.ref f]) H
structure TriedOk (P : Program) (w : World) (K : PySem.W.Frag) (mg : Str → Option Value) (base : Heap) (c : Cf) (x : Str) (k : Nat) (F : Res D → Res D) : Prop where
  ex : ∃ (g : Addr) (pg : Arguments) (bg : List Stmt) (sg : Scope) (dV kV doc pm cdv ct oc : Value) (an od : Option Addr) (osl : Array (Option Value)) (Ng : List Str) (a : Str),
    mg x = some (.ref g) ∧ PySem.W.keepIn K (.ref g) = true ∧ K.lookup g = some ⟨oc, od, .func (PySem.W.fnOf x x pg bg sg dV kV doc pm an cdv ct), osl⟩ ∧ PySem.W.codeIn K cdv x = true ∧ L2.Binds K (PySem.W.fnOf x x pg bg sg dV kV doc pm an cdv ct) [a] [] ∧ FnScope Ng [a] sg ∧ Ng[0]? = some a ∧ Vis sg a ∧
    (a == ("__debug__" : Str)) = false ∧ (a == ("__classdict__" : Str)) = false ∧ GivesN P w K mg base c k Ng x sg g cdv bg a F
/-- x(lambda: body) -/
def cTried (F : Res D → Res D) (fb : Ev D) : Ev D := fun st h => match F (fb st h) with
  | .ok d h' => .ok d h'
  | _ => .no
section
variable {c : Cf} {X : Cx} {W : WX}
theorem e_tried {cd P : Addr} {k j : Nat} {x : Str} {F : Res D → Res D} {params : Arguments} {body : Expr} {scope : Scope} {fb : Ev D} {p lpos pos : Pos} (G : TriedOk X.prog X.w X.K X.mg X.base c x (k + 1) F) (hg : Gl X x)
    (TB : TabB X.base X.mg cd P) (hcode : X.env.code = .ref cd) (hmT : (P, X.env.qual ++ "<lambda>") ∈ c.tabs) (hu : ∀ p ∈ c.tabs, p.1 = P → p.2 = X.env.qual ++ "<lambda>") (hr : Room j X.A) (hj : k + 2 ≤ j) (L : LamS X.env.scope scope) (hdef : defaultsOf params X.env = ([], []))
    (hbind : ∀ (q : Str) (cl : List (Str × Addr)) (pm cv ctv : Value), bindArgs (PySem.W.kla_fn "<lambda>" q params body scope cl pm cv ctv) ⟨[], []⟩ = pure [])
    (hbody : ∀ (A : Around) (outer : List Env) (s : Shared) (H : Hp) (E : XK) (f c' : Addr), Room k (A.deeper (lamEnv X scope s.heap.objs.size f c')) → PE (lamCxN X A outer s H E scope f c') body (tEv c (fun cls d _ H' => E cls d H') fb))
    (hdb : (x == ("__debug__" : Str)) = false := by decide) :
    PE X (.Call (.Name x p) [.Lambda params body scope lpos] [] pos) (tEv c W (cTried F fb)) := by
  obtain ⟨g, pg, bg, sg, dV, kV, doc, pm, cdv, ct, oc, an, od, osl, Ng, a, hm, hk, lk, hcg, hb, Sg, hNg, hva, hd, hcd, hG⟩ := G.ex
  refine ⟨fun pins s σ H Q I ⟨st, h, gh, S, sl, q⟩ => ?_⟩
  refine wpAny_Call_Name_kw (ld_glob I hg hm ?_ hdb)
  refine PySem.W.callWith_K (h₀ := X.base) I.ok.mod.kin hk ?_ (by rfl) (by rfl)
  show wpAny _ _ (spliced ((false, eval (.Lambda params body scope lpos) X.env) :: backTo pos (starEach [] X.env))) _ _ s
  refine Calls.spliced_cons (lam_make2 I TB hcode hmT hu S.tabs hdef (L.has I.ok) fun f c' pm' ctv H1 s' I1 eN T1 hf hfn hfr hco => ?_)
  refine Calls.spliced_nil ⟨I1.kIn, ?_⟩
  -- the store and the ghost hold beside the new code object
  have up : ∀ a o, gh.tr a = some o → H1 a = some o := fun a o e => eN a o (S.sub a o e) fun ps z => S.nt a ps (by rw [e, z])
  have at_ : ∀ n, Live h n → H1 (gh.io n) = H (gh.io n) := fun n ⟨ce, e⟩ => by
    obtain ⟨u, hu, mu⟩ := (S.cell n ce e).some
    rw [hu]
    exact eN _ _ hu fun ps z => by subst z; exact mu
  have S1 : SR c gh h H1 := ⟨up, S.apart, fun n ce e => (S.cell n ce e).mono (Gx.refl _ _) (Nat.le_refl _) (at_ n ⟨ce, e⟩), S.inj, T1, S.nt⟩
  have o1 : Go gh h H gh h H1 := ⟨Nat.le_refl _, fun _ _ => rfl, fun _ _ e => e, fun a o e nt => ⟨o, eN a o e nt, nt⟩, fun a o e nt _ => eN a o e nt, fun _ _ _ _ t _ => t, fun _ _ l => l, fun n hn l => absurd l.lt (Nat.not_lt.mpr hn)⟩
  have q2 : RP c (Rv c) gh h H1 (F (fb st h)) Q (fun _ _ _ => False) := by
    unfold cTried at q
    cases e : F (fb st h) with
    | ok d h' => rw [e] at q; exact RP.go (r := .ok d h') q o1
    | exc e' h' => rw [e] at q; exact q.elim
    | no => rw [e] at q; exact q.elim
  have rc : codeAny (model X.prog X.w) X.A (.call (.ref g) ⟨[.ref f], []⟩) (CR (L2N.CX X.prog X.w) X.stack X.prog X.w H1 s' Q fun _ _ _ => False) s' := by
    refine run_ofS (N := Ng) (ps := [a]) (us := [.ref f]) (vs := [.ref f]) (k := k + 1) lk hcg Sg (hr.mono hj) I1.env0 (hb s' [.ref f] I1.kIn rfl) (.cons rfl .nil) rfl fun hr' => ?_
    refine hG X.A X.stack s' H1 f c' (X.env.qual ++ "<lambda>") Q (fun E H' Q' => tEv c (fun cls d _ H' => E cls d H') fb σ H' Q') gh h (fb st h) hr' (fun W pn xe p1 p2 tk => ?_) hco S1 (fun E Q' rp => ⟨st, h, gh, S1, sl, rp⟩) q2
    exact pe_actN (i := 0) I1 L hf hfn hfr (hbind _ _ _ _ _) tk hr' (fun A outer s H E hr2 => hbody A outer s H E f c' hr2) hNg hva hd hcd
  refine wpAny_call (codeAny_mono rc fun r s2 hq => ?_)
  cases r with
  | error e =>
    obtain ⟨_, _, _, _, _, _, _, _, _, _, _, _, z⟩ := (show L2N.CX X.prog X.w X.stack H1 s' (fun _ _ _ => False) e s2 from hq)
    exact z.elim
  | ok fl =>
    cases fl with
    | ret u => exact I1.after hq
    | next => exact False.elim hq
    | brk => exact False.elim hq
    | cont => exact False.elim hq
end
/-! ### its body -/
section
variable {P : Program} {w : World} {K : PySem.W.Frag} {mg : Str → Option Value} {base : Heap} {c : Cf} {t : ExcT} {fc : Str → Bool} {x : Str} {kws : List (Str × V)} {g : Addr} {fd : FuncData} {N : List Str} {a nf nw ne : Str} {c1 c2 te ex : Expr} {w0 : Str} {k kk : Nat} {fx : Ev D} {mt : Value → Bool → Prop}
  {p1 p2 p3 p4 p5 p6 p7 p8 p9 p10 p11 p12 p13 p14 p15 p16 : Pos} {pg : Arguments} {sg : Scope}
theorem tried_ok (hcx : c.ex = none)
    (FD : FunD K x x pg [.Assign [.Name nf p1] c1 p2, .Assign [.Name nw p3] c2 p4, .Try [.Assign [.Name nf p5] (.Call (.Name a p6) [] [] p7) p8] [.ExceptHandler (some te) (some ne) [.Assign [.Name nw p9] ex p10] p11] [] [] p12, .Return (some (.Tuple [.Name nf p13, .Name nw p14] kk p15)) p16] sg [] kws g fd)
    (hm : mg x = some (.ref g)) (Sg : FnScope [a, nf, nw, ne] [a] sg) (hva : Vis sg a) (hlf : Loc sg nf) (hlw : Loc sg nw) (hle : sg.names.lookup ne = some .local) (df1 : (nf == ("__debug__" : Str)) = false) (df2 : (nf == ("__classdict__" : Str)) = false) (dw1 : (nw == ("__debug__" : Str)) = false) (dw2 : (nw == ("__classdict__" : Str)) = false) (hd : (a == ("__debug__" : Str)) = false) (hcd : (a == ("__classdict__" : Str)) = false)
    (hb : ∀ (kV doc pm : Value) (an : Option Addr) (cdv ct : Value) (us : List Value), us.length = 1 → bindArgs (PySem.W.fnOf x x pg [.Assign [.Name nf p1] c1 p2, .Assign [.Name nw p3] c2 p4, .Try [.Assign [.Name nf p5] (.Call (.Name a p6) [] [] p7) p8] [.ExceptHandler (some te) (some ne) [.Assign [.Name nw p9] ex p10] p11] [] [] p12, .Return (some (.Tuple [.Name nf p13, .Name nw p14] kk p15)) p16] sg .none kV doc pm an cdv ct) ⟨us, []⟩ = pure ([a].zip us))
    (h1 : ∀ X : Cx, PE X c1 (tC .non)) (h2 : ∀ X : Cx, PE X c2 (tC (.str w0))) (hmt : MtOk c t mt fc)
    (hsw1 : ∀ env : Env, swapsWith c1 (some (.Name nf p1)) p2.line env = pure false) (hsw2 : ∀ env : Env, swapsWith c2 (some (.Name nw p3)) p4.line env = pure false) (hsw3 : ∀ env : Env, swapsWith ex (some (.Name nw p9)) p10.line env = pure false)
    (ht : ∀ (cdv : Value) (A : Around) (outer : List Env) (s : Shared) (H : Hp), HTest (trZ P w K mg base [a, nf, nw, ne] x sg g cdv A outer s H) te mt)
    (hsu : ∀ (cdv : Value) (A : Around) (outer : List Env) (s : Shared) (H : Hp), Room k (A.deeper (envOfC x sg s.heap.objs.size g cdv)) → ∀ (a0 : Addr) (oe : Obj) (n : Str) (dd : Option Addr) (pn : List (Addr × Obj)), HotE (c.exc (some (a0, n, dd))) ((trZ P w K mg base [a, nf, nw, ne] x sg g cdv A outer s H).suite a0 ((a0, oe) :: pn)) →
      PE ((trZ P w K mg base [a, nf, nw, ne] x sg g cdv A outer s H).suite a0 ((a0, oe) :: pn)) ex (tEv (c.exc (some (a0, n, dd))) W0 fx)) : TriedOk P w K mg base c x k (triedF t fc w0 fx) := by
  obtain ⟨oc, od, dV, kV, doc, pm, an, cdv, ct, osl, rfl, lk, hcd2, _, _⟩ := FD.ex
  refine ⟨g, pg, _, sg, _, _, _, _, _, _, _, _, _, _, [a, nf, nw, ne], a, hm, FD.kp, lk, hcd2, FD.bindsN hb, Sg, rfl, hva, hd, hcd, ?_⟩
  intro A outer s H f c' q Q tl g1 h r hr act hc S htl hq
  have hN : [a, nf, nw, ne].Nodup := Sg.nd
  -- the readings
  refine ⟨_, pss_cons (ps_set (i := 1) hN rfl hlf (h1 _) (hsw1 _) (.inl rfl)) (pss_cons (ps_set (i := 2) hN rfl hlw (h2 _) (hsw2 _) (.inl rfl)) (pss_cons
    (ps_tryT (mt := mt) (oi := some 3) (Wout := fun _ _ _ _ => False) (tb := fun W D σ H => σ[0]? = some (some (.ref f)) ∧ H c' = some (CodeO c' q) ∧ tl (fun cls d H' => W cls d σ H') H (fun v H1 => D.nx (σ.set 1 (some v)) H1))
      (ts := fun a0 cls d D σ H => ∃ n C, c.cl n = some C ∧ cls = .ref C ∧ tEv (c.exc (some (a0, n, d))) W0 fx σ H fun v H1 => D.nx (σ.set 2 (some v)) H1) rfl rfl ⟨hN, rfl, hle⟩ (ht cdv A outer s H) no_tk
      (fun W pn xe tk _ => ⟨fun pins s' σ H' D I ⟨y1, y2, y3⟩ => (pss_one (ps_set (i := 1) hN rfl hlf (act W pn xe p6 p7 tk) (by rfl) (.inl rfl))).run pins s' σ H' D I ⟨y1, y2, y3⟩⟩)
      (fun a0 oe cls d pn hz hfl => ⟨fun pins s' σ H' D I ⟨n, C, hC, ec, y⟩ => by
        subst ec
        exact (pss_one (ps_set (i := 2) hN rfl hlw (hsu cdv A outer s H hr a0 oe n d pn (hotE_suite hC hz hfl)) (hsw3 _) (.inl rfl))).run pins s' σ H' D I y⟩))
    (pss_one (s_ret (c := c) (W := W0) (e_tup (a_cons (e_var (pe_var (i := 1) rfl (hlf.elim .inl fun z => .inr (.inl z)) df1 df2)) (a_cons (e_var (pe_var (i := 2) rfl (hlw.elim .inl fun z => .inr (.inl z)) dw1 dw2)) a_nil))))))), ?_⟩
  refine ⟨rfl, hc, htl _ _ ?_⟩
  have sz : sizeLine ≥ 2 := by decide
  -- the way back: the pair
  have back : ∀ {g2 : Gh} {h2 : Store} {H2 : Hp} {d1 d2 : Gm.D} {v1 v2 : V} {y : Option V}, SR c g2 h2 H2 → RV c g2 h2.length d1 v1 → RV c g2 h2.length d2 v2 → (∀ g' H' v, Go g2 h2 H2 g' h2 H' → SR c g' h2 H' → RV c g' h2.length (.tup [d1, d2]) v → Q v H') →
      tSt c W0 (sRet (cTup (cCons (cVar 1) (cCons (cVar 2) cNil)))) { nx := fun _ H' => Q .non H', rt := Q } [some (.ref f), some v1, some v2, y] H2 := fun {g2 h2 H2 d1 d2 v1 v2 y} S2 r1 r2 k => by
    refine ⟨[none, some d1, some d2, none], h2, g2, S2, ⟨rfl, fun i d e => ?_⟩, ?_⟩
    · rcases i with _ | _ | _ | _ | i
      · simp at e
      · have e : d1 = d := by simpa using e
        subst e
        exact ⟨v1, rfl, r1⟩
      · have e : d2 = d := by simpa using e
        subst e
        exact ⟨v2, rfl, r2⟩
      · simp at e
      · simp at e
    · show OP c g2 h2 H2 ((cTup (cCons (cVar 1) (cCons (cVar 2) cNil)) [none, some d1, some d2, none] h2).out _ fun d h1 => .ret d h1) _ _
      have e : cTup (cCons (cVar 1) (cCons (cVar 2) cNil)) [none, some d1, some d2, none] h2 = .ok (.tup [d1, d2]) h2 := (if_pos (show [d1, d2].length ≤ sizeLine from sz) : (if [d1, d2].length ≤ sizeLine then Res.ok (Gm.D.tup [d1, d2]) h2 else .no) = _)
      rw [e]
      exact fun g' H' v o S' r => k g' H' v o S' r
  cases r with
  | no => exact hq.elim
  | ok d h1 =>
    intro g' H' v o S' rv
    exact back (y := none) S' rv (.str w0) fun g2 H2 v2 o2 S2 r2 => hq g2 H2 v2 (o.trans o2) S2 r2
  | exc e h1 =>
    intro g' H' cls dd o S' rx
    have hq : RP c (Rv c) g1 h H (if e.cls ∈ t.ns ∧ fc e.cls = true then match hotV 4 (some 3) fx e with | some d => .ok (.tup [.non, d]) h1 | none => .no else .no) Q (fun _ _ _ => False) := hq
    by_cases hns : e.cls ∈ t.ns ∧ fc e.cls = true
    case neg => rw [if_neg hns] at hq; exact hq.elim
    rw [if_pos hns] at hq
    obtain ⟨C, hC, rfl, _⟩ := id rx
    refine ⟨fc e.cls, hmt _ _ hns.1 hC, fun _ a0 na => ?_, fun z => by rw [hns.2] at z; cases z⟩
    cases ev : hotV 4 (some 3) fx e with
    | none => rw [ev] at hq; exact hq.elim
    | some d =>
      rw [ev] at hq
      refine ⟨_, _, hC, rfl, hot_ok (i := some 3) hcx S' (fun j z => by cases z; rfl) rx ev fun g2 H2 v o2 S2 r2 => ?_⟩
      exact back (y := none) S2 .non r2 fun g3 H3 v3 o3 S3 r3 => hq g3 H3 v3 (o.trans (o2.trans o3)) S3 r3
end
end Gm

/-! Gm24: a law's end where lambdas are made. -/
namespace Gm
open PySem PySem.Spec PyProof.Rows L2
/-- .. with tables of code objects -/
abbrev cfT (K : PySem.W.Frag) (T : List (Addr × Str)) : Cf := ⟨K, fun n => some (He.ga K n), T, none⟩
/-- where a def's lambdas are kept -/
structure LamAt (base : Heap) (mg : Str → Option Value) (T : List (Addr × Str)) (fd : FuncData) (q : Str) (cd P : Addr) : Prop where
  code : fd.code = .ref cd
  tab : LamX.TabB base mg cd P
  mem : (P, (q ++ ".<locals>.") ++ "<lambda>") ∈ T
  uniq : ∀ p ∈ T, p.1 = P → p.2 = (q ++ ".<locals>.") ++ "<lambda>"
/-- a def that makes lambdas -/
theorem fn_okL {P : Program} {w : World} {K : PySem.W.Frag} {mg : Str → Option Value} {base : Heap} {c : Cf} {x qual : Str} {params : Arguments} {body : List Stmt} {scope : Scope} {dvs : List V} {kws : List (Str × V)} {f cd : Addr} {fd : FuncData} {N ps : List Str} {k : Nat} {fb : Ss}
    (F : FunD K x qual params body scope dvs kws f fd) (S : FnScope N ps scope) (hcode : fd.code = .ref cd)
    (hbody : ∀ (A : Around) (outer : List Env) (s : Shared) (H : Hp) (E : XK), Room k (A.deeper (envOfC qual scope s.heap.objs.size f (.ref cd))) →
      PSs (cxOf (L2N.CX P w) P w K mg base N qual scope f (.ref cd) A outer s H E) body (tSt c (fun cls d _ H' => E cls d H') fb)) :
    FnOk P w K mg base (L2N.CX P w) (k + 1) f fd ps (spOf c (fnOf N.length ps.length fb)) := by
  obtain ⟨oc, od, dV, kV, doc, pm, an, cdv, ct, osl, rfl, lk, hcd, _, _⟩ := F.ex
  have e : cdv = .ref cd := hcode
  subst e
  refine fn_of lk hcd S (fun vs H Q E ⟨ds, h, g, S, r, q⟩ => ?_) fun A outer s H vs Q E hr ⟨ds, h, g, S, r, q⟩ => ⟨_, hbody A outer s H E hr, ?_⟩
  · unfold fnOf at q
    by_cases hl : ds.length = ps.length
    · rw [← hl, r.length]
    · rw [if_neg hl] at q
      exact q.elim
  · unfold fnOf at q
    by_cases hl : ds.length = ps.length
    · rw [if_pos hl] at q
      have q := RP.clean q
      refine ⟨startD N.length ds, h, g, S, SL.start r, ?_⟩
      cases e : fb (startD N.length ds) h with
      | next st' h' => rw [e] at q; exact fun g' H' σ o S' _ => q g' H' .non o S' .non
      | ret d h' => rw [e] at q; exact q
      | brk st' h' => rw [e] at q; exact q.elim
      | cont st' h' => rw [e] at q; exact q.elim
      | exc ee st' h' => rw [e] at q; exact fun g' H' σ cls dd o S' _ rx => q g' H' cls dd o S' rx
      | no => rw [e] at q; exact q.elim
    · rw [if_neg hl] at q
      exact q.elim
/-! ### what is seen of the head -/
abbrev Tq := List (He.Defn × Str)
def tabsOf (K : PySem.W.Frag) (tq : Tq) : List (Addr × Str) := tq.map fun p => ((He.cT K p.1).2, (p.2 ++ ".<locals>.") ++ "<lambda>")
def seeN (fa : List He.Fa) (fn : List He.DefD) (tq : Tq) (ex : PySem.W.Frag → Bool) (g : Addr → Option Obj) (K : PySem.W.Frag) : He.AlD :=
  ((He.obsD fa fn K).1 && (I2.noDig K && (ex K && (He.tabsB g (tq.map (·.1)) K && decide ((tq.map fun p => (He.cT K p.1).2).Nodup)))), (He.obsD fa fn K).2)
structure SaysN (fa : List He.Fa) (fn : List He.DefD) (tq : Tq) (ex : PySem.W.Frag → Bool) (h : Heap) (K : PySem.W.Frag) : Prop where
  d : He.SaysD fa fn K
  nd : I2.noDig K = true
  more : ex K = true
  dis : (tq.map fun p => (He.cT K p.1).2).Nodup
  hd : ∀ p ∈ tq, PySem.W.codeHdIn K (He.cT K p.1).1 (He.cT K p.1).2 = true
  out : ∀ p ∈ tq, K.lookup (He.cT K p.1).2 = none
  empty : ∀ p ∈ tq, h.get? (He.cT K p.1).2 = some { cls := .none, data := .fields #[] }
theorem saysN_of {n : Nat} {fa : List He.Fa} {fn : List He.DefD} {tq : Tq} {ex : PySem.W.Frag → Bool} {h : Heap} {as : List Addr} (e : seeN fa fn tq ex h.get? (He.frT h.get? as) = He.valD fn) : SaysN fa fn tq ex h (He.frT h.get? as) := by
  have e1 := congrArg (fun z : He.AlD => z.1) e
  have e2 : (seeN fa fn tq ex h.get? (He.frT h.get? as)).2 = (He.valD fn).2 := by rw [e]
  dsimp only [seeN, He.valD] at e1
  simp only [Bool.and_eq_true, decide_eq_true_eq] at e1
  obtain ⟨h1, h2, h3, h4, h5⟩ := e1
  have key : ∀ p ∈ tq, PySem.W.codeHdIn (He.frT h.get? as) (He.cT (He.frT h.get? as) p.1).1 (He.cT (He.frT h.get? as) p.1).2 = true ∧ ∃ o, h.get? (He.cT (He.frT h.get? as) p.1).2 = some o ∧ He.emptyTab o = true := fun p hp => by
    have z := List.all_eq_true.mp h4 p.1 (List.mem_map.mpr ⟨p, hp, rfl⟩)
    rw [Bool.and_eq_true] at z
    refine ⟨z.1, ?_⟩
    have z2 := z.2
    cases q : h.get? (He.cT (He.frT h.get? as) p.1).2 with
    | none => rw [q] at z2; cases z2
    | some o => rw [q] at z2; exact ⟨o, rfl, z2⟩
  refine ⟨Prod.ext h1 e2, h2, h3, h5, fun p hp => (key p hp).1, fun p hp => ?_, fun p hp => ?_⟩
  · obtain ⟨_, o, q, z⟩ := key p hp
    exact He.frT_none q z
  · obtain ⟨_, o, q, z⟩ := key p hp
    rw [q, He.emptyTab_eq z]
def hookN (n : Nat) (fa : List He.Fa) (fn : List He.DefD) (tq : Tq) (ex : PySem.W.Frag → Bool) : PySem.W.Hook where
  α := He.AlD
  obs := fun s => seeN fa fn tq ex s.heap.get? (He.frT s.heap.get? (adM s.heap.get? n))
  val := fun _ => He.valD fn
  says := fun _ h => ∃ K : PySem.W.Frag, K.In h ∧ SaysN fa fn tq ex h K
  of := fun _ _ e => ⟨_, He.frT_in, saysN_of (n := n) e⟩
  keeps := fun _ _ _ ⟨K, hK, c⟩ k => ⟨K, PySem.W.Frag.In.keeps hK k, ⟨c.d, c.nd, c.more, c.dis, c.hd, c.out, fun p hp => k _ _ (c.empty p hp)⟩⟩
def obN (n : Nat) (fa : List He.Fa) (fn : List He.DefD) (tq : Tq) (ex : PySem.W.Frag → Bool) (s : PySem.W.SharedT) : He.AlD := seeN fa fn tq ex (HandSHeadRun.getT s) (He.frT (HandSHeadRun.getT s) (adM (HandSHeadRun.getT s) n))
theorem obN_eq {n : Nat} {fa : List He.Fa} {fn : List He.DefD} {tq : Tq} {ex : PySem.W.Frag → Bool} (s : PySem.W.SharedT) : obN n fa fn tq ex s = (hookN n fa fn tq ex).obs s.abs := by
  have e : HandSHeadRun.getT s = s.abs.heap.get? := funext (HandSHeadRun.getT_eq s)
  show seeN fa fn tq ex (HandSHeadRun.getT s) (He.frT (HandSHeadRun.getT s) (adM (HandSHeadRun.getT s) n)) = _
  rw [e]
  rfl
theorem nodup_inj {α β : Type} {f : α → β} : ∀ {l : List α}, (l.map f).Nodup → ∀ {a b : α}, a ∈ l → b ∈ l → f a = f b → a = b
  | [], _, _, _, ha, _, _ => absurd ha (by simp)
  | x :: l, h, a, b, ha, hb, e => by
    rw [List.map_cons, List.nodup_cons] at h
    rcases List.mem_cons.mp ha with z1 | h1 <;> rcases List.mem_cons.mp hb with z2 | h2
    · rw [z1, z2]
    · rw [z1] at e
      exact (h.1 (List.mem_map.mpr ⟨b, h2, e.symm⟩)).elim
    · rw [z2] at e
      exact (h.1 (List.mem_map.mpr ⟨a, h1, e⟩)).elim
    · exact nodup_inj h.2 h1 h2 e
theorem lamAt_of {K : PySem.W.Frag} {base : Heap} {mg : Str → Option Value} {tq : Tq} {x qual : Str} {params : Arguments} {body : List Stmt} {scope : Scope} {dvs : List V} {kws : List (Str × V)} {fd : FuncData} {p : He.Defn} (FD : FunD K x qual params body scope dvs kws (He.fAd K p) fd) (hp : (p, qual) ∈ tq)
    (dis : (tq.map fun p => (He.cT K p.1).2).Nodup) (TB : LamX.TabB base mg (He.cT K p).1 (He.cT K p).2) : LamAt base mg (tabsOf K tq) fd qual (He.cT K p).1 (He.cT K p).2 := by
  obtain ⟨oc, od, dV, kV, doc, pm, an, cdv, ct, osl, rfl, lk, hcd, _, _⟩ := FD.ex
  obtain ⟨cc, ec⟩ := He.codeIn_ref hcd
  subst ec
  have e1 := He.codeOf_eq lk (c := cc) rfl
  refine ⟨?_, TB, List.mem_map.mpr ⟨_, hp, rfl⟩, fun q hq e => ?_⟩
  · show Value.ref cc = .ref (He.codeOf K p)
    rw [e1]
  · obtain ⟨r, hr, rfl⟩ := List.mem_map.mp hq
    have z := nodup_inj dis hr hp e
    rw [z]
/-! ### the end -/
theorem walk_gmT {l : PySem.W.OpenLaw} {n m k : Nat} {q : Program} {loose : List Str} {XP : (Str → Option Value) → Heap → Prop} {d : DefRec} {fa : List He.Fa} {fn : List He.DefD} {tq : Tq} {ex : PySem.W.Frag → Bool} {Fl : FnT} (hn : l.most = some n) (hn2 : n ≤ sizeLine) (hdf : d.params.defaults = []) (hr : Room k callerA)
    (facts : ∀ (w : World) (K : PySem.W.Frag) (h : Heap) (mg : Str → Option Value) (f : Addr), K.In h → h.Ns mainGlobals mg → mg d.name = some (.ref f) → SaysN fa fn tq ex h K →
      ∃ fd : FuncData, (∀ (s : Shared) (u : Value), BindsTo s fd ⟨[u], []⟩ [("script", u)]) ∧ ∀ base : Heap, (∀ p ∈ tq, LamX.TabB base mg (He.cT K p.1).1 (He.cT K p.1).2) → FnOk l.prog w K mg base (L2N.CX l.prog w) k f fd ["script"] (spOf (cfT K (tabsOf K tq)) Fl))
    (law : ∀ ns : List Int, ns.length ≤ n → ∃ h', Fl [.fro (ns.map .int)] [] = .ok (.bl true) h') : PySem.W.WalkO q loose XP (hookN m fa fn tq ex).says l.row.toRowW d [] (fun f vs => PySem.call f vs) := by
  refine LamX.walk_ofTsE (CX := fun w => L2N.CX l.prog w) (x := "script") (k := k) hn hn2 hdf hr (fun w mg f h ⟨K, KX, c⟩ G hm => ⟨K, KX, ?_⟩) fun w H s e s' ⟨_, _, _, _, _, _, _, _, _, _, _, _, z⟩ => z
  obtain ⟨fd, hb, hF⟩ := facts w K h mg f KX G hm c
  have mem : ∀ p ∈ tq.map fun p => He.cT K p.1, ∃ r ∈ tq, p = He.cT K r.1 := fun p hp => by
    obtain ⟨r, hr, e⟩ := List.mem_map.mp hp
    exact ⟨r, hr, e.symm⟩
  refine ⟨fd, tq.map fun p => He.cT K p.1, _, fun p hp => ?_, fun p hp => ?_, fun p hp => ?_, hb, fun H a ns hlen hbits hT hS => ?_, fun base hKb hns TB => hF base fun p hp => TB _ (List.mem_map.mpr ⟨p, hp, rfl⟩)⟩
  · obtain ⟨r, hr, rfl⟩ := mem p hp
    exact c.empty r hr
  · obtain ⟨r, hr, rfl⟩ := mem p hp
    exact c.out r hr
  · obtain ⟨r, hr, rfl⟩ := mem p hp
    exact PySem.W.codeHd_of_K KX (c.hd r hr)
  · refine ⟨[.fro (ns.map .int)], [], ⟨fun _ => 0, noT H⟩, SR.begin (fun p hp => ?_), .cons (.fro (noT_sqL hS) (fro_ints ns)) .nil, ?_⟩
    · obtain ⟨r, hr, rfl⟩ := List.mem_map.mp hp
      exact LamX.TabS.nil (hT _ (List.mem_map.mpr ⟨r, hr, rfl⟩))
    · obtain ⟨h', e⟩ := law ns hlen
      rw [e]
      intro g' H' v _ _ r
      cases r
      rfl
end Gm

/-! Gm25: text.split(sep); fields of the handled exception. -/
namespace Gm
open PySem PySem.Spec PyProof.Rows L2
section
variable {c : Cf} {W : WX} {X : Cx}
theorem rvs_strs {g : Gh} {L : Nat} : ∀ ys : List Str, RVs c g L (ys.map D.str) (ys.map V.str)
  | [] => .nil
  | y :: ys => .cons (.str y) (rvs_strs ys)
def mSplit (m : Bool) : MethT := fun d ds h => match d, ds with
  | .str a, [.str b] => if (b.length == 0) = false ∧ a.length + 2 ≤ sizeLine then alloc m ((Txt.split a b).map D.str) h else .no
  | _, _ => .no
theorem mSplit_ok {m : Bool} : MROk c (fun x xs H Q => ∃ a b, x = .str a ∧ xs = [.str b] ∧ (b.length == 0) = false ∧ a.length + 2 ≤ sizeLine ∧ rNewStrs (Txt.split a b) H Q) (mSplit m) := by
  intro g h H d v ds vs Q E S rv rs q
  unfold mSplit at q
  split at q
  · rename_i a b
    cases rv
    cases rs with
    | cons r rr =>
      cases rr
      cases r
      by_cases hc : (b.length == 0) = false ∧ a.length + 2 ≤ sizeLine
      · rw [if_pos hc] at q
        exact ⟨a, b, rfl, rfl, hc.1, hc.2, alloc_ok S (rvs_strs _) q⟩
      · rw [if_neg hc] at q
        exact q.elim
  · exact q.elim
/-- the classes whose instances' field f is their own -/
def xfOk (K : PySem.W.Frag) (ns : List Str) (f : Str) : Bool := ns.all fun n => xfB K (He.ga K n) && decide (PySem.W.findIn K (.ref (He.ga K n)) f = some none)
def cXf (ns : List Str) (f : Str) (fe : Ev D) : Ev D := fun st h => (fe st h).bind fun d h1 => match d with
  | .exn n fs => if n ∈ ns then match fs.lookup f with
    | some x => .ok x h1
    | none => .no
    else .no
  | _ => .no
theorem rfs_lookup {g : Gh} {L : Nat} {f : Str} : ∀ {fs : List (Str × D)} {vs : List (Str × V)} {d : D}, RFs c g L fs vs → fs.lookup f = some d → ∃ v, vs.lookup f = some v ∧ RV c g L d v
  | _, _, _, .nil, e => by cases e
  | _, _, d, .cons (k := k) h r, e => by
    rw [List.lookup_cons] at e ⊢
    cases q : (f == k) with
    | true =>
      rw [q] at e
      cases e
      exact ⟨_, rfl, h⟩
    | false =>
      rw [q] at e
      exact rfs_lookup r e
theorem e_xf {ns : List Str} {f : Str} {e : Expr} {fe : Ev D} {pos : Pos} (hcl : ∀ n, c.cl n = some (He.ga X.K n)) (ht : HotE c X) (hf : xfOk X.K ns f = true) (he : PE X e (tEv c W fe)) (hb : attributeBase e f X.env (eval e X.env) = eval e X.env := by rfl) :
    PE X (.Attribute e f pos) (tEv c W (cXf ns f fe)) := by
  refine ⟨fun pins s σ H Q I ⟨st, h, g, S, sl, q⟩ => ?_⟩
  refine attr_of hb (thn (he.run pins s σ H _ I ⟨st, h, g, S, sl, RP.bind q⟩) fun u s1 ⟨x, H1, I1, rx, d, h1, g1, o1, S1, r1, q1⟩ => ?_)
  cases r1 with
  | @exn1 n fs a dd fvs ex hd rf =>
    dsimp only at q1
    by_cases hn : n ∈ ns
    case neg => rw [if_neg hn] at q1; exact q1.elim
    rw [if_pos hn] at q1
    cases l : fs.lookup f with
    | none => rw [l] at q1; exact q1.elim
    | some y =>
      rw [l] at q1
      obtain ⟨v, lv, rv⟩ := rfs_lookup rf l
      obtain rfl : u = Value.ref a := rx
      have z := List.all_eq_true.mp hf n hn
      rw [Bool.and_eq_true] at z
      have T := xfB_ok z.1
      have hno : PySem.W.findIn X.K (.ref (He.ga X.K n)) f = some none := of_decide_eq_true z.2
      obtain ⟨mA, hns, hr⟩ := (show ObjOk X.prog X.w H1 s1.heap dd (.xd fvs) from I1.hok dd _ (S1.sub _ _ hd))
      obtain ⟨od, ho, hl⟩ := lookIn_ns hns
      obtain ⟨u, hu, ru⟩ := RelO.some_of (v := v) (o := mA f) (by rw [← lv]; exact hr f)
      obtain ⟨p, hp, ⟨⟨n', dd', C, e', hC, hz⟩, vs, hv⟩, _⟩ := ht
      rw [ex] at e'
      cases e'
      rw [hcl] at hC
      cases hC
      obtain ⟨hget, _⟩ := I1.pin p (List.mem_append_left _ hp)
      have J : PySem.W.InstAt s1.heap p.1 p.2 (He.ga X.K n) (some od) := ⟨hget, hz.1, by unfold PySem.W.notCls; rw [hv] <;> rfl, by rw [hz.2.1]; exact ho⟩
      exact HandSPX.exc_get I1.kIn J T.ga T.gg T.exC (PySem.W.findObj_own T.hdC hno rfl (by rw [hl, hu])) (handed_of ru) ⟨v, H1, I1.tok _, ru, RP.ok_here q1 S1 rv⟩
  | @exn0 n a ex =>
    dsimp only at q1
    split at q1
    · rw [show ([] : List (Str × D)).lookup f = none from rfl] at q1
      exact q1.elim
    · exact q1.elim
  | _ => exact q1.elim
end
end Gm
namespace Gm
open PySem PySem.Spec PyProof.Rows L2
theorem roomH_suite {k : Nat} {X : Cx} {a : Addr} {pn : List (Addr × Obj)} (hr : Room k X.A) : L2H.RoomH k (X.suite a pn).A := ⟨hr.dp, hr.un⟩
end Gm

/-! Gm26: zip of lists or of tuples. -/
namespace Gm
open PySem PySem.Spec PyProof.Rows L2
section
variable {c : Cf} {W : WX} {X : Cx} {e : Expr}
theorem itzT_ok {a b : Addr} {l k : List D} {vs ws : List V} {g0 : Gh} {L0 : Nat} (hq : SqT c.K g0.tr a vs) (rs : RVs c g0 L0 l vs) (hq2 : SqT c.K g0.tr b ws) (rs2 : RVs c g0 L0 k ws) : ItOk c (RZ.ItzT c.K a b) (zipD l k) g0 L0 := fun g h H i S gx hL => by
  have q : SqT c.K H a vs := SqT.sub S.sub (SqT.sub gx.tr hq)
  have q2 : SqT c.K H b ws := SqT.sub S.sub (SqT.sub gx.tr hq2)
  refine ⟨fun hi => ⟨vs, ws, q, q2, ?_⟩, fun d hd => ?_⟩
  · rw [zipD_len] at hi
    rw [← rs.length, ← rs2.length]
    omega
  · obtain ⟨d1, d2, e1, e2, rfl⟩ := zipD_get hd
    obtain ⟨y1, f1, r1⟩ := rs.get e1
    obtain ⟨y2, f2, r2⟩ := rs2.get e2
    refine ⟨⟨vs, ws, y1, y2, q, q2, f1, f2⟩, fun x H' ⟨T, x1, x2, ev, nT, eH, hx1, hx2⟩ => ?_⟩
    have z1 := hx1 vs q
    have z2 := hx2 ws q2
    rw [f1] at z1
    rw [f2] at z2
    cases z1
    cases z2
    subst ev eH
    obtain ⟨S2, o2⟩ := S.tree (o := .tup [y1, y2]) nT
    exact ⟨_, o2, S2, .tup (.inl (.inl upd_same)) (.cons (r1.mono (gx.trans o2.gx hL) hL) (.cons (r2.mono (gx.trans o2.gx hL) hL) .nil))⟩
/-- two lists, or two tuples, side by side -/
def zipOf : D → D → Option (List D)
  | .tup l, .tup k => some (zipD l k)
  | d, d' => match asI d, asI d' with
    | some l, some k => some (zipD l k)
    | _, _ => none
def iZipAD (fs : Ev (List D)) : Ev (List D) := fun st h => (fs st h).bind fun ds h1 => match ds with
  | [d, d'] => match zipOf d d' with
    | some l => .ok l h1
    | none => .no
  | _ => .no
theorem i_zipA {fs : Ev (List D)} {e2 : Expr} {p pos tpos : Pos} {elts : List Expr} {kk : Nat} (hK : c.K = X.K) (P : ∀ {ta : TA}, PA X [e, e2] ta → PI X (.Tuple elts kk tpos) (.Call (.Name "zip" p) [e, e2] [] pos) (RZ.iZipA X.K ta)) (ha : PA X [e, e2] (tAr c W fs)) : PI X (.Tuple elts kk tpos) (.Call (.Name "zip" p) [e, e2] [] pos) (tIt c W (iZipAD fs)) :=
  PI.imp (P ha) fun σ H R ⟨st, h, g, S, sl, q⟩ => by
    refine ⟨st, h, g, S, sl, RP.mono (RP.bind q) fun vs H1 ⟨ds, h1, g1, o1, S1, r1, q1⟩ => ?_⟩
    split at q1
    · rename_i d d'
      split at q1
      · rename_i l el
        cases r1 with
        | cons r rr =>
          cases rr with
          | cons r' rr =>
            cases rr
            rw [← hK]
            unfold zipOf at el
            split at el
            · cases r with
              | tup hq rs =>
                cases r' with
                | tup hq2 rs2 =>
                  cases el
                  exact ⟨_, _, _, _, rfl, .inr ⟨SqT.sub S1.sub hq, SqT.sub S1.sub hq2, RP.ok_here q1 S1 (itzT_ok hq rs hq2 rs2)⟩⟩
            · split at el
              · rename_i l k el1 el2
                cases el
                obtain ⟨a, vs, rfl, hq, rs⟩ := asI_ok r el1
                obtain ⟨b, ws, rfl, hq2, rs2⟩ := asI_ok r' el2
                exact ⟨a, b, vs, ws, rfl, .inl ⟨SqL.sub S1.sub hq, SqL.sub S1.sub hq2, RP.ok_here q1 S1 (itz_ok hq rs hq2 rs2)⟩⟩
              · cases el
      · exact q1.elim
    · exact q1.elim
end
end Gm

/-! GmN: numbers as rows of bits. -/
namespace Gm
open PySem
theorem bits_ext {a b : Nat} (h : ∀ i, a.testBit i = b.testBit i) : a = b := Nat.eq_of_testBit_eq h
theorem add_or {a b : Nat} (h : a &&& b = 0) : a + b = a ||| b := by
  have hw : a + b < 2 ^ (a + b + 1) := Nat.lt_of_lt_of_le Nat.lt_two_pow_self (Nat.pow_le_pow_right (by decide) (by omega))
  have ha : a < 2 ^ (a + b + 1) := by omega
  have hb : b < 2 ^ (a + b + 1) := by omega
  have e : (BitVec.ofNat (a + b + 1) a) &&& (BitVec.ofNat (a + b + 1) b) = 0#(a + b + 1) := by
    apply BitVec.eq_of_toNat_eq
    simp [Nat.mod_eq_of_lt ha, Nat.mod_eq_of_lt hb, h]
  have z := congrArg BitVec.toNat (BitVec.add_eq_or_of_and_eq_zero _ _ e)
  simpa [Nat.mod_eq_of_lt ha, Nat.mod_eq_of_lt hb, Nat.mod_eq_of_lt hw] using z
theorem add_bit {x k : Nat} (h : x.testBit k = false) : x + 2 ^ k = x ^^^ 2 ^ k := by
  rw [add_or]
  · apply bits_ext
    intro i
    simp only [Nat.testBit_or, Nat.testBit_xor, Nat.testBit_two_pow]
    by_cases e : k = i
    · subst e; simp [h]
    · simp [e]
  · apply bits_ext
    intro i
    simp only [Nat.testBit_and, Nat.testBit_two_pow, Nat.zero_testBit]
    by_cases e : k = i
    · subst e; simp [h]
    · simp [e]
theorem sub_bit {x k : Nat} (h : x.testBit k = true) : 2 ^ k ≤ x ∧ x - 2 ^ k = x ^^^ 2 ^ k := by
  have hy : (x ^^^ 2 ^ k).testBit k = false := by simp [Nat.testBit_xor, Nat.testBit_two_pow, h]
  have e := add_bit hy
  rw [Nat.xor_assoc, Nat.xor_self, Nat.xor_zero] at e
  omega
theorem flip_bit (x k i : Nat) : (x ^^^ 2 ^ k).testBit i = (x.testBit i ^^ decide (k = i)) := by rw [Nat.testBit_xor, Nat.testBit_two_pow]
theorem flip_2 (x k : Nat) : x ^^^ 2 ^ k ^^^ 2 ^ k = x := by rw [Nat.xor_assoc, Nat.xor_self, Nat.xor_zero]
/-- the number whose bits below n are f -/
def ofB (f : Nat → Bool) : Nat → Nat
  | 0 => 0
  | n + 1 => ofB f n + if f n = true then 2 ^ n else 0
theorem ofB_lt (f : Nat → Bool) : ∀ n, ofB f n < 2 ^ n
  | 0 => by simp [ofB]
  | n + 1 => by
    have := ofB_lt f n
    rw [Nat.pow_succ]
    unfold ofB
    split <;> omega
theorem ofB_bit (f : Nat → Bool) : ∀ n i, (ofB f n).testBit i = (decide (i < n) && f i)
  | 0, i => by simp [ofB]
  | n + 1, i => by
    have hl := ofB_lt f n
    have ih := ofB_bit f n
    unfold ofB
    by_cases hf : f n = true
    · rw [if_pos hf, add_bit (Nat.testBit_lt_two_pow hl), flip_bit, ih]
      by_cases e : n = i
      · subst e; simp [hf]
      · have : (i < n + 1) = (i < n) := by apply propext; omega
        simp [e, this]
    · rw [if_neg hf, Nat.add_zero, ih]
      by_cases e : n = i
      · subst e; simp [hf]
      · have : (i < n + 1) = (i < n) := by apply propext; omega
        simp [this]
theorem ofB_self {x n : Nat} (h : x < 2 ^ n) : ofB x.testBit n = x := by
  apply bits_ext
  intro i
  rw [ofB_bit]
  by_cases hi : i < n
  · simp [hi]
  · rw [Nat.testBit_lt_two_pow (Nat.lt_of_lt_of_le h (Nat.pow_le_pow_right (by decide) (Nat.le_of_not_lt hi)))]
    simp
theorem ofB_congr {f g : Nat → Bool} {n : Nat} (h : ∀ i, i < n → f i = g i) : ofB f n = ofB g n := by
  apply bits_ext
  intro i
  rw [ofB_bit, ofB_bit]
  by_cases hi : i < n
  · rw [h i hi]
  · simp [hi]
theorem high_bit {x n i : Nat} (h : x < 2 ^ n) (hi : n ≤ i) : x.testBit i = false := Nat.testBit_lt_two_pow (Nat.lt_of_lt_of_le h (Nat.pow_le_pow_right (by decide) hi))
/-! ### the int operators on numbers that are not negative -/
theorem band_n (a b : Nat) : Builtin.bitAnd (a : Int) (b : Int) = ((a &&& b : Nat) : Int) := by unfold Builtin.bitAnd; simp
theorem bor_n (a b : Nat) : Builtin.bitOr (a : Int) (b : Int) = ((a ||| b : Nat) : Int) := by
  rw [L2.bitOr_nn (Int.natCast_nonneg a) (Int.natCast_nonneg b)]
  rfl
theorem bxor_n (a b : Nat) : Builtin.bitXor (a : Int) (b : Int) = ((a ^^^ b : Nat) : Int) := by
  unfold Builtin.bitXor
  rw [bor_n, band_n]
  have e : (a ^^^ b) + (a &&& b) = a ||| b := by
    rw [add_or]
    · apply bits_ext
      intro i
      simp only [Nat.testBit_or, Nat.testBit_xor, Nat.testBit_and]
      cases a.testBit i <;> cases b.testBit i <;> rfl
    · apply bits_ext
      intro i
      simp only [Nat.testBit_xor, Nat.testBit_and, Nat.zero_testBit]
      cases a.testBit i <;> cases b.testBit i <;> rfl
  omega
theorem shl_n (a b : Nat) : (a : Int) * 2 ^ ((b : Int).toNat) = ((a <<< b : Nat) : Int) := by
  rw [Nat.shiftLeft_eq, Int.toNat_natCast]
  push_cast
  rfl
theorem shr_n (a b : Nat) : (a : Int) / 2 ^ ((b : Int).toNat) = ((a >>> b : Nat) : Int) := by
  rw [Nat.shiftRight_eq_div_pow, Int.toNat_natCast]
  push_cast
  rfl
theorem one_shl (b : Nat) : (1 : Nat) <<< b = 2 ^ b := by rw [Nat.shiftLeft_eq, Nat.one_mul]
theorem bits_le {i : Int} {k : Nat} (h : i.natAbs < 2 ^ k) : Builtin.Int.intBits i ≤ k := by
  unfold Builtin.Int.intBits
  split
  · omega
  · rename_i hz
    have hz : i ≠ 0 := by simpa using hz
    have := (Nat.log2_lt (by omega)).mpr h
    omega
theorem gShl_of {a b : Nat} {k : Nat} (h : a < 2 ^ k) (hk : k + b ≤ 134217728) : gShl (a : Int) (b : Int) = true := by
  have := bits_le (i := (a : Int)) (k := k) (by simpa using h)
  unfold gShl
  rw [Bool.and_eq_true, decide_eq_true_eq]
  exact ⟨Int.natCast_nonneg b, Nat.ble_eq_true_of_le (by rw [Int.toNat_natCast]; omega)⟩
theorem gShr_of (i : Int) (b : Nat) : gShr i (b : Int) = true := by unfold gShr; simp
theorem gMul_of {i j : Int} {k m : Nat} (h : i.natAbs < 2 ^ k) (h2 : j.natAbs < 2 ^ m) (hk : k + m ≤ 134217728) : gMul i j = true := by
  have := bits_le h
  have := bits_le h2
  exact Nat.ble_eq_true_of_le (by omega)
theorem gMod_of {i j : Int} (h : 0 < j) : gMod i j = true := by unfold gMod; simpa using h
theorem gDiv_of {i j : Int} {k : Nat} (h : 0 < j) (h2 : j.natAbs < 2 ^ k) (hk : k ≤ 9000) : gDiv i j = true := by
  unfold gDiv
  have := (Nat.log2_lt (n := j.natAbs) (by omega)).mpr h2
  simp only [Bool.and_eq_true, decide_eq_true_eq]
  omega
end Gm

/-! GmP: how the functions compute. -/
namespace Gm
open PySem PySem.Spec PyProof.Rows
section
variable {st : Slots} {h : Store} {α β : Type}
@[simp] theorem ev_var (i : Nat) : cVar i st h = match st[i]? with
  | some (some d) => .ok d h
  | _ => .no := rfl
@[simp] theorem ev_k (d : D) : cK d st h = .ok d h := rfl
@[simp] theorem ev_nil : cNil st h = .ok [] h := rfl
@[simp] theorem ev_cons (f : Ev D) (g : Ev (List D)) : cCons f g st h = (f st h).bind fun d h1 => (g st h1).bind fun ds h2 => .ok (d :: ds) h2 := rfl
@[simp] theorem ev_bin (o : D → D → Store → Res D) (f g : Ev D) : cBin o f g st h = (f st h).bind fun a h1 => (g st h1).bind fun b h2 => o a b h2 := rfl
@[simp] theorem ev_iop {ck : Int → Int → Bool} {f : Int → Int → Int} {i j : Int} (c : ck i j = true) : iop ck f (.int i) (.int j) h = .ok (.int (f i j)) h := if_pos c
@[simp] theorem ev_bop (f : Int → Int → Bool) (i j : Int) : bop f (.int i) (.int j) h = .ok (.bl (f i j)) h := rfl
@[simp] theorem ev_call (F : FnT) (ds : List D) (f : Ev (List D)) : cCall F ds f st h = (f st h).bind fun xs h1 => F (xs ++ ds) h1 := rfl
@[simp] theorem ev_callK (F : FnT) (n m : Nat) (g : List D → List D → List D) (f k : Ev (List D)) : cCallK F n m g f k st h = (f st h).bind fun ds h1 => (k st h1).bind fun es h2 => if ds.length = n ∧ es.length = m then F (g ds es) h2 else .no := rfl
@[simp] theorem ev_tv (f : Ev D) : cTv f st h = (f st h).bind fun d h1 => match d with
  | .bl b => .ok b h1
  | _ => .no := rfl
@[simp] theorem ev_tnot (f : Ev Bool) : cTnot f st h = (f st h).bind fun b h1 => .ok (!b) h1 := rfl
@[simp] theorem ev_tand (f k : Ev Bool) : cTand f k st h = (f st h).bind fun b h1 => if b = true then k st h1 else .ok false h1 := rfl
@[simp] theorem ev_tor (f k : Ev Bool) : cTor f k st h = (f st h).bind fun b h1 => if b = true then .ok true h1 else k st h1 := rfl
@[simp] theorem ev_chain (o o' : D → D → Store → Res D) (f g k : Ev D) : cChain o o' f g k st h = (f st h).bind fun a h1 => (g st h1).bind fun b h2 => (o a b h2).bind fun z h3 => match z with
  | .bl true => (k st h3).bind fun d h4 => o' b d h4
  | .bl false => .ok (.bl false) h3
  | _ => .no := rfl
@[simp] theorem ev_lst (fs : Ev (List D)) : cLst false fs st h = (fs st h).bind fun ds h1 => if ds.length ≤ sizeLine then .ok (.lst ds) h1 else .no := rfl
@[simp] theorem ev_lstM (fs : Ev (List D)) : cLst true fs st h = (fs st h).bind fun ds h1 => if ds.length ≤ sizeLine then .ok (.ref h1.length) (h1 ++ [some (.lst ds)]) else .no := rfl
@[simp] theorem ev_tup (fs : Ev (List D)) : cTup fs st h = (fs st h).bind fun ds h1 => if ds.length ≤ sizeLine then .ok (.tup ds) h1 else .no := rfl
@[simp] theorem ev_cB (F : CallT) (f : Ev (List D)) : cB F f st h = (f st h).bind F := rfl
@[simp] theorem ev_seq (f k : Ss) : sSeq f k st h = (f st h).seq k := rfl
@[simp] theorem seq_next (k : Ss) : (Out.next st h).seq k = k st h := rfl
@[simp] theorem seq_ret (d : D) (k : Ss) : (Out.ret d h).seq k = .ret d h := rfl
@[simp] theorem ev_sNil : sNil st h = .next st h := rfl
@[simp] theorem ev_expr (f : Ev D) : sExpr f st h = (f st h).out st fun _ h1 => .next st h1 := rfl
@[simp] theorem ev_ret (f : Ev D) : sRet f st h = (f st h).out st fun d h1 => .ret d h1 := rfl
@[simp] theorem ev_if (t : Ev Bool) (f k : Ss) : sIf t f k st h = (t st h).out st fun b h1 => if b = true then f st h1 else k st h1 := rfl
@[simp] theorem ev_set (i : Nat) (f : Ev D) : sSet i f st h = (f st h).out st fun d h1 => .next (st.set i (some d)) h1 := rfl
@[simp] theorem ev_aug (i : Nat) (o : D → D → Store → Res D) (f : Ev D) : sAug i o f st h = match st[i]? with
  | some (some x) => (f st h).out st fun y h1 => (o x y h1).out st fun z h2 => .next (st.set i (some z)) h2
  | _ => .no := rfl
@[simp] theorem ev_asg (f : Ev D) (g : Tg) : sAsg f g st h = (f st h).out st fun d h1 => match g d st h1 with
  | some (st', h') => .next st' h'
  | none => .no := rfl
@[simp] theorem ev_gtName (i : Nat) (d : D) : gtName i d st h = some (st.set i (some d), h) := rfl
@[simp] theorem ev_gtTup (n : Nat) (k : Tgs) (ds : List D) : gtTup n k (.tup ds) st h = if ds.length = n then k ds st h else none := rfl
@[simp] theorem ev_gtCons (f : Tg) (k : Tgs) (d : D) (r : List D) : gtCons f k (d :: r) st h = match f d st h with
  | some (st', h') => k r st' h'
  | none => none := rfl
@[simp] theorem ev_gtNil : gtNil [] st h = some (st, h) := rfl
@[simp] theorem ev_for (f : Ev (List D)) (g : Tg) (b : Ss) : sFor f g b st h = (f st h).out st fun l h1 => forL g b l st h1 := rfl
@[simp] theorem res_next : (Out.next st h).res = .ok .non h := rfl
@[simp] theorem res_ret (d : D) : (Out.ret d h).res = .ok d h := rfl
@[simp] theorem ev_lc (m : Bool) (fi : Ev (List D)) (fg : D → Slots → Option Slots) (ft : Ev Bool) (fe : Ev D) (own : List Nat) : cLc m fi fg ft fe own st h =
  (fi st h).bind fun l h1 => if l.length ≤ sizeLine then (lcL fg ft fe (wipeD st own) l h1).bind fun ys h2 => alloc m ys h2 else .no := rfl
@[simp] theorem ev_yes : cYes st h = .ok true h := rfl
@[simp] theorem ev_wipe0 : wipeD st [] = st := rfl
@[simp] theorem ev_wipe1 (v : Nat) (vs : List Nat) : wipeD st (v :: vs) = (wipeD st vs).set v none := rfl
@[simp] theorem ev_fName (i : Nat) (d : D) : fName i d st = some (st.set i (some d)) := rfl
@[simp] theorem ev_alloc (l : List D) : alloc false l h = .ok (.lst l) h := rfl
@[simp] theorem ev_allocM (l : List D) : alloc true l h = .ok (.ref h.length) (h ++ [some (.lst l)]) := rfl
end
theorem start_of {n k : Nat} {ds : List D} {fb : Ss} {h h' : Store} {d : D} (hk : ds.length = k) (e : (fb (startD n ds) h).res = .ok d h') (hl : h'.length = h.length) : fnOf n k fb ds h = .ok d h' := by
  unfold fnOf
  rw [if_pos hk, e]
  unfold cleanD clean
  dsimp only
  rw [← hl, List.take_length]
  split <;> rfl
/-- a def that leaves no more cells than it found -/
theorem fn_eq {n k : Nat} {ds : List D} {fb : Ss} {h h' : Store} {d : D} (st : Slots) (hk : ds.length = k) (hs : startD n ds = st) (e : (fb st h).res = .ok d h') (hl : h'.length = h.length) : fnOf n k fb ds h = .ok d h' := start_of hk (by rw [hs]; exact e) hl
/-! ### loops -/
theorem forL_inv {fg : Tg} {fb : Ss} (I : Nat → Slots → Store → Prop) : ∀ (l : List D) (k : Nat) (st : Slots) (h : Store),
    (∀ i d st h, l[i]? = some d → I (k + i) st h → ∃ st1 h1 st2 h2, fg d st h = some (st1, h1) ∧ fb st1 h1 = .next st2 h2 ∧ I (k + i + 1) st2 h2) → I k st h → ∃ st' h', forL fg fb l st h = .next st' h' ∧ I (k + l.length) st' h'
  | [], k, st, h, _, i0 => ⟨st, h, rfl, i0⟩
  | d :: l, k, st, h, step, i0 => by
    obtain ⟨st1, h1, st2, h2, e1, e2, i1⟩ := step 0 d st h rfl i0
    obtain ⟨st', h', e3, i2⟩ := forL_inv I l (k + 1) st2 h2 (fun i d st h hd hi => by
      have e : k + 1 + i = k + (i + 1) := by omega
      rw [e] at hi ⊢
      exact step (i + 1) d st h (by simpa using hd) hi) i1
    refine ⟨st', h', ?_, by rw [List.length_cons]; rw [show k + (l.length + 1) = k + 1 + l.length by omega]; exact i2⟩
    unfold forL
    rw [e1]
    dsimp only
    rw [e2]
    exact e3
theorem lcL_all {fg : D → Slots → Option Slots} {ft : Ev Bool} {fe : Ev D} {st0 : Slots} (J : Nat → Store → Prop) (P : Nat → D → Prop) : ∀ (l : List D) (k : Nat) (h : Store),
    (∀ i d h, l[i]? = some d → J (k + i) h → ∃ st1 h1 y h2, fg d st0 = some st1 ∧ ft st1 h = .ok true h1 ∧ fe st1 h1 = .ok y h2 ∧ P (k + i) y ∧ J (k + i + 1) h2) → J k h →
    ∃ ys h', lcL fg ft fe st0 l h = .ok ys h' ∧ ys.length = l.length ∧ (∀ i y, ys[i]? = some y → P (k + i) y) ∧ J (k + l.length) h'
  | [], k, h, _, j0 => ⟨[], h, rfl, rfl, fun i y e => by simp at e, j0⟩
  | d :: l, k, h, step, j0 => by
    obtain ⟨st1, h1, y, h2, e1, e2, e3, p0, j1⟩ := step 0 d h rfl j0
    obtain ⟨ys, h', e4, hl, hp, j2⟩ := lcL_all J P l (k + 1) h2 (fun i d h hd hi => by
      have e : k + 1 + i = k + (i + 1) := by omega
      rw [e] at hi ⊢
      exact step (i + 1) d h (by simpa using hd) hi) j1
    refine ⟨y :: ys, h', ?_, by simp [hl], fun i z ez => ?_, by rw [List.length_cons]; rw [show k + (l.length + 1) = k + 1 + l.length by omega]; exact j2⟩
    · unfold lcL
      rw [e1]
      dsimp only
      rw [e2]
      simp [e3, e4]
    · cases i with
      | zero =>
        have ez : y = z := by simpa using ez
        subst ez
        exact p0
      | succ i => 
        have := hp i z (by simpa using ez)
        rw [show k + (i + 1) = k + 1 + i by omega]
        exact this
theorem lcL_pure {fg : D → Slots → Option Slots} {ft : Ev Bool} {fe : Ev D} {st0 : Slots} {h : Store} {p : D → Bool} {q : D → D} : ∀ (l : List D), (∀ d ∈ l, ∃ st1, fg d st0 = some st1 ∧ ft st1 h = .ok (p d) h ∧ (p d = true → fe st1 h = .ok (q d) h)) →
    lcL fg ft fe st0 l h = .ok ((l.filter p).map q) h
  | [], _ => rfl
  | d :: l, H => by
    obtain ⟨st1, e1, e2, e3⟩ := H d (by simp)
    have ih := lcL_pure l fun x hx => H x (by simp [hx])
    unfold lcL
    rw [e1]
    dsimp only
    rw [e2]
    by_cases hp : p d = true
    · simp [hp, e3 hp, ih, List.filter_cons]
    · simp [hp, ih, List.filter_cons]
theorem whileL_run {ft : Ev Bool} {fb : Ss} (I : Nat → Slots → Store → Prop) (k : Nat) (step : ∀ i st h, i < k → I i st h → ft st h = .ok true h ∧ ∃ st2 h2, fb st h = .next st2 h2 ∧ I (i + 1) st2 h2) (stop : ∀ st h, I k st h → ft st h = .ok false h) :
    ∀ (j fuel i : Nat) (st : Slots) (h : Store), i + j = k → j < fuel → I i st h → ∃ st' h', whileL ft fb fuel st h = .next st' h' ∧ I k st' h'
  | 0, 0, i, st, h, _, hf, i0 => absurd hf (by omega)
  | 0, f + 1, i, st, h, e, _, i0 => by
    have : i = k := by omega
    subst this
    exact ⟨st, h, by unfold whileL; rw [stop st h i0]; simp, i0⟩
  | j + 1, 0, i, st, h, _, hf, i0 => absurd hf (by omega)
  | j + 1, f + 1, i, st, h, e, hf, i0 => by
    obtain ⟨e1, st2, h2, e2, i1⟩ := step i st h (by omega) i0
    obtain ⟨st', h', e3, i2⟩ := whileL_run I k step stop j f (i + 1) st2 h2 (by omega) (by omega) i1
    refine ⟨st', h', ?_, i2⟩
    unfold whileL
    rw [e1]
    simp [e2, e3]
/-! ### what is walked -/
theorem upInts01 (n : Nat) : upInts 0 1 n = (List.range n).map fun (i : Nat) => D.int (i : Int) := by
  unfold upInts
  apply List.map_congr_left
  intro i _
  simp
theorem g62_n {n : Nat} (hn : n ≤ 1000000) : g62 (n : Int) = true := Nat.ble_eq_true_of_le (by rw [Int.natAbs_natCast]; exact Nat.le_trans hn (by decide))
theorem ev_range1 {fs : Ev (List D)} {st : Slots} {h h1 : Store} {n : Nat} (e : fs st h = .ok [.int (n : Int)] h1) (hn : n ≤ 1000000) : iRange1 fs st h = .ok ((List.range n).map fun (i : Nat) => D.int (i : Int)) h1 := by
  have g := g62_n hn
  unfold iRange1
  rw [e, Res.bind_ok]
  dsimp only
  rw [if_pos g, Int.toNat_natCast, upInts01]
theorem intsOf_map (l : List Int) : intsOf (l.map D.int) = some l := by
  induction l with
  | nil => rfl
  | cons a l ih => simp [intsOf, ih]
end Gm
namespace Gm
open PySem PySem.Spec PyProof.Rows
theorem lcL_map {α : Type} {fg : D → Slots → Option Slots} {ft : Ev Bool} {fe : Ev D} {st0 : Slots} {h : Store} {f : α → D} {p : α → Bool} {q : α → D} : ∀ (l : List α), (∀ x ∈ l, ∃ st1, fg (f x) st0 = some st1 ∧ ft st1 h = .ok (p x) h ∧ (p x = true → fe st1 h = .ok (q x) h)) →
    lcL fg ft fe st0 (l.map f) h = .ok ((l.filter p).map q) h
  | [], _ => rfl
  | d :: l, H => by
    obtain ⟨st1, e1, e2, e3⟩ := H d (by simp)
    have ih := lcL_map l fun x hx => H x (by simp [hx])
    rw [List.map_cons]
    unfold lcL
    rw [e1]
    dsimp only
    rw [e2]
    by_cases hp : p d = true
    · simp [hp, e3 hp, ih, List.filter_cons]
    · simp [hp, ih, List.filter_cons]
theorem lcL_all1 {α : Type} {fg : D → Slots → Option Slots} {ft : Ev Bool} {fe : Ev D} {st0 : Slots} {h : Store} {f : α → D} {q : α → D} (l : List α) (H : ∀ x ∈ l, ∃ st1, fg (f x) st0 = some st1 ∧ ft st1 h = .ok true h ∧ fe st1 h = .ok (q x) h) :
    lcL fg ft fe st0 (l.map f) h = .ok (l.map q) h := by
  have z := lcL_map (fg := fg) (ft := ft) (fe := fe) (st0 := st0) (h := h) (f := f) (p := fun _ => true) (q := q) l fun x hx => by
    obtain ⟨st1, e1, e2, e3⟩ := H x hx
    exact ⟨st1, e1, e2, fun _ => e3⟩
  rw [List.filter_eq_self.mpr fun _ _ => rfl] at z
  exact z
theorem oNe_int (i j : Int) (h : Store) : oNe (.int i) (.int j) h = .ok (.bl (!(i == j))) h := rfl
theorem oEq_int (i j : Int) (h : Store) : oEq (.int i) (.int j) h = .ok (.bl (i == j)) h := rfl
theorem oNe_bl (i j : Bool) (h : Store) : oNe (.bl i) (.bl j) h = .ok (.bl (!(i == j))) h := rfl
theorem small_line {n : Nat} (h : n ≤ 1000000) : n ≤ sizeLine := Nat.le_trans h (by decide)
theorem nat_beq (a b : Nat) : ((a : Int) == (b : Int)) = (a == b) := by
  rw [Bool.eq_iff_iff, beq_iff_eq, beq_iff_eq]
  omega
end Gm

/-! GmT: the script's box, as every law draws from it. -/
namespace Gm
open PySem PySem.Spec PyProof.Rows
def boxB : Ss :=
  (sSeq (sSet 1 (cK (.int 7919)))
  (sSeq (sFor (iSeqD (cSl false (cVar 0) cNoPart (cPart (cK (.int 63))))) (gtName 2) (sSet 1 (cBin oMod (cBin (oAdd false) (cBin (oAdd false) (cBin oMul (cVar 1) (cK (.int 48271))) (cBin oMod (cVar 2) (cK (.int 1000003)))) (cK (.int 11))) (cK (.int 2147483647)))))
  (sRet (cLst true (cCons (cB (fList false) (cCons (cSl false (cVar 0) cNoPart (cPart (cK (.int 63)))) cNil)) (cCons (cK (.int 0)) (cCons (cK (.int 0)) (cCons (cVar 1) cNil))))))))
def takeB : Ss :=
  (sSeq (sIf (cTv (cBin oGt (cBin oIx (cVar 0) (cK (.int 2))) (cK (.int 0)))) (sSeq (sSet 2 (cBin oIx (cVar 0) (cK (.int 2))))
  (sSeq (sPut (cBin oDiv (cVar 2) (cVar 1)) (cVar 0) (cK (.int 2)))
  (sRet (cBin oMod (cVar 2) (cVar 1)))))
  sNil)
  (sSeq (sSet 3 (cK (.int 0)))
  (sSeq (sIf (cTv (cBin oLt (cBin oIx (cVar 0) (cK (.int 1))) (cB fLen (cCons (cBin oIx (cVar 0) (cK (.int 0))) cNil)))) (sSet 3 (cBin oIx (cBin oIx (cVar 0) (cK (.int 0))) (cBin oIx (cVar 0) (cK (.int 1)))))
  sNil)
  (sSeq (sAugAt oAddI (cVar 0) (cK (.int 1)) (cK (.int 1)))
  (sSeq (sIf (cTv (cBin oGe (cVar 3) (cBin oPow (cK (.int 10)) (cK (.int 18))))) (sSeq (sPut (cBin oDiv (cVar 3) (cVar 1)) (cVar 0) (cK (.int 2)))
  (sRet (cBin oMod (cVar 3) (cVar 1))))
  sNil)
  (sSeq (sSet 4 (cBin oMod (cBin (oAdd false) (cBin (oAdd false) (cBin oIx (cVar 0) (cK (.int 3))) (cBin oMul (cBin oMod (cVar 3) (cK (.int 2147483629))) (cK (.int 69621)))) (cBin oMul (cBin oIx (cVar 0) (cK (.int 1))) (cK (.int 104729)))) (cK (.int 2147483587))))
  (sSeq (sSet 4 (cBin oMod (cBin (oAdd false) (cBin (oAdd false) (cBin oMul (cVar 4) (cVar 4)) (cBin oMul (cK (.int 40961)) (cVar 4))) (cK (.int 77))) (cK (.int 2147483629))))
  (sSeq (sPut (cBin oMod (cBin (oAdd false) (cBin (oAdd false) (cBin oMul (cVar 4) (cK (.int 16807))) (cBin oMod (cBin oIx (cVar 0) (cK (.int 3))) (cK (.int 8191)))) (cK (.int 5))) (cK (.int 2147483587))) (cVar 0) (cK (.int 3)))
  (sRet (cBin oMod (cBin oDiv (cBin oIx (cVar 0) (cK (.int 3))) (cK (.int 61))) (cVar 1)))))))))))
/-- the box: the script, how many were taken, a rest, a seed -/
abbrev box (l : List Int) (p : Nat) (r s : Int) : Option Cell := some (.lst [.lst (l.map D.int), .int (p : Int), .int r, .int s])
section
variable {l : List Int} {p : Nat} {r s : Int} {t : Store}
theorem bx0 : oIx (.ref 0) (.int 0) (box l p r s :: t) = .ok (.lst (l.map D.int)) (box l p r s :: t) := rfl
theorem bx1 : oIx (.ref 0) (.int 1) (box l p r s :: t) = .ok (.int (p : Int)) (box l p r s :: t) := rfl
theorem bx2 : oIx (.ref 0) (.int 2) (box l p r s :: t) = .ok (.int r) (box l p r s :: t) := rfl
theorem bx3 : oIx (.ref 0) (.int 3) (box l p r s :: t) = .ok (.int s) (box l p r s :: t) := rfl
theorem bp2 {x : Int} : putAt (.ref 0) (.int 2) (.int x) (box l p r s :: t) = some (box l p x s :: t) := rfl
theorem bp3 {x : Int} : putAt (.ref 0) (.int 3) (.int x) (box l p r s :: t) = some (box l p r x :: t) := rfl
theorem bp1 : putAt (.ref 0) (.int 1) (.int (p + 1)) (box l p r s :: t) = some (box l (p + 1) r s :: t) := rfl
theorem bg1 : getAt (.ref 0) (.int 1) (box l p r s :: t) = some (.int (p : Int)) := rfl
theorem len_ints {h : Store} : fLen [.lst (l.map D.int)] h = .ok (.int (l.length : Int)) h := by simp [fLen, asR]
theorem at_ints {h : Store} (hp : p < l.length) : oIx (.lst (l.map D.int)) (.int (p : Int)) h = .ok (.int l[p]) h := by
  have e : L2.ixN (l.map D.int).length (p : Int) = some p := by
    unfold L2.ixN
    rw [if_pos (Int.natCast_nonneg p), if_pos (by simpa using hp), Int.toNat_natCast]
  have e2 : L2.atI (l.map D.int) (p : Int) = some (.int l[p]) := by
    unfold L2.atI
    rw [e]
    simp [hp]
  show (match asR h (.lst (l.map D.int)) with
    | some l => match L2.atI l (p : Int) with
      | some d => Res.ok d h
      | none => .no
    | none => .no) = _
  simp only [asR, e2]
theorem ev_put {st : Slots} {h : Store} (fe fo fi : Ev D) : sPut fe fo fi st h = (fe st h).out st fun d h1 => (fo st h1).out st fun x h2 => (fi st h2).out st fun y h3 => match putAt x y d h3 with
  | some h' => .next st h'
  | none => .no := rfl
theorem ev_augAt {st : Slots} {h : Store} (fop : D → D → Store → Res D) (fo fi fe : Ev D) : sAugAt fop fo fi fe st h = (fo st h).out st fun x h1 => (fi st h1).out st fun y h2 => match getAt x y h2 with
  | some old => (fe st h2).out st fun d h4 => (fop old d h4).out st fun z h5 => match putAt x y z h5 with
    | some h' => .next st h'
    | none => .no
  | none => .no := rfl
theorem oAdd_int (m : Bool) (i j : Int) (h : Store) : oAdd m (.int i) (.int j) h = .ok (.int (i + j)) h := rfl
end
/-- what a draw answers -/
theorem take_ok (l : List Int) (p : Nat) (r s : Int) (t : Store) (m : Int) (hm : 0 < m) (hm2 : m.natAbs < 2 ^ 9000) (hp : p ≤ 1000000) (h0 : 0 ≤ s) (h1 : s < 2147483647) :
    ∃ v p' r' s', fnOf 5 2 takeB [.ref 0, .int m] (box l p r s :: t) = .ok (.int v) (box l p' r' s' :: t) ∧ 0 ≤ v ∧ v < m ∧ p' ≤ p + 1 ∧ 0 ≤ s' ∧ s' < 2147483647 := by
  have dm : ∀ i : Int, gDiv i m = true := fun i => gDiv_of hm hm2 (Nat.le_refl _)
  have mm : ∀ i : Int, gMod i m = true := fun i => gMod_of hm
  have m1 : ∀ i : Int, gMod i 2147483629 = true := fun i => gMod_of (by decide)
  have m2 : ∀ i : Int, gMod i 2147483587 = true := fun i => gMod_of (by decide)
  have m3 : ∀ i : Int, gMod i 8191 = true := fun i => gMod_of (by decide)
  have d1 : ∀ i : Int, gDiv i 61 = true := fun i => gDiv_of (k := 6) (by decide) (by decide) (by decide)
  have g10 : gPow 10 18 = true := by decide
  by_cases hr : 0 < r
  · refine ⟨r % m, p, r / m, s, ?_, Int.emod_nonneg _ (by omega), Int.emod_lt_of_pos _ hm, by omega, h0, h1⟩
    refine fn_eq [some (.ref 0), some (.int m), none, none, none] rfl rfl ?_ rfl
    simp only [takeB, ev_seq, ev_if, ev_tv, ev_bin, ev_var, ev_k, List.getElem?_cons_zero, List.getElem?_cons_succ, Res.bind_ok, bx2, ev_bop, hr, decide_true, Res.out_ok, if_true, ev_set, List.set_cons_succ, List.set_cons_zero, seq_next, ev_put, ev_iop, dm, mm, bp2, ev_ret, seq_ret, res_ret]
  · obtain ⟨one, e1⟩ : ∃ one : Int, (sIf (cTv (cBin oLt (cBin oIx (cVar 0) (cK (.int 1))) (cB fLen (cCons (cBin oIx (cVar 0) (cK (.int 0))) cNil)))) (sSet 3 (cBin oIx (cBin oIx (cVar 0) (cK (.int 0))) (cBin oIx (cVar 0) (cK (.int 1))))) sNil)
        [some (.ref 0), some (.int m), none, some (.int 0), none] (box l p r s :: t) = .next [some (.ref 0), some (.int m), none, some (.int one), none] (box l p r s :: t) := by
      by_cases hl : p < l.length
      · have z : ((p : Int) < (l.length : Int)) := by omega
        refine ⟨l[p], ?_⟩
        simp only [ev_if, ev_tv, ev_bin, ev_var, ev_k, ev_cB, ev_cons, ev_nil, List.getElem?_cons_zero, List.getElem?_cons_succ, Res.bind_ok, bx0, bx1, len_ints, ev_bop, decide_eq_true z, Res.out_ok, if_true, ev_set, at_ints hl, List.set_cons_succ, List.set_cons_zero]
      · have z : ¬ ((p : Int) < (l.length : Int)) := by omega
        refine ⟨0, ?_⟩
        simp only [ev_if, ev_tv, ev_bin, ev_var, ev_k, ev_cB, ev_cons, ev_nil, List.getElem?_cons_zero, List.getElem?_cons_succ, Res.bind_ok, bx0, bx1, len_ints, ev_bop, decide_eq_false z, Res.out_ok, Bool.false_eq_true, if_false, ev_sNil]
    by_cases hb : (10 : Int) ^ (18 : Int).toNat ≤ one
    · refine ⟨one % m, p + 1, one / m, s, ?_, Int.emod_nonneg _ (by omega), Int.emod_lt_of_pos _ hm, by omega, h0, h1⟩
      refine fn_eq [some (.ref 0), some (.int m), none, none, none] rfl rfl ?_ rfl
      unfold takeB
      rw [ev_seq]
      have a1 : (sIf (cTv (cBin oGt (cBin oIx (cVar 0) (cK (.int 2))) (cK (.int 0)))) (sSeq (sSet 2 (cBin oIx (cVar 0) (cK (.int 2)))) (sSeq (sPut (cBin oDiv (cVar 2) (cVar 1)) (cVar 0) (cK (.int 2))) (sRet (cBin oMod (cVar 2) (cVar 1))))) sNil) [some (.ref 0), some (.int m), none, none, none] (box l p r s :: t) = .next [some (.ref 0), some (.int m), none, none, none] (box l p r s :: t) := by
        simp only [ev_if, ev_tv, ev_bin, ev_var, ev_k, List.getElem?_cons_zero, List.getElem?_cons_succ, Res.bind_ok, bx2, ev_bop, decide_eq_false hr, Res.out_ok, Bool.false_eq_true, if_false, ev_sNil]
      rw [a1, seq_next, ev_seq, ev_set, ev_k, Res.out_ok, seq_next]
      simp only [List.set_cons_succ, List.set_cons_zero]
      rw [ev_seq, e1, seq_next]
      simp only [ev_seq, ev_augAt, ev_var, ev_k, List.getElem?_cons_zero, List.getElem?_cons_succ, Res.out_ok, bg1, ev_iop, bp1, seq_next, ev_if, ev_tv, ev_bin, Res.bind_ok, g10, ev_bop, decide_eq_true hb, if_true, ev_put, dm, mm, bp2, ev_ret, seq_ret, res_ret]
    · have b1 := Int.emod_nonneg one (show (2147483629 : Int) ≠ 0 by decide)
      have b2 := Int.emod_lt_of_pos one (show (0 : Int) < 2147483629 by decide)
      have q1 : gMul (one % 2147483629) 69621 = true := gMul_of (k := 31) (m := 17) (by omega) (by decide) (by decide)
      have q2 : gMul (((p + 1 : Nat) : Int)) 104729 = true := gMul_of (k := 31) (m := 17) (by omega) (by decide) (by decide)
      obtain ⟨x1, ex1⟩ : ∃ x, x = (s + one % 2147483629 * 69621 + ((p + 1 : Nat) : Int) * 104729) % 2147483587 := ⟨_, rfl⟩
      have x1a : 0 ≤ x1 := by rw [ex1]; exact Int.emod_nonneg _ (by decide)
      have x1b : x1 < 2147483587 := by rw [ex1]; exact Int.emod_lt_of_pos _ (by decide)
      have q3 : gMul x1 x1 = true := gMul_of (k := 31) (m := 31) (by omega) (by omega) (by decide)
      have q4 : gMul 40961 x1 = true := gMul_of (k := 31) (m := 31) (by decide) (by omega) (by decide)
      obtain ⟨x2, ex2⟩ : ∃ x, x = (x1 * x1 + 40961 * x1 + 77) % 2147483629 := ⟨_, rfl⟩
      have x2a : 0 ≤ x2 := by rw [ex2]; exact Int.emod_nonneg _ (by decide)
      have x2b : x2 < 2147483629 := by rw [ex2]; exact Int.emod_lt_of_pos _ (by decide)
      have q5 : gMul x2 16807 = true := gMul_of (k := 31) (m := 31) (by omega) (by decide) (by decide)
      obtain ⟨x3, ex3⟩ : ∃ x, x = (x2 * 16807 + s % 8191 + 5) % 2147483587 := ⟨_, rfl⟩
      have x3a : 0 ≤ x3 := by rw [ex3]; exact Int.emod_nonneg _ (by decide)
      have x3b : x3 < 2147483587 := by rw [ex3]; exact Int.emod_lt_of_pos _ (by decide)
      refine ⟨x3 / 61 % m, p + 1, r, x3, ?_, Int.emod_nonneg _ (by omega), Int.emod_lt_of_pos _ hm, by omega, x3a, by omega⟩
      refine fn_eq [some (.ref 0), some (.int m), none, none, none] rfl rfl ?_ rfl
      unfold takeB
      rw [ev_seq]
      have a1 : (sIf (cTv (cBin oGt (cBin oIx (cVar 0) (cK (.int 2))) (cK (.int 0)))) (sSeq (sSet 2 (cBin oIx (cVar 0) (cK (.int 2)))) (sSeq (sPut (cBin oDiv (cVar 2) (cVar 1)) (cVar 0) (cK (.int 2))) (sRet (cBin oMod (cVar 2) (cVar 1))))) sNil) [some (.ref 0), some (.int m), none, none, none] (box l p r s :: t) = .next [some (.ref 0), some (.int m), none, none, none] (box l p r s :: t) := by
        simp only [ev_if, ev_tv, ev_bin, ev_var, ev_k, List.getElem?_cons_zero, List.getElem?_cons_succ, Res.bind_ok, bx2, ev_bop, decide_eq_false hr, Res.out_ok, Bool.false_eq_true, if_false, ev_sNil]
      rw [a1, seq_next, ev_seq, ev_set, ev_k, Res.out_ok, seq_next]
      simp only [List.set_cons_succ, List.set_cons_zero]
      rw [ev_seq, e1, seq_next]
      simp only [ev_seq, ev_augAt, ev_var, ev_k, List.getElem?_cons_zero, List.getElem?_cons_succ, Res.out_ok, bg1, ev_iop, bp1, seq_next, ev_if, ev_tv, ev_bin, Res.bind_ok, g10, ev_bop, decide_eq_false hb, Bool.false_eq_true, if_false, ev_sNil, ev_put, ev_set, List.set_cons_succ, List.set_cons_zero, bx3, bx1, m1, m2, m3, d1, q1, q2, oAdd_int, ← ex1, q3, q4, ← ex2, q5, ← ex3, mm, bp3, ev_ret, seq_ret, res_ret]
theorem cut63 (l : List D) : cutD l none (some 63) = l.take 63 := by
  have e : HT.sIx l.length l.length (some 63) = min 63 l.length := HT.sIx_nat l.length l.length 63
  unfold cutD
  rw [HT.sIx_none, e, List.drop_zero, Nat.sub_zero, ← List.take_eq_take_min]
theorem box_ok (ns : List Int) : ∃ s, fnOf 3 1 boxB [.fro (ns.map D.int)] [] = .ok (.ref 0) [box (ns.take 63) 0 0 s] ∧ 0 ≤ s ∧ s < 2147483647 := by
  have m1 : ∀ i : Int, gMod i 2147483647 = true := fun i => gMod_of (by decide)
  have m2 : ∀ i : Int, gMod i 1000003 = true := fun i => gMod_of (by decide)
  have cut : ∀ x : Option D, ∀ y : Option D, cSl false (cVar 0) cNoPart (cPart (cK (.int 63))) [some (.fro (ns.map D.int)), x, y] [] = .ok (.lst ((ns.take 63).map D.int)) [] := fun x y => by
    show Res.ok (D.lst (cutD (ns.map D.int) none (some 63))) [] = _
    rw [cut63, List.map_take]
  obtain ⟨st, h, e1, rfl, y, s, rfl, s0, s1⟩ := forL_inv (fg := gtName 2) (fb := sSet 1 (cBin oMod (cBin (oAdd false) (cBin (oAdd false) (cBin oMul (cVar 1) (cK (.int 48271))) (cBin oMod (cVar 2) (cK (.int 1000003)))) (cK (.int 11))) (cK (.int 2147483647))))
    (fun _ st h => h = [] ∧ ∃ y s, st = [some (.fro (ns.map D.int)), some (.int s), y] ∧ 0 ≤ s ∧ s < 2147483647) ((ns.take 63).map D.int) 0 [some (.fro (ns.map D.int)), some (.int 7919), none] [] (fun i d st h hd ⟨i1, y, s, i2, s0, s1⟩ => by
      subst i1 i2
      obtain ⟨a, _, rfl⟩ := List.mem_map.mp (List.mem_of_getElem? hd)
      have q : gMul s 48271 = true := gMul_of (k := 31) (m := 17) (by omega) (by decide) (by decide)
      refine ⟨_, _, [some (.fro (ns.map D.int)), some (.int ((s * 48271 + a % 1000003 + 11) % 2147483647)), some (.int a)], [], rfl, ?_, rfl, _, _, rfl, Int.emod_nonneg _ (by decide), Int.emod_lt_of_pos _ (by decide)⟩
      simp only [ev_set, ev_bin, ev_var, ev_k, List.set_cons_succ, List.set_cons_zero, List.getElem?_cons_zero, List.getElem?_cons_succ, Res.bind_ok, ev_iop, q, m1, m2, oAdd_int, Res.out_ok]) ⟨rfl, none, 7919, rfl, by decide, by decide⟩
  refine ⟨s, ?_, s0, s1⟩
  have e2 : (boxB [some (.fro (ns.map D.int)), none, none] []).res = .ok (.ref 0) [box (ns.take 63) 0 0 s] := by
    have e3 : iSeqD (cSl false (cVar 0) cNoPart (cPart (cK (.int 63)))) [some (.fro (ns.map D.int)), some (.int 7919), none] [] = .ok ((ns.take 63).map D.int) [] := by
      unfold iSeqD
      rw [cut]
      rfl
    have e4 : fList false [.lst ((ns.take 63).map D.int)] [] = .ok (.lst ((ns.take 63).map D.int)) [] := rfl
    have e5 : [D.lst ((ns.take 63).map D.int), .int 0, .int 0, .int s].length ≤ sizeLine := small_line (by simp)
    simp only [boxB, ev_seq, ev_set, ev_k, Res.out_ok, seq_next, List.set_cons_succ, List.set_cons_zero, ev_for, e3, e1, ev_ret, ev_lstM, ev_cons, ev_cB, cut, ev_nil, Res.bind_ok, e4, ev_var, List.getElem?_cons_zero, List.getElem?_cons_succ, e5, if_true, res_ret]
    rfl
  show (if [D.fro (ns.map D.int)].length = 1 then cleanD 0 (boxB [some (.fro (ns.map D.int)), none, none] []).res else .no) = _
  rw [if_pos (show [D.fro (ns.map D.int)].length = 1 from rfl), e2]
  rfl
end Gm

/-! GmS: the laws' own small defs: what is alike. -/
namespace Gm
open PySem PySem.Spec PyProof.Rows
theorem exc_of {n k : Nat} {ds : List D} {fb : Ss} {h h' : Store} {x : Str} (st st' : Slots) (hk : ds.length = k) (hs : startD n ds = st) (e : fb st h = .exc ⟨x, none⟩ st' h') (hl : h'.length = h.length) : fnOf n k fb ds h = .exc ⟨x, none⟩ h' := by
  unfold fnOf
  rw [if_pos hk, hs, e]
  unfold Out.res cleanD clean
  dsimp only
  rw [← hl, List.take_length]
  split <;> rfl
def sameB (R : FnT) : Ss :=
  (sSeq (sIf (cTor (cTv (cBin oIsN (cVar 1) (cK .non))) (cTv (cBin oIsN (cVar 0) (cK .non)))) (sRet (cAnd (cBin oIsN (cVar 0) (cK .non)) (cBin oIsN (cVar 1) (cK .non))))
  sNil)
  (sSeq (sIf (cTor (cTv (cIs2 (cVar 1) "list" "tuple")) (cTv (cIs2 (cVar 0) "list" "tuple"))) (sSeq (sIf (cTv (cBin oNe (cB fIsi (cCons (cVar 0) (cCons (cK (.ty "list")) cNil))) (cB fIsi (cCons (cVar 1) (cCons (cK (.ty "list")) cNil))))) (sRet (cK (.bl false)))
  sNil)
  (sSeq (sIf (cTor (cTv (cBin oNe (cB fIsi (cCons (cVar 0) (cCons (cK (.ty "tuple")) cNil))) (cB fIsi (cCons (cVar 1) (cCons (cK (.ty "tuple")) cNil))))) (cTv (cBin oNe (cB fLen (cCons (cVar 0) cNil)) (cB fLen (cCons (cVar 1) cNil))))) (sRet (cK (.bl false)))
  sNil)
  (sRet (cB fAll (cCons (cLc false (iZipAD (cCons (cVar 0) (cCons (cVar 1) cNil))) (fTup [2, 3]) cYes (cCall R [] (cCons (cVar 2) (cCons (cVar 3) cNil))) [2, 3]) cNil)))))
  sNil)
  (sSeq (sIf (cTv (cBin oNe (cB fIsi (cCons (cVar 1) (cCons (cK (.ty "bool")) cNil))) (cB fIsi (cCons (cVar 0) (cCons (cK (.ty "bool")) cNil))))) (sRet (cK (.bl false)))
  sNil)
  (sSeq (sIf (cTv (cBin oNe (cB fIsi (cCons (cVar 1) (cCons (cK (.ty "int")) cNil))) (cB fIsi (cCons (cVar 0) (cCons (cK (.ty "int")) cNil))))) (sRet (cK (.bl false)))
  sNil)
  (sRet (cAnd (cBin oEq (cB fIsi (cCons (cVar 1) (cCons (cK (.ty "str")) cNil))) (cB fIsi (cCons (cVar 0) (cCons (cK (.ty "str")) cNil)))) (cBin oEq (cVar 0) (cVar 1))))))))
def sameF : Nat → FnT
  | 0 => fun _ _ => .no
  | n + 1 => fnOf 4 2 (sameB (sameF n))
/-- the same value, lists told one way or the other -/
inductive Sm : Nat → D → D → Prop where
  | non {n} : Sm (n + 1) .non .non
  | bl {n} (b : Bool) : Sm (n + 1) (.bl b) (.bl b)
  | int {n} (i : Int) : Sm (n + 1) (.int i) (.int i)
  | str {n} (x : Str) : Sm (n + 1) (.str x) (.str x)
  | tup {n} {l k : List D} (hl : l.length = k.length) (h : ∀ (i : Nat) (x y : D), l[i]? = some x → k[i]? = some y → Sm n x y) (hz : l.length ≤ 1000000) : Sm (n + 1) (.tup l) (.tup k)
  | lst {n} {d e : D} {l k : List D} (hd : asI d = some l) (he : asI e = some k) (hl : l.length = k.length) (h : ∀ (i : Nat) (x y : D), l[i]? = some x → k[i]? = some y → Sm n x y) (hz : l.length ≤ 1000000) : Sm (n + 1) d e
theorem boolsOf_rep (n : Nat) : boolsOf (List.replicate n (D.bl true)) = some (List.replicate n true) := by
  induction n with
  | zero => rfl
  | succ n ih => rw [List.replicate_succ, boolsOf, ih]; rfl
theorem fIsi_at {h : Store} {d : D} {a b : String} (e : tyD h d = some a) (hb : b ∈ tyAsk) : fIsi [d, .ty b] h = .ok (.bl (tyIs a b)) h := by
  unfold fIsi
  dsimp only
  rw [e]
  dsimp only
  rw [if_pos hb]
theorem is2_at {h : Store} {st : Slots} {fe : Ev D} {d : D} {a A B : String} (ev : fe st h = .ok d h) (e : tyD h d = some a) (hA : A ∈ tyAsk) (hB : B ∈ tyAsk) : cIs2 fe A B st h = .ok (.bl (tyIs a A || tyIs a B)) h := by
  unfold cIs2
  rw [ev, Res.bind_ok]
  rw [e]
  dsimp only
  rw [if_pos ⟨hA, hB⟩]
theorem zip_same {R : FnT} {h : Store} {l k : List D} {a b : Option D} (hl : l.length = k.length) (hR : ∀ (i : Nat) (x y : D), l[i]? = some x → k[i]? = some y → R [x, y] h = .ok (.bl true) h) :
    lcL (fTup [2, 3]) cYes (cCall R [] (cCons (cVar 2) (cCons (cVar 3) cNil))) [a, b, none, none] (zipD l k) h = .ok (List.replicate l.length (.bl true)) h := by
  induction l generalizing k with
  | nil => rfl
  | cons x l ih =>
    cases k with
    | nil => simp at hl
    | cons y k =>
      have e := hR 0 x y rfl rfl
      have r := ih (k := k) (by simpa using hl) fun i x y h1 h2 => hR (i + 1) x y (by simpa using h1) (by simpa using h2)
      unfold zipD lcL
      show ((cYes _ h).sure.bind _) = _
      show (((Res.ok true h : Res Bool).sure).bind _) = _
      simp only [Res.sure, Res.bind_ok, if_true, ev_call, ev_cons, ev_var, ev_nil]
      show ((R ([x, y] ++ []) h).sure.bind _) = _
      rw [List.append_nil, e]
      simp only [Res.sure, Res.bind_ok]
      rw [r]
      rfl
theorem sameF_ok : ∀ {n : Nat} {x y : D} {h : Store}, Sm n x y → sameF n [x, y] h = .ok (.bl true) h := by
  intro n
  induction n with
  | zero => intro x y h s; cases s
  | succ n ih =>
    intro x y h s
    have many : ∀ {l k : List D} {t : String}, tyD h x = some t → tyD h y = some t → (t = "list" ∨ t = "tuple") → l.length = k.length → (∀ (i : Nat) (x y : D), l[i]? = some x → k[i]? = some y → Sm n x y) → l.length ≤ 1000000 → fLen [x] h = .ok (.int l.length) h → fLen [y] h = .ok (.int k.length) h → zipOf x y = some (zipD l k) →
        sameF (n + 1) [x, y] h = .ok (.bl true) h := fun {l k t} tx ty ht hl hs hz lx ly hzip => by
      have no : ∀ d : D, tyD h d = some t → d.isNon = false := fun d td => by
        cases d with
        | non =>
          have e : "NoneType" = t := Option.some.inj td
          subst e
          rcases ht with q | q <;> exact absurd q (by decide)
        | _ => rfl
      have nx := no x tx
      have ny := no y ty
      refine fn_eq [some x, some y, none, none] rfl rfl ?_ rfl
      have a1 : "list" ∈ tyAsk := by decide
      have a2 : "tuple" ∈ tyAsk := by decide
      have i1 : cIs2 (cVar 1) "list" "tuple" [some x, some y, none, none] h = .ok (.bl true) h := by
        rw [is2_at (d := y) rfl ty a1 a2]
        rcases ht with q | q <;> subst q <;> rfl
      have z := zip_same (R := sameF n) (h := h) (a := some x) (b := some y) hl fun i x y h1 h2 => ih (hs i x y h1 h2)
      have zl : (zipD l k).length ≤ sizeLine := small_line (by rw [zipD_len]; omega)
      have al : fAll [.lst (List.replicate l.length (D.bl true))] h = .ok (.bl true) h := by
        unfold fAll fOf1
        simp only [asR, boolsOf_rep]
        congr 2
        simp
      unfold sameB
      simp only [ev_seq, ev_if, ev_tor, ev_tv, ev_bin, ev_var, ev_k, List.getElem?_cons_zero, List.getElem?_cons_succ, Res.bind_ok, oIsN, nx, ny, Bool.false_eq_true, if_false, Res.out_ok, ev_sNil, seq_next, i1, if_true, ev_cB, ev_cons, ev_nil, fIsi_at tx a1, fIsi_at ty a1, fIsi_at tx a2, fIsi_at ty a2, oNe_bl, beq_self_eq_true, Bool.not_true, lx, ly, oNe_int, hl, ev_ret, ev_lc]
      have zz : iZipAD (cCons (cVar 0) (cCons (cVar 1) cNil)) [some x, some y, none, none] h = .ok (zipD l k) h := by
        show (match zipOf x y with | some l => Res.ok l h | none => .no) = _
        rw [hzip]
      simp only [zz, Res.bind_ok, zl, if_true, ev_wipe1, ev_wipe0, List.set_cons_zero, List.set_cons_succ]
      rw [z]
      simp only [Res.bind_ok, ev_alloc, al, Res.out_ok, seq_ret, res_ret]
    cases s with
    | non => exact fn_eq [some .non, some .non, none, none] rfl rfl rfl rfl
    | bl b => exact fn_eq [some (.bl b), some (.bl b), none, none] rfl rfl (by
        have a1 : "list" ∈ tyAsk := by decide
        have a2 : "tuple" ∈ tyAsk := by decide
        have a3 : "bool" ∈ tyAsk := by decide
        have a4 : "int" ∈ tyAsk := by decide
        have a5 : "str" ∈ tyAsk := by decide
        have t : tyD h (.bl b) = some "bool" := rfl
        have i1 := is2_at (fe := cVar 1) (st := [some (.bl b), some (.bl b), none, none]) (h := h) rfl t a1 a2
        have i2 := is2_at (fe := cVar 0) (st := [some (.bl b), some (.bl b), none, none]) (h := h) rfl t a1 a2
        have f1 : (tyIs "bool" "list" || tyIs "bool" "tuple") = false := by decide
        have f2 : tyIs "bool" "str" = false := by decide
        unfold sameB
        simp only [ev_seq, ev_if, ev_tor, ev_tv, ev_bin, ev_var, ev_k, List.getElem?_cons_zero, List.getElem?_cons_succ, Res.bind_ok, oIsN, D.isNon, Bool.false_eq_true, if_false, Res.out_ok, ev_sNil, seq_next, i1, i2, f1, ev_cB, ev_cons, ev_nil, fIsi_at t a3, fIsi_at t a4, fIsi_at t a5, oNe_bl, beq_self_eq_true, Bool.not_true, ev_ret]
        have e1 : oEq (.bl (tyIs "bool" "str")) (.bl (tyIs "bool" "str")) h = .ok (.bl true) h := by simp [oEq, eqD]
        have e2 : oEq (.bl b) (.bl b) h = .ok (.bl true) h := by simp [oEq, eqD]
        simp only [cAnd, ev_bin, ev_cB, ev_cons, ev_var, ev_k, ev_nil, List.getElem?_cons_zero, List.getElem?_cons_succ, Res.bind_ok, fIsi_at t a5, e1, e2, Res.out_ok, res_ret]) rfl
    | int b => exact fn_eq [some (.int b), some (.int b), none, none] rfl rfl (by
        have a1 : "list" ∈ tyAsk := by decide
        have a2 : "tuple" ∈ tyAsk := by decide
        have a3 : "bool" ∈ tyAsk := by decide
        have a4 : "int" ∈ tyAsk := by decide
        have a5 : "str" ∈ tyAsk := by decide
        have t : tyD h (.int b) = some "int" := rfl
        have i1 := is2_at (fe := cVar 1) (st := [some (.int b), some (.int b), none, none]) (h := h) rfl t a1 a2
        have i2 := is2_at (fe := cVar 0) (st := [some (.int b), some (.int b), none, none]) (h := h) rfl t a1 a2
        have f1 : (tyIs "int" "list" || tyIs "int" "tuple") = false := by decide
        unfold sameB
        simp only [ev_seq, ev_if, ev_tor, ev_tv, ev_bin, ev_var, ev_k, List.getElem?_cons_zero, List.getElem?_cons_succ, Res.bind_ok, oIsN, D.isNon, Bool.false_eq_true, if_false, Res.out_ok, ev_sNil, seq_next, i1, i2, f1, ev_cB, ev_cons, ev_nil, fIsi_at t a3, fIsi_at t a4, fIsi_at t a5, oNe_bl, beq_self_eq_true, Bool.not_true, ev_ret]
        have e1 : oEq (.bl (tyIs "int" "str")) (.bl (tyIs "int" "str")) h = .ok (.bl true) h := by simp [oEq, eqD]
        have e2 : oEq (.int b) (.int b) h = .ok (.bl true) h := by simp [oEq, eqD]
        simp only [cAnd, ev_bin, ev_cB, ev_cons, ev_var, ev_k, ev_nil, List.getElem?_cons_zero, List.getElem?_cons_succ, Res.bind_ok, fIsi_at t a5, e1, e2, Res.out_ok, res_ret]) rfl
    | str b => exact fn_eq [some (.str b), some (.str b), none, none] rfl rfl (by
        have a1 : "list" ∈ tyAsk := by decide
        have a2 : "tuple" ∈ tyAsk := by decide
        have a3 : "bool" ∈ tyAsk := by decide
        have a4 : "int" ∈ tyAsk := by decide
        have a5 : "str" ∈ tyAsk := by decide
        have t : tyD h (.str b) = some "str" := rfl
        have i1 := is2_at (fe := cVar 1) (st := [some (.str b), some (.str b), none, none]) (h := h) rfl t a1 a2
        have i2 := is2_at (fe := cVar 0) (st := [some (.str b), some (.str b), none, none]) (h := h) rfl t a1 a2
        have f1 : (tyIs "str" "list" || tyIs "str" "tuple") = false := by decide
        unfold sameB
        simp only [ev_seq, ev_if, ev_tor, ev_tv, ev_bin, ev_var, ev_k, List.getElem?_cons_zero, List.getElem?_cons_succ, Res.bind_ok, oIsN, D.isNon, Bool.false_eq_true, if_false, Res.out_ok, ev_sNil, seq_next, i1, i2, f1, ev_cB, ev_cons, ev_nil, fIsi_at t a3, fIsi_at t a4, fIsi_at t a5, oNe_bl, beq_self_eq_true, Bool.not_true, ev_ret]
        have e1 : oEq (.bl (tyIs "str" "str")) (.bl (tyIs "str" "str")) h = .ok (.bl true) h := by simp [oEq, eqD]
        have e2 : oEq (.str b) (.str b) h = .ok (.bl true) h := by simp [oEq, eqD]
        simp only [cAnd, ev_bin, ev_cB, ev_cons, ev_var, ev_k, ev_nil, List.getElem?_cons_zero, List.getElem?_cons_succ, Res.bind_ok, fIsi_at t a5, e1, e2, Res.out_ok, res_ret]) rfl
    | @tup _ l k hl hs hz => exact many (t := "tuple") rfl rfl (.inr rfl) hl hs hz rfl rfl rfl
    | @lst _ d e l k hd he hl hs hz =>
      have td : tyD h x = some "list" := by cases x <;> first | rfl | cases hd
      have te : tyD h y = some "list" := by cases y <;> first | rfl | cases he
      refine many (t := "list") td te (.inl rfl) hl hs hz ?_ ?_ ?_
      · cases x <;> first | (cases hd; rfl) | cases hd
      · cases y <;> first | (cases he; rfl) | cases he
      · cases x with
        | lst l0 =>
          show (match asI (.lst l0), asI y with | some l, some k => some (zipD l k) | _, _ => none) = _
          rw [hd, he]
        | fro l0 =>
          show (match asI (.fro l0), asI y with | some l, some k => some (zipD l k) | _, _ => none) = _
          rw [hd, he]
        | _ => cases hd
end Gm

/-! GmQ: more of how the functions compute. -/
namespace Gm
open PySem PySem.Spec PyProof.Rows
section
variable {st : Slots} {h : Store}
@[simp] theorem seq_exc (e : Exn) (k : Ss) : (Out.exc e st h).seq k = .exc e st h := rfl
@[simp] theorem seq_brk (k : Ss) : (Out.brk st h).seq k = .brk st h := rfl
@[simp] theorem seq_cont (k : Ss) : (Out.cont st h).seq k = .cont st h := rfl
@[simp] theorem seq_no (k : Ss) : Out.no.seq k = .no := rfl
@[simp] theorem res_exc (e : Exn) : (Out.exc e st h).res = .exc e h := rfl
@[simp] theorem ev_raise (x : Str) : sRaise x st h = .exc ⟨x, none⟩ st h := rfl
@[simp] theorem ev_and (f k : Ev D) : cAnd f k st h = (f st h).bind fun d h1 => match d with
  | .bl true => k st h1
  | .bl false => .ok (.bl false) h1
  | _ => .no := rfl
@[simp] theorem ev_or (f k : Ev D) : cOr f k st h = (f st h).bind fun d h1 => match d with
  | .bl false => k st h1
  | .bl true => .ok (.bl true) h1
  | _ => .no := rfl
@[simp] theorem ev_not (f : Ev D) : cNot f st h = (f st h).bind fun d h1 => match d with
  | .bl b => .ok (.bl (!b)) h1
  | _ => .no := rfl
@[simp] theorem ev_cif (t : Ev Bool) (f k : Ev D) : cIf t f k st h = (t st h).bind fun b h1 => if b = true then f st h1 else k st h1 := rfl
@[simp] theorem ev_callX (F : FnT) (fs : Ev (List D)) : cCallX F fs st h = (fs st h).bind fun ds h1 => match F ds h1 with
  | .ok d h2 => .ok d h2
  | _ => .no := rfl
theorem tried_is {F : Res D → Res D} {fb : Ev D} {d : D} {h' : Store} (e : F (fb st h) = .ok d h') : cTried F fb st h = .ok d h' := by
  unfold cTried
  rw [e]
theorem triedF_ok {t : ExcT} {f : Str → Bool} {w0 : Str} {fx : Ev D} {d : D} {h' : Store} {r : Res D} (e : r = .ok d h') : triedF t f w0 fx r = .ok (.tup [d, .str w0]) h' := by
  rw [e] <;> rfl
theorem triedF_exc {t : ExcT} {f : Str → Bool} {w0 : Str} {fx : Ev D} {d : D} {h' : Store} {r : Res D} {x : Exn} (e : r = .exc x h') (hn : x.cls ∈ t.ns ∧ f x.cls = true) (hv : hotV 4 (some 3) fx x = some d) : triedF t f w0 fx r = .ok (.tup [.non, d]) h' := by
  rw [e]
  show (if x.cls ∈ t.ns ∧ f x.cls = true then match hotV 4 (some 3) fx x with | some d => Res.ok (D.tup [D.non, d]) h' | none => .no else .no) = _
  rw [if_pos hn, hv]
theorem ev_neg (f : Ev D) (i : Int) {h' : Store} (e : f st h = .ok (.int i) h') : cNeg f st h = .ok (.int (-i)) h' := by
  unfold cNeg
  rw [e] <;> rfl
theorem last_at (h : Store) (ce : Option Cell) : (h ++ [ce])[h.length]? = some ce := by simp
theorem last_set (h : Store) (ce ce' : Option Cell) : (h ++ [ce]).set h.length ce' = h ++ [ce'] := by simp
theorem app_last {fo : Ev D} {fs : Ev (List D)} {ds : List D} {d : D} (e1 : fo st (h ++ [some (.lst ds)]) = .ok (.ref h.length) (h ++ [some (.lst ds)])) (e2 : fs st (h ++ [some (.lst ds)]) = .ok [d] (h ++ [some (.lst ds)])) (hl : ds.length < sizeLine) :
    cMt "list" mAppend fo fs st (h ++ [some (.lst ds)]) = .ok .non (h ++ [some (.lst (ds ++ [d]))]) := by
  unfold cMt
  rw [e1, Res.bind_ok]
  have z : isTy "list" (h ++ [some (.lst ds)]) (.ref h.length) = true := by
    unfold isTy
    dsimp only
    rw [last_at]
    rfl
  rw [if_pos z, e2, Res.bind_ok]
  unfold mAppend cellL
  simp only [last_at, hl, if_true, last_set]
theorem frz_last {i : Nat} {f : Ss} {l : List D} (e : st[i]? = some (some (.ref h.length))) : sFrz i f st (h ++ [some (.lst l)]) = f (st.set i (some (.lst l))) (h ++ [none]) := by
  unfold sFrz
  rw [e]
  dsimp only
  rw [last_at]
  dsimp only
  rw [last_set]
theorem oAddI_int (i j : Int) : oAddI (.int i) (.int j) h = .ok (.int (i + j)) h := rfl
theorem sz0 : (0 ≤ sizeLine) = True := eq_true (by decide)
theorem sz1 : (1 ≤ sizeLine) = True := eq_true (by decide)
theorem sz2 : (2 ≤ sizeLine) = True := eq_true (by decide)
theorem sz3 : (3 ≤ sizeLine) = True := eq_true (by decide)
theorem sz4 : (4 ≤ sizeLine) = True := eq_true (by decide)
theorem sz5 : (5 ≤ sizeLine) = True := eq_true (by decide)
theorem sz6 : (6 ≤ sizeLine) = True := eq_true (by decide)
theorem sz7 : (7 ≤ sizeLine) = True := eq_true (by decide)
theorem sz8 : (8 ≤ sizeLine) = True := eq_true (by decide)
theorem sz9 : (9 ≤ sizeLine) = True := eq_true (by decide)
theorem sz10 : (10 ≤ sizeLine) = True := eq_true (by decide)
theorem sz11 : (11 ≤ sizeLine) = True := eq_true (by decide)
theorem sz12 : (12 ≤ sizeLine) = True := eq_true (by decide)
theorem sz13 : (13 ≤ sizeLine) = True := eq_true (by decide)
theorem sz14 : (14 ≤ sizeLine) = True := eq_true (by decide)
theorem sz15 : (15 ≤ sizeLine) = True := eq_true (by decide)
theorem sz16 : (16 ≤ sizeLine) = True := eq_true (by decide)
theorem sz17 : (17 ≤ sizeLine) = True := eq_true (by decide)
theorem sz18 : (18 ≤ sizeLine) = True := eq_true (by decide)
theorem sz19 : (19 ≤ sizeLine) = True := eq_true (by decide)
theorem sz20 : (20 ≤ sizeLine) = True := eq_true (by decide)
theorem sz21 : (21 ≤ sizeLine) = True := eq_true (by decide)
theorem sz22 : (22 ≤ sizeLine) = True := eq_true (by decide)
theorem sz23 : (23 ≤ sizeLine) = True := eq_true (by decide)
theorem sz24 : (24 ≤ sizeLine) = True := eq_true (by decide)
theorem sz25 : (25 ≤ sizeLine) = True := eq_true (by decide)
theorem sz26 : (26 ≤ sizeLine) = True := eq_true (by decide)
theorem sz27 : (27 ≤ sizeLine) = True := eq_true (by decide)
theorem sz28 : (28 ≤ sizeLine) = True := eq_true (by decide)
theorem sz29 : (29 ≤ sizeLine) = True := eq_true (by decide)
theorem sz30 : (30 ≤ sizeLine) = True := eq_true (by decide)
theorem sz31 : (31 ≤ sizeLine) = True := eq_true (by decide)
theorem sz32 : (32 ≤ sizeLine) = True := eq_true (by decide)
end
end Gm

/-! GmC: lists of numbers, cells that hold them; the script's box. -/
namespace Gm
open PySem PySem.Spec PyProof.Rows
def dnums (l : List Nat) : List D := l.map fun (a : Nat) => D.int (a : Int)
abbrev cel (x : List Nat) : Option Cell := some (Cell.lst (dnums x))
/-- the box stands, at most b were drawn -/
def Bx (l : List Int) (b : Nat) (t h : Store) : Prop := ∃ p r s, h = box l p r s :: t ∧ p ≤ b ∧ 0 ≤ s ∧ s < 2147483647
section
variable {l : List Int} {b : Nat} {t h : Store}
theorem Bx.takeB {l : List Int} {b : Nat} {t h : Store} (x : Bx l b t h) (hb : b ≤ 1000000) {m : Int} (hm : 0 < m) (hm2 : m.natAbs < 2 ^ 9000) :
    ∃ v h', fnOf 5 2 takeB [D.ref 0, D.int m] h = .ok (D.int v) h' ∧ 0 ≤ v ∧ v < m ∧ Bx l (b + 1) t h' := by
  obtain ⟨p, r, s, rfl, hp, h0, h1⟩ := x
  obtain ⟨v, p', r', s', e, v0, v1, q1, q2, q3⟩ := take_ok l p r s t m hm hm2 (by omega) h0 h1
  exact ⟨v, _, e, v0, v1, p', r', s', rfl, by omega, q2, q3⟩
theorem Bx.mono {b' : Nat} (x : Bx l b t h) (hb : b ≤ b') : Bx l b' t h := by
  obtain ⟨p, r, s, e, q1, q2⟩ := x
  exact ⟨p, r, s, e, by omega, q2⟩
theorem get1 {a c : Option Cell} {z : Option Cell} : (z :: (t ++ [a, c]))[t.length + 1]? = some a := by simp
theorem get2 {a c : Option Cell} {z : Option Cell} : (z :: (t ++ [a, c]))[t.length + 2]? = some c := by simp
theorem set1 {a c a' : Option Cell} {z : Option Cell} : (z :: (t ++ [a, c])).set (t.length + 1) a' = z :: (t ++ [a', c]) := by simp
theorem set2 {a c c' : Option Cell} {z : Option Cell} : (z :: (t ++ [a, c])).set (t.length + 2) c' = z :: (t ++ [a, c']) := by
  rw [List.set_cons_succ, List.set_append_right _ _ (by omega)]
  simp
theorem Bx.len (x : Bx l b t h) : h.length = t.length + 1 := by
  obtain ⟨p, r, s, rfl, _⟩ := x
  rfl
theorem Bx.app (x : Bx l b t h) (u : Store) : Bx l b (t ++ u) (h ++ u) := by
  obtain ⟨p, r, s, rfl, q⟩ := x
  exact ⟨p, r, s, rfl, q⟩
theorem map_erase {α β : Type} (f : α → β) : ∀ (l : List α) (v : Nat), (l.map f).eraseIdx v = (l.eraseIdx v).map f
  | [], v => by simp
  | a :: l, 0 => by simp
  | a :: l, v + 1 => by simp [map_erase f l v]
theorem erase_perm {α : Type} : ∀ (l : List α) (v : Nat) (hv : v < l.length), (l[v] :: l.eraseIdx v).Perm l
  | [], v, hv => absurd hv (Nat.not_lt_zero v)
  | a :: l, 0, _ => by simp
  | a :: l, v + 1, hv => by
    have ih := erase_perm l v (by simpa using hv)
    rw [List.eraseIdx_cons_succ, List.getElem_cons_succ]
    exact (List.Perm.swap a (l[v]'(by simpa using hv)) (l.eraseIdx v)).trans (ih.cons a)
theorem pop_at {n : Nat} {xs : List Nat} {v : Nat} (hn : h[n]? = some (cel xs)) (hv : v < xs.length) (hs : xs.length ≤ 1000) : mPopAt (D.ref n) [D.int (v : Int)] h = .ok (D.int (xs[v] : Nat)) (h.set n (cel (xs.eraseIdx v))) := by
  have e1 : cellL h (D.ref n) = some (n, dnums xs) := by
    show (match h[n]? with
      | some (some (.lst l)) => some (n, l)
      | _ => none) = _
    rw [hn]
  have big : (1000 : Int) < 2 ^ 63 := by decide +kernel
  have low : (-(2 ^ 63) : Int) ≤ 0 := by decide +kernel
  have c1 : -(2 ^ 63) ≤ (v : Int) ∧ (v : Int) < 2 ^ 63 := by
    have a1 : (v : Int) ≤ 1000 := by omega
    exact ⟨Int.le_trans low (Int.natCast_nonneg v), Int.lt_of_le_of_lt a1 big⟩
  have e2 : seqIndex? (v : Int) (dnums xs).length = some v := by
    have e3 : ¬ ((v : Int) < 0) := by omega
    have e4 : (dnums xs).length = xs.length := by simp [dnums]
    unfold seqIndex?
    rw [e4, if_neg e3]
    dsimp only
    rw [if_pos (by simp; omega), Int.toNat_natCast]
  have e5 : (dnums xs)[v]? = some (D.int (xs[v] : Nat)) := by simp [dnums, hv]
  unfold mPopAt
  rw [e1]
  dsimp only
  rw [if_pos c1, e2]
  dsimp only
  rw [e5]
  dsimp only
  rw [show (dnums xs).eraseIdx v = dnums (xs.eraseIdx v) from map_erase _ xs v]
theorem app_at {n : Nat} {xs : List Nat} {v : Nat} (hn : h[n]? = some (cel xs)) (hs : xs.length ≤ 1000) : mAppend (D.ref n) [D.int (v : Int)] h = .ok .non (h.set n (cel (xs ++ [v]))) := by
  have e1 : cellL h (D.ref n) = some (n, dnums xs) := by
    show (match h[n]? with
      | some (some (.lst l)) => some (n, l)
      | _ => none) = _
    rw [hn]
  have e4 : (dnums xs).length < sizeLine := by
    have q : (1001 : Nat) ≤ sizeLine := small_line (by decide)
    simp [dnums]
    omega
  unfold mAppend
  rw [e1]
  dsimp only
  rw [if_pos e4, show dnums xs ++ [D.int (v : Int)] = dnums (xs ++ [v]) by simp [dnums]]
theorem isL {n : Nat} {xs : List Nat} (hn : h[n]? = some (cel xs)) : isTy "list" h (D.ref n) = true := by
  show (match h[n]? with
    | some (some (.lst _)) => "list" == "list"
    | some (some (.dct _)) => "list" == "dict"
    | _ => false) = true
  rw [hn] <;> rfl
theorem len_at {n : Nat} {xs : List Nat} (hn : h[n]? = some (cel xs)) : fLen [D.ref n] h = .ok (D.int (xs.length : Nat)) h := by
  have e : asR h (D.ref n) = some (dnums xs) := by
    show (match h[n]? with
      | some (some (.lst l)) => some l
      | _ => none) = _
    rw [hn]
  unfold fLen
  simp only [e]
  simp [dnums]
theorem ev_cMt {T : String} {F : MethT} {fo : Ev D} {fs : Ev (List D)} {st : Slots} {h h1 : Store} {d : D} (e : fo st h = .ok d h1) (ht : isTy T h1 d = true) : cMt T F fo fs st h = (fs st h1).bind fun ds h2 => F d ds h2 := by
  unfold cMt
  rw [e, Res.bind_ok, if_pos ht]
theorem perm_move {lf so : List Nat} {v : Nat} {n : Nat} (hv : v < lf.length) (p : (lf ++ so).Perm (List.range n)) : ((lf.eraseIdx v) ++ (so ++ [lf[v]])).Perm (List.range n) := by
  have q : (lf[v] :: lf.eraseIdx v).Perm lf := erase_perm lf v hv
  refine List.Perm.trans ?_ p
  rw [← List.append_assoc]
  refine List.Perm.trans (List.perm_append_singleton _ _) ?_
  exact List.Perm.append_right so q
theorem flats_nums (l : List Nat) : flats (dnums l) = some (l.map fun (a : Nat) => L2.V.int (a : Int)) := by
  induction l with
  | nil => rfl
  | cons a l ih =>
    have ih : flats (List.map (fun (a : Nat) => D.int (a : Int)) l) = some (l.map fun (a : Nat) => L2.V.int (a : Int)) := ih
    show flats (D.int (a : Int) :: List.map (fun (a : Nat) => D.int (a : Int)) l) = _
    simp [flats, D.flat, ih]
theorem eqV_n (a b : Nat) : L2.eqV (L2.V.int (a : Int)) (L2.V.int (b : Int)) = (a == b) := nat_beq a b
theorem in_nums (k : Nat) (l : List Nat) (h : Store) : oIn (D.int (k : Int)) (D.lst (dnums l)) h = .ok (D.bl (decide (k ∈ l))) h := by
  have q : inD h (D.int (k : Int)) (D.lst (dnums l)) = some (decide (k ∈ l)) := by
    unfold inD
    simp only [asR, D.flat, flats_nums]
    congr 1
    induction l with
    | nil => rfl
    | cons a l ih =>
      have ih : L2.inV (L2.V.int (k : Int)) (l.map fun (a : Nat) => L2.V.int (a : Int)) = decide (k ∈ l) := ih
      rw [List.map_cons]
      unfold L2.inV at ih ⊢
      rw [List.any_cons, ih, eqV_n]
      by_cases e : a = k
      · subst e; simp
      · have e2 : ¬ k = a := fun z => e z.symm
        simp [e, e2]
  unfold oIn
  rw [q]
theorem first_at (k : Nat) : ∀ (so : List Nat), k ∈ so → firstAt (L2.V.int (k : Int)) (so.map fun (a : Nat) => L2.V.int (a : Int)) = some (so.idxOf k)
  | [], h => by simp at h
  | a :: so, h => by
    rw [List.map_cons]
    unfold firstAt
    rw [eqV_n, List.idxOf_cons]
    by_cases e : a = k
    · subst e; simp
    · have z : (a == k) = false := by simpa using e
      have hk : k ∈ so := by
        rcases List.mem_cons.mp h with q | q
        · exact absurd q.symm e
        · exact q
      rw [z, first_at k so hk]
      simp
theorem index_at {k : Nat} {so : List Nat} (hk : k ∈ so) : mIndex (.lst (dnums so)) [D.int (k : Int)] h = .ok (D.int (so.idxOf k : Nat)) h := by
  unfold mIndex
  simp only [asR, D.flat, flats_nums, first_at k so hk]
theorem len_nums (xs : List Nat) : fLen [.lst (dnums xs)] h = .ok (D.int (xs.length : Nat)) h := by simp [fLen, asR, dnums]
theorem at_nums {so : List Nat} {k : Nat} (hk : k < so.length) : oIx (D.lst (dnums so)) (D.int (k : Int)) h = .ok (D.int (so[k]?.getD 0 : Nat)) h := by
  have e : dnums so = (so.map fun (a : Nat) => (a : Int)).map D.int := by rw [List.map_map]; rfl
  rw [e, at_ints (by simpa using hk)]
  simp [hk]
/-- plain data of some depth -/
inductive Py : Nat → D → Prop where
  | non {n} : Py n .non
  | bl {n} (b : Bool) : Py n (.bl b)
  | int {n} (i : Int) : Py n (.int i)
  | str {n} (x : Str) (hx : (PyData.str x).canLay0 = true) : Py n (.str x)
  | tup {n} {l : List D} (h : ∀ x ∈ l, Py n x) : Py (n + 1) (.tup l)
  | lst {n} {l : List D} (h : ∀ x ∈ l, Py n x) : Py (n + 1) (.lst l)
  | fro {n} {l : List D} (h : ∀ x ∈ l, Py n x) : Py (n + 1) (.fro l)
theorem py_list {m n : Nat} : ∀ (l : List D), (∀ x ∈ l, ∃ p, D.py h m x = some p ∧ p.canLay0 = true ∧ p.depth ≤ n) → ∃ ps, l.mapM (D.py h m) = some ps ∧ PyData.canLayAll0 ps = true ∧ PyData.depthAll ps ≤ n
  | [], _ => ⟨[], rfl, rfl, Nat.zero_le _⟩
  | x :: l, H => by
    obtain ⟨p, e1, e2, e3⟩ := H x (by simp)
    obtain ⟨ps, f1, f2, f3⟩ := py_list l fun y hy => H y (by simp [hy])
    refine ⟨p :: ps, by rw [List.mapM_cons, e1, f1]; rfl, by simp [PyData.canLayAll0, e2, f2], ?_⟩
    unfold PyData.depthAll
    omega
theorem Py.has {n : Nat} {d : D} (p : Py n d) : ∀ m, n < m → ∃ q, D.py h m d = some q ∧ q.canLay0 = true ∧ q.depth ≤ n + 1 := by
  induction p with
  | non => exact fun m hm => by cases m with
    | zero => exact absurd hm (Nat.not_lt_zero _)
    | succ m => exact ⟨_, rfl, rfl, by simp [PyData.depth]⟩
  | bl b => exact fun m hm => by cases m with
    | zero => exact absurd hm (Nat.not_lt_zero _)
    | succ m => exact ⟨_, rfl, rfl, by simp [PyData.depth]⟩
  | int b => exact fun m hm => by cases m with
    | zero => exact absurd hm (Nat.not_lt_zero _)
    | succ m => exact ⟨_, rfl, rfl, by simp [PyData.depth]⟩
  | str x hx => exact fun m hm => by cases m with
    | zero => exact absurd hm (Nat.not_lt_zero _)
    | succ m => exact ⟨_, rfl, hx, by simp [PyData.depth]⟩
  | @tup n l _ ih => exact fun m hm => by cases m with
    | zero => exact absurd hm (Nat.not_lt_zero _)
    | succ m =>
      obtain ⟨ps, f1, f2, f3⟩ := py_list (h := h) (m := m) (n := n + 1) l fun x hx => ih x hx m (by omega)
      refine ⟨.tuple ps, ?_, f2, by simp [PyData.depth]; omega⟩
      show (l.mapM (D.py h m)).map PyData.tuple = _
      rw [f1]
      rfl
  | @lst n l _ ih => exact fun m hm => by cases m with
    | zero => exact absurd hm (Nat.not_lt_zero _)
    | succ m =>
      obtain ⟨ps, f1, f2, f3⟩ := py_list (h := h) (m := m) (n := n + 1) l fun x hx => ih x hx m (by omega)
      refine ⟨.list ps, ?_, f2, by simp [PyData.depth]; omega⟩
      show (l.mapM (D.py h m)).map PyData.list = _
      rw [f1]
      rfl
  | @fro n l _ ih => exact fun m hm => by cases m with
    | zero => exact absurd hm (Nat.not_lt_zero _)
    | succ m =>
      obtain ⟨ps, f1, f2, f3⟩ := py_list (h := h) (m := m) (n := n + 1) l fun x hx => ih x hx m (by omega)
      refine ⟨.list ps, ?_, f2, by simp [PyData.depth]; omega⟩
      show (l.mapM (D.py h m)).map PyData.list = _
      rw [f1]
      rfl
theorem Py.eq {n : Nat} {d : D} (p : Py n d) (hn : n ≤ 30) : eqD h d d = some true := by
  obtain ⟨q, e1, e2, e3⟩ := p.has (h := h) 40 (by omega)
  have e4 : SeqAt.shaped q = true := by
    unfold SeqAt.shaped
    rw [e2]
    simp
    omega
  have gen : (match D.py h 40 d, D.py h 40 d with
      | some p, some q => if SeqAt.shaped p = true ∧ SeqAt.shaped q = true then some (PyData.eqv p q) else none
      | _, _ => none) = some true := by
    rw [e1]
    dsimp only
    rw [if_pos ⟨e4, e4⟩, SeqAt.eqv_refl q e2]
  cases p with
  | non => rfl
  | bl b => simp [eqD]
  | int b => simp [eqD]
  | str x _ => simp [eqD]
  | tup _ => exact gen
  | lst _ => exact gen
  | fro _ => exact gen
theorem Py.ne_ok {n : Nat} {d : D} (p : Py n d) (hn : n ≤ 30) : oNe d d h = .ok (.bl false) h := by
  unfold oNe
  rw [p.eq hn]
  rfl
theorem Py.eq_ok {n : Nat} {d : D} (p : Py n d) (hn : n ≤ 30) : oEq d d h = .ok (.bl true) h := by
  unfold oEq
  rw [p.eq hn]
theorem py_nums (l : List Nat) {n : Nat} : Py (n + 1) (.lst (dnums l)) := .lst fun x hx => by
  obtain ⟨a, _, rfl⟩ := List.mem_map.mp hx
  exact .int _
theorem frz_at {st : Slots} {i n : Nat} {f : Ss} {l : List D} (e : st[i]? = some (some (.ref n))) (hn : h[n]? = some (some (.lst l))) : sFrz i f st h = f (st.set i (some (.lst l))) (h.set n none) := by
  unfold sFrz
  rw [e]
  dsimp only
  rw [hn]
theorem list_lst (l : List D) : fList false [.lst l] h = .ok (.lst l) h := rfl
end
end Gm

/-! Gm27: raising an own class whose __init__ keeps one field. -/
namespace Gm
open PySem PySem.Spec PyProof.Rows L2
section
variable {X : Cx} {x : Str} {C fI : Addr} {k : Nat} {fd : FuncData} {ps : List Str} {sp : Sp} {ds : List Value} {dvs : List V} {p pos : Pos} {ta : TA}
/-- the making, the arguments known -/
theorem mk_core (T : OexC X.K C) (iC : PySem.W.findIn X.K (.ref C) "__init__" = some (some (.ref fI))) (tI : PySem.W.typeIn X.K (.ref fI) = some (.type "function"))
    (F1 : FnOk X.prog X.w X.K X.mg X.base (L2N.CX X.prog X.w) k fI fd ps sp) (hr : Room (k + 1) X.A) (hb : L2.Binds X.K fd ps ds) (hd : Vals dvs ds) {pins : List (Addr × Obj)} {σ : L2.St} {Q : XK} {us : List Value} {vs : List V} {H1 : Hp} {s1 : Shared}
    (I1 : Inv X pins σ H1 s1) (r1 : Vals vs us) (hz : vs.length ≤ 1000) (q1 : ∀ a, H1 a = none → sp (.ref a :: (vs ++ dvs)) (upd H1 a (exo a C none))
      (fun v H2 => v = .non ∧ ∃ (d : Addr) (fs : List (Str × V)), H2 a = some (exo a C (some d)) ∧ H2 d = some (exd d fs) ∧ H1 d = none ∧ Q (.ref C) (some d) (upd (del H2 a) d (.xd fs))) (fun _ _ _ => False)) :
    wpAny (model X.prog X.w) X.A (call (.ref C) us) (L2N.MkP X pins σ Q) X.xe s1 := by
  obtain ⟨nm, q, N, bs, bm, sn, sub, ab, col, dd, k0, k1, k2, k3, k5, hC, hbm⟩ := T.cls
  obtain ⟨hp, g, dr, tk, os⟩ := s1
  have up : hp.objs.size ≤ hp.objs.size + 1 := Nat.le_succ _
  have hn : H1 (hp.objs.size + 1) = none := I1.hok.fresh up
  have hq := q1 (hp.objs.size + 1) hn
  have kp : ∀ b o, hp.get? b = some o → ((hp.push (PySem.W.kdv_tup us)).push (PySem.HandSPX.excO C hp.objs.size)).get? b = some o := fun b o e => Heap.get?_push_of_some _ (Heap.get?_push_of_some _ e)
  have hget : ((hp.push (PySem.W.kdv_tup us)).push (PySem.HandSPX.excO C hp.objs.size)).get? (hp.objs.size + 1) = some (PySem.HandSPX.excO C hp.objs.size) := by heap_get
  have I2 : Inv X pins σ (upd H1 (hp.objs.size + 1) (exo (hp.objs.size + 1) C none)) ⟨(hp.push (PySem.W.kdv_tup us)).push (PySem.HandSPX.excO C hp.objs.size), g, dr, tk, os⟩ :=
    I1.laid (t' := tk) (a := hp.objs.size + 1) (o := exo (hp.objs.size + 1) C none) (h' := (hp.push (PySem.W.kdv_tup us)).push (PySem.HandSPX.excO C hp.objs.size)) kp up (exo_ok hget)
  have r2 : Vals (V.ref (hp.objs.size + 1) :: (vs ++ dvs)) (Value.ref (hp.objs.size + 1) :: (us ++ ds)) := .cons rfl (r1.append hd)
  have hl : (Value.ref (hp.objs.size + 1) :: us ++ ds).length = ps.length := by
    have e := r2.length
    rw [F1.len _ _ _ _ hq] at e
    exact e.symm
  have hus : us.length ≤ sizeLine := by
    rw [← Paired.length r1, sizeLine_eq]
    omega
  refine wpAny_call (PySem.HandSPX.call_own PySem.F.excBase_ValueError (fun Y => PySem.HandSPX.refsVE_contains Y bm hbm) (I1.kIn _ _ hC) (PySem.W.looks_findIn I1.kIn iC) (fun self => PySem.W.bind_fn I1.kIn self tI) hus
    (codeAny_mono (F1.run _ X.stack _ _ ⟨Value.ref (hp.objs.size + 1) :: us, []⟩ (Value.ref (hp.objs.size + 1) :: (us ++ ds)) _ _ (fun _ _ _ => False) (hr.make C us []) (I2.env0.make C us []) (hb _ (Value.ref (hp.objs.size + 1) :: us) I2.kIn hl) r2 hq) fun r s' hq' => ?_))
  cases r with
  | error er =>
    obtain ⟨_, _, _, _, _, _, _, _, _, _, _, _, z⟩ := (show L2N.CX X.prog X.w X.stack _ _ (fun _ _ _ => False) er s' from hq')
    exact z.elim
  | ok fl =>
    cases fl with
    | ret u =>
      obtain ⟨v, H2, os2, bare2, un2, hok2, rv, ev, d, fs, ea, ed, hd1, q2⟩ := hq'
      subst ev
      obtain ⟨h2, g2, d2, t2, os'⟩ := s'
      obtain ⟨t0, G, J, kG, ge, hoe, na⟩ := mk_end0 (d2 := d2) (t2 := t2) I1 up kp un2 hok2 os2 bare2 ea ed hd1
      exact ⟨rv, hp.objs.size + 1, _, _, ⟨G, g2, d2, t2, os'⟩, _, .ref C, some d, rfl, J, kG, ge, hoe, ⟨rfl, rfl, fun vs hv => by cases hv; rfl⟩, rfl, rfl, na, rfl, bare2, raises_own T.exC T.tyC, q2⟩
    | next => exact False.elim hq'
    | brk => exact False.elim hq'
    | cont => exact False.elim hq'
theorem mk_args {e : Expr} {es : List Expr} (T : OexC X.K C) (iC : PySem.W.findIn X.K (.ref C) "__init__" = some (some (.ref fI))) (tI : PySem.W.typeIn X.K (.ref fI) = some (.type "function"))
    (F1 : FnOk X.prog X.w X.K X.mg X.base (L2N.CX X.prog X.w) k fI fd ps sp) (hr : Room (k + 1) X.A) (hb : L2.Binds X.K fd ps ds) (hd : Vals dvs ds) (hg : Gl X x) (hm : X.mg x = some (.ref C)) (ha : PA X (e :: es) ta)
    (hdb : (x == ("__debug__" : Str)) = false := by decide) (he : starEach (e :: es) X.env = (false, eval e X.env) :: starEach es X.env := by rfl) (hpl : (backTo pos (starEach es X.env)).any (·.1) = false := by rfl) :
    L2N.PMk X (.Call (.Name x p) (e :: es) [] pos) (tMkO C sp dvs ta) := by
  intro pins s σ H Q I h
  refine wpAny_Call_Name_kw (ld_glob I hg hm ?_ hdb)
  exact PySem.W.callWith_K (h₀ := X.base) I.ok.mod.kin T.kC (thn (ha.run pos pins s σ H _ I h) fun us s1 ⟨vs, H1, I1, r1, hz, q1⟩ => ⟨I1.kIn, mk_core T iC tI F1 hr hb hd I1 r1 hz q1⟩) he hpl
theorem mk_none (T : OexC X.K C) (iC : PySem.W.findIn X.K (.ref C) "__init__" = some (some (.ref fI))) (tI : PySem.W.typeIn X.K (.ref fI) = some (.type "function"))
    (F1 : FnOk X.prog X.w X.K X.mg X.base (L2N.CX X.prog X.w) k fI fd ps sp) (hr : Room (k + 1) X.A) (hb : L2.Binds X.K fd ps ds) (hd : Vals dvs ds) (hg : Gl X x) (hm : X.mg x = some (.ref C)) (hdb : (x == ("__debug__" : Str)) = false := by decide) :
    L2N.PMk X (.Call (.Name x p) [] [] pos) (tMkO C sp dvs tNil) := by
  intro pins s σ H Q I ⟨hz, q1⟩
  refine wpAny_Call_Name_kw (ld_glob I hg hm ?_ hdb)
  exact PySem.W.callWith_K0 I.kIn T.kC (mk_core T iC tI F1 hr hb hd I .nil hz q1)
end
/-! ### the __init__: self.f = f -/
def spIni (K : PySem.W.Frag) (f : Str) : Sp := fun vs H Q _ => ∃ (a C : Addr) (y : V), vs = [.ref a, y] ∧ OexC K C ∧ PySem.W.findIn K (.ref C) f = some none ∧ H a = some (exo a C none) ∧ ∀ dx, H dx = none → dx ≠ a → Q .non (upd (upd H dx (exd dx [(f, y)])) a (exo a C (some dx)))
theorem ini_ok {P : Program} {w : World} {K : PySem.W.Frag} {mg : Str → Option Value} {base : Heap} {x qual s0 f n : Str} {params : Arguments} {scope : Scope} {dvs : List V} {kws : List (Str × V)} {fI : Addr} {fd : FuncData} {p1 p2 p3 p4 : Pos}
    (F : FunD K x qual params [.Assign [.Attribute (.Name s0 p1) f p2] (.Name n p3) p4] scope dvs kws fI fd) (S : FnScope [s0, n] [s0, n] scope) (v0 : Vis scope s0) (v1 : Vis scope n)
    (d1 : (s0 == ("__debug__" : Str)) = false) (d2 : (s0 == ("__classdict__" : Str)) = false) (d3 : (n == ("__debug__" : Str)) = false) (d4 : (n == ("__classdict__" : Str)) = false) :
    FnOk P w K mg base (L2N.CX P w) 1 fI fd [s0, n] (spIni K f) := by
  refine FunD.ok F S (fun vs H Q E ⟨a, C, y, e, _⟩ => by rw [e]; rfl) fun cdv A outer s H vs Q E hr ⟨a, C, y, e, T, hno, ea, q⟩ => ?_
  subst e
  exact ⟨_, pss_one (ps_ost (pe_var (i := 0) rfl v0 d1 d2) (pe_var (i := 1) rfl v1 d3 d4)), y, rfl, .ref a, rfl, a, C, rfl, T, hno, .inl ⟨ea, fun dx n1 n2 => q dx n1 n2⟩⟩
/-! ### over the readings of data -/
/-- what is known of such a class: its __init__ keeps the field f; dfl: the defaults -/
structure ExIni (P : Program) (w : World) (K : PySem.W.Frag) (mg : Str → Option Value) (base : Heap) (c : Cf) (x f : Str) (n : Nat) (dfl : List D) : Prop where
  ex : ∃ (fI : Addr) (fd : FuncData) (ps : List Str) (ds : List Value) (dvs : List V), OexC K (He.ga K x) ∧ PySem.W.findIn K (.ref (He.ga K x)) "__init__" = some (some (.ref fI)) ∧ PySem.W.typeIn K (.ref fI) = some (.type "function") ∧
    PySem.W.findIn K (.ref (He.ga K x)) f = some none ∧ FnOk P w K mg base (L2N.CX P w) 1 fI fd ps (spIni K f) ∧ L2.Binds K fd ps ds ∧ Vals dvs ds ∧ mg x = some (.ref (He.ga K x)) ∧ ps.length = 2 ∧ dvs.length + n = 1 ∧ ∀ g L, RVs c g L dfl dvs
def sRaiseF (x f : Str) (dfl : List D) (fs : Ev (List D)) : Ss := fun st h => (fs st h).out st fun ds h1 => match ds ++ dfl with
  | [d] => .exc ⟨x, some (f, d)⟩ st h1
  | _ => .no
theorem del_new {H : Hp} {a d C : Addr} {y : V} {f : Str} (ha : H a = none) (hd : d ≠ a) : upd (del (upd (upd (upd H a (exo a C none)) d (exd d [(f, y)])) a (exo a C (some d))) a) d (.xd [(f, y)]) = upd H d (.xd [(f, y)]) := by
  funext b
  by_cases e1 : b = d
  · rw [e1, upd_same, upd_same]
  · rw [upd_ne e1, upd_ne e1]
    by_cases e2 : b = a
    · rw [e2, del_same, ha]
    · rw [del_ne e2, upd_ne e2, upd_ne e1, upd_ne e2]
section
variable {c : Cf} {W : WX} {X : Cx} {x f : Str} {p pos rpos : Pos} {dfl : List D} {fs : Ev (List D)}
theorem raise_to {n : Nat} {e : Expr} (hcl : ∀ n, c.cl n = some (He.ga X.K n)) (hc : X.calm = true) (tk : L2N.Takes X W) {dvs : List V} (rd : ∀ g L, RVs c g L dfl dvs) (T : OexC X.K (He.ga X.K x)) (hno : PySem.W.findIn X.K (.ref (He.ga X.K x)) f = some none) (hl : dvs.length + n = 1)
    (mk : L2N.PMk X e (tMkO (He.ga X.K x) (spIni X.K f) dvs (tAr c W fs))) : PS X (.Raise (some e) none rpos) (tSt c W (sRaiseF x f dfl fs)) :=
  PS.imp (L2N.ps_raise hc tk mk) fun D σ H ⟨st, h, g, S, sl, q⟩ => by
    refine ⟨st, h, g, S, sl, RP.mono (OP.out sl q) fun vs H1 ⟨d1, h1, g1, o1, S1, r1, q1⟩ => ?_⟩
    have r2 := RVs.append r1 (rd g1 h1.length)
    split at q1
    · rename_i d ed
      rw [ed] at r2
      generalize ev : vs ++ dvs = zs at r2
      cases r2 with
      | @cons _ y _ _ ry rr =>
        cases rr
        have lv : vs.length ≤ 1 := by
          have := congrArg List.length ev
          simp at this
          omega
        refine ⟨by omega, fun a na => ?_⟩
        refine ⟨a, He.ga X.K x, y, rfl, T, hno, upd_same, fun dx n1 n2 => ⟨rfl, dx, [(f, y)], upd_same, ?_, ?_, ?_⟩⟩
        · rw [upd_ne n2, upd_same]
        · rw [upd_ne n2] at n1
          exact n1
        · rw [del_new na n2]
          have nd : H1 dx = none := by
            rw [upd_ne n2] at n1
            exact n1
          obtain ⟨S2, o2⟩ := S1.tree (o := .xd [(f, y)]) nd
          exact q1 _ _ σ _ _ o2 S2 ((sl.go o1).go o2) ⟨_, hcl x, rfl, dx, y, rfl, upd_same, ry.mono o2.gx (Nat.le_refl _)⟩
    · exact q1.elim
theorem s_raiseF0 {k : Nat} (hcl : ∀ n, c.cl n = some (He.ga X.K n)) (hc : X.calm = true) (tk : L2N.Takes X W) (G : ExIni X.prog X.w X.K X.mg X.base c x f 0 dfl) (hr : Room (k + 2) X.A) (hg : Gl X x) (hd : (x == ("__debug__" : Str)) = false := by decide) :
    PS X (.Raise (some (.Call (.Name x p) [] [] pos)) none rpos) (tSt c W (sRaiseF x f dfl cNil)) := by
  obtain ⟨fI, fd, ps, ds, dvs, T, iC, tI, hno, F1, hb, hv, hm, hp, hl, rd⟩ := G.ex
  refine raise_to (n := 0) (fs := cNil) hcl hc tk rd T hno hl fun pins s σ H Q I h => mk_none T iC tI F1 (hr.mono (by omega)) hb hv hg hm hd pins s σ H Q I ?_
  obtain ⟨st, h0, g, S, sl, q⟩ := h
  exact RP.ok_here q S .nil
theorem s_raiseF1 {k : Nat} {e : Expr} {es : List Expr} (hcl : ∀ n, c.cl n = some (He.ga X.K n)) (hc : X.calm = true) (tk : L2N.Takes X W) (G : ExIni X.prog X.w X.K X.mg X.base c x f 1 []) (hr : Room (k + 2) X.A) (hg : Gl X x) (ha : PA X (e :: es) (tAr c W fs)) (hd : (x == ("__debug__" : Str)) = false := by decide)
    (he : starEach (e :: es) X.env = (false, eval e X.env) :: starEach es X.env := by rfl) (hpl : (backTo pos (starEach es X.env)).any (·.1) = false := by rfl) :
    PS X (.Raise (some (.Call (.Name x p) (e :: es) [] pos)) none rpos) (tSt c W (sRaiseF x f [] fs)) := by
  obtain ⟨fI, fd, ps, ds, dvs, T, iC, tI, hno, F1, hb, hv, hm, hp, hl, rd⟩ := G.ex
  exact raise_to (n := 1) hcl hc tk rd T hno hl (mk_args T iC tI F1 (hr.mono (by omega)) hb hv hg hm ha hd he hpl)
end
/-! ### what is seen of such a class -/
def oexB (K : PySem.W.Frag) (C : Addr) : Bool := match K.lookup C with
  | some ⟨.type c, _, .cls cd, sl⟩ => (match cd.mro, sl.toList with
    | .ref C' :: bm, [_, _, _, _, some (.builtin n), _] => decide (c = "type") && (C' == C && (n == "ValueError.__new__" && (!cd.hasDel && (cd.hasDict && PySem.HandSPX.refsVE bm))))
    | _, _ => false)
  | _ => false
def oexAll (K : PySem.W.Frag) (C : Addr) : Bool := oexB K C && (He.eqO (PySem.W.findIn K (.ref C) "__setattr__") (some (some (.builtin "object.__setattr__"))) && (decide (PySem.W.subIn K (.ref C) (.type "BaseException") = some true) && (decide (PySem.W.typeIn K (.ref C) = some (.type "type")) && PySem.W.keepIn K (.ref C))))
theorem oex_of {K : PySem.W.Frag} {C : Addr} (h : oexAll K C = true) : OexC K C := by
  unfold oexAll at h
  simp only [Bool.and_eq_true, decide_eq_true_eq] at h
  obtain ⟨q, h2, h3, h4, h5⟩ := h
  refine ⟨?_, He.eqO_ok h2, h3, h4, h5⟩
  unfold oexB at q
  split at q
  · rename_i c dd cd sl ho
    split at q
    · rename_i C' bm k0 k1 k2 k3 n k5 hm hs
      simp only [Bool.and_eq_true, beq_iff_eq, Bool.not_eq_true', decide_eq_true_eq] at q
      obtain ⟨rfl, rfl, rfl, hdel, hdict, ht⟩ := q
      obtain ⟨nm, bs, mro, ns, qn, hd, sn, sub, ab, col, del⟩ := cd
      dsimp only at hm hdel hdict
      subst hm hdel hdict
      have hsl : sl = #[k0, k1, k2, k3, some (.builtin "ValueError.__new__"), k5] := by
        obtain ⟨l⟩ := sl
        simp only at hs
        rw [hs]
      subst hsl
      exact ⟨nm, qn, ns, bs, bm, sn, sub, ab, col, dd, k0, k1, k2, k3, k5, ho, ht⟩
    · cases q
  · cases q
def iniB (K : PySem.W.Frag) (x f : Str) : Bool := oexAll K (He.ga K x) && (He.eqO (PySem.W.findIn K (.ref (He.ga K x)) "__init__") (some (some (.ref (He.ma K (He.ga K x) "__init__")))) && (decide (PySem.W.typeIn K (.ref (He.ma K (He.ga K x) "__init__")) = some (.type "function")) &&
  He.eqO (PySem.W.findIn K (.ref (He.ga K x)) f) (some none)))
theorem exIni_of {P : Program} {w : World} {K : PySem.W.Frag} {mg : Str → Option Value} {base : Heap} {c : Cf} {x f : Str} {fd : FuncData} {ps : List Str} {dvs : List V} {n : Nat} {dfl : List D} (b : iniB K x f = true) (hm : mg x = some (.ref (He.ga K x))) (hp : ps.length = 2)
    (F1 : FnOk P w K mg base (L2N.CX P w) 1 (He.ma K (He.ga K x) "__init__") fd ps (spIni K f)) (hb : ∃ ds, Vals dvs ds ∧ L2.Binds K fd ps ds) (hl : dvs.length + n = 1) (rd : ∀ g L, RVs c g L dfl dvs) : ExIni P w K mg base c x f n dfl := by
  unfold iniB at b
  simp only [Bool.and_eq_true, decide_eq_true_eq] at b
  obtain ⟨b1, b2, b3, b4⟩ := b
  obtain ⟨ds, hv, hb⟩ := hb
  exact ⟨_, fd, ps, ds, dvs, oex_of b1, He.eqO_ok b2, b3, He.eqO_ok b4, F1, hb, hv, hm, hp, hl, rd⟩
/-! ### classes in the text -/
def clsBody (s : Stmt) : List Stmt := match s with
  | .ClassDef _ _ _ b _ _ _ _ _ _ _ => b
  | _ => []
def methAt (s : Stmt) (j : Nat) : Stmt := (clsBody s).getD j (.Pass ⟨0, 0, 0, 0⟩)
end Gm

/-! Gm28: a def called with keywords alone, or with its keywords in the other order. -/
namespace Gm
open PySem PySem.Spec PyProof.Rows L2
theorem vals_rev : ∀ {vs : List V} {us : List Value}, Vals vs us → Vals vs.reverse us.reverse
  | _, _, .nil => .nil
  | _, _, .cons r rs => by
    rw [List.reverse_cons, List.reverse_cons]
    exact (vals_rev rs).append (.cons r .nil)
theorem rvs_rev {c : Cf} {g : Gh} {L : Nat} : ∀ {ds : List D} {vs : List V}, RVs c g L ds vs → RVs c g L ds.reverse vs.reverse
  | _, _, .nil => .nil
  | _, _, .cons r rs => by
    rw [List.reverse_cons, List.reverse_cons]
    exact (rvs_rev rs).append (.cons r .nil)
section
variable {P : Program} {w : World} {K : PySem.W.Frag} {mg : Str → Option Value} {base : Heap} {c : Cf} {x qual : Str} {params : Arguments} {body : List Stmt} {scope : Scope} {kws : List (Str × V)} {f : Addr} {fd : FuncData} {ps : List Str} {k : Nat} {F : FnT}
/-- the keywords stand in the other order -/
theorem callOk_rev (FD : FunD K x qual params body scope [] kws f fd) (hm : mg x = some (.ref f)) (ok : FnOk P w K mg base (L2N.CX P w) k f fd ps (spOf c F)) (n : Nat) (ks : List Str)
    (hb : ∀ (kV doc pm : Value) (an : Option Addr) (cdv ct : Value) (us ws : List Value), us.length = n → ws.length = ks.length → bindArgs (PySem.W.fnOf x qual params body scope .none kV doc pm an cdv ct) ⟨us, ks.zip ws⟩ = pure (ps.zip (us ++ ws.reverse))) :
    CallOkK P w K mg base c x k F n ks (fun ds es => ds ++ es.reverse) := by
  refine ⟨f, fd, ps, fun vs zs => vs ++ zs.reverse, fun us ws => us ++ ws.reverse, hm, ok, FD.kp, ⟨fun s us ws X l1 l2 => ?_, fun r1 r2 => r1.append (vals_rev r2)⟩, fun g L ds vs es ws r1 r2 => r1.append (rvs_rev r2)⟩
  obtain ⟨oc, od, dV, kV, doc, pm, an, cdv, ct, osl, e, _, _, hD, _⟩ := FD.ex
  rcases hD with ⟨_, e2⟩ | ⟨z, _⟩
  · rw [e, e2]
    exact .of_eq (hb kV doc pm an cdv ct us ws l1 l2)
  · exact absurd rfl z
end
section
variable {X : Cx} {CX : CXT} {k n m : Nat} {f : Addr} {fd : FuncData} {ps ks : List Str} {sp : Sp} {E : XK} {x : Str} {p pos : Pos} {kws : List Keyword} {tk : TA} {g : List Value → List Value → List Value} {gV : List V → List V → List V}
/-- f(k = v, ..) -/
theorem pe_callN0 (F : FnOk X.prog X.w X.K X.mg X.base CX k f fd ps sp) (hr : Room k X.A) (hg : Gl X x) (hm : X.mg x = some (.ref f)) (hk : PySem.W.keepIn X.K (.ref f) = true) (hb : KBn X.K fd ps 0 ks g gV) (hx : Passes CX X E)
    (hkw : PK X kws tk) (hall : (backToKw pos (keywordEach kws X.env)).all (·.1.isSome) = true) (hks : (backToKw pos (keywordEach kws X.env)).filterMap (·.1) = ks)
    (hdb : (x == ("__debug__" : Str)) = false) (hpl : ((backTo pos (starEach [] X.env)).any (·.1) || (backToKw pos (keywordEach kws X.env)).any (·.1.isNone)) = false) :
    PE X (.Call (.Name x p) [] kws pos) (fun σ H Q => tk σ H fun zs H2 => zs.length = ks.length ∧ sp (gV [] zs) H2 Q E) := by
  refine ⟨fun pins s σ H Q I h => ?_⟩
  refine wpAny_Call_Name_kw (ld_glob I hg hm ?_ hdb)
  refine PySem.W.callWith_KW0 (h₀ := X.base) I.ok.mod.kin hk hall (thn (hkw.run pos pins s σ H _ I h) fun ws s2 ⟨zs, H2, I2, rz, l2, q2⟩ => ⟨I2.kIn, ?_⟩) hpl
  rw [hks]
  exact run_fnN (us := []) (vs := []) F hr hb hx I2 .nil rz rfl l2 q2
theorem e_callK0 {c : Cf} {W : WX} {fk : Ev (List D)} {F : FnT} {gD : List D → List D → List D} {j : Nat} (G : CallOkK X.prog X.w X.K X.mg X.base c x k F 0 ks gD) (hr : Room j X.A) (hj : k ≤ j) (hg : Gl X x) (hx : Passes (L2N.CX X.prog X.w) X E) (hW : ∀ cls dd σ H, W cls dd σ H → E cls dd H)
    (hkw : L2.PK X kws (tAr c W fk)) (hall : (backToKw pos (keywordEach kws X.env)).all (·.1.isSome) = true := by rfl) (hks : (backToKw pos (keywordEach kws X.env)).filterMap (·.1) = ks := by rfl)
    (hdb : (x == ("__debug__" : Str)) = false := by decide) (hpl : ((backTo pos (starEach [] X.env)).any (·.1) || (backToKw pos (keywordEach kws X.env)).any (·.1.isNone)) = false := by rfl) (hlen : ks.length = m := by rfl) :
    PE X (.Call (.Name x p) [] kws pos) (tEv c W (cCallK F 0 m gD cNil fk)) := by
  subst hlen
  obtain ⟨f, fd, ps, gV, gU, hm, G, hk, hb, rd⟩ := G
  refine PE.imp (pe_callN0 G (hr.mono hj) hg hm hk hb hx hkw hall hks hdb hpl) fun σ H Q ⟨st, h, g, S, sl, q⟩ => ?_
  have q : RP c (Rv c) g h H ((fk st h).bind fun es h2 => if ([] : List D).length = 0 ∧ es.length = ks.length then F (gD [] es) h2 else .no) Q (fun cls dd H' => W cls dd σ H') := q
  refine ⟨st, h, g, S, sl, RP.mono q.bind fun zs H2 ⟨es', h2, g2, o2, S2, r2, q2⟩ => ?_⟩
  by_cases hl : es'.length = ks.length
  · have q2 := q2
    rw [if_pos (show ([] : List D).length = 0 ∧ es'.length = ks.length from ⟨rfl, hl⟩)] at q2
    refine ⟨by rw [← r2.length]; exact hl, gD [] es', h2, g2, S2, rd _ _ _ _ _ _ .nil r2, ?_⟩
    cases er : F (gD [] es') h2 with
    | ok d h3 => rw [er] at q2; exact q2
    | exc ee h3 => rw [er] at q2; exact fun g' H' cls dd o S' rx => hW _ _ _ _ (q2 g' H' cls dd o S' rx)
    | no => rw [er] at q2; exact q2
  · rw [if_neg (fun z : ([] : List D).length = 0 ∧ es'.length = ks.length => hl z.2)] at q2
    exact q2.elim
end
end Gm

/-! Gm29: sorted(set(xs)) of a list of ints. -/
namespace Gm
open PySem PySem.Spec PyProof.Rows L2
/-! ### distinct ints in order -/
def insU (x : Int) : List Int → List Int
  | [] => [x]
  | y :: r => if x < y then x :: y :: r else if x = y then y :: r else y :: insU x r
def sortU : List Int → List Int
  | [] => []
  | x :: r => insU x (sortU r)
theorem insU_mem {x k : Int} : ∀ {l : List Int}, k ∈ insU x l ↔ k = x ∨ k ∈ l
  | [] => by simp [insU]
  | y :: r => by
    unfold insU
    split
    · simp
    · split
      · rename_i e
        subst e
        simp
      · rw [List.mem_cons, insU_mem (l := r), List.mem_cons]
        constructor
        · rintro (h | h | h) <;> simp [h]
        · rintro (h | h | h) <;> simp [h]
theorem sortU_mem {k : Int} : ∀ {l : List Int}, k ∈ sortU l ↔ k ∈ l
  | [] => by simp [sortU]
  | x :: r => by
    unfold sortU
    rw [insU_mem, sortU_mem (l := r), List.mem_cons]
theorem insU_pw {x : Int} : ∀ {l : List Int}, l.Pairwise (· < ·) → (insU x l).Pairwise (· < ·)
  | [], _ => by simp [insU]
  | y :: r, h => by
    obtain ⟨h1, h2⟩ := List.pairwise_cons.mp h
    unfold insU
    split
    · rename_i lt
      refine List.pairwise_cons.mpr ⟨fun z hz => ?_, h⟩
      rcases List.mem_cons.mp hz with rfl | hz
      · exact lt
      · have := h1 z hz; omega
    · split
      · exact h
      · refine List.pairwise_cons.mpr ⟨fun z hz => ?_, insU_pw h2⟩
        rcases insU_mem.mp hz with rfl | hz
        · omega
        · exact h1 z hz
theorem sortU_pw : ∀ (l : List Int), (sortU l).Pairwise (· < ·)
  | [] => .nil
  | x :: r => insU_pw (sortU_pw r)
theorem pw_uniq : ∀ {l k : List Int}, l.Pairwise (· < ·) → k.Pairwise (· < ·) → (∀ x, x ∈ l ↔ x ∈ k) → l = k
  | [], [], _, _, _ => rfl
  | [], y :: k, _, _, h => absurd ((h y).mpr (by simp)) (by simp)
  | x :: l, [], _, _, h => absurd ((h x).mp (by simp)) (by simp)
  | x :: l, y :: k, hl, hk, h => by
    obtain ⟨l1, l2⟩ := List.pairwise_cons.mp hl
    obtain ⟨k1, k2⟩ := List.pairwise_cons.mp hk
    have e : x = y := by
      rcases List.mem_cons.mp ((h x).mp (by simp)) with e | e
      · exact e
      · rcases List.mem_cons.mp ((h y).mpr (by simp)) with e2 | e2
        · exact e2.symm
        · have a := k1 x e
          have b := l1 y e2
          omega
    subst e
    congr 1
    refine pw_uniq l2 k2 fun z => ?_
    constructor
    · intro hz
      rcases List.mem_cons.mp ((h z).mp (by simp [hz])) with e | e
      · have := l1 z hz; omega
      · exact e
    · intro hz
      rcases List.mem_cons.mp ((h z).mpr (by simp [hz])) with e | e
      · have := k1 z hz; omega
      · exact e
theorem insU_len (x : Int) : ∀ l : List Int, (insU x l).length ≤ l.length + 1
  | [] => by simp [insU]
  | y :: r => by
    unfold insU
    split
    · simp
    · split
      · simp
      · have := insU_len x r
        simp
        omega
theorem sortU_len : ∀ l : List Int, (sortU l).length ≤ l.length
  | [] => Nat.le_refl 0
  | x :: r => by
    have := insU_len x (sortU r)
    have := sortU_len r
    unfold sortU
    simp
    omega
/-! ### the set -/
section
variable {P : Program} {w : World} {A : Around} {E : Value → Shared → Prop} {s : Shared}
abbrev setN (w : World) : Obj := { cls := .type "set", dict := none, data := .set #[] 0 (.fresh 0 0 (!w.params.followText "set-order")) }
/-- set(l), l a list of ints: its order stays told -/
theorem call_setI {l : Addr} {its : Array Value} (ns : List Int) {Q : Value → Shared → Prop} (hh : A.handled = none) (hl : s.heap.IsList l its) (hi : IntsAre its.toList ns) (hb : ns.length + 1 < scanBound)
    (h : ∀ (h' : Heap) (tk c : Nat), SetR w h' s.heap.objs.size (fun j => decide (j ∈ ns)) c → c ≤ ns.length → (∀ b o, s.heap.get? b = some o → h'.get? b = some o) → Q (.ref s.heap.objs.size) { s with heap := h', toks := tk }) :
    wpAny (model P w) A (call (.type "set") [.ref l]) Q E s := by
  have many : its.size = ns.length := by
    have q := IntsAre.length hi
    rwa [Array.length_toList] at q
  obtain ⟨cx, tl, hmro⟩ := F.called_set.mro
  have hmade := F.called_set.made
  have hsub := F.called_set.sub
  refine wpAny_call (codeAny_of_tree ?_)
  show wpAny _ _ (callAny (.type "set") _) _ _ _
  refine wpAny_pure ⟨Code.quiet_builtin _ (by decide +kernel), codeAny_builtin F.entry_type_call ?_⟩
  rw [Around.under_plain (weight_type_call_type "set" [.ref l] []) rfl]
  have h1 := F.called_set.notType
  have h2 := F.called_set.canCreate
  have hct := F.typeCall_set_1 (.ref l)
  repeat (any_goals (first | assumption | wp_step))
  refine codeAny_mono (code_set_led1 (.ref l) (E := E) (Q₁ := fun o1 s1 => o1 = .ref s.heap.objs.size ∧ s1 = { s with heap := s.heap.push (setN w) }) ⟨rfl, rfl⟩) fun r s1 hr => ?_
  cases r with
  | error e => exact hr
  | ok fl =>
    cases fl with
    | ret obj =>
      obtain ⟨rfl, rfl⟩ := hr
      have hS : (s.heap.push (setN w)).get? s.heap.objs.size = some (setN w) := Heap.get?_push_size _ rfl
      have hT : Shared.TypeIs { s with heap := s.heap.push (setN w) } (.ref s.heap.objs.size) "set" := ⟨_, hS, rfl⟩
      have hli := F.called_set.init.lookup
      have hbi := F.called_set.init.bind (.ref s.heap.objs.size)
      repeat (any_goals (first | assumption | wp_step))
      refine codeAny_mono (codeAny_call_builtin (R := wants (fun r s2 => r = .none ∧ ∃ h' tk c, s2 = { s with heap := h', toks := tk } ∧ SetR w h' s.heap.objs.size (fun j => decide (j ∈ ns)) c ∧ c ≤ ns.length ∧
          (∀ b o, s.heap.get? b = some o → h'.get? b = some o)) E) F.called_set.init.plain F.entry_set_init (check_set_init_1 hT ?_)) fun r2 s2 hr2 => ?_
      · obtain ⟨⟨oc, od, dt, osl⟩, ho, hc, nl, hd⟩ := hl
        simp only at hc hd
        subst hc; subst hd
        have ho' : (s.heap.push (setN w)).get? l = some { cls := .type "list", dict := od, data := .seq its nl, slots := osl } := Heap.get?_push_of_some _ ho
        have i1 := F.sub_list_set
        have i2 := F.sub_list_frozenset
        have i3 : (Value.type "list" == Value.type "dict") = false := by decide
        have hl1 : (s.heap.push (setN w)).IsList l its := ⟨_, ho', rfl, nl, rfl⟩
        unfold Builtin.«set.__init__» noKeywords Builtin.Frozenset.updateFrom
        generalize hPI : pyIter = PI
        wp_walk
        subst hPI
        refine wpAny_pyIter_list hl1 ?_
        refine wpAny_bind (wpAny_runValue ?_)
        have lS : l < s.heap.objs.size := Heap.lt_size ho
        have h3 : A.in1.in1.in1.handled = none := by simp [hh]
        have nI : l ≠ (s.heap.push (setN w)).objs.size := by
          rw [Heap.size_push]; exact Nat.ne_of_lt (Nat.lt_succ_of_lt lS)
        have nS : s.heap.objs.size ∉ [(s.heap.push (setN w)).objs.size, l] := by
          rw [Heap.size_push]; simp only [List.mem_cons, List.mem_singleton, List.not_mem_nil, or_false, not_or]
          exact ⟨Nat.ne_of_lt (Nat.lt_succ_self _), Nat.ne_of_gt lS⟩
        have val : ∀ (i : Nat) (v : Value), its[i]? = some v → ∃ k t, ns[i]? = some k ∧ v = .int k t := fun i v hv => by
          have hi2 : i < ns.length := by rw [← many]; exact (Array.getElem?_eq_some_iff.mp hv).1
          obtain ⟨t, e⟩ := IntsAre.int_at hi i v (by rw [Array.getElem?_toList]; exact hv)
          refine ⟨ns[i], t, List.getElem?_eq_getElem hi2, ?_⟩
          rw [e, List.getD_eq_getElem?_getD, List.getElem?_eq_getElem hi2] <;> rfl
        refine set_update_ints ((Walks.list h3 _ l nI its).toS) s.heap.objs.size nS ns many hb val (its.size - 0) 0 _ (by omega) (Nat.zero_le _) ⟨⟨_, Heap.get?_push_size _ rfl, rfl, rfl⟩, (hl1.push _)⟩ ?new0 ?upd0
        case new0 =>
          have g0 : ((s.heap.push (setN w)).push { cls := .type "list_iterator", data := .fields #[.ref l, .int 0 0] }).get? s.heap.objs.size = some (setN w) := Heap.get?_push_of_some _ hS
          exact ⟨0, Nat.le_refl 0, setR_new_at g0⟩
        case upd0 =>
          intro s' c' hm hc' hS'
          obtain ⟨h', g2, d', tk', os'⟩ := s'
          have eg : g2 = s.gens := hm.gens
          have ed : d' = s.drawn := hm.drawn
          have eo : os' = s.os := hm.os
          subst eg; subst ed; subst eo
          show wpAny _ _ _ _ _ _
          refine wpAny_pure ?_
          show wpAny _ _ (ret Value.none) _ _ _
          rw [many] at hc'
          refine wpAny_pure ⟨rfl, h', tk', c', rfl, hS', hc', fun b o e => ?_⟩
          have b0 : b < s.heap.objs.size := Heap.lt_size e
          have b1 : b ≠ s.heap.objs.size := Nat.ne_of_lt b0
          have b2 : b ≠ (s.heap.push (setN w)).objs.size := by
            rw [Heap.size_push]; exact Nat.ne_of_lt (Nat.lt_succ_of_lt b0)
          exact hm.heap b o (by simp only [List.mem_cons, List.mem_singleton, List.not_mem_nil, or_false, not_or]; exact ⟨b1, b2⟩) (Heap.get?_push_of_some _ (Heap.get?_push_of_some _ e))
      · cases r2 with
        | error e => exact hr2
        | ok f2 =>
          cases f2 with
          | ret r =>
            obtain ⟨rfl, h', tk, c', rfl, hS', hc', hk'⟩ := hr2
            repeat (any_goals (first | assumption | wp_step))
            exact h _ _ _ hS' hc' hk'
          | _ => exact hr2.elim
    | _ => exact hr.elim
end
/-! ### sorted(set(e)) -/
section
variable {X : Cx} {a : Expr} {ta : TE} {p p2 q pos : Pos}
def tSortSet (K : PySem.W.Frag) (ta : TE) : TE := fun σ H Q => ta σ H fun x H1 => ∃ (l : Addr) (ns : List Int), x = .ref l ∧ SqL K H1 l (ns.map V.int) ∧ ns.length < 64 ∧ ∀ p, H1 p = none → Q (.ref p) (upd H1 p (.lst ((sortU ns).map V.int)))
theorem sort_fin {pins : List (Addr × Obj)} {σ : L2.St} {H : Hp} {s2 s' : Shared} {p : Addr} {out : Array Value} {c2 : Nat} {ns : List Int} {Q : VK} (I2 : Inv X pins σ H s2) (k : ∀ b o, s2.heap.get? b = some o → s'.heap.get? b = some o) (g : s'.gens = s2.gens) (o : s'.os = s2.os) (hp : s2.heap.objs.size ≤ p)
    (hget : s'.heap.get? p = some (seqObj "list" out c2)) (hi : IntsAre out.toList ns) (hz : ns.length ≤ 1000) (q : ∀ p, H p = none → Q (.ref p) (upd H p (.lst (ns.map V.int)))) : EP X pins σ Q (.ref p) s' := by
  have hz2 : (ns.map V.int).length ≤ sizeLine := by rw [List.length_map, sizeLine_eq]; omega
  have hn : H p = none := I2.hok.fresh hp
  have J : Inv X pins σ (upd H p (.lst (ns.map V.int))) { s2 with heap := s'.heap, gens := s'.gens, drawn := s'.drawn, toks := s'.toks } :=
    I2.call (ch := []) (Un.laid k hp hn) (I2.hok.laid k hp ⟨hz2, out.toList, c2, vals_of_ints hi, hget⟩) (by rw [g]; exact I2.bare) (fun _ z => nomatch z)
  have e : s' = { s2 with heap := s'.heap, gens := s'.gens, drawn := s'.drawn, toks := s'.toks } := by
    cases s'
    cases s2
    cases o
    rfl
  rw [e]
  exact ⟨.ref p, _, J, rfl, q p hn⟩
theorem pe_sortSet (hc : X.calm = true) (hg : Gl X "sorted") (hm : X.mg "sorted" = none) (hg2 : Gl X "set") (hm2 : X.mg "set" = none) (ha : PE X a ta)
    (na : starEach [a] X.env = (false, eval a X.env) :: starEach [] X.env := by rfl) : PE X (.Call (.Name "sorted" p) [.Call (.Name "set" p2) [a] [] q] [] pos) (tSortSet X.K ta) := by
  refine ⟨fun pins s σ H Q I h => ?_⟩
  refine Call_ (ld_blt I hg hm PyProof.Rows.boot_sorted ?_)
  refine PyProof.Rows.callWith_builtin1 (PyProof.Rows.args_cons ?_ rfl) rfl rfl
  refine Call_ (ld_blt I hg2 hm2 PyProof.Rows.boot_set ?_)
  refine PyProof.Rows.callWith_type1 (PyProof.Rows.args_cons (thn (ha.run pins s σ H _ I h) fun v s1 ⟨x, H1, I1, r1, q1⟩ => PyProof.Rows.args_nil ?_) na) na rfl
  obtain ⟨l, ns, rfl, hq, hl, q1⟩ := q1
  cases r1
  obtain ⟨its, r, pl, hz⟩ := I1.list hq
  refine call_setI ns (I1.ok.hd hc) pl.isList (by simpa using ints_of_vals r) (by unfold scanBound; omega) fun h' tk c hS hcn hk => ?_
  refine PyProof.Rows.args_nil ?_
  have I2 : Inv X pins σ H1 { s1 with heap := h', toks := tk } := I1.kept hk
  refine sorted_set hS (I1.ok.hd hc) (by omega) fun s' p out c2 ks k g o hp hget hi hpw hmem hlen => ?_
  have e1 : ks = sortU ns := pw_uniq hpw (sortU_pw ns) fun x => by rw [hmem, sortU_mem, decide_eq_true_eq]
  subst e1
  exact sort_fin I2 k g o hp hget hi (by
    have := sortU_len ns
    omega) q1
end
section
variable {c : Cf} {W : WX} {X : Cx} {a : Expr} {fa : Ev D} {p p2 q pos : Pos}
def cSortSet (m : Bool) (fe : Ev D) : Ev D := fun st h => (fe st h).bind fun d h1 => match asL h1 d with
  | some l => match intsOf l with
    | some ns => if ns.length < 64 then alloc m ((sortU ns).map D.int) h1 else .no
    | none => .no
  | none => .no
theorem rvs_ints {g : Gh} {L : Nat} : ∀ ns : List Int, RVs c g L (ns.map D.int) (ns.map V.int)
  | [] => .nil
  | n :: ns => .cons (.int n) (rvs_ints ns)
theorem e_sortSet {m : Bool} (hK : c.K = X.K) (hc : X.calm = true) (hg : Gl X "sorted") (hm : X.mg "sorted" = none) (hg2 : Gl X "set") (hm2 : X.mg "set" = none) (ha : PE X a (tEv c W fa)) (na : starEach [a] X.env = (false, eval a X.env) :: starEach [] X.env := by rfl) :
    PE X (.Call (.Name "sorted" p) [.Call (.Name "set" p2) [a] [] q] [] pos) (tEv c W (cSortSet m fa)) := PE.imp (pe_sortSet hc hg hm hg2 hm2 ha na) fun σ H Q ⟨st, h, g, S, sl, q⟩ => by
  refine ⟨st, h, g, S, sl, RP.mono (RP.bind q) fun v H1 ⟨d, h1, g1, o1, S1, r1, q1⟩ => ?_⟩
  split at q1
  · rename_i l el
    split at q1
    · rename_i ns ex
      by_cases hl : ns.length < 64
      · rw [if_pos hl] at q1
        obtain ⟨b, vs, rfl, hq, rs⟩ := asL_ok S1 r1 el
        have ev := intsOf_ok rs ex
        subst ev
        rw [← hK]
        exact ⟨b, ns, rfl, .inl (.inl hq), hl, alloc_ok S1 (rvs_ints _) q1⟩
      · rw [if_neg hl] at q1; exact q1.elim
    · exact q1.elim
  · exact q1.elim
end
end Gm

/-! Gm30: a chain of three comparisons. -/
namespace Gm
open PySem PySem.Spec PyProof.Rows L2
section
variable {X : Cx} {a b d e : Expr} {ta tb td te : TE} {op op' op'' : CmpOp} {r r' r'' : R2} {pos : Pos}
def tChain3 (r r' r'' : R2) (ta tb td te : TE) : TE := fun σ H Q => ta σ H fun x H1 => tb σ H1 fun y H2 => r x y H2 fun z H3 => ∃ k, z = .bl k ∧
  (if k = true then td σ H3 fun w' H4 => r' y w' H4 fun z2 H5 => ∃ k2, z2 = .bl k2 ∧ (if k2 = true then te σ H5 fun w2 H6 => r'' w' w2 H6 Q else Q (.bl false) H5) else Q (.bl false) H3)
theorem pt_chain3 (ho : OpR X (compareOp op) r) (ho' : OpR X (compareOp op') r') (ho'' : OpR X (compareOp op'') r'') (ha : PE X a ta) (hb : PE X b tb) (hd : PE X d td) (he : PE X e te)
    (hm : lastMarks [op, op', op''] [b, d, e] = false := by with_unfolding_all rfl) : PT X (.Compare a [op, op', op''] [b, d, e] pos) (tTest (tChain3 r r' r'' ta tb td te)) := by
  refine ⟨fun pins s σ H Q I h => ?_⟩
  refine isTrue_chain (thn (ha.run pins s σ H _ I h) fun v s1 ⟨x, H1, I1, r1, q1⟩ => test_link (thn (hb.run pins s1 σ H1 _ I1 q1) fun u s2 ⟨y, H2, I2, r2, q2⟩ =>
    thn (ho pins s2 σ H2 x y v u _ I2 r1 r2 q2) fun _ s3 ⟨z, H3, I3, r3, k, e, q3⟩ => ?_)) hm
  subst e
  cases r3
  refine wpAny_truthy_bool ?_
  cases k with
  | false =>
    obtain ⟨k', e', q'⟩ := q3
    cases e'
    exact ite_ff ⟨H3, I3, q'⟩
  | true =>
    refine ite_tt (test_link (thn (hd.run pins s3 σ H3 _ I3 q3) fun w' s4 ⟨z', H4, I4, r4, q4⟩ => thn (ho' pins s4 σ H4 y z' u w' _ I4 r2 r4 q4) fun _ s5 ⟨z2, H5, I5, r5, k2, e2, q5⟩ => ?_))
    subst e2
    cases r5
    refine wpAny_truthy_bool ?_
    cases k2 with
    | false =>
      obtain ⟨k', e', q'⟩ := q5
      cases e'
      exact ite_ff ⟨H5, I5, q'⟩
    | true =>
      refine ite_tt (test_last (thn (he.run pins s5 σ H5 _ I5 q5) fun w2 s6 ⟨z3, H6, I6, r6, q6⟩ => thn (ho'' pins s6 σ H6 z' z3 w' w2 _ I6 r4 r6 q6) fun _ s7 ⟨z4, H7, I7, r7, k3, e3, q7⟩ => ?_))
      subst e3
      cases r7
      exact wpAny_truthy_bool ⟨H7, I7, q7⟩
end
section
variable {c : Cf} {W : WX} {X : Cx} {a b d e : Expr} {fo fo' fo'' : D → D → Store → Res D} {r r' r'' : R2} {op op' op'' : CmpOp} {fa fb fd fe : Ev D} {pos : Pos}
def cChain3 (fo fo' fo'' : D → D → Store → Res D) (fa fb fd fe : Ev D) : Ev D := fun st h => (fa st h).bind fun a h1 => (fb st h1).bind fun b h2 => (fo a b h2).bind fun z h3 => match z with
  | .bl true => (fd st h3).bind fun d h4 => (fo' b d h4).bind fun z2 h5 => match z2 with
    | .bl true => (fe st h5).bind fun e h6 => fo'' d e h6
    | .bl false => .ok (.bl false) h5
    | _ => .no
  | .bl false => .ok (.bl false) h3
  | _ => .no
theorem evChain3 (hr : R2Ok c r fo) (hr' : R2Ok c r' fo') (hr'' : R2Ok c r'' fo'') {σ : L2.St} {H : Hp} {Q : VK} (x : tEv c W (cChain3 fo fo' fo'' fa fb fd fe) σ H Q) : tChain3 r r' r'' (tEv c W fa) (tEv c W fb) (tEv c W fd) (tEv c W fe) σ H Q := by
  obtain ⟨st, h, g, S, sl, q⟩ := x
  refine ⟨st, h, g, S, sl, RP.mono q.bind fun v1 H1 ⟨d1, h1, g1, o1, S1, r1, q1⟩ => ?_⟩
  refine ⟨st, h1, g1, S1, sl.go o1, RP.mono q1.bind fun v2 H2 ⟨d2, h2, g2, o2, S2, r2, q2⟩ => ?_⟩
  refine hr g2 h2 H2 d1 v1 d2 v2 _ _ S2 (r1.mono o2.gx o2.len) r2 (RP.mono (RP.bind (R' := Rv c) q2) fun z H3 ⟨d3, h3, g3, o3, S3, r3, q3⟩ => ?_)
  cases r3 with
  | bl k =>
    refine ⟨k, rfl, ?_⟩
    cases k with
    | false => exact RP.ok_here q3 S3 (.bl false)
    | true =>
      refine ⟨st, h3, g3, S3, sl.go (o1.trans (o2.trans o3)), RP.mono q3.bind fun v4 H4 ⟨d4, h4, g4, o4, S4, r4, q4⟩ => ?_⟩
      refine hr' g4 h4 H4 d2 v2 d4 v4 _ _ S4 (r2.mono (o3.trans o4).gx (o3.trans o4).len) r4 (RP.mono (RP.bind (R' := Rv c) q4) fun z H5 ⟨d5, h5, g5, o5, S5, r5, q5⟩ => ?_)
      cases r5 with
      | bl k =>
        refine ⟨k, rfl, ?_⟩
        cases k with
        | false => exact RP.ok_here q5 S5 (.bl false)
        | true =>
          refine ⟨st, h5, g5, S5, sl.go (o1.trans (o2.trans (o3.trans (o4.trans o5)))), RP.mono q5.bind fun v6 H6 ⟨d6, h6, g6, o6, S6, r6, q6⟩ => ?_⟩
          exact hr'' g6 h6 H6 d4 v4 d6 v6 _ _ S6 (r4.mono (o5.trans o6).gx (o5.trans o6).len) r6 q6
      | _ => exact q5.elim
  | _ => exact q3.elim
theorem t_chain3 (ho : OpR X (compareOp op) r) (ho' : OpR X (compareOp op') r') (ho'' : OpR X (compareOp op'') r'') (hr : R2Ok c r fo) (hr' : R2Ok c r' fo') (hr'' : R2Ok c r'' fo'') (ha : PE X a (tEv c W fa)) (hb : PE X b (tEv c W fb)) (hd : PE X d (tEv c W fd)) (he : PE X e (tEv c W fe))
    (hm : lastMarks [op, op', op''] [b, d, e] = false := by with_unfolding_all rfl) : PT X (.Compare a [op, op', op''] [b, d, e] pos) (tTe c W (cTv (cChain3 fo fo' fo'' fa fb fd fe))) := PT.imp (pt_chain3 ho ho' ho'' ha hb hd he hm) fun _ _ _ x => evChain3 hr hr' hr'' (tv x)
theorem t_le_le_lt (ha : PE X a (tEv c W fa)) (hb : PE X b (tEv c W fb)) (hd : PE X d (tEv c W fd)) (he : PE X e (tEv c W fe)) (hm : lastMarks [.LtE, .LtE, .Lt] [b, d, e] = false := by with_unfolding_all rfl) : PT X (.Compare a [.LtE, .LtE, .Lt] [b, d, e] pos) (tTe c W (cTv (cChain3 oLe oLe oLt fa fb fd fe))) := t_chain3 op_le op_le op_lt bop_ok bop_ok bop_ok ha hb hd he hm
end
/-! a dict comprehension as a value -/
section
variable {c : Cf} {W : WX} {X : Cx} {pos : Pos}
theorem e_dc {tg kx vx iter : Expr} {ifs : List Expr} {scope : Scope} {own : List (Str × Nat)} {gt : TG} {fi : Ev (List D)} {fg : D → Slots → Option Slots} {ft : Ev Bool} {fk fv : Ev D} (hc : X.calm = true) (hN : X.N.Nodup)
    (hi : PI X tg iter (tIt c W fi)) (ok : BlkOk X.N X.env.scope scope own)
    (hg : ∀ (s : Shared) (H : Hp) (C : Addr) (cl : List (Str × Addr)) (fp : List Addr), PG (X.blk s H scope (compEnvC scope cl C X.env) fp) tg gt) (tgn : TgN c (own.map (·.2)) gt fg)
    (ht : ∀ (s : Shared) (H : Hp) (C : Addr) (cl : List (Str × Addr)) (fp : List Addr), PTs (X.blk s H scope (compEnvC scope cl C X.env) fp) ifs (tTe c W0 ft))
    (hk : ∀ (s : Shared) (H : Hp) (C : Addr) (cl : List (Str × Addr)) (fp : List Addr), PE (X.blk s H scope (compEnvC scope cl C X.env) fp) kx (tEv c W0 fk))
    (hv : ∀ (s : Shared) (H : Hp) (C : Addr) (cl : List (Str × Addr)) (fp : List Addr), PE (X.blk s H scope (compEnvC scope cl C X.env) fp) vx (tEv c W0 fv)) (hs : ∀ x, foldedSetIterable iter X.env x = pure x := by intro _; rfl) :
    PE X (.DictComp kx vx [⟨tg, iter, ifs, 0⟩] scope pos) (tEv c W (cDc fi fg ft fk fv (own.map (·.2)))) := PE.imp (pe_dc hc hN hi ok hg ht hk hv hs) fun σ H Q x => dc_ok tgn x
end
end Gm

/-! Gm31: a value's truth. -/
namespace Gm
open PySem PySem.Spec PyProof.Rows L2
section
variable {c : Cf} {W : WX} {X : Cx} {e : Expr} {f : Ev D}
def truD : D → Option Bool
  | .non => some false
  | .bl b => some b
  | .int i => some (i != 0)
  | _ => none
def cTr (f : Ev D) : Ev Bool := fun st h => (f st h).bind fun d h1 => match truD d with
  | some b => .ok b h1
  | none => .no
theorem t_tru (h : PE X e (tEv c W f)) (he : ∀ whole, isTrue e X.env whole = (do let v ← whole; standAt e.pos; holding [v] (truthy v)) := by intro _; rfl) : PT X e (tTe c W (cTr f)) :=
  PT.imp (pt_truth h he) fun σ H Q ⟨st, h, g, S, sl, q⟩ => by
    refine ⟨st, h, g, S, sl, RP.mono (RP.bind q) fun v H1 ⟨d, h1, g1, o1, S1, r1, q1⟩ => ?_⟩
    cases r1 with
    | non => exact ⟨false, rfl, q1 _ _ _ (Go.refl _ _ _) S1 rfl⟩
    | bl b => exact ⟨b, rfl, q1 _ _ _ (Go.refl _ _ _) S1 rfl⟩
    | int i => exact ⟨(i != 0), rfl, q1 _ _ _ (Go.refl _ _ _) S1 rfl⟩
    | _ => exact q1.elim
end
end Gm

/-! Gm32: enumerate of a tuple. -/
namespace Gm
open PySem PySem.Spec PyProof.Rows L2
open AutoSeq1 (wpAny_loadPart')
theorem meets_enumT (l : Addr) (items : Array Value) (n : Nat) (dct : Option Addr) (sl : Array (Option Value)) :
    Meets (Builtin.«enumerate.__new__» ⟨[.type "enumerate", .ref l], []⟩) (fun _ R s => s.heap.get? l = some { cls := .type "tuple", dict := dct, data := .seq items n, slots := sl } ∧
      R (.ok (.ret (.ref (s.heap.push { cls := .type "tuple_iterator", data := .fields #[.ref l, .int 0 0] }).objs.size)))
        { s with heap := (s.heap.push { cls := .type "tuple_iterator", data := .fields #[.ref l, .int 0 0] }).push { cls := .type "enumerate", data := .fields #[.none, .bool false, .ref s.heap.objs.size, rawInt 0, .none, .none] } }) :=
  .of_wp fun prog w A R s h => by
    obtain ⟨hp, g, d, tk, os⟩ := s
    obtain ⟨hl, h⟩ := h
    have hsub := sub_enumerate
    have hL : Heap.IsTuple (Shared.heap ⟨hp, g, d, tk, os⟩) l items := ⟨_, hl, rfl, n, rfl⟩
    wp_walk using wpAny_loadPart' hl
    refine wpAny_stack_any fun st => wpAny_pure ?_
    split
    · rename_i c _ _ _ _ _
      cases (c == Value.type "enumerate")
      · wp_walk using wpAny_loadPart' hl, wpAny_pyIter_tuple hL
        exact ⟨_, rfl, h⟩
      · wp_walk using wpAny_loadPart' hl, wpAny_pyIter_tuple hL
        exact ⟨_, rfl, h⟩
    · wp_walk using wpAny_loadPart' hl, wpAny_pyIter_tuple hL
      exact ⟨_, rfl, h⟩
section
variable {prog : Program} {w : World} {A : Around} {E : Value → Shared → Prop} {s : Shared}
theorem call_enumT {l : Addr} {items : Array Value} {Q : Value → Shared → Prop} (hL : s.heap.IsTuple l items)
    (h : ∀ h', IsEnum h' (s.heap.objs.size + 1) s.heap.objs.size 0 .none → h'.IsTupleIter s.heap.objs.size l 0 → h'.objs.size = s.heap.objs.size + 2 →
      (∀ b o, s.heap.get? b = some o → h'.get? b = some o) → Q (.ref (s.heap.objs.size + 1)) { s with heap := h' }) :
    wpAny (model prog w) A (call (.type "enumerate") [.ref l]) Q E s := by
  obtain ⟨⟨c, dct, dt, sl⟩, hl, hc, n, hd⟩ := hL
  replace hc : c = .type "tuple" := hc
  replace hd : dt = .seq items n := hd
  subst hc hd
  refine callType_new F.called_enumerate (by decide) (F.typeCall_enumerate_1 _) (F.newCall_enumerate_1 _) (fun obj => F.args_object_init_2 obj _) F.entry_enumerate_new (meets_enumT l items n dct sl) ⟨hl, ?_⟩
  have hz : (s.heap.push { cls := .type "tuple_iterator", data := .fields #[.ref l, .int 0 0] }).objs.size = s.heap.objs.size + 1 := Heap.size_push ..
  show _ ∧ _
  rw [hz]
  have he : IsEnum ((s.heap.push { cls := .type "tuple_iterator", data := .fields #[.ref l, .int 0 0] }).push
      { cls := .type "enumerate", data := .fields #[.none, .bool false, .ref s.heap.objs.size, rawInt 0, .none, .none] }) (s.heap.objs.size + 1) s.heap.objs.size 0 .none := by
    have := Heap.get?_push_size (s.heap.push { cls := .type "tuple_iterator", data := .fields #[.ref l, .int 0 0] })
      (o := { cls := .type "enumerate", data := .fields #[.none, .bool false, .ref s.heap.objs.size, rawInt 0, .none, .none] }) rfl
    rw [hz] at this; exact this
  exact ⟨⟨_, he, rfl⟩, h _ he ⟨_, Heap.get?_push_of_some _ (Heap.get?_push_size _ rfl), rfl, rfl⟩ (by rw [Heap.size_push, hz]) fun b o x => Heap.get?_push_of_some _ (Heap.get?_push_of_some _ x)⟩
end
section
variable {prog : Program} {w : World} {A : Around} {E : Value → Shared → Prop} {s : Shared}
theorem pyNext_enumT_end {e it l : Addr} {i : Nat} {items : Array Value} {old : Value} {Q : Option Value → Shared → Prop} (hh : A.handled = none)
    (he : IsEnum s.heap e it i old) (hit : s.heap.IsTupleIter it l i) (hl : s.heap.IsTuple l items) (hx : items[i]? = none)
    (hQ : ∀ h', Heap.ExtBut it s.heap h' → Q none { s with heap := h' }) : wpAny (model prog w) A (pyNext (.ref e)) Q E s := by
  have hT : s.TypeIs (.ref e) "enumerate" := ⟨_, he, rfl⟩
  unfold pyNext
  refine wpAny_bind (wpAny_attempt (wpAny_callSpecial?_slot (name := Str.ofString "__next__") hT F.slot_enumerate_next
    (wpAny_call_entry F.slot_enumerate_next hT F.entry_enumerate_next ?_ (F.args_enumerate_next_1 _))))
  show wpAny _ _ (field (.ref e) 2 >>= _) _ _ _
  refine wpAny_bind (wpAny_field he rfl (x := .ref it) rfl ?_)
  refine wpAny_bind (wpAny_nextOf_tuple_end (by simp [hh]) hit hl hx fun h' x he' hx' => ?_)
  obtain ⟨o, ho, hc⟩ := hx'
  refine wpAny_bind (wpAny_isInstance (T := "StopIteration") (b := true) ⟨o, ho, hc⟩ isSubtype_stop ?_)
  exact wpAny_pure (hQ _ he')
end
/-- the tuple at a, each item in a new pair -/
def Itet (K : PySem.W.Frag) (a : Addr) : It :=
  ⟨fun i H => ∃ (xs : List V) (x : V), SqT K H a xs ∧ xs[i]? = some x, fun i H v H' => ∃ T x, v = .ref T ∧ H T = none ∧ H' = upd H T (.tup [.int (i : Nat), x]) ∧ ∀ xs, SqT K H a xs → xs[i]? = some x, fun i H => ∃ xs : List V, SqT K H a xs ∧ xs.length ≤ i⟩
theorem turn_enumT {P : Program} {w : World} {K : PySem.W.Frag} {elts : List Expr} {kk : Nat} {tpos : Pos} (a e it : Addr) (ne : e ≠ it) (na : a ≠ it) (nea : e ≠ a) :
    Turn P w K (.Tuple elts kk tpos) (Itet K a) [e, it] e (fun i h => (∃ old, IsEnum h e it ((i : Nat) : Int) old) ∧ h.IsTupleIter it a i) where
  mem := by simp
  obj := fun i h st b hb => by
    obtain ⟨⟨old, he⟩, ⟨o, ho, hc, hd⟩⟩ := st
    have e' : b = e ∨ b = it := by simpa using hb
    rcases e' with z | z
    · rw [z]; exact ⟨_, he, fun v q => nomatch q⟩
    · rw [z]; exact ⟨o, ho, fun v q => by rw [hd] at q; cases q⟩
  keep := fun i h h' st k => let ⟨⟨old, he⟩, hi⟩ := st; ⟨⟨old, k e (by simp) _ he⟩, hi.at fun o q => k it (by simp) o q⟩
  item := by
    intro X hP hw hK hc i pins s σ H E I hf st hg
    subst hP hw hK
    obtain ⟨⟨old, he⟩, hit⟩ := st
    obtain ⟨xs, x, hq, hx⟩ := hg
    obtain ⟨its, rv, p, hz⟩ := I.tuple hq
    obtain ⟨u, hu, ru⟩ := rv.get hx
    have hel : e < s.heap.objs.size := Heap.lt_size he
    have hil : it < s.heap.objs.size := by obtain ⟨_, q, _⟩ := hit; exact Heap.lt_size q
    have hd := I.ok.hd hc
    have D := Draws.tuple (prog := X.prog) (w := X.w) (A := X.A.in1) (by simp [hd]) it a na its.toArray
    refine wpAny_pyNext_enum_itemD D he ⟨hit, p⟩ (i := i) (by simpa using (List.getElem?_eq_some_iff.mp hu).1) ne (by simp [ne, nea]) fun y h' tk hy ho hit' hT hsz hk => ?_
    have yu : y = u := by
      have q : its.toArray[i]? = some u := by simpa using hu
      rw [q] at hy
      exact (Option.some.inj hy).symm
    subst yu
    refine ⟨_, rfl, wpAny_letOwnedTupleGo_enum (s := { s with heap := h', toks := tk + 1 }) ho fun h'' he' sb => ?_⟩
    have hT2 : h''.get? s.heap.objs.size = some { cls := .type "tuple", data := .seq #[.int i tk, y] } := (sb.2 _ (Nat.ne_of_gt hel)).trans hT
    have new : ObjOk X.prog X.w (upd H s.heap.objs.size (.tup [.int (i : Nat), x])) h'' s.heap.objs.size (.tup [.int (i : Nat), x]) :=
      ⟨by show 2 ≤ sizeLine; decide, [.int i tk, y], .cons ⟨_, rfl⟩ (.cons ru .nil), ⟨_, hT2, rfl, _, rfl⟩⟩
    have I1 : Inv X pins σ (upd H s.heap.objs.size (.tup [.int (i : Nat), x])) { s with heap := h'', toks := tk + 1 } :=
      I.turnedNew (ch := [e, it]) (fun b ob hb q => (sb.2 b (fun z => hb (by simp [z]))).trans (hk b ob (fun z => hb (by simp [z])) (fun z => hb (by simp [z])) q)) hf (Nat.le_refl _) new
    refine ⟨.ref s.heap.objs.size, _, I1, rfl, ⟨_, x, rfl, I.hok.fresh (Nat.le_refl _), rfl, fun ys hy => by rw [I.tuple_inj hy hq]; exact hx⟩, ⟨⟨y, ?_⟩, hit'.1.at fun o q => (sb.2 it (Ne.symm ne)).trans q⟩, fun b hb => ?_⟩
    · have e1 : ((i + 1 : Nat) : Int) = (i : Int) + 1 := by omega
      rw [e1]; exact he'
    · have hb' : b < s.heap.objs.size := by
        have e' : b = e ∨ b = it := by simpa using hb
        rcases e' with z | z
        · rw [z]; exact hel
        · rw [z]; exact hil
      rw [upd_ne (Nat.ne_of_lt hb')]
      exact (hf b hb).1
  done := by
    intro X hP hw hK hc i pins s σ H E I hf st hg
    subst hP hw hK
    obtain ⟨⟨old, he⟩, hit⟩ := st
    obtain ⟨xs, hq, hx⟩ := hg
    obtain ⟨its, rv, p, hz⟩ := I.tuple hq
    obtain ⟨f0, f1, f2, f3, f4, f5⟩ := hf it (by simp)
    have hl := rv.length
    exact pyNext_enumT_end (I.ok.hd hc) he hit p (by simp; omega) fun h' eb => ⟨rfl, I.turned (t' := s.toks) (fun b o hb q => eb b o hb q) f0 f1 f3 f4 f5⟩
  self := fun A i s Q E st h => let ⟨⟨_, he⟩, _⟩ := st; wpAny_pyIter_enum he h
def iEnumTu (K : PySem.W.Frag) (ta : TA) : TI := fun σ H R => ta σ H fun vs H1 => ∃ a xs, vs = [.ref a] ∧ SqT K H1 a xs ∧ R (Itet K a) H1
theorem pi_enumT {X : Cx} {e : Expr} {ta : TA} {p pos tpos : Pos} {elts : List Expr} {kk : Nat} (hg : Gl X "enumerate") (hm : X.mg "enumerate" = none) (ha : PA X [e] ta) (hs : starEach [e] X.env = [(false, eval e X.env)] := by rfl) :
    PI X (.Tuple elts kk tpos) (.Call (.Name "enumerate" p) [e] [] pos) (iEnumTu X.K ta) := by
  refine ⟨fun pins s σ H R I h => ?_⟩
  refine Call_ (ld_blt I hg hm PyProof.Rows.boot_enumerate (PyProof.Rows.callWith_type1 (thn (ha.run pos pins s σ H _ I h) fun us s1 ⟨vs, H1, I1, r1, q1⟩ => ?_) hs rfl))
  obtain ⟨a, xs, ex, hq, q⟩ := q1
  subst ex
  cases r1 with
  | cons r rr =>
    cases rr
    cases r
    obtain ⟨its, rv, p', hz⟩ := I1.tuple hq
    have al : a < s1.heap.objs.size := by obtain ⟨_, z, _⟩ := p'; exact Heap.lt_size z
    refine call_enumT p' fun h' he hit hsz hk => wpAny_pyIter_enum he ?_
    have I2 : Inv X pins σ H1 { s1 with heap := h' } := I1.kept (t' := s1.toks) hk
    refine ⟨s1.heap.objs.size + 1, [s1.heap.objs.size + 1, s1.heap.objs.size], _, _, H1, rfl, I2, turn_enumT a (s1.heap.objs.size + 1) s1.heap.objs.size (Nat.succ_ne_self _) (Nat.ne_of_lt al) (Nat.ne_of_gt (Nat.lt_succ_of_lt al)), ⟨⟨.none, he⟩, hit⟩, fun b hb => ?_, q⟩
    have e' : b = s1.heap.objs.size + 1 ∨ b = s1.heap.objs.size := by simpa using hb
    have hle : s1.heap.objs.size ≤ b := by
      rcases e' with z | z
      · rw [z]; exact Nat.le_add_right _ _
      · rw [z]; exact Nat.le_refl _
    exact I1.fpOk hle (I1.hok.fresh hle)
section
variable {c : Cf} {W : WX} {X : Cx} {e : Expr}
theorem itet_ok {a : Addr} {l : List D} {vs : List V} {g0 : Gh} {L0 : Nat} (hq : SqT c.K g0.tr a vs) (rs : RVs c g0 L0 l vs) : ItOk c (Itet c.K a) (enumD l) g0 L0 := fun g h H i S gx hL => by
  have q : SqT c.K H a vs := SqT.sub S.sub (SqT.sub gx.tr hq)
  refine ⟨fun hi => ⟨vs, q, by rw [← rs.length]; simpa [enumD] using hi⟩, fun d hd => ?_⟩
  unfold enumD at hd
  rw [List.getElem?_mapIdx] at hd
  cases e : l[i]? with
  | none => rw [e] at hd; cases hd
  | some d0 =>
    rw [e] at hd
    have hd : D.tup [.int (i : Nat), d0] = d := by simpa using hd
    subst hd
    obtain ⟨y, e1, r1⟩ := rs.get e
    refine ⟨⟨vs, y, q, e1⟩, fun x H' ⟨T, x0, ev, nT, eH, hx⟩ => ?_⟩
    have e2 := hx vs q
    rw [e1] at e2
    cases e2
    subst ev eH
    obtain ⟨S2, o2⟩ := S.tree (o := .tup [.int (i : Nat), y]) nT
    exact ⟨_, o2, S2, .tup (.inl (.inl upd_same)) (.cons (.int _) (.cons (r1.mono (gx.trans o2.gx hL) hL) .nil))⟩
def iEnumT (fs : Ev (List D)) : Ev (List D) := fun st h => (fs st h).bind fun ds h1 => match ds with
  | [.tup l] => .ok (enumD l) h1
  | _ => .no
theorem i_enumT {fs : Ev (List D)} {p pos tpos : Pos} {elts : List Expr} {kk : Nat} (hK : c.K = X.K) (hg : Gl X "enumerate") (hm : X.mg "enumerate" = none) (ha : PA X [e] (tAr c W fs)) (hs : starEach [e] X.env = [(false, eval e X.env)] := by rfl) : PI X (.Tuple elts kk tpos) (.Call (.Name "enumerate" p) [e] [] pos) (tIt c W (iEnumT fs)) :=
  PI.imp (pi_enumT hg hm ha hs) fun σ H R ⟨st, h, g, S, sl, q⟩ => by
    refine ⟨st, h, g, S, sl, RP.mono (RP.bind q) fun vs H1 ⟨ds, h1, g1, o1, S1, r1, q1⟩ => ?_⟩
    split at q1
    · rename_i l
      cases r1 with
      | cons r rr =>
        cases rr
        cases r with
        | tup hq rs =>
          rw [← hK]
          exact ⟨_, _, rfl, SqT.sub S1.sub hq, RP.ok_here q1 S1 (itet_ok hq rs)⟩
    · exact q1.elim
end
end Gm

/-! GmX: texts by their signs' numbers. -/
namespace Gm
open PySem PySem.Spec PyProof.Rows
def tx (l : List Nat) : Str := SX.S l
theorem tx_cps (l : List Nat) : (tx l).cps.toList = l := by simp [tx, SX.S]
theorem tx_len (l : List Nat) : (tx l).length = l.length := SX.S_len l
theorem tx_inj {a b : List Nat} (h : tx a = tx b) : a = b := SX.S_inj h
section
variable {h : Store}
theorem cat_tx {v w : List Nat} (hl : v.length + w.length ≤ 100000) : oAdd false (.str (tx v)) (.str (tx w)) h = .ok (.str (tx (v ++ w))) h := by
  have z : (tx v).length + (tx w).length ≤ sizeLine := small_line (by rw [tx_len, tx_len]; omega)
  show (if (tx v).length + (tx w).length ≤ sizeLine then Res.ok (D.str (tx v ++ tx w)) h else Res.no) = _
  rw [if_pos z]
  unfold tx
  rw [SX.S_cat]
theorem len_tx {w : List Nat} (hl : w.length ≤ 100000) : fLen [.str (tx w)] h = .ok (.int (w.length : Nat)) h := by
  have q : (tx w).length ≤ sizeLine := small_line (by rw [tx_len]; omega)
  show (if (tx w).length ≤ sizeLine then Res.ok (D.int ((tx w).length : Nat)) h else .no) = _
  rw [if_pos q, tx_len]
theorem cut_from {w : List Nat} {k : Nat} (hl : w.length ≤ 100000) (hk : k ≤ w.length) : oSl false (.str (tx w)) (some (k : Int)) none h = .ok (.str (tx (w.drop k))) h := by
  have z : (tx w).length ≤ sizeLine := small_line (by rw [tx_len]; omega)
  show (if (tx w).length ≤ sizeLine then Res.ok (D.str (L2.cutS (tx w) (some (k : Int)) none)) h else Res.no) = _
  rw [if_pos z]
  unfold L2.cutS
  rw [tx_cps, tx_len, HT.sIx_nat, HT.sIx_none, Nat.min_eq_left hk, List.take_of_length_le (by rw [List.length_drop]; omega)]
  rfl
theorem cut_to {w : List Nat} {k : Nat} (hl : w.length ≤ 100000) (hk : k ≤ w.length) : oSl false (.str (tx w)) none (some (k : Int)) h = .ok (.str (tx (w.take k))) h := by
  have z : (tx w).length ≤ sizeLine := small_line (by rw [tx_len]; omega)
  show (if (tx w).length ≤ sizeLine then Res.ok (D.str (L2.cutS (tx w) none (some (k : Int)))) h else Res.no) = _
  rw [if_pos z]
  unfold L2.cutS
  rw [tx_cps, tx_len, HT.sIx_nat, HT.sIx_none, Nat.min_eq_left hk, List.drop_zero, Nat.sub_zero]
  rfl
theorem atI_nat {α : Type} {l : List α} {i : Nat} (hi : i < l.length) : L2.atI l (i : Int) = some l[i] := by
  unfold L2.atI L2.ixN
  rw [if_pos (by omega), if_pos (by omega)]
  simp [hi]
theorem at_tx {w : List Nat} {i : Nat} (hl : w.length ≤ 100000) (hi : i < w.length) : oIx (.str (tx w)) (.int (i : Int)) h = .ok (.str (tx [w[i]])) h := by
  have z : (tx w).length ≤ sizeLine := small_line (by rw [tx_len]; omega)
  show (if (tx w).length ≤ sizeLine then (match L2.atI (tx w).cps.toList (i : Int) with
      | some k => Res.ok (D.str ⟨#[k]⟩) h
      | none => .no) else Res.no) = _
  rw [if_pos z, tx_cps, atI_nat hi]
  rfl
theorem rep_one {a k : Nat} (hk : 1 ≤ k) (hk2 : k ≤ 1000) : oMulS (.str (tx [a])) (.int (k : Int)) h = .ok (.str (tx (List.replicate k a))) h := by
  have z : (0 : Int) ≤ (k : Int) ∧ (k : Int) ≤ 3000 ∧ (tx [a]).length ≤ 300 := ⟨by omega, by omega, by rw [tx_len]; simp⟩
  show (if (0 : Int) ≤ (k : Int) ∧ (k : Int) ≤ 3000 ∧ (tx [a]).length ≤ 300 then Res.ok (D.str (repS (tx [a]) (k : Int))) h else Res.no) = _
  rw [if_pos z]
  have e : repS (tx [a]) (k : Int) = tx (List.replicate k a) := by
    unfold repS
    rw [if_neg (by omega)]
    by_cases h1 : k = 1
    · subst h1
      rfl
    · have h2 : (((k : Int) == 1) || (tx [a]).length == 0) = false := by
        rw [tx_len]
        simp
        omega
      rw [h2, if_neg (by decide), Int.toNat_natCast]
      have key : ∀ (k : Nat) (b : List Nat), (List.replicate k (tx [a]).cps).foldl (· ++ ·) b.toArray = (b ++ List.replicate k a).toArray := by
        intro k
        induction k with
        | zero => intro b; simp
        | succ k ih =>
          intro b
          rw [List.replicate_succ, List.foldl_cons]
          have e : b.toArray ++ (tx [a]).cps = (b ++ [a]).toArray := by simp [tx, SX.S]
          rw [e, ih (b ++ [a]), List.replicate_succ, List.append_assoc]
          rfl
      have q := key k []
      show (⟨(List.replicate k (tx [a]).cps).foldl (· ++ ·) #[]⟩ : Str) = _
      rw [q]
      rfl
  rw [e]
theorem signs_tx (w : List Nat) : Gm.signs (tx w) = w.map fun a => D.str (tx [a]) := by
  unfold Gm.signs
  rw [tx_cps]
  rfl
def abc : List Nat := (List.range 26).map (97 + ·)
theorem abc_is : PySem.Str.ofString "abcdefghijklmnopqrstuvwxyz" = tx abc := by decide +kernel
theorem abc_at {i : Nat} (hi : i < 26) : oIx (.str (PySem.Str.ofString "abcdefghijklmnopqrstuvwxyz")) (.int (i : Int)) h = .ok (.str (tx [97 + i])) h := by
  have h2 : i < abc.length := by rw [abc, List.length_map, List.length_range]; exact hi
  have e : abc[i] = 97 + i := by simp [abc]
  rw [abc_is, at_tx (by decide) h2, e]
theorem in_abc {a : Nat} (h1 : 97 ≤ a) (h2 : a ≤ 122) : oIn (.str (tx [a])) (.str (PySem.Str.ofString "abcdefghijklmnopqrstuvwxyz")) h = .ok (.bl true) h := by
  have k : ∀ i, i < 26 → (!(Builtin.Str.occurrences (PySem.Str.ofString "abcdefghijklmnopqrstuvwxyz") (tx [97 + i]) 0 (PySem.Str.ofString "abcdefghijklmnopqrstuvwxyz").length 1).isEmpty) = true := by decide +kernel
  have e := k (a - 97) (by omega)
  rw [show 97 + (a - 97) = a by omega] at e
  show (match some (!(Builtin.Str.occurrences (PySem.Str.ofString "abcdefghijklmnopqrstuvwxyz") (tx [a]) 0 (PySem.Str.ofString "abcdefghijklmnopqrstuvwxyz").length 1).isEmpty) with
    | some b => Res.ok (D.bl b) h
    | none => .no) = _
  rw [e]
theorem strs_map (l : List Str) : strsOf (l.map D.str) = some l := by
  induction l with
  | nil => rfl
  | cons a l ih => simp [strsOf, ih]
theorem bools_map (l : List Bool) : boolsOf (l.map D.bl) = some l := by
  induction l with
  | nil => rfl
  | cons a l ih => simp [boolsOf, ih]
theorem dst_nodup {xs : List Str} (nd : xs.Nodup) : ∀ i, i ≤ xs.length → dst xs i = i
  | 0, _ => rfl
  | i + 1, hi => by
    have no : (xs.take i).contains (xs.getD i Str.empty) = false := by
      rw [Bool.eq_false_iff]
      intro z
      have m := List.contains_iff_mem.mp z
      have e : xs.getD i Str.empty = xs[i] := by
        rw [List.getD_eq_getElem?_getD, List.getElem?_eq_getElem (by omega)]
        rfl
      rw [e] at m
      obtain ⟨j, hj, ej⟩ := List.mem_iff_getElem.mp m
      rw [List.length_take] at hj
      rw [List.getElem_take] at ej
      have := (List.getElem_inj nd).mp ej
      omega
    unfold dst
    rw [no, if_neg (by decide), dst_nodup nd i (by omega)]
/-! ### a name -/
def OkN (w : List Nat) : Prop := 0 < w.length ∧ w.length ≤ 8 ∧ ∀ a ∈ w, 97 ≤ a ∧ a ≤ 122
end
end Gm

namespace Gm
open PySem PySem.Spec PyProof.Rows Gm
/-! ### what the laws draw: generic -/
def takeF : FnT := fnOf 5 2 takeB
theorem takeF_eq {l : List Int} {b : Nat} {t h : Store} (x : Bx l b t h) (hb : b ≤ 1000000) {m : Nat} (hm : 0 < m) (hm2 : m ≤ 100000) :
    ∃ (v : Nat) (h' : Store), takeF [D.ref 0, D.int (m : Nat)] h = .ok (D.int (v : Nat)) h' ∧ v < m ∧ Bx l (b + 1) t h' := by
  obtain ⟨v, h', e, v0, v1, x'⟩ := x.takeB hb (m := (m : Int)) (by omega) (by
    rw [Int.natAbs_natCast]
    exact Nat.lt_of_le_of_lt hm2 (Nat.lt_of_lt_of_le (show 100000 < 2 ^ 17 by decide) (Nat.pow_le_pow_right (by decide) (by decide))))
  obtain ⟨w, rfl⟩ : ∃ k : Nat, v = (k : Int) := ⟨v.toNat, (Int.toNat_of_nonneg v0).symm⟩
  exact ⟨w, h', e, by omega, x'⟩
theorem Bx.same {l : List Int} {b b' : Nat} {t h h' : Store} (x : Bx l b t h) (x' : Bx l b' t h') : h'.length = h.length := by rw [x.len, x'.len]
theorem gMulN {a b : Nat} (ha : a ≤ 100000) (hb : b ≤ 100000) : gMul (a : Int) (b : Int) = true :=
  gMul_of (k := 17) (m := 17) (by rw [Int.natAbs_natCast]; exact Nat.lt_of_le_of_lt ha (by decide)) (by rw [Int.natAbs_natCast]; exact Nat.lt_of_le_of_lt hb (by decide)) (by decide)
theorem gDivN {i : Int} {b : Nat} (h0 : 0 < b) (hb : b ≤ 100000) : gDiv i (b : Int) = true := gDiv_of (k := 17) (by omega) (by rw [Int.natAbs_natCast]; exact Nat.lt_of_le_of_lt hb (by decide)) (by decide)
theorem gModN {i : Int} {b : Nat} (h0 : 0 < b) : gMod i (b : Int) = true := gMod_of (by omega)
/-- a comprehension that draws for each element -/
theorem lcL_draw {α β : Type} {l : List Int} {t : Store} {fg : D → Slots → Option Slots} {fe : Ev D} {st0 : Slots} {f : α → D} {mk : α → β → D} {P : β → Prop} {c B : Nat} : ∀ (xs : List α), (∀ a ∈ xs, ∀ b h, Bx l b t h → b ≤ B → ∃ st1 v h', fg (f a) st0 = some st1 ∧ fe st1 h = .ok (mk a v) h' ∧ P v ∧ Bx l (b + c) t h') →
    ∀ (b : Nat) (h : Store), Bx l b t h → b + c * xs.length ≤ B → ∃ vs h', lcL fg cYes fe st0 (xs.map f) h = .ok ((xs.zip vs).map fun p => mk p.1 p.2) h' ∧ vs.length = xs.length ∧ (∀ v ∈ vs, P v) ∧ Bx l (b + c * xs.length) t h'
  | [], _, b, h, x, _ => ⟨[], h, rfl, rfl, fun v hv => by simp at hv, by simpa using x⟩
  | a :: xs, H, b, h, x, hb => by
    rw [List.length_cons, Nat.mul_add, Nat.mul_one] at hb
    obtain ⟨st1, v, h1, e1, e2, p, x1⟩ := H a (by simp) b h x (by omega)
    obtain ⟨vs, h2, e3, hl, hp, x2⟩ := lcL_draw xs (fun a ha => H a (by simp [ha])) (b + c) h1 x1 (by omega)
    refine ⟨v :: vs, h2, ?_, by simp [hl], fun w hw => ?_, x2.mono (by rw [List.length_cons, Nat.mul_add, Nat.mul_one]; omega)⟩
    · show lcL fg cYes fe st0 (f a :: xs.map f) h = _
      unfold lcL
      rw [e1]
      dsimp only
      have c1 : (cYes st1 h).sure = .ok true h := rfl
      rw [c1, Res.bind_ok, if_pos rfl, e2]
      show (Res.ok (mk a v) h1).sure.bind _ = _
      have c2 : (Res.ok (mk a v) h1).sure = .ok (mk a v) h1 := rfl
      rw [c2, Res.bind_ok, e3, Res.bind_ok]
      rfl
    · rcases List.mem_cons.mp hw with rfl | hw
      · exact p
      · exact hp w hw
/-! ### names -/
def dn (w : List Nat) : D := .str (tx w)
def namesB : Ss :=
  (sSeq (sSet 2 (cK (.str (PySem.Str.ofString "abcdefghijklmnopqrstuvwxyz"))))
  (sSeq (sSet 3 (cCall takeF [] (cCons (cVar 0) (cCons (cK (.int 8)) cNil))))
  (sSeq (sSet 4 (cCall takeF [] (cCons (cVar 0) (cCons (cK (.int 26)) cNil))))
  (sSeq (sIf (cTv (cBin oEq (cVar 3) (cK (.int 7)))) (sRet (cLc false (iRange1 (cCons (cVar 1) cNil)) (fName 8) cYes (cBin oMulS (cBin oIx (cVar 2) (cBin (oAdd false) (cBin oMod (cVar 4) (cK (.int 20))) (cBin oDiv (cVar 8) (cK (.int 8))))) (cBin (oAdd false) (cK (.int 1)) (cBin oMod (cVar 8) (cK (.int 8))))) [8]))
  sNil)
  (sSeq (sSet 5 (cBin oIx (cLst false (cCons (cK (.str (PySem.Str.ofString ""))) (cCons (cK (.str (PySem.Str.ofString "q"))) (cCons (cK (.str (PySem.Str.ofString "ab"))) (cCons (cK (.str (PySem.Str.ofString "gate"))) (cCons (cK (.str (PySem.Str.ofString "aaaaaaa"))) (cCons (cK (.str (PySem.Str.ofString "zzyzx"))) (cCons (cK (.str (PySem.Str.ofString "bb"))) cNil)))))))) (cVar 3)))
  (sSeq (sSet 6 (cCall takeF [] (cCons (cVar 0) (cCons (cBin (oAdd false) (cB fLen (cCons (cVar 5) cNil)) (cK (.int 1))) cNil))))
  (sSeq (sSet 7 (cBin oIx (cLst false (cCons (cK (.int 1)) (cCons (cK (.int 3)) (cCons (cK (.int 5)) (cCons (cK (.int 7)) (cCons (cK (.int 9)) (cCons (cK (.int 11)) cNil))))))) (cCall takeF [] (cCons (cVar 0) (cCons (cK (.int 6)) cNil)))))
  (sRet (cLc false (iRange1 (cCons (cVar 1) cNil)) (fName 8) cYes (cBin (oAdd false) (cBin (oAdd false) (cSl false (cVar 5) cNoPart (cPart (cVar 6))) (cBin oIx (cVar 2) (cBin oMod (cBin (oAdd false) (cVar 4) (cBin oMul (cVar 7) (cVar 8))) (cK (.int 26))))) (cSl false (cVar 5) (cPart (cVar 6)) cNoPart)) [8])))))))))
def namesF : FnT := fnOf 9 2 namesB
theorem nodup_range_map {β : Type} {n : Nat} {f : Nat → β} (inj : ∀ i j, i < n → j < n → f i = f j → i = j) : ((List.range n).map f).Nodup := by
  refine List.pairwise_map.mpr ((List.nodup_range (n := n)).imp_of_mem fun {a b} ha hb ne e => ne ?_)
  exact inj a b (List.mem_range.mp ha) (List.mem_range.mp hb) e
theorem stem_at {w : Nat} (hw : w < 7) {h : Store} : ∃ s : List Nat, oIx (.lst [.str (PySem.Str.ofString ""), .str (PySem.Str.ofString "q"), .str (PySem.Str.ofString "ab"), .str (PySem.Str.ofString "gate"), .str (PySem.Str.ofString "aaaaaaa"), .str (PySem.Str.ofString "zzyzx"), .str (PySem.Str.ofString "bb")]) (.int (w : Nat)) h = .ok (.str (tx s)) h ∧ s.length ≤ 7 ∧ ∀ a ∈ s, 97 ≤ a ∧ a ≤ 122 := by
  have z : w = 0 ∨ w = 1 ∨ w = 2 ∨ w = 3 ∨ w = 4 ∨ w = 5 ∨ w = 6 := by omega
  rcases z with rfl | rfl | rfl | rfl | rfl | rfl | rfl
  · exact ⟨[], rfl, by decide, by decide⟩
  · exact ⟨[113], rfl, by decide, by decide⟩
  · exact ⟨[97, 98], rfl, by decide, by decide⟩
  · exact ⟨[103, 97, 116, 101], rfl, by decide, by decide⟩
  · exact ⟨[97, 97, 97, 97, 97, 97, 97], rfl, by decide, by decide⟩
  · exact ⟨[122, 122, 121, 122, 120], rfl, by decide, by decide⟩
  · exact ⟨[98, 98], rfl, by decide, by decide⟩
theorem step_at {w : Nat} (hw : w < 6) {h : Store} : ∃ s : Nat, oIx (.lst [.int 1, .int 3, .int 5, .int 7, .int 9, .int 11]) (.int (w : Nat)) h = .ok (.int (s : Nat)) h ∧ (s = 1 ∨ s = 3 ∨ s = 5 ∨ s = 7 ∨ s = 9 ∨ s = 11) := by
  have z : w = 0 ∨ w = 1 ∨ w = 2 ∨ w = 3 ∨ w = 4 ∨ w = 5 := by omega
  rcases z with rfl | rfl | rfl | rfl | rfl | rfl
  · exact ⟨1, rfl, by simp⟩
  · exact ⟨3, rfl, by simp⟩
  · exact ⟨5, rfl, by simp⟩
  · exact ⟨7, rfl, by simp⟩
  · exact ⟨9, rfl, by simp⟩
  · exact ⟨11, rfl, by simp⟩
theorem ev_sl {m : Bool} {fe : Ev D} {fl fh : Ev (Option Int)} {st : Slots} {h : Store} : cSl m fe fl fh st h = (fe st h).bind fun d h1 => (fl st h1).bind fun lo h2 => (fh st h2).bind fun hi h3 => oSl m d lo hi h3 := rfl
theorem ev_noPart {st : Slots} {h : Store} : cNoPart st h = .ok none h := rfl
theorem ev_part {f : Ev D} {st : Slots} {h : Store} : cPart f st h = (f st h).bind fun d h1 => match d with
  | .int i => .ok (some i) h1
  | _ => .no := by
  unfold cPart
  rfl
theorem names_eq {l : List Int} {b : Nat} {t h : Store} (x : Bx l b t h) (hb : b ≤ 900000) : ∃ (ns : List (List Nat)) (h' : Store), namesF [.ref 0, .int 10] h = .ok (.lst (ns.map dn)) h' ∧ ns.length = 10 ∧ (∀ w ∈ ns, OkN w) ∧ ns.Nodup ∧ Bx l (b + 5) t h' := by
  obtain ⟨w, h1, e1, hw, x1⟩ := takeF_eq x (by omega) (m := 8) (by decide) (by decide)
  obtain ⟨f, h2, e2, hf, x2⟩ := takeF_eq x1 (by omega) (m := 26) (by decide) (by decide)
  have e1 : takeF [.ref 0, .int 8] h = .ok (.int (w : Nat)) h1 := e1
  have e2 : takeF [.ref 0, .int 26] h1 = .ok (.int (f : Nat)) h2 := e2
  by_cases z : w = 7
  · refine ⟨(List.range 10).map fun k => List.replicate (1 + k % 8) (97 + (f % 20 + k / 8)), h2, ?_, by simp, ?_, ?_, x2.mono (by omega)⟩
    · refine fn_eq [some (.ref 0), some (.int 10), none, none, none, none, none, none, none] rfl rfl ?_ (x.same x2)
      have r1 : iRange1 (cCons (cVar 1) cNil) [some (.ref 0), some (.int 10), some (.str (PySem.Str.ofString "abcdefghijklmnopqrstuvwxyz")), some (.int (w : Nat)), some (.int (f : Nat)), none, none, none, none] h2 = .ok ((List.range 10).map fun (i : Nat) => D.int (i : Int)) h2 := ev_range1 (n := 10) rfl (by omega)
      have sl : ((List.range 10).map fun (i : Nat) => D.int (i : Int)).length ≤ sizeLine := small_line (by simp)
      have e3 := lcL_all1 (fg := fName 8) (ft := cYes) (fe := cBin oMulS (cBin oIx (cVar 2) (cBin (oAdd false) (cBin oMod (cVar 4) (cK (.int 20))) (cBin oDiv (cVar 8) (cK (.int 8))))) (cBin (oAdd false) (cK (.int 1)) (cBin oMod (cVar 8) (cK (.int 8)))))
        (st0 := [some (.ref 0), some (.int 10), some (.str (PySem.Str.ofString "abcdefghijklmnopqrstuvwxyz")), some (.int (w : Nat)), some (.int (f : Nat)), none, none, none, none]) (h := h2) (f := fun (i : Nat) => D.int (i : Int)) (q := fun k => dn (List.replicate (1 + k % 8) (97 + (f % 20 + k / 8)))) (List.range 10) fun k hk => by
          have hk := List.mem_range.mp hk
          have g1 : ∀ i : Int, gMod i 20 = true := fun i => gMod_of (by decide)
          have g2 : ∀ i : Int, gMod i 8 = true := fun i => gMod_of (by decide)
          have g3 : ∀ i : Int, gDiv i 8 = true := fun i => gDiv_of (k := 4) (by decide) (by decide) (by decide)
          have c1 : (f : Int) % 20 + (k : Int) / 8 = ((f % 20 + k / 8 : Nat) : Int) := by omega
          have c2 : 1 + (k : Int) % 8 = ((1 + k % 8 : Nat) : Int) := by omega
          refine ⟨_, rfl, rfl, ?_⟩
          simp only [ev_seq, ev_set, ev_bin, ev_cons, ev_nil, ev_var, ev_k, ev_call, ev_ret, ev_expr, ev_if, ev_tv, ev_tnot, ev_tand, ev_tor, ev_chain, ev_lst, ev_lstM, ev_tup, ev_cB, ev_lc, ev_wipe0, ev_wipe1, ev_alloc, ev_allocM, ev_sNil, ev_and, ev_not, ev_raise, seq_next, seq_ret, seq_exc, Res.bind_ok, Res.bind_exc, Res.out_ok, Res.out_exc, List.getElem?_cons_zero, List.getElem?_cons_succ, List.set_cons_succ, List.set_cons_zero, List.append_nil, List.nil_append, List.cons_append, if_true, Bool.false_eq_true, if_false, ev_iop, ev_bop, Bool.not_true, Bool.not_false, res_ret, res_next, res_exc, oAdd_int, oAddI_int, oNe_int, oEq_int, oNe_bl, beq_self_eq_true, ev_asg, ev_gtTup, ev_gtCons, ev_gtNil, ev_gtName, List.length_cons, List.length_nil, Nat.reduceAdd, Nat.zero_add, sz0, sz1, sz2, sz3, sz4, sz5, sz6, sz7, sz8, sz9, sz10, sz11, sz12, sz13, sz14, sz15, sz16, sz17, sz18, sz19, sz20, sz21, sz22, sz23, sz24, sz25, sz26, sz27, sz28, sz29, sz30, sz31, sz32, g1, g2, g3, c1, c2, abc_at (i := f % 20 + k / 8) (by omega), rep_one (a := 97 + (f % 20 + k / 8)) (k := 1 + k % 8) (by omega) (by omega)]
          rfl
      have q7 : ((w : Int) == 7) = true := by rw [z]; rfl
      simp only [ev_seq, ev_set, ev_bin, ev_cons, ev_nil, ev_var, ev_k, ev_call, ev_ret, ev_expr, ev_if, ev_tv, ev_tnot, ev_tand, ev_tor, ev_chain, ev_lst, ev_lstM, ev_tup, ev_cB, ev_lc, ev_wipe0, ev_wipe1, ev_alloc, ev_allocM, ev_sNil, ev_and, ev_not, ev_raise, seq_next, seq_ret, seq_exc, Res.bind_ok, Res.bind_exc, Res.out_ok, Res.out_exc, List.getElem?_cons_zero, List.getElem?_cons_succ, List.set_cons_succ, List.set_cons_zero, List.append_nil, List.nil_append, List.cons_append, if_true, Bool.false_eq_true, if_false, ev_iop, ev_bop, Bool.not_true, Bool.not_false, res_ret, res_next, res_exc, oAdd_int, oAddI_int, oNe_int, oEq_int, oNe_bl, beq_self_eq_true, ev_asg, ev_gtTup, ev_gtCons, ev_gtNil, ev_gtName, List.length_cons, List.length_nil, Nat.reduceAdd, Nat.zero_add, sz0, sz1, sz2, sz3, sz4, sz5, sz6, sz7, sz8, sz9, sz10, sz11, sz12, sz13, sz14, sz15, sz16, sz17, sz18, sz19, sz20, sz21, sz22, sz23, sz24, sz25, sz26, sz27, sz28, sz29, sz30, sz31, sz32, namesB, e1, e2, q7, r1, sl, e3]
      rw [List.map_map]
      rfl
    · intro v hv
      obtain ⟨k, hk, rfl⟩ := List.mem_map.mp hv
      have hk := List.mem_range.mp hk
      refine ⟨by rw [List.length_replicate]; omega, by rw [List.length_replicate]; omega, fun a ha => ?_⟩
      obtain rfl := List.eq_of_mem_replicate ha
      omega
    · refine nodup_range_map fun i j hi hj e => ?_
      have l1 := congrArg List.length e
      rw [List.length_replicate, List.length_replicate] at l1
      have h1 := congrArg (fun q : List Nat => q[0]?) e
      simp only [List.getElem?_replicate] at h1
      rw [if_pos (by omega), if_pos (by omega)] at h1
      have h1 := Option.some.inj h1
      omega
  · obtain ⟨s, e3, s7, sa⟩ := stem_at (w := w) (by omega) (h := h2)
    obtain ⟨p, h4, e4, hp, x4⟩ := takeF_eq x2 (by omega) (m := s.length + 1) (by omega) (by omega)
    obtain ⟨u, h5, e5, hu, x5⟩ := takeF_eq x4 (by omega) (m := 6) (by decide) (by decide)
    have e5 : takeF [.ref 0, .int 6] h4 = .ok (.int (u : Nat)) h5 := e5
    obtain ⟨st, e6, hst⟩ := step_at (w := u) hu (h := h5)
    have st11 : st ≤ 11 := by omega
    refine ⟨(List.range 10).map fun k => s.take p ++ [97 + (f + st * k) % 26] ++ s.drop p, h5, ?_, by simp, ?_, ?_, x5.mono (by omega)⟩
    · refine fn_eq [some (.ref 0), some (.int 10), none, none, none, none, none, none, none] rfl rfl ?_ (x.same x5)
      have r1 : iRange1 (cCons (cVar 1) cNil) [some (.ref 0), some (.int 10), some (.str (PySem.Str.ofString "abcdefghijklmnopqrstuvwxyz")), some (.int (w : Nat)), some (.int (f : Nat)), some (.str (tx s)), some (.int (p : Nat)), some (.int (st : Nat)), none] h5 = .ok ((List.range 10).map fun (i : Nat) => D.int (i : Int)) h5 := ev_range1 (n := 10) rfl (by omega)
      have sl : ((List.range 10).map fun (i : Nat) => D.int (i : Int)).length ≤ sizeLine := small_line (by simp)
      have e7 := lcL_all1 (fg := fName 8) (ft := cYes) (fe := cBin (oAdd false) (cBin (oAdd false) (cSl false (cVar 5) cNoPart (cPart (cVar 6))) (cBin oIx (cVar 2) (cBin oMod (cBin (oAdd false) (cVar 4) (cBin oMul (cVar 7) (cVar 8))) (cK (.int 26))))) (cSl false (cVar 5) (cPart (cVar 6)) cNoPart))
        (st0 := [some (.ref 0), some (.int 10), some (.str (PySem.Str.ofString "abcdefghijklmnopqrstuvwxyz")), some (.int (w : Nat)), some (.int (f : Nat)), some (.str (tx s)), some (.int (p : Nat)), some (.int (st : Nat)), none]) (h := h5) (f := fun (i : Nat) => D.int (i : Int)) (q := fun k => dn (s.take p ++ [97 + (f + st * k) % 26] ++ s.drop p)) (List.range 10) fun k hk => by
          have hk := List.mem_range.mp hk
          have g1 : ∀ i : Int, gMod i 26 = true := fun i => gMod_of (by decide)
          have g2 : gMul (st : Int) (k : Int) = true := gMulN (by omega) (by omega)
          have c1 : ((f : Int) + (st : Int) * (k : Int)) % 26 = (((f + st * k) % 26 : Nat) : Int) := by push_cast; rfl
          have a1 := cut_to (h := h5) (w := s) (k := p) (by omega) (by omega)
          have a2 := cut_from (h := h5) (w := s) (k := p) (by omega) (by omega)
          have a3 : oAdd false (.str (tx (s.take p))) (.str (tx [97 + (f + st * k) % 26])) h5 = .ok (.str (tx (s.take p ++ [97 + (f + st * k) % 26]))) h5 := cat_tx (by simp; omega)
          have a4 : oAdd false (.str (tx (s.take p ++ [97 + (f + st * k) % 26]))) (.str (tx (s.drop p))) h5 = .ok (.str (tx (s.take p ++ [97 + (f + st * k) % 26] ++ s.drop p))) h5 := cat_tx (by simp; omega)
          refine ⟨_, rfl, rfl, ?_⟩
          simp only [ev_seq, ev_set, ev_bin, ev_cons, ev_nil, ev_var, ev_k, ev_call, ev_ret, ev_expr, ev_if, ev_tv, ev_tnot, ev_tand, ev_tor, ev_chain, ev_lst, ev_lstM, ev_tup, ev_cB, ev_lc, ev_wipe0, ev_wipe1, ev_alloc, ev_allocM, ev_sNil, ev_and, ev_not, ev_raise, seq_next, seq_ret, seq_exc, Res.bind_ok, Res.bind_exc, Res.out_ok, Res.out_exc, List.getElem?_cons_zero, List.getElem?_cons_succ, List.set_cons_succ, List.set_cons_zero, if_true, Bool.false_eq_true, if_false, ev_iop, ev_bop, Bool.not_true, Bool.not_false, res_ret, res_next, res_exc, oAdd_int, oAddI_int, oNe_int, oEq_int, oNe_bl, beq_self_eq_true, ev_asg, ev_gtTup, ev_gtCons, ev_gtNil, ev_gtName, List.length_cons, List.length_nil, Nat.reduceAdd, Nat.zero_add, sz0, sz1, sz2, sz3, sz4, sz5, sz6, sz7, sz8, sz9, sz10, sz11, sz12, sz13, sz14, sz15, sz16, sz17, sz18, sz19, sz20, sz21, sz22, sz23, sz24, sz25, sz26, sz27, sz28, sz29, sz30, sz31, sz32, ev_sl, ev_noPart, ev_part, a1, a2, g1, g2, c1, abc_at (i := (f + st * k) % 26) (by omega), a3, a4]
          rfl
      have q7 : ((w : Int) == 7) = false := by
        rw [beq_eq_false_iff_ne]
        omega
      have l1 := len_tx (h := h2) (w := s) (by omega)
      have c5 : (s.length : Int) + 1 = ((s.length + 1 : Nat) : Int) := by omega
      simp only [ev_seq, ev_set, ev_bin, ev_cons, ev_nil, ev_var, ev_k, ev_call, ev_ret, ev_expr, ev_if, ev_tv, ev_tnot, ev_tand, ev_tor, ev_chain, ev_lst, ev_lstM, ev_tup, ev_cB, ev_lc, ev_wipe0, ev_wipe1, ev_alloc, ev_allocM, ev_sNil, ev_and, ev_not, ev_raise, seq_next, seq_ret, seq_exc, Res.bind_ok, Res.bind_exc, Res.out_ok, Res.out_exc, List.getElem?_cons_zero, List.getElem?_cons_succ, List.set_cons_succ, List.set_cons_zero, List.append_nil, List.nil_append, List.cons_append, if_true, Bool.false_eq_true, if_false, ev_iop, ev_bop, Bool.not_true, Bool.not_false, res_ret, res_next, res_exc, oAdd_int, oAddI_int, oNe_int, oEq_int, oNe_bl, beq_self_eq_true, ev_asg, ev_gtTup, ev_gtCons, ev_gtNil, ev_gtName, List.length_cons, List.length_nil, Nat.reduceAdd, Nat.zero_add, sz0, sz1, sz2, sz3, sz4, sz5, sz6, sz7, sz8, sz9, sz10, sz11, sz12, sz13, sz14, sz15, sz16, sz17, sz18, sz19, sz20, sz21, sz22, sz23, sz24, sz25, sz26, sz27, sz28, sz29, sz30, sz31, sz32, namesB, e1, e2, q7, e3, l1, c5, e4, e5, e6, r1, sl, e7]
      rw [List.map_map]
      rfl
    · intro v hv
      obtain ⟨k, hk, rfl⟩ := List.mem_map.mp hv
      refine ⟨by simp; omega, by simp; omega, fun a ha => ?_⟩
      rcases List.mem_append.mp ha with ha | ha
      · rcases List.mem_append.mp ha with ha | ha
        · exact sa a (List.mem_of_mem_take ha)
        · obtain rfl : a = 97 + (f + st * k) % 26 := by simpa using ha
          omega
      · exact sa a (List.mem_of_mem_drop ha)
    · refine nodup_range_map fun i j hi hj e => ?_
      have e := List.append_cancel_right e
      have e := List.append_cancel_left e
      have e : 97 + (f + st * i) % 26 = 97 + (f + st * j) % 26 := by simpa using e
      rcases hst with rfl | rfl | rfl | rfl | rfl | rfl <;> omega
end Gm

namespace Gm
open PySem PySem.Spec PyProof.Rows Gm
/-! ### frames, edges, ends, nets -/
theorem lst_cut {l : List D} {a b : Nat} {h : Store} (h1 : a ≤ b) (h2 : b ≤ l.length) : oSl false (.lst l) (some (a : Int)) (some (b : Int)) h = .ok (.lst ((l.drop a).take (b - a))) h := by
  show Res.ok (D.lst (cutD l (some (a : Int)) (some (b : Int)))) h = _
  unfold cutD
  rw [HT.sIx_nat, HT.sIx_nat, Nat.min_eq_left (Nat.le_trans h1 h2), Nat.min_eq_left h2]
theorem lst_to {l : List D} {b : Nat} {h : Store} (h2 : b ≤ l.length) : oSl false (.lst l) none (some (b : Int)) h = .ok (.lst (l.take b)) h := by
  show Res.ok (D.lst (cutD l none (some (b : Int)))) h = _
  unfold cutD
  rw [HT.sIx_nat, HT.sIx_none, Nat.min_eq_left h2, List.drop_zero, Nat.sub_zero]
theorem len_lst (l : List D) (h : Store) : fLen [.lst l] h = .ok (.int (l.length : Nat)) h := rfl
def pr (p : List Nat × Nat) : D := .tup [dn p.1, .int (p.2 : Nat)]
def gp (p : Nat × Nat) : D := .tup [.int (p.1 : Nat), .int (p.2 : Nat)]
theorem map_drop_take (f : List Nat → D) (ns : List (List Nat)) (a b : Nat) : ((ns.map f).drop a).take b = ((ns.drop a).take b).map f := by rw [← List.map_drop, ← List.map_take]
def frameB : Ss :=
  (sSeq (sSet 3 (cCall namesF [] (cCons (cVar 0) (cCons (cK (.int 10)) cNil))))
  (sSeq (sSet 4 (cCall takeF [] (cCons (cVar 0) (cCons (cBin (oAdd false) (cVar 1) (cK (.int 1))) cNil))))
  (sSeq (sSet 5 (cLc false (iSeqD (cSl false (cVar 3) (cPart (cVar 4)) (cPart (cBin (oAdd false) (cVar 4) (cCall takeF [] (cCons (cVar 0) (cCons (cBin (oAdd false) (cVar 2) (cK (.int 1))) cNil))))))) (fName 6) cYes (cTup (cCons (cVar 6) (cCons (cCall takeF [] (cCons (cVar 0) (cCons (cK (.int 2)) cNil))) cNil))) [6]))
  (sRet (cTup (cCons (cVar 3) (cCons (cSl false (cVar 3) cNoPart (cPart (cVar 4))) (cCons (cVar 5) cNil))))))))
def frameF : FnT := fnOf 7 3 frameB
theorem frame_eq {l : List Int} {b i m : Nat} {t h : Store} (x : Bx l b t h) (hb : b ≤ 800000) (him : i + m ≤ 10) : ∃ (ns : List (List Nat)) (k u : Nat) (bs : List Nat) (h' : Store),
    frameF [.ref 0, .int (i : Nat), .int (m : Nat)] h = .ok (.tup [.lst (ns.map dn), .lst ((ns.take k).map dn), .lst ((((ns.drop k).take u).zip bs).map pr)]) h' ∧ ns.length = 10 ∧ (∀ w ∈ ns, OkN w) ∧ ns.Nodup ∧ k ≤ i ∧ u ≤ m ∧ bs.length = u ∧ (∀ v ∈ bs, v < 2) ∧ Bx l (b + 20) t h' := by
  obtain ⟨ns, h1, e1, l1, ok1, nd1, x1⟩ := names_eq x (by omega)
  obtain ⟨k, h2, e2, hk, x2⟩ := takeF_eq x1 (by omega) (m := i + 1) (by omega) (by omega)
  obtain ⟨u, h3, e3, hu, x3⟩ := takeF_eq x2 (by omega) (m := m + 1) (by omega) (by omega)
  have lu : ((ns.drop k).take u).length = u := by rw [List.length_take, List.length_drop]; omega
  obtain ⟨bs, h4, e4, l4, ok4, x4⟩ := lcL_draw (fg := fName 6) (fe := cTup (cCons (cVar 6) (cCons (cCall takeF [] (cCons (cVar 0) (cCons (cK (.int 2)) cNil))) cNil))) (st0 := [some (.ref 0), some (.int (i : Nat)), some (.int (m : Nat)), some (.lst (ns.map dn)), some (.int (k : Nat)), none, none]) (f := dn) (mk := fun w v => pr (w, v)) (P := fun v => v < 2) (c := 1) (B := 900000) ((ns.drop k).take u) (fun w _ b h x hb => by
    obtain ⟨v, h', e, hv, x'⟩ := takeF_eq x (by omega) (m := 2) (by decide) (by decide)
    have e : takeF [.ref 0, .int 2] h = .ok (.int (v : Nat)) h' := e
    refine ⟨_, v, h', rfl, ?_, hv, x'⟩
    simp only [ev_seq, ev_set, ev_bin, ev_cons, ev_nil, ev_var, ev_k, ev_call, ev_ret, ev_expr, ev_if, ev_tv, ev_tnot, ev_tand, ev_tor, ev_chain, ev_lst, ev_lstM, ev_tup, ev_cB, ev_lc, ev_wipe0, ev_wipe1, ev_alloc, ev_allocM, ev_sNil, ev_and, ev_not, ev_raise, seq_next, seq_ret, seq_exc, Res.bind_ok, Res.bind_exc, Res.out_ok, Res.out_exc, List.getElem?_cons_zero, List.getElem?_cons_succ, List.set_cons_succ, List.set_cons_zero, List.append_nil, List.nil_append, List.cons_append, if_true, Bool.false_eq_true, if_false, ev_iop, ev_bop, Bool.not_true, Bool.not_false, res_ret, res_next, res_exc, oAdd_int, oAddI_int, oNe_int, oEq_int, oNe_bl, beq_self_eq_true, ev_asg, ev_gtTup, ev_gtCons, ev_gtNil, ev_gtName, List.length_cons, List.length_nil, Nat.reduceAdd, Nat.zero_add, sz0, sz1, sz2, sz3, sz4, sz5, sz6, sz7, sz8, sz9, sz10, sz11, sz12, sz13, sz14, sz15, sz16, sz17, sz18, sz19, sz20, sz21, sz22, sz23, sz24, sz25, sz26, sz27, sz28, sz29, sz30, sz31, sz32, e]
    rfl) _ h3 x3 (by rw [lu]; omega)
  refine ⟨ns, k, u, bs, h4, ?_, l1, ok1, nd1, by omega, by omega, by rw [l4, lu], ok4, x4.mono (by rw [lu]; omega)⟩
  have c1 : (i : Int) + 1 = ((i + 1 : Nat) : Int) := by omega
  have c2 : (m : Int) + 1 = ((m + 1 : Nat) : Int) := by omega
  have c3 : (k : Int) + (u : Int) = ((k + u : Nat) : Int) := by omega
  have s1 := lst_cut (l := ns.map dn) (a := k) (b := k + u) (h := h3) (by omega) (by rw [List.length_map]; omega)
  rw [show k + u - k = u by omega, map_drop_take] at s1
  have s2 := lst_to (l := ns.map dn) (b := k) (h := h4) (by rw [List.length_map]; omega)
  rw [← List.map_take] at s2
  have it : iSeqD (cSl false (cVar 3) (cPart (cVar 4)) (cPart (cBin (oAdd false) (cVar 4) (cCall takeF [] (cCons (cVar 0) (cCons (cBin (oAdd false) (cVar 2) (cK (.int 1))) cNil)))))) [some (.ref 0), some (.int (i : Nat)), some (.int (m : Nat)), some (.lst (ns.map dn)), some (.int (k : Nat)), none, none] h2 = .ok (((ns.drop k).take u).map dn) h3 := by
    have e : (cSl false (cVar 3) (cPart (cVar 4)) (cPart (cBin (oAdd false) (cVar 4) (cCall takeF [] (cCons (cVar 0) (cCons (cBin (oAdd false) (cVar 2) (cK (.int 1))) cNil)))))) [some (.ref 0), some (.int (i : Nat)), some (.int (m : Nat)), some (.lst (ns.map dn)), some (.int (k : Nat)), none, none] h2 = .ok (.lst (((ns.drop k).take u).map dn)) h3 := by
      simp only [ev_seq, ev_set, ev_bin, ev_cons, ev_nil, ev_var, ev_k, ev_call, ev_ret, ev_expr, ev_if, ev_tv, ev_tnot, ev_tand, ev_tor, ev_chain, ev_lst, ev_lstM, ev_tup, ev_cB, ev_lc, ev_wipe0, ev_wipe1, ev_alloc, ev_allocM, ev_sNil, ev_and, ev_not, ev_raise, seq_next, seq_ret, seq_exc, Res.bind_ok, Res.bind_exc, Res.out_ok, Res.out_exc, List.getElem?_cons_zero, List.getElem?_cons_succ, List.set_cons_succ, List.set_cons_zero, List.append_nil, List.nil_append, List.cons_append, if_true, Bool.false_eq_true, if_false, ev_iop, ev_bop, Bool.not_true, Bool.not_false, res_ret, res_next, res_exc, oAdd_int, oAddI_int, oNe_int, oEq_int, oNe_bl, beq_self_eq_true, ev_asg, ev_gtTup, ev_gtCons, ev_gtNil, ev_gtName, List.length_cons, List.length_nil, Nat.reduceAdd, Nat.zero_add, sz0, sz1, sz2, sz3, sz4, sz5, sz6, sz7, sz8, sz9, sz10, sz11, sz12, sz13, sz14, sz15, sz16, sz17, sz18, sz19, sz20, sz21, sz22, sz23, sz24, sz25, sz26, sz27, sz28, sz29, sz30, sz31, sz32, ev_sl, ev_part, c2, e3, c3, s1]
    unfold iSeqD
    rw [e]
    rfl
  have sl : (((ns.drop k).take u).map dn).length ≤ sizeLine := small_line (by rw [List.length_map, lu]; omega)
  exact fn_eq [some (.ref 0), some (.int (i : Nat)), some (.int (m : Nat)), none, none, none, none] rfl rfl (by simp only [ev_seq, ev_set, ev_bin, ev_cons, ev_nil, ev_var, ev_k, ev_call, ev_ret, ev_expr, ev_if, ev_tv, ev_tnot, ev_tand, ev_tor, ev_chain, ev_lst, ev_lstM, ev_tup, ev_cB, ev_lc, ev_wipe0, ev_wipe1, ev_alloc, ev_allocM, ev_sNil, ev_and, ev_not, ev_raise, seq_next, seq_ret, seq_exc, Res.bind_ok, Res.bind_exc, Res.out_ok, Res.out_exc, List.getElem?_cons_zero, List.getElem?_cons_succ, List.set_cons_succ, List.set_cons_zero, List.append_nil, List.nil_append, List.cons_append, if_true, Bool.false_eq_true, if_false, ev_iop, ev_bop, Bool.not_true, Bool.not_false, res_ret, res_next, res_exc, oAdd_int, oAddI_int, oNe_int, oEq_int, oNe_bl, beq_self_eq_true, ev_asg, ev_gtTup, ev_gtCons, ev_gtNil, ev_gtName, List.length_cons, List.length_nil, Nat.reduceAdd, Nat.zero_add, sz0, sz1, sz2, sz3, sz4, sz5, sz6, sz7, sz8, sz9, sz10, sz11, sz12, sz13, sz14, sz15, sz16, sz17, sz18, sz19, sz20, sz21, sz22, sz23, sz24, sz25, sz26, sz27, sz28, sz29, sz30, sz31, sz32, frameB, e1, c1, e2, it, sl, e4, ev_sl, ev_noPart, ev_part, s2]) (x.same x4)
def edgeB : Ss :=
  (sSeq (sSet 2 (cCall takeF [] (cCons (cVar 0) (cCons (cK (.int 3)) cNil))))
  (sSeq (sIf (cTv (cBin oEq (cVar 2) (cK (.int 0)))) (sRet (cBin oSub (cBin oSub (cBin oMul (cK (.int 2)) (cVar 1)) (cK (.int 1))) (cCall takeF [] (cCons (cVar 0) (cCons (cB fMin2 (cCons (cBin oMul (cK (.int 2)) (cVar 1)) (cCons (cK (.int 6)) cNil))) cNil)))))
  sNil)
  (sRet (cCall takeF [] (cCons (cVar 0) (cCons (cBin oMul (cK (.int 2)) (cVar 1)) cNil))))))
def edgeF : FnT := fnOf 3 2 edgeB
theorem min2 {a b : Nat} {h : Store} : fMin2 [.int (a : Nat), .int (b : Nat)] h = .ok (.int (min a b : Nat)) h := by
  have e : (if (b : Int) < (a : Int) then (b : Int) else (a : Int)) = ((min a b : Nat) : Int) := by split <;> omega
  show Res.ok (D.int (if (b : Int) < (a : Int) then (b : Int) else (a : Int))) h = _
  rw [e]
theorem max2 {a b : Nat} {h : Store} : fMax2 [.int (a : Nat), .int (b : Nat)] h = .ok (.int (max a b : Nat)) h := by
  have e : (if (b : Int) > (a : Int) then (b : Int) else (a : Int)) = ((max a b : Nat) : Int) := by split <;> omega
  show Res.ok (D.int (if (b : Int) > (a : Int) then (b : Int) else (a : Int))) h = _
  rw [e]
theorem edge_eq {l : List Int} {b n : Nat} {t h : Store} (x : Bx l b t h) (hb : b ≤ 900000) (hn : 0 < n) (hn2 : n ≤ 1000) : ∃ (e : Nat) (h' : Store), edgeF [.ref 0, .int (n : Nat)] h = .ok (.int (e : Nat)) h' ∧ e < 2 * n ∧ Bx l (b + 2) t h' := by
  obtain ⟨w, h1, e1, hw, x1⟩ := takeF_eq x (by omega) (m := 3) (by decide) (by decide)
  have e1 : takeF [.ref 0, .int 3] h = .ok (.int (w : Nat)) h1 := e1
  have g1 : gMul 2 (n : Int) = true := gMulN (a := 2) (by decide) (by omega)
  have c1 : (2 : Int) * (n : Int) = ((2 * n : Nat) : Int) := by omega
  by_cases z : w = 0
  · obtain ⟨v, h2, e2, hv, x2⟩ := takeF_eq x1 (by omega) (m := min (2 * n) 6) (by omega) (by omega)
    have q : ((w : Int) == 0) = true := by rw [z]; rfl
    have c2 : ((2 * n : Nat) : Int) - 1 - (v : Int) = ((2 * n - 1 - v : Nat) : Int) := by omega
    have m6 : fMin2 [.int (2 * n : Nat), .int 6] h1 = .ok (.int (min (2 * n) 6 : Nat)) h1 := min2
    exact ⟨2 * n - 1 - v, h2, fn_eq [some (.ref 0), some (.int (n : Nat)), none] rfl rfl (by simp only [ev_seq, ev_set, ev_bin, ev_cons, ev_nil, ev_var, ev_k, ev_call, ev_ret, ev_expr, ev_if, ev_tv, ev_tnot, ev_tand, ev_tor, ev_chain, ev_lst, ev_lstM, ev_tup, ev_cB, ev_lc, ev_wipe0, ev_wipe1, ev_alloc, ev_allocM, ev_sNil, ev_and, ev_not, ev_raise, seq_next, seq_ret, seq_exc, Res.bind_ok, Res.bind_exc, Res.out_ok, Res.out_exc, List.getElem?_cons_zero, List.getElem?_cons_succ, List.set_cons_succ, List.set_cons_zero, List.append_nil, List.nil_append, List.cons_append, if_true, Bool.false_eq_true, if_false, ev_iop, ev_bop, Bool.not_true, Bool.not_false, res_ret, res_next, res_exc, oAdd_int, oAddI_int, oNe_int, oEq_int, oNe_bl, beq_self_eq_true, ev_asg, ev_gtTup, ev_gtCons, ev_gtNil, ev_gtName, List.length_cons, List.length_nil, Nat.reduceAdd, Nat.zero_add, sz0, sz1, sz2, sz3, sz4, sz5, sz6, sz7, sz8, sz9, sz10, sz11, sz12, sz13, sz14, sz15, sz16, sz17, sz18, sz19, sz20, sz21, sz22, sz23, sz24, sz25, sz26, sz27, sz28, sz29, sz30, sz31, sz32, edgeB, e1, q, g1, c1, m6, e2, c2]) (x.same x2), by omega, x2⟩
  · obtain ⟨v, h2, e2, hv, x2⟩ := takeF_eq x1 (by omega) (m := 2 * n) (by omega) (by omega)
    have q : ((w : Int) == 0) = false := by
      rw [beq_eq_false_iff_ne]
      omega
    exact ⟨v, h2, fn_eq [some (.ref 0), some (.int (n : Nat)), none] rfl rfl (by simp only [ev_seq, ev_set, ev_bin, ev_cons, ev_nil, ev_var, ev_k, ev_call, ev_ret, ev_expr, ev_if, ev_tv, ev_tnot, ev_tand, ev_tor, ev_chain, ev_lst, ev_lstM, ev_tup, ev_cB, ev_lc, ev_wipe0, ev_wipe1, ev_alloc, ev_allocM, ev_sNil, ev_and, ev_not, ev_raise, seq_next, seq_ret, seq_exc, Res.bind_ok, Res.bind_exc, Res.out_ok, Res.out_exc, List.getElem?_cons_zero, List.getElem?_cons_succ, List.set_cons_succ, List.set_cons_zero, List.append_nil, List.nil_append, List.cons_append, if_true, Bool.false_eq_true, if_false, ev_iop, ev_bop, Bool.not_true, Bool.not_false, res_ret, res_next, res_exc, oAdd_int, oAddI_int, oNe_int, oEq_int, oNe_bl, beq_self_eq_true, ev_asg, ev_gtTup, ev_gtCons, ev_gtNil, ev_gtName, List.length_cons, List.length_nil, Nat.reduceAdd, Nat.zero_add, sz0, sz1, sz2, sz3, sz4, sz5, sz6, sz7, sz8, sz9, sz10, sz11, sz12, sz13, sz14, sz15, sz16, sz17, sz18, sz19, sz20, sz21, sz22, sz23, sz24, sz25, sz26, sz27, sz28, sz29, sz30, sz31, sz32, edgeB, e1, q, g1, c1, e2]) (x.same x2), hv, x2⟩
def endsB : Ss :=
  (sSeq (sSet 5 (cLc false (iSeqD (cSl false (cVar 1) cNoPart (cPart (cCall takeF [] (cCons (cVar 0) (cCons (cBin (oAdd false) (cVar 4) (cK (.int 1))) cNil)))))) (fName 6) cYes (cTup (cCons (cVar 6) (cCons (cCall edgeF [] (cCons (cVar 0) (cCons (cVar 3) cNil))) cNil))) [6]))
  (sRet (cTup (cCons (cVar 5) (cCons (cLc false (iSeqD (cVar 2)) (fName 7) cYes (cCall edgeF [] (cCons (cVar 0) (cCons (cVar 3) cNil))) [7]) cNil)))))
def endsF : FnT := fnOf 8 5 endsB
theorem zip_snd {α : Type} : ∀ (xs : List α) (vs : List Nat), vs.length = xs.length → ((xs.zip vs).map fun p => D.int (p.2 : Nat)) = dnums vs
  | [], [], _ => rfl
  | _ :: xs, v :: vs, e => by
    have ih := zip_snd xs vs (by simpa using e)
    rw [List.zip_cons_cons, List.map_cons, ih]
    rfl
  | _ :: _, [], e => by simp at e
  | [], _ :: _, e => by simp at e
theorem ends_eq {l : List Int} {b n top : Nat} {t h : Store} {ns : List (List Nat)} {ls : List (List Nat × Nat)} (x : Bx l b t h) (hb : b ≤ 700000) (hn : 0 < n) (hn2 : n ≤ 1000) (ht : top ≤ ns.length) (hns : ns.length ≤ 1000) (hls : ls.length ≤ 1000) :
    ∃ (u : Nat) (es fs : List Nat) (h' : Store), endsF [.ref 0, .lst (ns.map dn), .lst (ls.map pr), .int (n : Nat), .int (top : Nat)] h = .ok (.tup [.lst (((ns.take u).zip es).map pr), .lst (dnums fs)]) h' ∧ u ≤ top ∧ es.length = u ∧ (∀ e ∈ es, e < 2 * n) ∧ fs.length = ls.length ∧ (∀ e ∈ fs, e < 2 * n) ∧ Bx l (b + 5000) t h' := by
  obtain ⟨u, h1, e1, hu, x1⟩ := takeF_eq x (by omega) (m := top + 1) (by omega) (by omega)
  have lu : (ns.take u).length = u := by rw [List.length_take]; omega
  obtain ⟨es, h2, e2, l2, ok2, x2⟩ := lcL_draw (fg := fName 6) (fe := cTup (cCons (cVar 6) (cCons (cCall edgeF [] (cCons (cVar 0) (cCons (cVar 3) cNil))) cNil))) (st0 := [some (.ref 0), some (.lst (ns.map dn)), some (.lst (ls.map pr)), some (.int (n : Nat)), some (.int (top : Nat)), none, none, none]) (f := dn) (mk := fun w v => pr (w, v)) (P := fun v => v < 2 * n) (c := 2) (B := 800000) (ns.take u) (fun w _ b h x hb => by
    obtain ⟨v, h', e, hv, x'⟩ := edge_eq x (by omega) hn hn2
    refine ⟨_, v, h', rfl, ?_, hv, x'⟩
    simp only [ev_seq, ev_set, ev_bin, ev_cons, ev_nil, ev_var, ev_k, ev_call, ev_ret, ev_expr, ev_if, ev_tv, ev_tnot, ev_tand, ev_tor, ev_chain, ev_lst, ev_lstM, ev_tup, ev_cB, ev_lc, ev_wipe0, ev_wipe1, ev_alloc, ev_allocM, ev_sNil, ev_and, ev_not, ev_raise, seq_next, seq_ret, seq_exc, Res.bind_ok, Res.bind_exc, Res.out_ok, Res.out_exc, List.getElem?_cons_zero, List.getElem?_cons_succ, List.set_cons_succ, List.set_cons_zero, List.append_nil, List.nil_append, List.cons_append, if_true, Bool.false_eq_true, if_false, ev_iop, ev_bop, Bool.not_true, Bool.not_false, res_ret, res_next, res_exc, oAdd_int, oAddI_int, oNe_int, oEq_int, oNe_bl, beq_self_eq_true, ev_asg, ev_gtTup, ev_gtCons, ev_gtNil, ev_gtName, List.length_cons, List.length_nil, Nat.reduceAdd, Nat.zero_add, sz0, sz1, sz2, sz3, sz4, sz5, sz6, sz7, sz8, sz9, sz10, sz11, sz12, sz13, sz14, sz15, sz16, sz17, sz18, sz19, sz20, sz21, sz22, sz23, sz24, sz25, sz26, sz27, sz28, sz29, sz30, sz31, sz32, e]
    rfl) _ h1 x1 (by rw [lu]; omega)
  obtain ⟨fs, h3, e3, l3, ok3, x3⟩ := lcL_draw (fg := fName 7) (fe := cCall edgeF [] (cCons (cVar 0) (cCons (cVar 3) cNil))) (st0 := [some (.ref 0), some (.lst (ns.map dn)), some (.lst (ls.map pr)), some (.int (n : Nat)), some (.int (top : Nat)), some (.lst (((ns.take u).zip es).map pr)), none, none]) (f := pr) (mk := fun _ v => D.int (v : Nat)) (P := fun v => v < 2 * n) (c := 2) (B := 900000) ls (fun w _ b h x hb => by
    obtain ⟨v, h', e, hv, x'⟩ := edge_eq x (by omega) hn hn2
    refine ⟨_, v, h', rfl, ?_, hv, x'⟩
    simp only [ev_seq, ev_set, ev_bin, ev_cons, ev_nil, ev_var, ev_k, ev_call, ev_ret, ev_expr, ev_if, ev_tv, ev_tnot, ev_tand, ev_tor, ev_chain, ev_lst, ev_lstM, ev_tup, ev_cB, ev_lc, ev_wipe0, ev_wipe1, ev_alloc, ev_allocM, ev_sNil, ev_and, ev_not, ev_raise, seq_next, seq_ret, seq_exc, Res.bind_ok, Res.bind_exc, Res.out_ok, Res.out_exc, List.getElem?_cons_zero, List.getElem?_cons_succ, List.set_cons_succ, List.set_cons_zero, List.append_nil, List.nil_append, List.cons_append, if_true, Bool.false_eq_true, if_false, ev_iop, ev_bop, Bool.not_true, Bool.not_false, res_ret, res_next, res_exc, oAdd_int, oAddI_int, oNe_int, oEq_int, oNe_bl, beq_self_eq_true, ev_asg, ev_gtTup, ev_gtCons, ev_gtNil, ev_gtName, List.length_cons, List.length_nil, Nat.reduceAdd, Nat.zero_add, sz0, sz1, sz2, sz3, sz4, sz5, sz6, sz7, sz8, sz9, sz10, sz11, sz12, sz13, sz14, sz15, sz16, sz17, sz18, sz19, sz20, sz21, sz22, sz23, sz24, sz25, sz26, sz27, sz28, sz29, sz30, sz31, sz32, e]) _ h2 x2 (by rw [lu]; omega)
  rw [zip_snd ls fs l3] at e3
  refine ⟨u, es, fs, h3, ?_, by omega, by rw [l2, lu], ok2, l3, ok3, x3.mono (by rw [lu]; omega)⟩
  have c1 : (top : Int) + 1 = ((top + 1 : Nat) : Int) := by omega
  have s1 := lst_to (l := ns.map dn) (b := u) (h := h1) (by rw [List.length_map]; omega)
  rw [← List.map_take] at s1
  have it : iSeqD (cSl false (cVar 1) cNoPart (cPart (cCall takeF [] (cCons (cVar 0) (cCons (cBin (oAdd false) (cVar 4) (cK (.int 1))) cNil))))) [some (.ref 0), some (.lst (ns.map dn)), some (.lst (ls.map pr)), some (.int (n : Nat)), some (.int (top : Nat)), none, none, none] h = .ok ((ns.take u).map dn) h1 := by
    have e : (cSl false (cVar 1) cNoPart (cPart (cCall takeF [] (cCons (cVar 0) (cCons (cBin (oAdd false) (cVar 4) (cK (.int 1))) cNil))))) [some (.ref 0), some (.lst (ns.map dn)), some (.lst (ls.map pr)), some (.int (n : Nat)), some (.int (top : Nat)), none, none, none] h = .ok (.lst ((ns.take u).map dn)) h1 := by
      simp only [ev_seq, ev_set, ev_bin, ev_cons, ev_nil, ev_var, ev_k, ev_call, ev_ret, ev_expr, ev_if, ev_tv, ev_tnot, ev_tand, ev_tor, ev_chain, ev_lst, ev_lstM, ev_tup, ev_cB, ev_lc, ev_wipe0, ev_wipe1, ev_alloc, ev_allocM, ev_sNil, ev_and, ev_not, ev_raise, seq_next, seq_ret, seq_exc, Res.bind_ok, Res.bind_exc, Res.out_ok, Res.out_exc, List.getElem?_cons_zero, List.getElem?_cons_succ, List.set_cons_succ, List.set_cons_zero, List.append_nil, List.nil_append, List.cons_append, if_true, Bool.false_eq_true, if_false, ev_iop, ev_bop, Bool.not_true, Bool.not_false, res_ret, res_next, res_exc, oAdd_int, oAddI_int, oNe_int, oEq_int, oNe_bl, beq_self_eq_true, ev_asg, ev_gtTup, ev_gtCons, ev_gtNil, ev_gtName, List.length_cons, List.length_nil, Nat.reduceAdd, Nat.zero_add, sz0, sz1, sz2, sz3, sz4, sz5, sz6, sz7, sz8, sz9, sz10, sz11, sz12, sz13, sz14, sz15, sz16, sz17, sz18, sz19, sz20, sz21, sz22, sz23, sz24, sz25, sz26, sz27, sz28, sz29, sz30, sz31, sz32, ev_sl, ev_part, ev_noPart, c1, e1, s1]
    unfold iSeqD
    rw [e]
    rfl
  have it2 : iSeqD (cVar 2) [some (.ref 0), some (.lst (ns.map dn)), some (.lst (ls.map pr)), some (.int (n : Nat)), some (.int (top : Nat)), some (.lst (((ns.take u).zip es).map pr)), none, none] h2 = .ok (ls.map pr) h2 := rfl
  have sl : ((ns.take u).map dn).length ≤ sizeLine := small_line (by rw [List.length_map, lu]; omega)
  have sl2 : (ls.map pr).length ≤ sizeLine := small_line (by rw [List.length_map]; omega)
  exact fn_eq [some (.ref 0), some (.lst (ns.map dn)), some (.lst (ls.map pr)), some (.int (n : Nat)), some (.int (top : Nat)), none, none, none] rfl rfl (by simp only [ev_seq, ev_set, ev_bin, ev_cons, ev_nil, ev_var, ev_k, ev_call, ev_ret, ev_expr, ev_if, ev_tv, ev_tnot, ev_tand, ev_tor, ev_chain, ev_lst, ev_lstM, ev_tup, ev_cB, ev_lc, ev_wipe0, ev_wipe1, ev_alloc, ev_allocM, ev_sNil, ev_and, ev_not, ev_raise, seq_next, seq_ret, seq_exc, Res.bind_ok, Res.bind_exc, Res.out_ok, Res.out_exc, List.getElem?_cons_zero, List.getElem?_cons_succ, List.set_cons_succ, List.set_cons_zero, List.append_nil, List.nil_append, List.cons_append, if_true, Bool.false_eq_true, if_false, ev_iop, ev_bop, Bool.not_true, Bool.not_false, res_ret, res_next, res_exc, oAdd_int, oAddI_int, oNe_int, oEq_int, oNe_bl, beq_self_eq_true, ev_asg, ev_gtTup, ev_gtCons, ev_gtNil, ev_gtName, List.length_cons, List.length_nil, Nat.reduceAdd, Nat.zero_add, sz0, sz1, sz2, sz3, sz4, sz5, sz6, sz7, sz8, sz9, sz10, sz11, sz12, sz13, sz14, sz15, sz16, sz17, sz18, sz19, sz20, sz21, sz22, sz23, sz24, sz25, sz26, sz27, sz28, sz29, sz30, sz31, sz32, endsB, it, sl, e2, it2, sl2, e3]) (x.same x3)
end Gm

namespace Gm
open PySem PySem.Spec PyProof.Rows Gm
/-! ### nets -/
theorem lws_of {n : Nat} : ∀ {l : List D}, (∀ d ∈ l, d.lw n = true) → D.lws n l = true
  | [], _ => rfl
  | d :: l, H => by
    unfold D.lws
    rw [H d (by simp), lws_of fun x hx => H x (by simp [hx])]
    rfl
theorem fn_trim {n k : Nat} {ds : List D} {fb : Ss} {h h' u : Store} {d : D} (st : Slots) (hk : ds.length = k) (hs : startD n ds = st) (e : (fb st h).res = .ok d (h' ++ u)) (hl : h'.length = h.length) (hd : d.lw h.length = true) (hh : h'.all (cellLw h.length) = true) : fnOf n k fb ds h = .ok d h' := by
  unfold fnOf
  rw [if_pos hk, hs, e]
  unfold cleanD clean
  dsimp only
  have t : (h' ++ u).take h.length = h' := by rw [← hl]; exact List.take_left' rfl
  rw [t, if_pos ⟨hd, hh⟩]
theorem app_any {n : Nat} {ds : List D} {d : D} {h : Store} (hn : h[n]? = some (some (.lst ds))) (hs : ds.length ≤ 1000) : mAppend (D.ref n) [d] h = .ok .non (h.set n (some (.lst (ds ++ [d])))) := by
  have e1 : cellL h (D.ref n) = some (n, ds) := by
    show (match h[n]? with
      | some (some (.lst l)) => some (n, l)
      | _ => none) = _
    rw [hn]
  have e4 : ds.length < sizeLine := by
    have q : (1001 : Nat) ≤ sizeLine := small_line (by decide)
    omega
  unfold mAppend
  rw [e1]
  dsimp only
  rw [if_pos e4]
theorem isL_any {n : Nat} {ds : List D} {h : Store} (hn : h[n]? = some (some (.lst ds))) : isTy "list" h (D.ref n) = true := by
  unfold isTy
  dsimp only
  rw [hn]
  rfl
theorem ev_par {i j : Nat} {fs : Ev (List D)} {st : Slots} {h h' : Store} {a b : D} (e : fs st h = .ok [a, b] h') : sPar i j fs st h = .next ((st.set i (some a)).set j (some b)) h' := by
  unfold sPar
  rw [e]
  rfl
def netB : Ss :=
  (sSeq (sAsg (cCall frameF [] (cCons (cVar 0) (cCons (cVar 1) (cCons (cVar 2) cNil)))) (gtTup 3 (gtCons (gtName 5) (gtCons (gtName 6) (gtCons (gtName 7) gtNil)))))
  (sSeq (sSet 8 (cBin (oAdd false) (cBin (oAdd false) (cK (.int 1)) (cB fLen (cCons (cVar 6) cNil))) (cB fLen (cCons (cVar 7) cNil))))
  (sSeq (sSet 9 (cLst true cNil))
  (sSeq (sFor (iRange1 (cCons (cCall takeF [] (cCons (cVar 0) (cCons (cBin (oAdd false) (cVar 3) (cK (.int 1))) cNil))) cNil)) (gtName 10) (sSeq (sPar 11 12 (cCons (cCall edgeF [] (cCons (cVar 0) (cCons (cBin (oAdd false) (cVar 8) (cVar 10)) cNil))) (cCons (cCall edgeF [] (cCons (cVar 0) (cCons (cBin (oAdd false) (cVar 8) (cVar 10)) cNil))) cNil)))
  (sExpr (cMt "list" mAppend (cVar 9) (cCons (cTup (cCons (cB fMin2 (cCons (cVar 11) (cCons (cVar 12) cNil))) (cCons (cB fMax2 (cCons (cVar 11) (cCons (cVar 12) cNil))) cNil))) cNil)))))
  (sSeq (sFrz 9 (sAsg (cCall endsF [] (cCons (cVar 0) (cCons (cRev false (cVar 5)) (cCons (cVar 7) (cCons (cBin (oAdd false) (cVar 8) (cB fLen (cCons (cVar 9) cNil))) (cCons (cVar 4) cNil)))))) (gtTup 2 (gtCons (gtName 13) (gtCons (gtName 14) gtNil)))))
  (sRet (cLst false (cCons (cVar 6) (cCons (cVar 7) (cCons (cVar 9) (cCons (cVar 13) (cCons (cVar 14) cNil))))))))))))
def netF : FnT := fnOf 15 5 netB
/-- a net as the laws draw it -/
structure Nt where
  ins : List (List Nat)
  lat : List (List Nat × Nat)
  gat : List (Nat × Nat)
  out : List (List Nat × Nat)
  nxt : List Nat
def Nt.first (m : Nt) : Nat := 1 + m.ins.length + m.lat.length
structure Nt.Ok (m : Nt) : Prop where
  okn : ∀ w ∈ m.ins ++ m.lat.map (·.1), OkN w
  ndn : (m.ins ++ m.lat.map (·.1)).Nodup
  oko : ∀ w ∈ m.out.map (·.1), OkN w
  ndo : (m.out.map (·.1)).Nodup
  bit : ∀ p ∈ m.lat, p.2 < 2
  gates : ∀ j p, m.gat[j]? = some p → p.1 ≤ p.2 ∧ p.2 < 2 * (m.first + j)
  outs : ∀ p ∈ m.out, p.2 < 2 * (m.first + m.gat.length)
  nexts : ∀ e ∈ m.nxt, e < 2 * (m.first + m.gat.length)
  many : m.nxt.length = m.lat.length
def Nt.dl (m : Nt) : List D := [.lst (m.ins.map dn), .lst (m.lat.map pr), .lst (m.gat.map gp), .lst (m.out.map pr), .lst (dnums m.nxt)]
def Nt.d (m : Nt) : D := .lst m.dl
theorem lw_str (n : Nat) (w : List Nat) : (dn w).lw n = true := rfl
theorem lw_pr (n : Nat) (p : List Nat × Nat) : (pr p).lw n = true := rfl
theorem lw_gp (n : Nat) (p : Nat × Nat) : (gp p).lw n = true := rfl
theorem lws_map {α : Type} {n : Nat} {f : α → D} (H : ∀ a, (f a).lw n = true) (l : List α) : D.lws n (l.map f) = true := lws_of fun d hd => by
  obtain ⟨a, _, rfl⟩ := List.mem_map.mp hd
  exact H a
theorem Nt.lw (m : Nt) (n : Nat) : m.d.lw n = true := by
  have e : m.d.lw n = (D.lws n (m.ins.map dn) && (D.lws n (m.lat.map pr) && (D.lws n (m.gat.map gp) && (D.lws n (m.out.map pr) && (D.lws n (dnums m.nxt) && true))))) := rfl
  rw [e, lws_map (lw_str n), lws_map (lw_pr n), lws_map (lw_gp n), lws_map (lw_pr n), show D.lws n (dnums m.nxt) = true from lws_map (fun _ => rfl) _]
  rfl
theorem box_lw {l : List Int} {p : Nat} {r s : Int} {n : Nat} : cellLw n (box l p r s) = true := by
  have e : cellLw n (box l p r s) = (D.lws n (l.map D.int) && true) := rfl
  rw [e, lws_map (fun _ => rfl)]
  rfl
theorem zip_fst_take {α β : Type} : ∀ (xs : List α) (vs : List β), vs.length = xs.length → (xs.zip vs).map (·.1) = xs
  | [], [], _ => rfl
  | x :: xs, v :: vs, e => by
    rw [List.zip_cons_cons, List.map_cons, zip_fst_take xs vs (by simpa using e)]
  | _ :: _, [], e => by simp at e
  | [], _ :: _, e => by simp at e
theorem mem_zip_snd {α β : Type} {p : α × β} : ∀ {xs : List α} {vs : List β}, p ∈ xs.zip vs → p.2 ∈ vs
  | x :: xs, v :: vs, h => by
    rw [List.zip_cons_cons] at h
    rcases List.mem_cons.mp h with rfl | h
    · simp
    · simp [mem_zip_snd h]
  | [], _, h => by simp at h
  | _ :: _, [], h => by simp at h
def netL : Ss := (sSeq (sPar 11 12 (cCons (cCall edgeF [] (cCons (cVar 0) (cCons (cBin (oAdd false) (cVar 8) (cVar 10)) cNil))) (cCons (cCall edgeF [] (cCons (cVar 0) (cCons (cBin (oAdd false) (cVar 8) (cVar 10)) cNil))) cNil)))
  (sExpr (cMt "list" mAppend (cVar 9) (cCons (cTup (cCons (cB fMin2 (cCons (cVar 11) (cCons (cVar 12) cNil))) (cCons (cB fMax2 (cCons (cVar 11) (cCons (cVar 12) cNil))) cNil))) cNil))))
/-- one gate is drawn -/
theorem netL_eq {l : List Int} {b n j : Nat} {gs : List (Nat × Nat)} {h : Store} {s1 s2 s3 s4 s5 s6 s7 s11 s12 s13 s14 : Option D} (x : Bx l b [some (.lst (gs.map gp))] h) (hb : b ≤ 800000) (hn : 0 < n) (hj : n + j ≤ 1000) (hg : gs.length ≤ 1000) : ∃ (p : Nat × Nat) (h' : Store) (a c : D), p.1 ≤ p.2 ∧ p.2 < 2 * (n + j) ∧ Bx l (b + 4) [some (.lst ((gs ++ [p]).map gp))] h' ∧
    netL [some (.ref 0), s1, s2, s3, s4, s5, s6, s7, some (.int (n : Nat)), some (.ref 1), some (.int (j : Nat)), s11, s12, s13, s14] h = .next [some (.ref 0), s1, s2, s3, s4, s5, s6, s7, some (.int (n : Nat)), some (.ref 1), some (.int (j : Nat)), some a, some c, s13, s14] h' := by
  obtain ⟨a, h1, e1, ha, x1⟩ := edge_eq x (by omega) (n := n + j) (by omega) hj
  obtain ⟨c, h2, e2, hc, x2⟩ := edge_eq x1 (by omega) (n := n + j) (by omega) hj
  obtain ⟨p, r, s, rfl, p1, p2⟩ := x2
  have c1 : (n : Int) + (j : Int) = ((n + j : Nat) : Int) := by omega
  have cc : (box l p r s :: [some (.lst (gs.map gp))])[1]? = some (some (.lst (gs.map gp))) := rfl
  have e3 := app_any (d := gp (min a c, max a c)) cc (by rw [List.length_map]; exact hg)
  have e3 : mAppend (D.ref 1) [gp (min a c, max a c)] (box l p r s :: [some (.lst (gs.map gp))]) = .ok .non (box l p r s :: [some (.lst ((gs ++ [(min a c, max a c)]).map gp))]) := by
    rw [e3, List.map_append]
    rfl
  refine ⟨(min a c, max a c), box l p r s :: [some (.lst ((gs ++ [(min a c, max a c)]).map gp))], .int (a : Nat), .int (c : Nat), by show min a c ≤ max a c; omega, by show max a c < _; omega, ⟨p, r, s, rfl, by omega, p2⟩, ?_⟩
  have e4 : mAppend (D.ref 1) [.tup [.int (min a c : Nat), .int (max a c : Nat)]] (box l p r s :: [some (.lst (gs.map gp))]) = .ok .non (box l p r s :: [some (.lst ((gs ++ [(min a c, max a c)]).map gp))]) := e3
  unfold netL
  rw [ev_seq, ev_par (a := .int (a : Nat)) (b := .int (c : Nat)) (h' := box l p r s :: [some (.lst (gs.map gp))]) (by simp only [ev_seq, ev_set, ev_bin, ev_cons, ev_nil, ev_var, ev_k, ev_call, ev_ret, ev_expr, ev_if, ev_tv, ev_tnot, ev_tand, ev_tor, ev_chain, ev_lst, ev_lstM, ev_tup, ev_cB, ev_lc, ev_wipe0, ev_wipe1, ev_alloc, ev_allocM, ev_sNil, ev_and, ev_not, ev_raise, seq_next, seq_ret, seq_exc, Res.bind_ok, Res.bind_exc, Res.out_ok, Res.out_exc, List.getElem?_cons_zero, List.getElem?_cons_succ, List.set_cons_succ, List.set_cons_zero, List.append_nil, List.nil_append, List.cons_append, if_true, Bool.false_eq_true, if_false, ev_iop, ev_bop, Bool.not_true, Bool.not_false, res_ret, res_next, res_exc, oAdd_int, oAddI_int, oNe_int, oEq_int, oNe_bl, beq_self_eq_true, ev_asg, ev_gtTup, ev_gtCons, ev_gtNil, ev_gtName, List.length_cons, List.length_nil, Nat.reduceAdd, Nat.zero_add, sz0, sz1, sz2, sz3, sz4, sz5, sz6, sz7, sz8, sz9, sz10, sz11, sz12, sz13, sz14, sz15, sz16, sz17, sz18, sz19, sz20, sz21, sz22, sz23, sz24, sz25, sz26, sz27, sz28, sz29, sz30, sz31, sz32, c1, e1, e2]), seq_next, ev_expr]
  simp only [List.set_cons_succ, List.set_cons_zero]
  rw [ev_cMt (d := D.ref 1) (h1 := box l p r s :: [some (.lst (gs.map gp))]) rfl (isL_any cc)]
  simp only [ev_seq, ev_set, ev_bin, ev_cons, ev_nil, ev_var, ev_k, ev_call, ev_ret, ev_expr, ev_if, ev_tv, ev_tnot, ev_tand, ev_tor, ev_chain, ev_lst, ev_lstM, ev_tup, ev_cB, ev_lc, ev_wipe0, ev_wipe1, ev_alloc, ev_allocM, ev_sNil, ev_and, ev_not, ev_raise, seq_next, seq_ret, seq_exc, Res.bind_ok, Res.bind_exc, Res.out_ok, Res.out_exc, List.getElem?_cons_zero, List.getElem?_cons_succ, List.set_cons_succ, List.set_cons_zero, List.append_nil, List.nil_append, List.cons_append, if_true, Bool.false_eq_true, if_false, ev_iop, ev_bop, Bool.not_true, Bool.not_false, res_ret, res_next, res_exc, oAdd_int, oAddI_int, oNe_int, oEq_int, oNe_bl, beq_self_eq_true, ev_asg, ev_gtTup, ev_gtCons, ev_gtNil, ev_gtName, List.length_cons, List.length_nil, Nat.reduceAdd, Nat.zero_add, sz0, sz1, sz2, sz3, sz4, sz5, sz6, sz7, sz8, sz9, sz10, sz11, sz12, sz13, sz14, sz15, sz16, sz17, sz18, sz19, sz20, sz21, sz22, sz23, sz24, sz25, sz26, sz27, sz28, sz29, sz30, sz31, sz32, min2, max2, e4]
set_option maxHeartbeats 8000000 in
theorem net_eq {l : List Int} {b i m top ends : Nat} {h : Store} (x : Bx l b [] h) (hb : b ≤ 500000) (him : i + m ≤ 10) (ht : top ≤ 60) (he : ends ≤ 10) : ∃ (N : Nt) (h' : Store),
    netF [.ref 0, .int (i : Nat), .int (m : Nat), .int (top : Nat), .int (ends : Nat)] h = .ok N.d h' ∧ N.Ok ∧ N.ins.length ≤ i ∧ N.lat.length ≤ m ∧ N.gat.length ≤ top ∧ N.out.length ≤ ends ∧ Bx l (b + 6000) [] h' := by
  obtain ⟨ns, k, u, bs, h1, e1, l1, ok1, nd1, hk, hu, lb, okb, x1⟩ := frame_eq x (by omega) him
  have len1 : h1.length = 1 := x1.len
  have x1' : Bx l (b + 20) [some (.lst [])] (h1 ++ [some (.lst [])]) := x1.app [some (.lst [])]
  obtain ⟨g, h2, e2, hg, x2⟩ := takeF_eq x1' (by omega) (m := top + 1) (by omega) (by omega)
  have lk : (ns.take k).length = k := by rw [List.length_take]; omega
  have lu : ((ns.drop k).take u).length = u := by rw [List.length_take, List.length_drop]; omega
  have ll : (((ns.drop k).take u).zip bs).length = u := by rw [List.length_zip, lu, lb]; omega
  have c0 : (top : Int) + 1 = ((top + 1 : Nat) : Int) := by omega
  have r1 : iRange1 (cCons (cCall takeF [] (cCons (cVar 0) (cCons (cBin (oAdd false) (cVar 3) (cK (.int 1))) cNil))) cNil) [some (.ref 0), some (.int (i : Nat)), some (.int (m : Nat)), some (.int (top : Nat)), some (.int (ends : Nat)), some (.lst (ns.map dn)), some (.lst ((ns.take k).map dn)), some (.lst ((((ns.drop k).take u).zip bs).map pr)), some (.int (1 + k + u : Nat)), some (.ref 1), none, none, none, none, none] (h1 ++ [some (.lst [])]) = .ok ((List.range g).map fun (i : Nat) => D.int (i : Int)) h2 := ev_range1 (by simp only [ev_seq, ev_set, ev_bin, ev_cons, ev_nil, ev_var, ev_k, ev_call, ev_ret, ev_expr, ev_if, ev_tv, ev_tnot, ev_tand, ev_tor, ev_chain, ev_lst, ev_lstM, ev_tup, ev_cB, ev_lc, ev_wipe0, ev_wipe1, ev_alloc, ev_allocM, ev_sNil, ev_and, ev_not, ev_raise, seq_next, seq_ret, seq_exc, Res.bind_ok, Res.bind_exc, Res.out_ok, Res.out_exc, List.getElem?_cons_zero, List.getElem?_cons_succ, List.set_cons_succ, List.set_cons_zero, List.append_nil, List.nil_append, List.cons_append, if_true, Bool.false_eq_true, if_false, ev_iop, ev_bop, Bool.not_true, Bool.not_false, res_ret, res_next, res_exc, oAdd_int, oAddI_int, oNe_int, oEq_int, oNe_bl, beq_self_eq_true, ev_asg, ev_gtTup, ev_gtCons, ev_gtNil, ev_gtName, List.length_cons, List.length_nil, Nat.reduceAdd, Nat.zero_add, sz0, sz1, sz2, sz3, sz4, sz5, sz6, sz7, sz8, sz9, sz10, sz11, sz12, sz13, sz14, sz15, sz16, sz17, sz18, sz19, sz20, sz21, sz22, sz23, sz24, sz25, sz26, sz27, sz28, sz29, sz30, sz31, sz32, c0, e2]) (by omega)
  obtain ⟨st', h3, e3, gs, z10, z11, z12, x3, lg, hgs, rfl⟩ := forL_inv (fg := gtName 10) (fb := netL) (fun j st hh => ∃ (gs : List (Nat × Nat)) (z10 z11 z12 : Option D), Bx l (b + 21 + 4 * j) [some (.lst (gs.map gp))] hh ∧ (gs.length = j ∧ j ≤ g) ∧ (∀ q p, gs[q]? = some p → p.1 ≤ p.2 ∧ p.2 < 2 * (1 + k + u + q)) ∧
      st = [some (.ref 0), some (.int (i : Nat)), some (.int (m : Nat)), some (.int (top : Nat)), some (.int (ends : Nat)), some (.lst (ns.map dn)), some (.lst ((ns.take k).map dn)), some (.lst ((((ns.drop k).take u).zip bs).map pr)), some (.int (1 + k + u : Nat)), some (.ref 1), z10, z11, z12, none, none])
    ((List.range g).map fun (i : Nat) => D.int (i : Int)) 0 [some (.ref 0), some (.int (i : Nat)), some (.int (m : Nat)), some (.int (top : Nat)), some (.int (ends : Nat)), some (.lst (ns.map dn)), some (.lst ((ns.take k).map dn)), some (.lst ((((ns.drop k).take u).zip bs).map pr)), some (.int (1 + k + u : Nat)), some (.ref 1), none, none, none, none, none] h2 (fun j d st hh hd ⟨gs, z10, z11, z12, x, ⟨lg, _⟩, hgs, i2⟩ => by
      subst i2
      rw [Nat.zero_add] at x lg ⊢
      rw [List.getElem?_map] at hd
      have hi : j < g := by
        by_cases z : j < g
        · exact z
        · rw [List.getElem?_eq_none (by simpa using z)] at hd
          cases hd
      rw [List.getElem?_range hi] at hd
      have hd : D.int (j : Int) = d := by simpa using hd
      subst hd
      obtain ⟨p, h', a, c, p1, p2, x', e⟩ := netL_eq (j := j) x (by omega) (n := 1 + k + u) (by omega) (by omega) (by omega)
      refine ⟨_, _, _, h', rfl, e, gs ++ [p], some (.int (j : Nat)), some a, some c, x'.mono (by omega), ⟨by simp [lg], hi⟩, fun q p' hq => ?_, rfl⟩
      by_cases z : q < gs.length
      · rw [List.getElem?_append_left z] at hq
        exact hgs q p' hq
      · by_cases z2 : q = gs.length
        · subst z2
          rw [List.getElem?_append_right (Nat.le_refl _), Nat.sub_self] at hq
          have hq : p = p' := by simpa using hq
          subst hq
          rw [lg]
          exact ⟨p1, p2⟩
        · rw [List.getElem?_append_right (by omega), List.getElem?_eq_none (by simp; omega)] at hq
          cases hq) ⟨[], none, none, none, x2, ⟨rfl, Nat.zero_le _⟩, fun q p hq => by simp at hq, rfl⟩
  rw [Nat.zero_add, List.length_map, List.length_range] at x3 lg
  obtain ⟨lg, _⟩ := lg
  obtain ⟨p, r, s, rfl, p1, p2⟩ := x3
  have x4 : Bx l (b + 21 + 4 * g) [none] (box l p r s :: [none]) := ⟨p, r, s, rfl, p1, p2⟩
  obtain ⟨w, es, fs, h5, e5, hw, l5, ok5, l6, ok6, x5⟩ := ends_eq (ns := ns.reverse) (ls := ((ns.drop k).take u).zip bs) (n := 1 + k + u + gs.length) (top := ends) x4 (by omega) (by omega) (by omega) (by rw [List.length_reverse]; omega) (by rw [List.length_reverse]; omega) (by omega)
  obtain ⟨p', r', s', rfl, q1, q2⟩ := x5
  have lw : (ns.reverse.take w).length = w := by rw [List.length_take, List.length_reverse]; omega
  refine ⟨⟨ns.take k, ((ns.drop k).take u).zip bs, gs, (ns.reverse.take w).zip es, fs⟩, [box l p' r' s'], ?_, ?_, ?_, ?_, ?_, ?_, ⟨p', r', s', rfl, by omega, q2⟩⟩
  · refine fn_trim (u := [none]) [some (.ref 0), some (.int (i : Nat)), some (.int (m : Nat)), some (.int (top : Nat)), some (.int (ends : Nat)), none, none, none, none, none, none, none, none, none, none] rfl rfl ?_ (by rw [x.len]; rfl) (Nt.lw _ _) (by simp only [List.all_cons, List.all_nil, box_lw]; rfl)
    have la : fLen [.lst ((ns.take k).map dn)] h1 = .ok (.int (k : Nat)) h1 := by rw [len_lst, List.length_map, lk]
    have lb2 : fLen [.lst ((((ns.drop k).take u).zip bs).map pr)] h1 = .ok (.int (u : Nat)) h1 := by rw [len_lst, List.length_map, ll]
    have f0 : (1 : Int) + (k : Int) + (u : Int) = ((1 + k + u : Nat) : Int) := by omega
    have lc : fLen [.lst (gs.map gp)] (box l p r s :: [none]) = .ok (.int (gs.length : Nat)) (box l p r s :: [none]) := by rw [len_lst, List.length_map]
    have f1 : ((1 + k + u : Nat) : Int) + (gs.length : Int) = ((1 + k + u + gs.length : Nat) : Int) := by omega
    have rv : cRev false (cVar 5) [some (.ref 0), some (.int (i : Nat)), some (.int (m : Nat)), some (.int (top : Nat)), some (.int (ends : Nat)), some (.lst (ns.map dn)), some (.lst ((ns.take k).map dn)), some (.lst ((((ns.drop k).take u).zip bs).map pr)), some (.int (1 + k + u : Nat)), some (.lst (gs.map gp)), z10, z11, z12, none, none] (box l p r s :: [none]) = .ok (.lst (ns.reverse.map dn)) (box l p r s :: [none]) := by
      rw [List.map_reverse]
      rfl
    have t3 : [D.lst (ns.map dn), D.lst ((ns.take k).map dn), D.lst ((((ns.drop k).take u).zip bs).map pr)].length = 3 := rfl
    have t2 : [D.lst (((ns.reverse.take w).zip es).map pr), D.lst (dnums fs)].length = 2 := rfl
    have A : (sAsg (cCall frameF [] (cCons (cVar 0) (cCons (cVar 1) (cCons (cVar 2) cNil)))) (gtTup 3 (gtCons (gtName 5) (gtCons (gtName 6) (gtCons (gtName 7) gtNil))))) [some (.ref 0), some (.int (i : Nat)), some (.int (m : Nat)), some (.int (top : Nat)), some (.int (ends : Nat)), none, none, none, none, none, none, none, none, none, none] h =
      .next [some (.ref 0), some (.int (i : Nat)), some (.int (m : Nat)), some (.int (top : Nat)), some (.int (ends : Nat)), some (.lst (ns.map dn)), some (.lst ((ns.take k).map dn)), some (.lst ((((ns.drop k).take u).zip bs).map pr)), none, none, none, none, none, none, none] h1 := by simp only [ev_seq, ev_set, ev_bin, ev_cons, ev_nil, ev_var, ev_k, ev_call, ev_ret, ev_expr, ev_if, ev_tv, ev_tnot, ev_tand, ev_tor, ev_chain, ev_lst, ev_lstM, ev_tup, ev_cB, ev_lc, ev_wipe0, ev_wipe1, ev_alloc, ev_allocM, ev_sNil, ev_and, ev_not, ev_raise, seq_next, seq_ret, seq_exc, Res.bind_ok, Res.bind_exc, Res.out_ok, Res.out_exc, List.getElem?_cons_zero, List.getElem?_cons_succ, List.set_cons_succ, List.set_cons_zero, List.append_nil, List.nil_append, List.cons_append, if_true, Bool.false_eq_true, if_false, ev_iop, ev_bop, Bool.not_true, Bool.not_false, res_ret, res_next, res_exc, oAdd_int, oAddI_int, oNe_int, oEq_int, oNe_bl, beq_self_eq_true, ev_asg, ev_gtTup, ev_gtCons, ev_gtNil, ev_gtName, List.length_cons, List.length_nil, Nat.reduceAdd, Nat.zero_add, sz0, sz1, sz2, sz3, sz4, sz5, sz6, sz7, sz8, sz9, sz10, sz11, sz12, sz13, sz14, sz15, sz16, sz17, sz18, sz19, sz20, sz21, sz22, sz23, sz24, sz25, sz26, sz27, sz28, sz29, sz30, sz31, sz32, e1]
    have F : (sFrz 9 (sAsg (cCall endsF [] (cCons (cVar 0) (cCons (cRev false (cVar 5)) (cCons (cVar 7) (cCons (cBin (oAdd false) (cVar 8) (cB fLen (cCons (cVar 9) cNil))) (cCons (cVar 4) cNil)))))) (gtTup 2 (gtCons (gtName 13) (gtCons (gtName 14) gtNil))))) [some (.ref 0), some (.int (i : Nat)), some (.int (m : Nat)), some (.int (top : Nat)), some (.int (ends : Nat)), some (.lst (ns.map dn)), some (.lst ((ns.take k).map dn)), some (.lst ((((ns.drop k).take u).zip bs).map pr)), some (.int (1 + k + u : Nat)), some (.ref 1), z10, z11, z12, none, none] (box l p r s :: [some (.lst (gs.map gp))]) =
      .next [some (.ref 0), some (.int (i : Nat)), some (.int (m : Nat)), some (.int (top : Nat)), some (.int (ends : Nat)), some (.lst (ns.map dn)), some (.lst ((ns.take k).map dn)), some (.lst ((((ns.drop k).take u).zip bs).map pr)), some (.int (1 + k + u : Nat)), some (.lst (gs.map gp)), z10, z11, z12, some (.lst (((ns.reverse.take w).zip es).map pr)), some (.lst (dnums fs))] (box l p' r' s' :: [none]) := by
      rw [frz_at (n := 1) (l := gs.map gp) rfl rfl]
      simp only [ev_seq, ev_set, ev_bin, ev_cons, ev_nil, ev_var, ev_k, ev_call, ev_ret, ev_expr, ev_if, ev_tv, ev_tnot, ev_tand, ev_tor, ev_chain, ev_lst, ev_lstM, ev_tup, ev_cB, ev_lc, ev_wipe0, ev_wipe1, ev_alloc, ev_allocM, ev_sNil, ev_and, ev_not, ev_raise, seq_next, seq_ret, seq_exc, Res.bind_ok, Res.bind_exc, Res.out_ok, Res.out_exc, List.getElem?_cons_zero, List.getElem?_cons_succ, List.set_cons_succ, List.set_cons_zero, List.append_nil, List.nil_append, List.cons_append, if_true, Bool.false_eq_true, if_false, ev_iop, ev_bop, Bool.not_true, Bool.not_false, res_ret, res_next, res_exc, oAdd_int, oAddI_int, oNe_int, oEq_int, oNe_bl, beq_self_eq_true, ev_asg, ev_gtTup, ev_gtCons, ev_gtNil, ev_gtName, List.length_cons, List.length_nil, Nat.reduceAdd, Nat.zero_add, sz0, sz1, sz2, sz3, sz4, sz5, sz6, sz7, sz8, sz9, sz10, sz11, sz12, sz13, sz14, sz15, sz16, sz17, sz18, sz19, sz20, sz21, sz22, sz23, sz24, sz25, sz26, sz27, sz28, sz29, sz30, sz31, sz32, rv, lc, f1, e5]
    have G : (sFor (iRange1 (cCons (cCall takeF [] (cCons (cVar 0) (cCons (cBin (oAdd false) (cVar 3) (cK (.int 1))) cNil))) cNil)) (gtName 10) netL) [some (.ref 0), some (.int (i : Nat)), some (.int (m : Nat)), some (.int (top : Nat)), some (.int (ends : Nat)), some (.lst (ns.map dn)), some (.lst ((ns.take k).map dn)), some (.lst ((((ns.drop k).take u).zip bs).map pr)), some (.int (1 + k + u : Nat)), some (.ref 1), none, none, none, none, none] (h1 ++ [some (.lst [])]) =
      .next [some (.ref 0), some (.int (i : Nat)), some (.int (m : Nat)), some (.int (top : Nat)), some (.int (ends : Nat)), some (.lst (ns.map dn)), some (.lst ((ns.take k).map dn)), some (.lst ((((ns.drop k).take u).zip bs).map pr)), some (.int (1 + k + u : Nat)), some (.ref 1), z10, z11, z12, none, none] (box l p r s :: [some (.lst (gs.map gp))]) := by
      rw [ev_for, r1, Res.out_ok, e3]
    unfold netB
    rw [ev_seq, A, seq_next]
    unfold netL at G
    simp only [ev_seq, ev_set, ev_bin, ev_cons, ev_nil, ev_var, ev_k, ev_call, ev_ret, ev_expr, ev_if, ev_tv, ev_tnot, ev_tand, ev_tor, ev_chain, ev_lst, ev_lstM, ev_tup, ev_cB, ev_lc, ev_wipe0, ev_wipe1, ev_alloc, ev_allocM, ev_sNil, ev_and, ev_not, ev_raise, seq_next, seq_ret, seq_exc, Res.bind_ok, Res.bind_exc, Res.out_ok, Res.out_exc, List.getElem?_cons_zero, List.getElem?_cons_succ, List.set_cons_succ, List.set_cons_zero, List.append_nil, List.nil_append, List.cons_append, if_true, Bool.false_eq_true, if_false, ev_iop, ev_bop, Bool.not_true, Bool.not_false, res_ret, res_next, res_exc, oAdd_int, oAddI_int, oNe_int, oEq_int, oNe_bl, beq_self_eq_true, ev_asg, ev_gtTup, ev_gtCons, ev_gtNil, ev_gtName, List.length_cons, List.length_nil, Nat.reduceAdd, Nat.zero_add, sz0, sz1, sz2, sz3, sz4, sz5, sz6, sz7, sz8, sz9, sz10, sz11, sz12, sz13, sz14, sz15, sz16, sz17, sz18, sz19, sz20, sz21, sz22, sz23, sz24, sz25, sz26, sz27, sz28, sz29, sz30, sz31, sz32, la, lb2, f0, len1, G, F]
    rfl
  · have a1 : ((((ns.drop k).take u).zip bs).map (·.1)) = (ns.drop k).take u := zip_fst_take _ _ (by rw [lb, lu])
    have a2 : (((ns.reverse.take w).zip es).map (·.1)) = ns.reverse.take w := zip_fst_take _ _ (by rw [l5, lw])
    have sub : (ns.take k ++ (ns.drop k).take u).Sublist ns := by
      have z := (List.Sublist.refl (ns.take k)).append (List.take_sublist u (ns.drop k))
      rwa [List.take_append_drop] at z
    refine ⟨?_, ?_, ?_, ?_, fun p hp => okb _ (mem_zip_snd hp), fun j p hp => ?_, fun p hp => ?_, fun e he => ?_, ?_⟩
    · show ∀ v ∈ ns.take k ++ (((ns.drop k).take u).zip bs).map (·.1), OkN v
      rw [a1]
      exact fun v hv => ok1 v (sub.subset hv)
    · show (ns.take k ++ (((ns.drop k).take u).zip bs).map (·.1)).Nodup
      rw [a1]
      exact sub.nodup nd1
    · show ∀ v ∈ ((ns.reverse.take w).zip es).map (·.1), OkN v
      rw [a2]
      exact fun v hv => ok1 v (List.mem_reverse.mp (List.mem_of_mem_take hv))
    · show (((ns.reverse.take w).zip es).map (·.1)).Nodup
      rw [a2]
      exact (List.take_sublist _ _).nodup (List.pairwise_reverse.mpr (nd1.imp fun z => Ne.symm z))
    · have z := hgs j p hp
      show p.1 ≤ p.2 ∧ p.2 < 2 * (1 + (ns.take k).length + (((ns.drop k).take u).zip bs).length + j)
      rw [lk, ll]
      exact z
    · show p.2 < 2 * (1 + (ns.take k).length + (((ns.drop k).take u).zip bs).length + gs.length)
      rw [lk, ll]
      exact ok5 _ (mem_zip_snd hp)
    · show e < 2 * (1 + (ns.take k).length + (((ns.drop k).take u).zip bs).length + gs.length)
      rw [lk, ll]
      exact ok6 _ he
    · exact l6
  · show (ns.take k).length ≤ i
    omega
  · show (((ns.drop k).take u).zip bs).length ≤ m
    omega
  · show gs.length ≤ top
    omega
  · show ((ns.reverse.take w).zip es).length ≤ ends
    rw [List.length_zip, lw, l5]
    omega
end Gm

namespace Gm
open PySem PySem.Spec PyProof.Rows Gm
/-! ### the net that is made -/
def isNameB : Ss :=
  (sRet (cAnd (cChain oLt oLe (cK (.int 0)) (cB fLen (cCons (cVar 0) cNil)) (cK (.int 8))) (cB fAll (cCons (cLc false (iSeqD (cVar 0)) (fName 1) cYes (cBin oIn (cVar 1) (cK (.str (PySem.Str.ofString "abcdefghijklmnopqrstuvwxyz")))) [1]) cNil))))
def isNameF : FnT := fnOf 2 1 isNameB
def needNameB (E1 : Ss) : Ss :=
  (sIf (cTnot (cTv (cCall isNameF [] (cCons (cVar 0) cNil)))) E1
  sNil)
def needNameF (E1 : Ss) : FnT := fnOf 1 1 (needNameB E1)
def needNamesB (E1 E2 : Ss) : Ss :=
  (sSeq (sFor (iSeqD (cBin (oAdd false) (cVar 0) (cVar 1))) (gtName 2) (sExpr (cCall (needNameF E1) [] (cCons (cVar 2) cNil))))
  (sIf (cTor (cTv (cBin oLt (cLenSet (cVar 0)) (cB fLen (cCons (cVar 0) cNil)))) (cTv (cBin oLt (cLenSet (cVar 1)) (cB fLen (cCons (cVar 1) cNil))))) E2
  sNil))
def needNamesF (E1 E2 : Ss) : FnT := fnOf 3 2 (needNamesB E1 E2)
theorem name_ok {w : List Nat} (ok : OkN w) (h : Store) : isNameF [dn w] h = .ok (.bl true) h := by
  obtain ⟨o1, o2, o3⟩ := ok
  have l1 := len_tx (h := h) (w := w) (by omega)
  have z0 : (0 : Int) < (w.length : Int) := by omega
  have z8 : (w.length : Int) ≤ 8 := by omega
  have it : iSeqD (cVar 0) [some (dn w), none] h = .ok (w.map fun a => D.str (tx [a])) h := by
    rw [← signs_tx]
    rfl
  have sl : (w.map fun a => D.str (tx [a])).length ≤ sizeLine := small_line (by rw [List.length_map]; omega)
  have e1 := lcL_all1 (fg := fName 1) (ft := cYes) (fe := cBin oIn (cVar 1) (cK (.str (PySem.Str.ofString "abcdefghijklmnopqrstuvwxyz")))) (st0 := [some (dn w), none]) (h := h) (f := fun a => D.str (tx [a])) (q := fun _ => D.bl true) w fun a ha => by
    obtain ⟨a1, a2⟩ := o3 a ha
    refine ⟨_, rfl, rfl, ?_⟩
    simp only [ev_seq, ev_set, ev_bin, ev_cons, ev_nil, ev_var, ev_k, ev_call, ev_ret, ev_expr, ev_if, ev_tv, ev_tnot, ev_tand, ev_tor, ev_chain, ev_lst, ev_lstM, ev_tup, ev_cB, ev_lc, ev_wipe0, ev_wipe1, ev_alloc, ev_allocM, ev_sNil, ev_and, ev_not, ev_raise, seq_next, seq_ret, seq_exc, Res.bind_ok, Res.bind_exc, Res.out_ok, Res.out_exc, List.getElem?_cons_zero, List.getElem?_cons_succ, List.set_cons_succ, List.set_cons_zero, List.append_nil, List.nil_append, List.cons_append, if_true, Bool.false_eq_true, if_false, ev_iop, ev_bop, Bool.not_true, Bool.not_false, res_ret, res_next, res_exc, oAdd_int, oAddI_int, oNe_int, oEq_int, oNe_bl, beq_self_eq_true, ev_asg, ev_gtTup, ev_gtCons, ev_gtNil, ev_gtName, List.length_cons, List.length_nil, Nat.reduceAdd, Nat.zero_add, sz0, sz1, sz2, sz3, sz4, sz5, sz6, sz7, sz8, sz9, sz10, sz11, sz12, sz13, sz14, sz15, sz16, sz17, sz18, sz19, sz20, sz21, sz22, sz23, sz24, sz25, sz26, sz27, sz28, sz29, sz30, sz31, sz32, in_abc a1 a2]
  have al : fAll [.lst (w.map fun _ => D.bl true)] h = .ok (.bl true) h := by
    have q : (w.map fun _ => D.bl true) = (w.map fun _ => true).map D.bl := by rw [List.map_map]; rfl
    have q2 : (w.map fun _ => true).all id = true := by simp
    unfold fAll fOf1
    simp only [asR, q, bools_map, q2]
  have l1 : fLen [dn w] h = .ok (.int (w.length : Nat)) h := l1
  exact fn_eq [some (dn w), none] rfl rfl (by simp only [ev_seq, ev_set, ev_bin, ev_cons, ev_nil, ev_var, ev_k, ev_call, ev_ret, ev_expr, ev_if, ev_tv, ev_tnot, ev_tand, ev_tor, ev_chain, ev_lst, ev_lstM, ev_tup, ev_cB, ev_lc, ev_wipe0, ev_wipe1, ev_alloc, ev_allocM, ev_sNil, ev_and, ev_not, ev_raise, seq_next, seq_ret, seq_exc, Res.bind_ok, Res.bind_exc, Res.out_ok, Res.out_exc, List.getElem?_cons_zero, List.getElem?_cons_succ, List.set_cons_succ, List.set_cons_zero, List.append_nil, List.nil_append, List.cons_append, if_true, Bool.false_eq_true, if_false, ev_iop, ev_bop, Bool.not_true, Bool.not_false, res_ret, res_next, res_exc, oAdd_int, oAddI_int, oNe_int, oEq_int, oNe_bl, beq_self_eq_true, ev_asg, ev_gtTup, ev_gtCons, ev_gtNil, ev_gtName, List.length_cons, List.length_nil, Nat.reduceAdd, Nat.zero_add, sz0, sz1, sz2, sz3, sz4, sz5, sz6, sz7, sz8, sz9, sz10, sz11, sz12, sz13, sz14, sz15, sz16, sz17, sz18, sz19, sz20, sz21, sz22, sz23, sz24, sz25, sz26, sz27, sz28, sz29, sz30, sz31, sz32, isNameB, l1, z0, z8, decide_true, it, sl, e1, al]) rfl
theorem need_ok {E1 : Ss} {w : List Nat} (ok : OkN w) (h : Store) : needNameF E1 [dn w] h = .ok .non h :=
  fn_eq [some (dn w)] rfl rfl (by simp only [ev_seq, ev_set, ev_bin, ev_cons, ev_nil, ev_var, ev_k, ev_call, ev_ret, ev_expr, ev_if, ev_tv, ev_tnot, ev_tand, ev_tor, ev_chain, ev_lst, ev_lstM, ev_tup, ev_cB, ev_lc, ev_wipe0, ev_wipe1, ev_alloc, ev_allocM, ev_sNil, ev_and, ev_not, ev_raise, seq_next, seq_ret, seq_exc, Res.bind_ok, Res.bind_exc, Res.out_ok, Res.out_exc, List.getElem?_cons_zero, List.getElem?_cons_succ, List.set_cons_succ, List.set_cons_zero, List.append_nil, List.nil_append, List.cons_append, if_true, Bool.false_eq_true, if_false, ev_iop, ev_bop, Bool.not_true, Bool.not_false, res_ret, res_next, res_exc, oAdd_int, oAddI_int, oNe_int, oEq_int, oNe_bl, beq_self_eq_true, ev_asg, ev_gtTup, ev_gtCons, ev_gtNil, ev_gtName, List.length_cons, List.length_nil, Nat.reduceAdd, Nat.zero_add, sz0, sz1, sz2, sz3, sz4, sz5, sz6, sz7, sz8, sz9, sz10, sz11, sz12, sz13, sz14, sz15, sz16, sz17, sz18, sz19, sz20, sz21, sz22, sz23, sz24, sz25, sz26, sz27, sz28, sz29, sz30, sz31, sz32, needNameB, name_ok ok]) rfl
theorem lenSet_ok {f : Ev D} {A : List (List Nat)} {st : Slots} {h : Store} (e : f st h = .ok (.lst (A.map dn)) h) (nd : A.Nodup) (hl : A.length ≤ 1000) : cLenSet f st h = .ok (.int (A.length : Nat)) h := by
  have q : A.map dn = (A.map tx).map D.str := by rw [List.map_map]; rfl
  have nd2 : (A.map tx).Nodup := List.pairwise_map.mpr (nd.imp fun ne e => ne (tx_inj e))
  unfold cLenSet
  rw [e, Res.bind_ok, q]
  simp only [asR, strs_map]
  rw [if_pos (by rw [List.length_map]; exact hl), dst_nodup nd2 _ (Nat.le_refl _), List.length_map]
theorem needs_ok {E1 E2 : Ss} {A O : List (List Nat)} (okA : ∀ w ∈ A, OkN w) (okO : ∀ w ∈ O, OkN w) (ndA : A.Nodup) (ndO : O.Nodup) (lA : A.length ≤ 100) (lO : O.length ≤ 100) (h : Store) : needNamesF E1 E2 [.lst (A.map dn), .lst (O.map dn)] h = .ok .non h := by
  have cat : oAdd false (.lst (A.map dn)) (.lst (O.map dn)) h = .ok (.lst ((A ++ O).map dn)) h := by
    have z : (A.map dn).length + (O.map dn).length ≤ sizeLine := small_line (by rw [List.length_map, List.length_map]; omega)
    show (if (A.map dn).length + (O.map dn).length ≤ sizeLine then Res.ok (D.lst (A.map dn ++ O.map dn)) h else Res.no) = _
    rw [if_pos z, List.map_append]
  have it : iSeqD (cBin (oAdd false) (cVar 0) (cVar 1)) [some (.lst (A.map dn)), some (.lst (O.map dn)), none] h = .ok ((A ++ O).map dn) h := by
    have e : (cBin (oAdd false) (cVar 0) (cVar 1)) [some (.lst (A.map dn)), some (.lst (O.map dn)), none] h = .ok (.lst ((A ++ O).map dn)) h := by simp only [ev_seq, ev_set, ev_bin, ev_cons, ev_nil, ev_var, ev_k, ev_call, ev_ret, ev_expr, ev_if, ev_tv, ev_tnot, ev_tand, ev_tor, ev_chain, ev_lst, ev_lstM, ev_tup, ev_cB, ev_lc, ev_wipe0, ev_wipe1, ev_alloc, ev_allocM, ev_sNil, ev_and, ev_not, ev_raise, seq_next, seq_ret, seq_exc, Res.bind_ok, Res.bind_exc, Res.out_ok, Res.out_exc, List.getElem?_cons_zero, List.getElem?_cons_succ, List.set_cons_succ, List.set_cons_zero, List.append_nil, List.nil_append, List.cons_append, if_true, Bool.false_eq_true, if_false, ev_iop, ev_bop, Bool.not_true, Bool.not_false, res_ret, res_next, res_exc, oAdd_int, oAddI_int, oNe_int, oEq_int, oNe_bl, beq_self_eq_true, ev_asg, ev_gtTup, ev_gtCons, ev_gtNil, ev_gtName, List.length_cons, List.length_nil, Nat.reduceAdd, Nat.zero_add, sz0, sz1, sz2, sz3, sz4, sz5, sz6, sz7, sz8, sz9, sz10, sz11, sz12, sz13, sz14, sz15, sz16, sz17, sz18, sz19, sz20, sz21, sz22, sz23, sz24, sz25, sz26, sz27, sz28, sz29, sz30, sz31, sz32, cat]
    unfold iSeqD
    rw [e]
    rfl
  obtain ⟨st', h', e, e9, z2, rfl⟩ := forL_inv (fg := gtName 2) (fb := sExpr (cCall (needNameF E1) [] (cCons (cVar 2) cNil))) (fun i st h1 => h1 = h ∧ ∃ z2, st = [some (.lst (A.map dn)), some (.lst (O.map dn)), z2]) ((A ++ O).map dn) 0 [some (.lst (A.map dn)), some (.lst (O.map dn)), none] h (fun i d st h1 hd ⟨i1, z2, i2⟩ => by
    subst i1 i2
    obtain ⟨w, hw, rfl⟩ := List.mem_map.mp (List.mem_of_getElem? hd)
    have ok : OkN w := by
      rcases List.mem_append.mp hw with hw | hw
      · exact okA w hw
      · exact okO w hw
    exact ⟨_, _, [some (.lst (A.map dn)), some (.lst (O.map dn)), some (dn w)], h1, rfl, by simp only [ev_seq, ev_set, ev_bin, ev_cons, ev_nil, ev_var, ev_k, ev_call, ev_ret, ev_expr, ev_if, ev_tv, ev_tnot, ev_tand, ev_tor, ev_chain, ev_lst, ev_lstM, ev_tup, ev_cB, ev_lc, ev_wipe0, ev_wipe1, ev_alloc, ev_allocM, ev_sNil, ev_and, ev_not, ev_raise, seq_next, seq_ret, seq_exc, Res.bind_ok, Res.bind_exc, Res.out_ok, Res.out_exc, List.getElem?_cons_zero, List.getElem?_cons_succ, List.set_cons_succ, List.set_cons_zero, List.append_nil, List.nil_append, List.cons_append, if_true, Bool.false_eq_true, if_false, ev_iop, ev_bop, Bool.not_true, Bool.not_false, res_ret, res_next, res_exc, oAdd_int, oAddI_int, oNe_int, oEq_int, oNe_bl, beq_self_eq_true, ev_asg, ev_gtTup, ev_gtCons, ev_gtNil, ev_gtName, List.length_cons, List.length_nil, Nat.reduceAdd, Nat.zero_add, sz0, sz1, sz2, sz3, sz4, sz5, sz6, sz7, sz8, sz9, sz10, sz11, sz12, sz13, sz14, sz15, sz16, sz17, sz18, sz19, sz20, sz21, sz22, sz23, sz24, sz25, sz26, sz27, sz28, sz29, sz30, sz31, sz32, need_ok ok], rfl, _, rfl⟩) ⟨rfl, none, rfl⟩
  rw [e9] at e
  have s1 : cLenSet (cVar 0) [some (.lst (A.map dn)), some (.lst (O.map dn)), z2] h = .ok (.int (A.length : Nat)) h := lenSet_ok rfl ndA (by omega)
  have s2 : cLenSet (cVar 1) [some (.lst (A.map dn)), some (.lst (O.map dn)), z2] h = .ok (.int (O.length : Nat)) h := lenSet_ok rfl ndO (by omega)
  have t1 : fLen [.lst (A.map dn)] h = .ok (.int (A.length : Nat)) h := by rw [len_lst, List.length_map]
  have t2 : fLen [.lst (O.map dn)] h = .ok (.int (O.length : Nat)) h := by rw [len_lst, List.length_map]
  have lt : ∀ a : Nat, decide ((a : Int) < (a : Int)) = false := fun a => decide_eq_false (by omega)
  exact fn_eq [some (.lst (A.map dn)), some (.lst (O.map dn)), none] rfl rfl (by simp only [ev_seq, ev_set, ev_bin, ev_cons, ev_nil, ev_var, ev_k, ev_call, ev_ret, ev_expr, ev_if, ev_tv, ev_tnot, ev_tand, ev_tor, ev_chain, ev_lst, ev_lstM, ev_tup, ev_cB, ev_lc, ev_wipe0, ev_wipe1, ev_alloc, ev_allocM, ev_sNil, ev_and, ev_not, ev_raise, seq_next, seq_ret, seq_exc, Res.bind_ok, Res.bind_exc, Res.out_ok, Res.out_exc, List.getElem?_cons_zero, List.getElem?_cons_succ, List.set_cons_succ, List.set_cons_zero, List.append_nil, List.nil_append, List.cons_append, if_true, Bool.false_eq_true, if_false, ev_iop, ev_bop, Bool.not_true, Bool.not_false, res_ret, res_next, res_exc, oAdd_int, oAddI_int, oNe_int, oEq_int, oNe_bl, beq_self_eq_true, ev_asg, ev_gtTup, ev_gtCons, ev_gtNil, ev_gtName, List.length_cons, List.length_nil, Nat.reduceAdd, Nat.zero_add, sz0, sz1, sz2, sz3, sz4, sz5, sz6, sz7, sz8, sz9, sz10, sz11, sz12, sz13, sz14, sz15, sz16, sz17, sz18, sz19, sz20, sz21, sz22, sz23, sz24, sz25, sz26, sz27, sz28, sz29, sz30, sz31, sz32, needNamesB, ev_for, it, e, s1, s2, t1, t2, lt]) rfl
theorem any_no {α : Type} (xs : List α) (h : Store) : fAny [.lst (xs.map fun _ => D.bl false)] h = .ok (.bl false) h := by
  have q : (xs.map fun _ => D.bl false) = (xs.map fun _ => false).map D.bl := by rw [List.map_map]; rfl
  have q2 : (xs.map fun _ => false).any id = false := by simp
  unfold fAny fOf1
  simp only [asR, q, bools_map, q2]
theorem all_yes {α : Type} (xs : List α) (h : Store) : fAll [.lst (xs.map fun _ => D.bl true)] h = .ok (.bl true) h := by
  have q : (xs.map fun _ => D.bl true) = (xs.map fun _ => true).map D.bl := by rw [List.map_map]; rfl
  have q2 : (xs.map fun _ => true).all id = true := by simp
  unfold fAll fOf1
  simp only [asR, q, bools_map, q2]
/-! fields of a cell that is the last -/
theorem fld_set {n f : Str} {fv fo : Ev D} {st : Slots} {h : Store} {fs : List (Str × D)} {d : D} (e1 : fv st (h ++ [some (.obj n fs)]) = .ok d (h ++ [some (.obj n fs)])) (e2 : fo st (h ++ [some (.obj n fs)]) = .ok (.ref h.length) (h ++ [some (.obj n fs)])) (hl : fs.length < 1000) :
    sFldD n f fv fo st (h ++ [some (.obj n fs)]) = .next st (h ++ [some (.obj n (putFD f d fs))]) := by
  unfold sFldD
  rw [e1, Res.out_ok, e2, Res.out_ok]
  dsimp only
  rw [last_at]
  dsimp only
  rw [if_pos ⟨rfl, hl⟩, last_set]
theorem fld_get {n f : Str} {fo : Ev D} {st : Slots} {h : Store} {fs : List (Str × D)} {d : D} (e2 : fo st (h ++ [some (.obj n fs)]) = .ok (.ref h.length) (h ++ [some (.obj n fs)])) (hf : fs.lookup f = some d) :
    cFld n f fo st (h ++ [some (.obj n fs)]) = .ok d (h ++ [some (.obj n fs)]) := by
  unfold cFld
  rw [e2, Res.bind_ok]
  unfold asO
  dsimp only
  rw [last_at]
  dsimp only
  rw [if_pos rfl, hf]
/-- .. of one that stays -/
theorem fld_obj {n f : Str} {fo : Ev D} {st : Slots} {h : Store} {fs : List (Str × D)} {d : D} (e2 : fo st h = .ok (.obj n fs) h) (hf : fs.lookup f = some d) : cFld n f fo st h = .ok d h := by
  unfold cFld
  rw [e2, Res.bind_ok]
  unfold asO
  dsimp only
  rw [if_pos rfl, hf]
end Gm

namespace Gm
open PySem PySem.Spec PyProof.Rows Gm
/-! ### Net(..) -/
def initB (E1 E2 E3 E4 E5 E6 : Ss) : Ss :=
  (sSeq (sExpr (cCall (needNamesF E1 E2) [] (cCons (cBin (oAdd false) (cB (fList false) (cCons (cVar 1) cNil)) (cLc false (iSeqD (cVar 2)) (fTup [15, 13]) cYes (cVar 15) [15, 13])) (cCons (cLc false (iSeqD (cVar 4)) (fTup [15, 14]) cYes (cVar 15) [15, 14]) cNil))))
  (sSeq (sSet 6 (cLst false (cCons (cTup (cCons (cVar 1) (cCons (cK (.int 6)) cNil))) (cCons (cTup (cCons (cVar 2) (cCons (cK (.int 4)) cNil))) (cCons (cTup (cCons (cVar 3) (cCons (cK (.int 60)) cNil))) (cCons (cTup (cCons (cVar 4) (cCons (cK (.int 8)) cNil))) cNil))))))
  (sSeq (sIf (cTv (cB fAny (cCons (cLc false (iSeqD (cVar 6)) (fTup [16, 11]) cYes (cBin oGt (cB fLen (cCons (cVar 16) cNil)) (cVar 11)) [16, 11]) cNil))) E3
  sNil)
  (sSeq (sIf (cTv (cB fAny (cCons (cLc false (iSeqD (cVar 2)) (fTup [15, 13]) cYes (cBin oNotIn (cVar 13) (cTup (cCons (cK (.int 0)) (cCons (cK (.int 1)) cNil)))) [15, 13]) cNil))) E4
  sNil)
  (sSeq (sFldD "Net" "ins" (cB (fList false) (cCons (cVar 1) cNil)) (cVar 0))
  (sSeq (sFldD "Net" "memory" (cB (fList false) (cCons (cVar 2) cNil)) (cVar 0))
  (sSeq (sFldD "Net" "pairs" (cB (fList false) (cCons (cVar 3) cNil)) (cVar 0))
  (sSeq (sFldD "Net" "tells" (cB (fList false) (cCons (cVar 4) cNil)) (cVar 0))
  (sSeq (sFldD "Net" "later" (cB (fList false) (cCons (cVar 5) cNil)) (cVar 0))
  (sSeq (sSet 7 (cBin (oAdd false) (cBin (oAdd false) (cK (.int 1)) (cB fLen (cCons (cFld "Net" "ins" (cVar 0)) cNil))) (cB fLen (cCons (cFld "Net" "memory" (cVar 0)) cNil))))
  (sSeq (sFor (iEnumD (cCons (cFld "Net" "pairs" (cVar 0)) cNil)) (gtTup 2 (gtCons (gtName 8) (gtCons (gtTup 2 (gtCons (gtName 9) (gtCons (gtName 10) gtNil))) gtNil))) (sIf (cTnot (cTv (cChain3 oLe oLe oLt (cK (.int 0)) (cVar 9) (cVar 10) (cBin oMul (cK (.int 2)) (cBin (oAdd false) (cVar 7) (cVar 8)))))) E5
  sNil))
  (sSeq (sSet 11 (cBin oMul (cK (.int 2)) (cBin (oAdd false) (cVar 7) (cB fLen (cCons (cFld "Net" "pairs" (cVar 0)) cNil)))))
  (sSeq (sSet 12 (cBin (oAdd false) (cLc false (iSeqD (cFld "Net" "tells" (cVar 0))) (fTup [15, 14]) cYes (cVar 14) [15, 14]) (cFld "Net" "later" (cVar 0))))
  (sIf (cTor (cTv (cBin oNe (cB fLen (cCons (cFld "Net" "later" (cVar 0)) cNil)) (cB fLen (cCons (cFld "Net" "memory" (cVar 0)) cNil)))) (cTnot (cTv (cB fAll (cCons (cLc false (iSeqD (cVar 12)) (fName 14) cYes (cChain oLe oLt (cK (.int 0)) (cVar 14) (cVar 11)) [14]) cNil))))) E6
  sNil))))))))))))))
def initF (E1 E2 E3 E4 E5 E6 : Ss) : FnT := fnOf 17 6 (initB E1 E2 E3 E4 E5 E6)
def Nt.fs (m : Nt) : List (Str × D) := [("ins", .lst (m.ins.map dn)), ("memory", .lst (m.lat.map pr)), ("pairs", .lst (m.gat.map gp)), ("tells", .lst (m.out.map pr)), ("later", .lst (dnums m.nxt))]
def Nt.o (m : Nt) : D := .obj "Net" m.fs
structure Nt.Few (m : Nt) : Prop where
  ins : m.ins.length ≤ 6
  lat : m.lat.length ≤ 4
  gat : m.gat.length ≤ 60
  out : m.out.length ≤ 8
theorem cat_lst {A B : List D} {h : Store} (hl : A.length + B.length ≤ 100000) : oAdd false (.lst A) (.lst B) h = .ok (.lst (A ++ B)) h := by
  have z : A.length + B.length ≤ sizeLine := small_line (by omega)
  show (if A.length + B.length ≤ sizeLine then Res.ok (D.lst (A ++ B)) h else Res.no) = _
  rw [if_pos z]
theorem not_bit {b : Nat} (hb : b < 2) {h : Store} : oNotIn (.int (b : Nat)) (.tup [.int 0, .int 1]) h = .ok (.bl false) h := by
  have z : b = 0 ∨ b = 1 := by omega
  rcases z with rfl | rfl <;> rfl
theorem ev_chain3 (fo fo' fo'' : D → D → Store → Res D) (fa fb fd fe : Ev D) {st : Slots} {h : Store} : cChain3 fo fo' fo'' fa fb fd fe st h = (fa st h).bind fun a h1 => (fb st h1).bind fun b h2 => (fo a b h2).bind fun z h3 => match z with
  | .bl true => (fd st h3).bind fun d h4 => (fo' b d h4).bind fun z2 h5 => match z2 with
    | .bl true => (fe st h5).bind fun e h6 => fo'' d e h6
    | .bl false => .ok (.bl false) h5
    | _ => .no
  | .bl false => .ok (.bl false) h3
  | _ => .no := rfl
section
variable {N : Nt} {E1 E2 E3 E4 E5 E6 : Ss} {h : Store}
abbrev nob (h : Store) (fs : List (Str × D)) : Store := h ++ [some (.obj "Net" fs)]
theorem it_var {i : Nat} {st : Slots} {l : List D} (e : st[i]? = some (some (.lst l))) : iSeqD (cVar i) st h = .ok l h := by
  have z : (cVar i) st h = .ok (.lst l) h := by
    rw [ev_var, e]
  unfold iSeqD
  rw [z]
  rfl
theorem it_of {f : Ev D} {st : Slots} {l : List D} {h' : Store} (e : f st h = .ok (.lst l) h') : iSeqD f st h = .ok l h' := by
  unfold iSeqD
  rw [e]
  rfl
set_option maxHeartbeats 8000000 in
theorem init_eq (ok : N.Ok) (fw : N.Few) : initF E1 E2 E3 E4 E5 E6 [.ref h.length, .lst (N.ins.map dn), .lst (N.lat.map pr), .lst (N.gat.map gp), .lst (N.out.map pr), .lst (dnums N.nxt)] (nob h []) = .ok .non (nob h N.fs) := by
  have b1 := fw.ins
  have b2 := fw.lat
  have b3 := fw.gat
  have b4 := fw.out
  have b5 := ok.many
  have s2 : (N.lat.map pr).length ≤ sizeLine := small_line (by rw [List.length_map]; omega)
  have s4 : (N.out.map pr).length ≤ sizeLine := small_line (by rw [List.length_map]; omega)
  have A : (sExpr (cCall (needNamesF E1 E2) [] (cCons (cBin (oAdd false) (cB (fList false) (cCons (cVar 1) cNil)) (cLc false (iSeqD (cVar 2)) (fTup [15, 13]) cYes (cVar 15) [15, 13])) (cCons (cLc false (iSeqD (cVar 4)) (fTup [15, 14]) cYes (cVar 15) [15, 14]) cNil)))) [some (.ref h.length), some (.lst (N.ins.map dn)), some (.lst (N.lat.map pr)), some (.lst (N.gat.map gp)), some (.lst (N.out.map pr)), some (.lst (dnums N.nxt)), none, none, none, none, none, none, none, none, none, none, none] (nob h []) =
      .next [some (.ref h.length), some (.lst (N.ins.map dn)), some (.lst (N.lat.map pr)), some (.lst (N.gat.map gp)), some (.lst (N.out.map pr)), some (.lst (dnums N.nxt)), none, none, none, none, none, none, none, none, none, none, none] (nob h []) := by
    have i2 : iSeqD (cVar 2) [some (.ref h.length), some (.lst (N.ins.map dn)), some (.lst (N.lat.map pr)), some (.lst (N.gat.map gp)), some (.lst (N.out.map pr)), some (.lst (dnums N.nxt)), none, none, none, none, none, none, none, none, none, none, none] (nob h []) = .ok (N.lat.map pr) (nob h []) := it_var rfl
    have i4 : iSeqD (cVar 4) [some (.ref h.length), some (.lst (N.ins.map dn)), some (.lst (N.lat.map pr)), some (.lst (N.gat.map gp)), some (.lst (N.out.map pr)), some (.lst (dnums N.nxt)), none, none, none, none, none, none, none, none, none, none, none] (nob h []) = .ok (N.out.map pr) (nob h []) := it_var rfl
    have e2 := lcL_all1 (fg := fTup [15, 13]) (ft := cYes) (fe := cVar 15) (st0 := [some (.ref h.length), some (.lst (N.ins.map dn)), some (.lst (N.lat.map pr)), some (.lst (N.gat.map gp)), some (.lst (N.out.map pr)), some (.lst (dnums N.nxt)), none, none, none, none, none, none, none, none, none, none, none]) (h := nob h []) (f := pr) (q := fun p => dn p.1) N.lat fun p _ => ⟨_, rfl, rfl, rfl⟩
    have e4 := lcL_all1 (fg := fTup [15, 14]) (ft := cYes) (fe := cVar 15) (st0 := [some (.ref h.length), some (.lst (N.ins.map dn)), some (.lst (N.lat.map pr)), some (.lst (N.gat.map gp)), some (.lst (N.out.map pr)), some (.lst (dnums N.nxt)), none, none, none, none, none, none, none, none, none, none, none]) (h := nob h []) (f := pr) (q := fun p => dn p.1) N.out fun p _ => ⟨_, rfl, rfl, rfl⟩
    have c : oAdd false (.lst (N.ins.map dn)) (.lst (N.lat.map fun p => dn p.1)) (nob h []) = .ok (.lst ((N.ins ++ N.lat.map (·.1)).map dn)) (nob h []) := by
      rw [cat_lst (by rw [List.length_map, List.length_map]; omega), List.map_append, List.map_map]
      rfl
    have c4 : (N.out.map fun p => dn p.1) = (N.out.map (·.1)).map dn := by rw [List.map_map]; rfl
    rw [c4] at e4
    simp only [ev_seq, ev_set, ev_bin, ev_cons, ev_nil, ev_var, ev_k, ev_call, ev_ret, ev_expr, ev_if, ev_tv, ev_tnot, ev_tand, ev_tor, ev_chain, ev_lst, ev_lstM, ev_tup, ev_cB, ev_lc, ev_wipe0, ev_wipe1, ev_alloc, ev_allocM, ev_sNil, ev_and, ev_not, ev_raise, seq_next, seq_ret, seq_exc, Res.bind_ok, Res.bind_exc, Res.out_ok, Res.out_exc, List.getElem?_cons_zero, List.getElem?_cons_succ, List.set_cons_succ, List.set_cons_zero, List.append_nil, List.nil_append, List.cons_append, if_true, Bool.false_eq_true, if_false, ev_iop, ev_bop, Bool.not_true, Bool.not_false, res_ret, res_next, res_exc, oAdd_int, oAddI_int, oNe_int, oEq_int, oNe_bl, beq_self_eq_true, ev_asg, ev_gtTup, ev_gtCons, ev_gtNil, ev_gtName, List.length_cons, List.length_nil, Nat.reduceAdd, Nat.zero_add, sz0, sz1, sz2, sz3, sz4, sz5, sz6, sz7, sz8, sz9, sz10, sz11, sz12, sz13, sz14, sz15, sz16, sz17, sz18, sz19, sz20, sz21, sz22, sz23, sz24, sz25, sz26, sz27, sz28, sz29, sz30, sz31, sz32, list_lst, i2, s2, e2, c, i4, s4, e4, needs_ok (E1 := E1) (E2 := E2) ok.okn ok.oko ok.ndn ok.ndo (by rw [List.length_append, List.length_map]; omega) (by rw [List.length_map]; omega)]
  have B : (sSet 6 (cLst false (cCons (cTup (cCons (cVar 1) (cCons (cK (.int 6)) cNil))) (cCons (cTup (cCons (cVar 2) (cCons (cK (.int 4)) cNil))) (cCons (cTup (cCons (cVar 3) (cCons (cK (.int 60)) cNil))) (cCons (cTup (cCons (cVar 4) (cCons (cK (.int 8)) cNil))) cNil)))))) [some (.ref h.length), some (.lst (N.ins.map dn)), some (.lst (N.lat.map pr)), some (.lst (N.gat.map gp)), some (.lst (N.out.map pr)), some (.lst (dnums N.nxt)), none, none, none, none, none, none, none, none, none, none, none] (nob h []) =
      .next [some (.ref h.length), some (.lst (N.ins.map dn)), some (.lst (N.lat.map pr)), some (.lst (N.gat.map gp)), some (.lst (N.out.map pr)), some (.lst (dnums N.nxt)), some (.lst (([(N.ins.map dn, 6), (N.lat.map pr, 4), (N.gat.map gp, 60), (N.out.map pr, 8)] : List (List D × Nat)).map fun q => .tup [.lst q.1, .int (q.2 : Nat)])), none, none, none, none, none, none, none, none, none, none] (nob h []) := by
    simp only [ev_seq, ev_set, ev_bin, ev_cons, ev_nil, ev_var, ev_k, ev_call, ev_ret, ev_expr, ev_if, ev_tv, ev_tnot, ev_tand, ev_tor, ev_chain, ev_lst, ev_lstM, ev_tup, ev_cB, ev_lc, ev_wipe0, ev_wipe1, ev_alloc, ev_allocM, ev_sNil, ev_and, ev_not, ev_raise, seq_next, seq_ret, seq_exc, Res.bind_ok, Res.bind_exc, Res.out_ok, Res.out_exc, List.getElem?_cons_zero, List.getElem?_cons_succ, List.set_cons_succ, List.set_cons_zero, List.append_nil, List.nil_append, List.cons_append, if_true, Bool.false_eq_true, if_false, ev_iop, ev_bop, Bool.not_true, Bool.not_false, res_ret, res_next, res_exc, oAdd_int, oAddI_int, oNe_int, oEq_int, oNe_bl, beq_self_eq_true, ev_asg, ev_gtTup, ev_gtCons, ev_gtNil, ev_gtName, List.length_cons, List.length_nil, Nat.reduceAdd, Nat.zero_add, sz0, sz1, sz2, sz3, sz4, sz5, sz6, sz7, sz8, sz9, sz10, sz11, sz12, sz13, sz14, sz15, sz16, sz17, sz18, sz19, sz20, sz21, sz22, sz23, sz24, sz25, sz26, sz27, sz28, sz29, sz30, sz31, sz32]
    rfl
  have C : (sIf (cTv (cB fAny (cCons (cLc false (iSeqD (cVar 6)) (fTup [16, 11]) cYes (cBin oGt (cB fLen (cCons (cVar 16) cNil)) (cVar 11)) [16, 11]) cNil))) E3 sNil) [some (.ref h.length), some (.lst (N.ins.map dn)), some (.lst (N.lat.map pr)), some (.lst (N.gat.map gp)), some (.lst (N.out.map pr)), some (.lst (dnums N.nxt)), some (.lst (([(N.ins.map dn, 6), (N.lat.map pr, 4), (N.gat.map gp, 60), (N.out.map pr, 8)] : List (List D × Nat)).map fun q => .tup [.lst q.1, .int (q.2 : Nat)])), none, none, none, none, none, none, none, none, none, none] (nob h []) =
      .next [some (.ref h.length), some (.lst (N.ins.map dn)), some (.lst (N.lat.map pr)), some (.lst (N.gat.map gp)), some (.lst (N.out.map pr)), some (.lst (dnums N.nxt)), some (.lst (([(N.ins.map dn, 6), (N.lat.map pr, 4), (N.gat.map gp, 60), (N.out.map pr, 8)] : List (List D × Nat)).map fun q => .tup [.lst q.1, .int (q.2 : Nat)])), none, none, none, none, none, none, none, none, none, none] (nob h []) := by
    have it : iSeqD (cVar 6) [some (.ref h.length), some (.lst (N.ins.map dn)), some (.lst (N.lat.map pr)), some (.lst (N.gat.map gp)), some (.lst (N.out.map pr)), some (.lst (dnums N.nxt)), some (.lst (([(N.ins.map dn, 6), (N.lat.map pr, 4), (N.gat.map gp, 60), (N.out.map pr, 8)] : List (List D × Nat)).map fun q => .tup [.lst q.1, .int (q.2 : Nat)])), none, none, none, none, none, none, none, none, none, none] (nob h []) = .ok (([(N.ins.map dn, 6), (N.lat.map pr, 4), (N.gat.map gp, 60), (N.out.map pr, 8)] : List (List D × Nat)).map fun q => .tup [.lst q.1, .int (q.2 : Nat)]) (nob h []) := it_var rfl
    have sl : (([(N.ins.map dn, 6), (N.lat.map pr, 4), (N.gat.map gp, 60), (N.out.map pr, 8)] : List (List D × Nat)).map fun q => D.tup [.lst q.1, .int (q.2 : Nat)]).length ≤ sizeLine := small_line (by simp)
    have e := lcL_all1 (fg := fTup [16, 11]) (ft := cYes) (fe := cBin oGt (cB fLen (cCons (cVar 16) cNil)) (cVar 11)) (st0 := [some (.ref h.length), some (.lst (N.ins.map dn)), some (.lst (N.lat.map pr)), some (.lst (N.gat.map gp)), some (.lst (N.out.map pr)), some (.lst (dnums N.nxt)), some (.lst (([(N.ins.map dn, 6), (N.lat.map pr, 4), (N.gat.map gp, 60), (N.out.map pr, 8)] : List (List D × Nat)).map fun q => .tup [.lst q.1, .int (q.2 : Nat)])), none, none, none, none, none, none, none, none, none, none]) (h := nob h []) (f := fun q => D.tup [.lst q.1, .int (q.2 : Nat)]) (q := fun _ => D.bl false) ([(N.ins.map dn, 6), (N.lat.map pr, 4), (N.gat.map gp, 60), (N.out.map pr, 8)] : List (List D × Nat)) fun q hq => by
      have hl : q.1.length ≤ q.2 := by
        simp only [List.mem_cons, List.not_mem_nil, or_false] at hq
        rcases hq with rfl | rfl | rfl | rfl
        · rw [List.length_map]; exact b1
        · rw [List.length_map]; exact b2
        · rw [List.length_map]; exact b3
        · rw [List.length_map]; exact b4
      have z : decide ((q.1.length : Int) > (q.2 : Int)) = false := decide_eq_false (by omega)
      refine ⟨_, rfl, rfl, ?_⟩
      simp only [ev_seq, ev_set, ev_bin, ev_cons, ev_nil, ev_var, ev_k, ev_call, ev_ret, ev_expr, ev_if, ev_tv, ev_tnot, ev_tand, ev_tor, ev_chain, ev_lst, ev_lstM, ev_tup, ev_cB, ev_lc, ev_wipe0, ev_wipe1, ev_alloc, ev_allocM, ev_sNil, ev_and, ev_not, ev_raise, seq_next, seq_ret, seq_exc, Res.bind_ok, Res.bind_exc, Res.out_ok, Res.out_exc, List.getElem?_cons_zero, List.getElem?_cons_succ, List.set_cons_succ, List.set_cons_zero, List.append_nil, List.nil_append, List.cons_append, if_true, Bool.false_eq_true, if_false, ev_iop, ev_bop, Bool.not_true, Bool.not_false, res_ret, res_next, res_exc, oAdd_int, oAddI_int, oNe_int, oEq_int, oNe_bl, beq_self_eq_true, ev_asg, ev_gtTup, ev_gtCons, ev_gtNil, ev_gtName, List.length_cons, List.length_nil, Nat.reduceAdd, Nat.zero_add, sz0, sz1, sz2, sz3, sz4, sz5, sz6, sz7, sz8, sz9, sz10, sz11, sz12, sz13, sz14, sz15, sz16, sz17, sz18, sz19, sz20, sz21, sz22, sz23, sz24, sz25, sz26, sz27, sz28, sz29, sz30, sz31, sz32, len_lst, z]
    simp only [ev_seq, ev_set, ev_bin, ev_cons, ev_nil, ev_var, ev_k, ev_call, ev_ret, ev_expr, ev_if, ev_tv, ev_tnot, ev_tand, ev_tor, ev_chain, ev_lst, ev_lstM, ev_tup, ev_cB, ev_lc, ev_wipe0, ev_wipe1, ev_alloc, ev_allocM, ev_sNil, ev_and, ev_not, ev_raise, seq_next, seq_ret, seq_exc, Res.bind_ok, Res.bind_exc, Res.out_ok, Res.out_exc, List.getElem?_cons_zero, List.getElem?_cons_succ, List.set_cons_succ, List.set_cons_zero, List.append_nil, List.nil_append, List.cons_append, if_true, Bool.false_eq_true, if_false, ev_iop, ev_bop, Bool.not_true, Bool.not_false, res_ret, res_next, res_exc, oAdd_int, oAddI_int, oNe_int, oEq_int, oNe_bl, beq_self_eq_true, ev_asg, ev_gtTup, ev_gtCons, ev_gtNil, ev_gtName, List.length_cons, List.length_nil, Nat.reduceAdd, Nat.zero_add, sz0, sz1, sz2, sz3, sz4, sz5, sz6, sz7, sz8, sz9, sz10, sz11, sz12, sz13, sz14, sz15, sz16, sz17, sz18, sz19, sz20, sz21, sz22, sz23, sz24, sz25, sz26, sz27, sz28, sz29, sz30, sz31, sz32, it, sl, e, any_no]
  have F : ∀ sz : D, (sIf (cTv (cB fAny (cCons (cLc false (iSeqD (cVar 2)) (fTup [15, 13]) cYes (cBin oNotIn (cVar 13) (cTup (cCons (cK (.int 0)) (cCons (cK (.int 1)) cNil)))) [15, 13]) cNil))) E4 sNil) [some (.ref h.length), some (.lst (N.ins.map dn)), some (.lst (N.lat.map pr)), some (.lst (N.gat.map gp)), some (.lst (N.out.map pr)), some (.lst (dnums N.nxt)), some sz, none, none, none, none, none, none, none, none, none, none] (nob h []) = .next [some (.ref h.length), some (.lst (N.ins.map dn)), some (.lst (N.lat.map pr)), some (.lst (N.gat.map gp)), some (.lst (N.out.map pr)), some (.lst (dnums N.nxt)), some sz, none, none, none, none, none, none, none, none, none, none] (nob h []) := fun sz => by
    have it : iSeqD (cVar 2) [some (.ref h.length), some (.lst (N.ins.map dn)), some (.lst (N.lat.map pr)), some (.lst (N.gat.map gp)), some (.lst (N.out.map pr)), some (.lst (dnums N.nxt)), some sz, none, none, none, none, none, none, none, none, none, none] (nob h []) = .ok (N.lat.map pr) (nob h []) := it_var rfl
    have e := lcL_all1 (fg := fTup [15, 13]) (ft := cYes) (fe := cBin oNotIn (cVar 13) (cTup (cCons (cK (.int 0)) (cCons (cK (.int 1)) cNil)))) (st0 := [some (.ref h.length), some (.lst (N.ins.map dn)), some (.lst (N.lat.map pr)), some (.lst (N.gat.map gp)), some (.lst (N.out.map pr)), some (.lst (dnums N.nxt)), some sz, none, none, none, none, none, none, none, none, none, none]) (h := nob h []) (f := pr) (q := fun _ => D.bl false) N.lat fun p hp => ⟨[some (.ref h.length), some (.lst (N.ins.map dn)), some (.lst (N.lat.map pr)), some (.lst (N.gat.map gp)), some (.lst (N.out.map pr)), some (.lst (dnums N.nxt)), some sz, none, none, none, none, none, none, some (.int (p.2 : Nat)), none, some (dn p.1), none], rfl, rfl, by simp only [ev_seq, ev_set, ev_bin, ev_cons, ev_nil, ev_var, ev_k, ev_call, ev_ret, ev_expr, ev_if, ev_tv, ev_tnot, ev_tand, ev_tor, ev_chain, ev_lst, ev_lstM, ev_tup, ev_cB, ev_lc, ev_wipe0, ev_wipe1, ev_alloc, ev_allocM, ev_sNil, ev_and, ev_not, ev_raise, seq_next, seq_ret, seq_exc, Res.bind_ok, Res.bind_exc, Res.out_ok, Res.out_exc, List.getElem?_cons_zero, List.getElem?_cons_succ, List.set_cons_succ, List.set_cons_zero, List.append_nil, List.nil_append, List.cons_append, if_true, Bool.false_eq_true, if_false, ev_iop, ev_bop, Bool.not_true, Bool.not_false, res_ret, res_next, res_exc, oAdd_int, oAddI_int, oNe_int, oEq_int, oNe_bl, beq_self_eq_true, ev_asg, ev_gtTup, ev_gtCons, ev_gtNil, ev_gtName, List.length_cons, List.length_nil, Nat.reduceAdd, Nat.zero_add, sz0, sz1, sz2, sz3, sz4, sz5, sz6, sz7, sz8, sz9, sz10, sz11, sz12, sz13, sz14, sz15, sz16, sz17, sz18, sz19, sz20, sz21, sz22, sz23, sz24, sz25, sz26, sz27, sz28, sz29, sz30, sz31, sz32, not_bit (ok.bit p hp)]⟩
    simp only [ev_seq, ev_set, ev_bin, ev_cons, ev_nil, ev_var, ev_k, ev_call, ev_ret, ev_expr, ev_if, ev_tv, ev_tnot, ev_tand, ev_tor, ev_chain, ev_lst, ev_lstM, ev_tup, ev_cB, ev_lc, ev_wipe0, ev_wipe1, ev_alloc, ev_allocM, ev_sNil, ev_and, ev_not, ev_raise, seq_next, seq_ret, seq_exc, Res.bind_ok, Res.bind_exc, Res.out_ok, Res.out_exc, List.getElem?_cons_zero, List.getElem?_cons_succ, List.set_cons_succ, List.set_cons_zero, List.append_nil, List.nil_append, List.cons_append, if_true, Bool.false_eq_true, if_false, ev_iop, ev_bop, Bool.not_true, Bool.not_false, res_ret, res_next, res_exc, oAdd_int, oAddI_int, oNe_int, oEq_int, oNe_bl, beq_self_eq_true, ev_asg, ev_gtTup, ev_gtCons, ev_gtNil, ev_gtName, List.length_cons, List.length_nil, Nat.reduceAdd, Nat.zero_add, sz0, sz1, sz2, sz3, sz4, sz5, sz6, sz7, sz8, sz9, sz10, sz11, sz12, sz13, sz14, sz15, sz16, sz17, sz18, sz19, sz20, sz21, sz22, sz23, sz24, sz25, sz26, sz27, sz28, sz29, sz30, sz31, sz32, it, s2, e, any_no]
  have G1 : ∀ sz : D, (sFldD "Net" "ins" (cB (fList false) (cCons (cVar 1) cNil)) (cVar 0)) [some (.ref h.length), some (.lst (N.ins.map dn)), some (.lst (N.lat.map pr)), some (.lst (N.gat.map gp)), some (.lst (N.out.map pr)), some (.lst (dnums N.nxt)), some sz, none, none, none, none, none, none, none, none, none, none] (nob h []) = .next [some (.ref h.length), some (.lst (N.ins.map dn)), some (.lst (N.lat.map pr)), some (.lst (N.gat.map gp)), some (.lst (N.out.map pr)), some (.lst (dnums N.nxt)), some sz, none, none, none, none, none, none, none, none, none, none] (nob h [("ins", .lst (N.ins.map dn))]) := fun sz => by
    rw [fld_set (d := .lst (N.ins.map dn)) (by simp only [ev_seq, ev_set, ev_bin, ev_cons, ev_nil, ev_var, ev_k, ev_call, ev_ret, ev_expr, ev_if, ev_tv, ev_tnot, ev_tand, ev_tor, ev_chain, ev_lst, ev_lstM, ev_tup, ev_cB, ev_lc, ev_wipe0, ev_wipe1, ev_alloc, ev_allocM, ev_sNil, ev_and, ev_not, ev_raise, seq_next, seq_ret, seq_exc, Res.bind_ok, Res.bind_exc, Res.out_ok, Res.out_exc, List.getElem?_cons_zero, List.getElem?_cons_succ, List.set_cons_succ, List.set_cons_zero, List.append_nil, List.nil_append, List.cons_append, if_true, Bool.false_eq_true, if_false, ev_iop, ev_bop, Bool.not_true, Bool.not_false, res_ret, res_next, res_exc, oAdd_int, oAddI_int, oNe_int, oEq_int, oNe_bl, beq_self_eq_true, ev_asg, ev_gtTup, ev_gtCons, ev_gtNil, ev_gtName, List.length_cons, List.length_nil, Nat.reduceAdd, Nat.zero_add, sz0, sz1, sz2, sz3, sz4, sz5, sz6, sz7, sz8, sz9, sz10, sz11, sz12, sz13, sz14, sz15, sz16, sz17, sz18, sz19, sz20, sz21, sz22, sz23, sz24, sz25, sz26, sz27, sz28, sz29, sz30, sz31, sz32, list_lst]) rfl (by decide)]
    rfl
  have G2 : ∀ sz : D, (sFldD "Net" "memory" (cB (fList false) (cCons (cVar 2) cNil)) (cVar 0)) [some (.ref h.length), some (.lst (N.ins.map dn)), some (.lst (N.lat.map pr)), some (.lst (N.gat.map gp)), some (.lst (N.out.map pr)), some (.lst (dnums N.nxt)), some sz, none, none, none, none, none, none, none, none, none, none] (nob h [("ins", .lst (N.ins.map dn))]) = .next [some (.ref h.length), some (.lst (N.ins.map dn)), some (.lst (N.lat.map pr)), some (.lst (N.gat.map gp)), some (.lst (N.out.map pr)), some (.lst (dnums N.nxt)), some sz, none, none, none, none, none, none, none, none, none, none] (nob h [("ins", .lst (N.ins.map dn)), ("memory", .lst (N.lat.map pr))]) := fun sz => by
    rw [fld_set (d := .lst (N.lat.map pr)) (by simp only [ev_seq, ev_set, ev_bin, ev_cons, ev_nil, ev_var, ev_k, ev_call, ev_ret, ev_expr, ev_if, ev_tv, ev_tnot, ev_tand, ev_tor, ev_chain, ev_lst, ev_lstM, ev_tup, ev_cB, ev_lc, ev_wipe0, ev_wipe1, ev_alloc, ev_allocM, ev_sNil, ev_and, ev_not, ev_raise, seq_next, seq_ret, seq_exc, Res.bind_ok, Res.bind_exc, Res.out_ok, Res.out_exc, List.getElem?_cons_zero, List.getElem?_cons_succ, List.set_cons_succ, List.set_cons_zero, List.append_nil, List.nil_append, List.cons_append, if_true, Bool.false_eq_true, if_false, ev_iop, ev_bop, Bool.not_true, Bool.not_false, res_ret, res_next, res_exc, oAdd_int, oAddI_int, oNe_int, oEq_int, oNe_bl, beq_self_eq_true, ev_asg, ev_gtTup, ev_gtCons, ev_gtNil, ev_gtName, List.length_cons, List.length_nil, Nat.reduceAdd, Nat.zero_add, sz0, sz1, sz2, sz3, sz4, sz5, sz6, sz7, sz8, sz9, sz10, sz11, sz12, sz13, sz14, sz15, sz16, sz17, sz18, sz19, sz20, sz21, sz22, sz23, sz24, sz25, sz26, sz27, sz28, sz29, sz30, sz31, sz32, list_lst]) rfl (by simp)]
    rfl
  have G3 : ∀ sz : D, (sFldD "Net" "pairs" (cB (fList false) (cCons (cVar 3) cNil)) (cVar 0)) [some (.ref h.length), some (.lst (N.ins.map dn)), some (.lst (N.lat.map pr)), some (.lst (N.gat.map gp)), some (.lst (N.out.map pr)), some (.lst (dnums N.nxt)), some sz, none, none, none, none, none, none, none, none, none, none] (nob h [("ins", .lst (N.ins.map dn)), ("memory", .lst (N.lat.map pr))]) = .next [some (.ref h.length), some (.lst (N.ins.map dn)), some (.lst (N.lat.map pr)), some (.lst (N.gat.map gp)), some (.lst (N.out.map pr)), some (.lst (dnums N.nxt)), some sz, none, none, none, none, none, none, none, none, none, none] (nob h [("ins", .lst (N.ins.map dn)), ("memory", .lst (N.lat.map pr)), ("pairs", .lst (N.gat.map gp))]) := fun sz => by
    rw [fld_set (d := .lst (N.gat.map gp)) (by simp only [ev_seq, ev_set, ev_bin, ev_cons, ev_nil, ev_var, ev_k, ev_call, ev_ret, ev_expr, ev_if, ev_tv, ev_tnot, ev_tand, ev_tor, ev_chain, ev_lst, ev_lstM, ev_tup, ev_cB, ev_lc, ev_wipe0, ev_wipe1, ev_alloc, ev_allocM, ev_sNil, ev_and, ev_not, ev_raise, seq_next, seq_ret, seq_exc, Res.bind_ok, Res.bind_exc, Res.out_ok, Res.out_exc, List.getElem?_cons_zero, List.getElem?_cons_succ, List.set_cons_succ, List.set_cons_zero, List.append_nil, List.nil_append, List.cons_append, if_true, Bool.false_eq_true, if_false, ev_iop, ev_bop, Bool.not_true, Bool.not_false, res_ret, res_next, res_exc, oAdd_int, oAddI_int, oNe_int, oEq_int, oNe_bl, beq_self_eq_true, ev_asg, ev_gtTup, ev_gtCons, ev_gtNil, ev_gtName, List.length_cons, List.length_nil, Nat.reduceAdd, Nat.zero_add, sz0, sz1, sz2, sz3, sz4, sz5, sz6, sz7, sz8, sz9, sz10, sz11, sz12, sz13, sz14, sz15, sz16, sz17, sz18, sz19, sz20, sz21, sz22, sz23, sz24, sz25, sz26, sz27, sz28, sz29, sz30, sz31, sz32, list_lst]) rfl (by simp)]
    rfl
  have G4 : ∀ sz : D, (sFldD "Net" "tells" (cB (fList false) (cCons (cVar 4) cNil)) (cVar 0)) [some (.ref h.length), some (.lst (N.ins.map dn)), some (.lst (N.lat.map pr)), some (.lst (N.gat.map gp)), some (.lst (N.out.map pr)), some (.lst (dnums N.nxt)), some sz, none, none, none, none, none, none, none, none, none, none] (nob h [("ins", .lst (N.ins.map dn)), ("memory", .lst (N.lat.map pr)), ("pairs", .lst (N.gat.map gp))]) = .next [some (.ref h.length), some (.lst (N.ins.map dn)), some (.lst (N.lat.map pr)), some (.lst (N.gat.map gp)), some (.lst (N.out.map pr)), some (.lst (dnums N.nxt)), some sz, none, none, none, none, none, none, none, none, none, none] (nob h [("ins", .lst (N.ins.map dn)), ("memory", .lst (N.lat.map pr)), ("pairs", .lst (N.gat.map gp)), ("tells", .lst (N.out.map pr))]) := fun sz => by
    rw [fld_set (d := .lst (N.out.map pr)) (by simp only [ev_seq, ev_set, ev_bin, ev_cons, ev_nil, ev_var, ev_k, ev_call, ev_ret, ev_expr, ev_if, ev_tv, ev_tnot, ev_tand, ev_tor, ev_chain, ev_lst, ev_lstM, ev_tup, ev_cB, ev_lc, ev_wipe0, ev_wipe1, ev_alloc, ev_allocM, ev_sNil, ev_and, ev_not, ev_raise, seq_next, seq_ret, seq_exc, Res.bind_ok, Res.bind_exc, Res.out_ok, Res.out_exc, List.getElem?_cons_zero, List.getElem?_cons_succ, List.set_cons_succ, List.set_cons_zero, List.append_nil, List.nil_append, List.cons_append, if_true, Bool.false_eq_true, if_false, ev_iop, ev_bop, Bool.not_true, Bool.not_false, res_ret, res_next, res_exc, oAdd_int, oAddI_int, oNe_int, oEq_int, oNe_bl, beq_self_eq_true, ev_asg, ev_gtTup, ev_gtCons, ev_gtNil, ev_gtName, List.length_cons, List.length_nil, Nat.reduceAdd, Nat.zero_add, sz0, sz1, sz2, sz3, sz4, sz5, sz6, sz7, sz8, sz9, sz10, sz11, sz12, sz13, sz14, sz15, sz16, sz17, sz18, sz19, sz20, sz21, sz22, sz23, sz24, sz25, sz26, sz27, sz28, sz29, sz30, sz31, sz32, list_lst]) rfl (by simp)]
    rfl
  have G5 : ∀ sz : D, (sFldD "Net" "later" (cB (fList false) (cCons (cVar 5) cNil)) (cVar 0)) [some (.ref h.length), some (.lst (N.ins.map dn)), some (.lst (N.lat.map pr)), some (.lst (N.gat.map gp)), some (.lst (N.out.map pr)), some (.lst (dnums N.nxt)), some sz, none, none, none, none, none, none, none, none, none, none] (nob h [("ins", .lst (N.ins.map dn)), ("memory", .lst (N.lat.map pr)), ("pairs", .lst (N.gat.map gp)), ("tells", .lst (N.out.map pr))]) = .next [some (.ref h.length), some (.lst (N.ins.map dn)), some (.lst (N.lat.map pr)), some (.lst (N.gat.map gp)), some (.lst (N.out.map pr)), some (.lst (dnums N.nxt)), some sz, none, none, none, none, none, none, none, none, none, none] (nob h N.fs) := fun sz => by
    rw [fld_set (d := .lst (dnums N.nxt)) (by simp only [ev_seq, ev_set, ev_bin, ev_cons, ev_nil, ev_var, ev_k, ev_call, ev_ret, ev_expr, ev_if, ev_tv, ev_tnot, ev_tand, ev_tor, ev_chain, ev_lst, ev_lstM, ev_tup, ev_cB, ev_lc, ev_wipe0, ev_wipe1, ev_alloc, ev_allocM, ev_sNil, ev_and, ev_not, ev_raise, seq_next, seq_ret, seq_exc, Res.bind_ok, Res.bind_exc, Res.out_ok, Res.out_exc, List.getElem?_cons_zero, List.getElem?_cons_succ, List.set_cons_succ, List.set_cons_zero, List.append_nil, List.nil_append, List.cons_append, if_true, Bool.false_eq_true, if_false, ev_iop, ev_bop, Bool.not_true, Bool.not_false, res_ret, res_next, res_exc, oAdd_int, oAddI_int, oNe_int, oEq_int, oNe_bl, beq_self_eq_true, ev_asg, ev_gtTup, ev_gtCons, ev_gtNil, ev_gtName, List.length_cons, List.length_nil, Nat.reduceAdd, Nat.zero_add, sz0, sz1, sz2, sz3, sz4, sz5, sz6, sz7, sz8, sz9, sz10, sz11, sz12, sz13, sz14, sz15, sz16, sz17, sz18, sz19, sz20, sz21, sz22, sz23, sz24, sz25, sz26, sz27, sz28, sz29, sz30, sz31, sz32, list_lst]) rfl (by simp)]
    rfl
  have H : ∀ sz : D, (sSet 7 (cBin (oAdd false) (cBin (oAdd false) (cK (.int 1)) (cB fLen (cCons (cFld "Net" "ins" (cVar 0)) cNil))) (cB fLen (cCons (cFld "Net" "memory" (cVar 0)) cNil)))) [some (.ref h.length), some (.lst (N.ins.map dn)), some (.lst (N.lat.map pr)), some (.lst (N.gat.map gp)), some (.lst (N.out.map pr)), some (.lst (dnums N.nxt)), some sz, none, none, none, none, none, none, none, none, none, none] (nob h N.fs) = .next [some (.ref h.length), some (.lst (N.ins.map dn)), some (.lst (N.lat.map pr)), some (.lst (N.gat.map gp)), some (.lst (N.out.map pr)), some (.lst (dnums N.nxt)), some sz, some (.int (N.first : Nat)), none, none, none, none, none, none, none, none, none] (nob h N.fs) := fun sz => by
    have f1 : cFld "Net" "ins" (cVar 0) [some (.ref h.length), some (.lst (N.ins.map dn)), some (.lst (N.lat.map pr)), some (.lst (N.gat.map gp)), some (.lst (N.out.map pr)), some (.lst (dnums N.nxt)), some sz, none, none, none, none, none, none, none, none, none, none] (nob h N.fs) = .ok (.lst (N.ins.map dn)) (nob h N.fs) := fld_get rfl rfl
    have f2 : cFld "Net" "memory" (cVar 0) [some (.ref h.length), some (.lst (N.ins.map dn)), some (.lst (N.lat.map pr)), some (.lst (N.gat.map gp)), some (.lst (N.out.map pr)), some (.lst (dnums N.nxt)), some sz, none, none, none, none, none, none, none, none, none, none] (nob h N.fs) = .ok (.lst (N.lat.map pr)) (nob h N.fs) := fld_get rfl rfl
    have c : (1 : Int) + (N.ins.length : Int) + (N.lat.length : Int) = (N.first : Int) := by
      unfold Nt.first
      omega
    simp only [ev_seq, ev_set, ev_bin, ev_cons, ev_nil, ev_var, ev_k, ev_call, ev_ret, ev_expr, ev_if, ev_tv, ev_tnot, ev_tand, ev_tor, ev_chain, ev_lst, ev_lstM, ev_tup, ev_cB, ev_lc, ev_wipe0, ev_wipe1, ev_alloc, ev_allocM, ev_sNil, ev_and, ev_not, ev_raise, seq_next, seq_ret, seq_exc, Res.bind_ok, Res.bind_exc, Res.out_ok, Res.out_exc, List.getElem?_cons_zero, List.getElem?_cons_succ, List.set_cons_succ, List.set_cons_zero, List.append_nil, List.nil_append, List.cons_append, if_true, Bool.false_eq_true, if_false, ev_iop, ev_bop, Bool.not_true, Bool.not_false, res_ret, res_next, res_exc, oAdd_int, oAddI_int, oNe_int, oEq_int, oNe_bl, beq_self_eq_true, ev_asg, ev_gtTup, ev_gtCons, ev_gtNil, ev_gtName, List.length_cons, List.length_nil, Nat.reduceAdd, Nat.zero_add, sz0, sz1, sz2, sz3, sz4, sz5, sz6, sz7, sz8, sz9, sz10, sz11, sz12, sz13, sz14, sz15, sz16, sz17, sz18, sz19, sz20, sz21, sz22, sz23, sz24, sz25, sz26, sz27, sz28, sz29, sz30, sz31, sz32, f1, f2, len_lst, List.length_map, c]
  have L : ∀ sz : D, ∃ z8 z9 z10, (sFor (iEnumD (cCons (cFld "Net" "pairs" (cVar 0)) cNil)) (gtTup 2 (gtCons (gtName 8) (gtCons (gtTup 2 (gtCons (gtName 9) (gtCons (gtName 10) gtNil))) gtNil))) (sIf (cTnot (cTv (cChain3 oLe oLe oLt (cK (.int 0)) (cVar 9) (cVar 10) (cBin oMul (cK (.int 2)) (cBin (oAdd false) (cVar 7) (cVar 8)))))) E5 sNil)) [some (.ref h.length), some (.lst (N.ins.map dn)), some (.lst (N.lat.map pr)), some (.lst (N.gat.map gp)), some (.lst (N.out.map pr)), some (.lst (dnums N.nxt)), some sz, some (.int (N.first : Nat)), none, none, none, none, none, none, none, none, none] (nob h N.fs) =
      .next [some (.ref h.length), some (.lst (N.ins.map dn)), some (.lst (N.lat.map pr)), some (.lst (N.gat.map gp)), some (.lst (N.out.map pr)), some (.lst (dnums N.nxt)), some sz, some (.int (N.first : Nat)), z8, z9, z10, none, none, none, none, none, none] (nob h N.fs) := fun sz => by
    have f1 : cFld "Net" "pairs" (cVar 0) [some (.ref h.length), some (.lst (N.ins.map dn)), some (.lst (N.lat.map pr)), some (.lst (N.gat.map gp)), some (.lst (N.out.map pr)), some (.lst (dnums N.nxt)), some sz, some (.int (N.first : Nat)), none, none, none, none, none, none, none, none, none] (nob h N.fs) = .ok (.lst (N.gat.map gp)) (nob h N.fs) := fld_get rfl rfl
    have it : iEnumD (cCons (cFld "Net" "pairs" (cVar 0)) cNil) [some (.ref h.length), some (.lst (N.ins.map dn)), some (.lst (N.lat.map pr)), some (.lst (N.gat.map gp)), some (.lst (N.out.map pr)), some (.lst (dnums N.nxt)), some sz, some (.int (N.first : Nat)), none, none, none, none, none, none, none, none, none] (nob h N.fs) = .ok (enumD (N.gat.map gp)) (nob h N.fs) := by
      unfold iEnumD
      rw [ev_cons, f1, Res.bind_ok, ev_nil, Res.bind_ok, Res.bind_ok]
      rfl
    obtain ⟨st', h', e, e9, z8, z9, z10, rfl⟩ := forL_inv (fg := gtTup 2 (gtCons (gtName 8) (gtCons (gtTup 2 (gtCons (gtName 9) (gtCons (gtName 10) gtNil))) gtNil))) (fb := sIf (cTnot (cTv (cChain3 oLe oLe oLt (cK (.int 0)) (cVar 9) (cVar 10) (cBin oMul (cK (.int 2)) (cBin (oAdd false) (cVar 7) (cVar 8)))))) E5 sNil)
      (fun i st h1 => h1 = nob h N.fs ∧ ∃ z8 z9 z10, st = [some (.ref h.length), some (.lst (N.ins.map dn)), some (.lst (N.lat.map pr)), some (.lst (N.gat.map gp)), some (.lst (N.out.map pr)), some (.lst (dnums N.nxt)), some sz, some (.int (N.first : Nat)), z8, z9, z10, none, none, none, none, none, none]) (enumD (N.gat.map gp)) 0 [some (.ref h.length), some (.lst (N.ins.map dn)), some (.lst (N.lat.map pr)), some (.lst (N.gat.map gp)), some (.lst (N.out.map pr)), some (.lst (dnums N.nxt)), some sz, some (.int (N.first : Nat)), none, none, none, none, none, none, none, none, none] (nob h N.fs) (fun i d st h1 hd ⟨i1, z8, z9, z10, i2⟩ => by
        subst i1 i2
        unfold enumD at hd
        rw [List.getElem?_mapIdx, List.getElem?_map] at hd
        cases hp : N.gat[i]? with
        | none =>
          rw [hp] at hd
          simp at hd
        | some p =>
          rw [hp] at hd
          have hd : D.tup [.int (i : Nat), gp p] = d := by simpa using hd
          subst hd
          obtain ⟨p1, p2⟩ := ok.gates i p hp
          have hi : i < N.gat.length := (List.getElem?_eq_some_iff.mp hp).1
          have fl : N.first ≤ 11 := by
            unfold Nt.first
            omega
          have c1 : (N.first : Int) + (i : Int) = ((N.first + i : Nat) : Int) := by omega
          have c2 : (2 : Int) * ((N.first + i : Nat) : Int) = ((2 * (N.first + i) : Nat) : Int) := by omega
          have g : gMul 2 ((N.first + i : Nat) : Int) = true := gMulN (a := 2) (by decide) (by omega)
          have t1 : decide ((0 : Int) ≤ (p.1 : Int)) = true := decide_eq_true (by omega)
          have t2 : decide ((p.1 : Int) ≤ (p.2 : Int)) = true := decide_eq_true (by omega)
          have t3 : decide ((p.2 : Int) < ((2 * (N.first + i) : Nat) : Int)) = true := decide_eq_true (by omega)
          refine ⟨[some (.ref h.length), some (.lst (N.ins.map dn)), some (.lst (N.lat.map pr)), some (.lst (N.gat.map gp)), some (.lst (N.out.map pr)), some (.lst (dnums N.nxt)), some sz, some (.int (N.first : Nat)), some (.int (i : Nat)), some (.int (p.1 : Nat)), some (.int (p.2 : Nat)), none, none, none, none, none, none], nob h N.fs, [some (.ref h.length), some (.lst (N.ins.map dn)), some (.lst (N.lat.map pr)), some (.lst (N.gat.map gp)), some (.lst (N.out.map pr)), some (.lst (dnums N.nxt)), some sz, some (.int (N.first : Nat)), some (.int (i : Nat)), some (.int (p.1 : Nat)), some (.int (p.2 : Nat)), none, none, none, none, none, none], nob h N.fs, rfl, ?_, rfl, _, _, _, rfl⟩
          simp only [ev_seq, ev_set, ev_bin, ev_cons, ev_nil, ev_var, ev_k, ev_call, ev_ret, ev_expr, ev_if, ev_tv, ev_tnot, ev_tand, ev_tor, ev_chain, ev_lst, ev_lstM, ev_tup, ev_cB, ev_lc, ev_wipe0, ev_wipe1, ev_alloc, ev_allocM, ev_sNil, ev_and, ev_not, ev_raise, seq_next, seq_ret, seq_exc, Res.bind_ok, Res.bind_exc, Res.out_ok, Res.out_exc, List.getElem?_cons_zero, List.getElem?_cons_succ, List.set_cons_succ, List.set_cons_zero, List.append_nil, List.nil_append, List.cons_append, if_true, Bool.false_eq_true, if_false, ev_iop, ev_bop, Bool.not_true, Bool.not_false, res_ret, res_next, res_exc, oAdd_int, oAddI_int, oNe_int, oEq_int, oNe_bl, beq_self_eq_true, ev_asg, ev_gtTup, ev_gtCons, ev_gtNil, ev_gtName, List.length_cons, List.length_nil, Nat.reduceAdd, Nat.zero_add, sz0, sz1, sz2, sz3, sz4, sz5, sz6, sz7, sz8, sz9, sz10, sz11, sz12, sz13, sz14, sz15, sz16, sz17, sz18, sz19, sz20, sz21, sz22, sz23, sz24, sz25, sz26, sz27, sz28, sz29, sz30, sz31, sz32, ev_chain3, t1, t2, c1, g, c2, t3]) ⟨rfl, none, none, none, rfl⟩
    rw [e9] at e
    exact ⟨z8, z9, z10, by rw [ev_for, it, Res.out_ok, e]⟩
  have M : ∀ (sz : D) (z8 z9 z10 : Option D), (sSet 11 (cBin oMul (cK (.int 2)) (cBin (oAdd false) (cVar 7) (cB fLen (cCons (cFld "Net" "pairs" (cVar 0)) cNil))))) [some (.ref h.length), some (.lst (N.ins.map dn)), some (.lst (N.lat.map pr)), some (.lst (N.gat.map gp)), some (.lst (N.out.map pr)), some (.lst (dnums N.nxt)), some sz, some (.int (N.first : Nat)), z8, z9, z10, none, none, none, none, none, none] (nob h N.fs) = .next [some (.ref h.length), some (.lst (N.ins.map dn)), some (.lst (N.lat.map pr)), some (.lst (N.gat.map gp)), some (.lst (N.out.map pr)), some (.lst (dnums N.nxt)), some sz, some (.int (N.first : Nat)), z8, z9, z10, some (.int (2 * (N.first + N.gat.length) : Nat)), none, none, none, none, none] (nob h N.fs) := fun sz z8 z9 z10 => by
    have f1 : cFld "Net" "pairs" (cVar 0) [some (.ref h.length), some (.lst (N.ins.map dn)), some (.lst (N.lat.map pr)), some (.lst (N.gat.map gp)), some (.lst (N.out.map pr)), some (.lst (dnums N.nxt)), some sz, some (.int (N.first : Nat)), z8, z9, z10, none, none, none, none, none, none] (nob h N.fs) = .ok (.lst (N.gat.map gp)) (nob h N.fs) := fld_get rfl rfl
    have fl : N.first ≤ 11 := by
      unfold Nt.first
      omega
    have c1 : (N.first : Int) + (N.gat.length : Int) = ((N.first + N.gat.length : Nat) : Int) := by omega
    have c2 : (2 : Int) * ((N.first + N.gat.length : Nat) : Int) = ((2 * (N.first + N.gat.length) : Nat) : Int) := by omega
    have g : gMul 2 ((N.first + N.gat.length : Nat) : Int) = true := gMulN (a := 2) (by decide) (by omega)
    simp only [ev_seq, ev_set, ev_bin, ev_cons, ev_nil, ev_var, ev_k, ev_call, ev_ret, ev_expr, ev_if, ev_tv, ev_tnot, ev_tand, ev_tor, ev_chain, ev_lst, ev_lstM, ev_tup, ev_cB, ev_lc, ev_wipe0, ev_wipe1, ev_alloc, ev_allocM, ev_sNil, ev_and, ev_not, ev_raise, seq_next, seq_ret, seq_exc, Res.bind_ok, Res.bind_exc, Res.out_ok, Res.out_exc, List.getElem?_cons_zero, List.getElem?_cons_succ, List.set_cons_succ, List.set_cons_zero, List.append_nil, List.nil_append, List.cons_append, if_true, Bool.false_eq_true, if_false, ev_iop, ev_bop, Bool.not_true, Bool.not_false, res_ret, res_next, res_exc, oAdd_int, oAddI_int, oNe_int, oEq_int, oNe_bl, beq_self_eq_true, ev_asg, ev_gtTup, ev_gtCons, ev_gtNil, ev_gtName, List.length_cons, List.length_nil, Nat.reduceAdd, Nat.zero_add, sz0, sz1, sz2, sz3, sz4, sz5, sz6, sz7, sz8, sz9, sz10, sz11, sz12, sz13, sz14, sz15, sz16, sz17, sz18, sz19, sz20, sz21, sz22, sz23, sz24, sz25, sz26, sz27, sz28, sz29, sz30, sz31, sz32, f1, len_lst, List.length_map, c1, g, c2]
  have T : ∀ (sz : D) (z8 z9 z10 : Option D), (sSet 12 (cBin (oAdd false) (cLc false (iSeqD (cFld "Net" "tells" (cVar 0))) (fTup [15, 14]) cYes (cVar 14) [15, 14]) (cFld "Net" "later" (cVar 0)))) [some (.ref h.length), some (.lst (N.ins.map dn)), some (.lst (N.lat.map pr)), some (.lst (N.gat.map gp)), some (.lst (N.out.map pr)), some (.lst (dnums N.nxt)), some sz, some (.int (N.first : Nat)), z8, z9, z10, some (.int (2 * (N.first + N.gat.length) : Nat)), none, none, none, none, none] (nob h N.fs) =
      .next [some (.ref h.length), some (.lst (N.ins.map dn)), some (.lst (N.lat.map pr)), some (.lst (N.gat.map gp)), some (.lst (N.out.map pr)), some (.lst (dnums N.nxt)), some sz, some (.int (N.first : Nat)), z8, z9, z10, some (.int (2 * (N.first + N.gat.length) : Nat)), some (.lst (dnums (N.out.map (·.2) ++ N.nxt))), none, none, none, none] (nob h N.fs) := fun sz z8 z9 z10 => by
    have f1 : cFld "Net" "tells" (cVar 0) [some (.ref h.length), some (.lst (N.ins.map dn)), some (.lst (N.lat.map pr)), some (.lst (N.gat.map gp)), some (.lst (N.out.map pr)), some (.lst (dnums N.nxt)), some sz, some (.int (N.first : Nat)), z8, z9, z10, some (.int (2 * (N.first + N.gat.length) : Nat)), none, none, none, none, none] (nob h N.fs) = .ok (.lst (N.out.map pr)) (nob h N.fs) := fld_get rfl rfl
    have f2 : cFld "Net" "later" (cVar 0) [some (.ref h.length), some (.lst (N.ins.map dn)), some (.lst (N.lat.map pr)), some (.lst (N.gat.map gp)), some (.lst (N.out.map pr)), some (.lst (dnums N.nxt)), some sz, some (.int (N.first : Nat)), z8, z9, z10, some (.int (2 * (N.first + N.gat.length) : Nat)), none, none, none, none, none] (nob h N.fs) = .ok (.lst (dnums N.nxt)) (nob h N.fs) := fld_get rfl rfl
    have it := it_of f1
    have e := lcL_all1 (fg := fTup [15, 14]) (ft := cYes) (fe := cVar 14) (st0 := [some (.ref h.length), some (.lst (N.ins.map dn)), some (.lst (N.lat.map pr)), some (.lst (N.gat.map gp)), some (.lst (N.out.map pr)), some (.lst (dnums N.nxt)), some sz, some (.int (N.first : Nat)), z8, z9, z10, some (.int (2 * (N.first + N.gat.length) : Nat)), none, none, none, none, none]) (h := nob h N.fs) (f := pr) (q := fun p => D.int (p.2 : Nat)) N.out fun p _ => ⟨[some (.ref h.length), some (.lst (N.ins.map dn)), some (.lst (N.lat.map pr)), some (.lst (N.gat.map gp)), some (.lst (N.out.map pr)), some (.lst (dnums N.nxt)), some sz, some (.int (N.first : Nat)), z8, z9, z10, some (.int (2 * (N.first + N.gat.length) : Nat)), none, none, some (.int (p.2 : Nat)), some (dn p.1), none], rfl, rfl, rfl⟩
    have c : oAdd false (.lst (N.out.map fun p => D.int (p.2 : Nat))) (.lst (dnums N.nxt)) (nob h N.fs) = .ok (.lst (dnums (N.out.map (·.2) ++ N.nxt))) (nob h N.fs) := by
      rw [cat_lst (by rw [List.length_map, dnums, List.length_map]; omega)]
      unfold dnums
      rw [List.map_append, List.map_map]
      rfl
    simp only [ev_seq, ev_set, ev_bin, ev_cons, ev_nil, ev_var, ev_k, ev_call, ev_ret, ev_expr, ev_if, ev_tv, ev_tnot, ev_tand, ev_tor, ev_chain, ev_lst, ev_lstM, ev_tup, ev_cB, ev_lc, ev_wipe0, ev_wipe1, ev_alloc, ev_allocM, ev_sNil, ev_and, ev_not, ev_raise, seq_next, seq_ret, seq_exc, Res.bind_ok, Res.bind_exc, Res.out_ok, Res.out_exc, List.getElem?_cons_zero, List.getElem?_cons_succ, List.set_cons_succ, List.set_cons_zero, List.append_nil, List.nil_append, List.cons_append, if_true, Bool.false_eq_true, if_false, ev_iop, ev_bop, Bool.not_true, Bool.not_false, res_ret, res_next, res_exc, oAdd_int, oAddI_int, oNe_int, oEq_int, oNe_bl, beq_self_eq_true, ev_asg, ev_gtTup, ev_gtCons, ev_gtNil, ev_gtName, List.length_cons, List.length_nil, Nat.reduceAdd, Nat.zero_add, sz0, sz1, sz2, sz3, sz4, sz5, sz6, sz7, sz8, sz9, sz10, sz11, sz12, sz13, sz14, sz15, sz16, sz17, sz18, sz19, sz20, sz21, sz22, sz23, sz24, sz25, sz26, sz27, sz28, sz29, sz30, sz31, sz32, it, s4, e, f2, c]
  have U : ∀ (sz : D) (z8 z9 z10 : Option D), (sIf (cTor (cTv (cBin oNe (cB fLen (cCons (cFld "Net" "later" (cVar 0)) cNil)) (cB fLen (cCons (cFld "Net" "memory" (cVar 0)) cNil)))) (cTnot (cTv (cB fAll (cCons (cLc false (iSeqD (cVar 12)) (fName 14) cYes (cChain oLe oLt (cK (.int 0)) (cVar 14) (cVar 11)) [14]) cNil))))) E6 sNil) [some (.ref h.length), some (.lst (N.ins.map dn)), some (.lst (N.lat.map pr)), some (.lst (N.gat.map gp)), some (.lst (N.out.map pr)), some (.lst (dnums N.nxt)), some sz, some (.int (N.first : Nat)), z8, z9, z10, some (.int (2 * (N.first + N.gat.length) : Nat)), some (.lst (dnums (N.out.map (·.2) ++ N.nxt))), none, none, none, none] (nob h N.fs) =
      .next [some (.ref h.length), some (.lst (N.ins.map dn)), some (.lst (N.lat.map pr)), some (.lst (N.gat.map gp)), some (.lst (N.out.map pr)), some (.lst (dnums N.nxt)), some sz, some (.int (N.first : Nat)), z8, z9, z10, some (.int (2 * (N.first + N.gat.length) : Nat)), some (.lst (dnums (N.out.map (·.2) ++ N.nxt))), none, none, none, none] (nob h N.fs) := fun sz z8 z9 z10 => by
    have f1 : cFld "Net" "memory" (cVar 0) [some (.ref h.length), some (.lst (N.ins.map dn)), some (.lst (N.lat.map pr)), some (.lst (N.gat.map gp)), some (.lst (N.out.map pr)), some (.lst (dnums N.nxt)), some sz, some (.int (N.first : Nat)), z8, z9, z10, some (.int (2 * (N.first + N.gat.length) : Nat)), some (.lst (dnums (N.out.map (·.2) ++ N.nxt))), none, none, none, none] (nob h N.fs) = .ok (.lst (N.lat.map pr)) (nob h N.fs) := fld_get rfl rfl
    have f2 : cFld "Net" "later" (cVar 0) [some (.ref h.length), some (.lst (N.ins.map dn)), some (.lst (N.lat.map pr)), some (.lst (N.gat.map gp)), some (.lst (N.out.map pr)), some (.lst (dnums N.nxt)), some sz, some (.int (N.first : Nat)), z8, z9, z10, some (.int (2 * (N.first + N.gat.length) : Nat)), some (.lst (dnums (N.out.map (·.2) ++ N.nxt))), none, none, none, none] (nob h N.fs) = .ok (.lst (dnums N.nxt)) (nob h N.fs) := fld_get rfl rfl
    have it : iSeqD (cVar 12) [some (.ref h.length), some (.lst (N.ins.map dn)), some (.lst (N.lat.map pr)), some (.lst (N.gat.map gp)), some (.lst (N.out.map pr)), some (.lst (dnums N.nxt)), some sz, some (.int (N.first : Nat)), z8, z9, z10, some (.int (2 * (N.first + N.gat.length) : Nat)), some (.lst (dnums (N.out.map (·.2) ++ N.nxt))), none, none, none, none] (nob h N.fs) = .ok ((N.out.map (·.2) ++ N.nxt).map fun (a : Nat) => D.int (a : Int)) (nob h N.fs) := it_var rfl
    have sl : ((N.out.map (·.2) ++ N.nxt).map fun (a : Nat) => D.int (a : Int)).length ≤ sizeLine := small_line (by rw [List.length_map, List.length_append, List.length_map]; omega)
    have e := lcL_all1 (fg := fName 14) (ft := cYes) (fe := cChain oLe oLt (cK (.int 0)) (cVar 14) (cVar 11)) (st0 := [some (.ref h.length), some (.lst (N.ins.map dn)), some (.lst (N.lat.map pr)), some (.lst (N.gat.map gp)), some (.lst (N.out.map pr)), some (.lst (dnums N.nxt)), some sz, some (.int (N.first : Nat)), z8, z9, z10, some (.int (2 * (N.first + N.gat.length) : Nat)), some (.lst (dnums (N.out.map (·.2) ++ N.nxt))), none, none, none, none]) (h := nob h N.fs) (f := fun (a : Nat) => D.int (a : Int)) (q := fun _ => D.bl true) (N.out.map (·.2) ++ N.nxt) fun a ha => by
      have hl : a < 2 * (N.first + N.gat.length) := by
        rcases List.mem_append.mp ha with ha | ha
        · obtain ⟨p, hp, rfl⟩ := List.mem_map.mp ha
          exact ok.outs p hp
        · exact ok.nexts a ha
      have t1 : decide ((0 : Int) ≤ (a : Int)) = true := decide_eq_true (by omega)
      have t2 : decide ((a : Int) < ((2 * (N.first + N.gat.length) : Nat) : Int)) = true := decide_eq_true (by omega)
      exact ⟨[some (.ref h.length), some (.lst (N.ins.map dn)), some (.lst (N.lat.map pr)), some (.lst (N.gat.map gp)), some (.lst (N.out.map pr)), some (.lst (dnums N.nxt)), some sz, some (.int (N.first : Nat)), z8, z9, z10, some (.int (2 * (N.first + N.gat.length) : Nat)), some (.lst (dnums (N.out.map (·.2) ++ N.nxt))), none, some (.int (a : Nat)), none, none], rfl, rfl, by simp only [ev_seq, ev_set, ev_bin, ev_cons, ev_nil, ev_var, ev_k, ev_call, ev_ret, ev_expr, ev_if, ev_tv, ev_tnot, ev_tand, ev_tor, ev_chain, ev_lst, ev_lstM, ev_tup, ev_cB, ev_lc, ev_wipe0, ev_wipe1, ev_alloc, ev_allocM, ev_sNil, ev_and, ev_not, ev_raise, seq_next, seq_ret, seq_exc, Res.bind_ok, Res.bind_exc, Res.out_ok, Res.out_exc, List.getElem?_cons_zero, List.getElem?_cons_succ, List.set_cons_succ, List.set_cons_zero, List.append_nil, List.nil_append, List.cons_append, if_true, Bool.false_eq_true, if_false, ev_iop, ev_bop, Bool.not_true, Bool.not_false, res_ret, res_next, res_exc, oAdd_int, oAddI_int, oNe_int, oEq_int, oNe_bl, beq_self_eq_true, ev_asg, ev_gtTup, ev_gtCons, ev_gtNil, ev_gtName, List.length_cons, List.length_nil, Nat.reduceAdd, Nat.zero_add, sz0, sz1, sz2, sz3, sz4, sz5, sz6, sz7, sz8, sz9, sz10, sz11, sz12, sz13, sz14, sz15, sz16, sz17, sz18, sz19, sz20, sz21, sz22, sz23, sz24, sz25, sz26, sz27, sz28, sz29, sz30, sz31, sz32, t1, t2]⟩
    have l1 : fLen [.lst (dnums N.nxt)] (nob h N.fs) = .ok (.int (N.nxt.length : Nat)) (nob h N.fs) := by rw [len_lst, dnums, List.length_map]
    have l2 : fLen [.lst (N.lat.map pr)] (nob h N.fs) = .ok (.int (N.lat.length : Nat)) (nob h N.fs) := by rw [len_lst, List.length_map]
    have ne : ((N.nxt.length : Int) != (N.lat.length : Int)) = false := by rw [b5]; simp
    have ne2 : (!((N.nxt.length : Int) == (N.lat.length : Int))) = false := ne
    simp only [ev_seq, ev_set, ev_bin, ev_cons, ev_nil, ev_var, ev_k, ev_call, ev_ret, ev_expr, ev_if, ev_tv, ev_tnot, ev_tand, ev_tor, ev_chain, ev_lst, ev_lstM, ev_tup, ev_cB, ev_lc, ev_wipe0, ev_wipe1, ev_alloc, ev_allocM, ev_sNil, ev_and, ev_not, ev_raise, seq_next, seq_ret, seq_exc, Res.bind_ok, Res.bind_exc, Res.out_ok, Res.out_exc, List.getElem?_cons_zero, List.getElem?_cons_succ, List.set_cons_succ, List.set_cons_zero, List.append_nil, List.nil_append, List.cons_append, if_true, Bool.false_eq_true, if_false, ev_iop, ev_bop, Bool.not_true, Bool.not_false, res_ret, res_next, res_exc, oAdd_int, oAddI_int, oNe_int, oEq_int, oNe_bl, beq_self_eq_true, ev_asg, ev_gtTup, ev_gtCons, ev_gtNil, ev_gtName, List.length_cons, List.length_nil, Nat.reduceAdd, Nat.zero_add, sz0, sz1, sz2, sz3, sz4, sz5, sz6, sz7, sz8, sz9, sz10, sz11, sz12, sz13, sz14, sz15, sz16, sz17, sz18, sz19, sz20, sz21, sz22, sz23, sz24, sz25, sz26, sz27, sz28, sz29, sz30, sz31, sz32, f1, f2, l1, l2, ne, ne2, it, sl, e, all_yes]
  obtain ⟨z8, z9, z10, L⟩ := L (.lst (([(N.ins.map dn, 6), (N.lat.map pr, 4), (N.gat.map gp, 60), (N.out.map pr, 8)] : List (List D × Nat)).map fun q => .tup [.lst q.1, .int (q.2 : Nat)]))
  refine fn_eq [some (.ref h.length), some (.lst (N.ins.map dn)), some (.lst (N.lat.map pr)), some (.lst (N.gat.map gp)), some (.lst (N.out.map pr)), some (.lst (dnums N.nxt)), none, none, none, none, none, none, none, none, none, none, none] rfl rfl ?_ (by simp)
  unfold initB
  rw [ev_seq, A, seq_next, ev_seq, B, seq_next, ev_seq, C, seq_next, ev_seq, F, seq_next, ev_seq, G1, seq_next, ev_seq, G2, seq_next, ev_seq, G3, seq_next, ev_seq, G4, seq_next, ev_seq, G5, seq_next, ev_seq, H, seq_next, ev_seq, L, seq_next, ev_seq, M, seq_next, ev_seq, T, seq_next, U]
  rfl
/-- Net(..) of a drawn net -/
theorem make_eq {fs : Ev (List D)} {st : Slots} (ok : N.Ok) (fw : N.Few) (e : fs st h = .ok [.lst (N.ins.map dn), .lst (N.lat.map pr), .lst (N.gat.map gp), .lst (N.out.map pr), .lst (dnums N.nxt)] h) (hh : h.all (cellLw h.length) = true) : cMake "Net" (initF E1 E2 E3 E4 E5 E6) [] fs st h = .ok N.o h := by
  have e2 := init_eq (E1 := E1) (E2 := E2) (E3 := E3) (E4 := E4) (E5 := E5) (E6 := E6) (h := h) ok fw
  unfold cMake
  rw [e, Res.bind_ok, List.append_nil]
  have e2 : initF E1 E2 E3 E4 E5 E6 (.ref h.length :: [.lst (N.ins.map dn), .lst (N.lat.map pr), .lst (N.gat.map gp), .lst (N.out.map pr), .lst (dnums N.nxt)]) (h ++ [some (.obj "Net" [])]) = .ok .non (h ++ [some (.obj "Net" N.fs)]) := e2
  rw [e2, Res.bind_ok, last_at, last_set]
  dsimp only
  have lw : N.o.lw h.length = true := by
    have q : N.o.lw h.length = (D.lws h.length (N.ins.map dn) && (D.lws h.length (N.lat.map pr) && (D.lws h.length (N.gat.map gp) && (D.lws h.length (N.out.map pr) && (D.lws h.length (dnums N.nxt) && true))))) := rfl
    rw [q, lws_map (lw_str _), lws_map (lw_pr _), lws_map (lw_gp _), lws_map (lw_pr _), show D.lws h.length (dnums N.nxt) = true from lws_map (fun _ => rfl) _]
    rfl
  unfold cleanD clean
  dsimp only
  have t : (h ++ [none]).take h.length = h := List.take_left' rfl
  show (if (D.obj "Net" N.fs).lw h.length = true ∧ ((h ++ [none]).take h.length).all (cellLw h.length) = true then Res.ok (D.obj "Net" N.fs) ((h ++ [none]).take h.length) else Res.ok (D.obj "Net" N.fs) (h ++ [none])) = _
  rw [t, if_pos ⟨lw, hh⟩]
  rfl
end
end Gm

namespace K23
open PySem PySem.Spec PyProof.Rows L2 Gm
def top (i : Nat) : Stmt := PySem.Challenge.pw_gatemill_k23_tables_over_leaves.main.body.getD i (.Pass ⟨0, 0, 0, 0⟩)
abbrev FnP (K : PySem.W.Frag) (x : Str) (st : Stmt) (kws : List (Str × V)) (f : Addr) (fd : FuncData) : Prop := FunD K x x (defArgs st) (defBody st) (defScope st) [] kws f fd
def fuel : Nat := 1000000000
/-! _law_box -/
abbrev s_law_box : Stmt := top 29
theorem sc_law_box : FnScope ["script", "seed", "one"] ["script"] (defScope s_law_box) := ⟨rfl, rfl, rfl, by decide +kernel, rfl, by decide +kernel, by decide +kernel⟩
def B_law_box : Ss :=
  (sSeq (sSet 1 (cK (.int 7919)))
  (sSeq (sFor (iSeqD (cSl false (cVar 0) cNoPart (cPart (cK (.int 63))))) (gtName 2) (sSet 1 (cBin oMod (cBin (oAdd false) (cBin (oAdd false) (cBin oMul (cVar 1) (cK (.int 48271))) (cBin oMod (cVar 2) (cK (.int 1000003)))) (cK (.int 11))) (cK (.int 2147483647)))))
  (sRet (cLst true (cCons (cB (fList false) (cCons (cSl false (cVar 0) cNoPart (cPart (cK (.int 63)))) cNil)) (cCons (cK (.int 0)) (cCons (cK (.int 0)) (cCons (cVar 1) cNil))))))))
def F_law_box : FnT := fnOf 3 1 B_law_box
theorem ok_law_box {P : Program} {w : World} {K : PySem.W.Frag} {T : List (Addr × Str)} {mg : Str → Option Value} {base : Heap} {f : Addr} {fd : FuncData} {kws : List (Str × V)} (F : FnP K "_law_box" s_law_box kws f fd)
    (m_list : mg "list" = none) :
    FnOk P w K mg base (L2N.CX P w) 1 f fd ["script"] (spOf (cfT K T) F_law_box) :=
  fn_ok (k := 0) F sc_law_box fun cdv A outer s H E hr =>
  (ss_cons (s_set (i := 1) sc_law_box.nd rfl (by first | exact Or.inl rfl | exact Or.inr rfl) (e_int pe_int))
  (ss_cons (s_for (passes_of rfl) rfl (i_seq rfl (e_slice (m := false) rfl (e_var (pv 0)) p_none (p_some (e_int pe_int)))) (g_name (pg_name (i := 2) sc_law_box.nd rfl (by first | exact Or.inl rfl | exact Or.inr rfl))) (ss_one (s_set (i := 1) sc_law_box.nd rfl (by first | exact Or.inl rfl | exact Or.inr rfl) (b_mod (b_add (m := false) (b_add (m := false) (b_mul (e_var (pv 1)) (e_int pe_int)) (b_mod (e_var (pv 2)) (e_int pe_int))) (e_int pe_int)) (e_int pe_int)))))
  (ss_one (s_ret (e_lst (m := true) (a_cons (e_ct call_list_of (fList_ok (m := false)) (by rfl) m_list (by decide +kernel) (a_cons (e_slice (m := false) rfl (e_var (pv 0)) p_none (p_some (e_int pe_int))) a_nil)) (a_cons (e_int pe_int) (a_cons (e_int pe_int) (a_cons (e_var (pv 1)) a_nil)))))))))
/-! _law_take -/
abbrev s_law_take : Stmt := top 30
theorem sc_law_take : FnScope ["box", "many", "rest", "one", "mixed"] ["box", "many"] (defScope s_law_take) := ⟨rfl, rfl, rfl, by decide +kernel, rfl, by decide +kernel, by decide +kernel⟩
def B_law_take : Ss :=
  (sSeq (sIf (cTv (cBin oGt (cBin oIx (cVar 0) (cK (.int 2))) (cK (.int 0)))) (sSeq (sSet 2 (cBin oIx (cVar 0) (cK (.int 2))))
  (sSeq (sPut (cBin oDiv (cVar 2) (cVar 1)) (cVar 0) (cK (.int 2)))
  (sRet (cBin oMod (cVar 2) (cVar 1)))))
  sNil)
  (sSeq (sSet 3 (cK (.int 0)))
  (sSeq (sIf (cTv (cBin oLt (cBin oIx (cVar 0) (cK (.int 1))) (cB fLen (cCons (cBin oIx (cVar 0) (cK (.int 0))) cNil)))) (sSet 3 (cBin oIx (cBin oIx (cVar 0) (cK (.int 0))) (cBin oIx (cVar 0) (cK (.int 1)))))
  sNil)
  (sSeq (sAugAt oAddI (cVar 0) (cK (.int 1)) (cK (.int 1)))
  (sSeq (sIf (cTv (cBin oGe (cVar 3) (cBin oPow (cK (.int 10)) (cK (.int 18))))) (sSeq (sPut (cBin oDiv (cVar 3) (cVar 1)) (cVar 0) (cK (.int 2)))
  (sRet (cBin oMod (cVar 3) (cVar 1))))
  sNil)
  (sSeq (sSet 4 (cBin oMod (cBin (oAdd false) (cBin (oAdd false) (cBin oIx (cVar 0) (cK (.int 3))) (cBin oMul (cBin oMod (cVar 3) (cK (.int 2147483629))) (cK (.int 69621)))) (cBin oMul (cBin oIx (cVar 0) (cK (.int 1))) (cK (.int 104729)))) (cK (.int 2147483587))))
  (sSeq (sSet 4 (cBin oMod (cBin (oAdd false) (cBin (oAdd false) (cBin oMul (cVar 4) (cVar 4)) (cBin oMul (cK (.int 40961)) (cVar 4))) (cK (.int 77))) (cK (.int 2147483629))))
  (sSeq (sPut (cBin oMod (cBin (oAdd false) (cBin (oAdd false) (cBin oMul (cVar 4) (cK (.int 16807))) (cBin oMod (cBin oIx (cVar 0) (cK (.int 3))) (cK (.int 8191)))) (cK (.int 5))) (cK (.int 2147483587))) (cVar 0) (cK (.int 3)))
  (sRet (cBin oMod (cBin oDiv (cBin oIx (cVar 0) (cK (.int 3))) (cK (.int 61))) (cVar 1)))))))))))
def F_law_take : FnT := fnOf 5 2 B_law_take
theorem ok_law_take {P : Program} {w : World} {K : PySem.W.Frag} {T : List (Addr × Str)} {mg : Str → Option Value} {base : Heap} {f : Addr} {fd : FuncData} {kws : List (Str × V)} (F : FnP K "_law_take" s_law_take kws f fd)
    (m_len : mg "len" = none) :
    FnOk P w K mg base (L2N.CX P w) 1 f fd ["box", "many"] (spOf (cfT K T) F_law_take) :=
  fn_ok (k := 0) F sc_law_take fun cdv A outer s H E hr =>
  (ss_cons (s_if (t_gt (e_item rfl (e_var (pv 0)) (e_int pe_int)) (e_int pe_int)) (ss_cons (s_set (i := 2) sc_law_take.nd rfl (by first | exact Or.inl rfl | exact Or.inr rfl) (e_item rfl (e_var (pv 0)) (e_int pe_int)))
  (ss_cons (s_put (b_div (e_var (pv 2)) (e_var (pv 1))) (e_var (pv 0)) (e_int pe_int) fun a b c => ps_put a b c)
  (ss_one (s_ret (b_mod (e_var (pv 2)) (e_var (pv 1)))))))
  ss_nil)
  (ss_cons (s_set (i := 3) sc_law_take.nd rfl (by first | exact Or.inl rfl | exact Or.inr rfl) (e_int pe_int))
  (ss_cons (s_if (t_lt (e_item rfl (e_var (pv 0)) (e_int pe_int)) (e_cb rLen_ok fLen_ok (by rfl) m_len (by decide +kernel) (a_cons (e_item rfl (e_var (pv 0)) (e_int pe_int)) a_nil))) (ss_one (s_set (i := 3) sc_law_take.nd rfl (by first | exact Or.inl rfl | exact Or.inr rfl) (e_item rfl (e_item rfl (e_var (pv 0)) (e_int pe_int)) (e_item rfl (e_var (pv 0)) (e_int pe_int)))))
  ss_nil)
  (ss_cons (s_augAt rfl iop_add iop0_ok (e_var (pv 0)) (e_int pe_int) (e_int pe_int))
  (ss_cons (s_if (t_ge (e_var (pv 3)) (b_pow (e_int pe_int) (e_int pe_int))) (ss_cons (s_put (b_div (e_var (pv 3)) (e_var (pv 1))) (e_var (pv 0)) (e_int pe_int) fun a b c => ps_put a b c)
  (ss_one (s_ret (b_mod (e_var (pv 3)) (e_var (pv 1))))))
  ss_nil)
  (ss_cons (s_set (i := 4) sc_law_take.nd rfl (by first | exact Or.inl rfl | exact Or.inr rfl) (b_mod (b_add (m := false) (b_add (m := false) (e_item rfl (e_var (pv 0)) (e_int pe_int)) (b_mul (b_mod (e_var (pv 3)) (e_int pe_int)) (e_int pe_int))) (b_mul (e_item rfl (e_var (pv 0)) (e_int pe_int)) (e_int pe_int))) (e_int pe_int)))
  (ss_cons (s_set (i := 4) sc_law_take.nd rfl (by first | exact Or.inl rfl | exact Or.inr rfl) (b_mod (b_add (m := false) (b_add (m := false) (b_mul (e_var (pv 4)) (e_var (pv 4))) (b_mul (e_int pe_int) (e_var (pv 4)))) (e_int pe_int)) (e_int pe_int)))
  (ss_cons (s_put (b_mod (b_add (m := false) (b_add (m := false) (b_mul (e_var (pv 4)) (e_int pe_int)) (b_mod (e_item rfl (e_var (pv 0)) (e_int pe_int)) (e_int pe_int))) (e_int pe_int)) (e_int pe_int)) (e_var (pv 0)) (e_int pe_int) fun a b c => ps_put a b c)
  (ss_one (s_ret (b_mod (b_div (e_item rfl (e_var (pv 0)) (e_int pe_int)) (e_int pe_int)) (e_var (pv 1)))))))))))))
/-! _law_names -/
abbrev s_law_names : Stmt := top 32
theorem sc_law_names : FnScope ["box", "many", "letters", "which", "first", "stem", "at", "step", "k"] ["box", "many"] (defScope s_law_names) := ⟨rfl, rfl, rfl, by decide +kernel, rfl, by decide +kernel, by decide +kernel⟩
def B_law_names : Ss :=
  (sSeq (sSet 2 (cK (.str (PySem.Str.ofString "abcdefghijklmnopqrstuvwxyz"))))
  (sSeq (sSet 3 (cCall F_law_take [] (cCons (cVar 0) (cCons (cK (.int 8)) cNil))))
  (sSeq (sSet 4 (cCall F_law_take [] (cCons (cVar 0) (cCons (cK (.int 26)) cNil))))
  (sSeq (sIf (cTv (cBin oEq (cVar 3) (cK (.int 7)))) (sRet (cLc false (iRange1 (cCons (cVar 1) cNil)) (fName 8) cYes (cBin oMulS (cBin oIx (cVar 2) (cBin (oAdd false) (cBin oMod (cVar 4) (cK (.int 20))) (cBin oDiv (cVar 8) (cK (.int 8))))) (cBin (oAdd false) (cK (.int 1)) (cBin oMod (cVar 8) (cK (.int 8))))) [8]))
  sNil)
  (sSeq (sSet 5 (cBin oIx (cLst false (cCons (cK (.str (PySem.Str.ofString ""))) (cCons (cK (.str (PySem.Str.ofString "q"))) (cCons (cK (.str (PySem.Str.ofString "ab"))) (cCons (cK (.str (PySem.Str.ofString "gate"))) (cCons (cK (.str (PySem.Str.ofString "aaaaaaa"))) (cCons (cK (.str (PySem.Str.ofString "zzyzx"))) (cCons (cK (.str (PySem.Str.ofString "bb"))) cNil)))))))) (cVar 3)))
  (sSeq (sSet 6 (cCall F_law_take [] (cCons (cVar 0) (cCons (cBin (oAdd false) (cB fLen (cCons (cVar 5) cNil)) (cK (.int 1))) cNil))))
  (sSeq (sSet 7 (cBin oIx (cLst false (cCons (cK (.int 1)) (cCons (cK (.int 3)) (cCons (cK (.int 5)) (cCons (cK (.int 7)) (cCons (cK (.int 9)) (cCons (cK (.int 11)) cNil))))))) (cCall F_law_take [] (cCons (cVar 0) (cCons (cK (.int 6)) cNil)))))
  (sRet (cLc false (iRange1 (cCons (cVar 1) cNil)) (fName 8) cYes (cBin (oAdd false) (cBin (oAdd false) (cSl false (cVar 5) cNoPart (cPart (cVar 6))) (cBin oIx (cVar 2) (cBin oMod (cBin (oAdd false) (cVar 4) (cBin oMul (cVar 7) (cVar 8))) (cK (.int 26))))) (cSl false (cVar 5) (cPart (cVar 6)) cNoPart)) [8])))))))))
def F_law_names : FnT := fnOf 9 2 B_law_names
theorem ok_law_names {P : Program} {w : World} {K : PySem.W.Frag} {T : List (Addr × Str)} {mg : Str → Option Value} {base : Heap} {f : Addr} {fd : FuncData} {kws : List (Str × V)} (F : FnP K "_law_names" s_law_names kws f fd)
    (m_range : mg "range" = none)
    (m_len : mg "len" = none)
    (C_law_take : CallOk P w K mg base (cfT K T) "_law_take" 1 F_law_take []) :
    FnOk P w K mg base (L2N.CX P w) 2 f fd ["box", "many"] (spOf (cfT K T) F_law_names) :=
  fn_ok (k := 1) F sc_law_names fun cdv A outer s H E hr =>
  (ss_cons (s_set (i := 2) sc_law_names.nd rfl (by first | exact Or.inl rfl | exact Or.inr rfl) (e_str pe_str))
  (ss_cons (s_set (i := 3) sc_law_names.nd rfl (by first | exact Or.inl rfl | exact Or.inr rfl) (e_callC C_law_take hr (by decide) (by rfl) (L2N.takes_of rfl rfl rfl rfl) (a_cons (e_var (pv 0)) (a_cons (e_int pe_int) a_nil))))
  (ss_cons (s_set (i := 4) sc_law_names.nd rfl (by first | exact Or.inl rfl | exact Or.inr rfl) (e_callC C_law_take hr (by decide) (by rfl) (L2N.takes_of rfl rfl rfl rfl) (a_cons (e_var (pv 0)) (a_cons (e_int pe_int) a_nil))))
  (ss_cons (s_if (t_eq rfl hr.units (e_var (pv 3)) (e_int pe_int)) (ss_one (s_ret (e_lc (m := false) (own := [("k", 8)]) (gt := (gName 8)) rfl sc_law_names.nd (i_range1 (by rfl) m_range (a_cons (e_var (pv 1)) a_nil)) (blkOk_by (by show blkC ["box", "many", "letters", "which", "first", "stem", "at", "step", "k"] (defScope s_law_names) _ _ = true; decide +kernel)) (fun _ _ _ _ _ => pg_name (i := 8) sc_law_names.nd rfl (by first | exact Or.inl rfl | exact Or.inr rfl)) (tg_name (by decide)) (fun _ _ _ _ _ => ts_nil) (fun _ _ _ _ _ => (b_mulS (e_item rfl (e_var (pv 2)) (b_add (m := false) (b_mod (e_var (pv 4)) (e_int pe_int)) (b_div (e_var (pv 8)) (e_int pe_int)))) (b_add (m := false) (e_int pe_int) (b_mod (e_var (pv 8)) (e_int pe_int))))))))
  ss_nil)
  (ss_cons (s_set (i := 5) sc_law_names.nd rfl (by first | exact Or.inl rfl | exact Or.inr rfl) (e_item rfl (e_lst (m := false) (a_cons (e_str pe_str) (a_cons (e_str pe_str) (a_cons (e_str pe_str) (a_cons (e_str pe_str) (a_cons (e_str pe_str) (a_cons (e_str pe_str) (a_cons (e_str pe_str) a_nil)))))))) (e_var (pv 3))))
  (ss_cons (s_set (i := 6) sc_law_names.nd rfl (by first | exact Or.inl rfl | exact Or.inr rfl) (e_callC C_law_take hr (by decide) (by rfl) (L2N.takes_of rfl rfl rfl rfl) (a_cons (e_var (pv 0)) (a_cons (b_add (m := false) (e_cb rLen_ok fLen_ok (by rfl) m_len (by decide +kernel) (a_cons (e_var (pv 5)) a_nil)) (e_int pe_int)) a_nil))))
  (ss_cons (s_set (i := 7) sc_law_names.nd rfl (by first | exact Or.inl rfl | exact Or.inr rfl) (e_item rfl (e_lst (m := false) (a_cons (e_int pe_int) (a_cons (e_int pe_int) (a_cons (e_int pe_int) (a_cons (e_int pe_int) (a_cons (e_int pe_int) (a_cons (e_int pe_int) a_nil))))))) (e_callC C_law_take hr (by decide) (by rfl) (L2N.takes_of rfl rfl rfl rfl) (a_cons (e_var (pv 0)) (a_cons (e_int pe_int) a_nil)))))
  (ss_one (s_ret (e_lc (m := false) (own := [("k", 8)]) (gt := (gName 8)) rfl sc_law_names.nd (i_range1 (by rfl) m_range (a_cons (e_var (pv 1)) a_nil)) (blkOk_by (by show blkC ["box", "many", "letters", "which", "first", "stem", "at", "step", "k"] (defScope s_law_names) _ _ = true; decide +kernel)) (fun _ _ _ _ _ => pg_name (i := 8) sc_law_names.nd rfl (by first | exact Or.inl rfl | exact Or.inr rfl)) (tg_name (by decide)) (fun _ _ _ _ _ => ts_nil) (fun _ _ _ _ _ => (b_add (m := false) (b_add (m := false) (e_slice (m := false) rfl (e_var (pv 5)) p_none (p_some (e_var (pv 6)))) (e_item rfl (e_var (pv 2)) (b_mod (b_add (m := false) (e_var (pv 4)) (b_mul (e_var (pv 7)) (e_var (pv 8)))) (e_int pe_int)))) (e_slice (m := false) rfl (e_var (pv 5)) (p_some (e_var (pv 6))) p_none)))))))))))))
/-! _law_frame -/
abbrev s_law_frame : Stmt := top 39
theorem sc_law_frame : FnScope ["box", "ins", "mem", "names", "many", "latches", "called"] ["box", "ins", "mem"] (defScope s_law_frame) := ⟨rfl, rfl, rfl, by decide +kernel, rfl, by decide +kernel, by decide +kernel⟩
def B_law_frame : Ss :=
  (sSeq (sSet 3 (cCall F_law_names [] (cCons (cVar 0) (cCons (cK (.int 10)) cNil))))
  (sSeq (sSet 4 (cCall F_law_take [] (cCons (cVar 0) (cCons (cBin (oAdd false) (cVar 1) (cK (.int 1))) cNil))))
  (sSeq (sSet 5 (cLc false (iSeqD (cSl false (cVar 3) (cPart (cVar 4)) (cPart (cBin (oAdd false) (cVar 4) (cCall F_law_take [] (cCons (cVar 0) (cCons (cBin (oAdd false) (cVar 2) (cK (.int 1))) cNil))))))) (fName 6) cYes (cTup (cCons (cVar 6) (cCons (cCall F_law_take [] (cCons (cVar 0) (cCons (cK (.int 2)) cNil))) cNil))) [6]))
  (sRet (cTup (cCons (cVar 3) (cCons (cSl false (cVar 3) cNoPart (cPart (cVar 4))) (cCons (cVar 5) cNil))))))))
def F_law_frame : FnT := fnOf 7 3 B_law_frame
theorem ok_law_frame {P : Program} {w : World} {K : PySem.W.Frag} {T : List (Addr × Str)} {mg : Str → Option Value} {base : Heap} {f : Addr} {fd : FuncData} {kws : List (Str × V)} (F : FnP K "_law_frame" s_law_frame kws f fd)
    (C_law_names : CallOk P w K mg base (cfT K T) "_law_names" 2 F_law_names [])
    (C_law_take : CallOk P w K mg base (cfT K T) "_law_take" 1 F_law_take []) :
    FnOk P w K mg base (L2N.CX P w) 3 f fd ["box", "ins", "mem"] (spOf (cfT K T) F_law_frame) :=
  fn_ok (k := 2) F sc_law_frame fun cdv A outer s H E hr =>
  (ss_cons (s_set (i := 3) sc_law_frame.nd rfl (by first | exact Or.inl rfl | exact Or.inr rfl) (e_callC C_law_names hr (by decide) (by rfl) (L2N.takes_of rfl rfl rfl rfl) (a_cons (e_var (pv 0)) (a_cons (e_int pe_int) a_nil))))
  (ss_cons (s_set (i := 4) sc_law_frame.nd rfl (by first | exact Or.inl rfl | exact Or.inr rfl) (e_callC C_law_take hr (by decide) (by rfl) (L2N.takes_of rfl rfl rfl rfl) (a_cons (e_var (pv 0)) (a_cons (b_add (m := false) (e_var (pv 1)) (e_int pe_int)) a_nil))))
  (ss_cons (s_setLc (m := false) (own := [("called", 6)]) (gt := (gName 6)) (i := 5) rfl sc_law_frame.nd rfl rfl (sw_true rfl rfl rfl (by decide +kernel)) (i_seq rfl (e_slice (m := false) rfl (e_var (pv 3)) (p_some (e_var (pv 4))) (p_some (b_add (m := false) (e_var (pv 4)) (e_callC C_law_take hr (by decide) (by rfl) (L2N.takes_of rfl rfl rfl rfl) (a_cons (e_var (pv 0)) (a_cons (b_add (m := false) (e_var (pv 2)) (e_int pe_int)) a_nil))))))) (blkOk_by (by show blkC ["box", "ins", "mem", "names", "many", "latches", "called"] (defScope s_law_frame) _ _ = true; decide +kernel)) (fun _ _ _ _ _ => pg_name (i := 6) sc_law_frame.nd rfl (by first | exact Or.inl rfl | exact Or.inr rfl)) (tg_name (by decide)) (fun _ _ _ _ _ => ts_nil) (fun _ _ _ _ _ => (e_tup (a_cons (e_var (pv 6)) (a_cons (e_callC C_law_take hr (by decide) (by rfl) no_tk (a_cons (e_var (pv 0)) (a_cons (e_int pe_int) a_nil))) a_nil)))))
  (ss_one (s_ret (e_tup (a_cons (e_var (pv 3)) (a_cons (e_slice (m := false) rfl (e_var (pv 3)) p_none (p_some (e_var (pv 4)))) (a_cons (e_var (pv 5)) a_nil)))))))))
/-! _law_some_edge -/
abbrev s_law_some_edge : Stmt := top 37
theorem sc_law_some_edge : FnScope ["box", "nodes", "way"] ["box", "nodes"] (defScope s_law_some_edge) := ⟨rfl, rfl, rfl, by decide +kernel, rfl, by decide +kernel, by decide +kernel⟩
def B_law_some_edge : Ss :=
  (sSeq (sSet 2 (cCall F_law_take [] (cCons (cVar 0) (cCons (cK (.int 3)) cNil))))
  (sSeq (sIf (cTv (cBin oEq (cVar 2) (cK (.int 0)))) (sRet (cBin oSub (cBin oSub (cBin oMul (cK (.int 2)) (cVar 1)) (cK (.int 1))) (cCall F_law_take [] (cCons (cVar 0) (cCons (cB fMin2 (cCons (cBin oMul (cK (.int 2)) (cVar 1)) (cCons (cK (.int 6)) cNil))) cNil)))))
  sNil)
  (sRet (cCall F_law_take [] (cCons (cVar 0) (cCons (cBin oMul (cK (.int 2)) (cVar 1)) cNil))))))
def F_law_some_edge : FnT := fnOf 3 2 B_law_some_edge
theorem ok_law_some_edge {P : Program} {w : World} {K : PySem.W.Frag} {T : List (Addr × Str)} {mg : Str → Option Value} {base : Heap} {f : Addr} {fd : FuncData} {kws : List (Str × V)} (F : FnP K "_law_some_edge" s_law_some_edge kws f fd)
    (m_min : mg "min" = none)
    (C_law_take : CallOk P w K mg base (cfT K T) "_law_take" 1 F_law_take []) :
    FnOk P w K mg base (L2N.CX P w) 2 f fd ["box", "nodes"] (spOf (cfT K T) F_law_some_edge) :=
  fn_ok (k := 1) F sc_law_some_edge fun cdv A outer s H E hr =>
  (ss_cons (s_set (i := 2) sc_law_some_edge.nd rfl (by first | exact Or.inl rfl | exact Or.inr rfl) (e_callC C_law_take hr (by decide) (by rfl) (L2N.takes_of rfl rfl rfl rfl) (a_cons (e_var (pv 0)) (a_cons (e_int pe_int) a_nil))))
  (ss_cons (s_if (t_eq rfl hr.units (e_var (pv 2)) (e_int pe_int)) (ss_one (s_ret (b_sub (b_sub (b_mul (e_int pe_int) (e_var (pv 1))) (e_int pe_int)) (e_callC C_law_take hr (by decide) (by rfl) (L2N.takes_of rfl rfl rfl rfl) (a_cons (e_var (pv 0)) (a_cons (e_cb (call_min2 rfl) fMin2_ok (by rfl) m_min (by decide +kernel) (a_cons (b_mul (e_int pe_int) (e_var (pv 1))) (a_cons (e_int pe_int) a_nil))) a_nil))))))
  ss_nil)
  (ss_one (s_ret (e_callC C_law_take hr (by decide) (by rfl) (L2N.takes_of rfl rfl rfl rfl) (a_cons (e_var (pv 0)) (a_cons (b_mul (e_int pe_int) (e_var (pv 1))) a_nil)))))))
/-! _law_ends -/
abbrev s_law_ends : Stmt := top 38
theorem sc_law_ends : FnScope ["box", "names", "latches", "nodes", "top", "outs", "called", "one"] ["box", "names", "latches", "nodes", "top"] (defScope s_law_ends) := ⟨rfl, rfl, rfl, by decide +kernel, rfl, by decide +kernel, by decide +kernel⟩
def B_law_ends : Ss :=
  (sSeq (sSet 5 (cLc false (iSeqD (cSl false (cVar 1) cNoPart (cPart (cCall F_law_take [] (cCons (cVar 0) (cCons (cBin (oAdd false) (cVar 4) (cK (.int 1))) cNil)))))) (fName 6) cYes (cTup (cCons (cVar 6) (cCons (cCall F_law_some_edge [] (cCons (cVar 0) (cCons (cVar 3) cNil))) cNil))) [6]))
  (sRet (cTup (cCons (cVar 5) (cCons (cLc false (iSeqD (cVar 2)) (fName 7) cYes (cCall F_law_some_edge [] (cCons (cVar 0) (cCons (cVar 3) cNil))) [7]) cNil)))))
def F_law_ends : FnT := fnOf 8 5 B_law_ends
theorem ok_law_ends {P : Program} {w : World} {K : PySem.W.Frag} {T : List (Addr × Str)} {mg : Str → Option Value} {base : Heap} {f : Addr} {fd : FuncData} {kws : List (Str × V)} (F : FnP K "_law_ends" s_law_ends kws f fd)
    (C_law_take : CallOk P w K mg base (cfT K T) "_law_take" 1 F_law_take [])
    (C_law_some_edge : CallOk P w K mg base (cfT K T) "_law_some_edge" 2 F_law_some_edge []) :
    FnOk P w K mg base (L2N.CX P w) 3 f fd ["box", "names", "latches", "nodes", "top"] (spOf (cfT K T) F_law_ends) :=
  fn_ok (k := 2) F sc_law_ends fun cdv A outer s H E hr =>
  (ss_cons (s_setLc (m := false) (own := [("called", 6)]) (gt := (gName 6)) (i := 5) rfl sc_law_ends.nd rfl rfl (sw_true rfl rfl rfl (by decide +kernel)) (i_seq rfl (e_slice (m := false) rfl (e_var (pv 1)) p_none (p_some (e_callC C_law_take hr (by decide) (by rfl) (L2N.takes_of rfl rfl rfl rfl) (a_cons (e_var (pv 0)) (a_cons (b_add (m := false) (e_var (pv 4)) (e_int pe_int)) a_nil)))))) (blkOk_by (by show blkC ["box", "names", "latches", "nodes", "top", "outs", "called", "one"] (defScope s_law_ends) _ _ = true; decide +kernel)) (fun _ _ _ _ _ => pg_name (i := 6) sc_law_ends.nd rfl (by first | exact Or.inl rfl | exact Or.inr rfl)) (tg_name (by decide)) (fun _ _ _ _ _ => ts_nil) (fun _ _ _ _ _ => (e_tup (a_cons (e_var (pv 6)) (a_cons (e_callC C_law_some_edge hr (by decide) (by rfl) no_tk (a_cons (e_var (pv 0)) (a_cons (e_var (pv 3)) a_nil))) a_nil)))))
  (ss_one (s_ret (e_tup (a_cons (e_var (pv 5)) (a_cons (e_lc (m := false) (own := [("one", 7)]) (gt := (gName 7)) rfl sc_law_ends.nd (i_seq rfl (e_var (pv 2))) (blkOk_by (by show blkC ["box", "names", "latches", "nodes", "top", "outs", "called", "one"] (defScope s_law_ends) _ _ = true; decide +kernel)) (fun _ _ _ _ _ => pg_name (i := 7) sc_law_ends.nd rfl (by first | exact Or.inl rfl | exact Or.inr rfl)) (tg_name (by decide)) (fun _ _ _ _ _ => ts_nil) (fun _ _ _ _ _ => (e_callC C_law_some_edge hr (by decide) (by rfl) no_tk (a_cons (e_var (pv 0)) (a_cons (e_var (pv 3)) a_nil))))) a_nil))))))
/-! _law_net -/
abbrev s_law_net : Stmt := top 40
theorem sc_law_net : FnScope ["box", "ins", "mem", "top", "ends", "names", "some", "latches", "nodes", "gates", "k", "one", "other", "outs", "nexts"] ["box", "ins", "mem", "top", "ends"] (defScope s_law_net) := ⟨rfl, rfl, rfl, by decide +kernel, rfl, by decide +kernel, by decide +kernel⟩
def B_law_net : Ss :=
  (sSeq (sAsg (cCall F_law_frame [] (cCons (cVar 0) (cCons (cVar 1) (cCons (cVar 2) cNil)))) (gtTup 3 (gtCons (gtName 5) (gtCons (gtName 6) (gtCons (gtName 7) gtNil)))))
  (sSeq (sSet 8 (cBin (oAdd false) (cBin (oAdd false) (cK (.int 1)) (cB fLen (cCons (cVar 6) cNil))) (cB fLen (cCons (cVar 7) cNil))))
  (sSeq (sSet 9 (cLst true cNil))
  (sSeq (sFor (iRange1 (cCons (cCall F_law_take [] (cCons (cVar 0) (cCons (cBin (oAdd false) (cVar 3) (cK (.int 1))) cNil))) cNil)) (gtName 10) (sSeq (sPar 11 12 (cCons (cCall F_law_some_edge [] (cCons (cVar 0) (cCons (cBin (oAdd false) (cVar 8) (cVar 10)) cNil))) (cCons (cCall F_law_some_edge [] (cCons (cVar 0) (cCons (cBin (oAdd false) (cVar 8) (cVar 10)) cNil))) cNil)))
  (sExpr (cMt "list" mAppend (cVar 9) (cCons (cTup (cCons (cB fMin2 (cCons (cVar 11) (cCons (cVar 12) cNil))) (cCons (cB fMax2 (cCons (cVar 11) (cCons (cVar 12) cNil))) cNil))) cNil)))))
  (sSeq (sFrz 9 (sAsg (cCall F_law_ends [] (cCons (cVar 0) (cCons (cRev false (cVar 5)) (cCons (cVar 7) (cCons (cBin (oAdd false) (cVar 8) (cB fLen (cCons (cVar 9) cNil))) (cCons (cVar 4) cNil)))))) (gtTup 2 (gtCons (gtName 13) (gtCons (gtName 14) gtNil)))))
  (sRet (cLst false (cCons (cVar 6) (cCons (cVar 7) (cCons (cVar 9) (cCons (cVar 13) (cCons (cVar 14) cNil))))))))))))
def F_law_net : FnT := fnOf 15 5 B_law_net
theorem ok_law_net {P : Program} {w : World} {K : PySem.W.Frag} {T : List (Addr × Str)} {mg : Str → Option Value} {base : Heap} {f : Addr} {fd : FuncData} {kws : List (Str × V)} (F : FnP K "_law_net" s_law_net kws f fd)
    (m_len : mg "len" = none)
    (m_range : mg "range" = none)
    (m_min : mg "min" = none)
    (m_max : mg "max" = none)
    (C_law_frame : CallOk P w K mg base (cfT K T) "_law_frame" 3 F_law_frame [])
    (C_law_take : CallOk P w K mg base (cfT K T) "_law_take" 1 F_law_take [])
    (C_law_some_edge : CallOk P w K mg base (cfT K T) "_law_some_edge" 2 F_law_some_edge [])
    (C_law_ends : CallOk P w K mg base (cfT K T) "_law_ends" 3 F_law_ends []) :
    FnOk P w K mg base (L2N.CX P w) 4 f fd ["box", "ins", "mem", "top", "ends"] (spOf (cfT K T) F_law_net) :=
  fn_ok (k := 3) F sc_law_net fun cdv A outer s H E hr =>
  (ss_cons (s_asg (e_callC C_law_frame hr (by decide) (by rfl) (L2N.takes_of rfl rfl rfl rfl) (a_cons (e_var (pv 0)) (a_cons (e_var (pv 1)) (a_cons (e_var (pv 2)) a_nil)))) (g_tup rfl rfl (gs_cons (g_name (pg_name (i := 5) sc_law_net.nd rfl (by first | exact Or.inl rfl | exact Or.inr rfl))) (gs_cons (g_name (pg_name (i := 6) sc_law_net.nd rfl (by first | exact Or.inl rfl | exact Or.inr rfl))) (gs_cons (g_name (pg_name (i := 7) sc_law_net.nd rfl (by first | exact Or.inl rfl | exact Or.inr rfl))) gs_nil)))))
  (ss_cons (s_set (i := 8) sc_law_net.nd rfl (by first | exact Or.inl rfl | exact Or.inr rfl) (b_add (m := false) (b_add (m := false) (e_int pe_int) (e_cb rLen_ok fLen_ok (by rfl) m_len (by decide +kernel) (a_cons (e_var (pv 6)) a_nil))) (e_cb rLen_ok fLen_ok (by rfl) m_len (by decide +kernel) (a_cons (e_var (pv 7)) a_nil))))
  (ss_cons (s_set (i := 9) sc_law_net.nd rfl (by first | exact Or.inl rfl | exact Or.inr rfl) (e_lst (m := true) a_nil))
  (ss_cons (s_for (passes_of rfl) rfl (i_range1 (by rfl) m_range (a_cons (e_callC C_law_take hr (by decide) (by rfl) (L2N.takes_of rfl rfl rfl rfl) (a_cons (e_var (pv 0)) (a_cons (b_add (m := false) (e_var (pv 3)) (e_int pe_int)) a_nil))) a_nil)) (g_name (pg_name (i := 10) sc_law_net.nd rfl (by first | exact Or.inl rfl | exact Or.inr rfl))) (ss_cons (s_par (ps_par (i := 11) (j := 12) rfl sc_law_net.nd rfl rfl (by decide) rfl rfl (a_cons (e_callC C_law_some_edge hr (by decide) (by rfl) (L2N.takes_of rfl rfl rfl rfl) (a_cons (e_var (pv 0)) (a_cons (b_add (m := false) (e_var (pv 8)) (e_var (pv 10))) a_nil))) (a_cons (e_callC C_law_some_edge hr (by decide) (by rfl) (L2N.takes_of rfl rfl rfl rfl) (a_cons (e_var (pv 0)) (a_cons (b_add (m := false) (e_var (pv 8)) (e_var (pv 10))) a_nil))) a_nil)) (by rfl)))
  (ss_one (s_expr (e_m rfl (by decide) PySem.F.plainAttrs_list PySem.F.slot_list_append PySem.F.type_list_append mt_append mAppend_ok (e_var (pv 9)) (a_cons (e_tup (a_cons (e_cb (call_min2 rfl) fMin2_ok (by rfl) m_min (by decide +kernel) (a_cons (e_var (pv 11)) (a_cons (e_var (pv 12)) a_nil))) (a_cons (e_cb (call_max2 rfl) fMax2_ok (by rfl) m_max (by decide +kernel) (a_cons (e_var (pv 11)) (a_cons (e_var (pv 12)) a_nil))) a_nil))) a_nil))))))
  (ss_cons (s_frz 9 (s_asg (e_callC C_law_ends hr (by decide) (by rfl) (L2N.takes_of rfl rfl rfl rfl) (a_cons (e_var (pv 0)) (a_cons (e_rev (m := false) rfl (e_var (pv 5))) (a_cons (e_var (pv 7)) (a_cons (b_add (m := false) (e_var (pv 8)) (e_cb rLen_ok fLen_ok (by rfl) m_len (by decide +kernel) (a_cons (e_var (pv 9)) a_nil))) (a_cons (e_var (pv 4)) a_nil)))))) (g_tup rfl rfl (gs_cons (g_name (pg_name (i := 13) sc_law_net.nd rfl (by first | exact Or.inl rfl | exact Or.inr rfl))) (gs_cons (g_name (pg_name (i := 14) sc_law_net.nd rfl (by first | exact Or.inl rfl | exact Or.inr rfl))) gs_nil)))))
  (ss_one (s_ret (e_lst (m := false) (a_cons (e_var (pv 6)) (a_cons (e_var (pv 7)) (a_cons (e_var (pv 9)) (a_cons (e_var (pv 13)) (a_cons (e_var (pv 14)) a_nil)))))))))))))
/-! is_name -/
abbrev s_is_name : Stmt := top 19
theorem sc_is_name : FnScope ["text", "sign"] ["text"] (defScope s_is_name) := ⟨rfl, rfl, rfl, by decide +kernel, rfl, by decide +kernel, by decide +kernel⟩
def B_is_name : Ss :=
  (sRet (cAnd (cChain oLt oLe (cK (.int 0)) (cB fLen (cCons (cVar 0) cNil)) (cK (.int 8))) (cB fAll (cCons (cLc false (iSeqD (cVar 0)) (fName 1) cYes (cBin oIn (cVar 1) (cK (.str (PySem.Str.ofString "abcdefghijklmnopqrstuvwxyz")))) [1]) cNil))))
def F_is_name : FnT := fnOf 2 1 B_is_name
theorem ok_is_name {P : Program} {w : World} {K : PySem.W.Frag} {T : List (Addr × Str)} {mg : Str → Option Value} {base : Heap} {f : Addr} {fd : FuncData} {kws : List (Str × V)} (F : FnP K "is_name" s_is_name kws f fd)
    (m_len : mg "len" = none)
    (m_all : mg "all" = none)
    (g_LONGEST : ∃ t, mg "LONGEST" = some (.int 8 t))
    (g_LETTERS : ∃ t, mg "LETTERS" = some (.str (PySem.Str.ofString "abcdefghijklmnopqrstuvwxyz") t)) :
    FnOk P w K mg base (L2N.CX P w) 1 f fd ["text"] (spOf (cfT K T) F_is_name) :=
  fn_ok (k := 0) F sc_is_name fun cdv A outer s H E hr =>
  (ss_one (s_ret (e_and (e_lt_le (e_int pe_int) (e_cb rLen_ok fLen_ok (by rfl) m_len (by decide +kernel) (a_cons (e_var (pv 0)) a_nil)) (e_int (pe_glob (by rfl) g_LONGEST.choose_spec ⟨_, rfl⟩))) (e_one (e_cb (cr_all rfl) fAll_ok (by rfl) m_all (by decide +kernel) (a_cons (e_lc (m := false) (own := [("sign", 1)]) (gt := (gName 1)) rfl sc_is_name.nd (i_seq rfl (e_var (pv 0))) (blkOk_by (by show blkC ["text", "sign"] (defScope s_is_name) _ _ = true; decide +kernel)) (fun _ _ _ _ _ => pg_name (i := 1) sc_is_name.nd rfl (by first | exact Or.inl rfl | exact Or.inr rfl)) (tg_name (by decide)) (fun _ _ _ _ _ => ts_nil) (fun _ _ _ _ _ => (e_in rfl (e_var (pv 1)) (e_str (pe_glob (by rfl) g_LETTERS.choose_spec ⟨_, rfl⟩))))) a_nil))))))
/-! need_name -/
abbrev s_need_name : Stmt := top 20
theorem sc_need_name : FnScope ["text"] ["text"] (defScope s_need_name) := ⟨rfl, rfl, rfl, by decide +kernel, rfl, by decide +kernel, by decide +kernel⟩
def B_need_name : Ss :=
  (sIf (cTnot (cTv (cCall F_is_name [] (cCons (cVar 0) cNil)))) sNo
  sNil)
def F_need_name : FnT := fnOf 1 1 B_need_name
theorem ok_need_name {P : Program} {w : World} {K : PySem.W.Frag} {T : List (Addr × Str)} {mg : Str → Option Value} {base : Heap} {f : Addr} {fd : FuncData} {kws : List (Str × V)} (F : FnP K "need_name" s_need_name kws f fd)
    (C_is_name : CallOk P w K mg base (cfT K T) "is_name" 1 F_is_name []) :
    FnOk P w K mg base (L2N.CX P w) 2 f fd ["text"] (spOf (cfT K T) F_need_name) :=
  fn_ok (k := 1) F sc_need_name fun cdv A outer s H E hr =>
  (ss_one (s_if (t_not (t_val (e_callC C_is_name hr (by decide) (by rfl) (L2N.takes_of rfl rfl rfl rfl) (a_cons (e_var (pv 0)) a_nil)))) (ss_one s_no)
  ss_nil))
/-! need_names -/
abbrev s_need_names : Stmt := top 21
theorem sc_need_names : FnScope ["names", "outs", "name"] ["names", "outs"] (defScope s_need_names) := ⟨rfl, rfl, rfl, by decide +kernel, rfl, by decide +kernel, by decide +kernel⟩
def B_need_names : Ss :=
  (sSeq (sFor (iSeqD (cBin (oAdd false) (cVar 0) (cVar 1))) (gtName 2) (sExpr (cCall F_need_name [] (cCons (cVar 2) cNil))))
  (sIf (cTor (cTv (cBin oLt (cLenSet (cVar 0)) (cB fLen (cCons (cVar 0) cNil)))) (cTv (cBin oLt (cLenSet (cVar 1)) (cB fLen (cCons (cVar 1) cNil))))) sNo
  sNil))
def F_need_names : FnT := fnOf 3 2 B_need_names
theorem ok_need_names {P : Program} {w : World} {K : PySem.W.Frag} {T : List (Addr × Str)} {mg : Str → Option Value} {base : Heap} {f : Addr} {fd : FuncData} {kws : List (Str × V)} (F : FnP K "need_names" s_need_names kws f fd)
    (m_len : mg "len" = none)
    (m_set : mg "set" = none)
    (C_need_name : CallOk P w K mg base (cfT K T) "need_name" 2 F_need_name []) :
    FnOk P w K mg base (L2N.CX P w) 3 f fd ["names", "outs"] (spOf (cfT K T) F_need_names) :=
  fn_ok (k := 2) F sc_need_names fun cdv A outer s H E hr =>
  (ss_cons (s_for (passes_of rfl) rfl (i_seq rfl (b_add (m := false) (e_var (pv 0)) (e_var (pv 1)))) (g_name (pg_name (i := 2) sc_need_names.nd rfl (by first | exact Or.inl rfl | exact Or.inr rfl))) (ss_one (s_expr (e_callC C_need_name hr (by decide) (by rfl) (L2N.takes_of rfl rfl rfl rfl) (a_cons (e_var (pv 2)) a_nil)))))
  (ss_one (s_if (PW.pt (w_or (t_lt (e_lenSet rfl rfl (by rfl) m_len (by rfl) m_set (e_var (pv 0))) (e_cb rLen_ok fLen_ok (by rfl) m_len (by decide +kernel) (a_cons (e_var (pv 0)) a_nil))) (w_or1 (t_lt (e_lenSet rfl rfl (by rfl) m_len (by rfl) m_set (e_var (pv 1))) (e_cb rLen_ok fLen_ok (by rfl) m_len (by decide +kernel) (a_cons (e_var (pv 1)) a_nil)))))) (ss_one s_no)
  ss_nil)))
/-! Net.__init__ -/
abbrev s_Net___init__ : Stmt := methAt (top 22) 0
theorem sc_Net___init__ : FnScope ["self", "inputs", "latches", "gates", "outs", "nexts", "sizes", "first", "at", "low", "high", "most", "told", "begun", "edge", "name", "some"] ["self", "inputs", "latches", "gates", "outs", "nexts"] (defScope s_Net___init__) := ⟨rfl, rfl, rfl, by decide +kernel, rfl, by decide +kernel, by decide +kernel⟩
def B_Net___init__ : Ss :=
  (sSeq (sExpr (cCall F_need_names [] (cCons (cBin (oAdd false) (cB (fList false) (cCons (cVar 1) cNil)) (cLc false (iSeqD (cVar 2)) (fTup [15, 13]) cYes (cVar 15) [15, 13])) (cCons (cLc false (iSeqD (cVar 4)) (fTup [15, 14]) cYes (cVar 15) [15, 14]) cNil))))
  (sSeq (sSet 6 (cLst false (cCons (cTup (cCons (cVar 1) (cCons (cK (.int 6)) cNil))) (cCons (cTup (cCons (cVar 2) (cCons (cK (.int 4)) cNil))) (cCons (cTup (cCons (cVar 3) (cCons (cK (.int 60)) cNil))) (cCons (cTup (cCons (cVar 4) (cCons (cK (.int 8)) cNil))) cNil))))))
  (sSeq (sIf (cTv (cB fAny (cCons (cLc false (iSeqD (cVar 6)) (fTup [16, 11]) cYes (cBin oGt (cB fLen (cCons (cVar 16) cNil)) (cVar 11)) [16, 11]) cNil))) sNo
  sNil)
  (sSeq (sIf (cTv (cB fAny (cCons (cLc false (iSeqD (cVar 2)) (fTup [15, 13]) cYes (cBin oNotIn (cVar 13) (cTup (cCons (cK (.int 0)) (cCons (cK (.int 1)) cNil)))) [15, 13]) cNil))) sNo
  sNil)
  (sSeq (sFldD "Net" "ins" (cB (fList false) (cCons (cVar 1) cNil)) (cVar 0))
  (sSeq (sFldD "Net" "memory" (cB (fList false) (cCons (cVar 2) cNil)) (cVar 0))
  (sSeq (sFldD "Net" "pairs" (cB (fList false) (cCons (cVar 3) cNil)) (cVar 0))
  (sSeq (sFldD "Net" "tells" (cB (fList false) (cCons (cVar 4) cNil)) (cVar 0))
  (sSeq (sFldD "Net" "later" (cB (fList false) (cCons (cVar 5) cNil)) (cVar 0))
  (sSeq (sSet 7 (cBin (oAdd false) (cBin (oAdd false) (cK (.int 1)) (cB fLen (cCons (cFld "Net" "ins" (cVar 0)) cNil))) (cB fLen (cCons (cFld "Net" "memory" (cVar 0)) cNil))))
  (sSeq (sFor (iEnumD (cCons (cFld "Net" "pairs" (cVar 0)) cNil)) (gtTup 2 (gtCons (gtName 8) (gtCons (gtTup 2 (gtCons (gtName 9) (gtCons (gtName 10) gtNil))) gtNil))) (sIf (cTnot (cTv (cChain3 oLe oLe oLt (cK (.int 0)) (cVar 9) (cVar 10) (cBin oMul (cK (.int 2)) (cBin (oAdd false) (cVar 7) (cVar 8)))))) sNo
  sNil))
  (sSeq (sSet 11 (cBin oMul (cK (.int 2)) (cBin (oAdd false) (cVar 7) (cB fLen (cCons (cFld "Net" "pairs" (cVar 0)) cNil)))))
  (sSeq (sSet 12 (cBin (oAdd false) (cLc false (iSeqD (cFld "Net" "tells" (cVar 0))) (fTup [15, 14]) cYes (cVar 14) [15, 14]) (cFld "Net" "later" (cVar 0))))
  (sIf (cTor (cTv (cBin oNe (cB fLen (cCons (cFld "Net" "later" (cVar 0)) cNil)) (cB fLen (cCons (cFld "Net" "memory" (cVar 0)) cNil)))) (cTnot (cTv (cB fAll (cCons (cLc false (iSeqD (cVar 12)) (fName 14) cYes (cChain oLe oLt (cK (.int 0)) (cVar 14) (cVar 11)) [14]) cNil))))) sNo
  sNil))))))))))))))
def F_Net___init__ : FnT := fnOf 17 6 B_Net___init__
theorem ok_Net___init__ {P : Program} {w : World} {K : PySem.W.Frag} {T : List (Addr × Str)} {mg : Str → Option Value} {base : Heap} {f : Addr} {fd : FuncData} {dvs : List V} {kws : List (Str × V)} (F : FunD K "__init__" "Net.__init__" (defArgs s_Net___init__) (defBody s_Net___init__) (defScope s_Net___init__) dvs kws f fd)
    (m_list : mg "list" = none)
    (m_len : mg "len" = none)
    (m_any : mg "any" = none)
    (m_enumerate : mg "enumerate" = none)
    (m_all : mg "all" = none)
    (g_MOST_INPUTS : ∃ t, mg "MOST_INPUTS" = some (.int 6 t))
    (g_MOST_LATCHES : ∃ t, mg "MOST_LATCHES" = some (.int 4 t))
    (g_MOST_GATES : ∃ t, mg "MOST_GATES" = some (.int 60 t))
    (g_MOST_OUTS : ∃ t, mg "MOST_OUTS" = some (.int 8 t))
    (C_need_names : CallOk P w K mg base (cfT K T) "need_names" 3 F_need_names [])
    (CC_Net : Cls K (He.ga K "Net"))
    (NA_Net_ins : NoAttr K (He.ga K "Net") "ins")
    (NA_Net_memory : NoAttr K (He.ga K "Net") "memory")
    (NA_Net_pairs : NoAttr K (He.ga K "Net") "pairs")
    (NA_Net_tells : NoAttr K (He.ga K "Net") "tells")
    (NA_Net_later : NoAttr K (He.ga K "Net") "later") :
    FnOk P w K mg base (L2N.CX P w) 4 f fd ["self", "inputs", "latches", "gates", "outs", "nexts"] (spOf (cfT K T) F_Net___init__) :=
  fn_ok (k := 3) F sc_Net___init__ fun cdv A outer s H E hr =>
  (ss_cons (s_expr (e_callC C_need_names hr (by decide) (by rfl) (L2N.takes_of rfl rfl rfl rfl) (a_cons (b_add (m := false) (e_ct call_list_of (fList_ok (m := false)) (by rfl) m_list (by decide +kernel) (a_cons (e_var (pv 1)) a_nil)) (e_lc (m := false) (own := [("name", 15), ("begun", 13)]) (gt := (gTup K 2 (gNs [15, 13]))) rfl sc_Net___init__.nd (i_seq rfl (e_var (pv 2))) (blkOk_by (by show blkC ["self", "inputs", "latches", "gates", "outs", "nexts", "sizes", "first", "at", "low", "high", "most", "told", "begun", "edge", "name", "some"] (defScope s_Net___init__) _ _ = true; decide +kernel)) (fun _ _ _ _ _ => pg_tup rfl (pgs_cons (pg_name (i := 15) sc_Net___init__.nd rfl (by first | exact Or.inl rfl | exact Or.inr rfl)) (pgs_cons (pg_name (i := 13) sc_Net___init__.nd rfl (by first | exact Or.inl rfl | exact Or.inr rfl)) pgs_nil))) (tg_tup (vs := [15, 13]) (is := [15, 13]) (by decide)) (fun _ _ _ _ _ => ts_nil) (fun _ _ _ _ _ => (e_var (pv 15))))) (a_cons (e_lc (m := false) (own := [("name", 15), ("edge", 14)]) (gt := (gTup K 2 (gNs [15, 14]))) rfl sc_Net___init__.nd (i_seq rfl (e_var (pv 4))) (blkOk_by (by show blkC ["self", "inputs", "latches", "gates", "outs", "nexts", "sizes", "first", "at", "low", "high", "most", "told", "begun", "edge", "name", "some"] (defScope s_Net___init__) _ _ = true; decide +kernel)) (fun _ _ _ _ _ => pg_tup rfl (pgs_cons (pg_name (i := 15) sc_Net___init__.nd rfl (by first | exact Or.inl rfl | exact Or.inr rfl)) (pgs_cons (pg_name (i := 14) sc_Net___init__.nd rfl (by first | exact Or.inl rfl | exact Or.inr rfl)) pgs_nil))) (tg_tup (vs := [15, 14]) (is := [15, 14]) (by decide)) (fun _ _ _ _ _ => ts_nil) (fun _ _ _ _ _ => (e_var (pv 15)))) a_nil))))
  (ss_cons (s_set (i := 6) sc_Net___init__.nd rfl (by first | exact Or.inl rfl | exact Or.inr rfl) (e_lst (m := false) (a_cons (e_tup (a_cons (e_var (pv 1)) (a_cons (e_int (pe_glob (by rfl) g_MOST_INPUTS.choose_spec ⟨_, rfl⟩)) a_nil))) (a_cons (e_tup (a_cons (e_var (pv 2)) (a_cons (e_int (pe_glob (by rfl) g_MOST_LATCHES.choose_spec ⟨_, rfl⟩)) a_nil))) (a_cons (e_tup (a_cons (e_var (pv 3)) (a_cons (e_int (pe_glob (by rfl) g_MOST_GATES.choose_spec ⟨_, rfl⟩)) a_nil))) (a_cons (e_tup (a_cons (e_var (pv 4)) (a_cons (e_int (pe_glob (by rfl) g_MOST_OUTS.choose_spec ⟨_, rfl⟩)) a_nil))) a_nil))))))
  (ss_cons (s_if (t_val (e_cb (cr_any rfl) fAny_ok (by rfl) m_any (by decide +kernel) (a_cons (e_lc (m := false) (own := [("some", 16), ("most", 11)]) (gt := (gTup K 2 (gNs [16, 11]))) rfl sc_Net___init__.nd (i_seq rfl (e_var (pv 6))) (blkOk_by (by show blkC ["self", "inputs", "latches", "gates", "outs", "nexts", "sizes", "first", "at", "low", "high", "most", "told", "begun", "edge", "name", "some"] (defScope s_Net___init__) _ _ = true; decide +kernel)) (fun _ _ _ _ _ => pg_tup rfl (pgs_cons (pg_name (i := 16) sc_Net___init__.nd rfl (by first | exact Or.inl rfl | exact Or.inr rfl)) (pgs_cons (pg_name (i := 11) sc_Net___init__.nd rfl (by first | exact Or.inl rfl | exact Or.inr rfl)) pgs_nil))) (tg_tup (vs := [16, 11]) (is := [16, 11]) (by decide)) (fun _ _ _ _ _ => ts_nil) (fun _ _ _ _ _ => (e_gt (e_cb rLen_ok fLen_ok (by rfl) m_len (by decide +kernel) (a_cons (e_var (pv 16)) a_nil)) (e_var (pv 11))))) a_nil))) (ss_one s_no)
  ss_nil)
  (ss_cons (s_if (t_val (e_cb (cr_any rfl) fAny_ok (by rfl) m_any (by decide +kernel) (a_cons (e_lc (m := false) (own := [("name", 15), ("begun", 13)]) (gt := (gTup K 2 (gNs [15, 13]))) rfl sc_Net___init__.nd (i_seq rfl (e_var (pv 2))) (blkOk_by (by show blkC ["self", "inputs", "latches", "gates", "outs", "nexts", "sizes", "first", "at", "low", "high", "most", "told", "begun", "edge", "name", "some"] (defScope s_Net___init__) _ _ = true; decide +kernel)) (fun _ _ _ _ _ => pg_tup rfl (pgs_cons (pg_name (i := 15) sc_Net___init__.nd rfl (by first | exact Or.inl rfl | exact Or.inr rfl)) (pgs_cons (pg_name (i := 13) sc_Net___init__.nd rfl (by first | exact Or.inl rfl | exact Or.inr rfl)) pgs_nil))) (tg_tup (vs := [15, 13]) (is := [15, 13]) (by decide)) (fun _ _ _ _ _ => ts_nil) (fun _ _ _ _ _ => (e_notIn rfl (e_var (pv 13)) (e_tup (a_cons (e_int pe_int) (a_cons (e_int pe_int) a_nil)))))) a_nil))) (ss_one s_no)
  ss_nil)
  (ss_cons (s_fld (n := "Net") rfl rfl CC_Net NA_Net_ins (e_var (pv 0)) (e_ct call_list_of (fList_ok (m := false)) (by rfl) m_list (by decide +kernel) (a_cons (e_var (pv 1)) a_nil)))
  (ss_cons (s_fld (n := "Net") rfl rfl CC_Net NA_Net_memory (e_var (pv 0)) (e_ct call_list_of (fList_ok (m := false)) (by rfl) m_list (by decide +kernel) (a_cons (e_var (pv 2)) a_nil)))
  (ss_cons (s_fld (n := "Net") rfl rfl CC_Net NA_Net_pairs (e_var (pv 0)) (e_ct call_list_of (fList_ok (m := false)) (by rfl) m_list (by decide +kernel) (a_cons (e_var (pv 3)) a_nil)))
  (ss_cons (s_fld (n := "Net") rfl rfl CC_Net NA_Net_tells (e_var (pv 0)) (e_ct call_list_of (fList_ok (m := false)) (by rfl) m_list (by decide +kernel) (a_cons (e_var (pv 4)) a_nil)))
  (ss_cons (s_fld (n := "Net") rfl rfl CC_Net NA_Net_later (e_var (pv 0)) (e_ct call_list_of (fList_ok (m := false)) (by rfl) m_list (by decide +kernel) (a_cons (e_var (pv 5)) a_nil)))
  (ss_cons (s_set (i := 7) sc_Net___init__.nd rfl (by first | exact Or.inl rfl | exact Or.inr rfl) (b_add (m := false) (b_add (m := false) (e_int pe_int) (e_cb rLen_ok fLen_ok (by rfl) m_len (by decide +kernel) (a_cons (e_fld (n := "Net") rfl rfl CC_Net NA_Net_ins (e_var (pv 0))) a_nil))) (e_cb rLen_ok fLen_ok (by rfl) m_len (by decide +kernel) (a_cons (e_fld (n := "Net") rfl rfl CC_Net NA_Net_memory (e_var (pv 0))) a_nil))))
  (ss_cons (s_for (passes_of rfl) rfl (i_enum rfl (by rfl) m_enumerate (a_cons (e_fld (n := "Net") rfl rfl CC_Net NA_Net_pairs (e_var (pv 0))) a_nil)) (g_tup rfl rfl (gs_cons (g_name (pg_name (i := 8) sc_Net___init__.nd rfl (by first | exact Or.inl rfl | exact Or.inr rfl))) (gs_cons (g_tup rfl rfl (gs_cons (g_name (pg_name (i := 9) sc_Net___init__.nd rfl (by first | exact Or.inl rfl | exact Or.inr rfl))) (gs_cons (g_name (pg_name (i := 10) sc_Net___init__.nd rfl (by first | exact Or.inl rfl | exact Or.inr rfl))) gs_nil))) gs_nil))) (ss_one (s_if (t_not (t_le_le_lt (e_int pe_int) (e_var (pv 9)) (e_var (pv 10)) (b_mul (e_int pe_int) (b_add (m := false) (e_var (pv 7)) (e_var (pv 8)))))) (ss_one s_no)
  ss_nil)))
  (ss_cons (s_set (i := 11) sc_Net___init__.nd rfl (by first | exact Or.inl rfl | exact Or.inr rfl) (b_mul (e_int pe_int) (b_add (m := false) (e_var (pv 7)) (e_cb rLen_ok fLen_ok (by rfl) m_len (by decide +kernel) (a_cons (e_fld (n := "Net") rfl rfl CC_Net NA_Net_pairs (e_var (pv 0))) a_nil)))))
  (ss_cons (s_set (i := 12) sc_Net___init__.nd rfl (by first | exact Or.inl rfl | exact Or.inr rfl) (b_add (m := false) (e_lc (m := false) (own := [("name", 15), ("edge", 14)]) (gt := (gTup K 2 (gNs [15, 14]))) rfl sc_Net___init__.nd (i_seq rfl (e_fld (n := "Net") rfl rfl CC_Net NA_Net_tells (e_var (pv 0)))) (blkOk_by (by show blkC ["self", "inputs", "latches", "gates", "outs", "nexts", "sizes", "first", "at", "low", "high", "most", "told", "begun", "edge", "name", "some"] (defScope s_Net___init__) _ _ = true; decide +kernel)) (fun _ _ _ _ _ => pg_tup rfl (pgs_cons (pg_name (i := 15) sc_Net___init__.nd rfl (by first | exact Or.inl rfl | exact Or.inr rfl)) (pgs_cons (pg_name (i := 14) sc_Net___init__.nd rfl (by first | exact Or.inl rfl | exact Or.inr rfl)) pgs_nil))) (tg_tup (vs := [15, 14]) (is := [15, 14]) (by decide)) (fun _ _ _ _ _ => ts_nil) (fun _ _ _ _ _ => (e_var (pv 14)))) (e_fld (n := "Net") rfl rfl CC_Net NA_Net_later (e_var (pv 0)))))
  (ss_one (s_if (PW.pt (w_or (t_ne rfl hr.units (e_cb rLen_ok fLen_ok (by rfl) m_len (by decide +kernel) (a_cons (e_fld (n := "Net") rfl rfl CC_Net NA_Net_later (e_var (pv 0))) a_nil)) (e_cb rLen_ok fLen_ok (by rfl) m_len (by decide +kernel) (a_cons (e_fld (n := "Net") rfl rfl CC_Net NA_Net_memory (e_var (pv 0))) a_nil))) (w_or1 (t_not (t_val (e_cb (cr_all rfl) fAll_ok (by rfl) m_all (by decide +kernel) (a_cons (e_lc (m := false) (own := [("edge", 14)]) (gt := (gName 14)) rfl sc_Net___init__.nd (i_seq rfl (e_var (pv 12))) (blkOk_by (by show blkC ["self", "inputs", "latches", "gates", "outs", "nexts", "sizes", "first", "at", "low", "high", "most", "told", "begun", "edge", "name", "some"] (defScope s_Net___init__) _ _ = true; decide +kernel)) (fun _ _ _ _ _ => pg_name (i := 14) sc_Net___init__.nd rfl (by first | exact Or.inl rfl | exact Or.inr rfl)) (tg_name (by decide)) (fun _ _ _ _ _ => ts_nil) (fun _ _ _ _ _ => (e_le_lt (e_int pe_int) (e_var (pv 14)) (e_var (pv 11))))) a_nil))))))) (ss_one s_no)
  ss_nil)))))))))))))))
/-! _law_made -/
abbrev s_law_made : Stmt := top 36
theorem sc_law_made : FnScope ["m"] ["m"] (defScope s_law_made) := ⟨rfl, rfl, rfl, by decide +kernel, rfl, by decide +kernel, by decide +kernel⟩
def B_law_made : Ss :=
  (sRet (cMake "Net" F_Net___init__ [] (cCons (cB (fList false) (cCons (cBin oIx (cVar 0) (cK (.int 0))) cNil)) (cCons (cB (fList false) (cCons (cBin oIx (cVar 0) (cK (.int 1))) cNil)) (cCons (cB (fList false) (cCons (cBin oIx (cVar 0) (cK (.int 2))) cNil)) (cCons (cB (fList false) (cCons (cBin oIx (cVar 0) (cK (.int 3))) cNil)) (cCons (cB (fList false) (cCons (cBin oIx (cVar 0) (cK (.int 4))) cNil)) cNil)))))))
def F_law_made : FnT := fnOf 1 1 B_law_made
theorem ok_law_made {P : Program} {w : World} {K : PySem.W.Frag} {T : List (Addr × Str)} {mg : Str → Option Value} {base : Heap} {f : Addr} {fd : FuncData} {kws : List (Str × V)} (F : FnP K "_law_made" s_law_made kws f fd)
    (m_list : mg "list" = none)
    (MK_Net : MakeOk P w K mg base (cfT K T) "Net" 4 F_Net___init__ []) :
    FnOk P w K mg base (L2N.CX P w) 6 f fd ["m"] (spOf (cfT K T) F_law_made) :=
  fn_ok (k := 5) F sc_law_made fun cdv A outer s H E hr =>
  (ss_one (s_ret (e_make (j := 5) (E := E) MK_Net hr (by decide) (L2N.passes_call (L2N.takes_of rfl rfl rfl rfl) fun _ _ _ _ h => h) (fun _ _ _ _ h => h) (by rfl) (a_cons (e_ct call_list_of (fList_ok (m := false)) (by rfl) m_list (by decide +kernel) (a_cons (e_item rfl (e_var (pv 0)) (e_int pe_int)) a_nil)) (a_cons (e_ct call_list_of (fList_ok (m := false)) (by rfl) m_list (by decide +kernel) (a_cons (e_item rfl (e_var (pv 0)) (e_int pe_int)) a_nil)) (a_cons (e_ct call_list_of (fList_ok (m := false)) (by rfl) m_list (by decide +kernel) (a_cons (e_item rfl (e_var (pv 0)) (e_int pe_int)) a_nil)) (a_cons (e_ct call_list_of (fList_ok (m := false)) (by rfl) m_list (by decide +kernel) (a_cons (e_item rfl (e_var (pv 0)) (e_int pe_int)) a_nil)) (a_cons (e_ct call_list_of (fList_ok (m := false)) (by rfl) m_list (by decide +kernel) (a_cons (e_item rfl (e_var (pv 0)) (e_int pe_int)) a_nil)) a_nil))))))))
/-! _law_same -/
abbrev s_law_same : Stmt := top 31
theorem sc_law_same : FnScope ["found", "due", "one", "other"] ["found", "due"] (defScope s_law_same) := ⟨rfl, rfl, rfl, by decide +kernel, rfl, by decide +kernel, by decide +kernel⟩
def B_law_same (R : FnT) : Ss :=
  (sSeq (sIf (cTor (cTv (cBin oIsN (cVar 1) (cK .non))) (cTv (cBin oIsN (cVar 0) (cK .non)))) (sRet (cAnd (cBin oIsN (cVar 0) (cK .non)) (cBin oIsN (cVar 1) (cK .non))))
  sNil)
  (sSeq (sIf (cTor (cTv (cIs2 (cVar 1) "list" "tuple")) (cTv (cIs2 (cVar 0) "list" "tuple"))) (sSeq (sIf (cTv (cBin oNe (cB fIsi (cCons (cVar 0) (cCons (cK (.ty "list")) cNil))) (cB fIsi (cCons (cVar 1) (cCons (cK (.ty "list")) cNil))))) (sRet (cK (.bl false)))
  sNil)
  (sSeq (sIf (cTor (cTv (cBin oNe (cB fIsi (cCons (cVar 0) (cCons (cK (.ty "tuple")) cNil))) (cB fIsi (cCons (cVar 1) (cCons (cK (.ty "tuple")) cNil))))) (cTv (cBin oNe (cB fLen (cCons (cVar 0) cNil)) (cB fLen (cCons (cVar 1) cNil))))) (sRet (cK (.bl false)))
  sNil)
  (sRet (cB fAll (cCons (cLc false (iZipAD (cCons (cVar 0) (cCons (cVar 1) cNil))) (fTup [2, 3]) cYes (cCall R [] (cCons (cVar 2) (cCons (cVar 3) cNil))) [2, 3]) cNil)))))
  sNil)
  (sSeq (sIf (cTv (cBin oNe (cB fIsi (cCons (cVar 1) (cCons (cK (.ty "bool")) cNil))) (cB fIsi (cCons (cVar 0) (cCons (cK (.ty "bool")) cNil))))) (sRet (cK (.bl false)))
  sNil)
  (sSeq (sIf (cTv (cBin oNe (cB fIsi (cCons (cVar 1) (cCons (cK (.ty "int")) cNil))) (cB fIsi (cCons (cVar 0) (cCons (cK (.ty "int")) cNil))))) (sRet (cK (.bl false)))
  sNil)
  (sRet (cAnd (cBin oEq (cB fIsi (cCons (cVar 1) (cCons (cK (.ty "str")) cNil))) (cB fIsi (cCons (cVar 0) (cCons (cK (.ty "str")) cNil)))) (cBin oEq (cVar 0) (cVar 1))))))))
def F_law_same : Nat → FnT
  | 0 => fun _ _ => .no
  | n + 1 => fnOf 4 2 (B_law_same (F_law_same n))
theorem ok_law_same {P : Program} {w : World} {K : PySem.W.Frag} {T : List (Addr × Str)} {mg : Str → Option Value} {base : Heap} {f : Addr} {fd : FuncData} {kws : List (Str × V)} (F : FnP K "_law_same" s_law_same kws f fd)
    (m_list : mg "list" = none)
    (m_tuple : mg "tuple" = none)
    (m_isinstance : mg "isinstance" = none)
    (m_len : mg "len" = none)
    (m_zip : mg "zip" = none)
    (m_all : mg "all" = none)
    (m_bool : mg "bool" = none)
    (m_int : mg "int" = none)
    (m_str : mg "str" = none)
    (gl : mg "_law_same" = some (.ref f)) :
    ∀ n : Nat, FnOk P w K mg base (L2N.CX P w) (0 + n) f fd ["found", "due"] (spOf (cfT K T) (F_law_same n))
  | 0 => fnOk_no
  | n + 1 => fn_ok (k := 0 + n) F sc_law_same fun cdv A outer s H E hr =>
    have C_law_same : CallOk P w K mg base (cfT K T) "_law_same" (0 + n) (F_law_same n) [] := callOk_of F gl (ok_law_same F m_list m_tuple m_isinstance m_len m_zip m_all m_bool m_int m_str gl n) fun _ _ _ _ _ _ us hl => match us, hl with | [_, _], _ => rfl
    (ss_cons (s_if (PW.pt (w_or (t_isN (e_var (pv 1)) (e_non pe_non)) (w_or1 (t_isN (e_var (pv 0)) (e_non pe_non))))) (ss_one (s_ret (e_and (e_isN (e_var (pv 0)) (e_non pe_non)) (e_one (e_isN (e_var (pv 1)) (e_non pe_non))))))
  ss_nil)
  (ss_cons (s_if (PW.pt (w_or (t_val (e_is2 rfl (by rfl) m_isinstance (by decide +kernel) (e_var (pv 1)) (pe_bltn (v := .ty "list") (by rfl) m_list (by decide +kernel) rfl) (pe_bltn (v := .ty "tuple") (by rfl) m_tuple (by decide +kernel) rfl))) (w_or1 (t_val (e_is2 rfl (by rfl) m_isinstance (by decide +kernel) (e_var (pv 0)) (pe_bltn (v := .ty "list") (by rfl) m_list (by decide +kernel) rfl) (pe_bltn (v := .ty "tuple") (by rfl) m_tuple (by decide +kernel) rfl)))))) (ss_cons (s_if (t_ne rfl hr.units (e_cb call_isi fIsi_ok (by rfl) m_isinstance (by decide +kernel) (a_cons (e_var (pv 0)) (a_cons (e_bty (by rfl) m_list (by decide +kernel)) a_nil))) (e_cb call_isi fIsi_ok (by rfl) m_isinstance (by decide +kernel) (a_cons (e_var (pv 1)) (a_cons (e_bty (by rfl) m_list (by decide +kernel)) a_nil)))) (ss_one (s_ret (e_bl pe_bl)))
  ss_nil)
  (ss_cons (s_if (PW.pt (w_or (t_ne rfl hr.units (e_cb call_isi fIsi_ok (by rfl) m_isinstance (by decide +kernel) (a_cons (e_var (pv 0)) (a_cons (e_bty (by rfl) m_tuple (by decide +kernel)) a_nil))) (e_cb call_isi fIsi_ok (by rfl) m_isinstance (by decide +kernel) (a_cons (e_var (pv 1)) (a_cons (e_bty (by rfl) m_tuple (by decide +kernel)) a_nil)))) (w_or1 (t_ne rfl hr.units (e_cb rLen_ok fLen_ok (by rfl) m_len (by decide +kernel) (a_cons (e_var (pv 0)) a_nil)) (e_cb rLen_ok fLen_ok (by rfl) m_len (by decide +kernel) (a_cons (e_var (pv 1)) a_nil)))))) (ss_one (s_ret (e_bl pe_bl)))
  ss_nil)
  (ss_one (s_ret (e_cb (cr_all rfl) fAll_ok (by rfl) m_all (by decide +kernel) (a_cons (e_lc (m := false) (own := [("one", 2), ("other", 3)]) (gt := (gTup K 2 (gNs [2, 3]))) rfl sc_law_same.nd (i_zipA rfl (RZ.pi_zipA (by rfl) m_zip) (a_cons (e_var (pv 0)) (a_cons (e_var (pv 1)) a_nil))) (blkOk_by (by show blkC ["found", "due", "one", "other"] (defScope s_law_same) _ _ = true; decide +kernel)) (fun _ _ _ _ _ => pg_tup rfl (pgs_cons (pg_name (i := 2) sc_law_same.nd rfl (by first | exact Or.inl rfl | exact Or.inr rfl)) (pgs_cons (pg_name (i := 3) sc_law_same.nd rfl (by first | exact Or.inl rfl | exact Or.inr rfl)) pgs_nil))) (tg_tup (vs := [2, 3]) (is := [2, 3]) (by decide)) (fun _ _ _ _ _ => ts_nil) (fun _ _ _ _ _ => (e_callC C_law_same hr (by omega) (by rfl) no_tk (a_cons (e_var (pv 2)) (a_cons (e_var (pv 3)) a_nil))))) a_nil))))))
  ss_nil)
  (ss_cons (s_if (t_ne rfl hr.units (e_cb call_isi fIsi_ok (by rfl) m_isinstance (by decide +kernel) (a_cons (e_var (pv 1)) (a_cons (e_bty (by rfl) m_bool (by decide +kernel)) a_nil))) (e_cb call_isi fIsi_ok (by rfl) m_isinstance (by decide +kernel) (a_cons (e_var (pv 0)) (a_cons (e_bty (by rfl) m_bool (by decide +kernel)) a_nil)))) (ss_one (s_ret (e_bl pe_bl)))
  ss_nil)
  (ss_cons (s_if (t_ne rfl hr.units (e_cb call_isi fIsi_ok (by rfl) m_isinstance (by decide +kernel) (a_cons (e_var (pv 1)) (a_cons (e_bty (by rfl) m_int (by decide +kernel)) a_nil))) (e_cb call_isi fIsi_ok (by rfl) m_isinstance (by decide +kernel) (a_cons (e_var (pv 0)) (a_cons (e_bty (by rfl) m_int (by decide +kernel)) a_nil)))) (ss_one (s_ret (e_bl pe_bl)))
  ss_nil)
  (ss_one (s_ret (e_and (e_eq rfl hr.units (e_cb call_isi fIsi_ok (by rfl) m_isinstance (by decide +kernel) (a_cons (e_var (pv 1)) (a_cons (e_bty (by rfl) m_str (by decide +kernel)) a_nil))) (e_cb call_isi fIsi_ok (by rfl) m_isinstance (by decide +kernel) (a_cons (e_var (pv 0)) (a_cons (e_bty (by rfl) m_str (by decide +kernel)) a_nil)))) (e_one (e_eq rfl hr.units (e_var (pv 0)) (e_var (pv 1)))))))))))
/-! _law_things -/
abbrev s_law_things : Stmt := top 35
theorem sc_law_things : FnScope ["m"] ["m"] (defScope s_law_things) := ⟨rfl, rfl, rfl, by decide +kernel, rfl, by decide +kernel, by decide +kernel⟩
def B_law_things : Ss :=
  (sRet (cBin (oAdd false) (cB fLen (cCons (cBin oIx (cVar 0) (cK (.int 0))) cNil)) (cB fLen (cCons (cBin oIx (cVar 0) (cK (.int 1))) cNil))))
def F_law_things : FnT := fnOf 1 1 B_law_things
theorem ok_law_things {P : Program} {w : World} {K : PySem.W.Frag} {T : List (Addr × Str)} {mg : Str → Option Value} {base : Heap} {f : Addr} {fd : FuncData} {kws : List (Str × V)} (F : FnP K "_law_things" s_law_things kws f fd)
    (m_len : mg "len" = none) :
    FnOk P w K mg base (L2N.CX P w) 1 f fd ["m"] (spOf (cfT K T) F_law_things) :=
  fn_ok (k := 0) F sc_law_things fun cdv A outer s H E hr =>
  (ss_one (s_ret (b_add (m := false) (e_cb rLen_ok fLen_ok (by rfl) m_len (by decide +kernel) (a_cons (e_item rfl (e_var (pv 0)) (e_int pe_int)) a_nil)) (e_cb rLen_ok fLen_ok (by rfl) m_len (by decide +kernel) (a_cons (e_item rfl (e_var (pv 0)) (e_int pe_int)) a_nil)))))
/-! _law_bit -/
abbrev s_law_bit : Stmt := top 33
theorem sc_law_bit : FnScope ["number", "at"] ["number", "at"] (defScope s_law_bit) := ⟨rfl, rfl, rfl, by decide +kernel, rfl, by decide +kernel, by decide +kernel⟩
def B_law_bit : Ss :=
  (sRet (cBin oMod (cBin oDiv (cVar 0) (cBin oShl (cK (.int 1)) (cVar 1))) (cK (.int 2))))
def F_law_bit : FnT := fnOf 2 2 B_law_bit
theorem ok_law_bit {P : Program} {w : World} {K : PySem.W.Frag} {T : List (Addr × Str)} {mg : Str → Option Value} {base : Heap} {f : Addr} {fd : FuncData} {kws : List (Str × V)} (F : FnP K "_law_bit" s_law_bit kws f fd) :
    FnOk P w K mg base (L2N.CX P w) 1 f fd ["number", "at"] (spOf (cfT K T) F_law_bit) :=
  fn_ok (k := 0) F sc_law_bit fun cdv A outer s H E hr =>
  (ss_one (s_ret (b_mod (b_div (e_var (pv 0)) (b_shl (e_int pe_int) (e_var (pv 1)))) (e_int pe_int))))
/-! _law_told -/
abbrev s_law_told : Stmt := top 34
theorem sc_law_told : FnScope ["rows", "edge"] ["rows", "edge"] (defScope s_law_told) := ⟨rfl, rfl, rfl, by decide +kernel, rfl, by decide +kernel, by decide +kernel⟩
def B_law_told : Ss :=
  (sRet (cIf (cTv (cBin oEq (cBin oMod (cVar 1) (cK (.int 2))) (cK (.int 0)))) (cBin oIx (cVar 0) (cBin oDiv (cVar 1) (cK (.int 2)))) (cBin oSub (cK (.int 1)) (cBin oIx (cVar 0) (cBin oDiv (cVar 1) (cK (.int 2)))))))
def F_law_told : FnT := fnOf 2 2 B_law_told
theorem ok_law_told {P : Program} {w : World} {K : PySem.W.Frag} {T : List (Addr × Str)} {mg : Str → Option Value} {base : Heap} {f : Addr} {fd : FuncData} {kws : List (Str × V)} (F : FnP K "_law_told" s_law_told kws f fd) :
    FnOk P w K mg base (L2N.CX P w) 1 f fd ["rows", "edge"] (spOf (cfT K T) F_law_told) :=
  fn_ok (k := 0) F sc_law_told fun cdv A outer s H E hr =>
  (ss_one (s_ret (e_if (t_eq rfl hr.units (b_mod (e_var (pv 1)) (e_int pe_int)) (e_int pe_int)) (e_item rfl (e_var (pv 0)) (b_div (e_var (pv 1)) (e_int pe_int))) (b_sub (e_int pe_int) (e_item rfl (e_var (pv 0)) (b_div (e_var (pv 1)) (e_int pe_int)))))))
/-! _law_local -/
abbrev s_law_local : Stmt := top 41
theorem sc_law_local : FnScope ["m", "edge", "tips", "first", "found", "row", "rows", "k", "low", "high"] ["m", "edge", "tips"] (defScope s_law_local) := ⟨rfl, rfl, rfl, by decide +kernel, rfl, by decide +kernel, by decide +kernel⟩
def B_law_local : Ss :=
  (sSeq (sSet 3 (cBin (oAdd false) (cK (.int 1)) (cCall F_law_things [] (cCons (cVar 0) cNil))))
  (sSeq (sSet 4 (cLst true cNil))
  (sSeq (sFor (iRange1 (cCons (cBin oShl (cK (.int 1)) (cB fLen (cCons (cVar 2) cNil))) cNil)) (gtName 5) (sSeq (sSet 6 (cBin (oRep true) (cLst false (cCons (cK .non) cNil)) (cBin (oAdd false) (cVar 3) (cB fLen (cCons (cBin oIx (cVar 0) (cK (.int 2))) cNil)))))
  (sSeq (sPut (cK (.int 0)) (cVar 6) (cK (.int 0)))
  (sSeq (sFor (iRange1 (cCons (cB fLen (cCons (cVar 2) cNil)) cNil)) (gtName 7) (sPut (cCall F_law_bit [] (cCons (cVar 5) (cCons (cVar 7) cNil))) (cVar 6) (cBin oIx (cVar 2) (cVar 7))))
  (sSeq (sFor (iRange1 (cCons (cB fLen (cCons (cBin oIx (cVar 0) (cK (.int 2))) cNil)) cNil)) (gtName 7) (sSeq (sAsg (cBin oIx (cBin oIx (cVar 0) (cK (.int 2))) (cVar 7)) (gtTup 2 (gtCons (gtName 8) (gtCons (gtName 9) gtNil))))
  (sIf (cTand (cTv (cBin oNotIn (cBin (oAdd false) (cVar 3) (cVar 7)) (cVar 2))) (cTand (cTv (cBin oNotN (cBin oIx (cVar 6) (cBin oDiv (cVar 8) (cK (.int 2)))) (cK .non))) (cTv (cBin oNotN (cBin oIx (cVar 6) (cBin oDiv (cVar 9) (cK (.int 2)))) (cK .non))))) (sPut (cBin oMul (cCall F_law_told [] (cCons (cVar 6) (cCons (cVar 8) cNil))) (cCall F_law_told [] (cCons (cVar 6) (cCons (cVar 9) cNil)))) (cVar 6) (cBin (oAdd false) (cVar 3) (cVar 7)))
  sNil)))
  (sFrz 6 (sExpr (cMt "list" mAppend (cVar 4) (cCons (cIf (cTv (cBin oIsN (cBin oIx (cVar 6) (cBin oDiv (cVar 1) (cK (.int 2)))) (cK .non))) (cK .non) (cCall F_law_told [] (cCons (cVar 6) (cCons (cVar 1) cNil)))) cNil)))))))))
  (sSeq (sFrz 4 (sIf (cTv (cBin oIn (cK .non) (cVar 4))) (sRet (cK .non))
  sNil))
  (sRet (cB fSum (cCons (cLc false (iRange1 (cCons (cB fLen (cCons (cVar 4) cNil)) cNil)) (fName 5) cYes (cBin oMul (cBin oIx (cVar 4) (cVar 5)) (cBin oShl (cK (.int 1)) (cVar 5))) [5]) cNil)))))))
def F_law_local : FnT := fnOf 10 3 B_law_local
theorem ok_law_local {P : Program} {w : World} {K : PySem.W.Frag} {T : List (Addr × Str)} {mg : Str → Option Value} {base : Heap} {f : Addr} {fd : FuncData} {kws : List (Str × V)} (F : FnP K "_law_local" s_law_local kws f fd)
    (m_len : mg "len" = none)
    (m_range : mg "range" = none)
    (m_sum : mg "sum" = none)
    (C_law_things : CallOk P w K mg base (cfT K T) "_law_things" 1 F_law_things [])
    (C_law_bit : CallOk P w K mg base (cfT K T) "_law_bit" 1 F_law_bit [])
    (C_law_told : CallOk P w K mg base (cfT K T) "_law_told" 1 F_law_told []) :
    FnOk P w K mg base (L2N.CX P w) 2 f fd ["m", "edge", "tips"] (spOf (cfT K T) F_law_local) :=
  fn_ok (k := 1) F sc_law_local fun cdv A outer s H E hr =>
  (ss_cons (s_set (i := 3) sc_law_local.nd rfl (by first | exact Or.inl rfl | exact Or.inr rfl) (b_add (m := false) (e_int pe_int) (e_callC C_law_things hr (by decide) (by rfl) (L2N.takes_of rfl rfl rfl rfl) (a_cons (e_var (pv 0)) a_nil))))
  (ss_cons (s_set (i := 4) sc_law_local.nd rfl (by first | exact Or.inl rfl | exact Or.inr rfl) (e_lst (m := true) a_nil))
  (ss_cons (s_for (passes_of rfl) rfl (i_range1 (by rfl) m_range (a_cons (b_shl (e_int pe_int) (e_cb rLen_ok fLen_ok (by rfl) m_len (by decide +kernel) (a_cons (e_var (pv 2)) a_nil))) a_nil)) (g_name (pg_name (i := 5) sc_law_local.nd rfl (by first | exact Or.inl rfl | exact Or.inr rfl))) (ss_cons (s_set (i := 6) sc_law_local.nd rfl (by first | exact Or.inl rfl | exact Or.inr rfl) (b_rep (m := true) (e_lst (m := false) (a_cons (e_non pe_non) a_nil)) (b_add (m := false) (e_var (pv 3)) (e_cb rLen_ok fLen_ok (by rfl) m_len (by decide +kernel) (a_cons (e_item rfl (e_var (pv 0)) (e_int pe_int)) a_nil)))))
  (ss_cons (s_put (e_int pe_int) (e_var (pv 6)) (e_int pe_int) fun a b c => ps_put a b c)
  (ss_cons (s_for (passes_of rfl) rfl (i_range1 (by rfl) m_range (a_cons (e_cb rLen_ok fLen_ok (by rfl) m_len (by decide +kernel) (a_cons (e_var (pv 2)) a_nil)) a_nil)) (g_name (pg_name (i := 7) sc_law_local.nd rfl (by first | exact Or.inl rfl | exact Or.inr rfl))) (ss_one (s_put (e_callC C_law_bit hr (by decide) (by rfl) (L2N.takes_of rfl rfl rfl rfl) (a_cons (e_var (pv 5)) (a_cons (e_var (pv 7)) a_nil))) (e_var (pv 6)) (e_item rfl (e_var (pv 2)) (e_var (pv 7))) fun a b c => ps_put a b c)))
  (ss_cons (s_for (passes_of rfl) rfl (i_range1 (by rfl) m_range (a_cons (e_cb rLen_ok fLen_ok (by rfl) m_len (by decide +kernel) (a_cons (e_item rfl (e_var (pv 0)) (e_int pe_int)) a_nil)) a_nil)) (g_name (pg_name (i := 7) sc_law_local.nd rfl (by first | exact Or.inl rfl | exact Or.inr rfl))) (ss_cons (s_asg (e_item rfl (e_item rfl (e_var (pv 0)) (e_int pe_int)) (e_var (pv 7))) (g_tup rfl rfl (gs_cons (g_name (pg_name (i := 8) sc_law_local.nd rfl (by first | exact Or.inl rfl | exact Or.inr rfl))) (gs_cons (g_name (pg_name (i := 9) sc_law_local.nd rfl (by first | exact Or.inl rfl | exact Or.inr rfl))) gs_nil))))
  (ss_one (s_if (PW.pt (w_and (t_notIn rfl (b_add (m := false) (e_var (pv 3)) (e_var (pv 7))) (e_var (pv 2))) (w_and (t_notN (e_item rfl (e_var (pv 6)) (b_div (e_var (pv 8)) (e_int pe_int))) (e_non pe_non)) (w_and1 (t_notN (e_item rfl (e_var (pv 6)) (b_div (e_var (pv 9)) (e_int pe_int))) (e_non pe_non)))))) (ss_one (s_put (b_mul (e_callC C_law_told hr (by decide) (by rfl) (L2N.takes_of rfl rfl rfl rfl) (a_cons (e_var (pv 6)) (a_cons (e_var (pv 8)) a_nil))) (e_callC C_law_told hr (by decide) (by rfl) (L2N.takes_of rfl rfl rfl rfl) (a_cons (e_var (pv 6)) (a_cons (e_var (pv 9)) a_nil)))) (e_var (pv 6)) (b_add (m := false) (e_var (pv 3)) (e_var (pv 7))) fun a b c => ps_put a b c))
  ss_nil))))
  (ss_one (s_frz 6 (s_expr (e_m rfl (by decide) PySem.F.plainAttrs_list PySem.F.slot_list_append PySem.F.type_list_append mt_append mAppend_ok (e_var (pv 4)) (a_cons (e_if (t_isN (e_item rfl (e_var (pv 6)) (b_div (e_var (pv 1)) (e_int pe_int))) (e_non pe_non)) (e_non pe_non) (e_callC C_law_told hr (by decide) (by rfl) (L2N.takes_of rfl rfl rfl rfl) (a_cons (e_var (pv 6)) (a_cons (e_var (pv 1)) a_nil)))) a_nil))))))))))
  (ss_cons (s_frz 4 (s_if (t_in rfl (e_non pe_non) (e_var (pv 4))) (ss_one (s_ret (e_non pe_non)))
  ss_nil))
  (ss_one (s_ret (e_cb (cr_sum rfl) fSum_ok (by rfl) m_sum (by decide +kernel) (a_cons (e_lc (m := false) (own := [("row", 5)]) (gt := (gName 5)) rfl sc_law_local.nd (i_range1 (by rfl) m_range (a_cons (e_cb rLen_ok fLen_ok (by rfl) m_len (by decide +kernel) (a_cons (e_var (pv 4)) a_nil)) a_nil)) (blkOk_by (by show blkC ["m", "edge", "tips", "first", "found", "row", "rows", "k", "low", "high"] (defScope s_law_local) _ _ = true; decide +kernel)) (fun _ _ _ _ _ => pg_name (i := 5) sc_law_local.nd rfl (by first | exact Or.inl rfl | exact Or.inr rfl)) (tg_name (by decide)) (fun _ _ _ _ _ => ts_nil) (fun _ _ _ _ _ => (b_mul (e_item rfl (e_var (pv 4)) (e_var (pv 5))) (b_shl (e_int pe_int) (e_var (pv 5)))))) a_nil))))))))
/-! full_of -/
abbrev s_full_of : Stmt := top 10
theorem sc_full_of : FnScope ["things"] ["things"] (defScope s_full_of) := ⟨rfl, rfl, rfl, by decide +kernel, rfl, by decide +kernel, by decide +kernel⟩
def B_full_of : Ss :=
  (sRet (cBin oSub (cBin oShl (cK (.int 1)) (cBin oShl (cK (.int 1)) (cVar 0))) (cK (.int 1))))
def F_full_of : FnT := fnOf 1 1 B_full_of
theorem ok_full_of {P : Program} {w : World} {K : PySem.W.Frag} {T : List (Addr × Str)} {mg : Str → Option Value} {base : Heap} {f : Addr} {fd : FuncData} {kws : List (Str × V)} (F : FnP K "full_of" s_full_of kws f fd) :
    FnOk P w K mg base (L2N.CX P w) 1 f fd ["things"] (spOf (cfT K T) F_full_of) :=
  fn_ok (k := 0) F sc_full_of fun cdv A outer s H E hr =>
  (ss_one (s_ret (b_sub (b_shl (e_int pe_int) (b_shl (e_int pe_int) (e_var (pv 0)))) (e_int pe_int))))
/-! Net.things -/
abbrev s_Net_things : Stmt := methAt (top 22) 10
theorem sc_Net_things : FnScope ["self"] ["self"] (defScope s_Net_things) := ⟨rfl, rfl, rfl, by decide +kernel, rfl, by decide +kernel, by decide +kernel⟩
def B_Net_things : Ss :=
  (sRet (cBin (oAdd false) (cB fLen (cCons (cFld "Net" "ins" (cVar 0)) cNil)) (cB fLen (cCons (cFld "Net" "memory" (cVar 0)) cNil))))
def F_Net_things : FnT := fnOf 1 1 B_Net_things
theorem ok_Net_things {P : Program} {w : World} {K : PySem.W.Frag} {T : List (Addr × Str)} {mg : Str → Option Value} {base : Heap} {f : Addr} {fd : FuncData} {dvs : List V} {kws : List (Str × V)} (F : FunD K "things" "Net.things" (defArgs s_Net_things) (defBody s_Net_things) (defScope s_Net_things) dvs kws f fd)
    (m_len : mg "len" = none)
    (CC_Net : Cls K (He.ga K "Net"))
    (NA_Net_ins : NoAttr K (He.ga K "Net") "ins")
    (NA_Net_memory : NoAttr K (He.ga K "Net") "memory") :
    FnOk P w K mg base (L2N.CX P w) 1 f fd ["self"] (spOf (cfT K T) F_Net_things) :=
  fn_ok (k := 0) F sc_Net_things fun cdv A outer s H E hr =>
  (ss_one (s_ret (b_add (m := false) (e_cb rLen_ok fLen_ok (by rfl) m_len (by decide +kernel) (a_cons (e_fld (n := "Net") rfl rfl CC_Net NA_Net_ins (e_var (pv 0))) a_nil)) (e_cb rLen_ok fLen_ok (by rfl) m_len (by decide +kernel) (a_cons (e_fld (n := "Net") rfl rfl CC_Net NA_Net_memory (e_var (pv 0))) a_nil)))))
/-! Net.gates -/
abbrev s_Net_gates : Stmt := methAt (top 22) 7
theorem sc_Net_gates : FnScope ["self"] ["self"] (defScope s_Net_gates) := ⟨rfl, rfl, rfl, by decide +kernel, rfl, by decide +kernel, by decide +kernel⟩
def B_Net_gates : Ss :=
  (sRet (cB (fList false) (cCons (cFld "Net" "pairs" (cVar 0)) cNil)))
def F_Net_gates : FnT := fnOf 1 1 B_Net_gates
theorem ok_Net_gates {P : Program} {w : World} {K : PySem.W.Frag} {T : List (Addr × Str)} {mg : Str → Option Value} {base : Heap} {f : Addr} {fd : FuncData} {dvs : List V} {kws : List (Str × V)} (F : FunD K "gates" "Net.gates" (defArgs s_Net_gates) (defBody s_Net_gates) (defScope s_Net_gates) dvs kws f fd)
    (m_list : mg "list" = none)
    (CC_Net : Cls K (He.ga K "Net"))
    (NA_Net_pairs : NoAttr K (He.ga K "Net") "pairs") :
    FnOk P w K mg base (L2N.CX P w) 1 f fd ["self"] (spOf (cfT K T) F_Net_gates) :=
  fn_ok (k := 0) F sc_Net_gates fun cdv A outer s H E hr =>
  (ss_one (s_ret (e_ct call_list_of (fList_ok (m := false)) (by rfl) m_list (by decide +kernel) (a_cons (e_fld (n := "Net") rfl rfl CC_Net NA_Net_pairs (e_var (pv 0))) a_nil))))
/-! gates_of -/
abbrev s_gates_of : Stmt := top 23
theorem sc_gates_of : FnScope ["net", "first", "at", "high", "low"] ["net"] (defScope s_gates_of) := ⟨rfl, rfl, rfl, by decide +kernel, rfl, by decide +kernel, by decide +kernel⟩
def B_gates_of : Ss :=
  (sSeq (sSet 1 (cBin (oAdd false) (cK (.int 1)) (cMeth "Net" "things" F_Net_things [] (cVar 0) cNil)))
  (sRet (cLc false (iEnumD (cCons (cMeth "Net" "gates" F_Net_gates [] (cVar 0) cNil) cNil)) (fgTup 2 (fgCons (fName 2) (fgCons (fgTup 2 (fgCons (fName 4) (fgCons (fName 3) fgNil))) fgNil))) cYes (cTup (cCons (cBin (oAdd false) (cVar 1) (cVar 2)) (cCons (cVar 4) (cCons (cVar 3) cNil)))) [2, 4, 3])))
def F_gates_of : FnT := fnOf 5 1 B_gates_of
theorem ok_gates_of {P : Program} {w : World} {K : PySem.W.Frag} {T : List (Addr × Str)} {mg : Str → Option Value} {base : Heap} {f : Addr} {fd : FuncData} {kws : List (Str × V)} (F : FnP K "gates_of" s_gates_of kws f fd)
    (m_enumerate : mg "enumerate" = none)
    (M_Net_things : MethOk P w K mg base (cfT K T) "Net" "things" 1 F_Net_things [])
    (M_Net_gates : MethOk P w K mg base (cfT K T) "Net" "gates" 1 F_Net_gates []) :
    FnOk P w K mg base (L2N.CX P w) 2 f fd ["net"] (spOf (cfT K T) F_gates_of) :=
  fn_ok (k := 1) F sc_gates_of fun cdv A outer s H E hr =>
  (ss_cons (s_set (i := 1) sc_gates_of.nd rfl (by first | exact Or.inl rfl | exact Or.inr rfl) (b_add (m := false) (e_int pe_int) (e_meth0 (j := 1) (E := E) M_Net_things hr (by decide) (L2N.passes_call (L2N.takes_of rfl rfl rfl rfl) fun _ _ _ _ h => h) (fun _ _ _ _ h => h) (e_var (pv 0)))))
  (ss_one (s_ret (e_lc (m := false) (own := [("at", 2), ("low", 4), ("high", 3)]) (gt := (gTup K 2 (gCons (gName 2) (gCons (gTup K 2 (gCons (gName 4) (gCons (gName 3) gNil))) gNil)))) rfl sc_gates_of.nd (i_enum rfl (by rfl) m_enumerate (a_cons (e_meth0 (j := 1) (E := E) M_Net_gates hr (by decide) (L2N.passes_call (L2N.takes_of rfl rfl rfl rfl) fun _ _ _ _ h => h) (fun _ _ _ _ h => h) (e_var (pv 0))) a_nil)) (blkOk_by (by show blkC ["net", "first", "at", "high", "low"] (defScope s_gates_of) _ _ = true; decide +kernel)) (fun _ _ _ _ _ => (pg_tup rfl (pgs_cons (pg_name (i := 2) sc_gates_of.nd rfl (by first | exact Or.inl rfl | exact Or.inr rfl)) (pgs_cons (pg_tup rfl (pgs_cons (pg_name (i := 4) sc_gates_of.nd rfl (by first | exact Or.inl rfl | exact Or.inr rfl)) (pgs_cons (pg_name (i := 3) sc_gates_of.nd rfl (by first | exact Or.inl rfl | exact Or.inr rfl)) pgs_nil))) pgs_nil)))) (tg_tupN (tgs_cons (tg_name (by decide)) (tgs_cons (tg_tupN (tgs_cons (tg_name (by decide)) (tgs_cons (tg_name (by decide)) tgs_nil))) tgs_nil))) (fun _ _ _ _ _ => ts_nil) (fun _ _ _ _ _ => (e_tup (a_cons (b_add (m := false) (e_var (pv 1)) (e_var (pv 2))) (a_cons (e_var (pv 4)) (a_cons (e_var (pv 3)) a_nil)))))))))
/-! column_of -/
abbrev s_column_of : Stmt := top 11
theorem sc_column_of : FnScope ["things", "at", "wide", "found", "size"] ["things", "at"] (defScope s_column_of) := ⟨rfl, rfl, rfl, by decide +kernel, rfl, by decide +kernel, by decide +kernel⟩
def B_column_of : Ss :=
  (sSeq (sSet 2 (cBin oShl (cK (.int 1)) (cVar 1)))
  (sSeq (sSet 3 (cBin oShl (cBin oSub (cBin oShl (cK (.int 1)) (cVar 2)) (cK (.int 1))) (cVar 2)))
  (sSeq (sSet 4 (cBin oMul (cK (.int 2)) (cVar 2)))
  (sSeq (whileL (cTv (cBin oLt (cVar 4) (cBin oShl (cK (.int 1)) (cVar 0)))) (sSeq (sAug 3 oOr (cBin oShl (cVar 3) (cVar 4)))
  (sAug 4 oShl (cK (.int 1)))) fuel)
  (sRet (cVar 3))))))
def F_column_of : FnT := fnOf 5 2 B_column_of
theorem ok_column_of {P : Program} {w : World} {K : PySem.W.Frag} {T : List (Addr × Str)} {mg : Str → Option Value} {base : Heap} {f : Addr} {fd : FuncData} {kws : List (Str × V)} (F : FnP K "column_of" s_column_of kws f fd) :
    FnOk P w K mg base (L2N.CX P w) 1 f fd ["things", "at"] (spOf (cfT K T) F_column_of) :=
  fn_ok (k := 0) F sc_column_of fun cdv A outer s H E hr =>
  (ss_cons (s_set (i := 2) sc_column_of.nd rfl (by first | exact Or.inl rfl | exact Or.inr rfl) (b_shl (e_int pe_int) (e_var (pv 1))))
  (ss_cons (s_set (i := 3) sc_column_of.nd rfl (by first | exact Or.inl rfl | exact Or.inr rfl) (b_shl (b_sub (b_shl (e_int pe_int) (e_var (pv 2))) (e_int pe_int)) (e_var (pv 2))))
  (ss_cons (s_set (i := 4) sc_column_of.nd rfl (by first | exact Or.inl rfl | exact Or.inr rfl) (b_mul (e_int pe_int) (e_var (pv 2))))
  (ss_cons (s_while fuel (passes_of rfl) (t_lt (e_var (pv 4)) (b_shl (e_int pe_int) (e_var (pv 0)))) (ss_cons (s_aug (i := 3) sc_column_of.nd rfl (by first | exact Or.inl rfl | exact Or.inr rfl) iop_or iop0_ok (b_shl (e_var (pv 3)) (e_var (pv 4))))
  (ss_one (s_aug (i := 4) sc_column_of.nd rfl (by first | exact Or.inl rfl | exact Or.inr rfl) iop_shlW (iop_ok gShl_ok) (e_int pe_int)))))
  (ss_one (s_ret (e_var (pv 3))))))))
/-! signed -/
abbrev s_signed : Stmt := top 24
theorem sc_signed : FnScope ["rows", "edge", "whole"] ["rows", "edge", "whole"] (defScope s_signed) := ⟨rfl, rfl, rfl, by decide +kernel, rfl, by decide +kernel, by decide +kernel⟩
def B_signed : Ss :=
  (sRet (cBin oXor (cBin oIx (cVar 0) (cBin oShr (cVar 1) (cK (.int 1)))) (cIf (cTr (cBin oAnd (cVar 1) (cK (.int 1)))) (cVar 2) (cK (.int 0)))))
def F_signed : FnT := fnOf 3 3 B_signed
theorem ok_signed {P : Program} {w : World} {K : PySem.W.Frag} {T : List (Addr × Str)} {mg : Str → Option Value} {base : Heap} {f : Addr} {fd : FuncData} {kws : List (Str × V)} (F : FnP K "signed" s_signed kws f fd) :
    FnOk P w K mg base (L2N.CX P w) 1 f fd ["rows", "edge", "whole"] (spOf (cfT K T) F_signed) :=
  fn_ok (k := 0) F sc_signed fun cdv A outer s H E hr =>
  (ss_one (s_ret (b_xor (e_item rfl (e_var (pv 0)) (b_shr (e_var (pv 1)) (e_int pe_int))) (e_if (t_tru (b_and (e_var (pv 1)) (e_int pe_int))) (e_var (pv 2)) (e_int pe_int)))))
/-! local_rows -/
abbrev s_local_rows : Stmt := top 26
theorem sc_local_rows : FnScope ["net", "leaves", "things", "whole", "places", "found", "node", "low", "high", "at"] ["net", "leaves"] (defScope s_local_rows) := ⟨rfl, rfl, rfl, by decide +kernel, rfl, by decide +kernel, by decide +kernel⟩
def B_local_rows : Ss :=
  (sSeq (sSet 2 (cB fLen (cCons (cVar 1) cNil)))
  (sSeq (sSet 3 (cCall F_full_of [] (cCons (cVar 2) cNil)))
  (sSeq (sSet 4 (cDc (iEnumT (cCons (cVar 1) cNil)) (fTup [9, 6]) cYes (cVar 6) (cCall F_column_of [] (cCons (cVar 2) (cCons (cVar 9) cNil))) [9, 6]))
  (sSeq (sSet 5 (cLc true (iRange1 (cCons (cBin (oAdd false) (cK (.int 1)) (cMeth "Net" "things" F_Net_things [] (cVar 0) cNil)) cNil)) (fName 6) cYes (cDget2 (cVar 4) (cVar 6) (cIf (cTv (cBin oEq (cVar 6) (cK (.int 0)))) (cK (.int 0)) (cK .non))) [6]))
  (sSeq (sFor (iSeqD (cCall F_gates_of [] (cCons (cVar 0) cNil))) (gtTup 3 (gtCons (gtName 6) (gtCons (gtName 7) (gtCons (gtName 8) gtNil)))) (sIf (cTv (cBin oDin (cVar 6) (cVar 4))) (sExpr (cMt "list" mAppend (cVar 5) (cCons (cBin oDget (cVar 4) (cVar 6)) cNil)))
  (sIf (cTor (cTv (cBin oIsN (cBin oIx (cVar 5) (cBin oShr (cVar 7) (cK (.int 1)))) (cK .non))) (cTv (cBin oIsN (cBin oIx (cVar 5) (cBin oShr (cVar 8) (cK (.int 1)))) (cK .non)))) (sExpr (cMt "list" mAppend (cVar 5) (cCons (cK .non) cNil)))
  (sExpr (cMt "list" mAppend (cVar 5) (cCons (cBin oAnd (cCall F_signed [] (cCons (cVar 5) (cCons (cVar 7) (cCons (cVar 3) cNil)))) (cCall F_signed [] (cCons (cVar 5) (cCons (cVar 8) (cCons (cVar 3) cNil))))) cNil))))))
  (sFrz 5 (sRet (cVar 5))))))))
def F_local_rows : FnT := fnOf 10 2 B_local_rows
theorem ok_local_rows {P : Program} {w : World} {K : PySem.W.Frag} {T : List (Addr × Str)} {mg : Str → Option Value} {base : Heap} {f : Addr} {fd : FuncData} {kws : List (Str × V)} (F : FnP K "local_rows" s_local_rows kws f fd)
    (m_len : mg "len" = none)
    (m_enumerate : mg "enumerate" = none)
    (m_range : mg "range" = none)
    (C_full_of : CallOk P w K mg base (cfT K T) "full_of" 1 F_full_of [])
    (C_column_of : CallOk P w K mg base (cfT K T) "column_of" 1 F_column_of [])
    (C_gates_of : CallOk P w K mg base (cfT K T) "gates_of" 2 F_gates_of [])
    (C_signed : CallOk P w K mg base (cfT K T) "signed" 1 F_signed [])
    (M_Net_things : MethOk P w K mg base (cfT K T) "Net" "things" 1 F_Net_things []) :
    FnOk P w K mg base (L2N.CX P w) 3 f fd ["net", "leaves"] (spOf (cfT K T) F_local_rows) :=
  fn_ok (k := 2) F sc_local_rows fun cdv A outer s H E hr =>
  (ss_cons (s_set (i := 2) sc_local_rows.nd rfl (by first | exact Or.inl rfl | exact Or.inr rfl) (e_cb rLen_ok fLen_ok (by rfl) m_len (by decide +kernel) (a_cons (e_var (pv 1)) a_nil)))
  (ss_cons (s_set (i := 3) sc_local_rows.nd rfl (by first | exact Or.inl rfl | exact Or.inr rfl) (e_callC C_full_of hr (by decide) (by rfl) (L2N.takes_of rfl rfl rfl rfl) (a_cons (e_var (pv 2)) a_nil)))
  (ss_cons (s_set (i := 4) sc_local_rows.nd rfl (by first | exact Or.inl rfl | exact Or.inr rfl) (e_dc (own := [("at", 9), ("node", 6)]) (gt := (gTup K 2 (gNs [9, 6]))) rfl sc_local_rows.nd (i_enumT rfl (by rfl) m_enumerate (a_cons (e_var (pv 1)) a_nil)) (blkOk_by (by show blkC ["net", "leaves", "things", "whole", "places", "found", "node", "low", "high", "at"] (defScope s_local_rows) _ _ = true; decide +kernel)) (fun _ _ _ _ _ => pg_tup rfl (pgs_cons (pg_name (i := 9) sc_local_rows.nd rfl (by first | exact Or.inl rfl | exact Or.inr rfl)) (pgs_cons (pg_name (i := 6) sc_local_rows.nd rfl (by first | exact Or.inl rfl | exact Or.inr rfl)) pgs_nil))) (tg_tup (vs := [9, 6]) (is := [9, 6]) (by decide)) (fun _ _ _ _ _ => ts_nil) (fun _ _ _ _ _ => (e_var (pv 6))) (fun _ _ _ _ _ => (e_callC C_column_of hr (by decide) (by rfl) no_tk (a_cons (e_var (pv 2)) (a_cons (e_var (pv 9)) a_nil))))))
  (ss_cons (s_setLc (m := true) (own := [("node", 6)]) (gt := (gName 6)) (i := 5) rfl sc_local_rows.nd rfl rfl (sw_true rfl rfl rfl (by decide +kernel)) (i_range1 (by rfl) m_range (a_cons (b_add (m := false) (e_int pe_int) (e_meth0 (j := 2) (E := E) M_Net_things hr (by decide) (L2N.passes_call (L2N.takes_of rfl rfl rfl rfl) fun _ _ _ _ h => h) (fun _ _ _ _ h => h) (e_var (pv 0)))) a_nil)) (blkOk_by (by show blkC ["net", "leaves", "things", "whole", "places", "found", "node", "low", "high", "at"] (defScope s_local_rows) _ _ = true; decide +kernel)) (fun _ _ _ _ _ => pg_name (i := 6) sc_local_rows.nd rfl (by first | exact Or.inl rfl | exact Or.inr rfl)) (tg_name (by decide)) (fun _ _ _ _ _ => ts_nil) (fun _ _ _ _ _ => (e_dget2 (hu_of hr) (e_var (pv 4)) (e_var (pv 6)) (e_if (t_eq rfl hr.units (e_var (pv 6)) (e_int pe_int)) (e_int pe_int) (e_non pe_non)) ⟨rfl, rfl, rfl, rfl⟩)))
  (ss_cons (s_for (passes_of rfl) rfl (i_seq rfl (e_callC C_gates_of hr (by decide) (by rfl) (L2N.takes_of rfl rfl rfl rfl) (a_cons (e_var (pv 0)) a_nil))) (g_tup rfl rfl (gs_cons (g_name (pg_name (i := 6) sc_local_rows.nd rfl (by first | exact Or.inl rfl | exact Or.inr rfl))) (gs_cons (g_name (pg_name (i := 7) sc_local_rows.nd rfl (by first | exact Or.inl rfl | exact Or.inr rfl))) (gs_cons (g_name (pg_name (i := 8) sc_local_rows.nd rfl (by first | exact Or.inl rfl | exact Or.inr rfl))) gs_nil)))) (ss_one (s_if (t_din (hu_of hr) (e_var (pv 6)) (e_var (pv 4))) (ss_one (s_expr (e_m rfl (by decide) PySem.F.plainAttrs_list PySem.F.slot_list_append PySem.F.type_list_append mt_append mAppend_ok (e_var (pv 5)) (a_cons (e_dget (hu_of hr) (e_var (pv 4)) (e_var (pv 6)) (fun _ _ => by rfl)) a_nil))))
  (ss_one (s_if (PW.pt (w_or (t_isN (e_item rfl (e_var (pv 5)) (b_shr (e_var (pv 7)) (e_int pe_int))) (e_non pe_non)) (w_or1 (t_isN (e_item rfl (e_var (pv 5)) (b_shr (e_var (pv 8)) (e_int pe_int))) (e_non pe_non))))) (ss_one (s_expr (e_m rfl (by decide) PySem.F.plainAttrs_list PySem.F.slot_list_append PySem.F.type_list_append mt_append mAppend_ok (e_var (pv 5)) (a_cons (e_non pe_non) a_nil))))
  (ss_one (s_expr (e_m rfl (by decide) PySem.F.plainAttrs_list PySem.F.slot_list_append PySem.F.type_list_append mt_append mAppend_ok (e_var (pv 5)) (a_cons (b_and (e_callC C_signed hr (by decide) (by rfl) (L2N.takes_of rfl rfl rfl rfl) (a_cons (e_var (pv 5)) (a_cons (e_var (pv 7)) (a_cons (e_var (pv 3)) a_nil)))) (e_callC C_signed hr (by decide) (by rfl) (L2N.takes_of rfl rfl rfl rfl) (a_cons (e_var (pv 5)) (a_cons (e_var (pv 8)) (a_cons (e_var (pv 3)) a_nil))))) a_nil)))))))))
  (ss_one (s_frz 5 (s_ret (e_var (pv 5))))))))))
/-! local_table -/
abbrev s_local_table : Stmt := top 27
theorem sc_local_table : FnScope ["net", "edge", "leaves", "told"] ["net", "edge", "leaves"] (defScope s_local_table) := ⟨rfl, rfl, rfl, by decide +kernel, rfl, by decide +kernel, by decide +kernel⟩
def B_local_table : Ss :=
  (sSeq (sSet 3 (cBin oIx (cCall F_local_rows [] (cCons (cVar 0) (cCons (cVar 2) cNil))) (cBin oShr (cVar 1) (cK (.int 1)))))
  (sSeq (sIf (cTv (cBin oIsN (cVar 3) (cK .non))) (sRet (cK .non))
  sNil)
  (sRet (cBin oXor (cVar 3) (cIf (cTr (cBin oAnd (cVar 1) (cK (.int 1)))) (cCall F_full_of [] (cCons (cB fLen (cCons (cVar 2) cNil)) cNil)) (cK (.int 0)))))))
def F_local_table : FnT := fnOf 4 3 B_local_table
theorem ok_local_table {P : Program} {w : World} {K : PySem.W.Frag} {T : List (Addr × Str)} {mg : Str → Option Value} {base : Heap} {f : Addr} {fd : FuncData} {kws : List (Str × V)} (F : FnP K "local_table" s_local_table kws f fd)
    (m_len : mg "len" = none)
    (C_local_rows : CallOk P w K mg base (cfT K T) "local_rows" 3 F_local_rows [])
    (C_full_of : CallOk P w K mg base (cfT K T) "full_of" 1 F_full_of []) :
    FnOk P w K mg base (L2N.CX P w) 4 f fd ["net", "edge", "leaves"] (spOf (cfT K T) F_local_table) :=
  fn_ok (k := 3) F sc_local_table fun cdv A outer s H E hr =>
  (ss_cons (s_set (i := 3) sc_local_table.nd rfl (by first | exact Or.inl rfl | exact Or.inr rfl) (e_item rfl (e_callC C_local_rows hr (by decide) (by rfl) (L2N.takes_of rfl rfl rfl rfl) (a_cons (e_var (pv 0)) (a_cons (e_var (pv 2)) a_nil))) (b_shr (e_var (pv 1)) (e_int pe_int))))
  (ss_cons (s_if (t_isN (e_var (pv 3)) (e_non pe_non)) (ss_one (s_ret (e_non pe_non)))
  ss_nil)
  (ss_one (s_ret (b_xor (e_var (pv 3)) (e_if (t_tru (b_and (e_var (pv 1)) (e_int pe_int))) (e_callC C_full_of hr (by decide) (by rfl) (L2N.takes_of rfl rfl rfl rfl) (a_cons (e_cb rLen_ok fLen_ok (by rfl) m_len (by decide +kernel) (a_cons (e_var (pv 2)) a_nil)) a_nil)) (e_int pe_int)))))))
/-! law -/
abbrev s_law : Stmt := top 42
theorem sc_law : FnScope ["script", "box", "m", "net", "top", "turn", "edge", "many", "some", "tips", "due", "again", "k", "node"] ["script"] (defScope s_law) := ⟨rfl, rfl, rfl, by decide +kernel, rfl, by decide +kernel, by decide +kernel⟩
def B_law : Ss :=
  (sSeq (sSet 1 (cCall F_law_box [] (cCons (cVar 0) cNil)))
  (sSeq (sSet 2 (cCall F_law_net [] (cCons (cVar 1) (cCons (cK (.int 4)) (cCons (cK (.int 2)) (cCons (cK (.int 12)) (cCons (cK (.int 2)) cNil)))))))
  (sSeq (sSet 3 (cCall F_law_made [] (cCons (cVar 2) cNil)))
  (sSeq (sSet 4 (cBin (oAdd false) (cBin (oAdd false) (cK (.int 1)) (cCall F_law_things [] (cCons (cVar 2) cNil))) (cB fLen (cCons (cBin oIx (cVar 2) (cK (.int 2))) cNil))))
  (sSeq (sFor (iRange1 (cCons (cK (.int 8)) cNil)) (gtName 5) (sSeq (sSet 6 (cCall F_law_some_edge [] (cCons (cVar 1) (cCons (cVar 4) cNil))))
  (sSeq (sSet 7 (cBin oMul (cCall F_law_take [] (cCons (cVar 1) (cCons (cK (.int 6)) cNil))) (cB fInt1 (cCons (cBin oGt (cVar 4) (cK (.int 1))) cNil))))
  (sSeq (sSet 8 (cLc false (iRange1 (cCons (cVar 7) cNil)) (fName 12) cYes (cBin (oAdd false) (cK (.int 1)) (cCall F_law_take [] (cCons (cVar 1) (cCons (cBin oSub (cVar 4) (cK (.int 1))) cNil)))) [12]))
  (sSeq (sIf (cTv (cBin oEq (cCall F_law_take [] (cCons (cVar 1) (cCons (cK (.int 2)) cNil))) (cK (.int 0)))) (sSet 8 (cBin (oAdd false) (cSl false (cVar 8) cNoPart (cPart (cK (.int 2)))) (cLc false (iRange2 (cCons (cK (.int 1)) (cCons (cBin (oAdd false) (cK (.int 1)) (cCall F_law_things [] (cCons (cVar 2) cNil))) cNil))) (fName 13) cYes (cVar 13) [13])))
  sNil)
  (sSeq (sSet 9 (cB fTuple (cCons (cSortSet false (cVar 8)) cNil)))
  (sSeq (sSet 10 (cCall F_law_local [] (cCons (cVar 2) (cCons (cVar 6) (cCons (cB (fList false) (cCons (cVar 9) cNil)) cNil)))))
  (sFor (iRange1 (cCons (cK (.int 2)) cNil)) (gtName 11) (sIf (cTnot (cTv (cCall (F_law_same 6) [] (cCons (cCall F_local_table [] (cCons (cVar 3) (cCons (cVar 6) (cCons (cVar 9) cNil)))) (cCons (cVar 10) cNil))))) (sRet (cK (.bl false)))
  sNil)))))))))
  (sRet (cCall (F_law_same 6) [] (cCons (cLst false (cCons (cCall F_local_table [] (cCons (cVar 3) (cCons (cK (.int 0)) (cCons (cTup cNil) cNil)))) (cCons (cCall F_local_table [] (cCons (cVar 3) (cCons (cK (.int 1)) (cCons (cTup cNil) cNil)))) cNil))) (cCons (cLst false (cCons (cK (.int 0)) (cCons (cK (.int 1)) cNil))) cNil)))))))))
def F_law : FnT := fnOf 14 1 B_law
theorem ok_law {P : Program} {w : World} {K : PySem.W.Frag} {T : List (Addr × Str)} {mg : Str → Option Value} {base : Heap} {f : Addr} {fd : FuncData} {kws : List (Str × V)} (F : FnP K "law" s_law kws f fd)
    (m_len : mg "len" = none)
    (m_range : mg "range" = none)
    (m_int : mg "int" = none)
    (m_sorted : mg "sorted" = none)
    (m_set : mg "set" = none)
    (m_tuple : mg "tuple" = none)
    (m_list : mg "list" = none)
    (C_law_box : CallOk P w K mg base (cfT K T) "_law_box" 1 F_law_box [])
    (C_law_net : CallOk P w K mg base (cfT K T) "_law_net" 4 F_law_net [])
    (C_law_made : CallOk P w K mg base (cfT K T) "_law_made" 6 F_law_made [])
    (C_law_things : CallOk P w K mg base (cfT K T) "_law_things" 1 F_law_things [])
    (C_law_some_edge : CallOk P w K mg base (cfT K T) "_law_some_edge" 2 F_law_some_edge [])
    (C_law_take : CallOk P w K mg base (cfT K T) "_law_take" 1 F_law_take [])
    (C_law_local : CallOk P w K mg base (cfT K T) "_law_local" 2 F_law_local [])
    (C_local_table : CallOk P w K mg base (cfT K T) "local_table" 4 F_local_table [])
    (C_law_same : CallOk P w K mg base (cfT K T) "_law_same" 6 (F_law_same 6) []) :
    FnOk P w K mg base (L2N.CX P w) 7 f fd ["script"] (spOf (cfT K T) F_law) :=
  fn_ok (k := 6) F sc_law fun cdv A outer s H E hr =>
  (ss_cons (s_set (i := 1) sc_law.nd rfl (by first | exact Or.inl rfl | exact Or.inr rfl) (e_callC C_law_box hr (by decide) (by rfl) (L2N.takes_of rfl rfl rfl rfl) (a_cons (e_var (pv 0)) a_nil)))
  (ss_cons (s_set (i := 2) sc_law.nd rfl (by first | exact Or.inl rfl | exact Or.inr rfl) (e_callC C_law_net hr (by decide) (by rfl) (L2N.takes_of rfl rfl rfl rfl) (a_cons (e_var (pv 1)) (a_cons (e_int pe_int) (a_cons (e_int pe_int) (a_cons (e_int pe_int) (a_cons (e_int pe_int) a_nil)))))))
  (ss_cons (s_set (i := 3) sc_law.nd rfl (by first | exact Or.inl rfl | exact Or.inr rfl) (e_callC C_law_made hr (by decide) (by rfl) (L2N.takes_of rfl rfl rfl rfl) (a_cons (e_var (pv 2)) a_nil)))
  (ss_cons (s_set (i := 4) sc_law.nd rfl (by first | exact Or.inl rfl | exact Or.inr rfl) (b_add (m := false) (b_add (m := false) (e_int pe_int) (e_callC C_law_things hr (by decide) (by rfl) (L2N.takes_of rfl rfl rfl rfl) (a_cons (e_var (pv 2)) a_nil))) (e_cb rLen_ok fLen_ok (by rfl) m_len (by decide +kernel) (a_cons (e_item rfl (e_var (pv 2)) (e_int pe_int)) a_nil))))
  (ss_cons (s_for (passes_of rfl) rfl (i_range1 (by rfl) m_range (a_cons (e_int pe_int) a_nil)) (g_name (pg_name (i := 5) sc_law.nd rfl (by first | exact Or.inl rfl | exact Or.inr rfl))) (ss_cons (s_set (i := 6) sc_law.nd rfl (by first | exact Or.inl rfl | exact Or.inr rfl) (e_callC C_law_some_edge hr (by decide) (by rfl) (L2N.takes_of rfl rfl rfl rfl) (a_cons (e_var (pv 1)) (a_cons (e_var (pv 4)) a_nil))))
  (ss_cons (s_set (i := 7) sc_law.nd rfl (by first | exact Or.inl rfl | exact Or.inr rfl) (b_mul (e_callC C_law_take hr (by decide) (by rfl) (L2N.takes_of rfl rfl rfl rfl) (a_cons (e_var (pv 1)) (a_cons (e_int pe_int) a_nil))) (e_ct call_int1 fInt1_ok (by rfl) m_int (by decide +kernel) (a_cons (e_gt (e_var (pv 4)) (e_int pe_int)) a_nil))))
  (ss_cons (s_setLc (m := false) (own := [("k", 12)]) (gt := (gName 12)) (i := 8) rfl sc_law.nd rfl rfl (sw_true rfl rfl rfl (by decide +kernel)) (i_range1 (by rfl) m_range (a_cons (e_var (pv 7)) a_nil)) (blkOk_by (by show blkC ["script", "box", "m", "net", "top", "turn", "edge", "many", "some", "tips", "due", "again", "k", "node"] (defScope s_law) _ _ = true; decide +kernel)) (fun _ _ _ _ _ => pg_name (i := 12) sc_law.nd rfl (by first | exact Or.inl rfl | exact Or.inr rfl)) (tg_name (by decide)) (fun _ _ _ _ _ => ts_nil) (fun _ _ _ _ _ => (b_add (m := false) (e_int pe_int) (e_callC C_law_take hr (by decide) (by rfl) no_tk (a_cons (e_var (pv 1)) (a_cons (b_sub (e_var (pv 4)) (e_int pe_int)) a_nil))))))
  (ss_cons (s_if (t_eq rfl hr.units (e_callC C_law_take hr (by decide) (by rfl) (L2N.takes_of rfl rfl rfl rfl) (a_cons (e_var (pv 1)) (a_cons (e_int pe_int) a_nil))) (e_int pe_int)) (ss_one (s_set (i := 8) sc_law.nd rfl (by first | exact Or.inl rfl | exact Or.inr rfl) (b_add (m := false) (e_slice (m := false) rfl (e_var (pv 8)) p_none (p_some (e_int pe_int))) (e_lc (m := false) (own := [("node", 13)]) (gt := (gName 13)) rfl sc_law.nd (i_range2 (by rfl) m_range (a_cons (e_int pe_int) (a_cons (b_add (m := false) (e_int pe_int) (e_callC C_law_things hr (by decide) (by rfl) (L2N.takes_of rfl rfl rfl rfl) (a_cons (e_var (pv 2)) a_nil))) a_nil))) (blkOk_by (by show blkC ["script", "box", "m", "net", "top", "turn", "edge", "many", "some", "tips", "due", "again", "k", "node"] (defScope s_law) _ _ = true; decide +kernel)) (fun _ _ _ _ _ => pg_name (i := 13) sc_law.nd rfl (by first | exact Or.inl rfl | exact Or.inr rfl)) (tg_name (by decide)) (fun _ _ _ _ _ => ts_nil) (fun _ _ _ _ _ => (e_var (pv 13)))))))
  ss_nil)
  (ss_cons (s_set (i := 9) sc_law.nd rfl (by first | exact Or.inl rfl | exact Or.inr rfl) (e_ct call_tuple_of fTuple_ok (by rfl) m_tuple (by decide +kernel) (a_cons (e_sortSet (m := false) rfl rfl (by rfl) m_sorted (by rfl) m_set (e_var (pv 8))) a_nil)))
  (ss_cons (s_set (i := 10) sc_law.nd rfl (by first | exact Or.inl rfl | exact Or.inr rfl) (e_callC C_law_local hr (by decide) (by rfl) (L2N.takes_of rfl rfl rfl rfl) (a_cons (e_var (pv 2)) (a_cons (e_var (pv 6)) (a_cons (e_ct call_list_of (fList_ok (m := false)) (by rfl) m_list (by decide +kernel) (a_cons (e_var (pv 9)) a_nil)) a_nil)))))
  (ss_one (s_for (passes_of rfl) rfl (i_range1 (by rfl) m_range (a_cons (e_int pe_int) a_nil)) (g_name (pg_name (i := 11) sc_law.nd rfl (by first | exact Or.inl rfl | exact Or.inr rfl))) (ss_one (s_if (t_not (t_val (e_callC C_law_same hr (by decide) (by rfl) (L2N.takes_of rfl rfl rfl rfl) (a_cons (e_callC C_local_table hr (by decide) (by rfl) (L2N.takes_of rfl rfl rfl rfl) (a_cons (e_var (pv 3)) (a_cons (e_var (pv 6)) (a_cons (e_var (pv 9)) a_nil)))) (a_cons (e_var (pv 10)) a_nil))))) (ss_one (s_ret (e_bl pe_bl)))
  ss_nil)))))))))))
  (ss_one (s_ret (e_callC C_law_same hr (by decide) (by rfl) (L2N.takes_of rfl rfl rfl rfl) (a_cons (e_lst (m := false) (a_cons (e_callC C_local_table hr (by decide) (by rfl) (L2N.takes_of rfl rfl rfl rfl) (a_cons (e_var (pv 3)) (a_cons (e_int pe_int) (a_cons (e_tup a_nil) a_nil)))) (a_cons (e_callC C_local_table hr (by decide) (by rfl) (L2N.takes_of rfl rfl rfl rfl) (a_cons (e_var (pv 3)) (a_cons (e_int pe_int) (a_cons (e_tup a_nil) a_nil)))) a_nil))) (a_cons (e_lst (m := false) (a_cons (e_int pe_int) (a_cons (e_int pe_int) a_nil))) a_nil))))))))))
end K23

namespace K23
open PySem PySem.Spec PyProof.Rows Gm
theorem two_le {n : Nat} (hn : n ≤ 10) : 2 ^ n ≤ 1024 := Nat.pow_le_pow_right (n := 2) (by decide) hn
theorem g1 {n : Nat} (hn : n ≤ 10) : gShl 1 (n : Int) = true := gShl_of (a := 1) (k := 1) (by decide) (by omega)
theorem sh1 (n : Nat) : (1 : Int) * 2 ^ ((n : Int).toNat) = ((2 ^ n : Nat) : Int) := by
  rw [Int.one_mul, Int.toNat_natCast]
  push_cast
  rfl
theorem full_of_eq {n : Nat} (hn : n ≤ 10) (h : Store) : F_full_of [.int n] h = .ok (.int ((2 ^ 2 ^ n - 1 : Nat) : Int)) h := by
  have e1 := g1 hn
  have e2 : gShl 1 ((2 ^ n : Nat) : Int) = true := gShl_of (a := 1) (k := 1) (by decide) (by have := two_le hn; omega)
  have e3 : 1 ≤ 2 ^ 2 ^ n := Nat.one_le_two_pow
  refine fn_eq [some (.int n)] rfl rfl ?_ rfl
  simp only [B_full_of, ev_ret, ev_bin, ev_k, ev_var, Res.bind_ok, List.getElem?_cons_zero, ev_iop, e1, if_true, sh1, e2, Res.out_ok, res_ret]
  congr 2
  omega
/-- the column of a thing -/
def col (n a : Nat) : Nat := ofB (fun i => i.testBit a) (2 ^ n)
theorem col_bit {n a i : Nat} : (col n a).testBit i = (decide (i < 2 ^ n) && i.testBit a) := ofB_bit _ _ _
theorem col_lt (n a : Nat) : col n a < 2 ^ 2 ^ n := ofB_lt _ _
theorem col_0 (a : Nat) : (2 ^ 2 ^ a - 1) <<< 2 ^ a = col (a + 1) a := by
  apply bits_ext
  intro i
  rw [col_bit, Nat.testBit_shiftLeft, Nat.testBit_two_pow_sub_one, Nat.pow_succ]
  by_cases h : i < 2 ^ a
  · rw [Nat.testBit_lt_two_pow h]
    simp; omega
  · have e : i = 2 ^ a + (i - 2 ^ a) := by omega
    by_cases h2 : i - 2 ^ a < 2 ^ a
    · have z : i.testBit a = true := by rw [e, Nat.testBit_two_pow_add_eq, Nat.testBit_lt_two_pow h2] <;> rfl
      have h3 : i < 2 ^ a * 2 := by omega
      have h4 : 2 ^ a ≤ i := by omega
      simp [z, h2, h3, h4]
    · have : ¬ i < 2 ^ a * 2 := by omega
      simp [h2, this]
theorem col_step {a m : Nat} (h : a < m) : col m a ||| col m a <<< 2 ^ m = col (m + 1) a := by
  apply bits_ext
  intro i
  rw [Nat.testBit_or, col_bit, Nat.testBit_shiftLeft, col_bit, col_bit, Nat.pow_succ]
  by_cases h1 : i < 2 ^ m
  · have h2 : ¬ 2 ^ m ≤ i := by omega
    have h3 : i < 2 ^ m * 2 := by omega
    simp [h1, h2, h3]
  · have e : i = 2 ^ m + (i - 2 ^ m) := by omega
    have z : i.testBit a = (i - 2 ^ m).testBit a := by
      conv => lhs; rw [e]
      exact Nat.testBit_two_pow_add_gt h _
    rw [z]
    have h2 : (i < 2 ^ m * 2) = (i - 2 ^ m < 2 ^ m) := by apply propext; omega
    have h3 : 2 ^ m ≤ i := by omega
    simp [h1, h2, h3]
theorem fuel_gt {k : Nat} (h : k ≤ 1000) : k < fuel := Nat.lt_of_le_of_lt h (by decide +kernel)
theorem col_loop {n a : Nat} (hn : n ≤ 10) (ha : a < n) (h : Store) : ∃ st' h', whileL (cTv (cBin oLt (cVar 4) (cBin oShl (cK (.int 1)) (cVar 0)))) (sSeq (sAug 3 oOr (cBin oShl (cVar 3) (cVar 4))) (sAug 4 oShl (cK (.int 1)))) fuel [some (.int n), some (.int a), some (.int (2 ^ a : Nat)), some (.int (col (a + 1) a : Nat)), some (.int (2 ^ (a + 1) : Nat))] h = .next st' h' ∧ h' = h ∧ st' = [some (.int n), some (.int a), some (.int (2 ^ a : Nat)), some (.int (col n a : Nat)), some (.int (2 ^ n : Nat))] := by
  have ha' : a ≤ 10 := by omega
  have w1 := two_le ha'
  have e1 := g1 ha'
  have e0 := g1 hn
  have e2 : gShl 1 ((2 ^ a : Nat) : Int) = true := gShl_of (a := 1) (k := 1) (by decide) (by omega)
  have p1 : 1 ≤ 2 ^ 2 ^ a := Nat.one_le_two_pow
  have e3 : ((2 ^ 2 ^ a : Nat) : Int) - 1 = ((2 ^ 2 ^ a - 1 : Nat) : Int) := by omega
  have e4 : gShl ((2 ^ 2 ^ a - 1 : Nat) : Int) ((2 ^ a : Nat) : Int) = true := gShl_of (k := 2 ^ a) (by omega) (by omega)
  have e5 : gMul 2 ((2 ^ a : Nat) : Int) = true := gMul_of (k := 2) (m := 11) (by decide) (by simp only [Int.natAbs_natCast]; omega) (by decide)
  have e6 : (2 : Int) * ((2 ^ a : Nat) : Int) = ((2 ^ (a + 1) : Nat) : Int) := by rw [Nat.pow_succ]; push_cast; omega
  have hmm : a + 1 + (n - (a + 1)) = n := by omega
  have key := whileL_run (ft := cTv (cBin oLt (cVar 4) (cBin oShl (cK (.int 1)) (cVar 0)))) (fb := sSeq (sAug 3 oOr (cBin oShl (cVar 3) (cVar 4))) (sAug 4 oShl (cK (.int 1))))
    (fun j st h1 => h1 = h ∧ st = [some (.int n), some (.int a), some (.int (2 ^ a : Nat)), some (.int (col (a + 1 + j) a : Nat)), some (.int (2 ^ (a + 1 + j) : Nat))]) (n - (a + 1))
    (fun j st h1 hj ⟨i1, i2⟩ => by
      subst i1 i2
      have hm : a + 1 + j < n := by omega
      have z1 : 2 ^ (a + 1 + j) < 2 ^ n := Nat.pow_lt_pow_right (by decide) hm
      have w2 := two_le hn
      have z2 : (((2 ^ (a + 1 + j) : Nat) : Int) < ((2 ^ n : Nat) : Int)) := by omega
      refine ⟨by simp only [ev_tv, ev_bin, ev_var, ev_k, Res.bind_ok, List.getElem?_cons_zero, List.getElem?_cons_succ, ev_iop, e0, if_true, sh1, ev_bop, decide_eq_true z2], _, _, ?_, rfl, rfl⟩
      have f1 : gShl (col (a + 1 + j) a : Nat) ((2 ^ (a + 1 + j) : Nat) : Int) = true := gShl_of (col_lt _ _) (by omega)
      have f2 : gShl ((2 ^ (a + 1 + j) : Nat) : Int) 1 = true := gShl_of (b := 1) (k := 10) (by omega) (by decide)
      have f3 : ((2 ^ (a + 1 + j) : Nat) : Int) * 2 ^ (1 : Int).toNat = ((2 ^ (a + 1 + (j + 1)) : Nat) : Int) := by
        rw [show a + 1 + (j + 1) = (a + 1 + j) + 1 by omega, Nat.pow_succ]
        push_cast
        rfl
      have f4 : (col (a + 1 + j) a : Nat) ||| (col (a + 1 + j) a) <<< 2 ^ (a + 1 + j) = col (a + 1 + (j + 1)) a := col_step (by omega)
      simp only [ev_seq, ev_aug, List.getElem?_cons_zero, List.getElem?_cons_succ, ev_bin, ev_var, ev_k, Res.bind_ok, ev_iop, f1, if_true, shl_n, bor_n, Res.out_ok, seq_next, f2, f3, f4, List.set_cons_succ, List.set_cons_zero])
    (fun st h1 ⟨i1, i2⟩ => by
      subst i1 i2
      have hm : a + 1 + (n - (a + 1)) = n := by omega
      rw [hm]
      simp only [ev_tv, ev_bin, ev_var, ev_k, Res.bind_ok, List.getElem?_cons_zero, List.getElem?_cons_succ, ev_iop, e0, if_true, sh1, ev_bop]
      simp)
    (n - (a + 1)) fuel 0 _ h (by omega) (fuel_gt (by omega)) ⟨rfl, rfl⟩
  rw [hmm] at key
  exact key
theorem column_of_eq {n a : Nat} (hn : n ≤ 10) (ha : a < n) (h : Store) : F_column_of [.int n, .int a] h = .ok (.int (col n a : Nat)) h := by
  have ha' : a ≤ 10 := by omega
  have w1 := two_le ha'
  have e1 := g1 ha'
  have e0 := g1 hn
  have e2 : gShl 1 ((2 ^ a : Nat) : Int) = true := gShl_of (a := 1) (k := 1) (by decide) (by omega)
  have p1 : 1 ≤ 2 ^ 2 ^ a := Nat.one_le_two_pow
  have e3 : ((2 ^ 2 ^ a : Nat) : Int) - 1 = ((2 ^ 2 ^ a - 1 : Nat) : Int) := by omega
  have e4 : gShl ((2 ^ 2 ^ a - 1 : Nat) : Int) ((2 ^ a : Nat) : Int) = true := gShl_of (k := 2 ^ a) (by omega) (by omega)
  have e5 : gMul 2 ((2 ^ a : Nat) : Int) = true := gMul_of (k := 2) (m := 11) (by decide) (by simp only [Int.natAbs_natCast]; omega) (by decide)
  have e6 : (2 : Int) * ((2 ^ a : Nat) : Int) = ((2 ^ (a + 1) : Nat) : Int) := by rw [Nat.pow_succ]; push_cast; omega
  obtain ⟨st', h', e7, rfl, rfl⟩ := col_loop hn ha h
  refine fn_eq [some (.int n), some (.int a), none, none, none] rfl rfl ?_ rfl
  simp only [B_column_of, ev_seq, ev_set, ev_bin, ev_k, ev_var, Res.bind_ok, List.getElem?_cons_zero, List.getElem?_cons_succ, ev_iop, e1, e2, e3, e4, e5, e6, if_true, sh1, shl_n, Res.out_ok, seq_next, List.set_cons_succ, List.set_cons_zero, col_0]
  rw [e7]
  simp only [seq_next, ev_ret, ev_var, List.getElem?_cons_zero, List.getElem?_cons_succ, Res.out_ok, res_ret]
theorem bit_eq {x a : Nat} (ha : a ≤ 2000) (h : Store) : F_law_bit [.int x, .int a] h = .ok (.int (if x.testBit a = true then 1 else 0 : Nat)) h := by
  have f1 : gShl 1 (a : Int) = true := gShl_of (a := 1) (k := 1) (by decide) (by omega)
  have f2 : gDiv (x : Int) ((2 ^ a : Nat) : Int) = true := gDiv_of (k := a + 1) (by have := Nat.pow_pos (n := a) (show 0 < 2 by decide); omega) (by rw [Int.natAbs_natCast, Nat.pow_succ]; have := Nat.pow_pos (n := a) (show 0 < 2 by decide); omega) (by omega)
  have f3 : ∀ i : Int, gMod i 2 = true := fun i => gMod_of (by decide)
  have f4 : ((x : Int) / ((2 ^ a : Nat) : Int)) % 2 = ((if x.testBit a = true then 1 else 0 : Nat) : Int) := by
    have e : x >>> a % 2 = if x.testBit a = true then 1 else 0 := by
      have e : x.testBit a = (1 &&& (x >>> a) != 0) := rfl
      rw [Nat.and_comm, Nat.and_one_is_mod] at e
      have l : (x >>> a) % 2 < 2 := Nat.mod_lt _ (by decide)
      by_cases h : (x >>> a) % 2 = 0
      · rw [e, h]; simp
      · have h : (x >>> a) % 2 = 1 := by omega
        rw [e, h]; simp
    rw [← e, Nat.shiftRight_eq_div_pow]
    push_cast
    rfl
  exact fn_eq [some (.int x), some (.int a)] rfl rfl (by simp only [ev_seq, ev_set, ev_bin, ev_cons, ev_nil, ev_var, ev_k, ev_call, ev_ret, ev_expr, ev_if, ev_tv, ev_tnot, ev_tand, ev_tor, ev_chain, ev_lst, ev_lstM, ev_tup, ev_cB, ev_lc, ev_wipe0, ev_wipe1, ev_alloc, ev_allocM, ev_sNil, ev_and, ev_not, ev_raise, seq_next, seq_ret, seq_exc, Res.bind_ok, Res.bind_exc, Res.out_ok, Res.out_exc, List.getElem?_cons_zero, List.getElem?_cons_succ, List.set_cons_succ, List.set_cons_zero, List.append_nil, List.nil_append, List.cons_append, if_true, Bool.false_eq_true, if_false, ev_iop, ev_bop, Bool.not_true, Bool.not_false, res_ret, res_next, res_exc, oAdd_int, oAddI_int, oNe_int, oEq_int, oNe_bl, beq_self_eq_true, ev_asg, ev_gtTup, ev_gtCons, ev_gtNil, ev_gtName, List.length_cons, List.length_nil, Nat.reduceAdd, Nat.zero_add, sz0, sz1, sz2, sz3, sz4, sz5, sz6, sz7, sz8, sz9, sz10, sz11, sz12, sz13, sz14, sz15, sz16, sz17, sz18, sz19, sz20, sz21, sz22, sz23, sz24, sz25, sz26, sz27, sz28, sz29, sz30, sz31, sz32, B_law_bit, f1, f2, f3, sh1, f4]) rfl
theorem same_is (n : Nat) : F_law_same n = sameF n := by
  induction n with
  | zero => rfl
  | succ n ih => unfold F_law_same sameF; rw [ih]; rfl
theorem same_eq {n : Nat} {x y : D} {h : Store} (s : Sm n x y) : F_law_same n [x, y] h = .ok (.bl true) h := by
  rw [same_is]
  exact sameF_ok s
theorem fn_ex {n k : Nat} {ds : List D} {fb : Ss} {h h' : Store} {d : D} (st : Slots) (hk : ds.length = k) (hs : startD n ds = st) (e : (fb st h).res = .ok d h') : ∃ h2, fnOf n k fb ds h = .ok d h2 := by
  unfold fnOf
  rw [if_pos hk, hs, e]
  unfold cleanD clean
  dsimp only
  split
  · exact ⟨_, rfl⟩
  · exact ⟨_, rfl⟩
theorem ofB_sum (f : Nat → Bool) : ∀ m, ((List.range m).map fun (r : Nat) => ((((if f r = true then 2 ^ r else 0 : Nat)) : Int))).sum = ((ofB f m : Nat) : Int)
  | 0 => rfl
  | m + 1 => by
    rw [List.range_succ, List.map_append, List.sum_append, ofB_sum f m]
    show _ = (((ofB f m + if f m = true then 2 ^ m else 0 : Nat)) : Int)
    simp
theorem take_is : F_law_take = takeF := rfl
theorem names_is : F_law_names = namesF := rfl
theorem net_is : F_law_net = netF := rfl
theorem init_is : F_Net___init__ = initF sNo sNo sNo sNo sNo sNo := rfl
theorem edge_is : F_law_some_edge = edgeF := rfl
end K23

namespace K23
open PySem PySem.Spec PyProof.Rows Gm
/-! what a node is worth in a row: none where the leaves do not tell it -/
def bD : Option Bool → D
  | none => .non
  | some b => .int (if b = true then 1 else 0 : Nat)
def leafV (tips : List Nat) (row v : Nat) : Option Bool := if v ∈ tips then some (row.testBit (tips.idxOf v)) else if v = 0 then some false else none
def sgV (vs : List (Option Bool)) (e : Nat) : Option Bool := match vs[e / 2]? with
  | some (some b) => some (b ^^ (e % 2 == 1))
  | _ => none
def gateV (vs : List (Option Bool)) (g : Nat × Nat) : Option Bool := match sgV vs g.1, sgV vs g.2 with
  | some a, some b => some (a && b)
  | _, _ => none
def stepV (tips : List Nat) (row : Nat) (vs : List (Option Bool)) (g : Nat × Nat) : List (Option Bool) := vs ++ [if vs.length ∈ tips then some (row.testBit (tips.idxOf vs.length)) else gateV vs g]
def baseV (tips : List Nat) (row first : Nat) : List (Option Bool) := (List.range first).map (leafV tips row)
def valV (tips : List Nat) (row first : Nat) (gs : List (Nat × Nat)) : List (Option Bool) := gs.foldl (stepV tips row) (baseV tips row first)
theorem foldl_len {tips : List Nat} {row : Nat} : ∀ (gs : List (Nat × Nat)) (vs : List (Option Bool)), (gs.foldl (stepV tips row) vs).length = vs.length + gs.length
  | [], vs => rfl
  | g :: gs, vs => by
    rw [List.foldl_cons, foldl_len gs, stepV, List.length_append, List.length_cons, List.length_cons]
    simp
    omega
theorem valV_len (tips : List Nat) (row first : Nat) (gs : List (Nat × Nat)) : (valV tips row first gs).length = first + gs.length := by
  rw [valV, foldl_len, baseV, List.length_map, List.length_range]
theorem valV_snoc (tips : List Nat) (row first : Nat) (gs : List (Nat × Nat)) (g : Nat × Nat) : valV tips row first (gs ++ [g]) = stepV tips row (valV tips row first gs) g := by
  rw [valV, List.foldl_append]
  rfl
/-- a value's table over all rows -/
def Told (tips : List Nat) (first : Nat) (gs : List (Nat × Nat)) (n v : Nat) : Option Nat → Prop
  | none => ∀ row, row < 2 ^ n → (valV tips row first gs)[v]? = some none
  | some T => T < 2 ^ 2 ^ n ∧ ∀ row, row < 2 ^ n → (valV tips row first gs)[v]? = some (some (T.testBit row))
theorem Told.snoc {tips : List Nat} {first n v : Nat} {gs : List (Nat × Nat)} {g : Nat × Nat} {t : Option Nat} (hv : v < first + gs.length) (h : Told tips first gs n v t) : Told tips first (gs ++ [g]) n v t := by
  have e : ∀ row, (valV tips row first (gs ++ [g]))[v]? = (valV tips row first gs)[v]? := fun row => by
    rw [valV_snoc, stepV, List.getElem?_append_left (by rw [valV_len]; exact hv)]
  cases t with
  | none => exact fun row hr => by rw [e]; exact h row hr
  | some T => exact ⟨h.1, fun row hr => by rw [e]; exact h.2 row hr⟩
theorem told_new {tips : List Nat} {first n : Nat} {gs : List (Nat × Nat)} {g : Nat × Nat} {t : Option Nat} (h : match t with
    | none => ∀ row, row < 2 ^ n → (if first + gs.length ∈ tips then some (row.testBit (tips.idxOf (first + gs.length))) else gateV (valV tips row first gs) g) = none
    | some T => T < 2 ^ 2 ^ n ∧ ∀ row, row < 2 ^ n → (if first + gs.length ∈ tips then some (row.testBit (tips.idxOf (first + gs.length))) else gateV (valV tips row first gs) g) = some (T.testBit row)) : Told tips first (gs ++ [g]) n (first + gs.length) t := by
  have e : ∀ row, (valV tips row first (gs ++ [g]))[first + gs.length]? = some (if first + gs.length ∈ tips then some (row.testBit (tips.idxOf (first + gs.length))) else gateV (valV tips row first gs) g) := fun row => by
    rw [valV_snoc, stepV, List.getElem?_append_right (by rw [valV_len]; exact Nat.le_refl _), valV_len, Nat.sub_self]
    rfl
  cases t with
  | none => exact fun row hr => by rw [e, h row hr]
  | some T => exact ⟨h.1, fun row hr => by rw [e, h.2 row hr]⟩
/-- a leaf's column -/
theorem told_leaf {tips : List Nat} {n v : Nat} (hn : n = tips.length) (hv : v ∈ tips) : col n (tips.idxOf v) < 2 ^ 2 ^ n ∧ ∀ row, row < 2 ^ n → some (row.testBit (tips.idxOf v)) = some ((col n (tips.idxOf v)).testBit row) :=
  ⟨col_lt _ _, fun row hr => by rw [col_bit, decide_eq_true hr, Bool.true_and]⟩
def tD : Option Nat → D
  | none => .non
  | some T => .int (T : Nat)
def sgT (n : Nat) (T e : Nat) : Nat := T ^^^ (if e % 2 = 1 then 2 ^ 2 ^ n - 1 else 0)
theorem sgT_bit {n T e row : Nat} (hr : row < 2 ^ n) : (sgT n T e).testBit row = (T.testBit row ^^ (e % 2 == 1)) := by
  unfold sgT
  rw [Nat.testBit_xor]
  by_cases z : e % 2 = 1
  · rw [if_pos z, Nat.testBit_two_pow_sub_one, decide_eq_true hr, z]
    rfl
  · rw [if_neg z, Nat.zero_testBit]
    have : (e % 2 == 1) = false := by simpa using z
    rw [this]
theorem sgT_lt {n T e : Nat} (h : T < 2 ^ 2 ^ n) : sgT n T e < 2 ^ 2 ^ n := by
  unfold sgT
  have one := Nat.one_le_two_pow (n := 2 ^ n)
  refine Nat.xor_lt_two_pow h ?_
  split <;> omega
/-- both sides told -/
theorem told_both {tips : List Nat} {first n : Nat} {gs : List (Nat × Nat)} {g : Nat × Nat} {A C : Nat} (h1 : Told tips first gs n (g.1 / 2) (some A)) (h2 : Told tips first gs n (g.2 / 2) (some C)) : (sgT n A g.1 &&& sgT n C g.2) < 2 ^ 2 ^ n ∧ ∀ row, row < 2 ^ n → gateV (valV tips row first gs) g = some ((sgT n A g.1 &&& sgT n C g.2).testBit row) :=
  ⟨Nat.lt_of_le_of_lt Nat.and_le_left (sgT_lt h1.1), fun row hr => by
    unfold gateV sgV
    rw [h1.2 row hr, h2.2 row hr]
    dsimp only
    rw [Nat.testBit_and, sgT_bit hr, sgT_bit hr]⟩
theorem told_no1 {tips : List Nat} {first n : Nat} {gs : List (Nat × Nat)} {g : Nat × Nat} (h1 : Told tips first gs n (g.1 / 2) none) : ∀ row, row < 2 ^ n → gateV (valV tips row first gs) g = none := fun row hr => by
  unfold gateV sgV
  rw [h1 row hr]
theorem told_no2 {tips : List Nat} {first n : Nat} {gs : List (Nat × Nat)} {g : Nat × Nat} (h1 : Told tips first gs n (g.2 / 2) none) : ∀ row, row < 2 ^ n → gateV (valV tips row first gs) g = none := fun row hr => by
  unfold gateV sgV
  rw [h1 row hr]
  dsimp only
  split <;> first | rfl | (rename_i h; cases h) | skip
  all_goals simp_all
end K23

namespace K23
open PySem PySem.Spec PyProof.Rows Gm
theorem meth_obj {n m : Str} {F : FnT} {fo : Ev D} {fs : Ev (List D)} {ff : List (Str × D)} {ds : List D} {st : Slots} {h h2 : Store} (e1 : fo st h = .ok (.obj n ff) h) (hm : ff.lookup m = none) (e2 : fs st h = .ok ds h2) : cMeth n m F [] fo fs st h = F (.obj n ff :: ds) h2 := by
  unfold cMeth
  rw [e1, Res.bind_ok]
  unfold asO
  dsimp only
  rw [if_pos ⟨rfl, hm⟩, e2, Res.bind_ok, List.append_nil]
theorem things_eq {N : Nt} (h : Store) : F_Net_things [N.o] h = .ok (.int (N.ins.length + N.lat.length : Nat)) h := by
  have f1 : cFld "Net" "ins" (cVar 0) [some N.o] h = .ok (.lst (N.ins.map dn)) h := fld_obj rfl rfl
  have f2 : cFld "Net" "memory" (cVar 0) [some N.o] h = .ok (.lst (N.lat.map pr)) h := fld_obj rfl rfl
  have c : (N.ins.length : Int) + (N.lat.length : Int) = ((N.ins.length + N.lat.length : Nat) : Int) := by omega
  exact fn_eq [some N.o] rfl rfl (by simp only [ev_seq, ev_set, ev_bin, ev_cons, ev_nil, ev_var, ev_k, ev_call, ev_ret, ev_expr, ev_if, ev_tv, ev_tnot, ev_tand, ev_tor, ev_chain, ev_lst, ev_lstM, ev_tup, ev_cB, ev_lc, ev_wipe0, ev_wipe1, ev_alloc, ev_allocM, ev_sNil, ev_and, ev_not, ev_raise, seq_next, seq_ret, seq_exc, Res.bind_ok, Res.bind_exc, Res.out_ok, Res.out_exc, List.getElem?_cons_zero, List.getElem?_cons_succ, List.set_cons_succ, List.set_cons_zero, List.append_nil, List.nil_append, List.cons_append, if_true, Bool.false_eq_true, if_false, ev_iop, ev_bop, Bool.not_true, Bool.not_false, res_ret, res_next, res_exc, oAdd_int, oAddI_int, oNe_int, oEq_int, oNe_bl, beq_self_eq_true, ev_asg, ev_gtTup, ev_gtCons, ev_gtNil, ev_gtName, List.length_cons, List.length_nil, Nat.reduceAdd, Nat.zero_add, sz0, sz1, sz2, sz3, sz4, sz5, sz6, sz7, sz8, sz9, sz10, sz11, sz12, sz13, sz14, sz15, sz16, sz17, sz18, sz19, sz20, sz21, sz22, sz23, sz24, sz25, sz26, sz27, sz28, sz29, sz30, sz31, sz32, B_Net_things, f1, f2, len_lst, List.length_map, c]) rfl
theorem gates_eq {N : Nt} (h : Store) : F_Net_gates [N.o] h = .ok (.lst (N.gat.map gp)) h := by
  have f1 : cFld "Net" "pairs" (cVar 0) [some N.o] h = .ok (.lst (N.gat.map gp)) h := fld_obj rfl rfl
  exact fn_eq [some N.o] rfl rfl (by simp only [ev_seq, ev_set, ev_bin, ev_cons, ev_nil, ev_var, ev_k, ev_call, ev_ret, ev_expr, ev_if, ev_tv, ev_tnot, ev_tand, ev_tor, ev_chain, ev_lst, ev_lstM, ev_tup, ev_cB, ev_lc, ev_wipe0, ev_wipe1, ev_alloc, ev_allocM, ev_sNil, ev_and, ev_not, ev_raise, seq_next, seq_ret, seq_exc, Res.bind_ok, Res.bind_exc, Res.out_ok, Res.out_exc, List.getElem?_cons_zero, List.getElem?_cons_succ, List.set_cons_succ, List.set_cons_zero, List.append_nil, List.nil_append, List.cons_append, if_true, Bool.false_eq_true, if_false, ev_iop, ev_bop, Bool.not_true, Bool.not_false, res_ret, res_next, res_exc, oAdd_int, oAddI_int, oNe_int, oEq_int, oNe_bl, beq_self_eq_true, ev_asg, ev_gtTup, ev_gtCons, ev_gtNil, ev_gtName, List.length_cons, List.length_nil, Nat.reduceAdd, Nat.zero_add, sz0, sz1, sz2, sz3, sz4, sz5, sz6, sz7, sz8, sz9, sz10, sz11, sz12, sz13, sz14, sz15, sz16, sz17, sz18, sz19, sz20, sz21, sz22, sz23, sz24, sz25, sz26, sz27, sz28, sz29, sz30, sz31, sz32, B_Net_gates, f1, list_lst]) rfl
def gof (first : Nat) (p : (Nat × Nat) × Nat) : D := .tup [.int (first + p.2 : Nat), .int (p.1.1 : Nat), .int (p.1.2 : Nat)]
theorem enum_is {α : Type} (f : α → D) (l : List α) : enumD (l.map f) = l.zipIdx.map fun p => .tup [.int (p.2 : Nat), f p.1] := by
  unfold enumD
  apply List.ext_getElem?
  intro i
  rw [List.getElem?_mapIdx, List.getElem?_map, List.getElem?_map, List.getElem?_zipIdx]
  cases l[i]? <;> simp
theorem gates_of_eq {N : Nt} (fw : N.Few) (h : Store) : F_gates_of [N.o] h = .ok (.lst (N.gat.zipIdx.map (gof N.first))) h := by
  have b3 := fw.gat
  have m1 : cMeth "Net" "things" F_Net_things [] (cVar 0) cNil [some N.o, none, none, none, none] h = .ok (.int (N.ins.length + N.lat.length : Nat)) h := by
    rw [meth_obj (ff := N.fs) (ds := []) (h2 := h) rfl rfl rfl]
    exact things_eq h
  have m2 : cMeth "Net" "gates" F_Net_gates [] (cVar 0) cNil [some N.o, some (.int (N.first : Nat)), none, none, none] h = .ok (.lst (N.gat.map gp)) h := by
    rw [meth_obj (ff := N.fs) (ds := []) (h2 := h) rfl rfl rfl]
    exact gates_eq h
  have c : (1 : Int) + ((N.ins.length + N.lat.length : Nat) : Int) = (N.first : Int) := by
    unfold Nt.first
    omega
  have it : iEnumD (cCons (cMeth "Net" "gates" F_Net_gates [] (cVar 0) cNil) cNil) [some N.o, some (.int (N.first : Nat)), none, none, none] h = .ok (N.gat.zipIdx.map fun p => .tup [.int (p.2 : Nat), gp p.1]) h := by
    rw [← enum_is]
    unfold iEnumD
    rw [ev_cons, m2, Res.bind_ok, ev_nil, Res.bind_ok, Res.bind_ok]
    rfl
  have sl : (N.gat.zipIdx.map fun p => D.tup [.int (p.2 : Nat), gp p.1]).length ≤ sizeLine := small_line (by rw [List.length_map, List.length_zipIdx]; omega)
  have e := lcL_all1 (fg := fgTup 2 (fgCons (fName 2) (fgCons (fgTup 2 (fgCons (fName 4) (fgCons (fName 3) fgNil))) fgNil))) (ft := cYes) (fe := cTup (cCons (cBin (oAdd false) (cVar 1) (cVar 2)) (cCons (cVar 4) (cCons (cVar 3) cNil)))) (st0 := [some N.o, some (.int (N.first : Nat)), none, none, none]) (h := h) (f := fun p => .tup [.int (p.2 : Nat), gp p.1]) (q := gof N.first) N.gat.zipIdx fun p _ => by
    have c : (N.first : Int) + (p.2 : Int) = ((N.first + p.2 : Nat) : Int) := by omega
    refine ⟨[some N.o, some (.int (N.first : Nat)), some (.int (p.2 : Nat)), some (.int (p.1.2 : Nat)), some (.int (p.1.1 : Nat))], rfl, rfl, ?_⟩
    simp only [ev_seq, ev_set, ev_bin, ev_cons, ev_nil, ev_var, ev_k, ev_call, ev_ret, ev_expr, ev_if, ev_tv, ev_tnot, ev_tand, ev_tor, ev_chain, ev_lst, ev_lstM, ev_tup, ev_cB, ev_lc, ev_wipe0, ev_wipe1, ev_alloc, ev_allocM, ev_sNil, ev_and, ev_not, ev_raise, seq_next, seq_ret, seq_exc, Res.bind_ok, Res.bind_exc, Res.out_ok, Res.out_exc, List.getElem?_cons_zero, List.getElem?_cons_succ, List.set_cons_succ, List.set_cons_zero, List.append_nil, List.nil_append, List.cons_append, if_true, Bool.false_eq_true, if_false, ev_iop, ev_bop, Bool.not_true, Bool.not_false, res_ret, res_next, res_exc, oAdd_int, oAddI_int, oNe_int, oEq_int, oNe_bl, beq_self_eq_true, ev_asg, ev_gtTup, ev_gtCons, ev_gtNil, ev_gtName, List.length_cons, List.length_nil, Nat.reduceAdd, Nat.zero_add, sz0, sz1, sz2, sz3, sz4, sz5, sz6, sz7, sz8, sz9, sz10, sz11, sz12, sz13, sz14, sz15, sz16, sz17, sz18, sz19, sz20, sz21, sz22, sz23, sz24, sz25, sz26, sz27, sz28, sz29, sz30, sz31, sz32, c]
    rfl
  exact fn_eq [some N.o, none, none, none, none] rfl rfl (by simp only [ev_seq, ev_set, ev_bin, ev_cons, ev_nil, ev_var, ev_k, ev_call, ev_ret, ev_expr, ev_if, ev_tv, ev_tnot, ev_tand, ev_tor, ev_chain, ev_lst, ev_lstM, ev_tup, ev_cB, ev_lc, ev_wipe0, ev_wipe1, ev_alloc, ev_allocM, ev_sNil, ev_and, ev_not, ev_raise, seq_next, seq_ret, seq_exc, Res.bind_ok, Res.bind_exc, Res.out_ok, Res.out_exc, List.getElem?_cons_zero, List.getElem?_cons_succ, List.set_cons_succ, List.set_cons_zero, List.append_nil, List.nil_append, List.cons_append, if_true, Bool.false_eq_true, if_false, ev_iop, ev_bop, Bool.not_true, Bool.not_false, res_ret, res_next, res_exc, oAdd_int, oAddI_int, oNe_int, oEq_int, oNe_bl, beq_self_eq_true, ev_asg, ev_gtTup, ev_gtCons, ev_gtNil, ev_gtName, List.length_cons, List.length_nil, Nat.reduceAdd, Nat.zero_add, sz0, sz1, sz2, sz3, sz4, sz5, sz6, sz7, sz8, sz9, sz10, sz11, sz12, sz13, sz14, sz15, sz16, sz17, sz18, sz19, sz20, sz21, sz22, sz23, sz24, sz25, sz26, sz27, sz28, sz29, sz30, sz31, sz32, B_gates_of, m1, c, it, sl, e]) rfl
end K23

namespace K23
open PySem PySem.Spec PyProof.Rows Gm
theorem dcL_map {α : Type} {fg : D → Slots → Option Slots} {fk fv : Ev D} {st0 : Slots} {h : Store} {f : α → D} {k : α → L2.Key} {d : α → D} : ∀ (xs : List α) (acc : List (L2.Key × D)), (∀ x ∈ xs, ∃ st1 y, fg (f x) st0 = some st1 ∧ fk st1 h = .ok y h ∧ keyD y = some (k x) ∧ fv st1 h = .ok (d x) h) → (acc.map (·.1) ++ xs.map k).Nodup →
    dcL fg cYes fk fv st0 (xs.map f) acc h = .ok (acc ++ xs.map fun x => (k x, d x)) h
  | [], acc, _, _ => by
    show Res.ok acc h = Res.ok (acc ++ []) h
    rw [List.append_nil]
  | x :: xs, acc, H, nd => by
    obtain ⟨st1, y, e1, e2, e3, e4⟩ := H x (by simp)
    have new : putKD acc (k x) (d x) = acc ++ [(k x, d x)] := by
      unfold putKD
      have no : (acc.any fun p => decide (p.1 = k x)) = false := by
        rw [List.any_eq_false]
        intro p hp z
        have z := of_decide_eq_true z
        have q := (List.nodup_append.mp nd).2.2 p.1 (List.mem_map.mpr ⟨p, hp, rfl⟩) (k x) (by simp)
        exact q z
      rw [no, if_neg (by decide)]
    have nd2 : ((acc ++ [(k x, d x)]).map (·.1) ++ xs.map k).Nodup := by
      rw [List.map_append, List.append_assoc]
      exact nd
    have ih := dcL_map (fg := fg) (fk := fk) (fv := fv) (st0 := st0) (f := f) xs (acc ++ [(k x, d x)]) (fun x hx => H x (by simp [hx])) nd2
    show dcL fg cYes fk fv st0 (f x :: xs.map f) acc h = _
    unfold dcL
    rw [e1]
    dsimp only
    have c1 : (cYes st1 h).sure = .ok true h := rfl
    rw [c1, Res.bind_ok, if_pos rfl, e2, Res.sure_ok, Res.bind_ok, e4, Res.sure_ok, Res.bind_ok, e3]
    dsimp only
    rw [new, ih, List.append_assoc]
    rfl
def PD (n : Nat) (tips : List Nat) (k : Nat) : List (L2.Key × D) := (tips.zipIdx k).map fun p => ((Sum.inl (p.1 : Int) : L2.Key), D.int (col n p.2 : Nat))
theorem PD_get (n v : Nat) : ∀ (tips : List Nat) (k : Nat), getKD (PD n tips k) (Sum.inl (v : Int)) = if v ∈ tips then some (.int (col n (k + tips.idxOf v) : Nat)) else none
  | [], k => rfl
  | a :: tips, k => by
    have ih := PD_get n v tips (k + 1)
    have e : PD n (a :: tips) k = ((Sum.inl (a : Int) : L2.Key), D.int (col n k : Nat)) :: PD n tips (k + 1) := by
      unfold PD
      rw [List.zipIdx_cons]
      rfl
    rw [e]
    by_cases z : a = v
    · subst z
      have q : getKD (((Sum.inl (a : Int) : L2.Key), D.int (col n k : Nat)) :: PD n tips (k + 1)) (Sum.inl (a : Int)) = some (.int (col n k : Nat)) := by
        unfold getKD
        rw [List.find?_cons_of_pos (by simp)]
        rfl
      rw [q, if_pos (by simp), List.idxOf_cons_self]
      rfl
    · have q : getKD (((Sum.inl (a : Int) : L2.Key), D.int (col n k : Nat)) :: PD n tips (k + 1)) (Sum.inl (v : Int)) = getKD (PD n tips (k + 1)) (Sum.inl (v : Int)) := by
        unfold getKD
        rw [List.find?_cons_of_neg (by
          intro w
          have w := of_decide_eq_true w
          have w : (a : Int) = (v : Int) := Sum.inl.inj w
          exact z (by omega))]
      rw [q, ih]
      have m : (v ∈ a :: tips) ↔ v ∈ tips := by
        rw [List.mem_cons]
        constructor
        · rintro (rfl | w)
          · exact absurd rfl z
          · exact w
        · exact .inr
      by_cases w : v ∈ tips
      · have ix : (a :: tips).idxOf v = tips.idxOf v + 1 := by
          rw [List.idxOf_cons, show (a == v) = false by simpa using z]
          rfl
        rw [if_pos w, if_pos (m.mpr w), ix, show k + 1 + tips.idxOf v = k + (tips.idxOf v + 1) by omega]
      · rw [if_neg w, if_neg (fun y => w (m.mp y))]
def leafT (n : Nat) (tips : List Nat) (v : Nat) : Option Nat := if v ∈ tips then some (col n (tips.idxOf v)) else if v = 0 then some 0 else none
theorem leaf_told {tips : List Nat} {first n v : Nat} (hn : n = tips.length) (hv : v < first) : Told tips first [] n v (leafT n tips v) := by
  have e : ∀ row, (valV tips row first [])[v]? = some (leafV tips row v) := fun row => by
    show ((List.range first).map (leafV tips row))[v]? = _
    rw [List.getElem?_map, List.getElem?_range hv]
    rfl
  unfold leafT
  by_cases z : v ∈ tips
  · rw [if_pos z]
    obtain ⟨t1, t2⟩ := told_leaf hn z
    refine ⟨t1, fun row hr => ?_⟩
    rw [e, leafV, if_pos z, t2 row hr]
  · rw [if_neg z]
    by_cases y : v = 0
    · rw [if_pos y]
      refine ⟨Nat.pow_pos (by decide), fun row hr => ?_⟩
      rw [e, leafV, if_neg z, if_pos y, Nat.zero_testBit]
    · rw [if_neg y]
      intro row hr
      rw [e, leafV, if_neg z, if_neg y]
theorem get_place {n v : Nat} {tips : List Nat} {st : Slots} {h : Store} {f1 f2 f3 : Ev D} (e1 : f1 st h = .ok (.dct (PD n tips 0)) h) (e2 : f2 st h = .ok (.int (v : Nat)) h) (e3 : f3 st h = .ok (if v = 0 then .int 0 else .non) h) : cDget2 f1 f2 f3 st h = .ok (tD (leafT n tips v)) h := by
  have g := PD_get n v tips 0
  rw [Nat.zero_add] at g
  unfold cDget2
  have k1 : asK h (D.dct (PD n tips 0)) = some (PD n tips 0) := rfl
  rw [e1, Res.bind_ok, k1]
  dsimp only
  rw [e2, Res.bind_ok, e3, Res.bind_ok, k1]
  show Res.ok ((getKD (PD n tips 0) (Sum.inl (v : Int))).getD (if v = 0 then .int 0 else .non)) h = _
  rw [g]
  unfold leafT
  by_cases z : v ∈ tips
  · rw [if_pos z, if_pos z]
    rfl
  · rw [if_neg z, if_neg z]
    by_cases y : v = 0
    · rw [if_pos y, if_pos y]
      rfl
    · rw [if_neg y, if_neg y]
      rfl
theorem din_place {n v : Nat} {tips : List Nat} {h : Store} : oDin (.int (v : Nat)) (.dct (PD n tips 0)) h = .ok (.bl (decide (v ∈ tips))) h := by
  have g := PD_get n v tips 0
  show Res.ok (D.bl (getKD (PD n tips 0) (Sum.inl (v : Int))).isSome) h = _
  rw [g]
  by_cases z : v ∈ tips
  · rw [if_pos z, decide_eq_true z]
    rfl
  · rw [if_neg z, decide_eq_false z]
    rfl
theorem dget_place {n v : Nat} {tips : List Nat} {h : Store} (z : v ∈ tips) : oDget (.dct (PD n tips 0)) (.int (v : Nat)) h = .ok (.int (col n (tips.idxOf v) : Nat)) h := by
  have g := PD_get n v tips 0
  rw [if_pos z, Nat.zero_add] at g
  show (match getKD (PD n tips 0) (Sum.inl (v : Int)) with
    | some d => Res.ok d h
    | none => .no) = _
  rw [g]
/-! the live list -/
theorem at_last {l : List D} {i : Nat} {d : D} {h : Store} (e : l[i]? = some d) : oIx (.ref h.length) (.int (i : Nat)) (h ++ [some (.lst l)]) = .ok d (h ++ [some (.lst l)]) := by
  obtain ⟨hi, ed⟩ := List.getElem?_eq_some_iff.mp e
  have r : asR (h ++ [some (Cell.lst l)]) (D.ref h.length) = some l := by
    unfold asR
    dsimp only
    rw [last_at]
  unfold oIx
  dsimp only
  rw [r]
  dsimp only
  rw [atI_nat hi, ed]
theorem at_plain {l : List D} {i : Nat} {d : D} {h : Store} (e : l[i]? = some d) : oIx (.lst l) (.int (i : Nat)) h = .ok d h := by
  obtain ⟨hi, ed⟩ := List.getElem?_eq_some_iff.mp e
  have r : asR h (.lst l) = some l := rfl
  unfold oIx
  dsimp only
  rw [r]
  dsimp only
  rw [atI_nat hi, ed]
theorem shr1 (e : Nat) {h : Store} : oShr (.int (e : Nat)) (.int 1) h = .ok (.int (e / 2 : Nat)) h := by
  have g : gShr (e : Int) 1 = true := gShr_of (e : Int) 1
  have v : (e : Int) / 2 ^ ((1 : Int).toNat) = ((e / 2 : Nat) : Int) := by
    have q := shr_n e 1
    rw [Nat.shiftRight_eq_div_pow] at q
    exact q
  simp only [ev_iop, g, if_true, v]
end K23

namespace K23
open PySem PySem.Spec PyProof.Rows Gm
theorem and1 (e : Nat) {h : Store} : oAnd (.int (e : Nat)) (.int 1) h = .ok (.int (e % 2 : Nat)) h := by
  have v : Builtin.bitAnd (e : Int) 1 = ((e % 2 : Nat) : Int) := by
    have q := band_n e 1
    rw [Nat.and_one_is_mod] at q
    exact q
  simp only [ev_iop, v]
theorem odd_test {f : Ev D} {e : Nat} {st : Slots} {h : Store} (he : f st h = .ok (.int (e : Nat)) h) : cTr (cBin oAnd f (cK (.int 1))) st h = .ok (decide (e % 2 = 1)) h := by
  have q : (cBin oAnd f (cK (.int 1))) st h = .ok (.int (e % 2 : Nat)) h := by
    rw [ev_bin, he, Res.bind_ok, ev_k, Res.bind_ok, and1]
  unfold cTr
  rw [q, Res.bind_ok]
  have z : e % 2 = 0 ∨ e % 2 = 1 := by omega
  rcases z with z | z <;> rw [z] <;> rfl
theorem ev_cif2 (t : Ev Bool) (f k : Ev D) {st : Slots} {h : Store} : cIf t f k st h = (t st h).bind fun b h1 => if b = true then f st h1 else k st h1 := rfl
theorem signed_eq {l : List D} {e n A : Nat} {h : Store} (hl : l[e / 2]? = some (.int (A : Nat))) : F_signed [.ref h.length, .int (e : Nat), .int (2 ^ 2 ^ n - 1 : Nat)] (h ++ [some (.lst l)]) = .ok (.int (sgT n A e : Nat)) (h ++ [some (.lst l)]) := by
  have a := at_last (h := h) hl
  have t : cTr (cBin oAnd (cVar 1) (cK (.int 1))) [some (.ref h.length), some (.int (e : Nat)), some (.int (2 ^ 2 ^ n - 1 : Nat))] (h ++ [some (.lst l)]) = .ok (decide (e % 2 = 1)) (h ++ [some (.lst l)]) := odd_test rfl
  refine fn_eq [some (.ref h.length), some (.int (e : Nat)), some (.int (2 ^ 2 ^ n - 1 : Nat))] rfl rfl ?_ rfl
  unfold sgT
  by_cases z : e % 2 = 1
  · rw [decide_eq_true z] at t
    rw [if_pos z]
    simp only [ev_seq, ev_set, ev_bin, ev_cons, ev_nil, ev_var, ev_k, ev_call, ev_ret, ev_expr, ev_if, ev_tv, ev_tnot, ev_tand, ev_tor, ev_chain, ev_lst, ev_lstM, ev_tup, ev_cB, ev_lc, ev_wipe0, ev_wipe1, ev_alloc, ev_allocM, ev_sNil, ev_and, ev_not, ev_raise, seq_next, seq_ret, seq_exc, Res.bind_ok, Res.bind_exc, Res.out_ok, Res.out_exc, List.getElem?_cons_zero, List.getElem?_cons_succ, List.set_cons_succ, List.set_cons_zero, List.append_nil, List.nil_append, List.cons_append, if_true, Bool.false_eq_true, if_false, ev_iop, ev_bop, Bool.not_true, Bool.not_false, res_ret, res_next, res_exc, oAdd_int, oAddI_int, oNe_int, oEq_int, oNe_bl, beq_self_eq_true, ev_asg, ev_gtTup, ev_gtCons, ev_gtNil, ev_gtName, List.length_cons, List.length_nil, Nat.reduceAdd, Nat.zero_add, sz0, sz1, sz2, sz3, sz4, sz5, sz6, sz7, sz8, sz9, sz10, sz11, sz12, sz13, sz14, sz15, sz16, sz17, sz18, sz19, sz20, sz21, sz22, sz23, sz24, sz25, sz26, sz27, sz28, sz29, sz30, sz31, sz32, B_signed, shr1, a, ev_cif2, t, bxor_n]
  · rw [decide_eq_false z] at t
    rw [if_neg z]
    have x0 : Builtin.bitXor (A : Int) 0 = ((A ^^^ 0 : Nat) : Int) := bxor_n A 0
    simp only [ev_seq, ev_set, ev_bin, ev_cons, ev_nil, ev_var, ev_k, ev_call, ev_ret, ev_expr, ev_if, ev_tv, ev_tnot, ev_tand, ev_tor, ev_chain, ev_lst, ev_lstM, ev_tup, ev_cB, ev_lc, ev_wipe0, ev_wipe1, ev_alloc, ev_allocM, ev_sNil, ev_and, ev_not, ev_raise, seq_next, seq_ret, seq_exc, Res.bind_ok, Res.bind_exc, Res.out_ok, Res.out_exc, List.getElem?_cons_zero, List.getElem?_cons_succ, List.set_cons_succ, List.set_cons_zero, List.append_nil, List.nil_append, List.cons_append, if_true, Bool.false_eq_true, if_false, ev_iop, ev_bop, Bool.not_true, Bool.not_false, res_ret, res_next, res_exc, oAdd_int, oAddI_int, oNe_int, oEq_int, oNe_bl, beq_self_eq_true, ev_asg, ev_gtTup, ev_gtCons, ev_gtNil, ev_gtName, List.length_cons, List.length_nil, Nat.reduceAdd, Nat.zero_add, sz0, sz1, sz2, sz3, sz4, sz5, sz6, sz7, sz8, sz9, sz10, sz11, sz12, sz13, sz14, sz15, sz16, sz17, sz18, sz19, sz20, sz21, sz22, sz23, sz24, sz25, sz26, sz27, sz28, sz29, sz30, sz31, sz32, B_signed, shr1, a, ev_cif2, t, x0]
def newT (n : Nat) (tips : List Nat) (ts : List (Option Nat)) (v : Nat) (g : Nat × Nat) : Option Nat := if v ∈ tips then some (col n (tips.idxOf v)) else match ts[g.1 / 2]?, ts[g.2 / 2]? with
  | some (some A), some (some C) => some (sgT n A g.1 &&& sgT n C g.2)
  | _, _ => none
def LB : Ss := (sIf (cTv (cBin oDin (cVar 6) (cVar 4))) (sExpr (cMt "list" mAppend (cVar 5) (cCons (cBin oDget (cVar 4) (cVar 6)) cNil)))
  (sIf (cTor (cTv (cBin oIsN (cBin oIx (cVar 5) (cBin oShr (cVar 7) (cK (.int 1)))) (cK .non))) (cTv (cBin oIsN (cBin oIx (cVar 5) (cBin oShr (cVar 8) (cK (.int 1)))) (cK .non)))) (sExpr (cMt "list" mAppend (cVar 5) (cCons (cK .non) cNil)))
  (sExpr (cMt "list" mAppend (cVar 5) (cCons (cBin oAnd (cCall F_signed [] (cCons (cVar 5) (cCons (cVar 7) (cCons (cVar 3) cNil)))) (cCall F_signed [] (cCons (cVar 5) (cCons (cVar 8) (cCons (cVar 3) cNil))))) cNil)))))
theorem isN_t (t : Option Nat) {h : Store} : oIsN (tD t) .non h = .ok (.bl t.isNone) h := by cases t <;> rfl
theorem lb_eq {n v : Nat} {tips : List Nat} {ts : List (Option Nat)} {g : Nat × Nat} {h : Store} {s0 s1 s2 s9 : Option D} (h1 : g.1 / 2 < ts.length) (h2 : g.2 / 2 < ts.length) (hl : ts.length ≤ 1000) :
    LB [s0, s1, s2, some (.int (2 ^ 2 ^ n - 1 : Nat)), some (.dct (PD n tips 0)), some (.ref h.length), some (.int (v : Nat)), some (.int (g.1 : Nat)), some (.int (g.2 : Nat)), s9] (h ++ [some (.lst (ts.map tD))]) =
      .next [s0, s1, s2, some (.int (2 ^ 2 ^ n - 1 : Nat)), some (.dct (PD n tips 0)), some (.ref h.length), some (.int (v : Nat)), some (.int (g.1 : Nat)), some (.int (g.2 : Nat)), s9] (h ++ [some (.lst ((ts ++ [newT n tips ts v g]).map tD))]) := by
  have sl : (ts.map tD).length < sizeLine := by
    have q : (1001 : Nat) ≤ sizeLine := small_line (by decide)
    rw [List.length_map]
    omega
  have fin : ∀ (x : Option Nat) (fs : Ev (List D)), newT n tips ts v g = x → fs [s0, s1, s2, some (.int (2 ^ 2 ^ n - 1 : Nat)), some (.dct (PD n tips 0)), some (.ref h.length), some (.int (v : Nat)), some (.int (g.1 : Nat)), some (.int (g.2 : Nat)), s9] (h ++ [some (.lst (ts.map tD))]) = .ok [tD x] (h ++ [some (.lst (ts.map tD))]) →
      cMt "list" mAppend (cVar 5) fs [s0, s1, s2, some (.int (2 ^ 2 ^ n - 1 : Nat)), some (.dct (PD n tips 0)), some (.ref h.length), some (.int (v : Nat)), some (.int (g.1 : Nat)), some (.int (g.2 : Nat)), s9] (h ++ [some (.lst (ts.map tD))]) = .ok .non (h ++ [some (.lst ((ts ++ [newT n tips ts v g]).map tD))]) := fun x fs e1 e2 => by
    rw [app_last (d := tD x) rfl e2 sl, e1, List.map_append]
    rfl
  have d1 := din_place (n := n) (v := v) (tips := tips) (h := h ++ [some (.lst (ts.map tD))])
  unfold LB
  by_cases z : v ∈ tips
  · rw [decide_eq_true z] at d1
    have f := fin (some (col n (tips.idxOf v))) (cCons (cBin oDget (cVar 4) (cVar 6)) cNil) (by unfold newT; rw [if_pos z]) (by simp only [ev_seq, ev_set, ev_bin, ev_cons, ev_nil, ev_var, ev_k, ev_call, ev_ret, ev_expr, ev_if, ev_tv, ev_tnot, ev_tand, ev_tor, ev_chain, ev_lst, ev_lstM, ev_tup, ev_cB, ev_lc, ev_wipe0, ev_wipe1, ev_alloc, ev_allocM, ev_sNil, ev_and, ev_not, ev_raise, seq_next, seq_ret, seq_exc, Res.bind_ok, Res.bind_exc, Res.out_ok, Res.out_exc, List.getElem?_cons_zero, List.getElem?_cons_succ, List.set_cons_succ, List.set_cons_zero, List.append_nil, List.nil_append, List.cons_append, if_true, Bool.false_eq_true, if_false, ev_iop, ev_bop, Bool.not_true, Bool.not_false, res_ret, res_next, res_exc, oAdd_int, oAddI_int, oNe_int, oEq_int, oNe_bl, beq_self_eq_true, ev_asg, ev_gtTup, ev_gtCons, ev_gtNil, ev_gtName, List.length_cons, List.length_nil, Nat.reduceAdd, Nat.zero_add, sz0, sz1, sz2, sz3, sz4, sz5, sz6, sz7, sz8, sz9, sz10, sz11, sz12, sz13, sz14, sz15, sz16, sz17, sz18, sz19, sz20, sz21, sz22, sz23, sz24, sz25, sz26, sz27, sz28, sz29, sz30, sz31, sz32, dget_place z]; rfl)
    simp only [ev_seq, ev_set, ev_bin, ev_cons, ev_nil, ev_var, ev_k, ev_call, ev_ret, ev_expr, ev_if, ev_tv, ev_tnot, ev_tand, ev_tor, ev_chain, ev_lst, ev_lstM, ev_tup, ev_cB, ev_lc, ev_wipe0, ev_wipe1, ev_alloc, ev_allocM, ev_sNil, ev_and, ev_not, ev_raise, seq_next, seq_ret, seq_exc, Res.bind_ok, Res.bind_exc, Res.out_ok, Res.out_exc, List.getElem?_cons_zero, List.getElem?_cons_succ, List.set_cons_succ, List.set_cons_zero, List.append_nil, List.nil_append, List.cons_append, if_true, Bool.false_eq_true, if_false, ev_iop, ev_bop, Bool.not_true, Bool.not_false, res_ret, res_next, res_exc, oAdd_int, oAddI_int, oNe_int, oEq_int, oNe_bl, beq_self_eq_true, ev_asg, ev_gtTup, ev_gtCons, ev_gtNil, ev_gtName, List.length_cons, List.length_nil, Nat.reduceAdd, Nat.zero_add, sz0, sz1, sz2, sz3, sz4, sz5, sz6, sz7, sz8, sz9, sz10, sz11, sz12, sz13, sz14, sz15, sz16, sz17, sz18, sz19, sz20, sz21, sz22, sz23, sz24, sz25, sz26, sz27, sz28, sz29, sz30, sz31, sz32, d1, f]
  · rw [decide_eq_false z] at d1
    obtain ⟨t1, e1⟩ : ∃ t, ts[g.1 / 2]? = some t := ⟨_, List.getElem?_eq_getElem h1⟩
    obtain ⟨t2, e2⟩ : ∃ t, ts[g.2 / 2]? = some t := ⟨_, List.getElem?_eq_getElem h2⟩
    have r1 := at_last (h := h) (l := ts.map tD) (i := g.1 / 2) (d := tD t1) (by rw [List.getElem?_map, e1]; rfl)
    have r2 := at_last (h := h) (l := ts.map tD) (i := g.2 / 2) (d := tD t2) (by rw [List.getElem?_map, e2]; rfl)
    cases t1 with
    | none =>
      have f := fin none (cCons (cK .non) cNil) (by unfold newT; rw [if_neg z, e1]) rfl
      simp only [ev_seq, ev_set, ev_bin, ev_cons, ev_nil, ev_var, ev_k, ev_call, ev_ret, ev_expr, ev_if, ev_tv, ev_tnot, ev_tand, ev_tor, ev_chain, ev_lst, ev_lstM, ev_tup, ev_cB, ev_lc, ev_wipe0, ev_wipe1, ev_alloc, ev_allocM, ev_sNil, ev_and, ev_not, ev_raise, seq_next, seq_ret, seq_exc, Res.bind_ok, Res.bind_exc, Res.out_ok, Res.out_exc, List.getElem?_cons_zero, List.getElem?_cons_succ, List.set_cons_succ, List.set_cons_zero, List.append_nil, List.nil_append, List.cons_append, if_true, Bool.false_eq_true, if_false, ev_iop, ev_bop, Bool.not_true, Bool.not_false, res_ret, res_next, res_exc, oAdd_int, oAddI_int, oNe_int, oEq_int, oNe_bl, beq_self_eq_true, ev_asg, ev_gtTup, ev_gtCons, ev_gtNil, ev_gtName, List.length_cons, List.length_nil, Nat.reduceAdd, Nat.zero_add, sz0, sz1, sz2, sz3, sz4, sz5, sz6, sz7, sz8, sz9, sz10, sz11, sz12, sz13, sz14, sz15, sz16, sz17, sz18, sz19, sz20, sz21, sz22, sz23, sz24, sz25, sz26, sz27, sz28, sz29, sz30, sz31, sz32, d1, shr1, r1, isN_t, Option.isNone_none, f]
    | some A =>
      cases t2 with
      | none =>
        have f := fin none (cCons (cK .non) cNil) (by unfold newT; rw [if_neg z, e1, e2]) rfl
        simp only [ev_seq, ev_set, ev_bin, ev_cons, ev_nil, ev_var, ev_k, ev_call, ev_ret, ev_expr, ev_if, ev_tv, ev_tnot, ev_tand, ev_tor, ev_chain, ev_lst, ev_lstM, ev_tup, ev_cB, ev_lc, ev_wipe0, ev_wipe1, ev_alloc, ev_allocM, ev_sNil, ev_and, ev_not, ev_raise, seq_next, seq_ret, seq_exc, Res.bind_ok, Res.bind_exc, Res.out_ok, Res.out_exc, List.getElem?_cons_zero, List.getElem?_cons_succ, List.set_cons_succ, List.set_cons_zero, List.append_nil, List.nil_append, List.cons_append, if_true, Bool.false_eq_true, if_false, ev_iop, ev_bop, Bool.not_true, Bool.not_false, res_ret, res_next, res_exc, oAdd_int, oAddI_int, oNe_int, oEq_int, oNe_bl, beq_self_eq_true, ev_asg, ev_gtTup, ev_gtCons, ev_gtNil, ev_gtName, List.length_cons, List.length_nil, Nat.reduceAdd, Nat.zero_add, sz0, sz1, sz2, sz3, sz4, sz5, sz6, sz7, sz8, sz9, sz10, sz11, sz12, sz13, sz14, sz15, sz16, sz17, sz18, sz19, sz20, sz21, sz22, sz23, sz24, sz25, sz26, sz27, sz28, sz29, sz30, sz31, sz32, d1, shr1, r1, r2, isN_t, Option.isNone_none, Option.isNone_some, f]
      | some C =>
        have g1 := signed_eq (n := n) (A := A) (e := g.1) (h := h) (l := ts.map tD) (by rw [List.getElem?_map, e1]; rfl)
        have g2 := signed_eq (n := n) (A := C) (e := g.2) (h := h) (l := ts.map tD) (by rw [List.getElem?_map, e2]; rfl)
        have f := fin (some (sgT n A g.1 &&& sgT n C g.2)) (cCons (cBin oAnd (cCall F_signed [] (cCons (cVar 5) (cCons (cVar 7) (cCons (cVar 3) cNil)))) (cCall F_signed [] (cCons (cVar 5) (cCons (cVar 8) (cCons (cVar 3) cNil))))) cNil) (by unfold newT; rw [if_neg z, e1, e2]) (by simp only [ev_seq, ev_set, ev_bin, ev_cons, ev_nil, ev_var, ev_k, ev_call, ev_ret, ev_expr, ev_if, ev_tv, ev_tnot, ev_tand, ev_tor, ev_chain, ev_lst, ev_lstM, ev_tup, ev_cB, ev_lc, ev_wipe0, ev_wipe1, ev_alloc, ev_allocM, ev_sNil, ev_and, ev_not, ev_raise, seq_next, seq_ret, seq_exc, Res.bind_ok, Res.bind_exc, Res.out_ok, Res.out_exc, List.getElem?_cons_zero, List.getElem?_cons_succ, List.set_cons_succ, List.set_cons_zero, List.append_nil, List.nil_append, List.cons_append, if_true, Bool.false_eq_true, if_false, ev_iop, ev_bop, Bool.not_true, Bool.not_false, res_ret, res_next, res_exc, oAdd_int, oAddI_int, oNe_int, oEq_int, oNe_bl, beq_self_eq_true, ev_asg, ev_gtTup, ev_gtCons, ev_gtNil, ev_gtName, List.length_cons, List.length_nil, Nat.reduceAdd, Nat.zero_add, sz0, sz1, sz2, sz3, sz4, sz5, sz6, sz7, sz8, sz9, sz10, sz11, sz12, sz13, sz14, sz15, sz16, sz17, sz18, sz19, sz20, sz21, sz22, sz23, sz24, sz25, sz26, sz27, sz28, sz29, sz30, sz31, sz32, g1, g2, band_n]; rfl)
        simp only [ev_seq, ev_set, ev_bin, ev_cons, ev_nil, ev_var, ev_k, ev_call, ev_ret, ev_expr, ev_if, ev_tv, ev_tnot, ev_tand, ev_tor, ev_chain, ev_lst, ev_lstM, ev_tup, ev_cB, ev_lc, ev_wipe0, ev_wipe1, ev_alloc, ev_allocM, ev_sNil, ev_and, ev_not, ev_raise, seq_next, seq_ret, seq_exc, Res.bind_ok, Res.bind_exc, Res.out_ok, Res.out_exc, List.getElem?_cons_zero, List.getElem?_cons_succ, List.set_cons_succ, List.set_cons_zero, List.append_nil, List.nil_append, List.cons_append, if_true, Bool.false_eq_true, if_false, ev_iop, ev_bop, Bool.not_true, Bool.not_false, res_ret, res_next, res_exc, oAdd_int, oAddI_int, oNe_int, oEq_int, oNe_bl, beq_self_eq_true, ev_asg, ev_gtTup, ev_gtCons, ev_gtNil, ev_gtName, List.length_cons, List.length_nil, Nat.reduceAdd, Nat.zero_add, sz0, sz1, sz2, sz3, sz4, sz5, sz6, sz7, sz8, sz9, sz10, sz11, sz12, sz13, sz14, sz15, sz16, sz17, sz18, sz19, sz20, sz21, sz22, sz23, sz24, sz25, sz26, sz27, sz28, sz29, sz30, sz31, sz32, d1, shr1, r1, r2, isN_t, Option.isNone_none, Option.isNone_some, f]
/-- the new table tells the new node -/
theorem newT_told {n : Nat} {tips : List Nat} {first : Nat} {gs : List (Nat × Nat)} {ts : List (Option Nat)} {g : Nat × Nat} (hn : n = tips.length) (hl : ts.length = first + gs.length) (ht : ∀ v t, ts[v]? = some t → Told tips first gs n v t) (h1 : g.1 / 2 < ts.length) (h2 : g.2 / 2 < ts.length) : Told tips first (gs ++ [g]) n (first + gs.length) (newT n tips ts (first + gs.length) g) := by
  obtain ⟨t1, e1⟩ : ∃ t, ts[g.1 / 2]? = some t := ⟨_, List.getElem?_eq_getElem h1⟩
  obtain ⟨t2, e2⟩ : ∃ t, ts[g.2 / 2]? = some t := ⟨_, List.getElem?_eq_getElem h2⟩
  refine told_new ?_
  unfold newT
  by_cases z : first + gs.length ∈ tips
  · rw [if_pos z]
    obtain ⟨a, b⟩ := told_leaf hn z
    refine ⟨a, fun row hr => ?_⟩
    rw [if_pos z]
    exact b row hr
  · rw [if_neg z]
    simp only [if_neg z]
    have T1 := ht _ _ e1
    have T2 := ht _ _ e2
    rw [e1, e2]
    cases t1 with
    | none => exact told_no1 T1
    | some A =>
      cases t2 with
      | none => exact told_no2 T2
      | some C => exact told_both T1 T2
end K23

namespace K23
open PySem PySem.Spec PyProof.Rows Gm
theorem dict_eq {n : Nat} {tips : List Nat} {s0 s3 s4 s5 s7 s8 : Option D} {h : Store} (hn : n = tips.length) (h10 : n ≤ 10) (nd : tips.Nodup) :
    cDc (iEnumT (cCons (cVar 1) cNil)) (fTup [9, 6]) cYes (cVar 6) (cCall F_column_of [] (cCons (cVar 2) (cCons (cVar 9) cNil))) [9, 6] [s0, some (.tup (dnums tips)), some (.int (n : Nat)), s3, s4, s5, none, s7, s8, none] h = .ok (.dct (PD n tips 0)) h := by
  have it : iEnumT (cCons (cVar 1) cNil) [s0, some (.tup (dnums tips)), some (.int (n : Nat)), s3, s4, s5, none, s7, s8, none] h = .ok (tips.zipIdx.map fun p => .tup [.int (p.2 : Nat), .int (p.1 : Nat)]) h := by
    have q := enum_is (fun (a : Nat) => D.int (a : Int)) tips
    unfold iEnumT
    rw [ev_cons]
    show Res.ok (enumD (dnums tips)) h = _
    unfold dnums
    rw [q]
  have sl : (tips.zipIdx.map fun p => D.tup [.int (p.2 : Nat), .int (p.1 : Nat)]).length ≤ sizeLine := small_line (by rw [List.length_map, List.length_zipIdx]; omega)
  have nk : (([] : List (L2.Key × D)).map (·.1) ++ tips.zipIdx.map fun p => (Sum.inl (p.1 : Int) : L2.Key)).Nodup := by
    have e : (tips.zipIdx.map fun p => (Sum.inl (p.1 : Int) : L2.Key)) = tips.map fun (a : Nat) => (Sum.inl (a : Int) : L2.Key) := by
      have q : (tips.zipIdx.map fun p => (Sum.inl (p.1 : Int) : L2.Key)) = (tips.zipIdx.map Prod.fst).map fun (a : Nat) => (Sum.inl (a : Int) : L2.Key) := by rw [List.map_map]; rfl
      rw [q, List.zipIdx_map_fst]
    rw [e]
    show (tips.map fun (a : Nat) => (Sum.inl (a : Int) : L2.Key)).Nodup
    refine List.pairwise_map.mpr (nd.imp fun {a b} ne e => ne ?_)
    have e : ((a : Nat) : Int) = ((b : Nat) : Int) := Sum.inl.inj e
    omega
  have e := dcL_map (fg := fTup [9, 6]) (fk := cVar 6) (fv := cCall F_column_of [] (cCons (cVar 2) (cCons (cVar 9) cNil))) (st0 := [s0, some (.tup (dnums tips)), some (.int (n : Nat)), s3, s4, s5, none, s7, s8, none]) (h := h) (f := fun p => .tup [.int (p.2 : Nat), .int (p.1 : Nat)]) (k := fun p => (Sum.inl (p.1 : Int) : L2.Key)) (d := fun p => D.int (col n p.2 : Nat)) tips.zipIdx [] (fun p hp => by
    have hp2 : p.2 < n := by
      obtain ⟨j, hj⟩ := List.getElem?_of_mem hp
      rw [List.getElem?_zipIdx] at hj
      cases q : tips[j]? with
      | none => rw [q] at hj; simp at hj
      | some a =>
        rw [q] at hj
        have hj : (a, 0 + j) = p := by simpa using hj
        have := (List.getElem?_eq_some_iff.mp q).1
        rw [← hj, hn]
        show 0 + j < _
        omega
    refine ⟨[s0, some (.tup (dnums tips)), some (.int (n : Nat)), s3, s4, s5, some (.int (p.1 : Nat)), s7, s8, some (.int (p.2 : Nat))], .int (p.1 : Nat), rfl, rfl, rfl, ?_⟩
    simp only [ev_seq, ev_set, ev_bin, ev_cons, ev_nil, ev_var, ev_k, ev_call, ev_ret, ev_expr, ev_if, ev_tv, ev_tnot, ev_tand, ev_tor, ev_chain, ev_lst, ev_lstM, ev_tup, ev_cB, ev_lc, ev_wipe0, ev_wipe1, ev_alloc, ev_allocM, ev_sNil, ev_and, ev_not, ev_raise, seq_next, seq_ret, seq_exc, Res.bind_ok, Res.bind_exc, Res.out_ok, Res.out_exc, List.getElem?_cons_zero, List.getElem?_cons_succ, List.set_cons_succ, List.set_cons_zero, List.append_nil, List.nil_append, List.cons_append, if_true, Bool.false_eq_true, if_false, ev_iop, ev_bop, Bool.not_true, Bool.not_false, res_ret, res_next, res_exc, oAdd_int, oAddI_int, oNe_int, oEq_int, oNe_bl, beq_self_eq_true, ev_asg, ev_gtTup, ev_gtCons, ev_gtNil, ev_gtName, List.length_cons, List.length_nil, Nat.reduceAdd, Nat.zero_add, sz0, sz1, sz2, sz3, sz4, sz5, sz6, sz7, sz8, sz9, sz10, sz11, sz12, sz13, sz14, sz15, sz16, sz17, sz18, sz19, sz20, sz21, sz22, sz23, sz24, sz25, sz26, sz27, sz28, sz29, sz30, sz31, sz32, column_of_eq h10 hp2]) nk
  unfold cDc
  rw [it, Res.bind_ok, if_pos sl]
  show (dcL (fTup [9, 6]) cYes (cVar 6) (cCall F_column_of [] (cCons (cVar 2) (cCons (cVar 9) cNil))) [s0, some (.tup (dnums tips)), some (.int (n : Nat)), s3, s4, s5, none, s7, s8, none] (tips.zipIdx.map fun p => .tup [.int (p.2 : Nat), .int (p.1 : Nat)]) [] h).bind _ = _
  rw [e, Res.bind_ok]
  rfl
theorem take_snoc {α : Type} {l : List α} {j : Nat} {a : α} (h : l[j]? = some a) : l.take (j + 1) = l.take j ++ [a] := by
  rw [List.take_succ, h]
  rfl
set_option maxHeartbeats 8000000 in
theorem local_rows_eq {N : Nt} {tips : List Nat} {h : Store} (ok : N.Ok) (fw : N.Few) (nd : tips.Nodup) (h10 : tips.length ≤ 10) (hh : h.all (cellLw h.length) = true) :
    ∃ ts : List (Option Nat), F_local_rows [N.o, .tup (dnums tips)] h = .ok (.lst (ts.map tD)) h ∧ ts.length = N.first + N.gat.length ∧ ∀ v t, ts[v]? = some t → Told tips N.first N.gat tips.length v t := by
  have b1 := fw.ins
  have b2 := fw.lat
  have b3 := fw.gat
  have fl : N.first ≤ 11 := by
    unfold Nt.first
    omega
  generalize hn : tips.length = n at h10
  have hn := hn.symm
  have m1 : cMeth "Net" "things" F_Net_things [] (cVar 0) cNil [some N.o, some (.tup (dnums tips)), some (.int (n : Nat)), some (.int (2 ^ 2 ^ n - 1 : Nat)), some (.dct (PD n tips 0)), none, none, none, none, none] h = .ok (.int (N.ins.length + N.lat.length : Nat)) h := by
    rw [meth_obj (ff := N.fs) (ds := []) (h2 := h) rfl rfl rfl]
    exact things_eq h
  have c1 : (1 : Int) + ((N.ins.length + N.lat.length : Nat) : Int) = (N.first : Int) := by
    unfold Nt.first
    omega
  have r1 : iRange1 (cCons (cBin (oAdd false) (cK (.int 1)) (cMeth "Net" "things" F_Net_things [] (cVar 0) cNil)) cNil) [some N.o, some (.tup (dnums tips)), some (.int (n : Nat)), some (.int (2 ^ 2 ^ n - 1 : Nat)), some (.dct (PD n tips 0)), none, none, none, none, none] h = .ok ((List.range N.first).map fun (i : Nat) => D.int (i : Int)) h := ev_range1 (by simp only [ev_seq, ev_set, ev_bin, ev_cons, ev_nil, ev_var, ev_k, ev_call, ev_ret, ev_expr, ev_if, ev_tv, ev_tnot, ev_tand, ev_tor, ev_chain, ev_lst, ev_lstM, ev_tup, ev_cB, ev_lc, ev_wipe0, ev_wipe1, ev_alloc, ev_allocM, ev_sNil, ev_and, ev_not, ev_raise, seq_next, seq_ret, seq_exc, Res.bind_ok, Res.bind_exc, Res.out_ok, Res.out_exc, List.getElem?_cons_zero, List.getElem?_cons_succ, List.set_cons_succ, List.set_cons_zero, List.append_nil, List.nil_append, List.cons_append, if_true, Bool.false_eq_true, if_false, ev_iop, ev_bop, Bool.not_true, Bool.not_false, res_ret, res_next, res_exc, oAdd_int, oAddI_int, oNe_int, oEq_int, oNe_bl, beq_self_eq_true, ev_asg, ev_gtTup, ev_gtCons, ev_gtNil, ev_gtName, List.length_cons, List.length_nil, Nat.reduceAdd, Nat.zero_add, sz0, sz1, sz2, sz3, sz4, sz5, sz6, sz7, sz8, sz9, sz10, sz11, sz12, sz13, sz14, sz15, sz16, sz17, sz18, sz19, sz20, sz21, sz22, sz23, sz24, sz25, sz26, sz27, sz28, sz29, sz30, sz31, sz32, m1, c1]) (by omega)
  have sl : ((List.range N.first).map fun (i : Nat) => D.int (i : Int)).length ≤ sizeLine := small_line (by simp; omega)
  have e1 := lcL_all1 (fg := fName 6) (ft := cYes) (fe := cDget2 (cVar 4) (cVar 6) (cIf (cTv (cBin oEq (cVar 6) (cK (.int 0)))) (cK (.int 0)) (cK .non))) (st0 := [some N.o, some (.tup (dnums tips)), some (.int (n : Nat)), some (.int (2 ^ 2 ^ n - 1 : Nat)), some (.dct (PD n tips 0)), none, none, none, none, none]) (h := h) (f := fun (i : Nat) => D.int (i : Int)) (q := fun v => tD (leafT n tips v)) (List.range N.first) fun v hv => by
    refine ⟨[some N.o, some (.tup (dnums tips)), some (.int (n : Nat)), some (.int (2 ^ 2 ^ n - 1 : Nat)), some (.dct (PD n tips 0)), none, some (.int (v : Nat)), none, none, none], rfl, rfl, get_place rfl rfl ?_⟩
    by_cases z : v = 0
    · have q : ((v : Int) == 0) = true := by rw [z]; rfl
      rw [if_pos z]
      simp only [ev_seq, ev_set, ev_bin, ev_cons, ev_nil, ev_var, ev_k, ev_call, ev_ret, ev_expr, ev_if, ev_tv, ev_tnot, ev_tand, ev_tor, ev_chain, ev_lst, ev_lstM, ev_tup, ev_cB, ev_lc, ev_wipe0, ev_wipe1, ev_alloc, ev_allocM, ev_sNil, ev_and, ev_not, ev_raise, seq_next, seq_ret, seq_exc, Res.bind_ok, Res.bind_exc, Res.out_ok, Res.out_exc, List.getElem?_cons_zero, List.getElem?_cons_succ, List.set_cons_succ, List.set_cons_zero, List.append_nil, List.nil_append, List.cons_append, if_true, Bool.false_eq_true, if_false, ev_iop, ev_bop, Bool.not_true, Bool.not_false, res_ret, res_next, res_exc, oAdd_int, oAddI_int, oNe_int, oEq_int, oNe_bl, beq_self_eq_true, ev_asg, ev_gtTup, ev_gtCons, ev_gtNil, ev_gtName, List.length_cons, List.length_nil, Nat.reduceAdd, Nat.zero_add, sz0, sz1, sz2, sz3, sz4, sz5, sz6, sz7, sz8, sz9, sz10, sz11, sz12, sz13, sz14, sz15, sz16, sz17, sz18, sz19, sz20, sz21, sz22, sz23, sz24, sz25, sz26, sz27, sz28, sz29, sz30, sz31, sz32, ev_cif2, q]
    · have q : ((v : Int) == 0) = false := by
        rw [beq_eq_false_iff_ne]
        omega
      rw [if_neg z]
      simp only [ev_seq, ev_set, ev_bin, ev_cons, ev_nil, ev_var, ev_k, ev_call, ev_ret, ev_expr, ev_if, ev_tv, ev_tnot, ev_tand, ev_tor, ev_chain, ev_lst, ev_lstM, ev_tup, ev_cB, ev_lc, ev_wipe0, ev_wipe1, ev_alloc, ev_allocM, ev_sNil, ev_and, ev_not, ev_raise, seq_next, seq_ret, seq_exc, Res.bind_ok, Res.bind_exc, Res.out_ok, Res.out_exc, List.getElem?_cons_zero, List.getElem?_cons_succ, List.set_cons_succ, List.set_cons_zero, List.append_nil, List.nil_append, List.cons_append, if_true, Bool.false_eq_true, if_false, ev_iop, ev_bop, Bool.not_true, Bool.not_false, res_ret, res_next, res_exc, oAdd_int, oAddI_int, oNe_int, oEq_int, oNe_bl, beq_self_eq_true, ev_asg, ev_gtTup, ev_gtCons, ev_gtNil, ev_gtName, List.length_cons, List.length_nil, Nat.reduceAdd, Nat.zero_add, sz0, sz1, sz2, sz3, sz4, sz5, sz6, sz7, sz8, sz9, sz10, sz11, sz12, sz13, sz14, sz15, sz16, sz17, sz18, sz19, sz20, sz21, sz22, sz23, sz24, sz25, sz26, sz27, sz28, sz29, sz30, sz31, sz32, ev_cif2, q]
  have e1' : (List.map (fun v => tD (leafT n tips v)) (List.range N.first)) = ((List.range N.first).map (leafT n tips)).map tD := by rw [List.map_map]; rfl
  rw [e1'] at e1
  have gz : iSeqD (cCall F_gates_of [] (cCons (cVar 0) cNil)) [some N.o, some (.tup (dnums tips)), some (.int (n : Nat)), some (.int (2 ^ 2 ^ n - 1 : Nat)), some (.dct (PD n tips 0)), some (.ref h.length), none, none, none, none] (h ++ [some (.lst (((List.range N.first).map (leafT n tips)).map tD))]) = .ok (N.gat.zipIdx.map (gof N.first)) (h ++ [some (.lst (((List.range N.first).map (leafT n tips)).map tD))]) := it_of (by simp only [ev_seq, ev_set, ev_bin, ev_cons, ev_nil, ev_var, ev_k, ev_call, ev_ret, ev_expr, ev_if, ev_tv, ev_tnot, ev_tand, ev_tor, ev_chain, ev_lst, ev_lstM, ev_tup, ev_cB, ev_lc, ev_wipe0, ev_wipe1, ev_alloc, ev_allocM, ev_sNil, ev_and, ev_not, ev_raise, seq_next, seq_ret, seq_exc, Res.bind_ok, Res.bind_exc, Res.out_ok, Res.out_exc, List.getElem?_cons_zero, List.getElem?_cons_succ, List.set_cons_succ, List.set_cons_zero, List.append_nil, List.nil_append, List.cons_append, if_true, Bool.false_eq_true, if_false, ev_iop, ev_bop, Bool.not_true, Bool.not_false, res_ret, res_next, res_exc, oAdd_int, oAddI_int, oNe_int, oEq_int, oNe_bl, beq_self_eq_true, ev_asg, ev_gtTup, ev_gtCons, ev_gtNil, ev_gtName, List.length_cons, List.length_nil, Nat.reduceAdd, Nat.zero_add, sz0, sz1, sz2, sz3, sz4, sz5, sz6, sz7, sz8, sz9, sz10, sz11, sz12, sz13, sz14, sz15, sz16, sz17, sz18, sz19, sz20, sz21, sz22, sz23, sz24, sz25, sz26, sz27, sz28, sz29, sz30, sz31, sz32, gates_of_eq fw])
  obtain ⟨st', h', e, ts, z6, z7, z8, rfl, ⟨lts, _⟩, ht, rfl⟩ := forL_inv (fg := gtTup 3 (gtCons (gtName 6) (gtCons (gtName 7) (gtCons (gtName 8) gtNil)))) (fb := LB)
    (fun j st h1 => ∃ (ts : List (Option Nat)) (z6 z7 z8 : Option D), h1 = h ++ [some (.lst (ts.map tD))] ∧ (ts.length = N.first + j ∧ j ≤ N.gat.length) ∧ (∀ v t, ts[v]? = some t → Told tips N.first (N.gat.take j) n v t) ∧
      st = [some N.o, some (.tup (dnums tips)), some (.int (n : Nat)), some (.int (2 ^ 2 ^ n - 1 : Nat)), some (.dct (PD n tips 0)), some (.ref h.length), z6, z7, z8, none])
    (N.gat.zipIdx.map (gof N.first)) 0 [some N.o, some (.tup (dnums tips)), some (.int (n : Nat)), some (.int (2 ^ 2 ^ n - 1 : Nat)), some (.dct (PD n tips 0)), some (.ref h.length), none, none, none, none] (h ++ [some (.lst (((List.range N.first).map (leafT n tips)).map tD))]) (fun j d st h1 hd ⟨ts, z6, z7, z8, i1, ⟨lts, _⟩, ht, i2⟩ => by
      subst i1 i2
      rw [Nat.zero_add] at lts ht ⊢
      rw [List.getElem?_map, List.getElem?_zipIdx] at hd
      cases hp : N.gat[j]? with
      | none =>
        rw [hp] at hd
        simp at hd
      | some g =>
        rw [hp] at hd
        have hd : gof N.first (g, 0 + j) = d := by simpa using hd
        rw [Nat.zero_add] at hd
        subst hd
        have hj : j < N.gat.length := (List.getElem?_eq_some_iff.mp hp).1
        obtain ⟨p1, p2⟩ := ok.gates j g hp
        have q1 : g.1 / 2 < ts.length := by omega
        have q2 : g.2 / 2 < ts.length := by omega
        have lt : (N.gat.take j).length = j := by rw [List.length_take]; omega
        have T := newT_told (n := n) (tips := tips) (first := N.first) (gs := N.gat.take j) (ts := ts) (g := g) hn (by rw [lt]; exact lts) ht q1 q2
        rw [lt, ← take_snoc hp] at T
        refine ⟨_, _, _, _, rfl, lb_eq (s0 := some N.o) (s1 := some (.tup (dnums tips))) (s2 := some (.int (n : Nat))) (s9 := none) (v := N.first + j) q1 q2 (by omega), ts ++ [newT n tips ts (N.first + j) g], some (.int (N.first + j : Nat)), some (.int (g.1 : Nat)), some (.int (g.2 : Nat)), rfl, ⟨by rw [List.length_append, lts]; rfl, hj⟩, fun v t hv => ?_, rfl⟩
        by_cases y : v < ts.length
        · rw [List.getElem?_append_left y] at hv
          rw [take_snoc hp]
          exact (ht v t hv).snoc (by rw [lt]; omega)
        · have y2 : v = ts.length := by
            have := (List.getElem?_eq_some_iff.mp hv).1
            rw [List.length_append, List.length_singleton] at this
            omega
          subst y2
          rw [List.getElem?_append_right (Nat.le_refl _), Nat.sub_self] at hv
          have hv : newT n tips ts (N.first + j) g = t := by simpa using hv
          subst hv
          rw [lts]
          exact T) ⟨(List.range N.first).map (leafT n tips), none, none, none, rfl, ⟨by simp, Nat.zero_le _⟩, fun v t hv => by
        rw [List.getElem?_map] at hv
        have hv2 : v < N.first := by
          by_cases z : v < N.first
          · exact z
          · rw [List.getElem?_eq_none (by simpa using z)] at hv
            cases hv
        rw [List.getElem?_range hv2] at hv
        have hv : leafT n tips v = t := by simpa using hv
        subst hv
        exact leaf_told hn hv2, rfl⟩
  rw [Nat.zero_add, List.length_map, List.length_zipIdx] at lts ht
  rw [List.take_length] at ht
  refine ⟨ts, ?_, lts, ht⟩
  refine fn_trim (u := [none]) [some N.o, some (.tup (dnums tips)), none, none, none, none, none, none, none, none] rfl rfl ?_ rfl (lws_map (fun t => by cases t <;> rfl) ts) hh
  have ln : fLen [.tup (dnums tips)] h = .ok (.int (n : Nat)) h := by
    show Res.ok (D.int ((dnums tips).length : Nat)) h = _
    rw [dnums, List.length_map, hn]
  have dq := dict_eq (s0 := some N.o) (s3 := some (.int (2 ^ 2 ^ n - 1 : Nat))) (s4 := none) (s5 := none) (s7 := none) (s8 := none) (h := h) hn h10 nd
  unfold LB at e
  unfold B_local_rows
  rw [ev_seq]
  simp only [ev_seq, ev_set, ev_bin, ev_cons, ev_nil, ev_var, ev_k, ev_call, ev_ret, ev_expr, ev_if, ev_tv, ev_tnot, ev_tand, ev_tor, ev_chain, ev_lst, ev_lstM, ev_tup, ev_cB, ev_lc, ev_wipe0, ev_wipe1, ev_alloc, ev_allocM, ev_sNil, ev_and, ev_not, ev_raise, seq_next, seq_ret, seq_exc, Res.bind_ok, Res.bind_exc, Res.out_ok, Res.out_exc, List.getElem?_cons_zero, List.getElem?_cons_succ, List.set_cons_succ, List.set_cons_zero, List.append_nil, List.nil_append, List.cons_append, if_true, Bool.false_eq_true, if_false, ev_iop, ev_bop, Bool.not_true, Bool.not_false, res_ret, res_next, res_exc, oAdd_int, oAddI_int, oNe_int, oEq_int, oNe_bl, beq_self_eq_true, ev_asg, ev_gtTup, ev_gtCons, ev_gtNil, ev_gtName, List.length_cons, List.length_nil, Nat.reduceAdd, Nat.zero_add, sz0, sz1, sz2, sz3, sz4, sz5, sz6, sz7, sz8, sz9, sz10, sz11, sz12, sz13, sz14, sz15, sz16, sz17, sz18, sz19, sz20, sz21, sz22, sz23, sz24, sz25, sz26, sz27, sz28, sz29, sz30, sz31, sz32, ln, full_of_eq h10, dq, r1, sl, e1, ev_for, gz, e, frz_last]
end K23

namespace K23
open PySem PySem.Spec PyProof.Rows Gm
def outT (n e : Nat) : Option Nat → D
  | none => .non
  | some T => .int (sgT n T e : Nat)
theorem local_table_eq {N : Nt} {tips : List Nat} {h : Store} {e : Nat} (ok : N.Ok) (fw : N.Few) (nd : tips.Nodup) (h10 : tips.length ≤ 10) (hh : h.all (cellLw h.length) = true) (he : e / 2 < N.first + N.gat.length) :
    ∃ t : Option Nat, Told tips N.first N.gat tips.length (e / 2) t ∧ F_local_table [N.o, .int (e : Nat), .tup (dnums tips)] h = .ok (outT tips.length e t) h := by
  obtain ⟨ts, e1, lts, ht⟩ := local_rows_eq ok fw nd h10 hh
  obtain ⟨t, et⟩ : ∃ t, ts[e / 2]? = some t := ⟨_, List.getElem?_eq_getElem (by rw [lts]; exact he)⟩
  refine ⟨t, ht _ _ et, ?_⟩
  have a := at_plain (h := h) (l := ts.map tD) (i := e / 2) (d := tD t) (by rw [List.getElem?_map, et]; rfl)
  refine fn_eq [some N.o, some (.int (e : Nat)), some (.tup (dnums tips)), none] rfl rfl ?_ rfl
  cases t with
  | none =>
    simp only [ev_seq, ev_set, ev_bin, ev_cons, ev_nil, ev_var, ev_k, ev_call, ev_ret, ev_expr, ev_if, ev_tv, ev_tnot, ev_tand, ev_tor, ev_chain, ev_lst, ev_lstM, ev_tup, ev_cB, ev_lc, ev_wipe0, ev_wipe1, ev_alloc, ev_allocM, ev_sNil, ev_and, ev_not, ev_raise, seq_next, seq_ret, seq_exc, Res.bind_ok, Res.bind_exc, Res.out_ok, Res.out_exc, List.getElem?_cons_zero, List.getElem?_cons_succ, List.set_cons_succ, List.set_cons_zero, List.append_nil, List.nil_append, List.cons_append, if_true, Bool.false_eq_true, if_false, ev_iop, ev_bop, Bool.not_true, Bool.not_false, res_ret, res_next, res_exc, oAdd_int, oAddI_int, oNe_int, oEq_int, oNe_bl, beq_self_eq_true, ev_asg, ev_gtTup, ev_gtCons, ev_gtNil, ev_gtName, List.length_cons, List.length_nil, Nat.reduceAdd, Nat.zero_add, sz0, sz1, sz2, sz3, sz4, sz5, sz6, sz7, sz8, sz9, sz10, sz11, sz12, sz13, sz14, sz15, sz16, sz17, sz18, sz19, sz20, sz21, sz22, sz23, sz24, sz25, sz26, sz27, sz28, sz29, sz30, sz31, sz32, B_local_table, e1, shr1, a, isN_t, Option.isNone_none]
    rfl
  | some T =>
    have ln : fLen [.tup (dnums tips)] h = .ok (.int (tips.length : Nat)) h := by
      show Res.ok (D.int ((dnums tips).length : Nat)) h = _
      rw [dnums, List.length_map]
    have tt : cTr (cBin oAnd (cVar 1) (cK (.int 1))) [some N.o, some (.int (e : Nat)), some (.tup (dnums tips)), some (tD (some T))] h = .ok (decide (e % 2 = 1)) h := odd_test rfl
    have td : tD (some T) = .int (T : Nat) := rfl
    have nn : oIsN (.int (T : Nat)) .non h = .ok (.bl false) h := rfl
    rw [td] at a tt
    show (B_local_table _ h).res = .ok (.int (sgT tips.length T e : Nat)) h
    unfold sgT
    by_cases z : e % 2 = 1
    · rw [decide_eq_true z] at tt
      rw [if_pos z]
      simp only [ev_seq, ev_set, ev_bin, ev_cons, ev_nil, ev_var, ev_k, ev_call, ev_ret, ev_expr, ev_if, ev_tv, ev_tnot, ev_tand, ev_tor, ev_chain, ev_lst, ev_lstM, ev_tup, ev_cB, ev_lc, ev_wipe0, ev_wipe1, ev_alloc, ev_allocM, ev_sNil, ev_and, ev_not, ev_raise, seq_next, seq_ret, seq_exc, Res.bind_ok, Res.bind_exc, Res.out_ok, Res.out_exc, List.getElem?_cons_zero, List.getElem?_cons_succ, List.set_cons_succ, List.set_cons_zero, List.append_nil, List.nil_append, List.cons_append, if_true, Bool.false_eq_true, if_false, ev_iop, ev_bop, Bool.not_true, Bool.not_false, res_ret, res_next, res_exc, oAdd_int, oAddI_int, oNe_int, oEq_int, oNe_bl, beq_self_eq_true, ev_asg, ev_gtTup, ev_gtCons, ev_gtNil, ev_gtName, List.length_cons, List.length_nil, Nat.reduceAdd, Nat.zero_add, sz0, sz1, sz2, sz3, sz4, sz5, sz6, sz7, sz8, sz9, sz10, sz11, sz12, sz13, sz14, sz15, sz16, sz17, sz18, sz19, sz20, sz21, sz22, sz23, sz24, sz25, sz26, sz27, sz28, sz29, sz30, sz31, sz32, B_local_table, e1, shr1, a, nn, ev_cif2, tt, ln, full_of_eq h10, bxor_n]
    · rw [decide_eq_false z] at tt
      rw [if_neg z]
      have x0 : Builtin.bitXor (T : Int) 0 = ((T ^^^ 0 : Nat) : Int) := bxor_n T 0
      simp only [ev_seq, ev_set, ev_bin, ev_cons, ev_nil, ev_var, ev_k, ev_call, ev_ret, ev_expr, ev_if, ev_tv, ev_tnot, ev_tand, ev_tor, ev_chain, ev_lst, ev_lstM, ev_tup, ev_cB, ev_lc, ev_wipe0, ev_wipe1, ev_alloc, ev_allocM, ev_sNil, ev_and, ev_not, ev_raise, seq_next, seq_ret, seq_exc, Res.bind_ok, Res.bind_exc, Res.out_ok, Res.out_exc, List.getElem?_cons_zero, List.getElem?_cons_succ, List.set_cons_succ, List.set_cons_zero, List.append_nil, List.nil_append, List.cons_append, if_true, Bool.false_eq_true, if_false, ev_iop, ev_bop, Bool.not_true, Bool.not_false, res_ret, res_next, res_exc, oAdd_int, oAddI_int, oNe_int, oEq_int, oNe_bl, beq_self_eq_true, ev_asg, ev_gtTup, ev_gtCons, ev_gtNil, ev_gtName, List.length_cons, List.length_nil, Nat.reduceAdd, Nat.zero_add, sz0, sz1, sz2, sz3, sz4, sz5, sz6, sz7, sz8, sz9, sz10, sz11, sz12, sz13, sz14, sz15, sz16, sz17, sz18, sz19, sz20, sz21, sz22, sz23, sz24, sz25, sz26, sz27, sz28, sz29, sz30, sz31, sz32, B_local_table, e1, shr1, a, nn, ev_cif2, tt, x0]
end K23

namespace K23
open PySem PySem.Spec PyProof.Rows Gm
theorem put_last {fe fo fi : Ev D} {st : Slots} {h : Store} {l : List D} {i : Nat} {d : D} (e1 : fe st (h ++ [some (.lst l)]) = .ok d (h ++ [some (.lst l)])) (e2 : fo st (h ++ [some (.lst l)]) = .ok (.ref h.length) (h ++ [some (.lst l)])) (e3 : fi st (h ++ [some (.lst l)]) = .ok (.int (i : Nat)) (h ++ [some (.lst l)])) (hi : i < l.length) :
    sPut fe fo fi st (h ++ [some (.lst l)]) = .next st (h ++ [some (.lst (l.set i d))]) := by
  have k : Gm.putAt (.ref h.length) (.int (i : Nat)) d (h ++ [some (.lst l)]) = some (h ++ [some (.lst (l.set i d))]) := by
    have c : cellL (h ++ [some (.lst l)]) (.ref h.length) = some (h.length, l) := by
      unfold cellL
      dsimp only
      rw [last_at]
    have x : L2.ixN l.length (i : Int) = some i := by
      unfold L2.ixN
      rw [if_pos (by omega), if_pos (by omega)]
      simp
    unfold Gm.putAt
    rw [c]
    dsimp only
    rw [x]
    dsimp only
    rw [last_set]
  unfold sPut
  rw [e1, Res.out_ok, e2, Res.out_ok, e3, Res.out_ok, k]
def xv (b : Bool) (e : Nat) : Bool := b ^^ (e % 2 == 1)
theorem told_of {r : D} {e : Nat} {b : Bool} {h : Store} (hr : oIx r (.int (e / 2 : Nat)) h = .ok (bD (some b)) h) : F_law_told [r, .int (e : Nat)] h = .ok (bD (some (xv b e))) h := by
  have c1 : (e : Int) % 2 = ((e % 2 : Nat) : Int) := by omega
  have c2 : (e : Int) / 2 = ((e / 2 : Nat) : Int) := by omega
  have g1 : gMod (e : Int) 2 = true := gMod_of (by decide)
  have g2 : gDiv (e : Int) 2 = true := gDiv_of (k := 2) (by decide) (by decide) (by decide)
  have hr : oIx r (.int (e / 2 : Nat)) h = .ok (.int (if b = true then 1 else 0 : Nat)) h := hr
  refine fn_eq [some r, some (.int (e : Nat))] rfl rfl ?_ rfl
  unfold xv
  have z : e % 2 = 0 ∨ e % 2 = 1 := by omega
  rcases z with z | z
  · have q : (((e % 2 : Nat) : Int) == 0) = true := by rw [z]; rfl
    simp only [ev_seq, ev_set, ev_bin, ev_cons, ev_nil, ev_var, ev_k, ev_call, ev_ret, ev_expr, ev_if, ev_tv, ev_tnot, ev_tand, ev_tor, ev_chain, ev_lst, ev_lstM, ev_tup, ev_cB, ev_lc, ev_wipe0, ev_wipe1, ev_alloc, ev_allocM, ev_sNil, ev_and, ev_not, ev_raise, seq_next, seq_ret, seq_exc, Res.bind_ok, Res.bind_exc, Res.out_ok, Res.out_exc, List.getElem?_cons_zero, List.getElem?_cons_succ, List.set_cons_succ, List.set_cons_zero, List.append_nil, List.nil_append, List.cons_append, if_true, Bool.false_eq_true, if_false, ev_iop, ev_bop, Bool.not_true, Bool.not_false, res_ret, res_next, res_exc, oAdd_int, oAddI_int, oNe_int, oEq_int, oNe_bl, beq_self_eq_true, ev_asg, ev_gtTup, ev_gtCons, ev_gtNil, ev_gtName, List.length_cons, List.length_nil, Nat.reduceAdd, Nat.zero_add, sz0, sz1, sz2, sz3, sz4, sz5, sz6, sz7, sz8, sz9, sz10, sz11, sz12, sz13, sz14, sz15, sz16, sz17, sz18, sz19, sz20, sz21, sz22, sz23, sz24, sz25, sz26, sz27, sz28, sz29, sz30, sz31, sz32, B_law_told, g1, c1, q, ev_cif2, g2, c2, hr]
    rw [z]
    cases b <;> rfl
  · have q : (((e % 2 : Nat) : Int) == 0) = false := by rw [z]; rfl
    simp only [ev_seq, ev_set, ev_bin, ev_cons, ev_nil, ev_var, ev_k, ev_call, ev_ret, ev_expr, ev_if, ev_tv, ev_tnot, ev_tand, ev_tor, ev_chain, ev_lst, ev_lstM, ev_tup, ev_cB, ev_lc, ev_wipe0, ev_wipe1, ev_alloc, ev_allocM, ev_sNil, ev_and, ev_not, ev_raise, seq_next, seq_ret, seq_exc, Res.bind_ok, Res.bind_exc, Res.out_ok, Res.out_exc, List.getElem?_cons_zero, List.getElem?_cons_succ, List.set_cons_succ, List.set_cons_zero, List.append_nil, List.nil_append, List.cons_append, if_true, Bool.false_eq_true, if_false, ev_iop, ev_bop, Bool.not_true, Bool.not_false, res_ret, res_next, res_exc, oAdd_int, oAddI_int, oNe_int, oEq_int, oNe_bl, beq_self_eq_true, ev_asg, ev_gtTup, ev_gtCons, ev_gtNil, ev_gtName, List.length_cons, List.length_nil, Nat.reduceAdd, Nat.zero_add, sz0, sz1, sz2, sz3, sz4, sz5, sz6, sz7, sz8, sz9, sz10, sz11, sz12, sz13, sz14, sz15, sz16, sz17, sz18, sz19, sz20, sz21, sz22, sz23, sz24, sz25, sz26, sz27, sz28, sz29, sz30, sz31, sz32, B_law_told, g1, c1, q, ev_cif2, g2, c2, hr]
    rw [z]
    cases b <;> rfl
theorem leaf_other {tips : List Nat} {row v t : Nat} (h : v ≠ t) : leafV (tips ++ [t]) row v = leafV tips row v := by
  unfold leafV
  by_cases z : v ∈ tips
  · rw [if_pos z, if_pos (by simp [z]), List.idxOf_append, if_pos z]
  · rw [if_neg z, if_neg (by simp [z, h])]
theorem leaf_new {tips : List Nat} {row t : Nat} (h : t ∉ tips) : leafV (tips ++ [t]) row t = some (row.testBit tips.length) := by
  unfold leafV
  rw [if_pos (by simp), List.idxOf_append, if_neg h]
  simp
theorem leaf_set {tips : List Nat} {row t M : Nat} (h : t ∉ tips) (hM : t < M) : ((List.range M).map fun v => bD (leafV tips row v)).set t (bD (some (row.testBit tips.length))) = (List.range M).map fun v => bD (leafV (tips ++ [t]) row v) := by
  apply List.ext_getElem?
  intro i
  rw [List.getElem?_set, List.getElem?_map, List.getElem?_map]
  by_cases z : t = i
  · subst z
    rw [if_pos rfl, if_pos (by simpa using hM), List.getElem?_range hM]
    show _ = some (bD (leafV (tips ++ [t]) row t))
    rw [leaf_new h]
  · rw [if_neg z]
    by_cases y : i < M
    · rw [List.getElem?_range y]
      show some (bD (leafV tips row i)) = some (bD (leafV (tips ++ [t]) row i))
      rw [leaf_other (Ne.symm z)]
    · rw [List.getElem?_eq_none (by simpa using y)]
      rfl
/-! the rows of `_law_local`: a node's value so far -/
def curV (tips : List Nat) (row first : Nat) (gs : List (Nat × Nat)) (j v : Nat) : Option Bool := if v < first + j then ((valV tips row first (gs.take j))[v]?).join else leafV tips row v
theorem cur_zero (tips : List Nat) (row first : Nat) (gs : List (Nat × Nat)) (v : Nat) : curV tips row first gs 0 v = leafV tips row v := by
  unfold curV
  by_cases z : v < first + 0
  · rw [if_pos z]
    have e : (valV tips row first (gs.take 0))[v]? = some (leafV tips row v) := by
      show ((List.range first).map (leafV tips row))[v]? = _
      rw [List.getElem?_map, List.getElem?_range (by omega)]
      rfl
    rw [e]
    rfl
  · rw [if_neg z]
theorem cur_old {tips : List Nat} {row first j v : Nat} {gs : List (Nat × Nat)} {g : Nat × Nat} (hg : gs[j]? = some g) (h : v ≠ first + j) : curV tips row first gs (j + 1) v = curV tips row first gs j v := by
  have hj : j < gs.length := (List.getElem?_eq_some_iff.mp hg).1
  have lt : (gs.take j).length = j := by rw [List.length_take]; omega
  unfold curV
  by_cases z : v < first + j
  · rw [if_pos z, if_pos (by omega), take_snoc hg, valV_snoc, stepV, List.getElem?_append_left (by rw [valV_len, lt]; exact z)]
  · rw [if_neg z, if_neg (by omega)]
theorem cur_new {tips : List Nat} {row first j : Nat} {gs : List (Nat × Nat)} {g : Nat × Nat} (hg : gs[j]? = some g) : curV tips row first gs (j + 1) (first + j) = if first + j ∈ tips then some (row.testBit (tips.idxOf (first + j))) else gateV (valV tips row first (gs.take j)) g := by
  have hj : j < gs.length := (List.getElem?_eq_some_iff.mp hg).1
  have lt : (gs.take j).length = j := by rw [List.length_take]; omega
  unfold curV
  rw [if_pos (by omega), take_snoc hg, valV_snoc, stepV, List.getElem?_append_right (by rw [valV_len, lt]; exact Nat.le_refl _), valV_len, lt, Nat.sub_self]
  rfl
theorem cur_set {tips : List Nat} {row first j M : Nat} {gs : List (Nat × Nat)} {g : Nat × Nat} {x : Option Bool} (hg : gs[j]? = some g) (hM : first + j < M) (hx : curV tips row first gs (j + 1) (first + j) = x) : ((List.range M).map fun v => bD (curV tips row first gs j v)).set (first + j) (bD x) = (List.range M).map fun v => bD (curV tips row first gs (j + 1) v) := by
  apply List.ext_getElem?
  intro i
  rw [List.getElem?_set, List.getElem?_map, List.getElem?_map]
  by_cases z : first + j = i
  · subst z
    rw [if_pos rfl, if_pos (by simpa using hM), List.getElem?_range hM]
    show _ = some (bD (curV tips row first gs (j + 1) (first + j)))
    rw [hx]
  · rw [if_neg z]
    by_cases y : i < M
    · rw [List.getElem?_range y]
      show some (bD (curV tips row first gs j i)) = some (bD (curV tips row first gs (j + 1) i))
      rw [cur_old hg (Ne.symm z)]
    · rw [List.getElem?_eq_none (by simpa using y)]
      rfl
theorem cur_keep {tips : List Nat} {row first j M : Nat} {gs : List (Nat × Nat)} {g : Nat × Nat} (hg : gs[j]? = some g) (hx : curV tips row first gs (j + 1) (first + j) = leafV tips row (first + j)) : ((List.range M).map fun v => bD (curV tips row first gs j v)) = (List.range M).map fun v => bD (curV tips row first gs (j + 1) v) := by
  refine List.map_congr_left fun v _ => ?_
  by_cases z : v = first + j
  · subst z
    rw [hx]
    unfold curV
    rw [if_neg (by omega)]
  · rw [cur_old hg z]
theorem notin_nums (k : Nat) (l : List Nat) (h : Store) : oNotIn (D.int (k : Int)) (D.lst (dnums l)) h = .ok (D.bl (!decide (k ∈ l))) h := by
  have q := in_nums k l h
  unfold oIn at q
  unfold oNotIn
  cases e : inD h (D.int (k : Int)) (D.lst (dnums l)) with
  | none => rw [e] at q; cases q
  | some b =>
    rw [e] at q
    injection q with q1 q2
    injection q1 with q3
    dsimp only
    rw [q3]
theorem mul_bits (a b : Bool) {h : Store} : oMul (bD (some a)) (bD (some b)) h = .ok (bD (some (a && b))) h := by
  have g : ∀ x y : Nat, x ≤ 1 → y ≤ 1 → gMul (x : Int) (y : Int) = true := fun x y hx hy => gMulN (by omega) (by omega)
  have e : ∀ x y : Nat, x ≤ 1 → y ≤ 1 → oMul (.int (x : Nat)) (.int (y : Nat)) h = .ok (.int (x * y : Nat)) h := fun x y hx hy => by
    have c : (x : Int) * (y : Int) = ((x * y : Nat) : Int) := by push_cast; rfl
    simp only [ev_iop, g x y hx hy, if_true, c]
  cases a <;> cases b <;> exact e _ _ (by decide) (by decide)
end K23

namespace K23
open PySem PySem.Spec PyProof.Rows Gm
def LT : Ss := (sPut (cCall F_law_bit [] (cCons (cVar 5) (cCons (cVar 7) cNil))) (cVar 6) (cBin oIx (cVar 2) (cVar 7)))
theorem tips_loop {tips : List Nat} {row M : Nat} {H : Store} {s0 s1 s3 s4 s7 s8 s9 : Option D} (nd : tips.Nodup) (hn : tips.length ≤ 10) (hM : ∀ t ∈ tips, t < M) :
    ∃ z7, (sFor (iRange1 (cCons (cB fLen (cCons (cVar 2) cNil)) cNil)) (gtName 7) LT) [s0, s1, some (.lst (dnums tips)), s3, s4, some (.int (row : Nat)), some (.ref H.length), s7, s8, s9] (H ++ [some (.lst ((List.range M).map fun v => bD (leafV [] row v)))]) =
      .next [s0, s1, some (.lst (dnums tips)), s3, s4, some (.int (row : Nat)), some (.ref H.length), z7, s8, s9] (H ++ [some (.lst ((List.range M).map fun v => bD (leafV tips row v)))]) := by
  have r1 : iRange1 (cCons (cB fLen (cCons (cVar 2) cNil)) cNil) [s0, s1, some (.lst (dnums tips)), s3, s4, some (.int (row : Nat)), some (.ref H.length), s7, s8, s9] (H ++ [some (.lst ((List.range M).map fun v => bD (leafV [] row v)))]) = .ok ((List.range tips.length).map fun (i : Nat) => D.int (i : Int)) (H ++ [some (.lst ((List.range M).map fun v => bD (leafV [] row v)))]) := ev_range1 (by simp only [ev_seq, ev_set, ev_bin, ev_cons, ev_nil, ev_var, ev_k, ev_call, ev_ret, ev_expr, ev_if, ev_tv, ev_tnot, ev_tand, ev_tor, ev_chain, ev_lst, ev_lstM, ev_tup, ev_cB, ev_lc, ev_wipe0, ev_wipe1, ev_alloc, ev_allocM, ev_sNil, ev_and, ev_not, ev_raise, seq_next, seq_ret, seq_exc, Res.bind_ok, Res.bind_exc, Res.out_ok, Res.out_exc, List.getElem?_cons_zero, List.getElem?_cons_succ, List.set_cons_succ, List.set_cons_zero, List.append_nil, List.nil_append, List.cons_append, if_true, Bool.false_eq_true, if_false, ev_iop, ev_bop, Bool.not_true, Bool.not_false, res_ret, res_next, res_exc, oAdd_int, oAddI_int, oNe_int, oEq_int, oNe_bl, beq_self_eq_true, ev_asg, ev_gtTup, ev_gtCons, ev_gtNil, ev_gtName, List.length_cons, List.length_nil, Nat.reduceAdd, Nat.zero_add, sz0, sz1, sz2, sz3, sz4, sz5, sz6, sz7, sz8, sz9, sz10, sz11, sz12, sz13, sz14, sz15, sz16, sz17, sz18, sz19, sz20, sz21, sz22, sz23, sz24, sz25, sz26, sz27, sz28, sz29, sz30, sz31, sz32, len_nums]) (by omega)
  obtain ⟨st', h', e, e9, z7, rfl⟩ := forL_inv (fg := gtName 7) (fb := LT) (fun j st h1 => (h1 = H ++ [some (.lst ((List.range M).map fun v => bD (leafV (tips.take j) row v)))]) ∧ ∃ z7, st = [s0, s1, some (.lst (dnums tips)), s3, s4, some (.int (row : Nat)), some (.ref H.length), z7, s8, s9])
    ((List.range tips.length).map fun (i : Nat) => D.int (i : Int)) 0 [s0, s1, some (.lst (dnums tips)), s3, s4, some (.int (row : Nat)), some (.ref H.length), s7, s8, s9] (H ++ [some (.lst ((List.range M).map fun v => bD (leafV [] row v)))]) (fun j d st h1 hd ⟨i1, z7, i2⟩ => by
      subst i1 i2
      rw [Nat.zero_add]
      rw [List.getElem?_map] at hd
      have hj : j < tips.length := by
        by_cases z : j < tips.length
        · exact z
        · rw [List.getElem?_eq_none (by simpa using z)] at hd
          cases hd
      rw [List.getElem?_range hj] at hd
      have hd : D.int (j : Int) = d := by simpa using hd
      subst hd
      have ht : tips[j]? = some tips[j] := List.getElem?_eq_getElem hj
      have lt : (tips.take j).length = j := by rw [List.length_take]; omega
      have new : tips[j] ∉ tips.take j := by
        intro m
        have nd2 : (tips.take j ++ [tips[j]]).Nodup := by
          rw [← take_snoc ht]
          exact (List.take_sublist _ _).nodup nd
        exact (List.nodup_append.mp nd2).2.2 _ m _ (by simp) rfl
      have s := leaf_set (row := row) (M := M) new (hM _ (List.getElem_mem hj))
      rw [lt, ← take_snoc ht] at s
      have b : bD (some (row.testBit j)) = .int (if row.testBit j = true then 1 else 0 : Nat) := rfl
      refine ⟨_, _, [s0, s1, some (.lst (dnums tips)), s3, s4, some (.int (row : Nat)), some (.ref H.length), some (.int (j : Nat)), s8, s9], _, rfl, ?_, rfl, _, rfl⟩
      have p := put_last (fe := cCall F_law_bit [] (cCons (cVar 5) (cCons (cVar 7) cNil))) (fo := cVar 6) (fi := cBin oIx (cVar 2) (cVar 7)) (st := [s0, s1, some (.lst (dnums tips)), s3, s4, some (.int (row : Nat)), some (.ref H.length), some (.int (j : Nat)), s8, s9]) (h := H) (l := (List.range M).map fun v => bD (leafV (tips.take j) row v)) (i := tips[j]) (d := bD (some (row.testBit j))) (by
          rw [b]
          simp only [ev_seq, ev_set, ev_bin, ev_cons, ev_nil, ev_var, ev_k, ev_call, ev_ret, ev_expr, ev_if, ev_tv, ev_tnot, ev_tand, ev_tor, ev_chain, ev_lst, ev_lstM, ev_tup, ev_cB, ev_lc, ev_wipe0, ev_wipe1, ev_alloc, ev_allocM, ev_sNil, ev_and, ev_not, ev_raise, seq_next, seq_ret, seq_exc, Res.bind_ok, Res.bind_exc, Res.out_ok, Res.out_exc, List.getElem?_cons_zero, List.getElem?_cons_succ, List.set_cons_succ, List.set_cons_zero, List.append_nil, List.nil_append, List.cons_append, if_true, Bool.false_eq_true, if_false, ev_iop, ev_bop, Bool.not_true, Bool.not_false, res_ret, res_next, res_exc, oAdd_int, oAddI_int, oNe_int, oEq_int, oNe_bl, beq_self_eq_true, ev_asg, ev_gtTup, ev_gtCons, ev_gtNil, ev_gtName, List.length_cons, List.length_nil, Nat.reduceAdd, Nat.zero_add, sz0, sz1, sz2, sz3, sz4, sz5, sz6, sz7, sz8, sz9, sz10, sz11, sz12, sz13, sz14, sz15, sz16, sz17, sz18, sz19, sz20, sz21, sz22, sz23, sz24, sz25, sz26, sz27, sz28, sz29, sz30, sz31, sz32, bit_eq (x := row) (a := j) (by omega)]) rfl (by
          have q := at_plain (h := H ++ [some (.lst ((List.range M).map fun v => bD (leafV (tips.take j) row v)))]) (l := dnums tips) (i := j) (d := .int (tips[j] : Nat)) (by rw [dnums, List.getElem?_map, ht]; rfl)
          simp only [ev_seq, ev_set, ev_bin, ev_cons, ev_nil, ev_var, ev_k, ev_call, ev_ret, ev_expr, ev_if, ev_tv, ev_tnot, ev_tand, ev_tor, ev_chain, ev_lst, ev_lstM, ev_tup, ev_cB, ev_lc, ev_wipe0, ev_wipe1, ev_alloc, ev_allocM, ev_sNil, ev_and, ev_not, ev_raise, seq_next, seq_ret, seq_exc, Res.bind_ok, Res.bind_exc, Res.out_ok, Res.out_exc, List.getElem?_cons_zero, List.getElem?_cons_succ, List.set_cons_succ, List.set_cons_zero, List.append_nil, List.nil_append, List.cons_append, if_true, Bool.false_eq_true, if_false, ev_iop, ev_bop, Bool.not_true, Bool.not_false, res_ret, res_next, res_exc, oAdd_int, oAddI_int, oNe_int, oEq_int, oNe_bl, beq_self_eq_true, ev_asg, ev_gtTup, ev_gtCons, ev_gtNil, ev_gtName, List.length_cons, List.length_nil, Nat.reduceAdd, Nat.zero_add, sz0, sz1, sz2, sz3, sz4, sz5, sz6, sz7, sz8, sz9, sz10, sz11, sz12, sz13, sz14, sz15, sz16, sz17, sz18, sz19, sz20, sz21, sz22, sz23, sz24, sz25, sz26, sz27, sz28, sz29, sz30, sz31, sz32, q]) (by simpa using hM _ (List.getElem_mem hj))
      rw [s] at p
      exact p) ⟨rfl, s7, rfl⟩
  rw [Nat.zero_add, List.length_map, List.length_range, List.take_length] at e9
  rw [e9] at e
  exact ⟨z7, by rw [ev_for, r1, Res.out_ok, e]⟩
theorem sg_cur {tips : List Nat} {row first j e : Nat} {gs : List (Nat × Nat)} (h : e / 2 < first + j) : sgV (valV tips row first (gs.take j)) e = (curV tips row first gs j (e / 2)).map fun b => xv b e := by
  unfold sgV curV
  rw [if_pos h]
  cases (valV tips row first (gs.take j))[e / 2]? with
  | none => rfl
  | some x => cases x <;> rfl
theorem notN_b (x : Option Bool) {h : Store} : oNotN (bD x) .non h = .ok (.bl x.isSome) h := by cases x <;> rfl
def LG : Ss := (sSeq (sAsg (cBin oIx (cBin oIx (cVar 0) (cK (.int 2))) (cVar 7)) (gtTup 2 (gtCons (gtName 8) (gtCons (gtName 9) gtNil))))
  (sIf (cTand (cTv (cBin oNotIn (cBin (oAdd false) (cVar 3) (cVar 7)) (cVar 2))) (cTand (cTv (cBin oNotN (cBin oIx (cVar 6) (cBin oDiv (cVar 8) (cK (.int 2)))) (cK .non))) (cTv (cBin oNotN (cBin oIx (cVar 6) (cBin oDiv (cVar 9) (cK (.int 2)))) (cK .non))))) (sPut (cBin oMul (cCall F_law_told [] (cCons (cVar 6) (cCons (cVar 8) cNil))) (cCall F_law_told [] (cCons (cVar 6) (cCons (cVar 9) cNil)))) (cVar 6) (cBin (oAdd false) (cVar 3) (cVar 7)))
  sNil))
theorem gate_step {N : Nt} {tips : List Nat} {row j : Nat} {g : Nat × Nat} {H : Store} {s1 s4 s5 s8 s9 : Option D} (ok : N.Ok) (hg : N.gat[j]? = some g) :
    LG [some N.d, s1, some (.lst (dnums tips)), some (.int (N.first : Nat)), s4, s5, some (.ref H.length), some (.int (j : Nat)), s8, s9] (H ++ [some (.lst ((List.range (N.first + N.gat.length)).map fun v => bD (curV tips row N.first N.gat j v)))]) =
      .next [some N.d, s1, some (.lst (dnums tips)), some (.int (N.first : Nat)), s4, s5, some (.ref H.length), some (.int (j : Nat)), some (.int (g.1 : Nat)), some (.int (g.2 : Nat))] (H ++ [some (.lst ((List.range (N.first + N.gat.length)).map fun v => bD (curV tips row N.first N.gat (j + 1) v)))]) := by
  have hj : j < N.gat.length := (List.getElem?_eq_some_iff.mp hg).1
  obtain ⟨p1, p2⟩ := ok.gates j g hg
  have f1 : 1 ≤ N.first := by
    unfold Nt.first
    omega
  have a0 : ∀ h, oIx N.d (.int 2) h = .ok (.lst (N.gat.map gp)) h := fun h => rfl
  have a1 : ∀ h, oIx (.lst (N.gat.map gp)) (.int (j : Nat)) h = .ok (.tup [.int (g.1 : Nat), .int (g.2 : Nat)]) h := fun h => at_plain (by rw [List.getElem?_map, hg]; rfl)
  have c1 : (N.first : Int) + (j : Int) = ((N.first + j : Nat) : Int) := by omega
  have at_ : ∀ v, v < N.first + N.gat.length → oIx (.ref H.length) (.int (v : Nat)) (H ++ [some (.lst ((List.range (N.first + N.gat.length)).map fun v => bD (curV tips row N.first N.gat j v)))]) = .ok (bD (curV tips row N.first N.gat j v)) (H ++ [some (.lst ((List.range (N.first + N.gat.length)).map fun v => bD (curV tips row N.first N.gat j v)))]) := fun v hv =>
    at_last (by rw [List.getElem?_map, List.getElem?_range hv]; rfl)
  have r1 := at_ (g.1 / 2) (by omega)
  have r2 := at_ (g.2 / 2) (by omega)
  have d1 : ∀ x : Nat, (x : Int) / 2 = ((x / 2 : Nat) : Int) := fun x => by omega
  have d2 : ∀ x : Int, gDiv x 2 = true := fun x => gDiv_of (k := 2) (by decide) (by decide) (by decide)
  have q1 := sg_cur (tips := tips) (row := row) (first := N.first) (gs := N.gat) (j := j) (e := g.1) (by omega)
  have q2 := sg_cur (tips := tips) (row := row) (first := N.first) (gs := N.gat) (j := j) (e := g.2) (by omega)
  have nw := cur_new (tips := tips) (row := row) (first := N.first) hg
  have t2 : [D.int (g.1 : Nat), D.int (g.2 : Nat)].length = 2 := rfl
  unfold LG
  by_cases z : N.first + j ∈ tips
  · rw [if_pos z] at nw
    have k := cur_keep (M := N.first + N.gat.length) hg (by rw [nw, leafV, if_pos z])
    have n1 := notin_nums (N.first + j) tips (H ++ [some (.lst ((List.range (N.first + N.gat.length)).map fun v => bD (curV tips row N.first N.gat j v)))])
    rw [decide_eq_true z] at n1
    simp only [ev_seq, ev_set, ev_bin, ev_cons, ev_nil, ev_var, ev_k, ev_call, ev_ret, ev_expr, ev_if, ev_tv, ev_tnot, ev_tand, ev_tor, ev_chain, ev_lst, ev_lstM, ev_tup, ev_cB, ev_lc, ev_wipe0, ev_wipe1, ev_alloc, ev_allocM, ev_sNil, ev_and, ev_not, ev_raise, seq_next, seq_ret, seq_exc, Res.bind_ok, Res.bind_exc, Res.out_ok, Res.out_exc, List.getElem?_cons_zero, List.getElem?_cons_succ, List.set_cons_succ, List.set_cons_zero, List.append_nil, List.nil_append, List.cons_append, if_true, Bool.false_eq_true, if_false, ev_iop, ev_bop, Bool.not_true, Bool.not_false, res_ret, res_next, res_exc, oAdd_int, oAddI_int, oNe_int, oEq_int, oNe_bl, beq_self_eq_true, ev_asg, ev_gtTup, ev_gtCons, ev_gtNil, ev_gtName, List.length_cons, List.length_nil, Nat.reduceAdd, Nat.zero_add, sz0, sz1, sz2, sz3, sz4, sz5, sz6, sz7, sz8, sz9, sz10, sz11, sz12, sz13, sz14, sz15, sz16, sz17, sz18, sz19, sz20, sz21, sz22, sz23, sz24, sz25, sz26, sz27, sz28, sz29, sz30, sz31, sz32, a0, a1, c1, n1]
    rw [k]
  · rw [if_neg z, gateV, q1, q2] at nw
    have lf : leafV tips row (N.first + j) = none := by
      unfold leafV
      rw [if_neg z, if_neg (by omega)]
    have n1 := notin_nums (N.first + j) tips (H ++ [some (.lst ((List.range (N.first + N.gat.length)).map fun v => bD (curV tips row N.first N.gat j v)))])
    rw [decide_eq_false z] at n1
    cases x : curV tips row N.first N.gat j (g.1 / 2) with
    | none =>
      rw [x] at nw r1
      have k := cur_keep (M := N.first + N.gat.length) hg (by rw [nw, lf]; rfl)
      simp only [ev_seq, ev_set, ev_bin, ev_cons, ev_nil, ev_var, ev_k, ev_call, ev_ret, ev_expr, ev_if, ev_tv, ev_tnot, ev_tand, ev_tor, ev_chain, ev_lst, ev_lstM, ev_tup, ev_cB, ev_lc, ev_wipe0, ev_wipe1, ev_alloc, ev_allocM, ev_sNil, ev_and, ev_not, ev_raise, seq_next, seq_ret, seq_exc, Res.bind_ok, Res.bind_exc, Res.out_ok, Res.out_exc, List.getElem?_cons_zero, List.getElem?_cons_succ, List.set_cons_succ, List.set_cons_zero, List.append_nil, List.nil_append, List.cons_append, if_true, Bool.false_eq_true, if_false, ev_iop, ev_bop, Bool.not_true, Bool.not_false, res_ret, res_next, res_exc, oAdd_int, oAddI_int, oNe_int, oEq_int, oNe_bl, beq_self_eq_true, ev_asg, ev_gtTup, ev_gtCons, ev_gtNil, ev_gtName, List.length_cons, List.length_nil, Nat.reduceAdd, Nat.zero_add, sz0, sz1, sz2, sz3, sz4, sz5, sz6, sz7, sz8, sz9, sz10, sz11, sz12, sz13, sz14, sz15, sz16, sz17, sz18, sz19, sz20, sz21, sz22, sz23, sz24, sz25, sz26, sz27, sz28, sz29, sz30, sz31, sz32, a0, a1, c1, n1, d1, d2, r1, notN_b, Option.isSome_none]
      rw [k]
    | some a =>
      cases y : curV tips row N.first N.gat j (g.2 / 2) with
      | none =>
        rw [x, y] at nw
        rw [x] at r1
        rw [y] at r2
        have k := cur_keep (M := N.first + N.gat.length) hg (by rw [nw, lf]; rfl)
        simp only [ev_seq, ev_set, ev_bin, ev_cons, ev_nil, ev_var, ev_k, ev_call, ev_ret, ev_expr, ev_if, ev_tv, ev_tnot, ev_tand, ev_tor, ev_chain, ev_lst, ev_lstM, ev_tup, ev_cB, ev_lc, ev_wipe0, ev_wipe1, ev_alloc, ev_allocM, ev_sNil, ev_and, ev_not, ev_raise, seq_next, seq_ret, seq_exc, Res.bind_ok, Res.bind_exc, Res.out_ok, Res.out_exc, List.getElem?_cons_zero, List.getElem?_cons_succ, List.set_cons_succ, List.set_cons_zero, List.append_nil, List.nil_append, List.cons_append, if_true, Bool.false_eq_true, if_false, ev_iop, ev_bop, Bool.not_true, Bool.not_false, res_ret, res_next, res_exc, oAdd_int, oAddI_int, oNe_int, oEq_int, oNe_bl, beq_self_eq_true, ev_asg, ev_gtTup, ev_gtCons, ev_gtNil, ev_gtName, List.length_cons, List.length_nil, Nat.reduceAdd, Nat.zero_add, sz0, sz1, sz2, sz3, sz4, sz5, sz6, sz7, sz8, sz9, sz10, sz11, sz12, sz13, sz14, sz15, sz16, sz17, sz18, sz19, sz20, sz21, sz22, sz23, sz24, sz25, sz26, sz27, sz28, sz29, sz30, sz31, sz32, a0, a1, c1, n1, d1, d2, r1, r2, notN_b, Option.isSome_none, Option.isSome_some]
        rw [k]
      | some c =>
        rw [x, y] at nw
        rw [x] at r1
        rw [y] at r2
        have u1 := told_of (e := g.1) r1
        have u2 := told_of (e := g.2) r2
        have p := put_last (fe := cBin oMul (cCall F_law_told [] (cCons (cVar 6) (cCons (cVar 8) cNil))) (cCall F_law_told [] (cCons (cVar 6) (cCons (cVar 9) cNil)))) (fo := cVar 6) (fi := cBin (oAdd false) (cVar 3) (cVar 7)) (st := [some N.d, s1, some (.lst (dnums tips)), some (.int (N.first : Nat)), s4, s5, some (.ref H.length), some (.int (j : Nat)), some (.int (g.1 : Nat)), some (.int (g.2 : Nat))]) (h := H) (l := (List.range (N.first + N.gat.length)).map fun v => bD (curV tips row N.first N.gat j v)) (i := N.first + j) (d := bD (some (xv a g.1 && xv c g.2))) (by simp only [ev_seq, ev_set, ev_bin, ev_cons, ev_nil, ev_var, ev_k, ev_call, ev_ret, ev_expr, ev_if, ev_tv, ev_tnot, ev_tand, ev_tor, ev_chain, ev_lst, ev_lstM, ev_tup, ev_cB, ev_lc, ev_wipe0, ev_wipe1, ev_alloc, ev_allocM, ev_sNil, ev_and, ev_not, ev_raise, seq_next, seq_ret, seq_exc, Res.bind_ok, Res.bind_exc, Res.out_ok, Res.out_exc, List.getElem?_cons_zero, List.getElem?_cons_succ, List.set_cons_succ, List.set_cons_zero, List.append_nil, List.nil_append, List.cons_append, if_true, Bool.false_eq_true, if_false, ev_iop, ev_bop, Bool.not_true, Bool.not_false, res_ret, res_next, res_exc, oAdd_int, oAddI_int, oNe_int, oEq_int, oNe_bl, beq_self_eq_true, ev_asg, ev_gtTup, ev_gtCons, ev_gtNil, ev_gtName, List.length_cons, List.length_nil, Nat.reduceAdd, Nat.zero_add, sz0, sz1, sz2, sz3, sz4, sz5, sz6, sz7, sz8, sz9, sz10, sz11, sz12, sz13, sz14, sz15, sz16, sz17, sz18, sz19, sz20, sz21, sz22, sz23, sz24, sz25, sz26, sz27, sz28, sz29, sz30, sz31, sz32, u1, u2, mul_bits]) rfl (by simp only [ev_seq, ev_set, ev_bin, ev_cons, ev_nil, ev_var, ev_k, ev_call, ev_ret, ev_expr, ev_if, ev_tv, ev_tnot, ev_tand, ev_tor, ev_chain, ev_lst, ev_lstM, ev_tup, ev_cB, ev_lc, ev_wipe0, ev_wipe1, ev_alloc, ev_allocM, ev_sNil, ev_and, ev_not, ev_raise, seq_next, seq_ret, seq_exc, Res.bind_ok, Res.bind_exc, Res.out_ok, Res.out_exc, List.getElem?_cons_zero, List.getElem?_cons_succ, List.set_cons_succ, List.set_cons_zero, List.append_nil, List.nil_append, List.cons_append, if_true, Bool.false_eq_true, if_false, ev_iop, ev_bop, Bool.not_true, Bool.not_false, res_ret, res_next, res_exc, oAdd_int, oAddI_int, oNe_int, oEq_int, oNe_bl, beq_self_eq_true, ev_asg, ev_gtTup, ev_gtCons, ev_gtNil, ev_gtName, List.length_cons, List.length_nil, Nat.reduceAdd, Nat.zero_add, sz0, sz1, sz2, sz3, sz4, sz5, sz6, sz7, sz8, sz9, sz10, sz11, sz12, sz13, sz14, sz15, sz16, sz17, sz18, sz19, sz20, sz21, sz22, sz23, sz24, sz25, sz26, sz27, sz28, sz29, sz30, sz31, sz32, c1]) (by simp; omega)
        have nw : curV tips row N.first N.gat (j + 1) (N.first + j) = some (xv a g.1 && xv c g.2) := nw
        rw [cur_set (M := N.first + N.gat.length) hg (by omega) nw] at p
        simp only [ev_seq, ev_set, ev_bin, ev_cons, ev_nil, ev_var, ev_k, ev_call, ev_ret, ev_expr, ev_if, ev_tv, ev_tnot, ev_tand, ev_tor, ev_chain, ev_lst, ev_lstM, ev_tup, ev_cB, ev_lc, ev_wipe0, ev_wipe1, ev_alloc, ev_allocM, ev_sNil, ev_and, ev_not, ev_raise, seq_next, seq_ret, seq_exc, Res.bind_ok, Res.bind_exc, Res.out_ok, Res.out_exc, List.getElem?_cons_zero, List.getElem?_cons_succ, List.set_cons_succ, List.set_cons_zero, List.append_nil, List.nil_append, List.cons_append, if_true, Bool.false_eq_true, if_false, ev_iop, ev_bop, Bool.not_true, Bool.not_false, res_ret, res_next, res_exc, oAdd_int, oAddI_int, oNe_int, oEq_int, oNe_bl, beq_self_eq_true, ev_asg, ev_gtTup, ev_gtCons, ev_gtNil, ev_gtName, List.length_cons, List.length_nil, Nat.reduceAdd, Nat.zero_add, sz0, sz1, sz2, sz3, sz4, sz5, sz6, sz7, sz8, sz9, sz10, sz11, sz12, sz13, sz14, sz15, sz16, sz17, sz18, sz19, sz20, sz21, sz22, sz23, sz24, sz25, sz26, sz27, sz28, sz29, sz30, sz31, sz32, a0, a1, c1, n1, d1, d2, r1, r2, notN_b, Option.isSome_some, p]
end K23

namespace K23
open PySem PySem.Spec PyProof.Rows Gm
theorem gates_loop {N : Nt} {tips : List Nat} {row : Nat} {H : Store} {s1 s4 s5 s7 s8 s9 : Option D} (ok : N.Ok) (fw : N.Few) : ∃ z7 z8 z9,
    (sFor (iRange1 (cCons (cB fLen (cCons (cBin oIx (cVar 0) (cK (.int 2))) cNil)) cNil)) (gtName 7) LG) [some N.d, s1, some (.lst (dnums tips)), some (.int (N.first : Nat)), s4, s5, some (.ref H.length), s7, s8, s9] (H ++ [some (.lst ((List.range (N.first + N.gat.length)).map fun v => bD (leafV tips row v)))]) =
      .next [some N.d, s1, some (.lst (dnums tips)), some (.int (N.first : Nat)), s4, s5, some (.ref H.length), z7, z8, z9] (H ++ [some (.lst ((valV tips row N.first N.gat).map bD))]) := by
  have b3 := fw.gat
  have a0 : ∀ h, oIx N.d (.int 2) h = .ok (.lst (N.gat.map gp)) h := fun h => rfl
  have ln : ∀ h, fLen [.lst (N.gat.map gp)] h = .ok (.int (N.gat.length : Nat)) h := fun h => by rw [len_lst, List.length_map]
  have r1 : iRange1 (cCons (cB fLen (cCons (cBin oIx (cVar 0) (cK (.int 2))) cNil)) cNil) [some N.d, s1, some (.lst (dnums tips)), some (.int (N.first : Nat)), s4, s5, some (.ref H.length), s7, s8, s9] (H ++ [some (.lst ((List.range (N.first + N.gat.length)).map fun v => bD (leafV tips row v)))]) = .ok ((List.range N.gat.length).map fun (i : Nat) => D.int (i : Int)) (H ++ [some (.lst ((List.range (N.first + N.gat.length)).map fun v => bD (leafV tips row v)))]) := ev_range1 (by simp only [ev_seq, ev_set, ev_bin, ev_cons, ev_nil, ev_var, ev_k, ev_call, ev_ret, ev_expr, ev_if, ev_tv, ev_tnot, ev_tand, ev_tor, ev_chain, ev_lst, ev_lstM, ev_tup, ev_cB, ev_lc, ev_wipe0, ev_wipe1, ev_alloc, ev_allocM, ev_sNil, ev_and, ev_not, ev_raise, seq_next, seq_ret, seq_exc, Res.bind_ok, Res.bind_exc, Res.out_ok, Res.out_exc, List.getElem?_cons_zero, List.getElem?_cons_succ, List.set_cons_succ, List.set_cons_zero, List.append_nil, List.nil_append, List.cons_append, if_true, Bool.false_eq_true, if_false, ev_iop, ev_bop, Bool.not_true, Bool.not_false, res_ret, res_next, res_exc, oAdd_int, oAddI_int, oNe_int, oEq_int, oNe_bl, beq_self_eq_true, ev_asg, ev_gtTup, ev_gtCons, ev_gtNil, ev_gtName, List.length_cons, List.length_nil, Nat.reduceAdd, Nat.zero_add, sz0, sz1, sz2, sz3, sz4, sz5, sz6, sz7, sz8, sz9, sz10, sz11, sz12, sz13, sz14, sz15, sz16, sz17, sz18, sz19, sz20, sz21, sz22, sz23, sz24, sz25, sz26, sz27, sz28, sz29, sz30, sz31, sz32, a0, ln]) (by omega)
  have st0 : ((List.range (N.first + N.gat.length)).map fun v => bD (leafV tips row v)) = (List.range (N.first + N.gat.length)).map fun v => bD (curV tips row N.first N.gat 0 v) := List.map_congr_left fun v _ => by rw [cur_zero]
  obtain ⟨st', h', e, ⟨e9, _⟩, z7, z8, z9, rfl⟩ := forL_inv (fg := gtName 7) (fb := LG) (fun j st h1 => (h1 = H ++ [some (.lst ((List.range (N.first + N.gat.length)).map fun v => bD (curV tips row N.first N.gat j v)))] ∧ j ≤ N.gat.length) ∧ ∃ z7 z8 z9, st = [some N.d, s1, some (.lst (dnums tips)), some (.int (N.first : Nat)), s4, s5, some (.ref H.length), z7, z8, z9])
    ((List.range N.gat.length).map fun (i : Nat) => D.int (i : Int)) 0 [some N.d, s1, some (.lst (dnums tips)), some (.int (N.first : Nat)), s4, s5, some (.ref H.length), s7, s8, s9] (H ++ [some (.lst ((List.range (N.first + N.gat.length)).map fun v => bD (leafV tips row v)))]) (fun j d st h1 hd ⟨⟨i1, _⟩, z7, z8, z9, i2⟩ => by
      subst i1 i2
      rw [Nat.zero_add]
      rw [List.getElem?_map] at hd
      have hj : j < N.gat.length := by
        by_cases z : j < N.gat.length
        · exact z
        · rw [List.getElem?_eq_none (by simpa using z)] at hd
          cases hd
      rw [List.getElem?_range hj] at hd
      have hd : D.int (j : Int) = d := by simpa using hd
      subst hd
      have hg : N.gat[j]? = some N.gat[j] := List.getElem?_eq_getElem hj
      exact ⟨_, _, _, _, rfl, gate_step ok hg, ⟨rfl, hj⟩, some (.int (j : Nat)), some (.int (N.gat[j].1 : Nat)), some (.int (N.gat[j].2 : Nat)), rfl⟩) ⟨⟨by rw [st0], Nat.zero_le _⟩, s7, s8, s9, rfl⟩
  rw [Nat.zero_add, List.length_map, List.length_range] at e9
  have fin : ((List.range (N.first + N.gat.length)).map fun v => bD (curV tips row N.first N.gat N.gat.length v)) = (valV tips row N.first N.gat).map bD := by
    apply List.ext_getElem?
    intro i
    rw [List.getElem?_map, List.getElem?_map]
    by_cases y : i < N.first + N.gat.length
    · rw [List.getElem?_range y]
      have q : (valV tips row N.first N.gat)[i]? = some ((valV tips row N.first N.gat)[i]'(by rw [valV_len]; exact y)) := List.getElem?_eq_getElem _
      show some (bD (curV tips row N.first N.gat N.gat.length i)) = _
      unfold curV
      rw [if_pos y, List.take_length, q]
      rfl
    · rw [List.getElem?_eq_none (by simpa using y), List.getElem?_eq_none (by rw [valV_len]; omega)]
      rfl
  rw [fin] at e9
  rw [e9] at e
  exact ⟨z7, z8, z9, by rw [ev_for, r1, Res.out_ok, e]⟩
/-- one row of `_law_local` -/
def LA : Ss := (sSet 6 (cBin (oRep true) (cLst false (cCons (cK .non) cNil)) (cBin (oAdd false) (cVar 3) (cB fLen (cCons (cBin oIx (cVar 0) (cK (.int 2))) cNil)))))
theorem la_eq {N : Nt} {H : Store} {s1 s2 s4 s5 s6 s7 s8 s9 : Option D} (fw : N.Few) : LA [some N.d, s1, s2, some (.int (N.first : Nat)), s4, s5, s6, s7, s8, s9] H =
    .next [some N.d, s1, s2, some (.int (N.first : Nat)), s4, s5, some (.ref H.length), s7, s8, s9] (H ++ [some (.lst (List.replicate (N.first + N.gat.length) .non))]) := by
  have b1 := fw.ins
  have b2 := fw.lat
  have b3 := fw.gat
  have fl : N.first ≤ 11 := by
    unfold Nt.first
    omega
  have a0 : ∀ h, oIx N.d (.int 2) h = .ok (.lst (N.gat.map gp)) h := fun h => rfl
  have ln : ∀ h, fLen [.lst (N.gat.map gp)] h = .ok (.int (N.gat.length : Nat)) h := fun h => by rw [len_lst, List.length_map]
  have c : (N.first : Int) + (N.gat.length : Int) = ((N.first + N.gat.length : Nat) : Int) := by omega
  have rp : oRep true (.lst [.non]) (.int (N.first + N.gat.length : Nat)) H = .ok (.ref H.length) (H ++ [some (.lst (List.replicate (N.first + N.gat.length) .non))]) := by
    have g : g63 ((N.first + N.gat.length : Nat) : Int) = true ∧ [D.non].length * ((N.first + N.gat.length : Nat) : Int).toNat ≤ sizeLine := ⟨by
      unfold g63
      exact Nat.ble_eq_true_of_le (by rw [Int.natAbs_natCast]; omega), by
      rw [Int.toNat_natCast]
      exact small_line (by simp; omega)⟩
    show (if g63 ((N.first + N.gat.length : Nat) : Int) = true ∧ [D.non].length * ((N.first + N.gat.length : Nat) : Int).toNat ≤ sizeLine then alloc true (List.replicate ((N.first + N.gat.length : Nat) : Int).toNat [D.non]).flatten H else .no) = _
    rw [if_pos g, Int.toNat_natCast]
    have f : (List.replicate (N.first + N.gat.length) [D.non]).flatten = List.replicate (N.first + N.gat.length) .non := by
      induction N.first + N.gat.length with
      | zero => rfl
      | succ k ih => rw [List.replicate_succ, List.flatten_cons, ih]; rfl
    rw [f]
    rfl
  unfold LA
  simp only [ev_seq, ev_set, ev_bin, ev_cons, ev_nil, ev_var, ev_k, ev_call, ev_ret, ev_expr, ev_if, ev_tv, ev_tnot, ev_tand, ev_tor, ev_chain, ev_lst, ev_lstM, ev_tup, ev_cB, ev_lc, ev_wipe0, ev_wipe1, ev_alloc, ev_allocM, ev_sNil, ev_and, ev_not, ev_raise, seq_next, seq_ret, seq_exc, Res.bind_ok, Res.bind_exc, Res.out_ok, Res.out_exc, List.getElem?_cons_zero, List.getElem?_cons_succ, List.set_cons_succ, List.set_cons_zero, List.append_nil, List.nil_append, List.cons_append, if_true, Bool.false_eq_true, if_false, ev_iop, ev_bop, Bool.not_true, Bool.not_false, res_ret, res_next, res_exc, oAdd_int, oAddI_int, oNe_int, oEq_int, oNe_bl, beq_self_eq_true, ev_asg, ev_gtTup, ev_gtCons, ev_gtNil, ev_gtName, List.length_cons, List.length_nil, Nat.reduceAdd, Nat.zero_add, sz0, sz1, sz2, sz3, sz4, sz5, sz6, sz7, sz8, sz9, sz10, sz11, sz12, sz13, sz14, sz15, sz16, sz17, sz18, sz19, sz20, sz21, sz22, sz23, sz24, sz25, sz26, sz27, sz28, sz29, sz30, sz31, sz32, a0, ln, c, rp]
end K23

namespace K23
open PySem PySem.Spec PyProof.Rows Gm
theorem start_eq {row M : Nat} (hM : 0 < M) : (List.replicate M D.non).set 0 (.int 0) = (List.range M).map fun v => bD (leafV [] row v) := by
  apply List.ext_getElem?
  intro i
  rw [List.getElem?_set, List.getElem?_map, List.getElem?_replicate]
  by_cases z : 0 = i
  · subst z
    rw [if_pos rfl, if_pos (by simpa using hM), List.getElem?_range hM]
    rfl
  · rw [if_neg z]
    by_cases y : i < M
    · rw [if_pos y, List.getElem?_range y]
      show some D.non = some (bD (leafV [] row i))
      unfold leafV
      rw [if_neg (by simp), if_neg (Ne.symm z)]
      rfl
    · rw [if_neg y, List.getElem?_eq_none (by simpa using y)]
      rfl
def LF : Ss := (sFrz 6 (sExpr (cMt "list" mAppend (cVar 4) (cCons (cIf (cTv (cBin oIsN (cBin oIx (cVar 6) (cBin oDiv (cVar 1) (cK (.int 2)))) (cK .non))) (cK .non) (cCall F_law_told [] (cCons (cVar 6) (cCons (cVar 1) cNil)))) cNil))))
def LR : Ss := (sSeq LA (sSeq (sPut (cK (.int 0)) (cVar 6) (cK (.int 0))) (sSeq (sFor (iRange1 (cCons (cB fLen (cCons (cVar 2) cNil)) cNil)) (gtName 7) LT) (sSeq (sFor (iRange1 (cCons (cB fLen (cCons (cBin oIx (cVar 0) (cK (.int 2))) cNil)) cNil)) (gtName 7) LG) LF))))
theorem get_mid {h u : Store} {a : Option Cell} : (h ++ (a :: u))[h.length]? = some a := by simp
theorem set_mid {h u : Store} {a b : Option Cell} : (h ++ (a :: u)).set h.length b = h ++ (b :: u) := by simp
theorem isN_b (x : Option Bool) {h : Store} : oIsN (bD x) .non h = .ok (.bl x.isNone) h := by cases x <;> rfl
theorem row_eq {N : Nt} {tips : List Nat} {row e : Nat} {fs : List D} {h u : Store} {s6 s7 s8 s9 : Option D} (ok : N.Ok) (fw : N.Few) (nd : tips.Nodup) (hn : tips.length ≤ 10) (hM : ∀ t ∈ tips, t < N.first + N.gat.length) (he : e / 2 < N.first + N.gat.length) (hf : fs.length ≤ 1000) : ∃ z6 z7 z8 z9,
    LR [some N.d, some (.int (e : Nat)), some (.lst (dnums tips)), some (.int (N.first : Nat)), some (.ref h.length), some (.int (row : Nat)), s6, s7, s8, s9] (h ++ (some (.lst fs) :: u)) =
      .next [some N.d, some (.int (e : Nat)), some (.lst (dnums tips)), some (.int (N.first : Nat)), some (.ref h.length), some (.int (row : Nat)), z6, z7, z8, z9] (h ++ (some (.lst (fs ++ [bD (sgV (valV tips row N.first N.gat) e)])) :: (u ++ [none]))) := by
  have f1 : 0 < N.first + N.gat.length := by
    unfold Nt.first
    omega
  have p := put_last (fe := cK (.int 0)) (fo := cVar 6) (fi := cK (.int 0)) (st := [some N.d, some (.int (e : Nat)), some (.lst (dnums tips)), some (.int (N.first : Nat)), some (.ref h.length), some (.int (row : Nat)), some (.ref (h ++ (some (.lst fs) :: u)).length), s7, s8, s9]) (h := h ++ (some (.lst fs) :: u)) (l := List.replicate (N.first + N.gat.length) .non) (i := 0) (d := .int 0) rfl rfl rfl (by simpa using f1)
  rw [start_eq (row := row) f1] at p
  obtain ⟨z7, t1⟩ := tips_loop (tips := tips) (row := row) (M := N.first + N.gat.length) (H := h ++ (some (.lst fs) :: u)) (s0 := some N.d) (s1 := some (.int (e : Nat))) (s3 := some (.int (N.first : Nat))) (s4 := some (.ref h.length)) (s7 := s7) (s8 := s8) (s9 := s9) nd hn hM
  obtain ⟨w7, w8, w9, t2⟩ := gates_loop (tips := tips) (row := row) (H := h ++ (some (.lst fs) :: u)) (s1 := some (.int (e : Nat))) (s4 := some (.ref h.length)) (s5 := some (.int (row : Nat))) (s7 := z7) (s8 := s8) (s9 := s9) ok fw
  refine ⟨some (.lst ((valV tips row N.first N.gat).map bD)), w7, w8, w9, ?_⟩
  unfold LR
  rw [ev_seq, la_eq fw, seq_next, ev_seq, p, seq_next, ev_seq, t1, seq_next, ev_seq, t2, seq_next]
  unfold LF
  rw [frz_last rfl]
  obtain ⟨x, hx⟩ : ∃ x, (valV tips row N.first N.gat)[e / 2]? = some x := ⟨_, List.getElem?_eq_getElem (by rw [valV_len]; exact he)⟩
  have sg : sgV (valV tips row N.first N.gat) e = x.map fun b => xv b e := by
    unfold sgV
    rw [hx]
    cases x <;> rfl
  have c : ((h ++ (some (Cell.lst fs) :: u)) ++ [none])[h.length]? = some (some (Cell.lst fs)) := by simp
  have s : ((h ++ (some (Cell.lst fs) :: u)) ++ [none]).set h.length (some (Cell.lst (fs ++ [bD (x.map fun b => xv b e)]))) = h ++ (some (.lst (fs ++ [bD (x.map fun b => xv b e)])) :: (u ++ [none])) := by simp
  have ap := app_any (d := bD (x.map fun b => xv b e)) c hf
  rw [s] at ap
  have a := at_plain (h := (h ++ (some (.lst fs) :: u)) ++ [none]) (l := (valV tips row N.first N.gat).map bD) (i := e / 2) (d := bD x) (by rw [List.getElem?_map, hx]; rfl)
  have d1 : (e : Int) / 2 = ((e / 2 : Nat) : Int) := by omega
  have d2 : gDiv (e : Int) 2 = true := gDiv_of (k := 2) (by decide) (by decide) (by decide)
  rw [ev_expr, sg]
  simp only [List.set_cons_succ, List.set_cons_zero]
  rw [ev_cMt (d := D.ref h.length) (h1 := (h ++ (some (.lst fs) :: u)) ++ [none]) rfl (isL_any c)]
  cases x with
  | none =>
    have ap : mAppend (.ref h.length) [.non] ((h ++ (some (.lst fs) :: u)) ++ [none]) = _ := ap
    simp only [ev_seq, ev_set, ev_bin, ev_cons, ev_nil, ev_var, ev_k, ev_call, ev_ret, ev_expr, ev_if, ev_tv, ev_tnot, ev_tand, ev_tor, ev_chain, ev_lst, ev_lstM, ev_tup, ev_cB, ev_lc, ev_wipe0, ev_wipe1, ev_alloc, ev_allocM, ev_sNil, ev_and, ev_not, ev_raise, seq_next, seq_ret, seq_exc, Res.bind_ok, Res.bind_exc, Res.out_ok, Res.out_exc, List.getElem?_cons_zero, List.getElem?_cons_succ, List.set_cons_succ, List.set_cons_zero, if_true, Bool.false_eq_true, if_false, ev_iop, ev_bop, Bool.not_true, Bool.not_false, res_ret, res_next, res_exc, oAdd_int, oAddI_int, oNe_int, oEq_int, oNe_bl, beq_self_eq_true, ev_asg, ev_gtTup, ev_gtCons, ev_gtNil, ev_gtName, List.length_cons, List.length_nil, Nat.reduceAdd, Nat.zero_add, sz0, sz1, sz2, sz3, sz4, sz5, sz6, sz7, sz8, sz9, sz10, sz11, sz12, sz13, sz14, sz15, sz16, sz17, sz18, sz19, sz20, sz21, sz22, sz23, sz24, sz25, sz26, sz27, sz28, sz29, sz30, sz31, sz32, d1, d2, a, isN_b, Option.isNone_none, ev_cif2, ap]
  | some b =>
    have tl := told_of (r := .lst ((valV tips row N.first N.gat).map bD)) (e := e) a
    have ap : mAppend (.ref h.length) [bD (some (xv b e))] ((h ++ (some (.lst fs) :: u)) ++ [none]) = _ := ap
    simp only [ev_seq, ev_set, ev_bin, ev_cons, ev_nil, ev_var, ev_k, ev_call, ev_ret, ev_expr, ev_if, ev_tv, ev_tnot, ev_tand, ev_tor, ev_chain, ev_lst, ev_lstM, ev_tup, ev_cB, ev_lc, ev_wipe0, ev_wipe1, ev_alloc, ev_allocM, ev_sNil, ev_and, ev_not, ev_raise, seq_next, seq_ret, seq_exc, Res.bind_ok, Res.bind_exc, Res.out_ok, Res.out_exc, List.getElem?_cons_zero, List.getElem?_cons_succ, List.set_cons_succ, List.set_cons_zero, List.append_nil, if_true, Bool.false_eq_true, if_false, ev_iop, ev_bop, Bool.not_true, Bool.not_false, res_ret, res_next, res_exc, oAdd_int, oAddI_int, oNe_int, oEq_int, oNe_bl, beq_self_eq_true, ev_asg, ev_gtTup, ev_gtCons, ev_gtNil, ev_gtName, List.length_cons, List.length_nil, Nat.reduceAdd, Nat.zero_add, sz0, sz1, sz2, sz3, sz4, sz5, sz6, sz7, sz8, sz9, sz10, sz11, sz12, sz13, sz14, sz15, sz16, sz17, sz18, sz19, sz20, sz21, sz22, sz23, sz24, sz25, sz26, sz27, sz28, sz29, sz30, sz31, sz32, d1, d2, a, isN_b, Option.isNone_some, ev_cif2, tl, ap]
end K23

namespace K23
open PySem PySem.Spec PyProof.Rows Gm
def bV : Option Bool → L2.V
  | none => L2.V.non
  | some b => L2.V.int (if b = true then 1 else 0 : Nat)
theorem flats_b (bs : List (Option Bool)) : flats (bs.map bD) = some (bs.map bV) := by
  induction bs with
  | nil => rfl
  | cons x bs ih =>
    rw [List.map_cons, List.map_cons, flats, ih]
    cases x <;> rfl
theorem in_b (bs : List (Option Bool)) (h : Store) : oIn .non (.lst (bs.map bD)) h = .ok (.bl (bs.any (·.isNone))) h := by
  have e : L2.inV L2.V.non (bs.map bV) = bs.any (·.isNone) := by
    induction bs with
    | nil => rfl
    | cons x bs ih =>
      rw [List.map_cons, List.any_cons, ← ih]
      cases x <;> rfl
  have q : inD h .non (.lst (bs.map bD)) = some (bs.any (·.isNone)) := by
    rw [← e]
    show (match D.flat .non, (asR h (.lst (bs.map bD))).bind flats with
      | some v, some vs => some (L2.inV v vs)
      | _, _ => none) = _
    rw [show (asR h (.lst (bs.map bD))).bind flats = flats (bs.map bD) from rfl, flats_b]
    rfl
  unfold oIn
  rw [q]
end K23

namespace K23
open PySem PySem.Spec PyProof.Rows Gm
theorem things_of {N : Nt} (h : Store) : F_law_things [N.d] h = .ok (.int (N.ins.length + N.lat.length : Nat)) h := by
  have a0 : oIx N.d (.int 0) h = .ok (.lst (N.ins.map dn)) h := rfl
  have a1 : oIx N.d (.int 1) h = .ok (.lst (N.lat.map pr)) h := rfl
  have c : (N.ins.length : Int) + (N.lat.length : Int) = ((N.ins.length + N.lat.length : Nat) : Int) := by omega
  exact fn_eq [some N.d] rfl rfl (by simp only [ev_seq, ev_set, ev_bin, ev_cons, ev_nil, ev_var, ev_k, ev_call, ev_ret, ev_expr, ev_if, ev_tv, ev_tnot, ev_tand, ev_tor, ev_chain, ev_lst, ev_lstM, ev_tup, ev_cB, ev_lc, ev_wipe0, ev_wipe1, ev_alloc, ev_allocM, ev_sNil, ev_and, ev_not, ev_raise, seq_next, seq_ret, seq_exc, Res.bind_ok, Res.bind_exc, Res.out_ok, Res.out_exc, List.getElem?_cons_zero, List.getElem?_cons_succ, List.set_cons_succ, List.set_cons_zero, List.append_nil, List.nil_append, List.cons_append, if_true, Bool.false_eq_true, if_false, ev_iop, ev_bop, Bool.not_true, Bool.not_false, res_ret, res_next, res_exc, oAdd_int, oAddI_int, oNe_int, oEq_int, oNe_bl, beq_self_eq_true, ev_asg, ev_gtTup, ev_gtCons, ev_gtNil, ev_gtName, List.length_cons, List.length_nil, Nat.reduceAdd, Nat.zero_add, sz0, sz1, sz2, sz3, sz4, sz5, sz6, sz7, sz8, sz9, sz10, sz11, sz12, sz13, sz14, sz15, sz16, sz17, sz18, sz19, sz20, sz21, sz22, sz23, sz24, sz25, sz26, sz27, sz28, sz29, sz30, sz31, sz32, B_law_things, a0, a1, len_lst, List.length_map, c]) rfl
def fv (N : Nt) (tips : List Nat) (e row : Nat) : Option Bool := sgV (valV tips row N.first N.gat) e
theorem fv_none {N : Nt} {tips : List Nat} {e n row : Nat} (T : Told tips N.first N.gat n (e / 2) none) (hr : row < 2 ^ n) : fv N tips e row = none := by
  unfold fv sgV
  rw [T row hr]
theorem fv_some {N : Nt} {tips : List Nat} {e n row A : Nat} (T : Told tips N.first N.gat n (e / 2) (some A)) (hr : row < 2 ^ n) : fv N tips e row = some ((sgT n A e).testBit row) := by
  unfold fv sgV
  rw [T.2 row hr, sgT_bit hr]
theorem rows_loop {N : Nt} {tips : List Nat} {e : Nat} {h : Store} (ok : N.Ok) (fw : N.Few) (nd : tips.Nodup) (hn : tips.length ≤ 9) (hM : ∀ t ∈ tips, t < N.first + N.gat.length) (he : e / 2 < N.first + N.gat.length) : ∃ u z5 z6 z7 z8 z9,
    (sFor (iRange1 (cCons (cBin oShl (cK (.int 1)) (cB fLen (cCons (cVar 2) cNil))) cNil)) (gtName 5) LR) [some N.d, some (.int (e : Nat)), some (.lst (dnums tips)), some (.int (N.first : Nat)), some (.ref h.length), none, none, none, none, none] (h ++ [some (.lst [])]) =
      .next [some N.d, some (.int (e : Nat)), some (.lst (dnums tips)), some (.int (N.first : Nat)), some (.ref h.length), z5, z6, z7, z8, z9] (h ++ (some (.lst (((List.range (2 ^ tips.length)).map (fv N tips e)).map bD)) :: u)) := by
  have w : 2 ^ tips.length ≤ 2 ^ 9 := Nat.pow_le_pow_right (by decide) hn
  have r1 : iRange1 (cCons (cBin oShl (cK (.int 1)) (cB fLen (cCons (cVar 2) cNil))) cNil) [some N.d, some (.int (e : Nat)), some (.lst (dnums tips)), some (.int (N.first : Nat)), some (.ref h.length), none, none, none, none, none] (h ++ [some (.lst [])]) = .ok ((List.range (2 ^ tips.length)).map fun (i : Nat) => D.int (i : Int)) (h ++ [some (.lst [])]) := ev_range1 (by simp only [ev_seq, ev_set, ev_bin, ev_cons, ev_nil, ev_var, ev_k, ev_call, ev_ret, ev_expr, ev_if, ev_tv, ev_tnot, ev_tand, ev_tor, ev_chain, ev_lst, ev_lstM, ev_tup, ev_cB, ev_lc, ev_wipe0, ev_wipe1, ev_alloc, ev_allocM, ev_sNil, ev_and, ev_not, ev_raise, seq_next, seq_ret, seq_exc, Res.bind_ok, Res.bind_exc, Res.out_ok, Res.out_exc, List.getElem?_cons_zero, List.getElem?_cons_succ, List.set_cons_succ, List.set_cons_zero, List.append_nil, List.nil_append, List.cons_append, if_true, Bool.false_eq_true, if_false, ev_iop, ev_bop, Bool.not_true, Bool.not_false, res_ret, res_next, res_exc, oAdd_int, oAddI_int, oNe_int, oEq_int, oNe_bl, beq_self_eq_true, ev_asg, ev_gtTup, ev_gtCons, ev_gtNil, ev_gtName, List.length_cons, List.length_nil, Nat.reduceAdd, Nat.zero_add, sz0, sz1, sz2, sz3, sz4, sz5, sz6, sz7, sz8, sz9, sz10, sz11, sz12, sz13, sz14, sz15, sz16, sz17, sz18, sz19, sz20, sz21, sz22, sz23, sz24, sz25, sz26, sz27, sz28, sz29, sz30, sz31, sz32, len_nums, g1 (n := tips.length) (by omega), sh1]) (by omega)
  obtain ⟨st', h', ee, u, z5, z6, z7, z8, z9, ⟨e9, _⟩, rfl⟩ := forL_inv (fg := gtName 5) (fb := LR) (fun r st h1 => ∃ (u : Store) (z5 z6 z7 z8 z9 : Option D), (h1 = h ++ (some (.lst (((List.range r).map (fv N tips e)).map bD)) :: u) ∧ r ≤ 2 ^ tips.length) ∧ st = [some N.d, some (.int (e : Nat)), some (.lst (dnums tips)), some (.int (N.first : Nat)), some (.ref h.length), z5, z6, z7, z8, z9])
    ((List.range (2 ^ tips.length)).map fun (i : Nat) => D.int (i : Int)) 0 [some N.d, some (.int (e : Nat)), some (.lst (dnums tips)), some (.int (N.first : Nat)), some (.ref h.length), none, none, none, none, none] (h ++ [some (.lst [])]) (fun r d st h1 hd ⟨u, z5, z6, z7, z8, z9, ⟨i1, _⟩, i2⟩ => by
      subst i1 i2
      rw [Nat.zero_add]
      rw [List.getElem?_map] at hd
      have hr : r < 2 ^ tips.length := by
        by_cases z : r < 2 ^ tips.length
        · exact z
        · rw [List.getElem?_eq_none (by simpa using z)] at hd
          cases hd
      rw [List.getElem?_range hr] at hd
      have hd : D.int (r : Int) = d := by simpa using hd
      subst hd
      obtain ⟨w6, w7, w8, w9, q⟩ := row_eq (row := r) (fs := ((List.range r).map (fv N tips e)).map bD) (h := h) (u := u) (s6 := z6) (s7 := z7) (s8 := z8) (s9 := z9) ok fw nd (by omega) hM he (by simp; omega)
      refine ⟨_, _, _, _, rfl, q, u ++ [none], some (.int (r : Nat)), w6, w7, w8, w9, ⟨?_, hr⟩, rfl⟩
      rw [List.range_succ, List.map_append, List.map_append]
      rfl) ⟨[], none, none, none, none, none, ⟨rfl, Nat.zero_le _⟩, rfl⟩
  rw [Nat.zero_add, List.length_map, List.length_range] at e9
  rw [e9] at ee
  exact ⟨u, z5, z6, z7, z8, z9, by rw [ev_for, r1, Res.out_ok, ee]⟩
end K23

namespace K23
open PySem PySem.Spec PyProof.Rows Gm
theorem local_eq {N : Nt} {tips : List Nat} {e : Nat} {t : Option Nat} {h : Store} (ok : N.Ok) (fw : N.Few) (nd : tips.Nodup) (hn : tips.length ≤ 9) (hM : ∀ t ∈ tips, t < N.first + N.gat.length) (he : e / 2 < N.first + N.gat.length) (T : Told tips N.first N.gat tips.length (e / 2) t) (hh : h.all (cellLw h.length) = true) :
    F_law_local [N.d, .int (e : Nat), .lst (dnums tips)] h = .ok (outT tips.length e t) h := by
  have w : 2 ^ tips.length ≤ 2 ^ 9 := Nat.pow_le_pow_right (by decide) hn
  have one := Nat.one_le_two_pow (n := tips.length)
  obtain ⟨u, z5, z6, z7, z8, z9, L⟩ := rows_loop (h := h) ok fw nd hn hM he
  have c : (1 : Int) + ((N.ins.length + N.lat.length : Nat) : Int) = (N.first : Int) := by
    unfold Nt.first
    omega
  have L2 := L
  unfold LR LA LT LG LF at L2
  have ib := in_b ((List.range (2 ^ tips.length)).map (fv N tips e)) (h ++ (none :: u))
  refine fn_trim (u := none :: u) [some N.d, some (.int (e : Nat)), some (.lst (dnums tips)), none, none, none, none, none, none, none] rfl rfl ?_ rfl (by cases t <;> rfl) hh
  have FZ : ∀ f : Ss, sFrz 4 f [some N.d, some (.int (e : Nat)), some (.lst (dnums tips)), some (.int (N.first : Nat)), some (.ref h.length), z5, z6, z7, z8, z9] (h ++ (some (.lst (((List.range (2 ^ tips.length)).map (fv N tips e)).map bD)) :: u)) =
      f [some N.d, some (.int (e : Nat)), some (.lst (dnums tips)), some (.int (N.first : Nat)), some (.lst (((List.range (2 ^ tips.length)).map (fv N tips e)).map bD)), z5, z6, z7, z8, z9] (h ++ (none :: u)) := fun f => by
    rw [frz_at (n := h.length) (l := ((List.range (2 ^ tips.length)).map (fv N tips e)).map bD) rfl get_mid, set_mid]
    rfl
  cases t with
  | none =>
    have any : ((List.range (2 ^ tips.length)).map (fv N tips e)).any (·.isNone) = true := by
      rw [List.any_eq_true]
      exact ⟨none, List.mem_map.mpr ⟨0, List.mem_range.mpr one, fv_none T one⟩, rfl⟩
    rw [any] at ib
    simp only [ev_seq, ev_set, ev_bin, ev_cons, ev_nil, ev_var, ev_k, ev_call, ev_ret, ev_expr, ev_if, ev_tv, ev_tnot, ev_tand, ev_tor, ev_chain, ev_lst, ev_lstM, ev_tup, ev_cB, ev_lc, ev_wipe0, ev_wipe1, ev_alloc, ev_allocM, ev_sNil, ev_and, ev_not, ev_raise, seq_next, seq_ret, seq_exc, Res.bind_ok, Res.bind_exc, Res.out_ok, Res.out_exc, List.getElem?_cons_zero, List.getElem?_cons_succ, List.set_cons_succ, List.set_cons_zero, if_true, Bool.false_eq_true, if_false, ev_iop, ev_bop, Bool.not_true, Bool.not_false, res_ret, res_next, res_exc, oAdd_int, oAddI_int, oNe_int, oEq_int, oNe_bl, beq_self_eq_true, ev_asg, ev_gtTup, ev_gtCons, ev_gtNil, ev_gtName, List.length_cons, List.length_nil, Nat.reduceAdd, Nat.zero_add, sz0, sz1, sz2, sz3, sz4, sz5, sz6, sz7, sz8, sz9, sz10, sz11, sz12, sz13, sz14, sz15, sz16, sz17, sz18, sz19, sz20, sz21, sz22, sz23, sz24, sz25, sz26, sz27, sz28, sz29, sz30, sz31, sz32, B_law_local, things_of, c, L2, FZ, ib, List.append_nil]
    rfl
  | some A =>
    have any : ((List.range (2 ^ tips.length)).map (fv N tips e)).any (·.isNone) = false := by
      rw [List.any_eq_false]
      intro x hx
      obtain ⟨r, hr, rfl⟩ := List.mem_map.mp hx
      rw [fv_some T (List.mem_range.mp hr)]
      simp
    rw [any] at ib
    have ln : fLen [.lst (((List.range (2 ^ tips.length)).map (fv N tips e)).map bD)] (h ++ (none :: u)) = .ok (.int (2 ^ tips.length : Nat)) (h ++ (none :: u)) := by rw [len_lst, List.length_map, List.length_map, List.length_range]
    have r1 : iRange1 (cCons (cB fLen (cCons (cVar 4) cNil)) cNil) [some N.d, some (.int (e : Nat)), some (.lst (dnums tips)), some (.int (N.first : Nat)), some (.lst (((List.range (2 ^ tips.length)).map (fv N tips e)).map bD)), z5, z6, z7, z8, z9] (h ++ (none :: u)) = .ok ((List.range (2 ^ tips.length)).map fun (i : Nat) => D.int (i : Int)) (h ++ (none :: u)) := ev_range1 (by simp only [ev_seq, ev_set, ev_bin, ev_cons, ev_nil, ev_var, ev_k, ev_call, ev_ret, ev_expr, ev_if, ev_tv, ev_tnot, ev_tand, ev_tor, ev_chain, ev_lst, ev_lstM, ev_tup, ev_cB, ev_lc, ev_wipe0, ev_wipe1, ev_alloc, ev_allocM, ev_sNil, ev_and, ev_not, ev_raise, seq_next, seq_ret, seq_exc, Res.bind_ok, Res.bind_exc, Res.out_ok, Res.out_exc, List.getElem?_cons_zero, List.getElem?_cons_succ, List.set_cons_succ, List.set_cons_zero, List.append_nil, List.nil_append, List.cons_append, if_true, Bool.false_eq_true, if_false, ev_iop, ev_bop, Bool.not_true, Bool.not_false, res_ret, res_next, res_exc, oAdd_int, oAddI_int, oNe_int, oEq_int, oNe_bl, beq_self_eq_true, ev_asg, ev_gtTup, ev_gtCons, ev_gtNil, ev_gtName, List.length_cons, List.length_nil, Nat.reduceAdd, Nat.zero_add, sz0, sz1, sz2, sz3, sz4, sz5, sz6, sz7, sz8, sz9, sz10, sz11, sz12, sz13, sz14, sz15, sz16, sz17, sz18, sz19, sz20, sz21, sz22, sz23, sz24, sz25, sz26, sz27, sz28, sz29, sz30, sz31, sz32, ln]) (by omega)
    have sl : ((List.range (2 ^ tips.length)).map fun (i : Nat) => D.int (i : Int)).length ≤ sizeLine := small_line (by simp; omega)
    have e1 := lcL_all1 (fg := fName 5) (ft := cYes) (fe := cBin oMul (cBin oIx (cVar 4) (cVar 5)) (cBin oShl (cK (.int 1)) (cVar 5))) (st0 := [some N.d, some (.int (e : Nat)), some (.lst (dnums tips)), some (.int (N.first : Nat)), some (.lst (((List.range (2 ^ tips.length)).map (fv N tips e)).map bD)), none, z6, z7, z8, z9]) (h := h ++ (none :: u)) (f := fun (r : Nat) => D.int (r : Int)) (q := fun r => D.int ((if (sgT tips.length A e).testBit r = true then 2 ^ r else 0 : Nat) : Int)) (List.range (2 ^ tips.length)) fun r hr => by
      have hr := List.mem_range.mp hr
      have a := at_plain (h := h ++ (none :: u)) (l := ((List.range (2 ^ tips.length)).map (fv N tips e)).map bD) (i := r) (d := .int (if (sgT tips.length A e).testBit r = true then 1 else 0 : Nat)) (by
        rw [List.getElem?_map, List.getElem?_map, List.getElem?_range hr]
        show some (bD (fv N tips e r)) = _
        rw [fv_some T hr]
        rfl)
      have f1 : gShl 1 (r : Int) = true := gShl_of (a := 1) (k := 1) (by decide) (by omega)
      have f3 : gMul ((if (sgT tips.length A e).testBit r = true then 1 else 0 : Nat) : Int) ((2 ^ r : Nat) : Int) = true := gMul_of (k := 1) (m := r + 1) (by split <;> decide) (by rw [Int.natAbs_natCast]; exact Nat.pow_lt_pow_right (by decide) (by omega)) (by omega)
      have f4 : ((if (sgT tips.length A e).testBit r = true then 1 else 0 : Nat) : Int) * ((2 ^ r : Nat) : Int) = ((if (sgT tips.length A e).testBit r = true then 2 ^ r else 0 : Nat) : Int) := by
        split <;> simp
      refine ⟨_, rfl, rfl, ?_⟩
      simp only [ev_seq, ev_set, ev_bin, ev_cons, ev_nil, ev_var, ev_k, ev_call, ev_ret, ev_expr, ev_if, ev_tv, ev_tnot, ev_tand, ev_tor, ev_chain, ev_lst, ev_lstM, ev_tup, ev_cB, ev_lc, ev_wipe0, ev_wipe1, ev_alloc, ev_allocM, ev_sNil, ev_and, ev_not, ev_raise, seq_next, seq_ret, seq_exc, Res.bind_ok, Res.bind_exc, Res.out_ok, Res.out_exc, List.getElem?_cons_zero, List.getElem?_cons_succ, List.set_cons_succ, List.set_cons_zero, if_true, Bool.false_eq_true, if_false, ev_iop, ev_bop, Bool.not_true, Bool.not_false, res_ret, res_next, res_exc, oAdd_int, oAddI_int, oNe_int, oEq_int, oNe_bl, beq_self_eq_true, ev_asg, ev_gtTup, ev_gtCons, ev_gtNil, ev_gtName, List.length_cons, List.length_nil, Nat.reduceAdd, Nat.zero_add, sz0, sz1, sz2, sz3, sz4, sz5, sz6, sz7, sz8, sz9, sz10, sz11, sz12, sz13, sz14, sz15, sz16, sz17, sz18, sz19, sz20, sz21, sz22, sz23, sz24, sz25, sz26, sz27, sz28, sz29, sz30, sz31, sz32, a, f1, sh1, f3, f4]
    have sm : fSum [D.lst ((List.range (2 ^ tips.length)).map fun r => D.int ((if (sgT tips.length A e).testBit r = true then 2 ^ r else 0 : Nat) : Int))] (h ++ (none :: u)) = .ok (D.int (sgT tips.length A e : Nat)) (h ++ (none :: u)) := by
      have q : ((List.range (2 ^ tips.length)).map fun r => D.int ((if (sgT tips.length A e).testBit r = true then 2 ^ r else 0 : Nat) : Int)) = ((List.range (2 ^ tips.length)).map fun r => ((if (sgT tips.length A e).testBit r = true then 2 ^ r else 0 : Nat) : Int)).map D.int := by rw [List.map_map]; rfl
      have z := ofB_sum (fun r => (sgT tips.length A e).testBit r) (2 ^ tips.length)
      have s := ofB_self (sgT_lt (e := e) T.1)
      unfold fSum fOf1
      simp only [q, asR, intsOf_map, z]
      rw [show ofB (fun r => (sgT tips.length A e).testBit r) (2 ^ tips.length) = sgT tips.length A e from s]
    simp only [ev_seq, ev_set, ev_bin, ev_cons, ev_nil, ev_var, ev_k, ev_call, ev_ret, ev_expr, ev_if, ev_tv, ev_tnot, ev_tand, ev_tor, ev_chain, ev_lst, ev_lstM, ev_tup, ev_cB, ev_lc, ev_wipe0, ev_wipe1, ev_alloc, ev_allocM, ev_sNil, ev_and, ev_not, ev_raise, seq_next, seq_ret, seq_exc, Res.bind_ok, Res.bind_exc, Res.out_ok, Res.out_exc, List.getElem?_cons_zero, List.getElem?_cons_succ, List.set_cons_succ, List.set_cons_zero, if_true, Bool.false_eq_true, if_false, ev_iop, ev_bop, Bool.not_true, Bool.not_false, res_ret, res_next, res_exc, oAdd_int, oAddI_int, oNe_int, oEq_int, oNe_bl, beq_self_eq_true, ev_asg, ev_gtTup, ev_gtCons, ev_gtNil, ev_gtName, List.length_cons, List.length_nil, Nat.reduceAdd, Nat.zero_add, sz0, sz1, sz2, sz3, sz4, sz5, sz6, sz7, sz8, sz9, sz10, sz11, sz12, sz13, sz14, sz15, sz16, sz17, sz18, sz19, sz20, sz21, sz22, sz23, sz24, sz25, sz26, sz27, sz28, sz29, sz30, sz31, sz32, B_law_local, things_of, c, L2, FZ, ib, List.append_nil, r1, sl, e1, sm]
    rfl
end K23

namespace K23
open PySem PySem.Spec PyProof.Rows Gm
def Q0 : Ss := (sSet 1 (cCall F_law_box [] (cCons (cVar 0) cNil)))
def Q1 : Ss := (sSet 2 (cCall F_law_net [] (cCons (cVar 1) (cCons (cK (.int 4)) (cCons (cK (.int 2)) (cCons (cK (.int 12)) (cCons (cK (.int 2)) cNil)))))))
def Q2 : Ss := (sSet 3 (cCall F_law_made [] (cCons (cVar 2) cNil)))
def Q3 : Ss := (sSet 4 (cBin (oAdd false) (cBin (oAdd false) (cK (.int 1)) (cCall F_law_things [] (cCons (cVar 2) cNil))) (cB fLen (cCons (cBin oIx (cVar 2) (cK (.int 2))) cNil))))
def Q4_0 : Ss := (sSet 6 (cCall F_law_some_edge [] (cCons (cVar 1) (cCons (cVar 4) cNil))))
def Q4_1 : Ss := (sSet 7 (cBin oMul (cCall F_law_take [] (cCons (cVar 1) (cCons (cK (.int 6)) cNil))) (cB fInt1 (cCons (cBin oGt (cVar 4) (cK (.int 1))) cNil))))
def Q4_2 : Ss := (sSet 8 (cLc false (iRange1 (cCons (cVar 7) cNil)) (fName 12) cYes (cBin (oAdd false) (cK (.int 1)) (cCall F_law_take [] (cCons (cVar 1) (cCons (cBin oSub (cVar 4) (cK (.int 1))) cNil)))) [12]))
def Q4_3 : Ss := (sIf (cTv (cBin oEq (cCall F_law_take [] (cCons (cVar 1) (cCons (cK (.int 2)) cNil))) (cK (.int 0)))) (sSet 8 (cBin (oAdd false) (cSl false (cVar 8) cNoPart (cPart (cK (.int 2)))) (cLc false (iRange2 (cCons (cK (.int 1)) (cCons (cBin (oAdd false) (cK (.int 1)) (cCall F_law_things [] (cCons (cVar 2) cNil))) cNil))) (fName 13) cYes (cVar 13) [13]))) sNil)
def Q4_4 : Ss := (sSet 9 (cB fTuple (cCons (cSortSet false (cVar 8)) cNil)))
def Q4_5 : Ss := (sSet 10 (cCall F_law_local [] (cCons (cVar 2) (cCons (cVar 6) (cCons (cB (fList false) (cCons (cVar 9) cNil)) cNil)))))
def Q4_6_0 : Ss := (sIf (cTnot (cTv (cCall (F_law_same 6) [] (cCons (cCall F_local_table [] (cCons (cVar 3) (cCons (cVar 6) (cCons (cVar 9) cNil)))) (cCons (cVar 10) cNil))))) (sRet (cK (.bl false))) sNil)
def Q4_6b : Ss := Q4_6_0
def Q4_6 : Ss := sFor (iRange1 (cCons (cK (.int 2)) cNil)) (gtName 11) Q4_6b
def Q4b : Ss := (sSeq Q4_0 (sSeq Q4_1 (sSeq Q4_2 (sSeq Q4_3 (sSeq Q4_4 (sSeq Q4_5 Q4_6))))))
def Q4 : Ss := sFor (iRange1 (cCons (cK (.int 8)) cNil)) (gtName 5) Q4b
def Q5 : Ss := (sRet (cCall (F_law_same 6) [] (cCons (cLst false (cCons (cCall F_local_table [] (cCons (cVar 3) (cCons (cK (.int 0)) (cCons (cTup cNil) cNil)))) (cCons (cCall F_local_table [] (cCons (cVar 3) (cCons (cK (.int 1)) (cCons (cTup cNil) cNil)))) cNil))) (cCons (cLst false (cCons (cK (.int 0)) (cCons (cK (.int 1)) cNil))) cNil))))
theorem B_law_eq : B_law = (sSeq Q0 (sSeq Q1 (sSeq Q2 (sSeq Q3 (sSeq Q4 Q5))))) := rfl
variable {l : List Int} {b : Nat} {h : Store} {sc : D} {y2 y3 y4 y5 y6 y7 y8 y9 y10 y11 y12 y13 : Option D}
def Nt.top (N : Nt) : Nat := N.first + N.gat.length
theorem bx_lw (x : Bx l b [] h) : h.all (cellLw h.length) = true := by
  obtain ⟨p, r, s, rfl, _⟩ := x
  simp only [List.all_cons, List.all_nil, box_lw]
  rfl
theorem q1 (x : Bx l b [] h) (hb : b ≤ 500000) : ∃ (N : Nt) (h' : Store), N.Ok ∧ N.Few ∧ Nt.top N ≤ 19 ∧ N.ins.length + N.lat.length ≤ 6 ∧ Bx l (b + 6000) [] h' ∧ Q1 [some sc, some (D.ref 0), y2, y3, y4, y5, y6, y7, y8, y9, y10, y11, y12, y13] h = .next [some sc, some (D.ref 0), some N.d, y3, y4, y5, y6, y7, y8, y9, y10, y11, y12, y13] h' := by
  obtain ⟨N, h', e, ok, l1, l2, l3, l4, x'⟩ := net_eq x hb (i := 4) (m := 2) (top := 12) (ends := 2) (by decide) (by decide) (by decide)
  have e : F_law_net [.ref 0, .int 4, .int 2, .int 12, .int 2] h = .ok N.d h' := e
  refine ⟨N, h', ok, ⟨by omega, by omega, by omega, by omega⟩, ?_, by omega, x', by simp only [ev_seq, ev_set, ev_bin, ev_cons, ev_nil, ev_var, ev_k, ev_call, ev_ret, ev_expr, ev_if, ev_tv, ev_tnot, ev_tand, ev_tor, ev_chain, ev_lst, ev_lstM, ev_tup, ev_cB, ev_lc, ev_wipe0, ev_wipe1, ev_alloc, ev_allocM, ev_sNil, ev_and, ev_not, ev_raise, seq_next, seq_ret, seq_exc, Res.bind_ok, Res.bind_exc, Res.out_ok, Res.out_exc, List.getElem?_cons_zero, List.getElem?_cons_succ, List.set_cons_succ, List.set_cons_zero, List.append_nil, List.nil_append, List.cons_append, if_true, Bool.false_eq_true, if_false, ev_iop, ev_bop, Bool.not_true, Bool.not_false, res_ret, res_next, res_exc, oAdd_int, oAddI_int, oNe_int, oEq_int, oNe_bl, beq_self_eq_true, ev_asg, ev_gtTup, ev_gtCons, ev_gtNil, ev_gtName, List.length_cons, List.length_nil, Nat.reduceAdd, Nat.zero_add, sz0, sz1, sz2, sz3, sz4, sz5, sz6, sz7, sz8, sz9, sz10, sz11, sz12, sz13, sz14, sz15, sz16, sz17, sz18, sz19, sz20, sz21, sz22, sz23, sz24, sz25, sz26, sz27, sz28, sz29, sz30, sz31, sz32, Q1, e]⟩
  unfold Nt.top Nt.first
  omega
theorem made_eq {N : Nt} (ok : N.Ok) (fw : N.Few) (hh : h.all (cellLw h.length) = true) : F_law_made [N.d] h = .ok N.o h := by
  have a0 : ∀ h, oIx N.d (.int 0) h = .ok (.lst (N.ins.map dn)) h := fun h => rfl
  have a1 : ∀ h, oIx N.d (.int 1) h = .ok (.lst (N.lat.map pr)) h := fun h => rfl
  have a2 : ∀ h, oIx N.d (.int 2) h = .ok (.lst (N.gat.map gp)) h := fun h => rfl
  have a3 : ∀ h, oIx N.d (.int 3) h = .ok (.lst (N.out.map pr)) h := fun h => rfl
  have a4 : ∀ h, oIx N.d (.int 4) h = .ok (.lst (dnums N.nxt)) h := fun h => rfl
  have m := make_eq (E1 := sNo) (E2 := sNo) (E3 := sNo) (E4 := sNo) (E5 := sNo) (E6 := sNo) (fs := cCons (cB (fList false) (cCons (cBin oIx (cVar 0) (cK (.int 0))) cNil)) (cCons (cB (fList false) (cCons (cBin oIx (cVar 0) (cK (.int 1))) cNil)) (cCons (cB (fList false) (cCons (cBin oIx (cVar 0) (cK (.int 2))) cNil)) (cCons (cB (fList false) (cCons (cBin oIx (cVar 0) (cK (.int 3))) cNil)) (cCons (cB (fList false) (cCons (cBin oIx (cVar 0) (cK (.int 4))) cNil)) cNil))))) (st := [some N.d]) ok fw (by simp only [ev_seq, ev_set, ev_bin, ev_cons, ev_nil, ev_var, ev_k, ev_call, ev_ret, ev_expr, ev_if, ev_tv, ev_tnot, ev_tand, ev_tor, ev_chain, ev_lst, ev_lstM, ev_tup, ev_cB, ev_lc, ev_wipe0, ev_wipe1, ev_alloc, ev_allocM, ev_sNil, ev_and, ev_not, ev_raise, seq_next, seq_ret, seq_exc, Res.bind_ok, Res.bind_exc, Res.out_ok, Res.out_exc, List.getElem?_cons_zero, List.getElem?_cons_succ, List.set_cons_succ, List.set_cons_zero, List.append_nil, List.nil_append, List.cons_append, if_true, Bool.false_eq_true, if_false, ev_iop, ev_bop, Bool.not_true, Bool.not_false, res_ret, res_next, res_exc, oAdd_int, oAddI_int, oNe_int, oEq_int, oNe_bl, beq_self_eq_true, ev_asg, ev_gtTup, ev_gtCons, ev_gtNil, ev_gtName, List.length_cons, List.length_nil, Nat.reduceAdd, Nat.zero_add, sz0, sz1, sz2, sz3, sz4, sz5, sz6, sz7, sz8, sz9, sz10, sz11, sz12, sz13, sz14, sz15, sz16, sz17, sz18, sz19, sz20, sz21, sz22, sz23, sz24, sz25, sz26, sz27, sz28, sz29, sz30, sz31, sz32, a0, a1, a2, a3, a4, list_lst]) hh
  have m : (cMake "Net" F_Net___init__ [] (cCons (cB (fList false) (cCons (cBin oIx (cVar 0) (cK (.int 0))) cNil)) (cCons (cB (fList false) (cCons (cBin oIx (cVar 0) (cK (.int 1))) cNil)) (cCons (cB (fList false) (cCons (cBin oIx (cVar 0) (cK (.int 2))) cNil)) (cCons (cB (fList false) (cCons (cBin oIx (cVar 0) (cK (.int 3))) cNil)) (cCons (cB (fList false) (cCons (cBin oIx (cVar 0) (cK (.int 4))) cNil)) cNil)))))) [some N.d] h = .ok N.o h := m
  exact fn_eq [some N.d] rfl rfl (by simp only [ev_seq, ev_set, ev_bin, ev_cons, ev_nil, ev_var, ev_k, ev_call, ev_ret, ev_expr, ev_if, ev_tv, ev_tnot, ev_tand, ev_tor, ev_chain, ev_lst, ev_lstM, ev_tup, ev_cB, ev_lc, ev_wipe0, ev_wipe1, ev_alloc, ev_allocM, ev_sNil, ev_and, ev_not, ev_raise, seq_next, seq_ret, seq_exc, Res.bind_ok, Res.bind_exc, Res.out_ok, Res.out_exc, List.getElem?_cons_zero, List.getElem?_cons_succ, List.set_cons_succ, List.set_cons_zero, List.append_nil, List.nil_append, List.cons_append, if_true, Bool.false_eq_true, if_false, ev_iop, ev_bop, Bool.not_true, Bool.not_false, res_ret, res_next, res_exc, oAdd_int, oAddI_int, oNe_int, oEq_int, oNe_bl, beq_self_eq_true, ev_asg, ev_gtTup, ev_gtCons, ev_gtNil, ev_gtName, List.length_cons, List.length_nil, Nat.reduceAdd, Nat.zero_add, sz0, sz1, sz2, sz3, sz4, sz5, sz6, sz7, sz8, sz9, sz10, sz11, sz12, sz13, sz14, sz15, sz16, sz17, sz18, sz19, sz20, sz21, sz22, sz23, sz24, sz25, sz26, sz27, sz28, sz29, sz30, sz31, sz32, B_law_made, m]) rfl
theorem q2 {N : Nt} (ok : N.Ok) (fw : N.Few) (x : Bx l b [] h) : Q2 [some sc, some (D.ref 0), some N.d, y3, y4, y5, y6, y7, y8, y9, y10, y11, y12, y13] h = .next [some sc, some (D.ref 0), some N.d, some N.o, y4, y5, y6, y7, y8, y9, y10, y11, y12, y13] h := by
  simp only [ev_seq, ev_set, ev_bin, ev_cons, ev_nil, ev_var, ev_k, ev_call, ev_ret, ev_expr, ev_if, ev_tv, ev_tnot, ev_tand, ev_tor, ev_chain, ev_lst, ev_lstM, ev_tup, ev_cB, ev_lc, ev_wipe0, ev_wipe1, ev_alloc, ev_allocM, ev_sNil, ev_and, ev_not, ev_raise, seq_next, seq_ret, seq_exc, Res.bind_ok, Res.bind_exc, Res.out_ok, Res.out_exc, List.getElem?_cons_zero, List.getElem?_cons_succ, List.set_cons_succ, List.set_cons_zero, List.append_nil, List.nil_append, List.cons_append, if_true, Bool.false_eq_true, if_false, ev_iop, ev_bop, Bool.not_true, Bool.not_false, res_ret, res_next, res_exc, oAdd_int, oAddI_int, oNe_int, oEq_int, oNe_bl, beq_self_eq_true, ev_asg, ev_gtTup, ev_gtCons, ev_gtNil, ev_gtName, List.length_cons, List.length_nil, Nat.reduceAdd, Nat.zero_add, sz0, sz1, sz2, sz3, sz4, sz5, sz6, sz7, sz8, sz9, sz10, sz11, sz12, sz13, sz14, sz15, sz16, sz17, sz18, sz19, sz20, sz21, sz22, sz23, sz24, sz25, sz26, sz27, sz28, sz29, sz30, sz31, sz32, Q2, made_eq ok fw (bx_lw x)]
theorem q3 {N : Nt} : Q3 [some sc, some (D.ref 0), some N.d, y3, y4, y5, y6, y7, y8, y9, y10, y11, y12, y13] h = .next [some sc, some (D.ref 0), some N.d, y3, some (.int (Nt.top N : Nat)), y5, y6, y7, y8, y9, y10, y11, y12, y13] h := by
  have a0 : oIx N.d (.int 2) h = .ok (.lst (N.gat.map gp)) h := rfl
  have ln : fLen [.lst (N.gat.map gp)] h = .ok (.int (N.gat.length : Nat)) h := by rw [len_lst, List.length_map]
  have c : (1 : Int) + ((N.ins.length + N.lat.length : Nat) : Int) + (N.gat.length : Int) = ((Nt.top N : Nat) : Int) := by
    unfold Nt.top Nt.first
    omega
  simp only [ev_seq, ev_set, ev_bin, ev_cons, ev_nil, ev_var, ev_k, ev_call, ev_ret, ev_expr, ev_if, ev_tv, ev_tnot, ev_tand, ev_tor, ev_chain, ev_lst, ev_lstM, ev_tup, ev_cB, ev_lc, ev_wipe0, ev_wipe1, ev_alloc, ev_allocM, ev_sNil, ev_and, ev_not, ev_raise, seq_next, seq_ret, seq_exc, Res.bind_ok, Res.bind_exc, Res.out_ok, Res.out_exc, List.getElem?_cons_zero, List.getElem?_cons_succ, List.set_cons_succ, List.set_cons_zero, List.append_nil, List.nil_append, List.cons_append, if_true, Bool.false_eq_true, if_false, ev_iop, ev_bop, Bool.not_true, Bool.not_false, res_ret, res_next, res_exc, oAdd_int, oAddI_int, oNe_int, oEq_int, oNe_bl, beq_self_eq_true, ev_asg, ev_gtTup, ev_gtCons, ev_gtNil, ev_gtName, List.length_cons, List.length_nil, Nat.reduceAdd, Nat.zero_add, sz0, sz1, sz2, sz3, sz4, sz5, sz6, sz7, sz8, sz9, sz10, sz11, sz12, sz13, sz14, sz15, sz16, sz17, sz18, sz19, sz20, sz21, sz22, sz23, sz24, sz25, sz26, sz27, sz28, sz29, sz30, sz31, sz32, Q3, things_of, a0, ln, c]
theorem q40 {M : Nat} (x : Bx l b [] h) (hb : b ≤ 800000) (h0 : 0 < M) (h1 : M ≤ 1000) : ∃ (e : Nat) (h' : Store), e < 2 * M ∧ Bx l (b + 2) [] h' ∧ Q4_0 [some sc, some (D.ref 0), y2, y3, some (.int (M : Nat)), y5, y6, y7, y8, y9, y10, y11, y12, y13] h = .next [some sc, some (D.ref 0), y2, y3, some (.int (M : Nat)), y5, some (.int (e : Nat)), y7, y8, y9, y10, y11, y12, y13] h' := by
  obtain ⟨e, h', ee, he, x'⟩ := edge_eq x (by omega) h0 h1
  have ee : F_law_some_edge [.ref 0, .int (M : Nat)] h = .ok (.int (e : Nat)) h' := ee
  exact ⟨e, h', he, x', by simp only [ev_seq, ev_set, ev_bin, ev_cons, ev_nil, ev_var, ev_k, ev_call, ev_ret, ev_expr, ev_if, ev_tv, ev_tnot, ev_tand, ev_tor, ev_chain, ev_lst, ev_lstM, ev_tup, ev_cB, ev_lc, ev_wipe0, ev_wipe1, ev_alloc, ev_allocM, ev_sNil, ev_and, ev_not, ev_raise, seq_next, seq_ret, seq_exc, Res.bind_ok, Res.bind_exc, Res.out_ok, Res.out_exc, List.getElem?_cons_zero, List.getElem?_cons_succ, List.set_cons_succ, List.set_cons_zero, List.append_nil, List.nil_append, List.cons_append, if_true, Bool.false_eq_true, if_false, ev_iop, ev_bop, Bool.not_true, Bool.not_false, res_ret, res_next, res_exc, oAdd_int, oAddI_int, oNe_int, oEq_int, oNe_bl, beq_self_eq_true, ev_asg, ev_gtTup, ev_gtCons, ev_gtNil, ev_gtName, List.length_cons, List.length_nil, Nat.reduceAdd, Nat.zero_add, sz0, sz1, sz2, sz3, sz4, sz5, sz6, sz7, sz8, sz9, sz10, sz11, sz12, sz13, sz14, sz15, sz16, sz17, sz18, sz19, sz20, sz21, sz22, sz23, sz24, sz25, sz26, sz27, sz28, sz29, sz30, sz31, sz32, Q4_0, ee]⟩
theorem q41 {M : Nat} (x : Bx l b [] h) (hb : b ≤ 800000) : ∃ (k : Nat) (h' : Store), k ≤ 5 ∧ (0 < k → 1 < M) ∧ Bx l (b + 1) [] h' ∧ Q4_1 [some sc, some (D.ref 0), y2, y3, some (.int (M : Nat)), y5, y6, y7, y8, y9, y10, y11, y12, y13] h = .next [some sc, some (D.ref 0), y2, y3, some (.int (M : Nat)), y5, y6, some (.int (k : Nat)), y8, y9, y10, y11, y12, y13] h' := by
  obtain ⟨v, h', e, hv, x'⟩ := takeF_eq x (by omega) (m := 6) (by decide) (by decide)
  have e : F_law_take [.ref 0, .int 6] h = .ok (.int (v : Nat)) h' := e
  have i1 : ∀ bb : Bool, fInt1 [.bl bb] h' = .ok (.int (if bb then 1 else 0)) h' := fun bb => rfl
  by_cases z : 1 < M
  · have t : decide ((M : Int) > 1) = true := decide_eq_true (by omega)
    have g : gMul (v : Int) 1 = true := gMulN (a := v) (b := 1) (by omega) (by decide)
    have c : (v : Int) * 1 = (v : Int) := by omega
    exact ⟨v, h', by omega, fun _ => z, x', by simp only [ev_seq, ev_set, ev_bin, ev_cons, ev_nil, ev_var, ev_k, ev_call, ev_ret, ev_expr, ev_if, ev_tv, ev_tnot, ev_tand, ev_tor, ev_chain, ev_lst, ev_lstM, ev_tup, ev_cB, ev_lc, ev_wipe0, ev_wipe1, ev_alloc, ev_allocM, ev_sNil, ev_and, ev_not, ev_raise, seq_next, seq_ret, seq_exc, Res.bind_ok, Res.bind_exc, Res.out_ok, Res.out_exc, List.getElem?_cons_zero, List.getElem?_cons_succ, List.set_cons_succ, List.set_cons_zero, List.append_nil, List.nil_append, List.cons_append, if_true, Bool.false_eq_true, if_false, ev_iop, ev_bop, Bool.not_true, Bool.not_false, res_ret, res_next, res_exc, oAdd_int, oAddI_int, oNe_int, oEq_int, oNe_bl, beq_self_eq_true, ev_asg, ev_gtTup, ev_gtCons, ev_gtNil, ev_gtName, List.length_cons, List.length_nil, Nat.reduceAdd, Nat.zero_add, sz0, sz1, sz2, sz3, sz4, sz5, sz6, sz7, sz8, sz9, sz10, sz11, sz12, sz13, sz14, sz15, sz16, sz17, sz18, sz19, sz20, sz21, sz22, sz23, sz24, sz25, sz26, sz27, sz28, sz29, sz30, sz31, sz32, Q4_1, e, t, i1, g, c]⟩
  · have t : decide ((M : Int) > 1) = false := decide_eq_false (by omega)
    have g : gMul (v : Int) 0 = true := gMulN (a := v) (b := 0) (by omega) (by decide)
    have c : (v : Int) * 0 = ((0 : Nat) : Int) := by omega
    exact ⟨0, h', by omega, fun z => absurd z (by decide), x', by simp only [ev_seq, ev_set, ev_bin, ev_cons, ev_nil, ev_var, ev_k, ev_call, ev_ret, ev_expr, ev_if, ev_tv, ev_tnot, ev_tand, ev_tor, ev_chain, ev_lst, ev_lstM, ev_tup, ev_cB, ev_lc, ev_wipe0, ev_wipe1, ev_alloc, ev_allocM, ev_sNil, ev_and, ev_not, ev_raise, seq_next, seq_ret, seq_exc, Res.bind_ok, Res.bind_exc, Res.out_ok, Res.out_exc, List.getElem?_cons_zero, List.getElem?_cons_succ, List.set_cons_succ, List.set_cons_zero, List.append_nil, List.nil_append, List.cons_append, if_true, Bool.false_eq_true, if_false, ev_iop, ev_bop, Bool.not_true, Bool.not_false, res_ret, res_next, res_exc, oAdd_int, oAddI_int, oNe_int, oEq_int, oNe_bl, beq_self_eq_true, ev_asg, ev_gtTup, ev_gtCons, ev_gtNil, ev_gtName, List.length_cons, List.length_nil, Nat.reduceAdd, Nat.zero_add, sz0, sz1, sz2, sz3, sz4, sz5, sz6, sz7, sz8, sz9, sz10, sz11, sz12, sz13, sz14, sz15, sz16, sz17, sz18, sz19, sz20, sz21, sz22, sz23, sz24, sz25, sz26, sz27, sz28, sz29, sz30, sz31, sz32, Q4_1, e, t, i1, g, c]⟩
end K23

namespace K23
open PySem PySem.Spec PyProof.Rows Gm
variable {l : List Int} {b : Nat} {h : Store} {sc : D} {y2 y3 y4 y5 y6 y7 y8 y9 y10 y11 y12 y13 : Option D}
theorem q42 {M k : Nat} (x : Bx l b [] h) (hb : b ≤ 700000) (hk : k ≤ 5) (hM : 0 < k → 1 < M) (h1 : M ≤ 1000) : ∃ (xs : List Nat) (h' : Store), xs.length ≤ 5 ∧ (∀ v ∈ xs, 1 ≤ v ∧ v < M) ∧ Bx l (b + 10) [] h' ∧ Q4_2 [some sc, some (D.ref 0), y2, y3, some (.int (M : Nat)), y5, y6, some (.int (k : Nat)), y8, y9, y10, y11, y12, y13] h = .next [some sc, some (D.ref 0), y2, y3, some (.int (M : Nat)), y5, y6, some (.int (k : Nat)), some (.lst (dnums xs)), y9, y10, y11, y12, y13] h' := by
  have r1 : iRange1 (cCons (cVar 7) cNil) [some sc, some (D.ref 0), y2, y3, some (.int (M : Nat)), y5, y6, some (.int (k : Nat)), y8, y9, y10, y11, y12, y13] h = .ok ((List.range k).map fun (i : Nat) => D.int (i : Int)) h := ev_range1 rfl (by omega)
  have sl : ((List.range k).map fun (i : Nat) => D.int (i : Int)).length ≤ sizeLine := small_line (by simp; omega)
  obtain ⟨vs, h', e, lv, pv, x'⟩ := lcL_draw (fg := fName 12) (fe := cBin (oAdd false) (cK (.int 1)) (cCall F_law_take [] (cCons (cVar 1) (cCons (cBin oSub (cVar 4) (cK (.int 1))) cNil)))) (st0 := [some sc, some (D.ref 0), y2, y3, some (.int (M : Nat)), y5, y6, some (.int (k : Nat)), y8, y9, y10, y11, none, y13]) (f := fun (i : Nat) => D.int (i : Int)) (mk := fun _ v => D.int (v : Nat)) (P := fun v => 1 ≤ v ∧ v < M) (c := 1) (B := 800000) (List.range k) (fun i hi b h x hb => by
    have M1 : 1 < M := hM (by have := List.mem_range.mp hi; omega)
    obtain ⟨v, h', e, hv, x'⟩ := takeF_eq x (by omega) (m := M - 1) (by omega) (by omega)
    have e : F_law_take [.ref 0, .int (M - 1 : Nat)] h = .ok (.int (v : Nat)) h' := e
    have c : (M : Int) - 1 = ((M - 1 : Nat) : Int) := by omega
    have c2 : (1 : Int) + (v : Int) = ((1 + v : Nat) : Int) := by omega
    exact ⟨[some sc, some (D.ref 0), y2, y3, some (.int (M : Nat)), y5, y6, some (.int (k : Nat)), y8, y9, y10, y11, some (.int (i : Nat)), y13], 1 + v, h', rfl, by simp only [ev_seq, ev_set, ev_bin, ev_cons, ev_nil, ev_var, ev_k, ev_call, ev_ret, ev_expr, ev_if, ev_tv, ev_tnot, ev_tand, ev_tor, ev_chain, ev_lst, ev_lstM, ev_tup, ev_cB, ev_lc, ev_wipe0, ev_wipe1, ev_alloc, ev_allocM, ev_sNil, ev_and, ev_not, ev_raise, seq_next, seq_ret, seq_exc, Res.bind_ok, Res.bind_exc, Res.out_ok, Res.out_exc, List.getElem?_cons_zero, List.getElem?_cons_succ, List.set_cons_succ, List.set_cons_zero, List.append_nil, List.nil_append, List.cons_append, if_true, Bool.false_eq_true, if_false, ev_iop, ev_bop, Bool.not_true, Bool.not_false, res_ret, res_next, res_exc, oAdd_int, oAddI_int, oNe_int, oEq_int, oNe_bl, beq_self_eq_true, ev_asg, ev_gtTup, ev_gtCons, ev_gtNil, ev_gtName, List.length_cons, List.length_nil, Nat.reduceAdd, Nat.zero_add, sz0, sz1, sz2, sz3, sz4, sz5, sz6, sz7, sz8, sz9, sz10, sz11, sz12, sz13, sz14, sz15, sz16, sz17, sz18, sz19, sz20, sz21, sz22, sz23, sz24, sz25, sz26, sz27, sz28, sz29, sz30, sz31, sz32, c, e, c2], by omega, x'⟩) b h x (by simp; omega)
  rw [zip_snd _ _ lv] at e
  rw [List.length_range] at lv x'
  exact ⟨vs, h', by omega, pv, x'.mono (by omega), by simp only [ev_seq, ev_set, ev_bin, ev_cons, ev_nil, ev_var, ev_k, ev_call, ev_ret, ev_expr, ev_if, ev_tv, ev_tnot, ev_tand, ev_tor, ev_chain, ev_lst, ev_lstM, ev_tup, ev_cB, ev_lc, ev_wipe0, ev_wipe1, ev_alloc, ev_allocM, ev_sNil, ev_and, ev_not, ev_raise, seq_next, seq_ret, seq_exc, Res.bind_ok, Res.bind_exc, Res.out_ok, Res.out_exc, List.getElem?_cons_zero, List.getElem?_cons_succ, List.set_cons_succ, List.set_cons_zero, List.append_nil, List.nil_append, List.cons_append, if_true, Bool.false_eq_true, if_false, ev_iop, ev_bop, Bool.not_true, Bool.not_false, res_ret, res_next, res_exc, oAdd_int, oAddI_int, oNe_int, oEq_int, oNe_bl, beq_self_eq_true, ev_asg, ev_gtTup, ev_gtCons, ev_gtNil, ev_gtName, List.length_cons, List.length_nil, Nat.reduceAdd, Nat.zero_add, sz0, sz1, sz2, sz3, sz4, sz5, sz6, sz7, sz8, sz9, sz10, sz11, sz12, sz13, sz14, sz15, sz16, sz17, sz18, sz19, sz20, sz21, sz22, sz23, sz24, sz25, sz26, sz27, sz28, sz29, sz30, sz31, sz32, Q4_2, r1, sl, e]⟩
theorem take2 {l : List D} : oSl false (.lst l) none (some 2) h = .ok (.lst (l.take 2)) h := by
  show Res.ok (D.lst (Gm.cutD l none (some ((2 : Nat) : Int)))) h = _
  unfold Gm.cutD
  rw [HT.sIx_nat, HT.sIx_none, List.drop_zero, Nat.sub_zero]
  by_cases z : 2 ≤ l.length
  · rw [Nat.min_eq_left z]
  · rw [Nat.min_eq_right (by omega), List.take_of_length_le (by omega), List.take_of_length_le (by omega)]
theorem q44 {xs : List Nat} (hl : xs.length ≤ 9) : ∃ tips : List Nat, tips.Nodup ∧ tips.length ≤ 9 ∧ (∀ v ∈ tips, v ∈ xs) ∧ Q4_4 [some sc, some (D.ref 0), y2, y3, y4, y5, y6, y7, some (.lst (dnums xs)), y9, y10, y11, y12, y13] h = .next [some sc, some (D.ref 0), y2, y3, y4, y5, y6, y7, some (.lst (dnums xs)), some (.tup (dnums tips)), y10, y11, y12, y13] h := by
  have di : dnums xs = (xs.map fun (a : Nat) => (a : Int)).map D.int := by
    unfold dnums
    rw [List.map_map]
    rfl
  have hs : (xs.map fun (a : Nat) => (a : Int)).length < 64 := by rw [List.length_map]; omega
  have nn : ∀ z ∈ sortU (xs.map fun (a : Nat) => (a : Int)), ∃ v : Nat, v ∈ xs ∧ z = (v : Int) := fun z hz => by
    obtain ⟨v, hv, e⟩ := List.mem_map.mp (sortU_mem.mp hz)
    exact ⟨v, hv, e.symm⟩
  have back : ((sortU (xs.map fun (a : Nat) => (a : Int))).map Int.toNat).map (fun (a : Nat) => (a : Int)) = sortU (xs.map fun (a : Nat) => (a : Int)) := by
    rw [List.map_map]
    have e : ∀ z ∈ sortU (xs.map fun (a : Nat) => (a : Int)), ((fun (a : Nat) => (a : Int)) ∘ Int.toNat) z = z := fun z hz => by
      obtain ⟨v, _, rfl⟩ := nn z hz
      rfl
    rw [List.map_congr_left e, List.map_id']
  have dt : (sortU (xs.map fun (a : Nat) => (a : Int))).map D.int = dnums ((sortU (xs.map fun (a : Nat) => (a : Int))).map Int.toNat) := by
    have q : dnums ((sortU (xs.map fun (a : Nat) => (a : Int))).map Int.toNat) = (((sortU (xs.map fun (a : Nat) => (a : Int))).map Int.toNat).map (fun (a : Nat) => (a : Int))).map D.int := by
      unfold dnums
      rw [List.map_map, List.map_map, List.map_map]
      rfl
    rw [q, back]
  refine ⟨(sortU (xs.map fun (a : Nat) => (a : Int))).map Int.toNat, ?_, ?_, fun v hv => ?_, ?_⟩
  · have nd : (sortU (xs.map fun (a : Nat) => (a : Int))).Nodup := (sortU_pw _).imp fun lt e => by omega
    rw [← back] at nd
    exact (List.pairwise_map.mp nd).imp fun ne e => ne (by rw [e])
  · have := sortU_len (xs.map fun (a : Nat) => (a : Int))
    rw [List.length_map] at this ⊢
    omega
  · obtain ⟨z, hz, rfl⟩ := List.mem_map.mp hv
    obtain ⟨w, hw, rfl⟩ := nn z hz
    exact hw
  · have e : cSortSet false (cVar 8) [some sc, some (D.ref 0), y2, y3, y4, y5, y6, y7, some (.lst (dnums xs)), y9, y10, y11, y12, y13] h = .ok (.lst (dnums ((sortU (xs.map fun (a : Nat) => (a : Int))).map Int.toNat))) h := by
      have v : (cVar 8) [some sc, some (D.ref 0), y2, y3, y4, y5, y6, y7, some (.lst (dnums xs)), y9, y10, y11, y12, y13] h = .ok (.lst (dnums xs)) h := rfl
      unfold cSortSet
      rw [v, Res.bind_ok]
      show (match intsOf (dnums xs) with
        | some ns => if ns.length < 64 then alloc false ((sortU ns).map D.int) h else .no
        | none => .no) = _
      rw [di, intsOf_map]
      dsimp only
      rw [if_pos hs, dt]
      rfl
    have ft : ∀ l : List D, fTuple [.lst l] h = .ok (.tup l) h := fun l => rfl
    simp only [ev_seq, ev_set, ev_bin, ev_cons, ev_nil, ev_var, ev_k, ev_call, ev_ret, ev_expr, ev_if, ev_tv, ev_tnot, ev_tand, ev_tor, ev_chain, ev_lst, ev_lstM, ev_tup, ev_cB, ev_lc, ev_wipe0, ev_wipe1, ev_alloc, ev_allocM, ev_sNil, ev_and, ev_not, ev_raise, seq_next, seq_ret, seq_exc, Res.bind_ok, Res.bind_exc, Res.out_ok, Res.out_exc, List.getElem?_cons_zero, List.getElem?_cons_succ, List.set_cons_succ, List.set_cons_zero, List.append_nil, List.nil_append, List.cons_append, if_true, Bool.false_eq_true, if_false, ev_iop, ev_bop, Bool.not_true, Bool.not_false, res_ret, res_next, res_exc, oAdd_int, oAddI_int, oNe_int, oEq_int, oNe_bl, beq_self_eq_true, ev_asg, ev_gtTup, ev_gtCons, ev_gtNil, ev_gtName, List.length_cons, List.length_nil, Nat.reduceAdd, Nat.zero_add, sz0, sz1, sz2, sz3, sz4, sz5, sz6, sz7, sz8, sz9, sz10, sz11, sz12, sz13, sz14, sz15, sz16, sz17, sz18, sz19, sz20, sz21, sz22, sz23, sz24, sz25, sz26, sz27, sz28, sz29, sz30, sz31, sz32, Q4_4, e, ft]
end K23

namespace K23
open PySem PySem.Spec PyProof.Rows Gm
variable {l : List Int} {b : Nat} {h : Store} {sc : D} {y2 y3 y4 y5 y6 y7 y8 y9 y10 y11 y12 y13 : Option D}
theorem range_up {st : Slots} {K : Nat} {f : Ev D} (hf : f st h = .ok (.int (1 + K : Nat)) h) (hK : K ≤ 1000) : iRange2 (cCons (cK (.int 1)) (cCons f cNil)) st h = .ok (((List.range K).map (1 + ·)).map fun (a : Nat) => D.int (a : Int)) h := by
  unfold iRange2
  rw [ev_cons, ev_k, Res.bind_ok, ev_cons, hf, Res.bind_ok, ev_nil, Res.bind_ok, Res.bind_ok, Res.bind_ok]
  dsimp only
  rw [if_pos ⟨g62_n (n := 1) (by decide), g62_n (by omega)⟩]
  congr 1
  unfold upInts
  rw [List.map_map]
  have e : (((1 + K : Nat) : Int) - 1).toNat = K := by omega
  rw [e]
  refine List.map_congr_left fun a _ => ?_
  show D.int _ = D.int _
  congr 1
  show (1 : Int) + _ = _
  push_cast
  omega
theorem q43 {N : Nt} {xs : List Nat} (x : Bx l b [] h) (hb : b ≤ 700000) (hl : xs.length ≤ 5) (hx : ∀ v ∈ xs, 1 ≤ v ∧ v < Nt.top N) (h6 : N.ins.length + N.lat.length ≤ 6) : ∃ (ys : List Nat) (h' : Store), ys.length ≤ 9 ∧ (∀ v ∈ ys, 1 ≤ v ∧ v < Nt.top N) ∧ Bx l (b + 1) [] h' ∧ Q4_3 [some sc, some (D.ref 0), some N.d, y3, y4, y5, y6, y7, some (.lst (dnums xs)), y9, y10, y11, y12, y13] h = .next [some sc, some (D.ref 0), some N.d, y3, y4, y5, y6, y7, some (.lst (dnums ys)), y9, y10, y11, y12, y13] h' := by
  obtain ⟨v, h', e, hv, x'⟩ := takeF_eq x (by omega) (m := 2) (by decide) (by decide)
  have e : F_law_take [.ref 0, .int 2] h = .ok (.int (v : Nat)) h' := e
  by_cases z : v = 0
  · have q : ((v : Int) == 0) = true := by rw [z]; rfl
    have c : (1 : Int) + ((N.ins.length + N.lat.length : Nat) : Int) = ((1 + (N.ins.length + N.lat.length) : Nat) : Int) := by omega
    have r := range_up (h := h') (st := [some sc, some (D.ref 0), some N.d, y3, y4, y5, y6, y7, some (.lst (dnums xs)), y9, y10, y11, y12, y13]) (K := N.ins.length + N.lat.length) (f := cBin (oAdd false) (cK (.int 1)) (cCall F_law_things [] (cCons (cVar 2) cNil))) (by simp only [ev_seq, ev_set, ev_bin, ev_cons, ev_nil, ev_var, ev_k, ev_call, ev_ret, ev_expr, ev_if, ev_tv, ev_tnot, ev_tand, ev_tor, ev_chain, ev_lst, ev_lstM, ev_tup, ev_cB, ev_lc, ev_wipe0, ev_wipe1, ev_alloc, ev_allocM, ev_sNil, ev_and, ev_not, ev_raise, seq_next, seq_ret, seq_exc, Res.bind_ok, Res.bind_exc, Res.out_ok, Res.out_exc, List.getElem?_cons_zero, List.getElem?_cons_succ, List.set_cons_succ, List.set_cons_zero, List.append_nil, List.nil_append, List.cons_append, if_true, Bool.false_eq_true, if_false, ev_iop, ev_bop, Bool.not_true, Bool.not_false, res_ret, res_next, res_exc, oAdd_int, oAddI_int, oNe_int, oEq_int, oNe_bl, beq_self_eq_true, ev_asg, ev_gtTup, ev_gtCons, ev_gtNil, ev_gtName, List.length_cons, List.length_nil, Nat.reduceAdd, Nat.zero_add, sz0, sz1, sz2, sz3, sz4, sz5, sz6, sz7, sz8, sz9, sz10, sz11, sz12, sz13, sz14, sz15, sz16, sz17, sz18, sz19, sz20, sz21, sz22, sz23, sz24, sz25, sz26, sz27, sz28, sz29, sz30, sz31, sz32, things_of, c]) (by omega)
    have sl : (((List.range (N.ins.length + N.lat.length)).map (1 + ·)).map fun (a : Nat) => D.int (a : Int)).length ≤ sizeLine := small_line (by simp; omega)
    have lc := lcL_all1 (fg := fName 13) (ft := cYes) (fe := cVar 13) (st0 := [some sc, some (D.ref 0), some N.d, y3, y4, y5, y6, y7, some (.lst (dnums xs)), y9, y10, y11, y12, none]) (h := h') (f := fun (a : Nat) => D.int (a : Int)) (q := fun (a : Nat) => D.int (a : Int)) ((List.range (N.ins.length + N.lat.length)).map (1 + ·)) fun a _ => ⟨[some sc, some (D.ref 0), some N.d, y3, y4, y5, y6, y7, some (.lst (dnums xs)), y9, y10, y11, y12, some (.int (a : Nat))], rfl, rfl, rfl⟩
    have t2 := take2 (h := h') (l := dnums xs)
    have tk : (dnums xs).take 2 = dnums (xs.take 2) := by unfold dnums; rw [List.map_take]
    rw [tk] at t2
    have cat : oAdd false (.lst (dnums (xs.take 2))) (.lst (((List.range (N.ins.length + N.lat.length)).map (1 + ·)).map fun (a : Nat) => D.int (a : Int))) h' = .ok (.lst (dnums (xs.take 2 ++ (List.range (N.ins.length + N.lat.length)).map (1 + ·)))) h' := by
      rw [cat_lst (by rw [dnums, List.length_map, List.length_map, List.length_map, List.length_range, List.length_take]; omega)]
      unfold dnums
      rw [List.map_append]
    refine ⟨xs.take 2 ++ (List.range (N.ins.length + N.lat.length)).map (1 + ·), h', ?_, fun w hw => ?_, x', ?_⟩
    · rw [List.length_append, List.length_take, List.length_map, List.length_range]
      omega
    · rcases List.mem_append.mp hw with hw | hw
      · exact hx w (List.mem_of_mem_take hw)
      · obtain ⟨a, ha, rfl⟩ := List.mem_map.mp hw
        have := List.mem_range.mp ha
        unfold Nt.top Nt.first
        omega
    · have p2 : cPart (cK (.int 2)) [some sc, some (D.ref 0), some N.d, y3, y4, y5, y6, y7, some (.lst (dnums xs)), y9, y10, y11, y12, y13] h' = .ok (some 2) h' := rfl
      simp only [ev_seq, ev_set, ev_bin, ev_cons, ev_nil, ev_var, ev_k, ev_call, ev_ret, ev_expr, ev_if, ev_tv, ev_tnot, ev_tand, ev_tor, ev_chain, ev_lst, ev_lstM, ev_tup, ev_cB, ev_lc, ev_wipe0, ev_wipe1, ev_alloc, ev_allocM, ev_sNil, ev_and, ev_not, ev_raise, seq_next, seq_ret, seq_exc, Res.bind_ok, Res.bind_exc, Res.out_ok, Res.out_exc, List.getElem?_cons_zero, List.getElem?_cons_succ, List.set_cons_succ, List.set_cons_zero, List.append_nil, List.nil_append, List.cons_append, if_true, Bool.false_eq_true, if_false, ev_iop, ev_bop, Bool.not_true, Bool.not_false, res_ret, res_next, res_exc, oAdd_int, oAddI_int, oNe_int, oEq_int, oNe_bl, beq_self_eq_true, ev_asg, ev_gtTup, ev_gtCons, ev_gtNil, ev_gtName, List.length_cons, List.length_nil, Nat.reduceAdd, Nat.zero_add, sz0, sz1, sz2, sz3, sz4, sz5, sz6, sz7, sz8, sz9, sz10, sz11, sz12, sz13, sz14, sz15, sz16, sz17, sz18, sz19, sz20, sz21, sz22, sz23, sz24, sz25, sz26, sz27, sz28, sz29, sz30, sz31, sz32, Q4_3, e, q, ev_sl, ev_noPart, p2, t2, r, sl, lc, cat]
  · have q : ((v : Int) == 0) = false := by
      rw [beq_eq_false_iff_ne]
      omega
    exact ⟨xs, h', by omega, hx, x', by simp only [ev_seq, ev_set, ev_bin, ev_cons, ev_nil, ev_var, ev_k, ev_call, ev_ret, ev_expr, ev_if, ev_tv, ev_tnot, ev_tand, ev_tor, ev_chain, ev_lst, ev_lstM, ev_tup, ev_cB, ev_lc, ev_wipe0, ev_wipe1, ev_alloc, ev_allocM, ev_sNil, ev_and, ev_not, ev_raise, seq_next, seq_ret, seq_exc, Res.bind_ok, Res.bind_exc, Res.out_ok, Res.out_exc, List.getElem?_cons_zero, List.getElem?_cons_succ, List.set_cons_succ, List.set_cons_zero, List.append_nil, List.nil_append, List.cons_append, if_true, Bool.false_eq_true, if_false, ev_iop, ev_bop, Bool.not_true, Bool.not_false, res_ret, res_next, res_exc, oAdd_int, oAddI_int, oNe_int, oEq_int, oNe_bl, beq_self_eq_true, ev_asg, ev_gtTup, ev_gtCons, ev_gtNil, ev_gtName, List.length_cons, List.length_nil, Nat.reduceAdd, Nat.zero_add, sz0, sz1, sz2, sz3, sz4, sz5, sz6, sz7, sz8, sz9, sz10, sz11, sz12, sz13, sz14, sz15, sz16, sz17, sz18, sz19, sz20, sz21, sz22, sz23, sz24, sz25, sz26, sz27, sz28, sz29, sz30, sz31, sz32, Q4_3, e, q]⟩
theorem sm_out (n e : Nat) (t : Option Nat) : Sm 6 (outT n e t) (outT n e t) := by
  cases t with
  | none => exact .non
  | some T => exact .int _
theorem q456 {N : Nt} {tips : List Nat} {e : Nat} (ok : N.Ok) (fw : N.Few) (x : Bx l b [] h) (nd : tips.Nodup) (hn : tips.length ≤ 9) (hM : ∀ t ∈ tips, t < Nt.top N) (he : e < 2 * Nt.top N) : ∃ z10 z11,
    Q4_5 [some sc, some (D.ref 0), some N.d, some N.o, y4, y5, some (.int (e : Nat)), y7, y8, some (.tup (dnums tips)), y10, y11, y12, y13] h = .next [some sc, some (D.ref 0), some N.d, some N.o, y4, y5, some (.int (e : Nat)), y7, y8, some (.tup (dnums tips)), some z10, y11, y12, y13] h ∧
    Q4_6 [some sc, some (D.ref 0), some N.d, some N.o, y4, y5, some (.int (e : Nat)), y7, y8, some (.tup (dnums tips)), some z10, y11, y12, y13] h = .next [some sc, some (D.ref 0), some N.d, some N.o, y4, y5, some (.int (e : Nat)), y7, y8, some (.tup (dnums tips)), some z10, z11, y12, y13] h := by
  have hh := bx_lw x
  have he2 : e / 2 < N.first + N.gat.length := by
    unfold Nt.top at he
    omega
  obtain ⟨t, T, lt⟩ := local_table_eq (h := h) (e := e) ok fw nd (by omega) hh he2
  have le := local_eq (h := h) (e := e) ok fw nd hn hM he2 T hh
  have fl : fList false [.tup (dnums tips)] h = .ok (.lst (dnums tips)) h := rfl
  have it : iRange1 (cCons (cK (.int 2)) cNil) [some sc, some (D.ref 0), some N.d, some N.o, y4, y5, some (.int (e : Nat)), y7, y8, some (.tup (dnums tips)), some (outT tips.length e t), y11, y12, y13] h = .ok [.int 0, .int 1] h := ev_range1 (n := 2) rfl (by omega)
  refine ⟨outT tips.length e t, some (.int 1), by simp only [ev_seq, ev_set, ev_bin, ev_cons, ev_nil, ev_var, ev_k, ev_call, ev_ret, ev_expr, ev_if, ev_tv, ev_tnot, ev_tand, ev_tor, ev_chain, ev_lst, ev_lstM, ev_tup, ev_cB, ev_lc, ev_wipe0, ev_wipe1, ev_alloc, ev_allocM, ev_sNil, ev_and, ev_not, ev_raise, seq_next, seq_ret, seq_exc, Res.bind_ok, Res.bind_exc, Res.out_ok, Res.out_exc, List.getElem?_cons_zero, List.getElem?_cons_succ, List.set_cons_succ, List.set_cons_zero, List.append_nil, List.nil_append, List.cons_append, if_true, Bool.false_eq_true, if_false, ev_iop, ev_bop, Bool.not_true, Bool.not_false, res_ret, res_next, res_exc, oAdd_int, oAddI_int, oNe_int, oEq_int, oNe_bl, beq_self_eq_true, ev_asg, ev_gtTup, ev_gtCons, ev_gtNil, ev_gtName, List.length_cons, List.length_nil, Nat.reduceAdd, Nat.zero_add, sz0, sz1, sz2, sz3, sz4, sz5, sz6, sz7, sz8, sz9, sz10, sz11, sz12, sz13, sz14, sz15, sz16, sz17, sz18, sz19, sz20, sz21, sz22, sz23, sz24, sz25, sz26, sz27, sz28, sz29, sz30, sz31, sz32, Q4_5, fl, le], ?_⟩
  simp only [ev_seq, ev_set, ev_bin, ev_cons, ev_nil, ev_var, ev_k, ev_call, ev_ret, ev_expr, ev_if, ev_tv, ev_tnot, ev_tand, ev_tor, ev_chain, ev_lst, ev_lstM, ev_tup, ev_cB, ev_lc, ev_wipe0, ev_wipe1, ev_alloc, ev_allocM, ev_sNil, ev_and, ev_not, ev_raise, seq_next, seq_ret, seq_exc, Res.bind_ok, Res.bind_exc, Res.out_ok, Res.out_exc, List.getElem?_cons_zero, List.getElem?_cons_succ, List.set_cons_succ, List.set_cons_zero, List.append_nil, List.nil_append, List.cons_append, if_true, Bool.false_eq_true, if_false, ev_iop, ev_bop, Bool.not_true, Bool.not_false, res_ret, res_next, res_exc, oAdd_int, oAddI_int, oNe_int, oEq_int, oNe_bl, beq_self_eq_true, ev_asg, ev_gtTup, ev_gtCons, ev_gtNil, ev_gtName, List.length_cons, List.length_nil, Nat.reduceAdd, Nat.zero_add, sz0, sz1, sz2, sz3, sz4, sz5, sz6, sz7, sz8, sz9, sz10, sz11, sz12, sz13, sz14, sz15, sz16, sz17, sz18, sz19, sz20, sz21, sz22, sz23, sz24, sz25, sz26, sz27, sz28, sz29, sz30, sz31, sz32, Q4_6, Q4_6b, Q4_6_0, ev_for, it, forL, lt, same_eq (sm_out tips.length e t)]
theorem foldl_get {tips : List Nat} {row v : Nat} : ∀ (gs : List (Nat × Nat)) (vs : List (Option Bool)), v < vs.length → (gs.foldl (stepV tips row) vs)[v]? = vs[v]?
  | [], _, _ => rfl
  | g :: gs, vs, hv => by
    rw [List.foldl_cons, foldl_get gs _ (by rw [stepV, List.length_append]; omega), stepV, List.getElem?_append_left hv]
theorem node0 {row first : Nat} {gs : List (Nat × Nat)} (hf : 0 < first) : (valV [] row first gs)[0]? = some (some false) := by
  rw [valV, foldl_get _ _ (by rw [baseV, List.length_map, List.length_range]; exact hf), baseV, List.getElem?_map, List.getElem?_range hf]
  rfl
theorem told0 {first : Nat} {gs : List (Nat × Nat)} {t : Option Nat} (hf : 0 < first) (T : Told [] first gs 0 0 t) : t = some 0 := by
  cases t with
  | none =>
    have q := T 0 (by decide)
    rw [node0 hf] at q
    cases q
  | some A =>
    obtain ⟨a, q⟩ := T
    have q := q 0 (by decide)
    rw [node0 hf] at q
    have q : false = A.testBit 0 := by simpa using q
    have a : A < 2 := a
    have z : A = 0 ∨ A = 1 := by omega
    rcases z with rfl | rfl
    · rfl
    · cases q
theorem q5 {N : Nt} (ok : N.Ok) (fw : N.Few) (x : Bx l b [] h) : Q5 [some sc, some (D.ref 0), y2, some N.o, y4, y5, y6, y7, y8, y9, y10, y11, y12, y13] h = .ret (.bl true) h := by
  have hh := bx_lw x
  have f0 : 0 < N.first := by
    unfold Nt.first
    omega
  obtain ⟨t0, T0, l0⟩ := local_table_eq (h := h) (e := 0) (tips := []) ok fw .nil (by decide) hh (by omega)
  obtain ⟨t1, T1, l1⟩ := local_table_eq (h := h) (e := 1) (tips := []) ok fw .nil (by decide) hh (by omega)
  obtain rfl := told0 f0 T0
  obtain rfl := told0 f0 T1
  have l0 : F_local_table [N.o, .int 0, .tup []] h = .ok (.int 0) h := l0
  have l1 : F_local_table [N.o, .int 1, .tup []] h = .ok (.int 1) h := l1
  have s : Sm 6 (.lst [.int 0, .int 1]) (.lst [.int 0, .int 1]) := .lst rfl rfl rfl (fun i x y hx hy => by
    rw [hx] at hy
    obtain rfl := Option.some.inj hy
    have m := List.mem_of_getElem? hx
    simp only [List.mem_cons, List.not_mem_nil, or_false] at m
    rcases m with rfl | rfl
    · exact .int _
    · exact .int _) (by simp)
  simp only [ev_seq, ev_set, ev_bin, ev_cons, ev_nil, ev_var, ev_k, ev_call, ev_ret, ev_expr, ev_if, ev_tv, ev_tnot, ev_tand, ev_tor, ev_chain, ev_lst, ev_lstM, ev_tup, ev_cB, ev_lc, ev_wipe0, ev_wipe1, ev_alloc, ev_allocM, ev_sNil, ev_and, ev_not, ev_raise, seq_next, seq_ret, seq_exc, Res.bind_ok, Res.bind_exc, Res.out_ok, Res.out_exc, List.getElem?_cons_zero, List.getElem?_cons_succ, List.set_cons_succ, List.set_cons_zero, List.append_nil, List.nil_append, List.cons_append, if_true, Bool.false_eq_true, if_false, ev_iop, ev_bop, Bool.not_true, Bool.not_false, res_ret, res_next, res_exc, oAdd_int, oAddI_int, oNe_int, oEq_int, oNe_bl, beq_self_eq_true, ev_asg, ev_gtTup, ev_gtCons, ev_gtNil, ev_gtName, List.length_cons, List.length_nil, Nat.reduceAdd, Nat.zero_add, sz0, sz1, sz2, sz3, sz4, sz5, sz6, sz7, sz8, sz9, sz10, sz11, sz12, sz13, sz14, sz15, sz16, sz17, sz18, sz19, sz20, sz21, sz22, sz23, sz24, sz25, sz26, sz27, sz28, sz29, sz30, sz31, sz32, Q5, l0, l1, same_eq s]
theorem turn_ok {N : Nt} (ok : N.Ok) (fw : N.Few) (t19 : Nt.top N ≤ 19) (h6 : N.ins.length + N.lat.length ≤ 6) (x : Bx l b [] h) (hb : b ≤ 600000) : ∃ h' z6 z7 z8 z9 z10 z11, Bx l (b + 20) [] h' ∧
    Q4b [some sc, some (D.ref 0), some N.d, some N.o, some (.int (Nt.top N : Nat)), y5, y6, y7, y8, y9, y10, y11, y12, y13] h = .next [some sc, some (D.ref 0), some N.d, some N.o, some (.int (Nt.top N : Nat)), y5, z6, z7, z8, z9, z10, z11, y12, y13] h' := by
  have f0 : 0 < Nt.top N := by
    unfold Nt.top Nt.first
    omega
  obtain ⟨e, h1, he, x1, e1⟩ := q40 (sc := sc) (y2 := some N.d) (y3 := some N.o) (y5 := y5) (y6 := y6) (y7 := y7) (y8 := y8) (y9 := y9) (y10 := y10) (y11 := y11) (y12 := y12) (y13 := y13) x (by omega) f0 (by omega)
  obtain ⟨k, h2, hk, hk2, x2, e2⟩ := q41 (M := Nt.top N) (sc := sc) (y2 := some N.d) (y3 := some N.o) (y5 := y5) (y6 := some (.int (e : Nat))) (y7 := y7) (y8 := y8) (y9 := y9) (y10 := y10) (y11 := y11) (y12 := y12) (y13 := y13) x1 (by omega)
  obtain ⟨xs, h3, lx, hx, x3, e3⟩ := q42 (sc := sc) (y2 := some N.d) (y3 := some N.o) (y5 := y5) (y6 := some (.int (e : Nat))) (y8 := y8) (y9 := y9) (y10 := y10) (y11 := y11) (y12 := y12) (y13 := y13) x2 (by omega) hk hk2 (by omega)
  obtain ⟨ys, h4, ly, hy, x4, e4⟩ := q43 (sc := sc) (y3 := some N.o) (y4 := some (.int (Nt.top N : Nat))) (y5 := y5) (y6 := some (.int (e : Nat))) (y7 := some (.int (k : Nat))) (y9 := y9) (y10 := y10) (y11 := y11) (y12 := y12) (y13 := y13) x3 (by omega) lx hx h6
  obtain ⟨tips, nd, lt, ht, e5⟩ := q44 (h := h4) (sc := sc) (y2 := some N.d) (y3 := some N.o) (y4 := some (.int (Nt.top N : Nat))) (y5 := y5) (y6 := some (.int (e : Nat))) (y7 := some (.int (k : Nat))) (y9 := y9) (y10 := y10) (y11 := y11) (y12 := y12) (y13 := y13) ly
  obtain ⟨z10, z11, e6, e7⟩ := q456 (e := e) (sc := sc) (y4 := some (.int (Nt.top N : Nat))) (y5 := y5) (y7 := some (.int (k : Nat))) (y8 := some (.lst (dnums ys))) (y10 := y10) (y11 := y11) (y12 := y12) (y13 := y13) ok fw x4 nd lt (fun t m => (hy t (ht t m)).2) he
  refine ⟨h4, some (.int (e : Nat)), some (.int (k : Nat)), some (.lst (dnums ys)), some (.tup (dnums tips)), some z10, z11, x4.mono (by omega), ?_⟩
  unfold Q4b
  rw [ev_seq, e1, seq_next, ev_seq, e2, seq_next, ev_seq, e3, seq_next, ev_seq, e4, seq_next, ev_seq, e5, seq_next, ev_seq, e6, seq_next, e7]
theorem law_true (ns : List Int) (hl : ns.length ≤ 63) : ∃ h', F_law [.fro (ns.map D.int)] [] = .ok (D.bl true) h' := by
  obtain ⟨s, eb, s0, s1⟩ := box_ok ns
  have eb : F_law_box [.fro (ns.map D.int)] [] = .ok (D.ref 0) [box (ns.take 63) 0 0 s] := eb
  have x0 : Bx (ns.take 63) 0 [] [box (ns.take 63) 0 0 s] := ⟨0, 0, s, rfl, by omega, s0, s1⟩
  obtain ⟨N, h1, ok, fw, t19, h6, x1, e1⟩ := q1 (sc := .fro (ns.map D.int)) (y2 := none) (y3 := none) (y4 := none) (y5 := none) (y6 := none) (y7 := none) (y8 := none) (y9 := none) (y10 := none) (y11 := none) (y12 := none) (y13 := none) x0 (by omega)
  obtain ⟨st', h', e, x', _, z5, z6, z7, z8, z9, z10, z11, rfl⟩ := forL_inv (fg := gtName 5) (fb := Q4b) (fun i st h => Bx (ns.take 63) (6000 + i * 20) [] h ∧ i ≤ 8 ∧ ∃ z5 z6 z7 z8 z9 z10 z11, st = [some (.fro (ns.map D.int)), some (D.ref 0), some N.d, some N.o, some (.int (Nt.top N : Nat)), z5, z6, z7, z8, z9, z10, z11, none, none])
    ((List.range 8).map fun (i : Nat) => D.int (i : Int)) 0 [some (.fro (ns.map D.int)), some (D.ref 0), some N.d, some N.o, some (.int (Nt.top N : Nat)), none, none, none, none, none, none, none, none, none] h1 (fun i d st h hd ⟨x, hi, z5, z6, z7, z8, z9, z10, z11, ei⟩ => by
      subst ei
      rw [Nat.zero_add] at x hi ⊢
      have hi3 : i < 8 := by
        by_cases z : i < 8
        · exact z
        · rw [List.getElem?_eq_none (by simpa using z)] at hd
          cases hd
      obtain ⟨h', w6, w7, w8, w9, w10, w11, x', e'⟩ := turn_ok (sc := .fro (ns.map D.int)) (y5 := some d) (y6 := z6) (y7 := z7) (y8 := z8) (y9 := z9) (y10 := z10) (y11 := z11) (y12 := none) (y13 := none) ok fw t19 h6 x (by omega)
      exact ⟨_, _, _, h', rfl, e', x'.mono (by omega), by omega, _, _, _, _, _, _, _, rfl⟩)
    ⟨x1, by omega, none, none, none, none, none, none, none, rfl⟩
  have r1 : iRange1 (cCons (cK (D.int 8)) cNil) [some (.fro (ns.map D.int)), some (D.ref 0), some N.d, some N.o, some (.int (Nt.top N : Nat)), none, none, none, none, none, none, none, none, none] h1 = .ok ((List.range 8).map fun (i : Nat) => D.int (i : Int)) h1 := ev_range1 (n := 8) rfl (by omega)
  refine fn_ex (h' := h') [some (.fro (ns.map D.int)), none, none, none, none, none, none, none, none, none, none, none, none, none] rfl rfl ?_
  have r0 : Q0 [some (.fro (ns.map D.int)), none, none, none, none, none, none, none, none, none, none, none, none, none] [] = .next [some (.fro (ns.map D.int)), some (.ref 0), none, none, none, none, none, none, none, none, none, none, none, none] [box (ns.take 63) 0 0 s] := by simp only [ev_seq, ev_set, ev_bin, ev_cons, ev_nil, ev_var, ev_k, ev_call, ev_ret, ev_expr, ev_if, ev_tv, ev_tnot, ev_tand, ev_tor, ev_chain, ev_lst, ev_lstM, ev_tup, ev_cB, ev_lc, ev_wipe0, ev_wipe1, ev_alloc, ev_allocM, ev_sNil, ev_and, ev_not, ev_raise, seq_next, seq_ret, seq_exc, Res.bind_ok, Res.bind_exc, Res.out_ok, Res.out_exc, List.getElem?_cons_zero, List.getElem?_cons_succ, List.set_cons_succ, List.set_cons_zero, List.append_nil, List.nil_append, List.cons_append, if_true, Bool.false_eq_true, if_false, ev_iop, ev_bop, Bool.not_true, Bool.not_false, res_ret, res_next, res_exc, oAdd_int, oAddI_int, oNe_int, oEq_int, oNe_bl, beq_self_eq_true, ev_asg, ev_gtTup, ev_gtCons, ev_gtNil, ev_gtName, List.length_cons, List.length_nil, Nat.reduceAdd, Nat.zero_add, sz0, sz1, sz2, sz3, sz4, sz5, sz6, sz7, sz8, sz9, sz10, sz11, sz12, sz13, sz14, sz15, sz16, sz17, sz18, sz19, sz20, sz21, sz22, sz23, sz24, sz25, sz26, sz27, sz28, sz29, sz30, sz31, sz32, Q0, eb]
  rw [B_law_eq, ev_seq, r0, seq_next, ev_seq, e1, seq_next, ev_seq, q2 ok fw x1, seq_next, ev_seq, q3, seq_next, ev_seq]
  unfold Q4
  rw [ev_for, r1, Res.out_ok, e, seq_next, q5 ok fw x']
  rfl
end K23

namespace K23
open PySem PySem.Spec PyProof.Rows L2 Gm
def d_law_box : He.DefD := ⟨("_law_box", none), "_law_box", "_law_box", defArgs s_law_box, defBody s_law_box, defScope s_law_box, [], []⟩
def d_law_take : He.DefD := ⟨("_law_take", none), "_law_take", "_law_take", defArgs s_law_take, defBody s_law_take, defScope s_law_take, [], []⟩
def d_law_names : He.DefD := ⟨("_law_names", none), "_law_names", "_law_names", defArgs s_law_names, defBody s_law_names, defScope s_law_names, [], []⟩
def d_law_frame : He.DefD := ⟨("_law_frame", none), "_law_frame", "_law_frame", defArgs s_law_frame, defBody s_law_frame, defScope s_law_frame, [], []⟩
def d_law_some_edge : He.DefD := ⟨("_law_some_edge", none), "_law_some_edge", "_law_some_edge", defArgs s_law_some_edge, defBody s_law_some_edge, defScope s_law_some_edge, [], []⟩
def d_law_ends : He.DefD := ⟨("_law_ends", none), "_law_ends", "_law_ends", defArgs s_law_ends, defBody s_law_ends, defScope s_law_ends, [], []⟩
def d_law_net : He.DefD := ⟨("_law_net", none), "_law_net", "_law_net", defArgs s_law_net, defBody s_law_net, defScope s_law_net, [], []⟩
def d_is_name : He.DefD := ⟨("is_name", none), "is_name", "is_name", defArgs s_is_name, defBody s_is_name, defScope s_is_name, [], []⟩
def d_need_name : He.DefD := ⟨("need_name", none), "need_name", "need_name", defArgs s_need_name, defBody s_need_name, defScope s_need_name, [], []⟩
def d_need_names : He.DefD := ⟨("need_names", none), "need_names", "need_names", defArgs s_need_names, defBody s_need_names, defScope s_need_names, [], []⟩
def d_Net___init__ : He.DefD := ⟨("Net", some "__init__"), "__init__", "Net.__init__", defArgs s_Net___init__, defBody s_Net___init__, defScope s_Net___init__, [.adr (He.dflAt ("Net", some "__init__") 0), .adr (He.dflAt ("Net", some "__init__") 1), .adr (He.dflAt ("Net", some "__init__") 2), .adr (He.dflAt ("Net", some "__init__") 3)], []⟩
def d_law_made : He.DefD := ⟨("_law_made", none), "_law_made", "_law_made", defArgs s_law_made, defBody s_law_made, defScope s_law_made, [], []⟩
def d_law_same : He.DefD := ⟨("_law_same", none), "_law_same", "_law_same", defArgs s_law_same, defBody s_law_same, defScope s_law_same, [], []⟩
def d_law_things : He.DefD := ⟨("_law_things", none), "_law_things", "_law_things", defArgs s_law_things, defBody s_law_things, defScope s_law_things, [], []⟩
def d_law_bit : He.DefD := ⟨("_law_bit", none), "_law_bit", "_law_bit", defArgs s_law_bit, defBody s_law_bit, defScope s_law_bit, [], []⟩
def d_law_told : He.DefD := ⟨("_law_told", none), "_law_told", "_law_told", defArgs s_law_told, defBody s_law_told, defScope s_law_told, [], []⟩
def d_law_local : He.DefD := ⟨("_law_local", none), "_law_local", "_law_local", defArgs s_law_local, defBody s_law_local, defScope s_law_local, [], []⟩
def d_full_of : He.DefD := ⟨("full_of", none), "full_of", "full_of", defArgs s_full_of, defBody s_full_of, defScope s_full_of, [], []⟩
def d_Net_things : He.DefD := ⟨("Net", some "things"), "things", "Net.things", defArgs s_Net_things, defBody s_Net_things, defScope s_Net_things, [], []⟩
def d_Net_gates : He.DefD := ⟨("Net", some "gates"), "gates", "Net.gates", defArgs s_Net_gates, defBody s_Net_gates, defScope s_Net_gates, [], []⟩
def d_gates_of : He.DefD := ⟨("gates_of", none), "gates_of", "gates_of", defArgs s_gates_of, defBody s_gates_of, defScope s_gates_of, [], []⟩
def d_column_of : He.DefD := ⟨("column_of", none), "column_of", "column_of", defArgs s_column_of, defBody s_column_of, defScope s_column_of, [], []⟩
def d_signed : He.DefD := ⟨("signed", none), "signed", "signed", defArgs s_signed, defBody s_signed, defScope s_signed, [], []⟩
def d_local_rows : He.DefD := ⟨("local_rows", none), "local_rows", "local_rows", defArgs s_local_rows, defBody s_local_rows, defScope s_local_rows, [], []⟩
def d_local_table : He.DefD := ⟨("local_table", none), "local_table", "local_table", defArgs s_local_table, defBody s_local_table, defScope s_local_table, [], []⟩
def d_law : He.DefD := ⟨("law", none), "law", "law", defArgs s_law, defBody s_law, defScope s_law, [], []⟩
def fns : List He.DefD := [d_law_box, d_law_take, d_law_names, d_law_frame, d_law_some_edge, d_law_ends, d_law_net, d_is_name, d_need_name, d_need_names, d_Net___init__, d_law_made, d_law_same, d_law_things, d_law_bit, d_law_told, d_law_local, d_full_of, d_Net_things, d_Net_gates, d_gates_of, d_column_of, d_signed, d_local_rows, d_local_table, d_law]
def fas : List He.Fa := [.glo "_law_box", .glo "_law_take", .glo "_law_names", .glo "_law_frame", .glo "_law_some_edge", .glo "_law_ends", .glo "_law_net", .glo "is_name", .glo "need_name", .glo "need_names", .glo "_law_made", .glo "_law_same", .glo "_law_things", .glo "_law_bit", .glo "_law_told", .glo "_law_local", .glo "full_of", .glo "gates_of", .glo "column_of", .glo "signed", .glo "local_rows", .glo "local_table", .glo "law", .cls "Net", .mkr "Net", .noat "Net" "ins", .noat "Net" "later", .noat "Net" "memory", .noat "Net" "pairs", .noat "Net" "tells", .meth "Net" "things", .meth "Net" "gates", .free "all", .free "any", .free "bool", .free "enumerate", .free "int", .free "isinstance", .free "len", .free "list", .free "max", .free "min", .free "range", .free "set", .free "sorted", .free "str", .free "sum", .free "tuple", .free "zip", .int "LONGEST" 8, .str "LETTERS" "abcdefghijklmnopqrstuvwxyz", .int "MOST_INPUTS" 6, .int "MOST_LATCHES" 4, .int "MOST_GATES" 60, .int "MOST_OUTS" 8, .glo "Net"]
def tqs : Tq := []
def exB (K : PySem.W.Frag) : Bool := true
def looseN : List PySem.Str := ([PySem.Str.ofString "GateError", PySem.Str.ofString "BadName", PySem.Str.ofString "Taken", PySem.Str.ofString "Full", PySem.Str.ofString "BadStart", PySem.Str.ofString "BadEdge", PySem.Str.ofString "NoNode", PySem.Str.ofString "BadGate", PySem.Str.ofString "full_of", PySem.Str.ofString "column_of", PySem.Str.ofString "LETTERS", PySem.Str.ofString "LONGEST", PySem.Str.ofString "MOST_INPUTS", PySem.Str.ofString "MOST_LATCHES", PySem.Str.ofString "MOST_GATES", PySem.Str.ofString "MOST_OUTS", PySem.Str.ofString "is_name", PySem.Str.ofString "need_name", PySem.Str.ofString "need_names", PySem.Str.ofString "Net"] ++ [PySem.Str.ofString "gates_of", PySem.Str.ofString "signed", PySem.Str.ofString "local_rows", PySem.Str.ofString "local_table", PySem.Str.ofString "_law_box", PySem.Str.ofString "_law_take", PySem.Str.ofString "_law_same", PySem.Str.ofString "_law_names", PySem.Str.ofString "_law_bit", PySem.Str.ofString "_law_told", PySem.Str.ofString "_law_things", PySem.Str.ofString "_law_made", PySem.Str.ofString "_law_some_edge", PySem.Str.ofString "_law_ends", PySem.Str.ofString "_law_frame", PySem.Str.ofString "_law_net", PySem.Str.ofString "_law_local"])
abbrev R : PySem.W.OpenRow := PySem.W.OpenLaw.row PySem.Challenge.rw_gatemill_k23_tables_over_leaves
set_option maxHeartbeats 0 in
theorem run (w : World) : HandSHeadRun.RunEq R (PySem.W.view R.prog [42]) (hookN 6 fas fns tqs exB) (obN 6 fas fns tqs exB) 20000 looseN w := by
  intro os
  kernel_rfl
theorem facts {P : Program} {w : World} {K : PySem.W.Frag} {h : Heap} {mg : Str → Option Value} {f : Addr} (X : K.In h) (G : h.Ns mainGlobals mg) (hfa : mg "law" = some (.ref f)) (c : SaysN fas fns tqs exB h K) :
    ∃ fd : FuncData, (∀ (s : Shared) (u : Value), BindsTo s fd ⟨[u], []⟩ [("script", u)]) ∧ ∀ base : Heap, (∀ p ∈ tqs, LamX.TabB base mg (He.cT K p.1).1 (He.cT K p.1).2) → FnOk P w K mg base (L2N.CX P w) 7 f fd ["script"] (spOf (cfT K (tabsOf K tqs)) F_law) := by
  obtain ⟨fd_law_box, FD_law_box⟩ := c.d.def_ 0 (d := d_law_box) rfl
  obtain ⟨fd_law_take, FD_law_take⟩ := c.d.def_ 1 (d := d_law_take) rfl
  obtain ⟨fd_law_names, FD_law_names⟩ := c.d.def_ 2 (d := d_law_names) rfl
  obtain ⟨fd_law_frame, FD_law_frame⟩ := c.d.def_ 3 (d := d_law_frame) rfl
  obtain ⟨fd_law_some_edge, FD_law_some_edge⟩ := c.d.def_ 4 (d := d_law_some_edge) rfl
  obtain ⟨fd_law_ends, FD_law_ends⟩ := c.d.def_ 5 (d := d_law_ends) rfl
  obtain ⟨fd_law_net, FD_law_net⟩ := c.d.def_ 6 (d := d_law_net) rfl
  obtain ⟨fd_is_name, FD_is_name⟩ := c.d.def_ 7 (d := d_is_name) rfl
  obtain ⟨fd_need_name, FD_need_name⟩ := c.d.def_ 8 (d := d_need_name) rfl
  obtain ⟨fd_need_names, FD_need_names⟩ := c.d.def_ 9 (d := d_need_names) rfl
  obtain ⟨fd_Net___init__, FD_Net___init__⟩ := c.d.def_ 10 (d := d_Net___init__) rfl
  obtain ⟨fd_law_made, FD_law_made⟩ := c.d.def_ 11 (d := d_law_made) rfl
  obtain ⟨fd_law_same, FD_law_same⟩ := c.d.def_ 12 (d := d_law_same) rfl
  obtain ⟨fd_law_things, FD_law_things⟩ := c.d.def_ 13 (d := d_law_things) rfl
  obtain ⟨fd_law_bit, FD_law_bit⟩ := c.d.def_ 14 (d := d_law_bit) rfl
  obtain ⟨fd_law_told, FD_law_told⟩ := c.d.def_ 15 (d := d_law_told) rfl
  obtain ⟨fd_law_local, FD_law_local⟩ := c.d.def_ 16 (d := d_law_local) rfl
  obtain ⟨fd_full_of, FD_full_of⟩ := c.d.def_ 17 (d := d_full_of) rfl
  obtain ⟨fd_Net_things, FD_Net_things⟩ := c.d.def_ 18 (d := d_Net_things) rfl
  obtain ⟨fd_Net_gates, FD_Net_gates⟩ := c.d.def_ 19 (d := d_Net_gates) rfl
  obtain ⟨fd_gates_of, FD_gates_of⟩ := c.d.def_ 20 (d := d_gates_of) rfl
  obtain ⟨fd_column_of, FD_column_of⟩ := c.d.def_ 21 (d := d_column_of) rfl
  obtain ⟨fd_signed, FD_signed⟩ := c.d.def_ 22 (d := d_signed) rfl
  obtain ⟨fd_local_rows, FD_local_rows⟩ := c.d.def_ 23 (d := d_local_rows) rfl
  obtain ⟨fd_local_table, FD_local_table⟩ := c.d.def_ 24 (d := d_local_table) rfl
  obtain ⟨fd_law, FD_law⟩ := c.d.def_ 25 (d := d_law) rfl
  have m_all : mg "all" = none := He.free_ok X G (c.d.fact 32 (f := .free "all") rfl)
  have m_any : mg "any" = none := He.free_ok X G (c.d.fact 33 (f := .free "any") rfl)
  have m_bool : mg "bool" = none := He.free_ok X G (c.d.fact 34 (f := .free "bool") rfl)
  have m_enumerate : mg "enumerate" = none := He.free_ok X G (c.d.fact 35 (f := .free "enumerate") rfl)
  have m_int : mg "int" = none := He.free_ok X G (c.d.fact 36 (f := .free "int") rfl)
  have m_isinstance : mg "isinstance" = none := He.free_ok X G (c.d.fact 37 (f := .free "isinstance") rfl)
  have m_len : mg "len" = none := He.free_ok X G (c.d.fact 38 (f := .free "len") rfl)
  have m_list : mg "list" = none := He.free_ok X G (c.d.fact 39 (f := .free "list") rfl)
  have m_max : mg "max" = none := He.free_ok X G (c.d.fact 40 (f := .free "max") rfl)
  have m_min : mg "min" = none := He.free_ok X G (c.d.fact 41 (f := .free "min") rfl)
  have m_range : mg "range" = none := He.free_ok X G (c.d.fact 42 (f := .free "range") rfl)
  have m_set : mg "set" = none := He.free_ok X G (c.d.fact 43 (f := .free "set") rfl)
  have m_sorted : mg "sorted" = none := He.free_ok X G (c.d.fact 44 (f := .free "sorted") rfl)
  have m_str : mg "str" = none := He.free_ok X G (c.d.fact 45 (f := .free "str") rfl)
  have m_sum : mg "sum" = none := He.free_ok X G (c.d.fact 46 (f := .free "sum") rfl)
  have m_tuple : mg "tuple" = none := He.free_ok X G (c.d.fact 47 (f := .free "tuple") rfl)
  have m_zip : mg "zip" = none := He.free_ok X G (c.d.fact 48 (f := .free "zip") rfl)
  have nd2 := c.nd
  have g_LONGEST := He.int_ok X G (c.d.fact 49 (f := .int "LONGEST" 8) rfl)
  have g_LETTERS := He.str_ok X G (c.d.fact 50 (f := .str "LETTERS" "abcdefghijklmnopqrstuvwxyz") rfl)
  have g_MOST_INPUTS := He.int_ok X G (c.d.fact 51 (f := .int "MOST_INPUTS" 6) rfl)
  have g_MOST_LATCHES := He.int_ok X G (c.d.fact 52 (f := .int "MOST_LATCHES" 4) rfl)
  have g_MOST_GATES := He.int_ok X G (c.d.fact 53 (f := .int "MOST_GATES" 60) rfl)
  have g_MOST_OUTS := He.int_ok X G (c.d.fact 54 (f := .int "MOST_OUTS" 8) rfl)
  have GC_Net := He.glo_ok X G (c.d.fact 55 (f := .glo "Net") rfl)
  have CC_Net := He.cls_ok (c.d.fact 23 (f := .cls "Net") rfl)
  have NA_Net_ins := He.noat_ok (c.d.fact 25 (f := .noat "Net" "ins") rfl)
  have NA_Net_later := He.noat_ok (c.d.fact 26 (f := .noat "Net" "later") rfl)
  have NA_Net_memory := He.noat_ok (c.d.fact 27 (f := .noat "Net" "memory") rfl)
  have NA_Net_pairs := He.noat_ok (c.d.fact 28 (f := .noat "Net" "pairs") rfl)
  have NA_Net_tells := He.noat_ok (c.d.fact 29 (f := .noat "Net" "tells") rfl)
  have b := FunD.bindsA (ps := ["script"]) FD_law fun _ _ _ _ _ _ us hl => match us, hl with | [_], _ => rfl
  have e := hfa.symm.trans (He.glo_ok X G (c.d.fact 22 (f := .glo "law") rfl))
  cases e
  refine ⟨fd_law, fun s u => b s [u] rfl, fun base TB => ?_⟩
  have C_law_box : CallOk P w K mg base (cfT K (tabsOf K tqs)) "_law_box" 1 F_law_box [] := callOk_of FD_law_box (He.glo_ok X G (c.d.fact 0 (f := .glo "_law_box") rfl)) (ok_law_box FD_law_box m_list) fun _ _ _ _ _ _ us hl => match us, hl with | [_], _ => rfl
  have C_law_take : CallOk P w K mg base (cfT K (tabsOf K tqs)) "_law_take" 1 F_law_take [] := callOk_of FD_law_take (He.glo_ok X G (c.d.fact 1 (f := .glo "_law_take") rfl)) (ok_law_take FD_law_take m_len) fun _ _ _ _ _ _ us hl => match us, hl with | [_, _], _ => rfl
  have C_law_names : CallOk P w K mg base (cfT K (tabsOf K tqs)) "_law_names" 2 F_law_names [] := callOk_of FD_law_names (He.glo_ok X G (c.d.fact 2 (f := .glo "_law_names") rfl)) (ok_law_names FD_law_names m_range m_len C_law_take) fun _ _ _ _ _ _ us hl => match us, hl with | [_, _], _ => rfl
  have C_law_frame : CallOk P w K mg base (cfT K (tabsOf K tqs)) "_law_frame" 3 F_law_frame [] := callOk_of FD_law_frame (He.glo_ok X G (c.d.fact 3 (f := .glo "_law_frame") rfl)) (ok_law_frame FD_law_frame C_law_names C_law_take) fun _ _ _ _ _ _ us hl => match us, hl with | [_, _, _], _ => rfl
  have C_law_some_edge : CallOk P w K mg base (cfT K (tabsOf K tqs)) "_law_some_edge" 2 F_law_some_edge [] := callOk_of FD_law_some_edge (He.glo_ok X G (c.d.fact 4 (f := .glo "_law_some_edge") rfl)) (ok_law_some_edge FD_law_some_edge m_min C_law_take) fun _ _ _ _ _ _ us hl => match us, hl with | [_, _], _ => rfl
  have C_law_ends : CallOk P w K mg base (cfT K (tabsOf K tqs)) "_law_ends" 3 F_law_ends [] := callOk_of FD_law_ends (He.glo_ok X G (c.d.fact 5 (f := .glo "_law_ends") rfl)) (ok_law_ends FD_law_ends C_law_take C_law_some_edge) fun _ _ _ _ _ _ us hl => match us, hl with | [_, _, _, _, _], _ => rfl
  have C_law_net : CallOk P w K mg base (cfT K (tabsOf K tqs)) "_law_net" 4 F_law_net [] := callOk_of FD_law_net (He.glo_ok X G (c.d.fact 6 (f := .glo "_law_net") rfl)) (ok_law_net FD_law_net m_len m_range m_min m_max C_law_frame C_law_take C_law_some_edge C_law_ends) fun _ _ _ _ _ _ us hl => match us, hl with | [_, _, _, _, _], _ => rfl
  have C_is_name : CallOk P w K mg base (cfT K (tabsOf K tqs)) "is_name" 1 F_is_name [] := callOk_of FD_is_name (He.glo_ok X G (c.d.fact 7 (f := .glo "is_name") rfl)) (ok_is_name FD_is_name m_len m_all g_LONGEST g_LETTERS) fun _ _ _ _ _ _ us hl => match us, hl with | [_], _ => rfl
  have C_need_name : CallOk P w K mg base (cfT K (tabsOf K tqs)) "need_name" 2 F_need_name [] := callOk_of FD_need_name (He.glo_ok X G (c.d.fact 8 (f := .glo "need_name") rfl)) (ok_need_name FD_need_name C_is_name) fun _ _ _ _ _ _ us hl => match us, hl with | [_], _ => rfl
  have C_need_names : CallOk P w K mg base (cfT K (tabsOf K tqs)) "need_names" 3 F_need_names [] := callOk_of FD_need_names (He.glo_ok X G (c.d.fact 9 (f := .glo "need_names") rfl)) (ok_need_names FD_need_names m_len m_set C_need_name) fun _ _ _ _ _ _ us hl => match us, hl with | [_, _], _ => rfl
  obtain ⟨ds_Net___init__, hv_Net___init__, hb_Net___init__⟩ := FunD.binds1 (ps := ["self", "inputs", "latches", "gates", "outs", "nexts"]) FD_Net___init__ 6 4 (List.cons_ne_nil _ _) rfl fun _ _ _ _ _ _ _ us its h1 h2 => match us, its, h1, h2 with | [_, _, _, _, _, _], [_, _, _, _], _, _ => ⟨_, rfl, rfl⟩
  have MK_Net : MakeOk P w K mg base (cfT K (tabsOf K tqs)) "Net" 4 F_Net___init__ [] := ⟨_, _, fd_Net___init__, ["self", "inputs", "latches", "gates", "outs", "nexts"], _, [], GC_Net, rfl, He.mkr_ok (c.d.fact 24 (f := .mkr "Net") rfl), ok_Net___init__ FD_Net___init__ m_list m_len m_any m_enumerate m_all g_MOST_INPUTS g_MOST_LATCHES g_MOST_GATES g_MOST_OUTS C_need_names CC_Net NA_Net_ins NA_Net_memory NA_Net_pairs NA_Net_tells NA_Net_later, hb_Net___init__, hv_Net___init__, fun _ _ => .nil⟩
  have C_law_made : CallOk P w K mg base (cfT K (tabsOf K tqs)) "_law_made" 6 F_law_made [] := callOk_of FD_law_made (He.glo_ok X G (c.d.fact 10 (f := .glo "_law_made") rfl)) (ok_law_made FD_law_made m_list MK_Net) fun _ _ _ _ _ _ us hl => match us, hl with | [_], _ => rfl
  have C_law_same : CallOk P w K mg base (cfT K (tabsOf K tqs)) "_law_same" 6 (F_law_same 6) [] := callOk_of FD_law_same (He.glo_ok X G (c.d.fact 11 (f := .glo "_law_same") rfl)) (ok_law_same FD_law_same m_list m_tuple m_isinstance m_len m_zip m_all m_bool m_int m_str (He.glo_ok X G (c.d.fact 11 (f := .glo "_law_same") rfl)) 6) fun _ _ _ _ _ _ us hl => match us, hl with | [_, _], _ => rfl
  have C_law_things : CallOk P w K mg base (cfT K (tabsOf K tqs)) "_law_things" 1 F_law_things [] := callOk_of FD_law_things (He.glo_ok X G (c.d.fact 12 (f := .glo "_law_things") rfl)) (ok_law_things FD_law_things m_len) fun _ _ _ _ _ _ us hl => match us, hl with | [_], _ => rfl
  have C_law_bit : CallOk P w K mg base (cfT K (tabsOf K tqs)) "_law_bit" 1 F_law_bit [] := callOk_of FD_law_bit (He.glo_ok X G (c.d.fact 13 (f := .glo "_law_bit") rfl)) (ok_law_bit FD_law_bit ) fun _ _ _ _ _ _ us hl => match us, hl with | [_, _], _ => rfl
  have C_law_told : CallOk P w K mg base (cfT K (tabsOf K tqs)) "_law_told" 1 F_law_told [] := callOk_of FD_law_told (He.glo_ok X G (c.d.fact 14 (f := .glo "_law_told") rfl)) (ok_law_told FD_law_told ) fun _ _ _ _ _ _ us hl => match us, hl with | [_, _], _ => rfl
  have C_law_local : CallOk P w K mg base (cfT K (tabsOf K tqs)) "_law_local" 2 F_law_local [] := callOk_of FD_law_local (He.glo_ok X G (c.d.fact 15 (f := .glo "_law_local") rfl)) (ok_law_local FD_law_local m_len m_range m_sum C_law_things C_law_bit C_law_told) fun _ _ _ _ _ _ us hl => match us, hl with | [_, _, _], _ => rfl
  have C_full_of : CallOk P w K mg base (cfT K (tabsOf K tqs)) "full_of" 1 F_full_of [] := callOk_of FD_full_of (He.glo_ok X G (c.d.fact 16 (f := .glo "full_of") rfl)) (ok_full_of FD_full_of ) fun _ _ _ _ _ _ us hl => match us, hl with | [_], _ => rfl
  have M_Net_things : MethOk P w K mg base (cfT K (tabsOf K tqs)) "Net" "things" 1 F_Net_things [] := ⟨_, _, fd_Net_things, ["self"], _, [], rfl, CC_Net, He.meth_ok (c.d.fact 30 (f := .meth "Net" "things") rfl), ok_Net_things FD_Net_things m_len CC_Net NA_Net_ins NA_Net_memory, (FunD.bindsN (ps := ["self"]) FD_Net_things fun _ _ _ _ _ _ us hl => match us, hl with | [_], _ => rfl), .nil, fun _ _ => .nil⟩
  have M_Net_gates : MethOk P w K mg base (cfT K (tabsOf K tqs)) "Net" "gates" 1 F_Net_gates [] := ⟨_, _, fd_Net_gates, ["self"], _, [], rfl, CC_Net, He.meth_ok (c.d.fact 31 (f := .meth "Net" "gates") rfl), ok_Net_gates FD_Net_gates m_list CC_Net NA_Net_pairs, (FunD.bindsN (ps := ["self"]) FD_Net_gates fun _ _ _ _ _ _ us hl => match us, hl with | [_], _ => rfl), .nil, fun _ _ => .nil⟩
  have C_gates_of : CallOk P w K mg base (cfT K (tabsOf K tqs)) "gates_of" 2 F_gates_of [] := callOk_of FD_gates_of (He.glo_ok X G (c.d.fact 17 (f := .glo "gates_of") rfl)) (ok_gates_of FD_gates_of m_enumerate M_Net_things M_Net_gates) fun _ _ _ _ _ _ us hl => match us, hl with | [_], _ => rfl
  have C_column_of : CallOk P w K mg base (cfT K (tabsOf K tqs)) "column_of" 1 F_column_of [] := callOk_of FD_column_of (He.glo_ok X G (c.d.fact 18 (f := .glo "column_of") rfl)) (ok_column_of FD_column_of ) fun _ _ _ _ _ _ us hl => match us, hl with | [_, _], _ => rfl
  have C_signed : CallOk P w K mg base (cfT K (tabsOf K tqs)) "signed" 1 F_signed [] := callOk_of FD_signed (He.glo_ok X G (c.d.fact 19 (f := .glo "signed") rfl)) (ok_signed FD_signed ) fun _ _ _ _ _ _ us hl => match us, hl with | [_, _, _], _ => rfl
  have C_local_rows : CallOk P w K mg base (cfT K (tabsOf K tqs)) "local_rows" 3 F_local_rows [] := callOk_of FD_local_rows (He.glo_ok X G (c.d.fact 20 (f := .glo "local_rows") rfl)) (ok_local_rows FD_local_rows m_len m_enumerate m_range C_full_of C_column_of C_gates_of C_signed M_Net_things) fun _ _ _ _ _ _ us hl => match us, hl with | [_, _], _ => rfl
  have C_local_table : CallOk P w K mg base (cfT K (tabsOf K tqs)) "local_table" 4 F_local_table [] := callOk_of FD_local_table (He.glo_ok X G (c.d.fact 21 (f := .glo "local_table") rfl)) (ok_local_table FD_local_table m_len C_local_rows C_full_of) fun _ _ _ _ _ _ us hl => match us, hl with | [_, _, _], _ => rfl
  exact ok_law FD_law m_len m_range m_int m_sorted m_set m_tuple m_list C_law_box C_law_net C_law_made C_law_things C_law_some_edge C_law_take C_law_local C_local_table C_law_same
end K23
open PySem PySem.W PySem.Calls PyProof.Rows Gm K23
namespace K23
theorem holds_of (law : ∀ ns : List Int, ns.length ≤ 63 → ∃ h', F_law [.fro (ns.map .int)] [] = .ok (.bl true) h') : PySem.Challenge.rw_gatemill_k23_tables_over_leaves.Holds := by
  w_on; o_law
  refine HandSHeadRun.head_any (r := (PySem.W.OpenLaw.row PySem.Challenge.rw_gatemill_k23_tables_over_leaves)) (q := PySem.W.view (PySem.W.OpenLaw.row PySem.Challenge.rw_gatemill_k23_tables_over_leaves).prog [42]) (H := hookN 6 fas fns tqs exB) (ob := obN 6 fas fns tqs exB) (M := 20000) (loose := looseN) (d := HandSHeadRun.topDef (PySem.W.OpenLaw.row PySem.Challenge.rw_gatemill_k23_tables_over_leaves).prog 42) (kwd := []) obN_eq
    (by kernel_rfl) (fun s => by kernel_rfl) run (by kernel_rfl) (by kernel_rfl) (by kernel_rfl) (by rfl) (by first | assumption | decide +kernel) (by decide +kernel) ⟨rfl, rfl, rfl, rfl, rfl, by decide +kernel⟩ ?hw ?hc
  case hw => w_witness2
  case hc =>
    refine walk_gmT (l := PySem.Challenge.rw_gatemill_k23_tables_over_leaves) (n := 63) (k := 7) rfl (by decide) (by kernel_rfl) ⟨rfl, by decide, by decide⟩ (fun w K h mg f X G hm c => ?_) law
    have e : (HandSHeadRun.topDef (PySem.W.OpenLaw.row PySem.Challenge.rw_gatemill_k23_tables_over_leaves).prog 42).name = ("law" : Str) := by kernel_rfl
    rw [e] at hm
    exact facts X G hm c
end K23

theorem PySem.Challenge.cw_gatemill_k23_tables_over_leaves_holds : PySem.Challenge.rw_gatemill_k23_tables_over_leaves.Holds :=
  holds_of law_true
