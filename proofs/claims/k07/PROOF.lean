import PyProof.Rows.All
import HandS.ForMost
import HandS.Exc
import HandS.ExcCtx
import HandS.WordsExc
import HandS.CallSlots
import HandS.Lambda
import HandS.TryMany
import HandS.Wide
import HandS.WideBits
import HandS.Defaults
import HandS.RevRange
import HandS.Zip
import HandS.DictComp
import HandS.IntHex
import PyProof.SumWalkG
import PyProof.Rows.CallKwBuiltin
import HandS.Head0
import HandS.Head1
import HandS.Head2
import HandS.HeadEnd
import HandS.HeadHook1
import HandS.HeadHook2
import HandS.Words
import HandS.Ends
import HandS.IsInst
import HandS.ExcOwn
import HandS.Style
import PyProof.StrOps2
import HandS.Hot
import HandS.HotCalls
import HandS.Iter
import PyProof.ZipIter
import HandS.ExcIs
import HandS.ExcField
import HandS.HeadHook4
import HandS.EndTab
import HandS.HeadWalk
import HandS.ExcInit
import Wide.All
import OpenK.AllK
import Wide.FinOn
import KE.KStateDown
import Lean
import HandS.Base
import HandS.Call
import HandS.More
import HandS.Strs
import KE.OsArith
import HandS.SetFor
import PyProof.EnumMake
import KE.GoesMore
import PyProof.StrLawsIn
import PySem.Challenge.RW_gatemill_k07_tables_of_nodes
set_option Elab.async false
set_option linter.all false
set_option maxRecDepth 100000
set_option maxHeartbeats 4000000
/-! Gm1: data as trees and cells, the ghost, the relation to the abstract heap. -/
namespace Gm
open PySem PySem.Spec PyProof.Rows L2

/-- data: trees that never change, and names of cells -/
inductive D where
  | non | bl (b : Bool) | int (i : Int) | str (x : Str)
  | tup (l : List D) | lst (l : List D) | fro (l : List D) | dct (l : List (Key × D))
  | obj (c : Str) (fs : List (Str × D))
  | ref (n : Nat)
  | ty (n : String) | cls (n : Str) | exn (n : Str) (fs : List (Str × D))
instance : Inhabited D := ⟨.non⟩

/-- what may change -/
inductive Cell where
  | lst (l : List D) | dct (l : List (Key × D)) | obj (c : Str) (fs : List (Str × D))

abbrev Store := List (Option Cell)

mutual
def D.lw (n : Nat) : D → Bool
  | .tup l => D.lws n l
  | .lst l => D.lws n l
  | .fro l => D.lws n l
  | .dct l => D.lwk n l
  | .obj _ fs => D.lwf n fs
  | .exn _ fs => D.lwf n fs
  | .ref m => decide (m < n)
  | _ => true
def D.lws (n : Nat) : List D → Bool
  | [] => true
  | d :: r => d.lw n && D.lws n r
def D.lwk (n : Nat) : List (Key × D) → Bool
  | [] => true
  | (_, d) :: r => d.lw n && D.lwk n r
def D.lwf (n : Nat) : List (Str × D) → Bool
  | [] => true
  | (_, d) :: r => d.lw n && D.lwf n r
end
def Cell.lw (n : Nat) : Cell → Bool
  | .lst l => D.lws n l
  | .dct l => D.lwk n l
  | .obj _ fs => D.lwf n fs
def cellLw (n : Nat) : Option Cell → Bool
  | some c => c.lw n
  | none => true

/-- the ghost: where the cells stand; the part of the heap that stays -/
structure Gh where
  io : Nat → Addr
  tr : Hp

/-- the module's side: the written part, the classes by name, the tables of code objects -/
structure Cf where
  K : PySem.W.Frag
  cl : Str → Option Addr
  tabs : List (Addr × Str)
  ex : Option (Addr × Str × Option Addr)

mutual
inductive RV (c : Cf) (g : Gh) (L : Nat) : D → V → Prop where
  | non : RV c g L .non .non
  | bl (b : Bool) : RV c g L (.bl b) (.bl b)
  | int (i : Int) : RV c g L (.int i) (.int i)
  | str (x : Str) : RV c g L (.str x) (.str x)
  | tup {ds : List D} {a : Addr} {vs : List V} (h : SqT c.K g.tr a vs) (r : RVs c g L ds vs) : RV c g L (.tup ds) (.ref a)
  | lst {ds : List D} {a : Addr} {vs : List V} (h : g.tr a = some (.lst vs)) (r : RVs c g L ds vs) : RV c g L (.lst ds) (.ref a)
  | fro {ds : List D} {a : Addr} {vs : List V} (h : SqL c.K g.tr a vs) (r : RVs c g L ds vs) : RV c g L (.fro ds) (.ref a)
  | dct {l : List (Key × D)} {a : Addr} {kvs : List (Key × V)} (h : g.tr a = some (.dK kvs)) (r : RKs c g L l kvs) : RV c g L (.dct l) (.ref a)
  | obj {n : Str} {fs : List (Str × D)} {a C dx : Addr} {fvs : List (Str × V)} (h : g.tr a = some (.ins C dx fvs)) (hc : c.cl n = some C) (r : RFs c g L fs fvs) : RV c g L (.obj n fs) (.ref a)
  | ref {n : Nat} (h : n < L) : RV c g L (.ref n) (.ref (g.io n))
  | ty (n : String) : RV c g L (.ty n) (.ty n)
  | cls {n : Str} {C : Addr} (h : c.cl n = some C) : RV c g L (.cls n) (.ref C)
  | exn0 {n : Str} {a : Addr} (h : c.ex = some (a, n, none)) : RV c g L (.exn n []) (.ref a)
  | exn1 {n : Str} {fs : List (Str × D)} {a dd : Addr} {fvs : List (Str × V)} (h : c.ex = some (a, n, some dd)) (hd : g.tr dd = some (.xd fvs)) (r : RFs c g L fs fvs) : RV c g L (.exn n fs) (.ref a)
inductive RVs (c : Cf) (g : Gh) (L : Nat) : List D → List V → Prop where
  | nil : RVs c g L [] []
  | cons {d : D} {v : V} {ds : List D} {vs : List V} (h : RV c g L d v) (r : RVs c g L ds vs) : RVs c g L (d :: ds) (v :: vs)
inductive RKs (c : Cf) (g : Gh) (L : Nat) : List (Key × D) → List (Key × V) → Prop where
  | nil : RKs c g L [] []
  | cons {k : Key} {d : D} {v : V} {ds : List (Key × D)} {vs : List (Key × V)} (h : RV c g L d v) (r : RKs c g L ds vs) : RKs c g L ((k, d) :: ds) ((k, v) :: vs)
inductive RFs (c : Cf) (g : Gh) (L : Nat) : List (Str × D) → List (Str × V) → Prop where
  | nil : RFs c g L [] []
  | cons {k : Str} {d : D} {v : V} {ds : List (Str × D)} {vs : List (Str × V)} (h : RV c g L d v) (r : RFs c g L ds vs) : RFs c g L ((k, d) :: ds) ((k, v) :: vs)
end

theorem SqL.sub {K : PySem.W.Frag} {H H' : Hp} {a : Addr} {xs : List V} (e : ∀ b o, H b = some o → H' b = some o) (h : SqL K H a xs) : SqL K H' a xs := Same.seq e h
theorem SqT.sub {K : PySem.W.Frag} {H H' : Hp} {a : Addr} {xs : List V} (e : ∀ b o, H b = some o → H' b = some o) (h : SqT K H a xs) : SqT K H' a xs := by
  rcases h with (h | ⟨o, h⟩) | h
  · exact .inl (.inl (e _ _ h))
  · exact .inl (.inr ⟨o, e _ _ h⟩)
  · exact .inr h

/-- g' goes on from g below L -/
structure Gx (g : Gh) (L : Nat) (g' : Gh) : Prop where
  io : ∀ n, n < L → g'.io n = g.io n
  tr : ∀ a o, g.tr a = some o → g'.tr a = some o
theorem Gx.refl (g : Gh) (L : Nat) : Gx g L g := ⟨fun _ _ => rfl, fun _ _ h => h⟩

section
variable {c : Cf} {g g' : Gh} {L L' : Nat}
mutual
theorem RV.mono (x : Gx g L g') (hl : L ≤ L') : ∀ {d : D} {v : V}, RV c g L d v → RV c g' L' d v
  | _, _, .non => .non
  | _, _, .bl b => .bl b
  | _, _, .int i => .int i
  | _, _, .str s => .str s
  | _, _, .tup h r => .tup (SqT.sub x.tr h) (RVs.mono x hl r)
  | _, _, .lst h r => .lst (x.tr _ _ h) (RVs.mono x hl r)
  | _, _, .fro h r => .fro (SqL.sub x.tr h) (RVs.mono x hl r)
  | _, _, .dct h r => .dct (x.tr _ _ h) (RKs.mono x hl r)
  | _, _, .obj h hc r => .obj (x.tr _ _ h) hc (RFs.mono x hl r)
  | _, _, .ref (n := n) h => by
    have e := x.io n h
    rw [← e]
    exact .ref (Nat.lt_of_lt_of_le h hl)
  | _, _, .ty n => .ty n
  | _, _, .cls h => .cls h
  | _, _, .exn0 h => .exn0 h
  | _, _, .exn1 h hd r => .exn1 h (x.tr _ _ hd) (RFs.mono x hl r)
theorem RVs.mono (x : Gx g L g') (hl : L ≤ L') : ∀ {d : List D} {v : List V}, RVs c g L d v → RVs c g' L' d v
  | _, _, .nil => .nil
  | _, _, .cons h r => .cons (RV.mono x hl h) (RVs.mono x hl r)
theorem RKs.mono (x : Gx g L g') (hl : L ≤ L') : ∀ {d : List (Key × D)} {v : List (Key × V)}, RKs c g L d v → RKs c g' L' d v
  | _, _, .nil => .nil
  | _, _, .cons h r => .cons (RV.mono x hl h) (RKs.mono x hl r)
theorem RFs.mono (x : Gx g L g') (hl : L ≤ L') : ∀ {d : List (Str × D)} {v : List (Str × V)}, RFs c g L d v → RFs c g' L' d v
  | _, _, .nil => .nil
  | _, _, .cons h r => .cons (RV.mono x hl h) (RFs.mono x hl r)
end
mutual
theorem RV.low {n : Nat} : ∀ {d : D} {v : V}, RV c g L d v → d.lw n = true → RV c g n d v
  | _, _, .non, _ => .non
  | _, _, .bl b, _ => .bl b
  | _, _, .int i, _ => .int i
  | _, _, .str s, _ => .str s
  | _, _, .tup h r, b => .tup h (RVs.low r (by simpa only [D.lw] using b))
  | _, _, .lst h r, b => .lst h (RVs.low r (by simpa only [D.lw] using b))
  | _, _, .fro h r, b => .fro h (RVs.low r (by simpa only [D.lw] using b))
  | _, _, .dct h r, b => .dct h (RKs.low r (by simpa only [D.lw] using b))
  | _, _, .obj h hc r, b => .obj h hc (RFs.low r (by simpa only [D.lw] using b))
  | _, _, .ref h, b => .ref (by simpa only [D.lw, decide_eq_true_eq] using b)
  | _, _, .ty n, _ => .ty n
  | _, _, .cls h, _ => .cls h
  | _, _, .exn0 h, _ => .exn0 h
  | _, _, .exn1 h hd r, b => .exn1 h hd (RFs.low r (by simpa only [D.lw] using b))
theorem RVs.low {n : Nat} : ∀ {d : List D} {v : List V}, RVs c g L d v → D.lws n d = true → RVs c g n d v
  | _, _, .nil, _ => .nil
  | _, _, .cons h r, b => by
    simp only [D.lws, Bool.and_eq_true] at b
    exact .cons (RV.low h b.1) (RVs.low r b.2)
theorem RKs.low {n : Nat} : ∀ {d : List (Key × D)} {v : List (Key × V)}, RKs c g L d v → D.lwk n d = true → RKs c g n d v
  | _, _, .nil, _ => .nil
  | _, _, .cons h r, b => by
    simp only [D.lwk, Bool.and_eq_true] at b
    exact .cons (RV.low h b.1) (RKs.low r b.2)
theorem RFs.low {n : Nat} : ∀ {d : List (Str × D)} {v : List (Str × V)}, RFs c g L d v → D.lwf n d = true → RFs c g n d v
  | _, _, .nil, _ => .nil
  | _, _, .cons h r, b => by
    simp only [D.lwf, Bool.and_eq_true] at b
    exact .cons (RV.low h b.1) (RFs.low r b.2)
end
theorem RVs.length : ∀ {d : List D} {v : List V}, RVs c g L d v → d.length = v.length
  | _, _, .nil => rfl
  | _, _, .cons _ r => by simp only [List.length_cons, RVs.length r]
theorem RVs.get : ∀ {d : List D} {v : List V} {i : Nat} {x : D}, RVs c g L d v → d[i]? = some x → ∃ y, v[i]? = some y ∧ RV c g L x y
  | _, _, _, _, .nil, e => by simp at e
  | _, _, 0, _, .cons h _, e => by simp at e; subst e; exact ⟨_, rfl, h⟩
  | _, _, i + 1, _, .cons _ r, e => by
    obtain ⟨y, e1, e2⟩ := RVs.get (i := i) r (by simpa using e)
    exact ⟨y, by simpa using e1, e2⟩
theorem RVs.append : ∀ {d d' : List D} {v v' : List V}, RVs c g L d v → RVs c g L d' v' → RVs c g L (d ++ d') (v ++ v')
  | _, _, _, _, .nil, s => s
  | _, _, _, _, .cons h r, s => .cons h (RVs.append r s)
theorem RVs.set {x : D} {y : V} (q : RV c g L x y) : ∀ {d : List D} {v : List V} (i : Nat), RVs c g L d v → RVs c g L (d.set i x) (v.set i y)
  | _, _, _, .nil => .nil
  | _, _, 0, .cons _ r => .cons q r
  | _, _, i + 1, .cons h r => .cons h (RVs.set q i r)
theorem RVs.eraseIdx : ∀ {d : List D} {v : List V} (i : Nat), RVs c g L d v → RVs c g L (d.eraseIdx i) (v.eraseIdx i)
  | _, _, _, .nil => .nil
  | _, _, 0, .cons _ r => r
  | _, _, i + 1, .cons h r => .cons h (RVs.eraseIdx i r)
theorem RVs.take : ∀ {d : List D} {v : List V} (n : Nat), RVs c g L d v → RVs c g L (d.take n) (v.take n)
  | _, _, 0, _ => by simp; exact .nil
  | _, _, _ + 1, .nil => by simp; exact .nil
  | _, _, n + 1, .cons h r => by simp; exact .cons h (RVs.take n r)
theorem RVs.drop : ∀ {d : List D} {v : List V} (n : Nat), RVs c g L d v → RVs c g L (d.drop n) (v.drop n)
  | _, _, 0, r => by simpa using r
  | _, _, _ + 1, .nil => by simp; exact .nil
  | _, _, n + 1, .cons h r => by simpa using RVs.drop n r
end

/-- a cell's content at its address -/
def RC (c : Cf) (g : Gh) (L : Nat) (H : Hp) : Cell → Addr → Prop
  | .lst ds, a => ∃ vs, H a = some (.lst vs) ∧ RVs c g L ds vs
  | .dct l, a => ∃ kvs, H a = some (.dK kvs) ∧ RKs c g L l kvs
  | .obj n fs, a => ∃ C dx fvs, H a = some (.ins C dx fvs) ∧ c.cl n = some C ∧ RFs c g L fs fvs
theorem RC.mono {c : Cf} {g g' : Gh} {L L' : Nat} {H H' : Hp} {ce : Cell} {a : Addr} (x : Gx g L g') (hl : L ≤ L') (hH : H' a = H a) (r : RC c g L H ce a) : RC c g' L' H' ce a := by
  cases ce with
  | lst ds => obtain ⟨vs, e, r⟩ := r; exact ⟨vs, hH.trans e, r.mono x hl⟩
  | dct l => obtain ⟨vs, e, r⟩ := r; exact ⟨vs, hH.trans e, r.mono x hl⟩
  | obj n fs => obtain ⟨C, dx, vs, e, hc, r⟩ := r; exact ⟨C, dx, vs, hH.trans e, hc, r.mono x hl⟩
theorem RC.low {c : Cf} {g : Gh} {L n : Nat} {H : Hp} {ce : Cell} {a : Addr} (r : RC c g L H ce a) (b : ce.lw n = true) : RC c g n H ce a := by
  cases ce with
  | lst ds => obtain ⟨vs, e, r⟩ := r; exact ⟨vs, e, r.low b⟩
  | dct l => obtain ⟨vs, e, r⟩ := r; exact ⟨vs, e, r.low b⟩
  | obj n fs => obtain ⟨C, dx, vs, e, hc, r⟩ := r; exact ⟨C, dx, vs, e, hc, r.low b⟩
theorem RC.some {c : Cf} {g : Gh} {L : Nat} {H : Hp} {ce : Cell} {a : Addr} (r : RC c g L H ce a) : ∃ o, H a = some o ∧ Mut (some o) := by
  cases ce with
  | lst ds => obtain ⟨vs, e, r⟩ := r; exact ⟨_, e, trivial⟩
  | dct l => obtain ⟨vs, e, r⟩ := r; exact ⟨_, e, trivial⟩
  | obj n fs => obtain ⟨C, dx, vs, e, hc, r⟩ := r; exact ⟨_, e, trivial⟩

def Live (h : Store) (n : Nat) : Prop := ∃ c, h[n]? = some (some c)
theorem Live.lt {h : Store} {n : Nat} (l : Live h n) : n < h.length := by
  obtain ⟨c, e⟩ := l
  exact (List.getElem?_eq_some_iff.mp e).1

/-- the store and the ghost are held by the heap -/
structure SR (c : Cf) (g : Gh) (h : Store) (H : Hp) : Prop where
  sub : ∀ a o, g.tr a = some o → H a = some o
  apart : ∀ n, Live h n → g.tr (g.io n) = none
  cell : ∀ n ce, h[n]? = some (some ce) → RC c g h.length H ce (g.io n)
  inj : ∀ n m, Live h n → Live h m → g.io n = g.io m → n = m
  tabs : LamX.Tabs c.tabs H
  nt : ∀ a ps, g.tr a ≠ some (.tbl ps)
theorem nt_upd {tr : Hp} {p : Addr} {o : HO} (n : ∀ a ps, tr a ≠ some (.tbl ps)) (no : ∀ ps, o ≠ .tbl ps) : ∀ a ps, upd tr p o a ≠ some (.tbl ps) := fun a ps z => by
  by_cases e : a = p
  · rw [e, upd_same] at z
    exact no ps (Option.some.inj z)
  · rw [upd_ne e] at z
    exact n a ps z

/-- from one state to a later one -/
structure Go (g : Gh) (h : Store) (H : Hp) (g' : Gh) (h' : Store) (H' : Hp) : Prop where
  len : h.length ≤ h'.length
  io : ∀ n, n < h.length → g'.io n = g.io n
  tr : ∀ a o, g.tr a = some o → g'.tr a = some o
  dm : ∀ a o, H a = some o → (∀ ps, o ≠ .tbl ps) → ∃ o', H' a = some o' ∧ ∀ ps, o' ≠ .tbl ps
  fr : ∀ a o, H a = some o → (∀ ps, o ≠ .tbl ps) → (∀ n, Live h n → g.io n ≠ a) → H' a = some o
  tn : ∀ a o, H a = some o → (∀ ps, o ≠ .tbl ps) → g.tr a = none → (∀ n, Live h n → g.io n ≠ a) → g'.tr a = none
  old : ∀ n, n < h.length → Live h' n → Live h n
  new : ∀ n, h.length ≤ n → Live h' n → ∀ o, H (g'.io n) = some o → ∃ ps, o = .tbl ps
theorem Go.gx {g g' : Gh} {h h' : Store} {H H' : Hp} (x : Go g h H g' h' H') : Gx g h.length g' := ⟨x.io, x.tr⟩
theorem Go.refl (g : Gh) (h : Store) (H : Hp) : Go g h H g h H :=
  ⟨Nat.le_refl _, fun _ _ => rfl, fun _ _ e => e, fun _ o e nt => ⟨o, e, nt⟩, fun _ _ e _ _ => e, fun _ _ _ _ e _ => e, fun _ _ l => l, fun n hn l => absurd l.lt (Nat.not_lt.mpr hn)⟩
theorem Go.apart {g g' : Gh} {h h' : Store} {H H' : Hp} (x : Go g h H g' h' H') {a : Addr} {o : HO} (e : H a = some o) (nt : ∀ ps, o ≠ .tbl ps) (nl : ∀ n, Live h n → g.io n ≠ a) : ∀ n, Live h' n → g'.io n ≠ a := fun n l z => by
  by_cases hn : n < h.length
  · have l0 := x.old n hn l
    rw [x.io n hn] at z
    exact nl n l0 z
  · obtain ⟨ps, q⟩ := x.new n (Nat.not_lt.mp hn) l o (by rw [z]; exact e)
    exact nt ps q
theorem Go.trans {g g1 g2 : Gh} {h h1 h2 : Store} {H H1 H2 : Hp} (x : Go g h H g1 h1 H1) (y : Go g1 h1 H1 g2 h2 H2) : Go g h H g2 h2 H2 where
  len := Nat.le_trans x.len y.len
  io := fun n hn => (y.io n (Nat.lt_of_lt_of_le hn x.len)).trans (x.io n hn)
  tr := fun a o e => y.tr a o (x.tr a o e)
  dm := fun a o e nt => by
    obtain ⟨o1, e1, n1⟩ := x.dm a o e nt
    exact y.dm a o1 e1 n1
  fr := fun a o e nt nl => y.fr a o (x.fr a o e nt nl) nt (x.apart e nt nl)
  tn := fun a o e nt tn nl => y.tn a o (x.fr a o e nt nl) nt (x.tn a o e nt tn nl) (x.apart e nt nl)
  old := fun n hn l => x.old n hn (y.old n (Nat.lt_of_lt_of_le hn x.len) l)
  new := fun n hn l o e => by
    by_cases hn1 : n < h1.length
    · have l1 := y.old n hn1 l
      rw [y.io n hn1] at e
      exact x.new n hn l1 o e
    · have q := y.new n (Nat.not_lt.mp hn1) l
      cases o with
      | tbl ps => exact ⟨ps, rfl⟩
      | _ =>
        obtain ⟨o1, e1, n1⟩ := x.dm _ _ e (by intro ps z; cases z)
        obtain ⟨ps, z⟩ := q o1 e1
        exact absurd z (n1 ps)

/-! ### steps -/
section
variable {c : Cf} {g : Gh} {h : Store} {H : Hp}
theorem SR.rvs_mono {g' : Gh} {h' : Store} {H' : Hp} (x : Go g h H g' h' H') {d : D} {v : V} (r : RV c g h.length d v) : RV c g' h'.length d v := r.mono x.gx x.len
theorem tabs_alloc {T : List (Addr × Str)} {p : Addr} {o : HO} (t : LamX.Tabs T H) (hp : H p = none) : LamX.Tabs T (upd H p o) := t.ext fun b u e => by
  rw [upd_ne (ne_of_none e hp)]
  exact e
theorem tabs_write {T : List (Addr × Str)} {p : Addr} {o u : HO} (t : LamX.Tabs T H) (hp : H p = some u) (mu : Mut (some u)) (nx : ∀ φ, u ≠ .ext φ) : LamX.Tabs T (upd H p o) := fun q hq => by
  obtain ⟨ps, h1, h2, h3⟩ := t q hq
  have n1 : q.1 ≠ p := fun z => by
    rw [z, hp] at h1
    cases h1
    exact mu
  refine ⟨ps, by rw [upd_ne n1]; exact h1, h2, fun pos cv hc => ?_⟩
  obtain ⟨a, e1, e2⟩ := h3 pos cv hc
  refine ⟨a, e1, ?_⟩
  have n2 : a ≠ p := fun z => by
    rw [z, hp] at e2
    cases e2
    exact nx _ rfl
  rw [upd_ne n2]
  exact e2
/-- a new thing that stays -/
theorem SR.tree (S : SR c g h H) {p : Addr} {o : HO} (hp : H p = none) (no : ∀ ps, o ≠ .tbl ps := by intro ps z; cases z) : SR c { g with tr := upd g.tr p o } h (upd H p o) ∧ Go g h H { g with tr := upd g.tr p o } h (upd H p o) := by
  have np : ∀ {a u}, g.tr a = some u → a ≠ p := fun {a u} e => ne_of_none (S.sub a u e) hp
  have tp : g.tr p = none := by
    cases e : g.tr p with
    | none => rfl
    | some u => exact absurd rfl (np e)
  have nl : ∀ n, Live h n → g.io n ≠ p := fun n ⟨ce, e⟩ z => by
    obtain ⟨u, q, _⟩ := (S.cell n ce e).some
    rw [z, hp] at q
    cases q
  have gx : Gx g h.length { g with tr := upd g.tr p o } := ⟨fun _ _ => rfl, fun a u e => by
    show upd g.tr p o a = some u
    rw [upd_ne (np e)]
    exact e⟩
  refine ⟨⟨fun a u e => ?_, fun n l => ?_, fun n ce e => ?_, S.inj, tabs_alloc S.tabs hp, nt_upd S.nt no⟩, ⟨Nat.le_refl _, gx.io, gx.tr, fun a u e nt => ⟨u, by rw [upd_ne (ne_of_none e hp)]; exact e, nt⟩, fun a u e _ _ => by rw [upd_ne (ne_of_none e hp)]; exact e, fun a u e _ t _ => ?_, fun _ _ l => l, fun n hn l => absurd l.lt (Nat.not_lt.mpr hn)⟩⟩
  · have e : upd g.tr p o a = some u := e
    by_cases z : a = p
    · rw [z, upd_same] at e
      rw [z, upd_same]
      exact e
    · rw [upd_ne z] at e
      rw [upd_ne z]
      exact S.sub a u e
  · show upd g.tr p o (g.io n) = none
    rw [upd_ne (nl n l)]
    exact S.apart n l
  · exact (S.cell n ce e).mono gx (Nat.le_refl _) (upd_ne (nl n ⟨ce, e⟩))
  · show upd g.tr p o a = none
    rw [upd_ne (ne_of_none e hp)]
    exact t
theorem live_push {n : Nat} {ce : Cell} (l : Live (h ++ [some ce]) n) : Live h n ∨ n = h.length := by
  obtain ⟨c1, e⟩ := l
  by_cases hn : n < h.length
  · rw [List.getElem?_append_left hn] at e
    exact .inl ⟨c1, e⟩
  · rw [List.getElem?_append_right (Nat.not_lt.mp hn)] at e
    have := (List.getElem?_eq_some_iff.mp e).1
    simp at this
    exact .inr (by omega)
/-- a new cell -/
def Gh.push (g : Gh) (L : Nat) (p : Addr) : Gh := { g with io := fun n => if n = L then p else g.io n }
theorem SR.push (S : SR c g h H) {p : Addr} {o : HO} {ce : Cell} (hp : H p = none) (rc : ∀ g' , Gx g h.length g' → RC c g' (h ++ [some ce]).length (upd H p o) ce p) :
    SR c (g.push h.length p) (h ++ [some ce]) (upd H p o) ∧ Go g h H (g.push h.length p) (h ++ [some ce]) (upd H p o) := by
  have gx : Gx g h.length (g.push h.length p) := ⟨fun n hn => by
    show (if n = h.length then p else g.io n) = g.io n
    rw [if_neg (Nat.ne_of_lt hn)], fun _ _ e => e⟩
  have tp : g.tr p = none := by
    cases e : g.tr p with
    | none => rfl
    | some u => rw [S.sub _ _ e] at hp; cases hp
  have nl : ∀ n, Live h n → g.io n ≠ p := fun n ⟨ce, e⟩ z => by
    obtain ⟨u, q, _⟩ := (S.cell n ce e).some
    rw [z, hp] at q
    cases q
  have io : ∀ n, Live h n → (g.push h.length p).io n = g.io n := fun n l => gx.io n l.lt
  have ioL : (g.push h.length p).io h.length = p := by
    show (if h.length = h.length then p else _) = p
    rw [if_pos rfl]
  refine ⟨⟨fun a u e => ?_, fun n l => ?_, fun n ce' e => ?_, fun n m l1 l2 e => ?_, tabs_alloc S.tabs hp, S.nt⟩, ⟨by simp, gx.io, gx.tr, fun a u e nt => ⟨u, by rw [upd_ne (ne_of_none e hp)]; exact e, nt⟩, fun a u e _ _ => by rw [upd_ne (ne_of_none e hp)]; exact e, fun a u e _ t _ => t, fun n hn l => ?_, fun n hn l => ?_⟩⟩
  · have e : g.tr a = some u := e
    rw [upd_ne (ne_of_none (S.sub a u e) hp)]
    exact S.sub a u e
  · show g.tr _ = none
    rcases live_push l with l | rfl
    · rw [io n l]
      exact S.apart n l
    · rw [ioL]
      exact tp
  · rcases live_push ⟨ce', e⟩ with l | rfl
    · rw [List.getElem?_append_left l.lt] at e
      rw [io n l]
      exact (S.cell n ce' e).mono gx (by simp) (upd_ne (nl n l))
    · have e2 : ce' = ce := by simpa using e.symm
      rw [e2, ioL]
      exact rc _ gx
  · rcases live_push l1 with l1 | rfl <;> rcases live_push l2 with l2 | rfl
    · rw [io n l1, io m l2] at e
      exact S.inj n m l1 l2 e
    · rw [io n l1, ioL] at e
      exact absurd e (nl n l1)
    · rw [io m l2, ioL] at e
      exact absurd e.symm (nl m l2)
    · rfl
  · rcases live_push l with l | rfl
    · exact l
    · exact absurd hn (Nat.lt_irrefl _)
  · rcases live_push l with l | rfl
    · exact absurd l.lt (Nat.not_lt.mpr hn)
    · intro o e
      rw [ioL, hp] at e
      cases e
theorem live_set {n m : Nat} {ce : Cell} (l : Live (h.set n (some ce)) m) : m ≠ n → Live h m := fun hn => by
  obtain ⟨c1, e⟩ := l
  rw [List.getElem?_set_ne (Ne.symm hn)] at e
  exact ⟨c1, e⟩
/-- a cell is written -/
theorem SR.write (S : SR c g h H) {n : Nat} {o : HO} {ce ce' : Cell} (hn : h[n]? = some (some ce)) (rc : RC c g h.length (upd H (g.io n) o) ce' (g.io n)) :
    SR c g (h.set n (some ce')) (upd H (g.io n) o) ∧ Go g h H g (h.set n (some ce')) (upd H (g.io n) o) := by
  have ln : Live h n := ⟨ce, hn⟩
  obtain ⟨u, hu, mu⟩ := (S.cell n ce hn).some
  have nx : ∀ φ, u ≠ .ext φ := fun φ z => by
    have rr := S.cell n ce hn
    subst z
    cases ce with
    | lst ds => obtain ⟨_, e, _⟩ := rr; rw [hu] at e; cases e
    | dct ds => obtain ⟨_, e, _⟩ := rr; rw [hu] at e; cases e
    | obj _ ds => obtain ⟨_, _, _, e, _⟩ := rr; rw [hu] at e; cases e
  have lv : ∀ m, Live (h.set n (some ce')) m → Live h m := fun m l => by
    by_cases z : m = n
    · rw [z]; exact ln
    · exact live_set l z
  have ne : ∀ m, Live h m → m ≠ n → g.io m ≠ g.io n := fun m l z e => z (S.inj m n l ln e)
  have tp : ∀ {a u}, g.tr a = some u → a ≠ g.io n := fun {a u} e z => by
    rw [z, S.apart n ln] at e
    cases e
  refine ⟨⟨fun a u e => by rw [upd_ne (tp e)]; exact S.sub a u e, fun m l => S.apart m (lv m l), fun m ce2 e => ?_, fun m k l1 l2 e => S.inj m k (lv m l1) (lv k l2) e, tabs_write S.tabs hu mu nx, S.nt⟩,
    ⟨by simp, fun _ _ => rfl, fun _ _ e => e, fun a u e nt => ?_, fun a u e _ nl => by rw [upd_ne (Ne.symm (nl n ln))]; exact e, fun a u e _ t _ => t, fun m _ l => lv m l, fun m hm l => absurd l.lt (by simpa using hm)⟩⟩
  · rw [List.length_set]
    by_cases z : m = n
    · subst z
      rw [List.getElem?_set_self ln.lt] at e
      cases e
      exact rc
    · rw [List.getElem?_set_ne (Ne.symm z)] at e
      exact (S.cell m ce2 e).mono (Gx.refl _ _) (Nat.le_refl _) (upd_ne (ne m ⟨_, e⟩ z))
  · by_cases z : a = g.io n
    · obtain ⟨o2, q, mo⟩ := rc.some
      rw [upd_same] at q
      exact ⟨o, by rw [z, upd_same], fun ps y => by cases q; subst y; exact mo⟩
    · exact ⟨u, by rw [upd_ne z]; exact e, nt⟩
/-- cells above are let go -/
theorem live_take {n m : Nat} (l : Live (h.take n) m) : Live h m ∧ m < n := by
  obtain ⟨c1, e⟩ := l
  have hm : m < n := by
    have := (List.getElem?_eq_some_iff.mp e).1
    simp at this
    omega
  rw [List.getElem?_take_of_lt hm] at e
  exact ⟨⟨c1, e⟩, hm⟩
theorem SR.take (S : SR c g h H) {n : Nat} (hn : n ≤ h.length) (b : (h.take n).all (cellLw n) = true) : SR c g (h.take n) H := by
  refine ⟨S.sub, fun m l => S.apart m (live_take l).1, fun m ce e => ?_, fun m k l1 l2 e => S.inj m k (live_take l1).1 (live_take l2).1 e, S.tabs, S.nt⟩
  have l := live_take ⟨ce, e⟩
  rw [List.getElem?_take_of_lt l.2] at e
  have hb : ce.lw n = true := by
    have := List.all_eq_true.mp b (some ce) (List.mem_of_getElem? (by rw [List.getElem?_take_of_lt l.2]; exact e))
    exact this
  rw [List.length_take, Nat.min_eq_left hn]
  exact (S.cell m ce e).low hb
theorem Go.take {g' : Gh} {h' : Store} {H' : Hp} (x : Go g h H g' h' H') : Go g h H g' (h'.take h.length) H' where
  len := by rw [List.length_take]; have := x.len; omega
  io := x.io
  tr := x.tr
  dm := x.dm
  fr := x.fr
  tn := x.tn
  old := fun n hn l => x.old n hn (live_take l).1
  new := fun n hn l => x.new n hn (live_take l).1
end
end Gm

/-! Gm2: what code does as a function; the readings that it answers. -/
namespace Gm
open PySem PySem.Spec PyProof.Rows L2

structure Exn where
  cls : Str
  pay : Option (Str × D)
inductive Res (α : Type) where
  | ok (a : α) (h : Store)
  | exc (e : Exn) (h : Store)
  | no
abbrev Slots := List (Option D)
abbrev Ev (α : Type) := Slots → Store → Res α
def Res.bind {α β : Type} (r : Res α) (k : α → Store → Res β) : Res β :=
  match r with
  | .ok a h => k a h
  | .exc e h => .exc e h
  | .no => .no
@[simp] theorem Res.bind_ok {α β : Type} (a : α) (h : Store) (k : α → Store → Res β) : (Res.ok a h).bind k = k a h := rfl
@[simp] theorem Res.bind_exc {α β : Type} (e : Exn) (h : Store) (k : α → Store → Res β) : (Res.exc e h : Res α).bind k = .exc e h := rfl
@[simp] theorem Res.bind_no {α β : Type} (k : α → Store → Res β) : (Res.no : Res α).bind k = .no := rfl

/-- an exception as it lies -/
def RX (c : Cf) (g : Gh) (L : Nat) (e : Exn) (cls : Value) (dd : Option Addr) : Prop :=
  ∃ C, c.cl e.cls = some C ∧ cls = .ref C ∧ match e.pay with
    | none => dd = none
    | some (f, d) => ∃ a v, dd = some a ∧ g.tr a = some (.xd [(f, v)]) ∧ RV c g L d v
/-- what is wanted of a result -/
def RP (c : Cf) {α β : Type} (R : Gh → Nat → α → β → Prop) (g : Gh) (h : Store) (H : Hp) (r : Res α) (Q : β → Hp → Prop) (E : XK) : Prop :=
  match r with
  | .ok a h' => ∀ g' H' v, Go g h H g' h' H' → SR c g' h' H' → R g' h'.length a v → Q v H'
  | .exc e h' => ∀ g' H' cls dd, Go g h H g' h' H' → SR c g' h' H' → RX c g' h'.length e cls dd → E cls dd H'
  | .no => False
section
variable {c : Cf} {α β α' β' : Type} {R : Gh → Nat → α → β → Prop} {R' : Gh → Nat → α' → β' → Prop} {g g1 : Gh} {h h1 : Store} {H H1 : Hp} {Q : β → Hp → Prop} {E : XK}
theorem RP.go {r : Res α} (x : RP c R g h H r Q E) (o : Go g h H g1 h1 H1) : RP c R g1 h1 H1 r Q E := by
  cases r with
  | ok a h' => exact fun g' H' v o' s r => x g' H' v (o.trans o') s r
  | exc e h' => exact fun g' H' cls dd o' s r => x g' H' cls dd (o.trans o') s r
  | no => exact x
theorem RP.bind {r : Res α'} {k : α' → Store → Res α} (x : RP c R g h H (r.bind k) Q E) :
    RP c R' g h H r (fun (v : β') H1 => ∃ d h1 g1, Go g h H g1 h1 H1 ∧ SR c g1 h1 H1 ∧ R' g1 h1.length d v ∧ RP c R g1 h1 H1 (k d h1) Q E) E := by
  cases r with
  | ok a h' => exact fun g' H' v o s r => ⟨a, h', g', o, s, r, RP.go (r := k a h') x o⟩
  | exc e h' => exact x
  | no => exact x
theorem RP.mono {r : Res α} {Q' : β → Hp → Prop} (x : RP c R g h H r Q E) (k : ∀ v H', Q v H' → Q' v H') : RP c R g h H r Q' E := by
  cases r with
  | ok a h' => exact fun g' H' v o s r => k _ _ (x g' H' v o s r)
  | exc e h' => exact x
  | no => exact x
theorem RP.ok_here {a : α} {v : β} (x : RP c R g h H (.ok a h) Q E) (S : SR c g h H) (r : R g h.length a v) : Q v H := x g H v (Go.refl _ _ _) S r
end
abbrev Rv (c : Cf) : Gh → Nat → D → V → Prop := fun g L d v => RV c g L d v
abbrev Rvs (c : Cf) : Gh → Nat → List D → List V → Prop := fun g L d v => RVs c g L d v
abbrev Rb : Gh → Nat → Bool → Bool → Prop := fun _ _ a b => a = b

/-- the slots -/
def SL (c : Cf) (g : Gh) (L : Nat) (st : Slots) (σ : L2.St) : Prop := st.length = σ.length ∧ ∀ (i : Nat) d, st[i]? = some (some d) → ∃ v, σ[i]? = some (some v) ∧ RV c g L d v
theorem SL.go {c : Cf} {g g' : Gh} {h h' : Store} {H H' : Hp} {st : Slots} {σ : L2.St} (s : SL c g h.length st σ) (o : Go g h H g' h' H') : SL c g' h'.length st σ :=
  ⟨s.1, fun i d e => let ⟨v, e1, r⟩ := s.2 i d e; ⟨v, e1, r.mono o.gx o.len⟩⟩
theorem SL.set {c : Cf} {g : Gh} {L : Nat} {st : Slots} {σ : L2.St} (s : SL c g L st σ) (i : Nat) {d : D} {v : V} (r : RV c g L d v) : SL c g L (st.set i (some d)) (σ.set i (some v)) := by
  refine ⟨by rw [List.length_set, List.length_set, s.1], fun j d' e => ?_⟩
  by_cases z : i = j
  · subst z
    have hi : i < st.length := by
      have := (List.getElem?_eq_some_iff.mp e).1
      simpa using this
    rw [List.getElem?_set_self hi] at e
    have e' : d = d' := by simpa using e
    subst e'
    exact ⟨v, List.getElem?_set_self (by rw [← s.1]; exact hi), r⟩
  · rw [List.getElem?_set_ne z] at e
    rw [List.getElem?_set_ne z]
    exact s.2 j d' e
theorem SL.unset {c : Cf} {g : Gh} {L : Nat} {st : Slots} {σ : L2.St} (s : SL c g L st σ) (i : Nat) : SL c g L (st.set i none) (σ.set i none) := by
  refine ⟨by rw [List.length_set, List.length_set, s.1], fun j d' e => ?_⟩
  by_cases z : i = j
  · subst z
    have hi : i < st.length := by
      have := (List.getElem?_eq_some_iff.mp e).1
      simpa using this
    rw [List.getElem?_set_self hi] at e
    cases e
  · rw [List.getElem?_set_ne z] at e
    rw [List.getElem?_set_ne z]
    exact s.2 j d' e

/-! ### the readings -/
def tEv (c : Cf) (W : WX) (f : Ev D) : TE := fun σ H Q => ∃ st h g, SR c g h H ∧ SL c g h.length st σ ∧ RP c (Rv c) g h H (f st h) Q (fun cls dd H' => W cls dd σ H')
def tTe (c : Cf) (W : WX) (f : Ev Bool) : TT := fun σ H Q => ∃ st h g, SR c g h H ∧ SL c g h.length st σ ∧ RP c Rb g h H (f st h) Q (fun cls dd H' => W cls dd σ H')
def tAr (c : Cf) (W : WX) (f : Ev (List D)) : TA := fun σ H Q => ∃ st h g, SR c g h H ∧ SL c g h.length st σ ∧ RP c (Rvs c) g h H (f st h) Q (fun cls dd H' => W cls dd σ H')

theorem PE.imp {X : Cx} {e : Expr} {t t' : TE} (p : PE X e t) (k : ∀ σ H Q, t' σ H Q → t σ H Q) : PE X e t' := ⟨fun pins s σ H Q I h => p.run pins s σ H Q I (k σ H Q h)⟩
theorem PT.imp {X : Cx} {e : Expr} {t t' : TT} (p : PT X e t) (k : ∀ σ H Q, t' σ H Q → t σ H Q) : PT X e t' := ⟨fun pins s σ H Q I h => p.run pins s σ H Q I (k σ H Q h)⟩
theorem PW.imp {X : Cx} {e : Expr} {t t' : TT} (p : PW X e t) (k : ∀ σ H Q, t' σ H Q → t σ H Q) : PW X e t' := ⟨fun w pins s σ H Q I h => p.run w pins s σ H Q I (k σ H Q h)⟩
theorem PA.imp {X : Cx} {e : List Expr} {t t' : TA} (p : PA X e t) (k : ∀ σ H Q, t' σ H Q → t σ H Q) : PA X e t' := ⟨fun w pins s σ H Q I h => p.run w pins s σ H Q I (k σ H Q h)⟩
theorem PS.imp {X : Cx} {e : Stmt} {t t' : TS} (p : PS X e t) (k : ∀ D σ H, t' D σ H → t D σ H) : PS X e t' := ⟨fun pins s σ H Q I h => p.run pins s σ H Q I (k Q σ H h)⟩
theorem PSs.imp {X : Cx} {e : List Stmt} {t t' : TS} (p : PSs X e t) (k : ∀ D σ H, t' D σ H → t D σ H) : PSs X e t' := ⟨fun pins s σ H Q I h => p.run pins s σ H Q I (k Q σ H h)⟩

/-! ### names, constants -/
section
variable {c : Cf} {W : WX} {X : Cx}
def cVar (i : Nat) : Ev D := fun st h => match st[i]? with
  | some (some d) => .ok d h
  | _ => .no
theorem e_var {i : Nat} {e : Expr} (p : PE X e (tVar i)) : PE X e (tEv c W (cVar i)) := PE.imp p fun σ H Q ⟨st, h, g, S, sl, q⟩ => by
  unfold cVar at q
  split at q
  · rename_i d e
    obtain ⟨v, e1, r⟩ := sl.2 i d e
    exact ⟨v, e1, q.ok_here S r⟩
  · exact q.elim
def cK (d : D) : Ev D := fun _ h => .ok d h
theorem e_k {v : V} {d : D} {e : Expr} (p : PE X e (tC v)) (r : ∀ g L, RV c g L d v) : PE X e (tEv c W (cK d)) := PE.imp p fun σ H Q ⟨st, h, g, S, sl, q⟩ => q.ok_here S (r _ _)
theorem e_int {i : Int} {e : Expr} (p : PE X e (tC (.int i))) : PE X e (tEv c W (cK (.int i))) := e_k p fun _ _ => .int i
theorem e_str {i : Str} {e : Expr} (p : PE X e (tC (.str i))) : PE X e (tEv c W (cK (.str i))) := e_k p fun _ _ => .str i
theorem e_bl {i : Bool} {e : Expr} (p : PE X e (tC (.bl i))) : PE X e (tEv c W (cK (.bl i))) := e_k p fun _ _ => .bl i
theorem e_non {e : Expr} (p : PE X e (tC .non)) : PE X e (tEv c W (cK .non)) := e_k p fun _ _ => .non

/-! ### two operands -/
def cBin (fo : D → D → Store → Res D) (fa fb : Ev D) : Ev D := fun st h => (fa st h).bind fun a h1 => (fb st h1).bind fun b h2 => fo a b h2
def R2Ok (c : Cf) (r : R2) (fo : D → D → Store → Res D) : Prop :=
  ∀ g h H d1 v1 d2 v2 Q E, SR c g h H → RV c g h.length d1 v1 → RV c g h.length d2 v2 → RP c (Rv c) g h H (fo d1 d2 h) Q E → r v1 v2 H Q
theorem ev2 {r : R2} {fo : D → D → Store → Res D} {fa fb : Ev D} (hr : R2Ok c r fo) {σ : L2.St} {H : Hp} {Q : VK} (x : tEv c W (cBin fo fa fb) σ H Q) : tOp r (tEv c W fa) (tEv c W fb) σ H Q := by
  obtain ⟨st, h, g, S, sl, q⟩ := x
  refine ⟨st, h, g, S, sl, RP.mono q.bind fun v1 H1 ⟨d1, h1, g1, o1, S1, r1, q1⟩ => ?_⟩
  refine ⟨st, h1, g1, S1, sl.go o1, RP.mono q1.bind fun v2 H2 ⟨d2, h2, g2, o2, S2, r2, q2⟩ => ?_⟩
  exact hr g2 h2 H2 d1 v1 d2 v2 _ _ S2 (r1.mono o2.gx o2.len) r2 q2
theorem e_bin {op : Operator} {r : R2} {fo : D → D → Store → Res D} {fa fb : Ev D} {a b : Expr} {pos : Pos} (ho : OpR X (binaryOp op) r) (hr : R2Ok c r fo) (ha : PE X a (tEv c W fa)) (hb : PE X b (tEv c W fb)) :
    PE X (.BinOp a op b pos) (tEv c W (cBin fo fa fb)) := PE.imp (pe_op ho ha hb) fun _ _ _ => ev2 hr
theorem e_cmp {op : CmpOp} {r : R2} {fo : D → D → Store → Res D} {fa fb : Ev D} {a b : Expr} {pos : Pos} (ho : OpR X (compareOp op) r) (hr : R2Ok c r fo) (ha : PE X a (tEv c W fa)) (hb : PE X b (tEv c W fb)) (hm : behindInMarks op b = false) :
    PE X (.Compare a [op] [b] pos) (tEv c W (cBin fo fa fb)) := PE.imp (pe_cmpR ho ha hb hm) fun _ _ _ => ev2 hr
theorem e_ix {r : R2} {fo : D → D → Store → Res D} {fa fb : Ev D} {a b : Expr} {pos : Pos} (ho : IxR X r) (hr : R2Ok c r fo) (ha : PE X a (tEv c W fa)) (hb : PE X b (tEv c W fb)) (hs : PlainIx b := by exact fun _ _ => rfl) :
    PE X (.Subscript a b pos) (tEv c W (cBin fo fa fb)) := PE.imp (pe_ix ho ha hb hs) fun _ _ _ => ev2 hr

/-! ### tests -/
/-- an expression whose value is True or False -/
def cTv (f : Ev D) : Ev Bool := fun st h => (f st h).bind fun d h1 => match d with
  | .bl b => .ok b h1
  | _ => .no
theorem tv {f : Ev D} {σ : L2.St} {H : Hp} {Q : Bool → Hp → Prop} (x : tTe c W (cTv f) σ H Q) : tEv c W f σ H fun v H1 => ∃ k, v = .bl k ∧ Q k H1 := by
  obtain ⟨st, h, g, S, sl, q⟩ := x
  refine ⟨st, h, g, S, sl, RP.mono q.bind fun v1 H1 ⟨d1, h1, g1, o1, S1, r1, q1⟩ => ?_⟩
  cases r1 with
  | bl b => exact ⟨b, rfl, RP.ok_here q1 S1 rfl⟩
  | _ => exact q1.elim
theorem t_val {f : Ev D} {e : Expr} (h : PE X e (tEv c W f)) (he : ∀ whole, isTrue e X.env whole = (do let v ← whole; standAt e.pos; holding [v] (truthy v)) := by intro _; rfl) : PT X e (tTe c W (cTv f)) := PT.imp (pt_val h he) fun _ _ _ => tv
theorem t_cmp {op : CmpOp} {r : R2} {fo : D → D → Store → Res D} {fa fb : Ev D} {a b : Expr} {pos : Pos} (ho : OpR X (compareOp op) r) (hr : R2Ok c r fo) (ha : PE X a (tEv c W fa)) (hb : PE X b (tEv c W fb)) (hm : behindInMarks op b = false) :
    PT X (.Compare a [op] [b] pos) (tTe c W (cTv (cBin fo fa fb))) := PT.imp (pt_cmpR ho ha hb hm) fun σ H Q x => by
  obtain ⟨st, h, g, S, sl, q⟩ := tv x
  exact ev2 hr ⟨st, h, g, S, sl, q⟩
def cTnot (f : Ev Bool) : Ev Bool := fun st h => (f st h).bind fun b h1 => .ok (!b) h1
theorem t_not {f : Ev Bool} {a : Expr} {pos : Pos} (ha : PT X a (tTe c W f)) : PT X (.UnaryOp .Not a pos) (tTe c W (cTnot f)) := PT.imp (pt_not ha) fun σ H Q ⟨st, h, g, S, sl, q⟩ =>
  ⟨st, h, g, S, sl, RP.mono q.bind fun b H1 ⟨d, h1, g1, o1, S1, r1, q1⟩ => RP.ok_here (α := Bool) (β := Bool) (R := Rb) q1 S1 (by rw [show d = b from r1])⟩
def cTand (f k : Ev Bool) : Ev Bool := fun st h => (f st h).bind fun b h1 => if b = true then k st h1 else .ok false h1
def cTor (f k : Ev Bool) : Ev Bool := fun st h => (f st h).bind fun b h1 => if b = true then .ok true h1 else k st h1
theorem tand {f k : Ev Bool} {σ : L2.St} {H : Hp} {Q : Bool → Hp → Prop} (x : tTe c W (cTand f k) σ H Q) : tAnd (tTe c W f) (tTe c W k) σ H Q := by
  obtain ⟨st, h, g, S, sl, q⟩ := x
  refine ⟨st, h, g, S, sl, RP.mono q.bind fun b H1 ⟨d, h1, g1, o1, S1, r1, q1⟩ => ?_⟩
  have e : d = b := r1
  subst e
  cases d with
  | true => exact ⟨st, h1, g1, S1, sl.go o1, q1⟩
  | false => exact RP.ok_here (α := Bool) (β := Bool) (R := Rb) q1 S1 rfl
theorem tor {f k : Ev Bool} {σ : L2.St} {H : Hp} {Q : Bool → Hp → Prop} (x : tTe c W (cTor f k) σ H Q) : tOr (tTe c W f) (tTe c W k) σ H Q := by
  obtain ⟨st, h, g, S, sl, q⟩ := x
  refine ⟨st, h, g, S, sl, RP.mono q.bind fun b H1 ⟨d, h1, g1, o1, S1, r1, q1⟩ => ?_⟩
  have e : d = b := r1
  subst e
  cases d with
  | false => exact ⟨st, h1, g1, S1, sl.go o1, q1⟩
  | true => exact RP.ok_here (α := Bool) (β := Bool) (R := Rb) q1 S1 rfl
variable {a b : Expr} {rest : List Expr} {pos : Pos} {f k : Ev Bool}
theorem w_and1 (ha : PT X a (tTe c W f)) : PW X (.BoolOp .And [a] pos) (tTe c W f) := pw_and1 ha
theorem w_or1 (ha : PT X a (tTe c W f)) : PW X (.BoolOp .Or [a] pos) (tTe c W f) := pw_or1 ha
theorem w_and (ha : PT X a (tTe c W f)) (hb : PW X (.BoolOp .And (b :: rest) pos) (tTe c W k)) : PW X (.BoolOp .And (a :: b :: rest) pos) (tTe c W (cTand f k)) := PW.imp (pw_and ha hb) fun _ _ _ => tand
theorem w_or (ha : PT X a (tTe c W f)) (hb : PW X (.BoolOp .Or (b :: rest) pos) (tTe c W k)) : PW X (.BoolOp .Or (a :: b :: rest) pos) (tTe c W (cTor f k)) := PW.imp (pw_or ha hb) fun _ _ _ => tor
/-- and, or, not as values (True or False) -/
def cAnd (f k : Ev D) : Ev D := fun st h => (f st h).bind fun d h1 => match d with
  | .bl true => k st h1
  | .bl false => .ok (.bl false) h1
  | _ => .no
def cOr (f k : Ev D) : Ev D := fun st h => (f st h).bind fun d h1 => match d with
  | .bl false => k st h1
  | .bl true => .ok (.bl true) h1
  | _ => .no
def cNot (f : Ev D) : Ev D := fun st h => (f st h).bind fun d h1 => match d with
  | .bl b => .ok (.bl (!b)) h1
  | _ => .no
theorem e_one {op : BoolOp} {fa : Ev D} (ha : PE X a (tEv c W fa)) : PE X (.BoolOp op [a] pos) (tEv c W fa) := pe_one ha
theorem e_and {fa fb : Ev D} (ha : PE X a (tEv c W fa)) (hb : PE X (.BoolOp .And (b :: rest) pos) (tEv c W fb)) : PE X (.BoolOp .And (a :: b :: rest) pos) (tEv c W (cAnd fa fb)) := PE.imp (pe_and ha hb) fun σ H Q ⟨st, h, g, S, sl, q⟩ => by
  refine ⟨st, h, g, S, sl, RP.mono q.bind fun v1 H1 ⟨d1, h1, g1, o1, S1, r1, q1⟩ => ?_⟩
  cases r1 with
  | bl b =>
    refine ⟨b, rfl, ?_⟩
    cases b with
    | true => exact ⟨st, h1, g1, S1, sl.go o1, q1⟩
    | false => exact RP.ok_here q1 S1 (.bl false)
  | _ => exact q1.elim
theorem e_or {fa fb : Ev D} (ha : PE X a (tEv c W fa)) (hb : PE X (.BoolOp .Or (b :: rest) pos) (tEv c W fb)) : PE X (.BoolOp .Or (a :: b :: rest) pos) (tEv c W (cOr fa fb)) := PE.imp (pe_or ha hb) fun σ H Q ⟨st, h, g, S, sl, q⟩ => by
  refine ⟨st, h, g, S, sl, RP.mono q.bind fun v1 H1 ⟨d1, h1, g1, o1, S1, r1, q1⟩ => ?_⟩
  cases r1 with
  | bl b =>
    refine ⟨b, rfl, ?_⟩
    cases b with
    | false => exact ⟨st, h1, g1, S1, sl.go o1, q1⟩
    | true => exact RP.ok_here q1 S1 (.bl true)
  | _ => exact q1.elim
theorem e_not {fa : Ev D} (ha : PE X a (tEv c W fa)) : PE X (.UnaryOp .Not a pos) (tEv c W (cNot fa)) := PE.imp (pe_not ha) fun σ H Q ⟨st, h, g, S, sl, q⟩ => by
  refine ⟨st, h, g, S, sl, RP.mono q.bind fun v1 H1 ⟨d1, h1, g1, o1, S1, r1, q1⟩ => ?_⟩
  cases r1 with
  | bl b => exact ⟨b, rfl, RP.ok_here q1 S1 (.bl _)⟩
  | _ => exact q1.elim
def cIf (t : Ev Bool) (fa fb : Ev D) : Ev D := fun st h => (t st h).bind fun b h1 => if b = true then fa st h1 else fb st h1
theorem e_if {t : Expr} {ft : Ev Bool} {fa fb : Ev D} (ht : PT X t (tTe c W ft)) (ha : PE X a (tEv c W fa)) (hb : PE X b (tEv c W fb)) : PE X (.IfExp t a b pos) (tEv c W (cIf ft fa fb)) := PE.imp (pe_ifExp ht ha hb) fun σ H Q ⟨st, h, g, S, sl, q⟩ => by
  refine ⟨st, h, g, S, sl, RP.mono q.bind fun v1 H1 ⟨d1, h1, g1, o1, S1, r1, q1⟩ => ?_⟩
  have e : d1 = v1 := r1
  subst e
  cases d1 with
  | true => exact ⟨st, h1, g1, S1, sl.go o1, q1⟩
  | false => exact ⟨st, h1, g1, S1, sl.go o1, q1⟩
/-- a < b < c -/
def cChain (fo fo' : D → D → Store → Res D) (fa fb fc : Ev D) : Ev D := fun st h => (fa st h).bind fun a h1 => (fb st h1).bind fun b h2 => (fo a b h2).bind fun z h3 => match z with
  | .bl true => (fc st h3).bind fun d h4 => fo' b d h4
  | .bl false => .ok (.bl false) h3
  | _ => .no
variable {cc : Expr} {fo fo' : D → D → Store → Res D} {r r' : R2} {op op' : CmpOp} {fa fb fc : Ev D}
theorem evChain (hr : R2Ok c r fo) (hr' : R2Ok c r' fo') {σ : L2.St} {H : Hp} {Q : VK} (x : tEv c W (cChain fo fo' fa fb fc) σ H Q) : tChain r r' (tEv c W fa) (tEv c W fb) (tEv c W fc) σ H Q := by
  obtain ⟨st, h, g, S, sl, q⟩ := x
  refine ⟨st, h, g, S, sl, RP.mono q.bind fun v1 H1 ⟨d1, h1, g1, o1, S1, r1, q1⟩ => ?_⟩
  refine ⟨st, h1, g1, S1, sl.go o1, RP.mono q1.bind fun v2 H2 ⟨d2, h2, g2, o2, S2, r2, q2⟩ => ?_⟩
  refine hr g2 h2 H2 d1 v1 d2 v2 _ _ S2 (r1.mono o2.gx o2.len) r2 (RP.mono (RP.bind (R' := Rv c) q2) fun z H3 ⟨d3, h3, g3, o3, S3, r3, q3⟩ => ?_)
  cases r3 with
  | bl k =>
    refine ⟨k, rfl, ?_⟩
    cases k with
    | false => exact RP.ok_here q3 S3 (.bl false)
    | true =>
      refine ⟨st, h3, g3, S3, sl.go (o1.trans (o2.trans o3)), RP.mono q3.bind fun v4 H4 ⟨d4, h4, g4, o4, S4, r4, q4⟩ => ?_⟩
      exact hr' g4 h4 H4 d2 v2 d4 v4 _ _ S4 (r2.mono (o3.trans o4).gx (o3.trans o4).len) r4 q4
  | _ => exact q3.elim
theorem e_chain (ho : OpR X (compareOp op) r) (ho' : OpR X (compareOp op') r') (hr : R2Ok c r fo) (hr' : R2Ok c r' fo') (ha : PE X a (tEv c W fa)) (hb : PE X b (tEv c W fb)) (hc : PE X cc (tEv c W fc))
    (hm : lastMarks [op, op'] [b, cc] = false := by with_unfolding_all rfl) : PE X (.Compare a [op, op'] [b, cc] pos) (tEv c W (cChain fo fo' fa fb fc)) := PE.imp (pe_chain ho ho' ha hb hc hm) fun _ _ _ => evChain hr hr'
theorem t_chain (ho : OpR X (compareOp op) r) (ho' : OpR X (compareOp op') r') (hr : R2Ok c r fo) (hr' : R2Ok c r' fo') (ha : PE X a (tEv c W fa)) (hb : PE X b (tEv c W fb)) (hc : PE X cc (tEv c W fc))
    (hm : lastMarks [op, op'] [b, cc] = false := by with_unfolding_all rfl) : PT X (.Compare a [op, op'] [b, cc] pos) (tTe c W (cTv (cChain fo fo' fa fb fc))) := PT.imp (pt_chain ho ho' ha hb hc hm) fun _ _ _ x => evChain hr hr' (tv x)

/-! ### argument lists, displays -/
variable {e : Expr} {es : List Expr} {fe : Ev D} {fs : Ev (List D)}
def cNil : Ev (List D) := fun _ h => .ok [] h
def cCons (fe : Ev D) (fs : Ev (List D)) : Ev (List D) := fun st h => (fe st h).bind fun d h1 => (fs st h1).bind fun ds h2 => .ok (d :: ds) h2
theorem a_nil : PA X [] (tAr c W cNil) := PA.imp pa_nil fun σ H Q ⟨st, h, g, S, sl, q⟩ => RP.ok_here q S .nil
theorem a_cons (ha : PE X e (tEv c W fe)) (hr : PA X es (tAr c W fs)) (hs : starEach (e :: es) X.env = (false, eval e X.env) :: starEach es X.env := by rfl) : PA X (e :: es) (tAr c W (cCons fe fs)) := PA.imp (pa_cons ha hr hs) fun σ H Q ⟨st, h, g, S, sl, q⟩ => by
  refine ⟨st, h, g, S, sl, RP.mono q.bind fun v1 H1 ⟨d1, h1, g1, o1, S1, r1, q1⟩ => ?_⟩
  refine ⟨st, h1, g1, S1, sl.go o1, RP.mono q1.bind fun v2 H2 ⟨d2, h2, g2, o2, S2, r2, q2⟩ => ?_⟩
  exact RP.ok_here q2 S2 (.cons (r1.mono o2.gx o2.len) r2)
/-- a new list: a tree, or a cell -/
def alloc (m : Bool) (l : List D) (h : Store) : Res D := if m = true then .ok (.ref h.length) (h ++ [some (.lst l)]) else .ok (.lst l) h
theorem alloc_ok {m : Bool} {l : List D} {vs : List V} {g : Gh} {h : Store} {H : Hp} {Q : VK} {E : XK} (S : SR c g h H) (r : RVs c g h.length l vs) (q : RP c (Rv c) g h H (alloc m l h) Q E) : ∀ p, H p = none → Q (.ref p) (upd H p (.lst vs)) := fun p hp => by
  cases m with
  | false =>
    have q : RP c (Rv c) g h H (.ok (.lst l) h) Q E := q
    obtain ⟨S1, o1⟩ := S.tree (o := .lst vs) hp
    exact q _ _ _ o1 S1 (.lst upd_same (r.mono o1.gx (Nat.le_refl _)))
  | true =>
    have q : RP c (Rv c) g h H (.ok (.ref h.length) (h ++ [some (.lst l)])) Q E := q
    obtain ⟨S1, o1⟩ := S.push (o := .lst vs) (ce := .lst l) hp fun g' gx => ⟨vs, upd_same, r.mono gx (by simp)⟩
    have e : (g.push h.length p).io h.length = p := by
      show (if h.length = h.length then p else _) = p
      rw [if_pos rfl]
    have q2 := q _ _ (.ref ((g.push h.length p).io h.length)) o1 S1 (.ref (by simp))
    rw [e] at q2
    exact q2
def cTup (fs : Ev (List D)) : Ev D := fun st h => (fs st h).bind fun ds h1 => if ds.length ≤ sizeLine then .ok (.tup ds) h1 else .no
def cLst (m : Bool) (fs : Ev (List D)) : Ev D := fun st h => (fs st h).bind fun ds h1 => if ds.length ≤ sizeLine then alloc m ds h1 else .no
theorem e_tup {x1} (h : PA X es (tAr c W fs)) : PE X (.Tuple es x1 pos) (tEv c W (cTup fs)) := PE.imp (pe_tup h) fun σ H Q ⟨st, h, g, S, sl, q⟩ => by
  refine ⟨st, h, g, S, sl, RP.mono q.bind fun v1 H1 ⟨d1, h1, g1, o1, S1, r1, q1⟩ => ?_⟩
  split at q1
  · rename_i hl
    refine ⟨by rw [← r1.length]; exact hl, fun p hp => ?_⟩
    obtain ⟨S2, o2⟩ := S1.tree (o := .tup v1) hp
    exact q1 _ _ _ o2 S2 (.tup (.inl (.inl upd_same)) (r1.mono o2.gx (Nat.le_refl _)))
  · exact q1.elim
theorem e_lst {m : Bool} (h : PA X es (tAr c W fs)) : PE X (.List es pos) (tEv c W (cLst m fs)) := PE.imp (pe_lst h) fun σ H Q ⟨st, h, g, S, sl, q⟩ => by
  refine ⟨st, h, g, S, sl, RP.mono q.bind fun v1 H1 ⟨d1, h1, g1, o1, S1, r1, q1⟩ => ?_⟩
  split at q1
  · rename_i hl
    exact ⟨by rw [← r1.length]; exact hl, alloc_ok S1 r1 q1⟩
  · exact q1.elim

/-! ### calls of defs -/
/-- behind a call the cells that it made are let go, where nothing tells of them -/
def clean {α : Type} (lw : Nat → α → Bool) (n : Nat) (r : Res α) : Res α := match r with
  | .ok d h' => if lw n d = true ∧ (h'.take n).all (cellLw n) = true then .ok d (h'.take n) else .ok d h'
  | .exc e h' => if (e.pay.all fun p => p.2.lw n) = true ∧ (h'.take n).all (cellLw n) = true then .exc e (h'.take n) else .exc e h'
  | .no => .no
abbrev cleanD (n : Nat) (r : Res D) : Res D := clean (fun n d => d.lw n) n r
theorem RP.clean {g : Gh} {h : Store} {H : Hp} {r : Res D} {Q : VK} {E : XK} (q : RP c (Rv c) g h H (cleanD h.length r) Q E) : RP c (Rv c) g h H r Q E := by
  cases r with
  | ok d h' =>
    intro g' H' v o S rv
    have q : RP c (Rv c) g h H (if d.lw h.length = true ∧ (h'.take h.length).all (cellLw h.length) = true then .ok d (h'.take h.length) else .ok d h') Q E := q
    by_cases hc : d.lw h.length = true ∧ (h'.take h.length).all (cellLw h.length) = true
    · rw [if_pos hc] at q
      have e : (h'.take h.length).length = h.length := by rw [List.length_take]; have := o.len; omega
      exact q g' H' v o.take (S.take o.len hc.2) (by rw [e]; exact rv.low hc.1)
    · rw [if_neg hc] at q
      exact q g' H' v o S rv
  | exc e h' =>
    intro g' H' cls dd o S rv
    have q : RP c (Rv c) g h H (if (e.pay.all fun p => p.2.lw h.length) = true ∧ (h'.take h.length).all (cellLw h.length) = true then .exc e (h'.take h.length) else .exc e h') Q E := q
    by_cases hc : (e.pay.all fun p => p.2.lw h.length) = true ∧ (h'.take h.length).all (cellLw h.length) = true
    · rw [if_pos hc] at q
      have el : (h'.take h.length).length = h.length := by rw [List.length_take]; have := o.len; omega
      refine q g' H' cls dd o.take (S.take o.len hc.2) ?_
      obtain ⟨C, e1, e2, e3⟩ := rv
      refine ⟨C, e1, e2, ?_⟩
      cases hp : e.pay with
      | none => rw [hp] at e3; exact e3
      | some p =>
        rw [hp] at e3
        obtain ⟨fn, d⟩ := p
        obtain ⟨a, v, q1, q2, q3⟩ := e3
        have hb := hc.1
        rw [hp] at hb
        exact ⟨a, v, q1, q2, by rw [el]; exact q3.low hb⟩
    · rw [if_neg hc] at q
      exact q g' H' cls dd o S rv
  | no => exact q

abbrev FnT := List D → Store → Res D
/-- nothing is let out -/
theorem no_tk {X : Cx} : L2N.Takes X (fun _ _ _ _ => False) := fun _ _ z => by
  obtain ⟨_, _, _, _, _, _, _, _, _, _, _, _, _, _, _, _, y⟩ := z
  exact y.elim
/-- the promise of a def -/
def spOf (c : Cf) (F : FnT) : Sp := fun vs H Q E => ∃ ds h g, SR c g h H ∧ RVs c g h.length ds vs ∧ RP c (Rv c) g h H (F ds h) Q E
def cCall (F : FnT) (defs : List D) (fs : Ev (List D)) : Ev D := fun st h => (fs st h).bind fun ds h1 => F (ds ++ defs) h1
theorem e_call {k : Nat} {f : Addr} {fd : FuncData} {ps : List Str} {F : FnT} {defs : List D} {dvs : List V} {ds : List Value} {x : Str} {p : Pos} (G : FnOk X.prog X.w X.K X.mg X.base (L2N.CX X.prog X.w) k f fd ps (spOf c F)) (hr : Room k X.A) (hg : Gl X x) (hm : X.mg x = some (.ref f))
    (hk : PySem.W.keepIn X.K (.ref f) = true) (hb : L2.Binds X.K fd ps ds) (hd : Vals dvs ds) (rd : ∀ g L, RVs c g L defs dvs) (tk : L2N.Takes X W) (ha : PA X (e :: es) (tAr c W fs)) (hdb : (x == ("__debug__" : Str)) = false := by decide)
    (he : starEach (e :: es) X.env = (false, eval e X.env) :: starEach es X.env := by rfl) (hpl : (backTo pos (starEach es X.env)).any (·.1) = false := by rfl) :
    PE X (.Call (.Name x p) (e :: es) [] pos) (tEv c W (cCall F defs fs)) := PE.imp (pe_callSD (E := fun σ cls d H' => W cls d σ H') G hr hg hm hk hb hd (fun σ => L2N.passAt tk σ) ha hdb he hpl) fun σ H Q ⟨st, h, g, S, sl, q⟩ => by
  refine ⟨st, h, g, S, sl, RP.mono q.bind fun vs H1 ⟨ds, h1, g1, o1, S1, r1, q1⟩ => ?_⟩
  exact ⟨ds ++ defs, h1, g1, S1, r1.append (rd _ _), q1⟩
end
end Gm

/-! Gm3: operators. -/
namespace Gm
open PySem PySem.Spec PyProof.Rows L2

/-- a list that may be read: a tree's, a cell's -/
def asL (h : Store) : D → Option (List D)
  | .lst l => some l
  | .ref n => match h[n]? with
    | some (some (.lst l)) => some l
    | _ => none
  | _ => none
def asR (h : Store) : D → Option (List D)
  | .lst l => some l
  | .fro l => some l
  | .ref n => match h[n]? with
    | some (some (.lst l)) => some l
    | _ => none
  | _ => none
section
variable {c : Cf} {g : Gh} {h : Store} {H : Hp} {d : D} {v : V} {l : List D}
theorem asL_ok (S : SR c g h H) (r : RV c g h.length d v) (e : asL h d = some l) : ∃ a vs, v = .ref a ∧ H a = some (.lst vs) ∧ RVs c g h.length l vs := by
  cases r with
  | lst h1 r => cases e; exact ⟨_, _, rfl, S.sub _ _ h1, r⟩
  | @ref n hn =>
    unfold asL at e
    dsimp only at e
    split at e
    · rename_i l' e1
      cases e
      obtain ⟨vs, e2, r2⟩ := S.cell n _ e1
      exact ⟨_, vs, rfl, e2, r2⟩
    · cases e
  | _ => cases e
theorem asR_ok (S : SR c g h H) (r : RV c g h.length d v) (e : asR h d = some l) : ∃ a vs, v = .ref a ∧ SqL c.K H a vs ∧ RVs c g h.length l vs := by
  cases r with
  | lst h1 r => cases e; exact ⟨_, _, rfl, .inl (.inl (S.sub _ _ h1)), r⟩
  | fro h1 r => cases e; exact ⟨_, _, rfl, SqL.sub S.sub h1, r⟩
  | @ref n hn =>
    unfold asR at e
    dsimp only at e
    split at e
    · rename_i l' e1
      cases e
      obtain ⟨vs, e2, r2⟩ := S.cell n _ e1
      exact ⟨_, vs, rfl, .inl (.inl e2), r2⟩
    · cases e
  | _ => cases e
theorem RV.tup' (S : SR c g h H) (r : RV c g h.length (.tup l) v) : ∃ a vs, v = .ref a ∧ SqT c.K H a vs ∧ RVs c g h.length l vs := by
  cases r with
  | tup h1 r => exact ⟨_, _, rfl, SqT.sub S.sub h1, r⟩
end

/-! ### ints -/
def iop (ck : Int → Int → Bool) (f : Int → Int → Int) (x y : D) (h : Store) : Res D := match x, y with
  | .int i, .int j => if ck i j = true then .ok (.int (f i j)) h else .no
  | _, _ => .no
def bop (f : Int → Int → Bool) (x y : D) (h : Store) : Res D := match x, y with
  | .int i, .int j => .ok (.bl (f i j)) h
  | _, _ => .no
section
variable {c : Cf}
theorem iop_ok {C : Int → Int → Prop} {ck : Int → Int → Bool} {f : Int → Int → Int} (k : ∀ i j, ck i j = true → C i j) : R2Ok c (rI C fun i j => .int (f i j)) (iop ck f) := by
  intro g h H d1 v1 d2 v2 Q E S r1 r2 q
  cases r1 with
  | int i =>
    cases r2 with
    | int j =>
      have q : RP c (Rv c) g h H (if ck i j = true then .ok (.int (f i j)) h else .no) Q E := q
      by_cases hc : ck i j = true
      · rw [if_pos hc] at q
        exact ⟨i, j, rfl, rfl, k i j hc, q.ok_here S (.int _)⟩
      · rw [if_neg hc] at q
        exact q.elim
    | _ => exact q.elim
  | _ => exact q.elim
theorem iop0_ok {f : Int → Int → Int} : R2Ok c (rI0 fun i j => .int (f i j)) (iop (fun _ _ => true) f) := by
  intro g h H d1 v1 d2 v2 Q E S r1 r2 q
  cases r1 with
  | int i =>
    cases r2 with
    | int j => exact ⟨i, j, rfl, rfl, RP.ok_here (show RP c (Rv c) g h H (.ok (.int (f i j)) h) Q E from q) S (.int _)⟩
    | _ => exact q.elim
  | _ => exact q.elim
theorem bop_ok {f : Int → Int → Bool} : R2Ok c (rI0 fun i j => .bl (f i j)) (bop f) := by
  intro g h H d1 v1 d2 v2 Q E S r1 r2 q
  cases r1 with
  | int i =>
    cases r2 with
    | int j => exact ⟨i, j, rfl, rfl, RP.ok_here (show RP c (Rv c) g h H (.ok (.bl (f i j)) h) Q E from q) S (.bl _)⟩
    | _ => exact q.elim
  | _ => exact q.elim
theorem R2Ok.orL {r r' : R2} {fo : D → D → Store → Res D} (k : R2Ok c r fo) : R2Ok c (fun x y H Q => r x y H Q ∨ r' x y H Q) fo := fun g h H d1 v1 d2 v2 Q E S r1 r2 q => .inl (k g h H d1 v1 d2 v2 Q E S r1 r2 q)
end
abbrev oSub : D → D → Store → Res D := iop (fun _ _ => true) fun i j => i - j
def gMul (i j : Int) : Bool := Nat.ble (Builtin.Int.intBits i + Builtin.Int.intBits j) 134217728
abbrev oMul : D → D → Store → Res D := iop gMul fun i j => i * j
def gDiv (_ j : Int) : Bool := decide (0 < j) && decide (j.natAbs.log2 < 9000)
abbrev oDiv : D → D → Store → Res D := iop gDiv fun i j => i / j
def gMod (_ j : Int) : Bool := decide (0 < j)
abbrev oMod : D → D → Store → Res D := iop gMod fun i j => i % j
def gPow (i j : Int) : Bool := decide (0 ≤ j) && Nat.ble j.toNat 1000000 && Nat.ble i.natAbs 18446744073709551615
abbrev oPow : D → D → Store → Res D := iop gPow fun i j => i ^ j.toNat
def gShl (i j : Int) : Bool := decide (0 ≤ j) && Nat.ble (Builtin.Int.intBits i + j.toNat) 134217728
abbrev oShl : D → D → Store → Res D := iop gShl fun i j => i * 2 ^ j.toNat
def gShr (_ j : Int) : Bool := decide (0 ≤ j)
abbrev oShr : D → D → Store → Res D := iop gShr fun i j => i / 2 ^ j.toNat
abbrev oAnd : D → D → Store → Res D := iop (fun _ _ => true) Builtin.bitAnd
abbrev oOr : D → D → Store → Res D := iop (fun _ _ => true) Builtin.bitOr
abbrev oXor : D → D → Store → Res D := iop (fun _ _ => true) Builtin.bitXor
abbrev oLt : D → D → Store → Res D := bop fun i j => decide (i < j)
abbrev oLe : D → D → Store → Res D := bop fun i j => decide (i ≤ j)
abbrev oGt : D → D → Store → Res D := bop fun i j => decide (j < i)
abbrev oGe : D → D → Store → Res D := bop fun i j => decide (j ≤ i)
section
variable {c : Cf} {W : WX} {X : Cx} {a b cc : Expr} {fa fb fc : Ev D} {pos : Pos}
theorem b_sub (ha : PE X a (tEv c W fa)) (hb : PE X b (tEv c W fb)) : PE X (.BinOp a .Sub b pos) (tEv c W (cBin oSub fa fb)) := e_bin op_sub iop0_ok ha hb
theorem gMul_ok (i j : Int) (h : gMul i j = true) : CMulX i j := by
  have := Nat.le_of_ble_eq_true h
  unfold CMulX
  omega
theorem b_mul (ha : PE X a (tEv c W fa)) (hb : PE X b (tEv c W fb)) : PE X (.BinOp a .Mult b pos) (tEv c W (cBin oMul fa fb)) := e_bin op_mulX (iop_ok gMul_ok) ha hb
theorem gDiv_ok (i j : Int) (h : gDiv i j = true) : CDivW i j := by
  simp only [gDiv, Bool.and_eq_true, decide_eq_true_eq] at h
  exact h
theorem b_div (ha : PE X a (tEv c W fa)) (hb : PE X b (tEv c W fb)) : PE X (.BinOp a .FloorDiv b pos) (tEv c W (cBin oDiv fa fb)) := e_bin op_fdivW (iop_ok gDiv_ok) ha hb
theorem b_mod (ha : PE X a (tEv c W fa)) (hb : PE X b (tEv c W fb)) : PE X (.BinOp a .Mod b pos) (tEv c W (cBin oMod fa fb)) := e_bin op_mod (iop_ok fun i j h => of_decide_eq_true h) ha hb
theorem b_pow (ha : PE X a (tEv c W fa)) (hb : PE X b (tEv c W fb)) : PE X (.BinOp a .Pow b pos) (tEv c W (cBin oPow fa fb)) := e_bin op_pow (iop_ok fun i j h => by
  simp only [gPow, Bool.and_eq_true, decide_eq_true_eq] at h
  have h1 := Nat.le_of_ble_eq_true h.1.2
  have h2 := Nat.le_of_ble_eq_true h.2
  exact ⟨h.1.1, by omega, Nat.lt_of_le_of_lt h2 (by decide)⟩) ha hb
theorem gShl_ok (i j : Int) (h : gShl i j = true) : CShl i j := by
  simp only [gShl, Bool.and_eq_true, decide_eq_true_eq] at h
  have h1 := Nat.le_of_ble_eq_true h.2
  exact ⟨h.1, by omega⟩
theorem b_shl (ha : PE X a (tEv c W fa)) (hb : PE X b (tEv c W fb)) : PE X (.BinOp a .LShift b pos) (tEv c W (cBin oShl fa fb)) := e_bin op_shlW (iop_ok gShl_ok) ha hb
theorem b_shr (ha : PE X a (tEv c W fa)) (hb : PE X b (tEv c W fb)) : PE X (.BinOp a .RShift b pos) (tEv c W (cBin oShr fa fb)) := e_bin op_shr (iop_ok fun i j h => of_decide_eq_true h) ha hb
theorem b_and (ha : PE X a (tEv c W fa)) (hb : PE X b (tEv c W fb)) : PE X (.BinOp a .BitAnd b pos) (tEv c W (cBin oAnd fa fb)) := e_bin op_and iop0_ok ha hb
theorem b_or (ha : PE X a (tEv c W fa)) (hb : PE X b (tEv c W fb)) : PE X (.BinOp a .BitOr b pos) (tEv c W (cBin oOr fa fb)) := e_bin op_or iop0_ok ha hb
theorem b_xor (ha : PE X a (tEv c W fa)) (hb : PE X b (tEv c W fb)) : PE X (.BinOp a .BitXor b pos) (tEv c W (cBin oXor fa fb)) := e_bin op_xor iop0_ok ha hb
theorem e_lt (ha : PE X a (tEv c W fa)) (hb : PE X b (tEv c W fb)) : PE X (.Compare a [.Lt] [b] pos) (tEv c W (cBin oLt fa fb)) := e_cmp op_lt bop_ok ha hb (nomark _)
theorem e_le (ha : PE X a (tEv c W fa)) (hb : PE X b (tEv c W fb)) : PE X (.Compare a [.LtE] [b] pos) (tEv c W (cBin oLe fa fb)) := e_cmp op_le bop_ok ha hb (nomark _)
theorem e_gt (ha : PE X a (tEv c W fa)) (hb : PE X b (tEv c W fb)) : PE X (.Compare a [.Gt] [b] pos) (tEv c W (cBin oGt fa fb)) := e_cmp op_gt bop_ok ha hb (nomark _)
theorem e_ge (ha : PE X a (tEv c W fa)) (hb : PE X b (tEv c W fb)) : PE X (.Compare a [.GtE] [b] pos) (tEv c W (cBin oGe fa fb)) := e_cmp op_ge bop_ok ha hb (nomark _)
theorem t_lt (ha : PE X a (tEv c W fa)) (hb : PE X b (tEv c W fb)) : PT X (.Compare a [.Lt] [b] pos) (tTe c W (cTv (cBin oLt fa fb))) := t_cmp op_lt bop_ok ha hb (nomark _)
theorem t_le (ha : PE X a (tEv c W fa)) (hb : PE X b (tEv c W fb)) : PT X (.Compare a [.LtE] [b] pos) (tTe c W (cTv (cBin oLe fa fb))) := t_cmp op_le bop_ok ha hb (nomark _)
theorem t_gt (ha : PE X a (tEv c W fa)) (hb : PE X b (tEv c W fb)) : PT X (.Compare a [.Gt] [b] pos) (tTe c W (cTv (cBin oGt fa fb))) := t_cmp op_gt bop_ok ha hb (nomark _)
theorem t_ge (ha : PE X a (tEv c W fa)) (hb : PE X b (tEv c W fb)) : PT X (.Compare a [.GtE] [b] pos) (tTe c W (cTv (cBin oGe fa fb))) := t_cmp op_ge bop_ok ha hb (nomark _)
theorem e_le_lt (ha : PE X a (tEv c W fa)) (hb : PE X b (tEv c W fb)) (hc : PE X cc (tEv c W fc)) (hm : lastMarks [.LtE, .Lt] [b, cc] = false := by with_unfolding_all rfl) : PE X (.Compare a [.LtE, .Lt] [b, cc] pos) (tEv c W (cChain oLe oLt fa fb fc)) := e_chain op_le op_lt bop_ok bop_ok ha hb hc hm
theorem e_le_le (ha : PE X a (tEv c W fa)) (hb : PE X b (tEv c W fb)) (hc : PE X cc (tEv c W fc)) (hm : lastMarks [.LtE, .LtE] [b, cc] = false := by with_unfolding_all rfl) : PE X (.Compare a [.LtE, .LtE] [b, cc] pos) (tEv c W (cChain oLe oLe fa fb fc)) := e_chain op_le op_le bop_ok bop_ok ha hb hc hm
theorem e_lt_le (ha : PE X a (tEv c W fa)) (hb : PE X b (tEv c W fb)) (hc : PE X cc (tEv c W fc)) (hm : lastMarks [.Lt, .LtE] [b, cc] = false := by with_unfolding_all rfl) : PE X (.Compare a [.Lt, .LtE] [b, cc] pos) (tEv c W (cChain oLt oLe fa fb fc)) := e_chain op_lt op_le bop_ok bop_ok ha hb hc hm
theorem t_le_lt (ha : PE X a (tEv c W fa)) (hb : PE X b (tEv c W fb)) (hc : PE X cc (tEv c W fc)) (hm : lastMarks [.LtE, .Lt] [b, cc] = false := by with_unfolding_all rfl) : PT X (.Compare a [.LtE, .Lt] [b, cc] pos) (tTe c W (cTv (cChain oLe oLt fa fb fc))) := t_chain op_le op_lt bop_ok bop_ok ha hb hc hm
theorem t_le_le (ha : PE X a (tEv c W fa)) (hb : PE X b (tEv c W fb)) (hc : PE X cc (tEv c W fc)) (hm : lastMarks [.LtE, .LtE] [b, cc] = false := by with_unfolding_all rfl) : PT X (.Compare a [.LtE, .LtE] [b, cc] pos) (tTe c W (cTv (cChain oLe oLe fa fb fc))) := t_chain op_le op_le bop_ok bop_ok ha hb hc hm
theorem t_lt_le (ha : PE X a (tEv c W fa)) (hb : PE X b (tEv c W fb)) (hc : PE X cc (tEv c W fc)) (hm : lastMarks [.Lt, .LtE] [b, cc] = false := by with_unfolding_all rfl) : PT X (.Compare a [.Lt, .LtE] [b, cc] pos) (tTe c W (cTv (cChain oLt oLe fa fb fc))) := t_chain op_lt op_le bop_ok bop_ok ha hb hc hm
/-- -a -/
def cNeg (fa : Ev D) : Ev D := fun st h => (fa st h).bind fun d h1 => match d with
  | .int i => .ok (.int (-i)) h1
  | _ => .no
theorem e_neg (ha : PE X a (tEv c W fa)) : PE X (.UnaryOp .USub a pos) (tEv c W (cNeg fa)) := PE.imp (pe_un un_neg ha) fun σ H Q ⟨st, h, g, S, sl, q⟩ => by
  refine ⟨st, h, g, S, sl, RP.mono q.bind fun v1 H1 ⟨d1, h1, g1, o1, S1, r1, q1⟩ => ?_⟩
  cases r1 with
  | int i => exact ⟨i, rfl, RP.ok_here q1 S1 (.int _)⟩
  | _ => exact q1.elim
/-- is None -/
def D.isNon : D → Bool
  | .non => true
  | _ => false
def oIsN (x y : D) (h : Store) : Res D := match y with
  | .non => .ok (.bl x.isNon) h
  | _ => .no
def oNotN (x y : D) (h : Store) : Res D := match y with
  | .non => .ok (.bl (!x.isNon)) h
  | _ => .no
theorem RV.non_iff {g : Gh} {L : Nat} {d : D} {v : V} (r : RV c g L d v) : decide (v = .non) = d.isNon := by
  cases r <;> first | rfl | (refine decide_eq_false ?_; intro z; cases z)
theorem oIsN_ok : R2Ok c (fun x y H Q => y = .non ∧ Q (.bl (decide (x = .non))) H) oIsN := by
  intro g h H d1 v1 d2 v2 Q E S r1 r2 q
  cases r2 with
  | non => exact ⟨rfl, by rw [r1.non_iff]; exact RP.ok_here (show RP c (Rv c) g h H (.ok (.bl _) h) Q E from q) S (.bl _)⟩
  | _ => exact q.elim
theorem oNotN_ok : R2Ok c (fun x y H Q => y = .non ∧ Q (.bl (!decide (x = .non))) H) oNotN := by
  intro g h H d1 v1 d2 v2 Q E S r1 r2 q
  cases r2 with
  | non => exact ⟨rfl, by rw [r1.non_iff]; exact RP.ok_here (show RP c (Rv c) g h H (.ok (.bl _) h) Q E from q) S (.bl _)⟩
  | _ => exact q.elim
theorem e_isN (ha : PE X a (tEv c W fa)) (hb : PE X b (tEv c W fb)) : PE X (.Compare a [.Is] [b] pos) (tEv c W (cBin oIsN fa fb)) := e_cmp op_isN oIsN_ok ha hb (nomark _)
theorem e_notN (ha : PE X a (tEv c W fa)) (hb : PE X b (tEv c W fb)) : PE X (.Compare a [.IsNot] [b] pos) (tEv c W (cBin oNotN fa fb)) := e_cmp op_notN oNotN_ok ha hb (nomark _)
theorem t_isN (ha : PE X a (tEv c W fa)) (hb : PE X b (tEv c W fb)) : PT X (.Compare a [.Is] [b] pos) (tTe c W (cTv (cBin oIsN fa fb))) := t_cmp op_isN oIsN_ok ha hb (nomark _)
theorem t_notN (ha : PE X a (tEv c W fa)) (hb : PE X b (tEv c W fb)) : PT X (.Compare a [.IsNot] [b] pos) (tTe c W (cTv (cBin oNotN fa fb))) := t_cmp op_notN oNotN_ok ha hb (nomark _)

/-! ### == -/
def D.py (h : Store) : Nat → D → Option PyData
  | 0, _ => none
  | n + 1, d => match d with
    | .non => some .none
    | .bl b => some (.bool b)
    | .int i => some (.int i)
    | .str x => some (.str x)
    | .tup l => (l.mapM (D.py h n)).map .tuple
    | .lst l => (l.mapM (D.py h n)).map .list
    | .fro l => (l.mapM (D.py h n)).map .list
    | .ref m => match h[m]? with
      | some (some (.lst l)) => (l.mapM (D.py h n)).map .list
      | _ => none
    | _ => none
theorem py_all {c : Cf} {g : Gh} {h : Store} {H : Hp} {n : Nat} (S : SR c g h H) (ih : ∀ d v p, RV c g h.length d v → D.py h n d = some p → Dp c.K H v p) :
    ∀ {l : List D} {vs : List V} {ps : List PyData}, RVs c g h.length l vs → l.mapM (D.py h n) = some ps → DpAll c.K H vs ps
  | _, _, ps, .nil, e => by
    have e : some [] = some ps := e
    cases e
    exact .nil
  | _, _, ps, .cons (d := d) (ds := ds) r rs, e => by
    rw [List.mapM_cons] at e
    cases e1 : D.py h n d with
    | none => rw [e1] at e; cases e
    | some p =>
      rw [e1] at e
      cases e2 : ds.mapM (D.py h n) with
      | none => rw [e2] at e; cases e
      | some qs =>
        rw [e2] at e
        have e : some (p :: qs) = some ps := e
        cases e
        exact .cons (ih _ _ _ r e1) (py_all S ih rs e2)
theorem py_ok {c : Cf} {g : Gh} {h : Store} {H : Hp} (S : SR c g h H) : ∀ (n : Nat) d v p, RV c g h.length d v → D.py h n d = some p → Dp c.K H v p := by
  intro n
  induction n with
  | zero => intro d v p r e; cases e
  | succ n ih =>
    intro d v p r e
    have lm : ∀ {l : List D} {vs : List V} {f : List PyData → PyData}, RVs c g h.length l vs → (l.mapM (D.py h n)).map f = some p → ∃ ps, p = f ps ∧ DpAll c.K H vs ps := fun {l vs f} rs e => by
      cases e2 : l.mapM (D.py h n) with
      | none => rw [e2] at e; cases e
      | some qs =>
        rw [e2] at e
        exact ⟨qs, (Option.some.inj e).symm, py_all S ih rs e2⟩
    cases r with
    | non => cases e; exact .non
    | bl b => cases e; exact .bl b
    | int b => cases e; exact .int b
    | str b => cases e; exact .str b
    | tup h1 rs =>
      obtain ⟨ps, rfl, z⟩ := lm (f := .tuple) rs e
      exact .tup (SqT.sub S.sub h1) z
    | lst h1 rs =>
      obtain ⟨ps, rfl, z⟩ := lm (f := .list) rs e
      exact .lst (.inl (.inl (S.sub _ _ h1))) z
    | fro h1 rs =>
      obtain ⟨ps, rfl, z⟩ := lm (f := .list) rs e
      exact .lst (SqL.sub S.sub h1) z
    | @ref m hm =>
      unfold D.py at e
      dsimp only at e
      split at e
      · rename_i l e1
        obtain ⟨vs, e2, r2⟩ := S.cell m _ e1
        obtain ⟨ps, rfl, z⟩ := lm (f := .list) r2 e
        exact .lst (.inl (.inl e2)) z
      · cases e
    | _ => cases e
/-- == as a Bool, where it is known -/
def eqD (h : Store) (x y : D) : Option Bool := match x, y with
  | .int i, .int j => some (i == j)
  | .str i, .str j => some (decide (i = j))
  | .bl i, .bl j => some (i == j)
  | .non, .non => some true
  | .non, .int _ => some false
  | .int _, .non => some false
  | .non, .str _ => some false
  | .str _, .non => some false
  | .int _, .str _ => some false
  | .str _, .int _ => some false
  | x, y => match D.py h 40 x, D.py h 40 y with
    | some p, some q => if SeqAt.shaped p = true ∧ SeqAt.shaped q = true then some (PyData.eqv p q) else none
    | _, _ => none
def oEq (x y : D) (h : Store) : Res D := match eqD h x y with
  | some b => .ok (.bl b) h
  | none => .no
def oNe (x y : D) (h : Store) : Res D := match eqD h x y with
  | some b => .ok (.bl (!b)) h
  | none => .no
theorem eqD_ok {g : Gh} {h : Store} {H : Hp} {x y : D} {v w : V} {b : Bool} (S : SR c g h H) (r1 : RV c g h.length x v) (r2 : RV c g h.length y w) (e : eqD h x y = some b) :
    (scal v w = true ∧ decide (v = w) = b) ∨ ∃ d e, Dp c.K H v d ∧ Dp c.K H w e ∧ SeqAt.shaped d = true ∧ SeqAt.shaped e = true ∧ PyData.eqv d e = b := by
  unfold eqD at e
  split at e
  · cases r1; cases r2; cases e; exact .inl ⟨rfl, dec_int⟩
  · rename_i i j
    cases r1; cases r2; cases e
    refine .inl ⟨rfl, ?_⟩
    rw [dec_str]
    exact Bool.beq_eq_decide_eq i j
  · cases r1; cases r2; cases e; exact .inl ⟨rfl, dec_bl⟩
  · cases r1; cases r2; cases e; exact .inl ⟨rfl, rfl⟩
  · cases r1; cases r2; cases e; exact .inl ⟨rfl, rfl⟩
  · cases r1; cases r2; cases e; exact .inl ⟨rfl, rfl⟩
  · cases r1; cases r2; cases e; exact .inl ⟨rfl, rfl⟩
  · cases r1; cases r2; cases e; exact .inl ⟨rfl, rfl⟩
  · cases r1; cases r2; cases e; exact .inl ⟨rfl, rfl⟩
  · cases r1; cases r2; cases e; exact .inl ⟨rfl, rfl⟩
  · split at e
    · rename_i p q e1 e2
      split at e
      · rename_i hs
        cases e
        exact .inr ⟨p, q, py_ok S _ _ _ _ r1 e1, py_ok S _ _ _ _ r2 e2, hs.1, hs.2, rfl⟩
      · cases e
    · cases e
theorem oEq_ok : R2Ok c (fun x y H Q => rEq x y H Q ∨ rEqD c.K x y H Q) oEq := by
  intro g h H d1 v1 d2 v2 Q E S r1 r2 q
  unfold oEq at q
  cases e : eqD h d1 d2 with
  | none => rw [e] at q; exact q.elim
  | some b =>
    rw [e] at q
    have q2 : Q (.bl b) H := RP.ok_here q S (.bl b)
    rcases eqD_ok S r1 r2 e with ⟨h1, h2⟩ | ⟨d, e, h1, h2, h3, h4, h5⟩
    · exact .inl ⟨h1, by rw [h2]; exact q2⟩
    · exact .inr ⟨d, e, h1, h2, h3, h4, by rw [h5]; exact q2⟩
theorem oNe_ok : R2Ok c (fun x y H Q => rNe x y H Q ∨ rNeD c.K x y H Q) oNe := by
  intro g h H d1 v1 d2 v2 Q E S r1 r2 q
  unfold oNe at q
  cases e : eqD h d1 d2 with
  | none => rw [e] at q; exact q.elim
  | some b =>
    rw [e] at q
    have q2 : Q (.bl (!b)) H := RP.ok_here q S (.bl _)
    rcases eqD_ok S r1 r2 e with ⟨h1, h2⟩ | ⟨d, e, h1, h2, h3, h4, h5⟩
    · exact .inl ⟨h1, by rw [h2]; exact q2⟩
    · exact .inr ⟨d, e, h1, h2, h3, h4, by rw [h5]; exact q2⟩
theorem e_eq (hk : c.K = X.K) (hu : X.A.units + 64 < cLine) (ha : PE X a (tEv c W fa)) (hb : PE X b (tEv c W fb)) : PE X (.Compare a [.Eq] [b] pos) (tEv c W (cBin oEq fa fb)) := e_cmp (OpR.or op_eq (op_eqD hu)) (by rw [← hk]; exact oEq_ok) ha hb (nomark _)
theorem e_ne (hk : c.K = X.K) (hu : X.A.units + 64 < cLine) (ha : PE X a (tEv c W fa)) (hb : PE X b (tEv c W fb)) : PE X (.Compare a [.NotEq] [b] pos) (tEv c W (cBin oNe fa fb)) := e_cmp (OpR.or op_ne (op_neD hu)) (by rw [← hk]; exact oNe_ok) ha hb (nomark _)
theorem t_eq (hk : c.K = X.K) (hu : X.A.units + 64 < cLine) (ha : PE X a (tEv c W fa)) (hb : PE X b (tEv c W fb)) : PT X (.Compare a [.Eq] [b] pos) (tTe c W (cTv (cBin oEq fa fb))) := t_cmp (OpR.or op_eq (op_eqD hu)) (by rw [← hk]; exact oEq_ok) ha hb (nomark _)
theorem t_ne (hk : c.K = X.K) (hu : X.A.units + 64 < cLine) (ha : PE X a (tEv c W fa)) (hb : PE X b (tEv c W fb)) : PT X (.Compare a [.NotEq] [b] pos) (tTe c W (cTv (cBin oNe fa fb))) := t_cmp (OpR.or op_ne (op_neD hu)) (by rw [← hk]; exact oNe_ok) ha hb (nomark _)
end
end Gm

/-! Gm4: statements, loops, defs. -/
namespace Gm
open PySem PySem.Spec PyProof.Rows L2

inductive Out where
  | next (st : Slots) (h : Store)
  | ret (d : D) (h : Store)
  | brk (st : Slots) (h : Store)
  | cont (st : Slots) (h : Store)
  | exc (e : Exn) (st : Slots) (h : Store)
  | no
abbrev Ss := Slots → Store → Out

/-- what is wanted behind a statement -/
def OP (c : Cf) (g : Gh) (h : Store) (H : Hp) (o : Out) (D : Ends) (W : WX) : Prop :=
  match o with
  | .next st h' => ∀ g' H' σ, Go g h H g' h' H' → SR c g' h' H' → SL c g' h'.length st σ → D.nx σ H'
  | .ret d h' => ∀ g' H' v, Go g h H g' h' H' → SR c g' h' H' → RV c g' h'.length d v → D.rt v H'
  | .brk st h' => ∀ g' H' σ, Go g h H g' h' H' → SR c g' h' H' → SL c g' h'.length st σ → D.bk σ H'
  | .cont st h' => ∀ g' H' σ, Go g h H g' h' H' → SR c g' h' H' → SL c g' h'.length st σ → D.ct σ H'
  | .exc e st h' => ∀ g' H' σ cls dd, Go g h H g' h' H' → SR c g' h' H' → SL c g' h'.length st σ → RX c g' h'.length e cls dd → W cls dd σ H'
  | .no => False
theorem OP.go {c : Cf} {g g1 : Gh} {h h1 : Store} {H H1 : Hp} {o : Out} {D : Ends} {W : WX} (x : OP c g h H o D W) (y : Go g h H g1 h1 H1) : OP c g1 h1 H1 o D W := by
  cases o with
  | next st h' => exact fun g' H' σ z s l => x g' H' σ (y.trans z) s l
  | ret d h' => exact fun g' H' σ z s l => x g' H' σ (y.trans z) s l
  | brk st h' => exact fun g' H' σ z s l => x g' H' σ (y.trans z) s l
  | cont st h' => exact fun g' H' σ z s l => x g' H' σ (y.trans z) s l
  | exc e st h' => exact fun g' H' σ cls dd z s l r => x g' H' σ cls dd (y.trans z) s l r
  | no => exact x
def tSt (c : Cf) (W : WX) (f : Ss) : TS := fun D σ H => ∃ st h g, SR c g h H ∧ SL c g h.length st σ ∧ OP c g h H (f st h) D W
/-- an expression ahead of a statement's rest -/
def Res.out {α : Type} (r : Res α) (st : Slots) (k : α → Store → Out) : Out := match r with
  | .ok a h => k a h
  | .exc e h => .exc e st h
  | .no => .no
@[simp] theorem Res.out_ok {α : Type} (a : α) (h : Store) (st : Slots) (k : α → Store → Out) : (Res.ok a h).out st k = k a h := rfl
@[simp] theorem Res.out_exc {α : Type} (e : Exn) (h : Store) (st : Slots) (k : α → Store → Out) : (Res.exc e h : Res α).out st k = .exc e st h := rfl
@[simp] theorem Res.out_no {α : Type} (st : Slots) (k : α → Store → Out) : (Res.no : Res α).out st k = .no := rfl
theorem OP.out {c : Cf} {α β : Type} {R : Gh → Nat → α → β → Prop} {g : Gh} {h : Store} {H : Hp} {st : Slots} {σ : L2.St} {r : Res α} {k : α → Store → Out} {D : Ends} {W : WX} (sl : SL c g h.length st σ) (x : OP c g h H (r.out st k) D W) :
    RP c R g h H r (fun (v : β) H1 => ∃ d h1 g1, Go g h H g1 h1 H1 ∧ SR c g1 h1 H1 ∧ R g1 h1.length d v ∧ OP c g1 h1 H1 (k d h1) D W) (fun cls dd H' => W cls dd σ H') := by
  cases r with
  | ok a h' => exact fun g' H' v o s r => ⟨a, h', g', o, s, r, OP.go (o := k a h') x o⟩
  | exc e h' => exact fun g' H' cls dd o s r => x g' H' σ cls dd o s (sl.go o) r
  | no => exact x
/-- one statement, then the rest -/
def Out.seq (o : Out) (k : Ss) : Out := match o with
  | .next st h => k st h
  | o => o
section
variable {c : Cf} {W : WX} {X : Cx} {pos : Pos}
def sNil : Ss := fun st h => .next st h
def sSeq (f k : Ss) : Ss := fun st h => (f st h).seq k
variable {s : Stmt} {ss : List Stmt} {f k : Ss} {e : Expr} {fe : Ev D}
theorem ss_nil : PSs X [] (tSt c W sNil) := PSs.imp pss_nil fun D σ H ⟨st, h, g, S, sl, q⟩ => q g H σ (Go.refl _ _ _) S sl
theorem ss_one (h : PS X s (tSt c W f)) : PSs X [s] (tSt c W f) := pss_one h
theorem ss_cons (h1 : PS X s (tSt c W f)) (h2 : PSs X ss (tSt c W k)) : PSs X (s :: ss) (tSt c W (sSeq f k)) := PSs.imp (pss_cons h1 h2) fun D σ H ⟨st, h, g, S, sl, q⟩ => by
  refine ⟨st, h, g, S, sl, ?_⟩
  unfold sSeq at q
  cases e : f st h with
  | next st' h' =>
    rw [e] at q
    exact fun g' H' σ' o S' sl' => ⟨st', h', g', S', sl', OP.go (o := k st' h') q o⟩
  | ret d h' => rw [e] at q; exact q
  | brk st' h' => rw [e] at q; exact q
  | cont st' h' => rw [e] at q; exact q
  | exc ee st' h' => rw [e] at q; exact q
  | no => rw [e] at q; exact q
theorem s_pass : PS X (.Pass pos) (tSt c W sNil) := PS.imp ps_pass fun D σ H ⟨st, h, g, S, sl, q⟩ => q g H σ (Go.refl _ _ _) S sl
def sBrk : Ss := fun st h => .brk st h
def sCont : Ss := fun st h => .cont st h
theorem s_brk : PS X (.Break pos) (tSt c W sBrk) := PS.imp ps_break fun D σ H ⟨st, h, g, S, sl, q⟩ => q g H σ (Go.refl _ _ _) S sl
theorem s_cont : PS X (.Continue pos) (tSt c W sCont) := PS.imp ps_continue fun D σ H ⟨st, h, g, S, sl, q⟩ => q g H σ (Go.refl _ _ _) S sl
/-- a statement that is never come to -/
def sNo : Ss := fun _ _ => .no
theorem s_no : PS X s (tSt c W sNo) := PS.imp ps_never fun D σ H ⟨st, h, g, S, sl, q⟩ => q.elim
def sExpr (fe : Ev D) : Ss := fun st h => (fe st h).out st fun _ h1 => .next st h1
theorem s_expr (he : PE X e (tEv c W fe)) (hs : swapsWith e none pos.line X.env = pure false := by rfl) : PS X (.Expr e pos) (tSt c W (sExpr fe)) := PS.imp (ps_expr he hs) fun D σ H ⟨st, h, g, S, sl, q⟩ =>
  ⟨st, h, g, S, sl, RP.mono (OP.out sl q) fun v H1 ⟨d, h1, g1, o1, S1, r1, q1⟩ => q1 g1 H1 σ (Go.refl _ _ _) S1 (sl.go o1)⟩
def sRet (fe : Ev D) : Ss := fun st h => (fe st h).out st fun d h1 => .ret d h1
theorem s_ret (he : PE X e (tEv c W fe)) : PS X (.Return (some e) pos) (tSt c W (sRet fe)) := PS.imp (ps_ret he) fun D σ H ⟨st, h, g, S, sl, q⟩ =>
  ⟨st, h, g, S, sl, RP.mono (OP.out sl q) fun v H1 ⟨d, h1, g1, o1, S1, r1, q1⟩ => q1 g1 H1 v (Go.refl _ _ _) S1 r1⟩
def sRetN : Ss := fun st h => .ret .non h
theorem s_retN : PS X (.Return none pos) (tSt c W sRetN) := PS.imp ps_retN fun D σ H ⟨st, h, g, S, sl, q⟩ => q g H .non (Go.refl _ _ _) S .non
def sIf (t : Ev Bool) (f k : Ss) : Ss := fun st h => (t st h).out st fun b h1 => if b = true then f st h1 else k st h1
theorem s_if {t : Expr} {ft : Ev Bool} {a b : List Stmt} (ht : PT X t (tTe c W ft)) (ha : PSs X a (tSt c W f)) (hb : PSs X b (tSt c W k)) : PS X (.If t a b pos) (tSt c W (sIf ft f k)) := PS.imp (ps_if ht ha hb) fun D σ H ⟨st, h, g, S, sl, q⟩ =>
  ⟨st, h, g, S, sl, RP.mono (OP.out (R := Rb) sl q) fun v H1 ⟨d, h1, g1, o1, S1, r1, q1⟩ => by
    have e : d = v := r1
    subst e
    cases d with
    | true => exact ⟨st, h1, g1, S1, sl.go o1, q1⟩
    | false => exact ⟨st, h1, g1, S1, sl.go o1, q1⟩⟩

/-! ### targets -/
abbrev Tg := D → Slots → Store → Option (Slots × Store)
def tGt (c : Cf) (f : Tg) : TG := fun v σ H Q => ∃ d st h g, SR c g h H ∧ SL c g h.length st σ ∧ RV c g h.length d v ∧
  match f d st h with
  | some (st', h') => ∀ g' H' σ', Go g h H g' h' H' → SR c g' h' H' → SL c g' h'.length st' σ' → Q σ' H'
  | none => False
theorem PG.imp {e : Expr} {t t' : TG} (p : PG X e t) (k : ∀ v σ H Q, t' v σ H Q → t v σ H Q) : PG X e t' := ⟨fun pins s σ H v u Q I r h => p.run pins s σ H v u Q I r (k v σ H Q h)⟩
def gtName (i : Nat) : Tg := fun d st h => some (st.set i (some d), h)
theorem g_name {i : Nat} {e : Expr} (p : PG X e (gName i)) : PG X e (tGt c (gtName i)) := PG.imp p fun v σ H Q ⟨d, st, h, g, S, sl, r, q⟩ => q g H _ (Go.refl _ _ _) S (sl.set i r)
/-- several targets -/
abbrev Tgs := List D → Slots → Store → Option (Slots × Store)
def tGs (c : Cf) (f : Tgs) : TGs := fun vs σ H Q => ∃ ds st h g, SR c g h H ∧ SL c g h.length st σ ∧ RVs c g h.length ds vs ∧
  match f ds st h with
  | some (st', h') => ∀ g' H' σ', Go g h H g' h' H' → SR c g' h' H' → SL c g' h'.length st' σ' → Q σ' H'
  | none => False
theorem PGs.imp {e : List Expr} {t t' : TGs} (p : PGs X e t) (k : ∀ v σ H Q, t' v σ H Q → t v σ H Q) : PGs X e t' := ⟨fun pins s σ H v u Q I r h => p.run pins s σ H v u Q I r (k v σ H Q h)⟩
def gtNil : Tgs := fun ds st h => match ds with
  | [] => some (st, h)
  | _ => none
def gtCons (f : Tg) (k : Tgs) : Tgs := fun ds st h => match ds with
  | d :: r => match f d st h with
    | some (st', h') => k r st' h'
    | none => none
  | [] => none
theorem gs_nil : PGs X [] (tGs c gtNil) := PGs.imp pgs_nil fun vs σ H Q ⟨ds, st, h, g, S, sl, r, q⟩ => by
  cases r with
  | nil => exact ⟨rfl, q g H σ (Go.refl _ _ _) S sl⟩
  | cons _ _ => exact q.elim
theorem gs_cons {es : List Expr} {fg : Tg} {kg : Tgs} (h1 : PG X e (tGt c fg)) (h2 : PGs X es (tGs c kg)) (hs : (assignEach (e :: es) X.env).map (·.2) = assign e X.env :: (assignEach es X.env).map (·.2) := by rfl) : PGs X (e :: es) (tGs c (gtCons fg kg)) :=
  PGs.imp (pgs_cons h1 h2 hs) fun vs σ H Q ⟨ds, st, h, g, S, sl, r, q⟩ => by
    cases r with
    | nil => exact q.elim
    | @cons d v ds' vs' r1 rs =>
      refine ⟨v, vs', rfl, d, st, h, g, S, sl, r1, ?_⟩
      unfold gtCons at q
      dsimp only at q
      cases e1 : fg d st h with
      | none => rw [e1] at q; exact q.elim
      | some p =>
        obtain ⟨st', h'⟩ := p
        rw [e1] at q
        dsimp only at q ⊢
        intro g' H' σ' o S' sl'
        refine ⟨ds', st', h', g', S', sl', rs.mono o.gx o.len, ?_⟩
        cases e2 : kg ds' st' h' with
        | none => rw [e2] at q; exact q.elim
        | some p2 =>
          obtain ⟨st2, h2'⟩ := p2
          rw [e2] at q
          exact fun g2 H2 σ2 o2 S2 sl2 => q g2 H2 σ2 (o.trans o2) S2 sl2
def gtTup (n : Nat) (k : Tgs) : Tg := fun d st h => match d with
  | .tup ds => if ds.length = n then k ds st h else none
  | _ => none
theorem g_tup {es : List Expr} {j n : Nat} {kg : Tgs} (hK : c.K = X.K) (hc : X.calm = true) (h : PGs X es (tGs c kg)) (hn : (assignEach es X.env).length = n := by rfl) (hst : (assignEach es X.env).findIdx? (·.1) = none := by rfl) : PG X (.Tuple es j pos) (tGt c (gtTup n kg)) :=
  PG.imp (pg_tup hc h hn hst) fun v σ H Q ⟨d, st, h, g, S, sl, r, q⟩ => by
    cases d with
    | tup ds =>
      obtain ⟨a, vs, rfl, hq, rs⟩ := RV.tup' S r
      unfold gtTup at q
      dsimp only at q
      by_cases hl : ds.length = n
      · rw [if_pos hl] at q
        exact ⟨a, vs, rfl, by rw [← hK]; exact hq, by rw [← rs.length]; exact hl, ds, st, h, g, S, sl, rs, q⟩
      · rw [if_neg hl] at q
        exact q.elim
    | _ => exact q.elim
/-- target = value -/
def sAsg (fe : Ev D) (fg : Tg) : Ss := fun st h => (fe st h).out st fun d h1 => match fg d st h1 with
  | some (st', h') => .next st' h'
  | none => .no
theorem asgOk {fg : Tg} {D : Ends} {st : Slots} {σ : L2.St} {g1 : Gh} {h1 : Store} {H1 : Hp} {d : Gm.D} {v : V} (S1 : SR c g1 h1 H1) (sl : SL c g1 h1.length st σ) (r1 : RV c g1 h1.length d v)
    (q1 : OP c g1 h1 H1 (match fg d st h1 with | some (st', h') => .next st' h' | none => .no) D W) : tGt c fg v σ H1 D.nx := by
  refine ⟨d, st, h1, g1, S1, sl, r1, ?_⟩
  cases e : fg d st h1 with
  | none => rw [e] at q1; exact q1.elim
  | some p =>
    obtain ⟨st', h'⟩ := p
    rw [e] at q1
    exact q1
theorem s_asg {tg : Expr} {fg : Tg} (he : PE X e (tEv c W fe)) (hg : PG X tg (tGt c fg)) (hs : swapsWithSole [tg] e pos.line X.env = pure false := by rfl) (hw : swappedStores [tg] e X.env = pure none := by rfl)
    (h1 : (assignEach [tg] X.env).map (·.2) = [assign tg X.env] := by rfl) : PS X (.Assign [tg] e pos) (tSt c W (sAsg fe fg)) := PS.imp (ps_asg he hg hs hw h1) fun D σ H ⟨st, h, g, S, sl, q⟩ =>
  ⟨st, h, g, S, sl, RP.mono (OP.out sl q) fun v H1 ⟨d, h1, g1, o1, S1, r1, q1⟩ => asgOk S1 (sl.go o1) r1 q1⟩
def sSet (i : Nat) (fe : Ev D) : Ss := fun st h => (fe st h).out st fun d h1 => .next (st.set i (some d)) h1
theorem s_set {i : Nat} {x : Str} {pos' : Pos} (hN : X.N.Nodup) (hi : X.N[i]? = some x) (hx : Loc X.env.scope x) (he : PE X e (tEv c W fe)) (hs : swapsWith e (some (.Name x pos')) pos.line X.env = pure false := by rfl) (hf : X.fn x = true ∨ X.env.scope.names.lookup x = some .local := by first | exact .inl rfl | exact .inr rfl | assumption) :
    PS X (.Assign [.Name x pos'] e pos) (tSt c W (sSet i fe)) := PS.imp (ps_set hN hi hx he hs hf) fun D σ H ⟨st, h, g, S, sl, q⟩ =>
  ⟨st, h, g, S, sl, RP.mono (OP.out sl q) fun v H1 ⟨d, h1, g1, o1, S1, r1, q1⟩ => q1 g1 H1 _ (Go.refl _ _ _) S1 ((sl.go o1).set i r1)⟩
/-- name op= e -/
def sAug (i : Nat) (fo : D → D → Store → Res D) (fe : Ev D) : Ss := fun st h => match st[i]? with
  | some (some x) => (fe st h).out st fun y h1 => (fo x y h1).out st fun z h2 => .next (st.set i (some z)) h2
  | _ => .no
theorem s_aug {i : Nat} {x : Str} {op : Operator} {r : R2} {fo : D → D → Store → Res D} {pos' : Pos} (hN : X.N.Nodup) (hi : X.N[i]? = some x) (hx : Loc X.env.scope x) (ho : OpR X (inplaceOp op) r) (hr : R2Ok c r fo) (he : PE X e (tEv c W fe))
    (hf : X.fn x = true ∨ X.env.scope.names.lookup x = some .local := by first | exact .inl rfl | exact .inr rfl | assumption) : PS X (.AugAssign (.Name x pos') op e pos) (tSt c W (sAug i fo fe)) := PS.imp (ps_aug (ti := r) hN hi hx he ho hf) fun D σ H ⟨st, h, g, S, sl, q⟩ => by
  unfold sAug at q
  split at q
  · rename_i d e1
    obtain ⟨v, e2, rv⟩ := sl.2 i d e1
    refine ⟨v, e2, st, h, g, S, sl, RP.mono (OP.out sl q) fun w H1 ⟨d1, h1, g1, o1, S1, r1, q1⟩ => ?_⟩
    exact hr g1 h1 H1 d v d1 w _ _ S1 (rv.mono o1.gx o1.len) r1 (RP.mono (OP.out (sl.go o1) q1) fun z H2 ⟨d2, h2, g2, o2, S2, r2, q2⟩ => q2 g2 H2 _ (Go.refl _ _ _) S2 ((sl.go (o1.trans o2)).set i r2))
  · exact q.elim

/-! ### while -/
def whileL (ft : Ev Bool) (fb : Ss) : Nat → Ss
  | 0, _, _ => .no
  | n + 1, st, h => (ft st h).out st fun b h1 => if b = true then
      match fb st h1 with
      | .next st2 h2 => whileL ft fb n st2 h2
      | .cont st2 h2 => whileL ft fb n st2 h2
      | .brk st2 h2 => .next st2 h2
      | o => o
    else .next st h1
theorem s_while {t : Expr} {ft : Ev Bool} {body : List Stmt} {fb : Ss} (n : Nat) (hp : PassesOwn (model X.prog X.w) X.A X.env X.xe) (ht : PT X t (tTe c W ft)) (hb : PSs X body (tSt c W fb)) : PS X (.While t body [] pos) (tSt c W (whileL ft fb n)) := PS.imp (ps_while hp ht hb) fun D σ H ⟨st, h, g, S, sl, q⟩ => by
  refine ⟨fun m σ H => ∃ st h g, SR c g h H ∧ SL c g h.length st σ ∧ OP c g h H (whileL ft fb m st h) D W, ⟨n, st, h, g, S, sl, q⟩, ?_⟩
  rintro m σ H ⟨st, h, g, S, sl, q⟩
  cases m with
  | zero => exact q.elim
  | succ m =>
    refine ⟨st, h, g, S, sl, RP.mono (OP.out (R := Rb) sl q) fun v H1 ⟨d, h1, g1, o1, S1, r1, q1⟩ => ?_⟩
    have e : d = v := r1
    subst e
    cases d with
    | false => exact q1 g1 H1 σ (Go.refl _ _ _) S1 (sl.go o1)
    | true =>
      rw [if_pos rfl] at q1
      rw [if_pos rfl]
      refine ⟨fun σ H => ∃ st h g, SR c g h H ∧ SL c g h.length st σ ∧ OP c g h H (whileL ft fb m st h) D W, fun σ' H' x => ⟨m, Nat.lt_succ_self m, x⟩, st, h1, g1, S1, sl.go o1, ?_⟩
      cases e : fb st h1 with
      | next st2 h2 => rw [e] at q1; exact fun g' H' σ' o S' sl' => ⟨st2, h2, g', S', sl', OP.go (o := whileL ft fb m st2 h2) q1 o⟩
      | cont st2 h2 => rw [e] at q1; exact fun g' H' σ' o S' sl' => ⟨st2, h2, g', S', sl', OP.go (o := whileL ft fb m st2 h2) q1 o⟩
      | brk st2 h2 => rw [e] at q1; exact q1
      | ret d2 h2 => rw [e] at q1; exact q1
      | exc ee st2 h2 => rw [e] at q1; exact q1
      | no => rw [e] at q1; exact q1.elim

/-! ### what is walked -/
/-- the iterator J yields l, turn by turn -/
def ItOk (c : Cf) (J : It) (l : List D) (g0 : Gh) (L0 : Nat) : Prop := ∀ g h H (i : Nat), SR c g h H → Gx g0 L0 g → L0 ≤ h.length →
  (l.length ≤ i → J.stop i H) ∧ (∀ d, l[i]? = some d → J.go i H ∧ ∀ x H', J.yld i H x H' → ∃ g', Go g h H g' h H' ∧ SR c g' h H' ∧ RV c g' h.length d x)
theorem Gx.trans {g g1 g2 : Gh} {L L1 : Nat} (x : Gx g L g1) (y : Gx g1 L1 g2) (hl : L ≤ L1) : Gx g L g2 := ⟨fun n hn => (y.io n (Nat.lt_of_lt_of_le hn hl)).trans (x.io n hn), fun a o e => y.tr a o (x.tr a o e)⟩
theorem ItOk.mono {J : It} {l : List D} {g0 g1 : Gh} {L0 L1 : Nat} (k : ItOk c J l g0 L0) (x : Gx g0 L0 g1) (hl : L0 ≤ L1) : ItOk c J l g1 L1 := fun g h H i S gx hL => k g h H i S (x.trans gx hl) (Nat.le_trans hl hL)
def tIt (c : Cf) (W : WX) (f : Ev (List D)) : TI := fun σ H R => ∃ st h g, SR c g h H ∧ SL c g h.length st σ ∧ RP c (fun g L l J => ItOk c J l g L) g h H (f st h) R (fun cls dd H' => W cls dd σ H')
theorem PI.imp {tg e : Expr} {t t' : TI} (p : PI X tg e t) (k : ∀ σ H Q, t' σ H Q → t σ H Q) : PI X tg e t' := ⟨fun pins s σ H Q I h => p.run pins s σ H Q I (k σ H Q h)⟩
def forL (fg : Tg) (fb : Ss) : List D → Ss
  | [], st, h => .next st h
  | d :: l, st, h => match fg d st h with
    | none => .no
    | some (st1, h1) => match fb st1 h1 with
      | .next st2 h2 => forL fg fb l st2 h2
      | .cont st2 h2 => forL fg fb l st2 h2
      | .brk st2 h2 => .next st2 h2
      | o => o
def sFor (fi : Ev (List D)) (fg : Tg) (fb : Ss) : Ss := fun st h => (fi st h).out st fun l h1 => forL fg fb l st h1
theorem s_for {tg iter : Expr} {body : List Stmt} {fi : Ev (List D)} {fg : Tg} {fb : Ss} (hp : PassesOwn (model X.prog X.w) X.A X.env X.xe) (hc : X.calm = true) (hi : PI X tg iter (tIt c W fi)) (hg : PG X tg (tGt c fg)) (hb : PSs X body (tSt c W fb))
    (hs : ∀ x, foldedSetIterable iter X.env x = pure x := by intro _; rfl) : PS X (.For tg iter body [] pos) (tSt c W (sFor fi fg fb)) := PS.imp (ps_for hp hc hi hg hb hs) fun D σ H ⟨st, h, g, S, sl, q⟩ => by
  refine ⟨st, h, g, S, sl, RP.mono (OP.out (R := fun g L l J => ItOk c J l g L) sl q) fun J H1 ⟨l, h1, g1, o1, S1, k1, q1⟩ => ?_⟩
  refine ⟨fun i m σ H => m = l.length - i ∧ i ≤ l.length ∧ ∃ st h g, SR c g h H ∧ SL c g h.length st σ ∧ Gx g1 h1.length g ∧ h1.length ≤ h.length ∧ OP c g h H (forL fg fb (l.drop i) st h) D W, ⟨_, rfl, Nat.zero_le _, st, h1, g1, S1, sl.go o1, Gx.refl _ _, Nat.le_refl _, q1⟩, ?_⟩
  rintro i m σ H ⟨rfl, hi, st, h, g, S, sl, gx, hL, q⟩
  obtain ⟨ks, kg⟩ := k1 g h H i S gx hL
  by_cases hlt : i < l.length
  · obtain ⟨go, yl⟩ := kg l[i] (List.getElem?_eq_getElem hlt)
    refine .inr ⟨go, fun σ H => ∃ st h g, SR c g h H ∧ SL c g h.length st σ ∧ Gx g1 h1.length g ∧ h1.length ≤ h.length ∧ OP c g h H (forL fg fb (l.drop (i + 1)) st h) D W, fun σ' H' x => ⟨l.length - (i + 1), by omega, rfl, hlt, x⟩, fun x H' y => ?_⟩
    obtain ⟨g', o', S', r'⟩ := yl x H' y
    rw [List.drop_eq_getElem_cons hlt] at q
    unfold forL at q
    refine ⟨l[i], st, h, g', S', sl.go o', r', ?_⟩
    cases e1 : fg l[i] st h with
    | none => rw [e1] at q; exact q.elim
    | some p =>
      obtain ⟨st1, h2⟩ := p
      rw [e1] at q
      dsimp only at q ⊢
      intro g2 H2 σ2 o2 S2 sl2
      refine ⟨st1, h2, g2, S2, sl2, ?_⟩
      have o12 := o'.trans o2
      cases e2 : fb st1 h2 with
      | next st3 h3 =>
        rw [e2] at q
        exact fun g3 H3 σ3 o3 S3 sl3 => ⟨st3, h3, g3, S3, sl3, gx.trans (o12.trans o3).gx hL, Nat.le_trans hL (o12.trans o3).len, OP.go (o := forL fg fb (l.drop (i + 1)) st3 h3) q (o12.trans o3)⟩
      | cont st3 h3 =>
        rw [e2] at q
        exact fun g3 H3 σ3 o3 S3 sl3 => ⟨st3, h3, g3, S3, sl3, gx.trans (o12.trans o3).gx hL, Nat.le_trans hL (o12.trans o3).len, OP.go (o := forL fg fb (l.drop (i + 1)) st3 h3) q (o12.trans o3)⟩
      | brk st3 h3 => rw [e2] at q; exact fun g3 H3 σ3 o3 S3 sl3 => q g3 H3 σ3 (o12.trans o3) S3 sl3
      | ret d3 h3 => rw [e2] at q; exact fun g3 H3 σ3 o3 S3 sl3 => q g3 H3 σ3 (o12.trans o3) S3 sl3
      | exc ee st3 h3 => rw [e2] at q; exact fun g3 H3 σ3 cls dd o3 S3 sl3 r3 => q g3 H3 σ3 cls dd (o12.trans o3) S3 sl3 r3
      | no => rw [e2] at q; exact q.elim
  · have e : i = l.length := by omega
    subst e
    rw [List.drop_length] at q
    exact .inl ⟨ks (Nat.le_refl _), q g H σ (Go.refl _ _ _) S sl⟩
end

/-! ### a def -/
def startD (n : Nat) (ds : List D) : Slots := ds.map some ++ List.replicate (n - ds.length) none
def Out.res (o : Out) : Res D := match o with
  | .ret d h => .ok d h
  | .next _ h => .ok .non h
  | .exc e _ h => .exc e h
  | _ => .no
/-- a def by its body: n names, k parameters -/
def fnOf (n k : Nat) (fb : Ss) : FnT := fun ds h => if ds.length = k then cleanD h.length (fb (startD n ds) h).res else .no
theorem SL.start {c : Cf} {g : Gh} {L : Nat} {N : List Str} {ds : List D} {vs : List V} (r : RVs c g L ds vs) : SL c g L (startD N.length ds) (L2.start N vs) := by
  have e := r.length
  refine ⟨by unfold startD L2.start; simp [e], fun i d q => ?_⟩
  unfold startD at q
  unfold L2.start
  by_cases hi : i < ds.length
  · rw [List.getElem?_append_left (by simpa using hi), List.getElem?_map] at q
    cases e2 : ds[i]? with
    | none => rw [e2] at q; cases q
    | some x =>
      rw [e2] at q
      have q : x = d := by simpa using q
      subst q
      obtain ⟨y, e3, r3⟩ := r.get e2
      exact ⟨y, by rw [List.getElem?_append_left (by simpa [← e] using hi), List.getElem?_map, e3]; rfl, r3⟩
  · rw [List.getElem?_append_right (by simpa using hi), List.getElem?_replicate] at q
    split at q <;> cases q
theorem fn_ok {P : Program} {w : World} {K : PySem.W.Frag} {mg : Str → Option Value} {base : Heap} {c : Cf} {x qual : Str} {params : Arguments} {body : List Stmt} {scope : Scope} {dvs : List V} {kws : List (Str × V)} {f : Addr} {fd : FuncData} {N ps : List Str} {k : Nat} {fb : Ss}
    (F : FunD K x qual params body scope dvs kws f fd) (S : FnScope N ps scope)
    (hbody : ∀ (cdv : Value) (A : Around) (outer : List Env) (s : Shared) (H : Hp) (E : XK), Room k (A.deeper (envOfC qual scope s.heap.objs.size f cdv)) →
      PSs (cxOf (L2N.CX P w) P w K mg base N qual scope f cdv A outer s H E) body (tSt c (fun cls d _ H' => E cls d H') fb)) :
    FnOk P w K mg base (L2N.CX P w) (k + 1) f fd ps (spOf c (fnOf N.length ps.length fb)) := by
  refine FunD.ok F S (fun vs H Q E ⟨ds, h, g, S, r, q⟩ => ?_) fun cdv A outer s H vs Q E hr ⟨ds, h, g, S, r, q⟩ => ⟨_, hbody cdv A outer s H E hr, ?_⟩
  · unfold fnOf at q
    by_cases hl : ds.length = ps.length
    · rw [← hl, r.length]
    · rw [if_neg hl] at q
      exact q.elim
  · unfold fnOf at q
    by_cases hl : ds.length = ps.length
    · rw [if_pos hl] at q
      have q := RP.clean q
      refine ⟨startD N.length ds, h, g, S, SL.start r, ?_⟩
      cases e : fb (startD N.length ds) h with
      | next st' h' => rw [e] at q; exact fun g' H' σ o S' _ => q g' H' .non o S' .non
      | ret d h' => rw [e] at q; exact q
      | brk st' h' => rw [e] at q; exact q.elim
      | cont st' h' => rw [e] at q; exact q.elim
      | exc ee st' h' => rw [e] at q; exact fun g' H' σ cls dd o S' _ rx => q g' H' cls dd o S' rx
      | no => rw [e] at q; exact q.elim
    · rw [if_neg hl] at q
      exact q.elim
/-- a def by the way it is called: its level, its function, the defaults behind the written arguments -/
def CallOk (P : Program) (w : World) (K : PySem.W.Frag) (mg : Str → Option Value) (base : Heap) (c : Cf) (x : Str) (k : Nat) (F : FnT) (defs : List D) : Prop :=
  ∃ (f : Addr) (fd : FuncData) (ps : List Str) (ds : List Value) (dvs : List V), mg x = some (.ref f) ∧ FnOk P w K mg base (L2N.CX P w) k f fd ps (spOf c F) ∧ PySem.W.keepIn K (.ref f) = true ∧ L2.Binds K fd ps ds ∧ Vals dvs ds ∧ ∀ g L, RVs c g L defs dvs
theorem e_callC {c : Cf} {W : WX} {X : Cx} {x : Str} {k j : Nat} {F : FnT} {defs : List D} {e : Expr} {es : List Expr} {fs : Ev (List D)} {p pos : Pos} (G : CallOk X.prog X.w X.K X.mg X.base c x k F defs) (hr : Room j X.A) (hj : k ≤ j) (hg : Gl X x) (tk : L2N.Takes X W) (ha : PA X (e :: es) (tAr c W fs))
    (hdb : (x == ("__debug__" : Str)) = false := by decide) (he : starEach (e :: es) X.env = (false, eval e X.env) :: starEach es X.env := by rfl) (hpl : (backTo pos (starEach es X.env)).any (·.1) = false := by rfl) :
    PE X (.Call (.Name x p) (e :: es) [] pos) (tEv c W (cCall F defs fs)) := by
  obtain ⟨f, fd, ps, ds, dvs, hm, G, hk, hb, hd, rd⟩ := G
  exact e_call G (hr.mono hj) hg hm hk hb hd rd tk ha hdb he hpl
/-- .. with keywords: gD puts the written values and the keywords' values (with what lacks) in the parameters' order -/
def CallOkK (P : Program) (w : World) (K : PySem.W.Frag) (mg : Str → Option Value) (base : Heap) (c : Cf) (x : Str) (k : Nat) (F : FnT) (n : Nat) (ks : List Str) (gD : List D → List D → List D) : Prop :=
  ∃ (f : Addr) (fd : FuncData) (ps : List Str) (gV : List V → List V → List V) (gU : List Value → List Value → List Value), mg x = some (.ref f) ∧ FnOk P w K mg base (L2N.CX P w) k f fd ps (spOf c F) ∧ PySem.W.keepIn K (.ref f) = true ∧ L2.KBn K fd ps n ks gU gV ∧
    ∀ g L ds vs es ws, RVs c g L ds vs → RVs c g L es ws → RVs c g L (gD ds es) (gV vs ws)
def cCallK (F : FnT) (n m : Nat) (gD : List D → List D → List D) (fs fk : Ev (List D)) : Ev D := fun st h => (fs st h).bind fun ds h1 => (fk st h1).bind fun es h2 => if ds.length = n ∧ es.length = m then F (gD ds es) h2 else .no
def tKw (c : Cf) (W : WX) (f : Ev (List D)) : TA := tAr c W f
theorem PK.imp {X : Cx} {e : List Keyword} {t t' : TA} (p : L2.PK X e t) (k : ∀ σ H Q, t' σ H Q → t σ H Q) : L2.PK X e t' := ⟨fun w pins s σ H Q I h => p.run w pins s σ H Q I (k σ H Q h)⟩
section
variable {c : Cf} {W : WX} {X : Cx} {e : Expr} {es : List Expr} {kws : List Keyword} {fe : Ev D} {fs fk : Ev (List D)} {nm : Option Str} {kpos p pos : Pos}
theorem k_nil : L2.PK X [] (tAr c W cNil) := PK.imp pk_nil fun σ H Q ⟨st, h, g, S, sl, q⟩ => RP.ok_here q S .nil
theorem k_cons (ha : PE X e (tEv c W fe)) (hr : L2.PK X kws (tAr c W fk)) : L2.PK X (⟨nm, e, kpos⟩ :: kws) (tAr c W (cCons fe fk)) := PK.imp (pk_cons ha hr) fun σ H Q ⟨st, h, g, S, sl, q⟩ => by
  refine ⟨st, h, g, S, sl, RP.mono q.bind fun v1 H1 ⟨d1, h1, g1, o1, S1, r1, q1⟩ => ?_⟩
  refine ⟨st, h1, g1, S1, sl.go o1, RP.mono q1.bind fun v2 H2 ⟨d2, h2, g2, o2, S2, r2, q2⟩ => ?_⟩
  exact RP.ok_here q2 S2 (.cons (r1.mono o2.gx o2.len) r2)
theorem e_callK {x : Str} {k j n m : Nat} {F : FnT} {ks : List Str} {gD : List D → List D → List D} {E : XK} (G : CallOkK X.prog X.w X.K X.mg X.base c x k F n ks gD) (hr : Room j X.A) (hj : k ≤ j) (hg : Gl X x) (hx : Passes (L2N.CX X.prog X.w) X E) (hW : ∀ cls dd σ H, W cls dd σ H → E cls dd H)
    (ha : PA X (e :: es) (tAr c W fs)) (hkw : L2.PK X kws (tAr c W fk)) (hall : (backToKw pos (keywordEach kws X.env)).all (·.1.isSome) = true := by rfl) (hks : (backToKw pos (keywordEach kws X.env)).filterMap (·.1) = ks := by rfl)
    (hdb : (x == ("__debug__" : Str)) = false := by decide) (he : starEach (e :: es) X.env = (false, eval e X.env) :: starEach es X.env := by rfl)
    (hpl : ((backTo pos (starEach (e :: es) X.env)).any (·.1) || (backToKw pos (keywordEach kws X.env)).any (·.1.isNone)) = false := by rfl) (hlen : ks.length = m := by rfl) :
    PE X (.Call (.Name x p) (e :: es) kws pos) (tEv c W (cCallK F n m gD fs fk)) := by
  subst hlen
  obtain ⟨f, fd, ps, gV, gU, hm, G, hk, hb, rd⟩ := G
  refine PE.imp (pe_callN G (hr.mono hj) hg hm hk hb hx ha hkw hall hks hdb he hpl) fun σ H Q ⟨st, h, g, S, sl, q⟩ => ?_
  refine ⟨st, h, g, S, sl, RP.mono q.bind fun vs H1 ⟨ds, h1, g1, o1, S1, r1, q1⟩ => ?_⟩
  refine ⟨st, h1, g1, S1, sl.go o1, RP.mono q1.bind fun zs H2 ⟨es', h2, g2, o2, S2, r2, q2⟩ => ?_⟩
  by_cases hl : ds.length = n ∧ es'.length = ks.length
  · rw [if_pos hl] at q2
    refine ⟨by rw [← r1.length]; exact hl.1, by rw [← r2.length]; exact hl.2, gD ds es', h2, g2, S2, rd _ _ _ _ _ _ (r1.mono o2.gx o2.len) r2, ?_⟩
    cases er : F (gD ds es') h2 with
    | ok d h3 => rw [er] at q2; exact q2
    | exc ee h3 => rw [er] at q2; exact fun g' H' cls dd o S' rx => hW _ _ _ _ (q2 g' H' cls dd o S' rx)
    | no => rw [er] at q2; exact q2
  · rw [if_neg hl] at q2
    exact q2.elim
end
end Gm

/-! Gm5: what is walked; comprehensions; freezing. -/
namespace Gm
open PySem PySem.Spec PyProof.Rows L2

/-! ### freezing a cell -/
theorem SR.frz {c : Cf} {g : Gh} {h : Store} {H : Hp} (S : SR c g h H) {n : Nat} {l : List D} {vs : List V} (hn : h[n]? = some (some (.lst l))) (hv : H (g.io n) = some (.lst vs)) :
    SR c { g with tr := upd g.tr (g.io n) (.lst vs) } (h.set n none) H ∧ Go g h H { g with tr := upd g.tr (g.io n) (.lst vs) } (h.set n none) H := by
  have ln : Live h n := ⟨_, hn⟩
  have lv : ∀ m, Live (h.set n none) m → Live h m ∧ m ≠ n := fun m ⟨ce, e⟩ => by
    by_cases z : m = n
    · subst z
      rw [List.getElem?_set_self ln.lt] at e
      cases e
    · rw [List.getElem?_set_ne (Ne.symm z)] at e
      exact ⟨⟨ce, e⟩, z⟩
  have gx : Gx g h.length { g with tr := upd g.tr (g.io n) (.lst vs) } := ⟨fun _ _ => rfl, fun a u e => by
    show upd g.tr (g.io n) (.lst vs) a = some u
    rw [upd_ne (fun z => by rw [z, S.apart n ln] at e; cases e)]
    exact e⟩
  refine ⟨⟨fun a u e => ?_, fun m l => ?_, fun m ce e => ?_, fun m k l1 l2 e => S.inj m k (lv m l1).1 (lv k l2).1 e, S.tabs, nt_upd S.nt (by intro ps z; cases z)⟩, ⟨by simp, gx.io, gx.tr, fun a u e nt => ⟨u, e, nt⟩, fun a u e _ _ => e, fun a u e _ t nl => ?_, fun m _ l => (lv m l).1, fun m hm l => absurd l.lt (by simpa using hm)⟩⟩
  · have e : upd g.tr (g.io n) (.lst vs) a = some u := e
    by_cases z : a = g.io n
    · rw [z, upd_same] at e
      rw [z, hv]
      exact e
    · rw [upd_ne z] at e
      exact S.sub a u e
  · show upd g.tr (g.io n) (.lst vs) (g.io m) = none
    obtain ⟨l0, nm⟩ := lv m l
    rw [upd_ne (fun e => nm (S.inj m n l0 ln e))]
    exact S.apart m l0
  · obtain ⟨l0, nm⟩ := lv m ⟨ce, e⟩
    rw [List.getElem?_set_ne (Ne.symm nm)] at e
    rw [List.length_set]
    exact (S.cell m ce e).mono gx (Nat.le_refl _) rfl
  · show upd g.tr (g.io n) (.lst vs) a = none
    rw [upd_ne (Ne.symm (nl n ln))]
    exact t
/-- the cell in slot i is frozen ahead of a statement -/
def sFrz (i : Nat) (f : Ss) : Ss := fun st h => match st[i]? with
  | some (some (.ref n)) => match h[n]? with
    | some (some (.lst l)) => f (st.set i (some (.lst l))) (h.set n none)
    | _ => .no
  | _ => .no
theorem s_frz {c : Cf} {W : WX} {X : Cx} {s : Stmt} {f : Ss} (i : Nat) (p : PS X s (tSt c W f)) : PS X s (tSt c W (sFrz i f)) := PS.imp p fun D σ H ⟨st, h, g, S, sl, q⟩ => by
  unfold sFrz at q
  split at q
  · rename_i n e1
    split at q
    · rename_i l e2
      obtain ⟨v, e3, rv⟩ := sl.2 i _ e1
      obtain ⟨vs, e4, rs⟩ := S.cell n _ e2
      cases rv with
      | ref hn =>
        obtain ⟨S1, o1⟩ := S.frz e2 e4
        have sl1 : SL c { g with tr := upd g.tr (g.io n) (.lst vs) } (h.set n none).length (st.set i (some (.lst l))) σ := by
          have sl' := (sl.go o1).set i (d := .lst l) (v := .ref (g.io n)) (.lst upd_same (by rw [List.length_set]; exact rs.mono o1.gx (Nat.le_refl _)))
          have e : σ.set i (some (.ref (g.io n))) = σ := by
            apply List.ext_getElem?
            intro j
            by_cases z : i = j
            · subst z
              rw [List.getElem?_set_self (List.getElem?_eq_some_iff.mp e3).1, e3]
            · rw [List.getElem?_set_ne z]
          rw [e] at sl'
          exact sl'
        exact ⟨_, _, _, S1, sl1, OP.go q o1⟩
    · exact q.elim
  · exact q.elim

/-! ### what is walked -/
def iSeq (K : PySem.W.Frag) (tl : TE) : TI := fun σ H R => tl σ H fun x H1 => (∃ a, x = .ref a ∧ (∃ xs, SqL K H1 a xs) ∧ R (Itl K a) H1) ∨ (∃ a, x = .ref a ∧ (∃ xs, SqT K H1 a xs) ∧ R (Itt K a) H1) ∨ ∃ z, x = .str z ∧ R (Its z) H1
theorem pi_seq {X : Cx} {tg e : Expr} {te : TE} (he : PE X e te) : PI X tg e (iSeq X.K te) := by
  refine ⟨fun pins s σ H R I h => ?_⟩
  refine thn (he.run pins s σ H _ I h) fun v s1 ⟨x, H1, I1, r1, q1⟩ => ?_
  have tc : PE X e te := he
  rcases q1 with ⟨a, ex, hx, q⟩ | ⟨a, ex, hx, q⟩ | ⟨z, ex, q⟩
  · subst ex
    cases r1
    obtain ⟨xs, hq⟩ := hx
    obtain ⟨its, rv, p, hz⟩ := I1.list hq
    refine wpAny_pyIter_list p.isList ?_
    refine ⟨s1.heap.objs.size, [s1.heap.objs.size], _, _, H1, rfl, I1.kept (t' := s1.toks) fun b o e => Heap.get?_push_of_some _ e, turn_list a _, ⟨_, Heap.get?_push_size _ rfl, rfl, rfl⟩, fun b hb => ?_, q⟩
    have e : b = s1.heap.objs.size := by simpa using hb
    subst e
    exact I1.fpOk (Nat.le_refl _) (I1.hok.fresh (Nat.le_refl _))
  · subst ex
    cases r1
    obtain ⟨xs, hq⟩ := hx
    obtain ⟨its, rv, p, hz⟩ := I1.tuple hq
    refine wpAny_pyIter_tuple (show s1.heap.IsTuple a its.toArray from p) ?_
    refine ⟨s1.heap.objs.size, [s1.heap.objs.size], _, _, H1, rfl, I1.kept (t' := s1.toks) fun b o e => Heap.get?_push_of_some _ e, turn_tuple a _, ⟨_, Heap.get?_push_size _ rfl, rfl, rfl⟩, fun b hb => ?_, q⟩
    have e : b = s1.heap.objs.size := by simpa using hb
    subst e
    exact I1.fpOk (Nat.le_refl _) (I1.hok.fresh (Nat.le_refl _))
  · subst ex
    obtain ⟨t, rfl⟩ := r1
    cases ha : z.cps.all (· < 128)
    · exact wpAny_pyIter_wide ha (pi_one (tk := s1.toks) I1 _ (turn_str _ z t "str_iterator" (.inr rfl)) ⟨_, Heap.get?_push_size _ rfl, rfl, rfl⟩ q)
    · exact wpAny_pyIter_ascii ha (pi_one (tk := s1.toks) I1 _ (turn_str _ z t "str_ascii_iterator" (.inl rfl)) ⟨_, Heap.get?_push_size _ rfl, rfl, rfl⟩ q)
section
variable {c : Cf} {W : WX} {X : Cx} {tg e : Expr} {fe : Ev D} {pos : Pos}
theorem itl_ok {a : Addr} {l : List D} {vs : List V} {g0 : Gh} {L0 : Nat} (hq : SqL c.K g0.tr a vs) (rs : RVs c g0 L0 l vs) : ItOk c (Itl c.K a) l g0 L0 := fun g h H i S gx hL => by
  have q : SqL c.K H a vs := SqL.sub S.sub (SqL.sub gx.tr hq)
  refine ⟨fun hi => ⟨vs, q, by rw [← rs.length]; exact hi⟩, fun d hd => ?_⟩
  obtain ⟨y, e1, r1⟩ := rs.get hd
  refine ⟨⟨vs, y, q, e1⟩, fun x H' ⟨eH, hx⟩ => ?_⟩
  have e2 := hx vs q
  rw [e1] at e2
  cases e2
  subst eH
  exact ⟨g, Go.refl _ _ _, S, r1.mono gx hL⟩
theorem itt_ok {a : Addr} {l : List D} {vs : List V} {g0 : Gh} {L0 : Nat} (hq : SqT c.K g0.tr a vs) (rs : RVs c g0 L0 l vs) : ItOk c (Itt c.K a) l g0 L0 := fun g h H i S gx hL => by
  have q : SqT c.K H a vs := SqT.sub S.sub (SqT.sub gx.tr hq)
  refine ⟨fun hi => ⟨vs, q, by rw [← rs.length]; exact hi⟩, fun d hd => ?_⟩
  obtain ⟨y, e1, r1⟩ := rs.get hd
  refine ⟨⟨vs, y, q, e1⟩, fun x H' ⟨eH, hx⟩ => ?_⟩
  have e2 := hx vs q
  rw [e1] at e2
  cases e2
  subst eH
  exact ⟨g, Go.refl _ _ _, S, r1.mono gx hL⟩
/-- the signs of a text -/
def signs (x : Str) : List D := x.cps.toList.map fun c => .str ⟨#[c]⟩
theorem its_ok {x : Str} {g0 : Gh} {L0 : Nat} : ItOk c (Its x) (signs x) g0 L0 := fun g h H i S gx hL => by
  refine ⟨fun hi => (show x.cps.size ≤ i by simpa [signs] using hi), fun d hd => ?_⟩
  unfold signs at hd
  rw [List.getElem?_map] at hd
  cases e : x.cps.toList[i]? with
  | none => rw [e] at hd; cases hd
  | some k =>
    rw [e] at hd
    have hd : D.str ⟨#[k]⟩ = d := by simpa using hd
    subst hd
    have hi : i < x.cps.size := by
      have := (List.getElem?_eq_some_iff.mp e).1
      simpa using this
    refine ⟨hi, fun v H' ⟨eH, k2, e2, ev⟩ => ?_⟩
    subst eH
    have e3 : x.cps[i]? = some k := by rw [← Array.getElem?_toList]; exact e
    rw [e3] at e2
    cases e2
    rw [ev]
    exact ⟨g, Go.refl _ _ _, S, .str _⟩
/-- the items of what is walked: a list or a tuple that stays, a text -/
def items : D → Option (List D)
  | .lst l => some l
  | .fro l => some l
  | .tup l => some l
  | .str x => some (signs x)
  | _ => none
def iSeqD (fe : Ev D) : Ev (List D) := fun st h => (fe st h).bind fun d h1 => match items d with
  | some l => .ok l h1
  | none => .no
theorem i_seq (hK : c.K = X.K) (he : PE X e (tEv c W fe)) : PI X tg e (tIt c W (iSeqD fe)) := PI.imp (pi_seq he) fun σ H R ⟨st, h, g, S, sl, q⟩ => by
  refine ⟨st, h, g, S, sl, RP.mono (RP.bind q) fun v H1 ⟨d, h1, g1, o1, S1, r1, q1⟩ => ?_⟩
  rw [← hK]
  cases r1 with
  | lst h2 rs =>
    have q1 : RP c _ g1 h1 H1 (.ok _ h1) R _ := q1
    exact .inl ⟨_, rfl, ⟨_, .inl (.inl (S1.sub _ _ h2))⟩, RP.ok_here q1 S1 (itl_ok (.inl (.inl h2)) rs)⟩
  | fro h2 rs =>
    have q1 : RP c _ g1 h1 H1 (.ok _ h1) R _ := q1
    exact .inl ⟨_, rfl, ⟨_, SqL.sub S1.sub h2⟩, RP.ok_here q1 S1 (itl_ok h2 rs)⟩
  | tup h2 rs =>
    have q1 : RP c _ g1 h1 H1 (.ok _ h1) R _ := q1
    exact .inr (.inl ⟨_, rfl, ⟨_, SqT.sub S1.sub h2⟩, RP.ok_here q1 S1 (itt_ok h2 rs)⟩)
  | str x =>
    have q1 : RP c _ g1 h1 H1 (.ok _ h1) R _ := q1
    exact .inr (.inr ⟨_, rfl, RP.ok_here q1 S1 its_ok⟩)
  | _ => exact q1.elim
/-- upInts lo, lo + k, .. -/
def upInts (lo k : Int) (n : Nat) : List D := (List.range n).map fun i => .int (lo + (i : Nat) * k)
theorem ints_get {lo k : Int} {n i : Nat} {d : D} (h : (upInts lo k n)[i]? = some d) : i < n ∧ d = .int (lo + (i : Nat) * k) := by
  unfold upInts at h
  rw [List.getElem?_map] at h
  by_cases hi : i < n
  · rw [List.getElem?_range hi] at h
    exact ⟨hi, (Option.some.inj h).symm⟩
  · rw [List.getElem?_eq_none (by simpa using hi)] at h
    cases h
theorem itr_ok {lo : Int} {n : Nat} {g0 : Gh} {L0 : Nat} : ItOk c (Itr lo n) (upInts lo 1 n) g0 L0 := fun g h H i S gx hL => by
  refine ⟨fun hi => (show n ≤ i by simpa [upInts] using hi), fun d hd => ?_⟩
  obtain ⟨hi, rfl⟩ := ints_get hd
  refine ⟨hi, fun v H' ⟨eH, ev⟩ => ?_⟩
  subst eH
  rw [ev, Int.mul_one]
  exact ⟨g, Go.refl _ _ _, S, .int _⟩
theorem itc_ok {lo k : Int} {n : Nat} {g0 : Gh} {L0 : Nat} : ItOk c (Itc lo k n) (upInts lo k n) g0 L0 := fun g h H i S gx hL => by
  refine ⟨fun hi => (show n ≤ i by simpa [upInts] using hi), fun d hd => ?_⟩
  obtain ⟨hi, rfl⟩ := ints_get hd
  refine ⟨hi, fun v H' ⟨eH, ev⟩ => ?_⟩
  subst eH
  rw [ev]
  exact ⟨g, Go.refl _ _ _, S, .int _⟩
def g62 (i : Int) : Bool := Nat.ble i.natAbs 4611686018427387903
theorem g62_ok {i : Int} (h : g62 i = true) : -(2 ^ 62) ≤ i ∧ i < 2 ^ 62 := by
  have := Nat.le_of_ble_eq_true h
  omega
def iRange1 (fs : Ev (List D)) : Ev (List D) := fun st h => (fs st h).bind fun ds h1 => match ds with
  | [.int j] => if g62 j = true then .ok (upInts 0 1 j.toNat) h1 else .no
  | _ => .no
def iRange2 (fs : Ev (List D)) : Ev (List D) := fun st h => (fs st h).bind fun ds h1 => match ds with
  | [.int i, .int j] => if g62 i = true ∧ g62 j = true then .ok (upInts i 1 (j - i).toNat) h1 else .no
  | _ => .no
theorem i_range1 {a : Expr} {fs : Ev (List D)} {p pos : Pos} (hg : Gl X "range") (hm : X.mg "range" = none) (ha : PA X [a] (tAr c W fs)) (hs : starEach [a] X.env = [(false, eval a X.env)] := by rfl) : PI X tg (.Call (.Name "range" p) [a] [] pos) (tIt c W (iRange1 fs)) :=
  PI.imp (pi_range1 hg hm ha hs) fun σ H R ⟨st, h, g, S, sl, q⟩ => by
    refine ⟨st, h, g, S, sl, RP.mono (RP.bind q) fun vs H1 ⟨ds, h1, g1, o1, S1, r1, q1⟩ => ?_⟩
    split at q1
    · rename_i j
      cases r1 with
      | cons r rr =>
        cases rr
        cases r
        by_cases hj : g62 j = true
        · rw [if_pos hj] at q1
          exact ⟨j, rfl, (g62_ok hj).1, (g62_ok hj).2, RP.ok_here q1 S1 itr_ok⟩
        · rw [if_neg hj] at q1
          exact q1.elim
    · exact q1.elim
theorem i_range2 {a b : Expr} {fs : Ev (List D)} {p pos : Pos} (hg : Gl X "range") (hm : X.mg "range" = none) (ha : PA X [a, b] (tAr c W fs)) (hs : starEach [a, b] X.env = [(false, eval a X.env), (false, eval b X.env)] := by rfl) (hs2 : starEach [b] X.env = [(false, eval b X.env)] := by rfl) : PI X tg (.Call (.Name "range" p) [a, b] [] pos) (tIt c W (iRange2 fs)) :=
  PI.imp (pi_range2 hg hm ha hs hs2) fun σ H R ⟨st, h, g, S, sl, q⟩ => by
    refine ⟨st, h, g, S, sl, RP.mono (RP.bind q) fun vs H1 ⟨ds, h1, g1, o1, S1, r1, q1⟩ => ?_⟩
    split at q1
    · rename_i i j
      cases r1 with
      | cons r rr =>
        cases rr with
        | cons r2 rr =>
          cases rr
          cases r
          cases r2
          by_cases hj : g62 i = true ∧ g62 j = true
          · rw [if_pos hj] at q1
            exact ⟨i, j, rfl, ⟨(g62_ok hj.1).1, (g62_ok hj.1).2, (g62_ok hj.2).1, (g62_ok hj.2).2⟩, RP.ok_here q1 S1 itr_ok⟩
          · rw [if_neg hj] at q1
            exact q1.elim
    · exact q1.elim
/-- reversed(range(n)) -/
def iRevRange (fe : Ev D) : Ev (List D) := fun st h => (fe st h).bind fun d h1 => match d with
  | .int b => if g62 b = true then .ok (upInts (((b.toNat : Nat) : Int) - 1) (-1) b.toNat) h1 else .no
  | _ => .no
theorem i_revRange {a : Expr} {fa : Ev D} {p p2 pos pos2 : Pos} (hg : Gl X "reversed") (hm : X.mg "reversed" = none) (hg2 : Gl X "range") (hm2 : X.mg "range" = none) (ha : PE X a (tEv c W fa)) (na : starEach [a] X.env = (false, eval a X.env) :: starEach [] X.env := by rfl)
    (hs : starEach [.Call (.Name "range" p2) [a] [] pos2] X.env = (false, eval (.Call (.Name "range" p2) [a] [] pos2) X.env) :: starEach [] X.env := by rfl) : PI X tg (.Call (.Name "reversed" p) [.Call (.Name "range" p2) [a] [] pos2] [] pos) (tIt c W (iRevRange fa)) :=
  PI.imp (pi_revR hg hm (prg_1 hg2 hm2 ha na) hs) fun σ H R ⟨st, h, g, S, sl, q⟩ => by
    refine ⟨st, h, g, S, sl, RP.mono (RP.bind q) fun v H1 ⟨d, h1, g1, o1, S1, r1, q1⟩ => ?_⟩
    cases r1 with
    | int b =>
      have q1 : RP c (fun g L l J => ItOk c J l g L) g1 h1 H1 (if g62 b = true then Res.ok (upInts (((b.toNat : Nat) : Int) - 1) (-1) b.toNat) h1 else Res.no) R (fun cls dd H' => W cls dd σ H') := q1
      by_cases hj : g62 b = true
      · rw [if_pos hj] at q1
        refine ⟨b, rfl, by decide, by decide, (g62_ok hj).1, (g62_ok hj).2, ?_⟩
        have e : (b - 0).toNat = b.toNat := by rw [Int.sub_zero]
        have e2 : (0 : Int) + ((b.toNat : Nat) : Int) - 1 = ((b.toNat : Nat) : Int) - 1 := by omega
        rw [e, e2]
        exact RP.ok_here q1 S1 itc_ok
      · rw [if_neg hj] at q1
        exact q1.elim
    | _ => exact q1.elim
/-- enumerate(xs) -/
def enumD (l : List D) : List D := l.mapIdx fun i d => .tup [.int (i : Nat), d]
theorem ite_ok {a : Addr} {l : List D} {vs : List V} {g0 : Gh} {L0 : Nat} (hq : SqL c.K g0.tr a vs) (rs : RVs c g0 L0 l vs) : ItOk c (Ite c.K a) (enumD l) g0 L0 := fun g h H i S gx hL => by
  have q : SqL c.K H a vs := SqL.sub S.sub (SqL.sub gx.tr hq)
  refine ⟨fun hi => ⟨vs, q, by rw [← rs.length]; simpa [enumD] using hi⟩, fun d hd => ?_⟩
  unfold enumD at hd
  rw [List.getElem?_mapIdx] at hd
  cases e : l[i]? with
  | none => rw [e] at hd; cases hd
  | some d0 =>
    rw [e] at hd
    have hd : D.tup [.int (i : Nat), d0] = d := by simpa using hd
    subst hd
    obtain ⟨y, e1, r1⟩ := rs.get e
    refine ⟨⟨vs, y, q, e1⟩, fun x H' ⟨T, x0, ev, nT, eH, hx⟩ => ?_⟩
    have e2 := hx vs q
    rw [e1] at e2
    cases e2
    subst ev eH
    obtain ⟨S2, o2⟩ := S.tree (o := .tup [.int (i : Nat), y]) nT
    exact ⟨_, o2, S2, .tup (.inl (.inl upd_same)) (.cons (.int _) (.cons (r1.mono (gx.trans o2.gx hL) hL) .nil))⟩
/-- a list that stays, for an iterator over it -/
def asI : D → Option (List D)
  | .lst l => some l
  | .fro l => some l
  | _ => none
theorem asI_ok {g : Gh} {L : Nat} {d : D} {v : V} {l : List D} (r : RV c g L d v) (e : asI d = some l) : ∃ a vs, v = .ref a ∧ SqL c.K g.tr a vs ∧ RVs c g L l vs := by
  cases r with
  | lst h1 r => cases e; exact ⟨_, _, rfl, .inl (.inl h1), r⟩
  | fro h1 r => cases e; exact ⟨_, _, rfl, h1, r⟩
  | _ => cases e
def iEnumD (fs : Ev (List D)) : Ev (List D) := fun st h => (fs st h).bind fun ds h1 => match ds with
  | [d] => match asI d with
    | some l => .ok (enumD l) h1
    | none => .no
  | _ => .no
theorem i_enum {fs : Ev (List D)} {p pos tpos : Pos} {elts : List Expr} {kk : Nat} (hK : c.K = X.K) (hg : Gl X "enumerate") (hm : X.mg "enumerate" = none) (ha : PA X [e] (tAr c W fs)) (hs : starEach [e] X.env = [(false, eval e X.env)] := by rfl) : PI X (.Tuple elts kk tpos) (.Call (.Name "enumerate" p) [e] [] pos) (tIt c W (iEnumD fs)) :=
  PI.imp (pi_enum hg hm ha hs) fun σ H R ⟨st, h, g, S, sl, q⟩ => by
    refine ⟨st, h, g, S, sl, RP.mono (RP.bind q) fun vs H1 ⟨ds, h1, g1, o1, S1, r1, q1⟩ => ?_⟩
    split at q1
    · rename_i d
      split at q1
      · rename_i l el
        cases r1 with
        | cons r rr =>
          cases rr
          obtain ⟨a, vs, rfl, hq, rs⟩ := asI_ok r el
          rw [← hK]
          exact ⟨a, vs, rfl, SqL.sub S1.sub hq, RP.ok_here q1 S1 (ite_ok hq rs)⟩
      · exact q1.elim
    · exact q1.elim
/-- zip(xs, ys) -/
def zipD : List D → List D → List D
  | a :: r, b :: s => .tup [a, b] :: zipD r s
  | _, _ => []
theorem zipD_get : ∀ {l k : List D} {i : Nat} {d : D}, (zipD l k)[i]? = some d → ∃ a b, l[i]? = some a ∧ k[i]? = some b ∧ d = .tup [a, b]
  | [], _, _, _, h => by simp [zipD] at h
  | _ :: _, [], _, _, h => by simp [zipD] at h
  | a :: r, b :: s, 0, d, h => by
    simp [zipD] at h
    exact ⟨a, b, rfl, rfl, h.symm⟩
  | a :: r, b :: s, i + 1, d, h => by
    simp only [zipD, List.getElem?_cons_succ] at h
    obtain ⟨x, y, e1, e2, e3⟩ := zipD_get h
    exact ⟨x, y, by simpa using e1, by simpa using e2, e3⟩
theorem zipD_len : ∀ (l k : List D), (zipD l k).length = min l.length k.length
  | [], _ => by simp [zipD]
  | _ :: _, [] => by simp [zipD]
  | a :: r, b :: s => by simp only [zipD, List.length_cons, zipD_len r s]; omega
theorem itz_ok {a b : Addr} {l k : List D} {vs ws : List V} {g0 : Gh} {L0 : Nat} (hq : SqL c.K g0.tr a vs) (rs : RVs c g0 L0 l vs) (hq2 : SqL c.K g0.tr b ws) (rs2 : RVs c g0 L0 k ws) : ItOk c (Itz c.K a b) (zipD l k) g0 L0 := fun g h H i S gx hL => by
  have q : SqL c.K H a vs := SqL.sub S.sub (SqL.sub gx.tr hq)
  have q2 : SqL c.K H b ws := SqL.sub S.sub (SqL.sub gx.tr hq2)
  refine ⟨fun hi => ⟨vs, ws, q, q2, ?_⟩, fun d hd => ?_⟩
  · rw [zipD_len] at hi
    rw [← rs.length, ← rs2.length]
    omega
  · obtain ⟨d1, d2, e1, e2, rfl⟩ := zipD_get hd
    obtain ⟨y1, f1, r1⟩ := rs.get e1
    obtain ⟨y2, f2, r2⟩ := rs2.get e2
    refine ⟨⟨vs, ws, y1, y2, q, q2, f1, f2⟩, fun x H' ⟨T, x1, x2, ev, nT, eH, hx1, hx2⟩ => ?_⟩
    have z1 := hx1 vs q
    have z2 := hx2 ws q2
    rw [f1] at z1
    rw [f2] at z2
    cases z1
    cases z2
    subst ev eH
    obtain ⟨S2, o2⟩ := S.tree (o := .tup [y1, y2]) nT
    exact ⟨_, o2, S2, .tup (.inl (.inl upd_same)) (.cons (r1.mono (gx.trans o2.gx hL) hL) (.cons (r2.mono (gx.trans o2.gx hL) hL) .nil))⟩
def iZipD (fs : Ev (List D)) : Ev (List D) := fun st h => (fs st h).bind fun ds h1 => match ds with
  | [d, d'] => match asI d, asI d' with
    | some l, some k => .ok (zipD l k) h1
    | _, _ => .no
  | _ => .no
theorem i_zip {fs : Ev (List D)} {e2 : Expr} {p pos tpos : Pos} {elts : List Expr} {kk : Nat} (hK : c.K = X.K) (P : ∀ {ta : TA}, PA X [e, e2] ta → PI X (.Tuple elts kk tpos) (.Call (.Name "zip" p) [e, e2] [] pos) (iZip X.K ta)) (ha : PA X [e, e2] (tAr c W fs)) : PI X (.Tuple elts kk tpos) (.Call (.Name "zip" p) [e, e2] [] pos) (tIt c W (iZipD fs)) :=
  PI.imp (P ha) fun σ H R ⟨st, h, g, S, sl, q⟩ => by
    refine ⟨st, h, g, S, sl, RP.mono (RP.bind q) fun vs H1 ⟨ds, h1, g1, o1, S1, r1, q1⟩ => ?_⟩
    split at q1
    · rename_i d d'
      split at q1
      · rename_i l k el ek
        cases r1 with
        | cons r rr =>
          cases rr with
          | cons r' rr =>
            cases rr
            obtain ⟨a, vs, rfl, hq, rs⟩ := asI_ok r el
            obtain ⟨b, ws, rfl, hq2, rs2⟩ := asI_ok r' ek
            rw [← hK]
            exact ⟨a, b, vs, ws, rfl, SqL.sub S1.sub hq, SqL.sub S1.sub hq2, RP.ok_here q1 S1 (itz_ok hq rs hq2 rs2)⟩
      · exact q1.elim
    · exact q1.elim

/-! ### comprehensions -/
theorem wipe_get {σ : L2.St} : ∀ {vs : List Nat} {j : Nat}, (wipe σ vs)[j]? = if j ∈ vs then (if j < σ.length then some none else none) else σ[j]?
  | [], j => by simp [wipe]
  | v :: vs, j => by
    unfold wipe
    by_cases e : v = j
    · subst e
      rw [if_pos List.mem_cons_self]
      by_cases hl : v < σ.length
      · rw [if_pos hl, List.getElem?_set_self (by rw [wipe_length]; exact hl)]
      · rw [if_neg hl, List.getElem?_eq_none (by rw [List.length_set, wipe_length]; omega)]
    · rw [List.getElem?_set_ne e, wipe_get]
      by_cases m : j ∈ vs
      · rw [if_pos m, if_pos (List.mem_cons_of_mem _ m)]
      · rw [if_neg m, if_neg (fun z => by
          rcases List.mem_cons.mp z with z | z
          · exact e z.symm
          · exact m z)]
theorem wipe_set {σ : L2.St} {vs : List Nat} {i : Nat} {x : Option V} (hi : i ∈ vs) : wipe (σ.set i x) vs = wipe σ vs := by
  apply List.ext_getElem?
  intro j
  rw [wipe_get, wipe_get]
  by_cases m : j ∈ vs
  · rw [if_pos m, if_pos m, List.length_set]
  · rw [if_neg m, if_neg m, List.getElem?_set_ne (fun e => m (by rw [← e]; exact hi))]
theorem wipe_wipe {σ : L2.St} {vs : List Nat} : wipe (wipe σ vs) vs = wipe σ vs := by
  apply List.ext_getElem?
  intro j
  rw [wipe_get, wipe_get]
  by_cases m : j ∈ vs
  · rw [if_pos m, if_pos m, wipe_length]
  · rw [if_neg m, if_neg m]
def wipeD (st : Slots) : List Nat → Slots
  | [] => st
  | v :: vs => (wipeD st vs).set v none
theorem SL.wipe {g : Gh} {L : Nat} {st : Slots} {σ : L2.St} (s : SL c g L st σ) : ∀ vs : List Nat, SL c g L (wipeD st vs) (L2.wipe σ vs)
  | [] => s
  | v :: vs => (SL.wipe s vs).unset v
/-- a comprehension's target: a name, or several -/
structure TgN (c : Cf) (vs : List Nat) (gt : TG) (fg : D → Slots → Option Slots) : Prop where
  ok : ∀ {v : V} {σ σ0 : L2.St} {H : Hp} {d : D} {st st1 : Slots} {h : Store} {g : Gh} {Q : L2.St → Hp → Prop}, SR c g h H → SL c g h.length st σ → RV c g h.length d v → fg d st = some st1 → (L2.wipe σ vs = σ0) →
    (∀ σ1, SL c g h.length st1 σ1 → L2.wipe σ1 vs = σ0 → Q σ1 H) → gt v σ H Q
def fName (i : Nat) : D → Slots → Option Slots := fun d st => some (st.set i (some d))
theorem tg_name {vs : List Nat} {i : Nat} (hi : i ∈ vs) : TgN c vs (gName i) (fName i) := ⟨fun {v σ σ0 H d st st1 h g Q} S sl r e ew k => by
  cases e
  exact k _ (sl.set i r) (by rw [wipe_set hi]; exact ew)⟩
def gNs : List Nat → TGs
  | [] => gNil
  | i :: r => gCons (gName i) (gNs r)
def fNs : List Nat → List D → Slots → Option Slots
  | [], [], st => some st
  | i :: r, d :: ds, st => fNs r ds (st.set i (some d))
  | _, _, _ => none
def fTup (is : List Nat) : D → Slots → Option Slots := fun d st => match d with
  | .tup ds => fNs is ds st
  | _ => none
theorem fNs_ok {vs : List Nat} {σ0 : L2.St} {H : Hp} {h : Store} {g : Gh} {Q : L2.St → Hp → Prop} (S : SR c g h H) : ∀ {is : List Nat} {ds : List D} {xs : List V} {st st1 : Slots} {σ : L2.St}, (∀ i ∈ is, i ∈ vs) → SL c g h.length st σ → RVs c g h.length ds xs → fNs is ds st = some st1 →
    L2.wipe σ vs = σ0 → (∀ σ1, SL c g h.length st1 σ1 → L2.wipe σ1 vs = σ0 → Q σ1 H) → gNs is xs σ H Q
  | [], [], _, st, st1, σ, _, sl, .nil, e, ew, k => by
    have e : some st = some st1 := e
    cases e
    exact ⟨rfl, k σ sl ew⟩
  | i :: is, d :: ds, _, st, st1, σ, hm, sl, .cons r rs, e, ew, k => by
    refine ⟨_, _, rfl, ?_⟩
    exact fNs_ok S (fun j hj => hm j (List.mem_cons_of_mem _ hj)) (sl.set i r) rs e (by rw [wipe_set (hm i List.mem_cons_self)]; exact ew) k
  | [], _ :: _, _, _, _, _, _, _, _, e, _, _ => by cases e
  | _ :: _, [], _, _, _, _, _, _, _, e, _, _ => by cases e
theorem fNs_len : ∀ {is : List Nat} {ds : List D} {st st1 : Slots}, fNs is ds st = some st1 → ds.length = is.length
  | [], [], _, _, _ => rfl
  | _ :: is, _ :: ds, _, _, e => by simp only [List.length_cons]; rw [fNs_len (is := is) (ds := ds) e]
  | [], _ :: _, _, _, e => by cases e
  | _ :: _, [], _, _, e => by cases e
theorem tg_tup {vs : List Nat} {is : List Nat} (hi : ∀ i ∈ is, i ∈ vs) : TgN c vs (gTup c.K is.length (gNs is)) (fTup is) := ⟨fun {v σ σ0 H d st st1 h g Q} S sl r e ew k => by
  cases d with
  | tup ds =>
    obtain ⟨a, xs, rfl, hq, rs⟩ := RV.tup' S r
    have e : fNs is ds st = some st1 := e
    exact ⟨a, xs, rfl, hq, by rw [← rs.length]; exact fNs_len e, fNs_ok S hi sl rs e ew k⟩
  | _ => cases e⟩
/-- no exception is let out -/
def Res.sure {α : Type} : Res α → Res α
  | .ok a h => .ok a h
  | _ => .no
@[simp] theorem Res.sure_ok {α : Type} (a : α) (h : Store) : (Res.ok a h).sure = .ok a h := rfl
@[simp] theorem Res.sure_exc {α : Type} (e : Exn) (h : Store) : (Res.exc e h : Res α).sure = .no := rfl
@[simp] theorem Res.sure_no {α : Type} : (Res.no : Res α).sure = .no := rfl
def lcL (fg : D → Slots → Option Slots) (ft : Ev Bool) (fe : Ev D) (st0 : Slots) : List D → Store → Res (List D)
  | [], h => .ok [] h
  | d :: l, h => match fg d st0 with
    | none => .no
    | some st1 => (ft st1 h).sure.bind fun b h1 => if b = true then (fe st1 h1).sure.bind fun y h2 => (lcL fg ft fe st0 l h2).bind fun ys h3 => .ok (y :: ys) h3 else lcL fg ft fe st0 l h1
def cLc (m : Bool) (fi : Ev (List D)) (fg : D → Slots → Option Slots) (ft : Ev Bool) (fe : Ev D) (own : List Nat) : Ev D := fun st h =>
  (fi st h).bind fun l h1 => if l.length ≤ sizeLine then (lcL fg ft fe (wipeD st own) l h1).bind fun ys h2 => alloc m ys h2 else .no
theorem Go.side {g1 g : Gh} {h1 h : Store} {H1 H : Hp} {a : Addr} {o : HO} (x : Go g1 h1 H1 g h H) (n : H1 a = none) : Go g1 h1 H1 g h (upd H a o) :=
  ⟨x.len, x.io, x.tr, fun b u e nt => by
    obtain ⟨o', e1, n1⟩ := x.dm b u e nt
    exact ⟨o', by rw [upd_ne (ne_of_none e n)]; exact e1, n1⟩, fun b u e nt nl => by
    rw [upd_ne (ne_of_none e n)]
    exact x.fr b u e nt nl, x.tn, x.old, x.new⟩
theorem SR.side {g : Gh} {h : Store} {H : Hp} {a : Addr} {xs ys : List V} (S : SR c g h H) (ha : H a = some (.lst xs)) (ta : g.tr a = none) (nl : ∀ n, Live h n → g.io n ≠ a) : SR c g h (upd H a (.lst ys)) :=
  ⟨fun b u e => by rw [upd_ne (fun z => by rw [z, ta] at e; cases e)]; exact S.sub b u e, S.apart, fun n ce e => (S.cell n ce e).mono (Gx.refl _ _) (Nat.le_refl _) (upd_ne (nl n ⟨ce, e⟩)), S.inj, tabs_write S.tabs ha trivial (fun φ z => by cases z), S.nt⟩
theorem SR.side0 {g : Gh} {h : Store} {H : Hp} {a : Addr} {o : HO} (S : SR c g h H) (ha : H a = none) : SR c g h (upd H a o) ∧ g.tr a = none ∧ ∀ n, Live h n → g.io n ≠ a := by
  have nl : ∀ n, Live h n → g.io n ≠ a := fun n ⟨ce, e⟩ z => by
    obtain ⟨u, q, _⟩ := (S.cell n ce e).some
    rw [z, ha] at q
    cases q
  have ta : g.tr a = none := by
    cases e : g.tr a with
    | none => rfl
    | some u => rw [S.sub _ _ e] at ha; cases ha
  exact ⟨⟨fun b u e => by rw [upd_ne (fun z => by rw [z, ta] at e; cases e)]; exact S.sub b u e, S.apart, fun n ce e => (S.cell n ce e).mono (Gx.refl _ _) (Nat.le_refl _) (upd_ne (nl n ⟨ce, e⟩)), S.inj, tabs_alloc S.tabs ha, S.nt⟩, ta, nl⟩
/-- what is left of the comprehension -/
def lcRest (m : Bool) (fg : D → Slots → Option Slots) (ft : Ev Bool) (fe : Ev D) (st0 : Slots) (acc l : List D) (h : Store) : Res D := (lcL fg ft fe st0 l h).bind fun ys h2 => alloc m (acc ++ ys) h2
abbrev W0 : WX := fun _ _ _ _ => False
theorem lc_ok {m : Bool} {gt : TG} {fi : Ev (List D)} {fg : D → Slots → Option Slots} {ft : Ev Bool} {fe : Ev D} {vs : List Nat} (tgn : TgN c vs gt fg) {σ : L2.St} {H : Hp} {Q : VK}
    (x : tEv c W (cLc m fi fg ft fe vs) σ H Q) : tLc (tIt c W fi) gt (tTe c W0 ft) (tEv c W0 fe) vs σ H Q := by
  obtain ⟨st, h, g, S, sl, q⟩ := x
  refine ⟨st, h, g, S, sl, RP.mono (RP.bind q) fun J H1 ⟨l, h1, g1, o1, S1, k1, q1⟩ => ?_⟩
  by_cases hl : l.length ≤ sizeLine
  case neg => rw [if_neg hl] at q1; exact q1.elim
  rw [if_pos hl] at q1
  intro D0 nD
  have sl1 := (sl.go o1).wipe vs
  obtain ⟨S1', t1, nl1⟩ := S1.side0 (o := .lst []) nD
  have dt : ∀ ys : List V, ∀ ps, (HO.lst ys) ≠ .tbl ps := fun ys ps z => by cases z
  refine ⟨fun i m' H => m' = l.length - i ∧ i ≤ l.length ∧ ∃ acc ws h g, SR c g h H ∧ Go g1 h1 H1 g h H ∧ H D0 = some (.lst ws) ∧ g.tr D0 = none ∧ (∀ n, Live h n → g.io n ≠ D0) ∧ RVs c g h.length acc ws ∧ acc.length ≤ i ∧
    RP c (Rv c) g1 h1 H1 (lcRest m fg ft fe (wipeD st vs) acc (l.drop i) h) Q (fun cls dd H' => W cls dd σ H'), ⟨_, rfl, Nat.zero_le _, [], [], h1, g1, S1', (Go.refl _ _ _).side nD, upd_same, t1, nl1, .nil, Nat.le_refl _, q1⟩, ?_⟩
  rintro i m' H ⟨rfl, hi, acc, ws, h, g, S, o, hD, tD, nlD, rs, ha, q⟩
  obtain ⟨ks, kg⟩ := k1 g h H i S o.gx o.len
  by_cases hlt : i < l.length
  · obtain ⟨go, yl⟩ := kg l[i] (List.getElem?_eq_getElem hlt)
    refine .inr ⟨go, fun H => ∃ acc ws h g, SR c g h H ∧ Go g1 h1 H1 g h H ∧ H D0 = some (.lst ws) ∧ g.tr D0 = none ∧ (∀ n, Live h n → g.io n ≠ D0) ∧ RVs c g h.length acc ws ∧ acc.length ≤ i + 1 ∧
      RP c (Rv c) g1 h1 H1 (lcRest m fg ft fe (wipeD st vs) acc (l.drop (i + 1)) h) Q (fun cls dd H' => W cls dd σ H'), fun H' x => ⟨l.length - (i + 1), by omega, rfl, hlt, x⟩, fun x H' y => ?_⟩
    obtain ⟨g2, o2, S2, r2⟩ := yl x H' y
    rw [List.drop_eq_getElem_cons hlt] at q
    unfold lcRest lcL at q
    cases e1 : fg l[i] (wipeD st vs) with
    | none => rw [e1] at q; exact q.elim
    | some st1 =>
      rw [e1] at q
      dsimp only at q
      have o12 := o.trans o2
      refine tgn.ok S2 (((sl.go o1).go o12).wipe vs) r2 e1 wipe_wipe fun σ2 sl2 ew => ⟨ew, st1, h, g2, S2, sl2, ?_⟩
      have hD2 := o2.fr _ _ hD (dt _) nlD
      have tD2 := o2.tn _ _ hD (dt _) tD nlD
      have nlD2 := o2.apart hD (dt _) nlD
      have rs2 := rs.mono o2.gx o2.len
      cases e2 : ft st1 h with
      | no => rw [e2] at q; exact q.elim
      | exc ee h3 => rw [e2] at q; exact q.elim
      | ok b h3 =>
        rw [e2, Res.sure_ok, Res.bind_ok] at q
        intro g3 H3 b' o3 S3 eb
        have eb : b = b' := eb
        subst eb
        have hD3 := o3.fr _ _ hD2 (dt _) nlD2
        have tD3 := o3.tn _ _ hD2 (dt _) tD2 nlD2
        have nlD3 := o3.apart hD2 (dt _) nlD2
        have rs3 := rs2.mono o3.gx o3.len
        cases b with
        | false =>
          exact ⟨acc, ws, h3, g3, S3, o12.trans o3, hD3, tD3, nlD3, rs3, Nat.le_succ_of_le ha, q⟩
        | true =>
          rw [if_pos rfl]
          refine ⟨st1, h3, g3, S3, sl2.go o3, ?_⟩
          cases e3 : fe st1 h3 with
          | no => rw [if_pos rfl, e3] at q; exact q.elim
          | exc ee h4 => rw [if_pos rfl, e3] at q; exact q.elim
          | ok yv h4 =>
            intro g4 H4 v4 o4 S4 r4
            have hD4 := o4.fr _ _ hD3 (dt _) nlD3
            have tD4 := o4.tn _ _ hD3 (dt _) tD3 nlD3
            have nlD4 := o4.apart hD3 (dt _) nlD3
            have rs4 := rs3.mono o4.gx o4.len
            refine ⟨ws, hD4, by rw [← rs.length]; omega, acc ++ [yv], ws ++ [v4], h4, g4, S4.side hD4 tD4 nlD4, ((o12.trans o3).trans o4).side nD, upd_same, tD4, nlD4, rs4.append (.cons r4 .nil), by rw [List.length_append, List.length_singleton]; omega, ?_⟩
            rw [if_pos rfl, e3, Res.sure_ok, Res.bind_ok] at q
            unfold lcRest
            cases e4 : lcL fg ft fe (wipeD st vs) (l.drop (i + 1)) h4 with
            | no => rw [e4] at q; exact q
            | exc ee h5 => rw [e4] at q; exact q
            | ok ys h5 =>
              rw [e4] at q
              rw [Res.bind_ok, List.append_assoc]
              exact q
  · have e : i = l.length := by omega
    subst e
    rw [List.drop_length] at q
    unfold lcRest lcL at q
    rw [Res.bind_ok, List.append_nil] at q
    refine .inl ⟨ks (Nat.le_refl _), ?_⟩
    cases m with
    | false =>
      have q : RP c (Rv c) g1 h1 H1 (.ok (.lst acc) h) Q _ := q
      have gx : Gx g h.length { g with tr := upd g.tr D0 (.lst ws) } := ⟨fun _ _ => rfl, fun a u e => by
        show upd g.tr D0 (.lst ws) a = some u
        rw [upd_ne (fun z => by rw [z, tD] at e; cases e)]
        exact e⟩
      refine q { g with tr := upd g.tr D0 (.lst ws) } H (.ref D0) ⟨o.len, o.io, fun a u e => gx.tr a u (o.tr a u e), o.dm, o.fr, fun a u e nt t nl => ?_, o.old, o.new⟩ ⟨fun a u e => ?_, fun n ln => ?_, fun n ce e => (S.cell n ce e).mono gx (Nat.le_refl _) rfl, S.inj, S.tabs, nt_upd S.nt (by intro ps z; cases z)⟩ (.lst upd_same (rs.mono gx (Nat.le_refl _)))
      · show upd g.tr D0 (.lst ws) a = none
        rw [upd_ne (ne_of_none e nD)]
        exact o.tn a u e nt t nl
      · have e : upd g.tr D0 (.lst ws) a = some u := e
        by_cases z : a = D0
        · rw [z, upd_same] at e
          rw [z, hD]
          exact e
        · rw [upd_ne z] at e
          exact S.sub a u e
      · show upd g.tr D0 (.lst ws) (g.io n) = none
        rw [upd_ne (nlD n ln)]
        exact S.apart n ln
    | true =>
      have q : RP c (Rv c) g1 h1 H1 (.ok (.ref h.length) (h ++ [some (.lst acc)])) Q _ := q
      have gx : Gx g h.length (g.push h.length D0) := ⟨fun n hn => by
        show (if n = h.length then D0 else g.io n) = g.io n
        rw [if_neg (Nat.ne_of_lt hn)], fun _ _ e => e⟩
      have ioL : (g.push h.length D0).io h.length = D0 := by
        show (if h.length = h.length then D0 else _) = D0
        rw [if_pos rfl]
      have io : ∀ n, Live h n → (g.push h.length D0).io n = g.io n := fun n l => gx.io n l.lt
      have q2 := q (g.push h.length D0) H (.ref ((g.push h.length D0).io h.length)) ⟨by rw [List.length_append]; exact Nat.le_trans o.len (Nat.le_add_right _ _), fun n hn => (gx.io n (Nat.lt_of_lt_of_le hn o.len)).trans (o.io n hn), o.tr, o.dm, o.fr, o.tn, fun n hn ln => ?_, fun n hn ln => ?_⟩
        ⟨S.sub, fun n ln => ?_, fun n ce e => ?_, fun n k l1 l2 e => ?_, S.tabs, S.nt⟩ (.ref (by simp))
      · rw [ioL] at q2
        exact q2
      · rcases live_push ln with l | rfl
        · exact o.old n hn l
        · exact absurd hn (Nat.not_lt.mpr o.len)
      · rcases live_push ln with l | rfl
        · rw [io n l]
          exact o.new n hn l
        · intro o e
          rw [ioL, nD] at e
          cases e
      · show g.tr _ = none
        rcases live_push ln with l | rfl
        · rw [io n l]
          exact S.apart n l
        · rw [ioL]
          exact tD
      · rcases live_push ⟨ce, e⟩ with l | rfl
        · rw [List.getElem?_append_left l.lt] at e
          rw [io n l]
          exact (S.cell n ce e).mono gx (by simp) rfl
        · have e2 : ce = .lst acc := by simpa using e.symm
          rw [e2, ioL]
          exact ⟨ws, hD, rs.mono gx (by simp)⟩
      · rcases live_push l1 with l1 | rfl <;> rcases live_push l2 with l2 | rfl
        · rw [io n l1, io k l2] at e
          exact S.inj n k l1 l2 e
        · rw [io n l1, ioL] at e
          exact absurd e (nlD n l1)
        · rw [io k l2, ioL] at e
          exact absurd e.symm (nlD k l2)
        · rfl
theorem PTs.imp {es : List Expr} {t t' : TT} (p : PTs X es t) (k : ∀ σ H Q, t' σ H Q → t σ H Q) : PTs X es t' := ⟨fun pins s σ H Q I h => p.run pins s σ H Q I (k σ H Q h)⟩
def cYes : Ev Bool := fun _ h => .ok true h
theorem ts_nil : PTs X [] (tTe c W cYes) := PTs.imp pts_nil fun σ H Q ⟨st, h, g, S, sl, q⟩ => RP.ok_here (α := Bool) (β := Bool) (R := Rb) q S rfl
theorem ts_one {t : Expr} {ft : Ev Bool} (h : PT X t (tTe c W ft)) : PTs X [t] (tTe c W ft) := pts_one h
theorem e_lc {m : Bool} {elt iter : Expr} {ifs : List Expr} {scope : Scope} {own : List (Str × Nat)} {gt : TG} {fi : Ev (List D)} {fg : D → Slots → Option Slots} {ft : Ev Bool} {fe : Ev D} (hc : X.calm = true) (hN : X.N.Nodup) (hi : PI X tg iter (tIt c W fi)) (ok : BlkOk X.N X.env.scope scope own)
    (hg : ∀ (s : Shared) (H : Hp) (C : Addr) (cl : List (Str × Addr)) (fp : List Addr), PG (X.blk s H scope (compEnvC scope cl C X.env) fp) tg gt) (tgn : TgN c (own.map (·.2)) gt fg)
    (ht : ∀ (s : Shared) (H : Hp) (C : Addr) (cl : List (Str × Addr)) (fp : List Addr), PTs (X.blk s H scope (compEnvC scope cl C X.env) fp) ifs (tTe c W0 ft))
    (he : ∀ (s : Shared) (H : Hp) (C : Addr) (cl : List (Str × Addr)) (fp : List Addr), PE (X.blk s H scope (compEnvC scope cl C X.env) fp) elt (tEv c W0 fe)) (hs : ∀ x, foldedSetIterable iter X.env x = pure x := by intro _; rfl) :
    PE X (.ListComp elt [⟨tg, iter, ifs, 0⟩] scope pos) (tEv c W (cLc m fi fg ft fe (own.map (·.2)))) := PE.imp (pe_lc hc hN hi ok hg ht he hs) fun σ H Q x => lc_ok tgn x
/-- name = [..] -/
theorem s_setLc {m : Bool} {i : Nat} {y : Str} {py spos : Pos} {elt iter : Expr} {ifs : List Expr} {scope : Scope} {own : List (Str × Nat)} {gt : TG} {fi : Ev (List D)} {fg : D → Slots → Option Slots} {ft : Ev Bool} {fe : Ev D} (hc : X.calm = true) (hN : X.N.Nodup) (hy : X.N[i]? = some y) (hyl : X.env.scope.names.lookup y = some .local)
    (hsw : swapsWith (.ListComp elt [⟨tg, iter, ifs, 0⟩] scope pos) (some (.Name y py)) spos.line X.env = pure true) (hi : PI X tg iter (tIt c W fi)) (ok : BlkOk X.N X.env.scope scope own)
    (hg : ∀ (s : Shared) (H : Hp) (C : Addr) (cl : List (Str × Addr)) (fp : List Addr), PG (X.blk s H scope (compEnvC scope cl C X.env) fp) tg gt) (tgn : TgN c (own.map (·.2)) gt fg)
    (ht : ∀ (s : Shared) (H : Hp) (C : Addr) (cl : List (Str × Addr)) (fp : List Addr), PTs (X.blk s H scope (compEnvC scope cl C X.env) fp) ifs (tTe c W0 ft))
    (he : ∀ (s : Shared) (H : Hp) (C : Addr) (cl : List (Str × Addr)) (fp : List Addr), PE (X.blk s H scope (compEnvC scope cl C X.env) fp) elt (tEv c W0 fe)) (hs : ∀ x, foldedSetIterable iter X.env x = pure x := by intro _; rfl) :
    PS X (.Assign [.Name y py] (.ListComp elt [⟨tg, iter, ifs, 0⟩] scope pos) spos) (tSt c W (sSet i (cLc m fi fg ft fe (own.map (·.2))))) := PS.imp (ps_setLc hc hN hy hyl hsw hi ok hg ht he hs) fun D σ H ⟨st, h, g, S, sl, q⟩ => by
  show tLc _ _ _ _ _ σ H (fun x H1 => gName i x σ H1 D.nx)
  exact lc_ok (m := m) tgn ⟨st, h, g, S, sl, RP.mono (OP.out sl q) fun v H1 ⟨d, h1, g1, o1, S1, r1, q1⟩ => q1 g1 H1 _ (Go.refl _ _ _) S1 ((sl.go o1).set i r1)⟩
end
end Gm

/-! Gm6: built-ins, methods, subscripts, slices. -/
namespace Gm
open PySem PySem.Spec PyProof.Rows L2

/-! ### calls by values -/
abbrev CallT := List D → Store → Res D
def CROk (c : Cf) (r : List V → Hp → VK → Prop) (F : CallT) : Prop :=
  ∀ g h H ds vs Q E, SR c g h H → RVs c g h.length ds vs → RP c (Rv c) g h H (F ds h) Q E → r vs H Q
def cB (F : CallT) (fs : Ev (List D)) : Ev D := fun st h => (fs st h).bind F
section
variable {c : Cf} {W : WX} {X : Cx} {e : Expr} {es : List Expr} {fs : Ev (List D)} {x : Str} {p pos : Pos} {id T : String} {r r' : List V → Hp → VK → Prop} {F : CallT}
theorem CROk.orL (k : CROk c r F) : CROk c (fun xs H Q => r xs H Q ∨ r' xs H Q) F := fun g h H ds vs Q E S rs q => .inl (k g h H ds vs Q E S rs q)
theorem crB {σ : L2.St} {H : Hp} {Q : VK} (k : CROk c r F) (q : tEv c W (cB F fs) σ H Q) : tCB r (tAr c W fs) σ H Q := by
  obtain ⟨st, h, g, S, sl, q⟩ := q
  exact ⟨st, h, g, S, sl, RP.mono (RP.bind q) fun vs H1 ⟨ds, h1, g1, o1, S1, r1, q1⟩ => k g1 h1 H1 ds vs Q _ S1 r1 q1⟩
theorem e_cb (hc : CallR X (.builtin id) r) (k : CROk c r F) (hg : Gl X x) (hm : X.mg x = none) (hv : bootBuiltins x = some (.builtin id)) (ha : PA X (e :: es) (tAr c W fs)) (hn : x ≠ "__name__" := by decide) (hdb : (x == ("__debug__" : Str)) = false := by decide)
    (he : starEach (e :: es) X.env = (false, eval e X.env) :: starEach es X.env := by rfl) (hpl : (backTo pos (starEach es X.env)).any (·.1) = false := by rfl) : PE X (.Call (.Name x p) (e :: es) [] pos) (tEv c W (cB F fs)) := PE.imp (pe_callB hc hg hm hv ha hn hdb he hpl) fun _ _ _ => crB k
theorem e_ct (hc : CallR X (.type T) r) (k : CROk c r F) (hg : Gl X x) (hm : X.mg x = none) (hv : bootBuiltins x = some (.type T)) (ha : PA X (e :: es) (tAr c W fs)) (hn : x ≠ "__name__" := by decide) (hdb : (x == ("__debug__" : Str)) = false := by decide)
    (he : starEach (e :: es) X.env = (false, eval e X.env) :: starEach es X.env := by rfl) (hpl : (backTo pos (starEach es X.env)).any (·.1) = false := by rfl) : PE X (.Call (.Name x p) (e :: es) [] pos) (tEv c W (cB F fs)) := PE.imp (pe_callTy hc hg hm hv ha hn hdb he hpl) fun _ _ _ => crB k
end

/-! ### len, list, sum, all, any, str -/
section
variable {c : Cf} {X : Cx}
def fLen : CallT := fun ds h => match ds with
  | [.str z] => if z.length ≤ sizeLine then .ok (.int z.length) h else .no
  | [.tup l] => .ok (.int l.length) h
  | [d] => match asR h d with
    | some l => .ok (.int l.length) h
    | none => .no
  | _ => .no
def rLen (K : PySem.W.Frag) : List V → Hp → VK → Prop := fun xs H Q => (∃ p ys, xs = [.ref p] ∧ (SqL K H p ys ∨ SqT K H p ys) ∧ Q (.int ys.length) H) ∨ ∃ z, xs = [.str z] ∧ z.length ≤ sizeLine ∧ Q (.int z.length) H
theorem rLen_ok : CallR X (.builtin "len") (rLen X.K) := CallR.or call_len_seq call_len_str
theorem fLen_ok : CROk c (rLen c.K) fLen := by
  intro g h H ds vs Q E S rs q
  unfold fLen at q
  split at q
  · rename_i z
    cases rs with
    | cons r rr =>
      cases rr
      cases r
      by_cases hz : z.length ≤ sizeLine
      · rw [if_pos hz] at q
        exact .inr ⟨z, rfl, hz, RP.ok_here q S (.int _)⟩
      · rw [if_neg hz] at q
        exact q.elim
  · rename_i l
    cases rs with
    | cons r rr =>
      cases rr
      obtain ⟨a, vs, rfl, hq, r2⟩ := RV.tup' S r
      exact .inl ⟨a, vs, rfl, .inr hq, by rw [← r2.length]; exact RP.ok_here q S (.int _)⟩
  · rename_i d _ _
    split at q
    · rename_i l el
      cases rs with
      | cons r rr =>
        cases rr
        obtain ⟨a, vs, rfl, hq, r2⟩ := asR_ok S r el
        exact .inl ⟨a, vs, rfl, .inl hq, by rw [← r2.length]; exact RP.ok_here q S (.int _)⟩
    · exact q.elim
  · exact q.elim
/-- list(xs) of a list or a tuple -/
def fList (m : Bool) : CallT := fun ds h => match ds with
  | [.tup l] => alloc m l h
  | [d] => match asR h d with
    | some l => alloc m l h
    | none => .no
  | _ => .no
theorem fList_ok {m : Bool} : CROk c (fun xs H Q => ∃ p ys, xs = [.ref p] ∧ (SqL c.K H p ys ∨ SqT c.K H p ys) ∧ ∀ l, H l = none → Q (.ref l) (upd H l (.lst ys))) (fList m) := by
  intro g h H ds vs Q E S rs q
  unfold fList at q
  split at q
  · rename_i l
    cases rs with
    | cons r rr =>
      cases rr
      obtain ⟨a, vs, rfl, hq, r2⟩ := RV.tup' S r
      exact ⟨a, vs, rfl, .inr hq, alloc_ok S r2 q⟩
  · rename_i d _
    split at q
    · rename_i l el
      cases rs with
      | cons r rr =>
        cases rr
        obtain ⟨a, vs, rfl, hq, r2⟩ := asR_ok S r el
        exact ⟨a, vs, rfl, .inl hq, alloc_ok S r2 q⟩
    · exact q.elim
  · exact q.elim
/-- the ints, the truths of a list -/
def intsOf : List D → Option (List Int)
  | [] => some []
  | .int i :: l => (intsOf l).map (i :: ·)
  | _ => none
theorem intsOf_ok {g : Gh} {L : Nat} : ∀ {l : List D} {vs : List V} {ns : List Int}, RVs c g L l vs → intsOf l = some ns → vs = ns.map V.int
  | [], _, _, .nil, e => by cases e; rfl
  | d :: l, _, ns, .cons r rs, e => by
    cases r with
    | int i =>
      have e : (intsOf l).map (i :: ·) = some ns := e
      cases e2 : intsOf l with
      | none => rw [e2] at e; cases e
      | some ms =>
        rw [e2] at e
        cases e
        rw [intsOf_ok rs e2]
        rfl
    | _ => cases e
def boolsOf : List D → Option (List Bool)
  | [] => some []
  | .bl i :: l => (boolsOf l).map (i :: ·)
  | _ => none
theorem boolsOf_ok {g : Gh} {L : Nat} : ∀ {l : List D} {vs : List V} {ns : List Bool}, RVs c g L l vs → boolsOf l = some ns → vs = ns.map V.bl
  | [], _, _, .nil, e => by cases e; rfl
  | d :: l, _, ns, .cons r rs, e => by
    cases r with
    | bl i =>
      have e : (boolsOf l).map (i :: ·) = some ns := e
      cases e2 : boolsOf l with
      | none => rw [e2] at e; cases e
      | some ms =>
        rw [e2] at e
        cases e
        rw [boolsOf_ok rs e2]
        rfl
    | _ => cases e
def strsOf : List D → Option (List Str)
  | [] => some []
  | .str i :: l => (strsOf l).map (i :: ·)
  | _ => none
theorem strsOf_ok {g : Gh} {L : Nat} : ∀ {l : List D} {vs : List V} {ns : List Str}, RVs c g L l vs → strsOf l = some ns → vs = ns.map V.str
  | [], _, _, .nil, e => by cases e; rfl
  | d :: l, _, ns, .cons r rs, e => by
    cases r with
    | str i =>
      have e : (strsOf l).map (i :: ·) = some ns := e
      cases e2 : strsOf l with
      | none => rw [e2] at e; cases e
      | some ms =>
        rw [e2] at e
        cases e
        rw [strsOf_ok rs e2]
        rfl
    | _ => cases e
/-- a built-in of one list, by its items -/
def fOf1 {α : Type} (of : List D → Option α) (k : α → D) : CallT := fun ds h => match ds with
  | [d] => match asR h d with
    | some l => match of l with
      | some x => .ok (k x) h
      | none => .no
    | none => .no
  | _ => .no
theorem fOf1_ok {α : Type} {of : List D → Option α} {k : α → D} {kv : α → V} {mk : α → List V} (h1 : ∀ {g L l vs x}, RVs c g L l vs → of l = some x → vs = mk x) (h2 : ∀ g L x, RV c g L (k x) (kv x)) :
    CROk c (fun xs H Q => ∃ (a : Addr) (x : α), xs = [V.ref a] ∧ SqL c.K H a (mk x) ∧ Q (kv x) H) (fOf1 of k) := by
  intro g h H ds vs Q E S rs q
  unfold fOf1 at q
  split at q
  · rename_i d
    split at q
    · rename_i l el
      split at q
      · rename_i x ex
        cases rs with
        | cons r rr =>
          cases rr
          obtain ⟨a, vs, rfl, hq, r2⟩ := asR_ok S r el
          have ev := h1 r2 ex
          subst ev
          exact ⟨a, x, rfl, hq, RP.ok_here q S (h2 _ _ _)⟩
      · exact q.elim
    · exact q.elim
  · exact q.elim
def fSum : CallT := fOf1 intsOf fun ns => .int ns.sum
theorem fSum_ok : CROk c (rSum c.K) fSum := fOf1_ok (mk := fun ns => ns.map V.int) (kv := fun ns => V.int ns.sum) (fun rs e => intsOf_ok rs e) fun _ _ _ => .int _
def fAll : CallT := fOf1 boolsOf fun ns => .bl (ns.all id)
theorem fAll_ok : CROk c (rAll c.K) fAll := fOf1_ok (mk := fun ns => ns.map V.bl) (kv := fun ns => V.bl (ns.all id)) (fun rs e => boolsOf_ok rs e) fun _ _ _ => .bl _
def fAny : CallT := fOf1 boolsOf fun ns => .bl (ns.any id)
theorem fAny_ok : CROk c (rAny c.K) fAny := fOf1_ok (mk := fun ns => ns.map V.bl) (kv := fun ns => V.bl (ns.any id)) (fun rs e => boolsOf_ok rs e) fun _ _ _ => .bl _
/-- str(n) -/
def fStrI : CallT := fun ds h => match ds with
  | [.int i] => if i.natAbs.log2 < 1920 then .ok (.str (toString i)) h else .no
  | _ => .no
theorem fStrI_ok : CROk c (fun xs H Q => ∃ i : Int, xs = [.int i] ∧ i.natAbs.log2 < 1920 ∧ Q (.str (toString i)) H) fStrI := by
  intro g h H ds vs Q E S rs q
  unfold fStrI at q
  split at q
  · rename_i i
    cases rs with
    | cons r rr =>
      cases rr
      cases r
      by_cases hz : i.natAbs.log2 < 1920
      · rw [if_pos hz] at q
        exact ⟨i, rfl, hz, RP.ok_here q S (.str _)⟩
      · rw [if_neg hz] at q
        exact q.elim
  · exact q.elim
end

/-! ### methods -/
abbrev MethT := D → List D → Store → Res D
def MROk (c : Cf) (r : V → List V → Hp → VK → Prop) (F : MethT) : Prop :=
  ∀ g h H d v ds vs Q E, SR c g h H → RV c g h.length d v → RVs c g h.length ds vs → RP c (Rv c) g h H (F d ds h) Q E → r v vs H Q
def cM (F : MethT) (fo : Ev D) (fs : Ev (List D)) : Ev D := fun st h => (fo st h).bind fun d h1 => (fs st h1).bind fun ds h2 => F d ds h2
/-- the type whose methods are asked -/
def isTy (T : String) (h : Store) : D → Bool
  | .str _ => T == "str"
  | .lst _ => T == "list"
  | .fro _ => T == "list"
  | .tup _ => T == "tuple"
  | .dct _ => T == "dict"
  | .ref n => match h[n]? with
    | some (some (.lst _)) => T == "list"
    | some (some (.dct _)) => T == "dict"
    | _ => false
  | _ => false
def cMt (T : String) (F : MethT) (fo : Ev D) (fs : Ev (List D)) : Ev D := fun st h => (fo st h).bind fun d h1 => if isTy T h1 d = true then (fs st h1).bind fun ds h2 => F d ds h2 else .no
section
variable {c : Cf} {W : WX} {X : Cx} {e o : Expr} {es : List Expr} {fs : Ev (List D)} {fo : Ev D} {pos apos cpos : Pos} {name : Str} {id T : String} {r : V → List V → Hp → VK → Prop} {F : MethT}
theorem isTy_ok {g : Gh} {h : Store} {H : Hp} {d : D} {v : V} (hT : T ≠ "tuple") (S : SR c g h H) (rv : RV c g h.length d v) (e : isTy T h d = true) : tyV c.K T v H := by
  cases rv with
  | str x => exact beq_iff_eq.mp e
  | lst h1 r => exact .inl ⟨beq_iff_eq.mp e, _, .inl (.inl (S.sub _ _ h1))⟩
  | fro h1 r => exact .inl ⟨beq_iff_eq.mp e, _, SqL.sub S.sub h1⟩
  | tup h1 r => exact absurd (beq_iff_eq.mp e) hT
  | dct h1 r => exact .inr (.inr (.inl ⟨beq_iff_eq.mp e, .inl ⟨_, S.sub _ _ h1⟩⟩))
  | @ref n hn =>
    have e : (match h[n]? with
      | some (some (.lst _)) => T == "list"
      | some (some (.dct _)) => T == "dict"
      | _ => false) = true := e
    split at e
    · rename_i l e1
      obtain ⟨vs, e2, _⟩ := S.cell n _ e1
      exact .inl ⟨beq_iff_eq.mp e, _, .inl (.inl e2)⟩
    · rename_i l e1
      obtain ⟨vs, e2, _⟩ := S.cell n _ e1
      exact .inr (.inr (.inl ⟨beq_iff_eq.mp e, .inl ⟨_, e2⟩⟩))
    · cases e
  | _ => cases e
theorem e_m (hK : c.K = X.K) (hT : T ≠ "tuple") (pa : PlainAttrs T) (slot : Slot T name id) (hty : typeOf (.builtin id) = pure (.type "method_descriptor")) (hm : MtR X id r) (k : MROk c r F) (ho : PE X o (tEv c W fo)) (ha : PA X (e :: es) (tAr c W fs))
    (hb : attributeBase o name X.env (eval o X.env) = eval o X.env := by rfl) (hs : (((((backTo cpos (starEach (e :: es) X.env)).all fun x => !x.1) && (backToKw cpos (keywordEach [] X.env)).all fun x => x.1.isSome) && decide (((e :: es).length + ([] : List Keyword).length + if ([] : List Keyword).isEmpty = true then 0 else 1) < 30)) = true) := by rfl)
    (hl : (apos.endLine == cpos.line) = true := by rfl) (he : starEach (e :: es) X.env = (false, eval e X.env) :: starEach es X.env := by rfl) (hp : ((backTo cpos (starEach es X.env)).any (·.1)) = false := by rfl) :
    PE X (.Call (.Attribute o name apos) (e :: es) [] cpos) (tEv c W (cMt T F fo fs)) := PE.imp (pe_bm pa slot hty hm ho ha hb hs hl he hp) fun σ H Q ⟨st, h, g, S, sl, q⟩ => by
  refine ⟨st, h, g, S, sl, RP.mono (RP.bind q) fun v H1 ⟨d, h1, g1, o1, S1, r1, q1⟩ => ?_⟩
  by_cases ht : isTy T h1 d = true
  · rw [if_pos ht] at q1
    refine ⟨by rw [← hK]; exact isTy_ok hT S1 r1 ht, st, h1, g1, S1, sl.go o1, RP.mono (RP.bind q1) fun vs H2 ⟨ds, h2, g2, o2, S2, r2, q2⟩ => ?_⟩
    exact k g2 h2 H2 d v ds vs Q _ S2 (r1.mono o2.gx o2.len) r2 q2
  · rw [if_neg ht] at q1
    exact q1.elim
theorem e_m0 (hK : c.K = X.K) (hT : T ≠ "tuple") (pa : PlainAttrs T) (slot : Slot T name id) (hty : typeOf (.builtin id) = pure (.type "method_descriptor")) (hm : MtR X id r) (k : MROk c r F) (P : ∀ {to : TE}, PE X o to → PE X (.Call (.Attribute o name apos) [] [] cpos) (tBM0 X.K T r to)) (ho : PE X o (tEv c W fo)) :
    PE X (.Call (.Attribute o name apos) [] [] cpos) (tEv c W (cMt T F fo cNil)) := PE.imp (P ho) fun σ H Q ⟨st, h, g, S, sl, q⟩ => by
  refine ⟨st, h, g, S, sl, RP.mono (RP.bind q) fun v H1 ⟨d, h1, g1, o1, S1, r1, q1⟩ => ?_⟩
  by_cases ht : isTy T h1 d = true
  · rw [if_pos ht] at q1
    exact ⟨by rw [← hK]; exact isTy_ok hT S1 r1 ht, k g1 h1 H1 d v [] [] Q _ S1 r1 .nil q1⟩
  · rw [if_neg ht] at q1
    exact q1.elim

/-! ### lists' methods -/
/-- a cell that holds a list -/
def cellL (h : Store) : D → Option (Nat × List D)
  | .ref n => match h[n]? with
    | some (some (.lst l)) => some (n, l)
    | _ => none
  | _ => none
theorem cellL_ok {g : Gh} {h : Store} {H : Hp} {d : D} {v : V} {n : Nat} {l : List D} (S : SR c g h H) (r : RV c g h.length d v) (e : cellL h d = some (n, l)) : v = .ref (g.io n) ∧ h[n]? = some (some (.lst l)) ∧ ∃ vs, H (g.io n) = some (.lst vs) ∧ RVs c g h.length l vs := by
  cases r with
  | @ref m hm =>
    have e : (match h[m]? with
      | some (some (.lst l)) => some (m, l)
      | _ => none) = some (n, l) := e
    split at e
    · rename_i l' e2
      cases e
      obtain ⟨vs, q, r⟩ := S.cell _ _ e2
      exact ⟨rfl, e2, vs, q, r⟩
    · cases e
  | _ => cases e
def mAppend : MethT := fun d ds h => match cellL h d, ds with
  | some (n, l), [y] => if l.length < sizeLine then .ok .non (h.set n (some (.lst (l ++ [y])))) else .no
  | _, _ => .no
/-- a cell's list is changed -/
theorem cell_set {g : Gh} {h : Store} {H : Hp} {n : Nat} {l l' : List D} {vs' : List V} {Q : VK} {E : XK} {d : D} {v : V} (S : SR c g h H) (hn : h[n]? = some (some (.lst l))) (r : RVs c g h.length l' vs') (rv : RV c g h.length d v)
    (q : RP c (Rv c) g h H (.ok d (h.set n (some (.lst l')))) Q E) : Q v (upd H (g.io n) (.lst vs')) := by
  obtain ⟨S1, o1⟩ := S.write (o := .lst vs') (ce' := .lst l') hn ⟨vs', upd_same, r⟩
  exact q g _ v o1 S1 (by rw [List.length_set]; exact rv)
theorem mAppend_ok : MROk c rAppend mAppend := by
  intro g h H d v ds vs Q E S rv rs q
  unfold mAppend at q
  split at q
  · rename_i n l y e
    obtain ⟨rfl, e1, ws, e2, r2⟩ := cellL_ok S rv e
    cases rs with
    | cons r rr =>
      cases rr
      by_cases hl : l.length < sizeLine
      · rw [if_pos hl] at q
        exact ⟨_, ws, _, rfl, rfl, e2, by rw [← r2.length]; exact hl, cell_set S e1 (r2.append (.cons r .nil)) .non q⟩
      · rw [if_neg hl] at q
        exact q.elim
  · exact q.elim
/-- xs.pop(i) -/
def mPopAt : MethT := fun d ds h => match cellL h d, ds with
  | some (n, l), [.int i] => if -(2 ^ 63) ≤ i ∧ i < 2 ^ 63 then match seqIndex? i l.length with
      | some k => match l[k]? with
        | some y => .ok y (h.set n (some (.lst (l.eraseIdx k))))
        | none => .no
      | none => .no
    else .no
  | _, _ => .no
theorem mPopAt_ok : MROk c rPopAt mPopAt := by
  intro g h H d v ds vs Q E S rv rs q
  unfold mPopAt at q
  split at q
  · rename_i n l i e
    obtain ⟨rfl, e1, ws, e2, r2⟩ := cellL_ok S rv e
    cases rs with
    | cons r rr =>
      cases rr
      cases r
      by_cases hi : -(2 ^ 63) ≤ i ∧ i < 2 ^ 63
      · rw [if_pos hi] at q
        split at q
        · rename_i k ek
          split at q
          · rename_i y ey
            obtain ⟨w, ew, rw'⟩ := r2.get ey
            exact ⟨_, ws, i, k, w, rfl, rfl, e2, hi.1, hi.2, by rw [← r2.length]; exact ek, ew, cell_set S e1 (r2.eraseIdx k) rw' q⟩
          · exact q.elim
        · exact q.elim
      · rw [if_neg hi] at q
        exact q.elim
  · exact q.elim
/-- flat data as a value -/
def D.flat : D → Option V
  | .non => some .non
  | .bl b => some (.bl b)
  | .int i => some (.int i)
  | .str x => some (.str x)
  | _ => none
theorem flat_ok {g : Gh} {L : Nat} {d : D} {v w : V} (r : RV c g L d v) (e : d.flat = some w) : w = v ∧ flatV v = true := by
  cases r <;> first | (cases e; exact ⟨rfl, rfl⟩) | cases e
def flats : List D → Option (List V)
  | [] => some []
  | d :: l => match d.flat, flats l with
    | some v, some vs => some (v :: vs)
    | _, _ => none
theorem flats_ok {g : Gh} {L : Nat} : ∀ {l : List D} {vs ws : List V}, RVs c g L l vs → flats l = some ws → ws = vs ∧ vs.all flatV = true
  | [], _, _, .nil, e => by cases e; exact ⟨rfl, rfl⟩
  | d :: l, _, ws, .cons r rs, e => by
    unfold flats at e
    split at e
    · rename_i v vs' e1 e2
      cases e
      obtain ⟨rfl, f1⟩ := flat_ok r e1
      obtain ⟨rfl, f2⟩ := flats_ok rs e2
      exact ⟨rfl, by rw [List.all_cons, f1, f2]; rfl⟩
    · cases e
/-- the first place that is == y -/
def firstAt (y : V) : List V → Option Nat
  | [] => none
  | z :: l => if eqV z y = true then some 0 else (firstAt y l).map (· + 1)
theorem firstAt_ok {y : V} : ∀ {l : List V} {j : Nat}, firstAt y l = some j → (∃ z, l[j]? = some z ∧ eqV z y = true) ∧ ∀ (m : Nat) (z' : V), m < j → l[m]? = some z' → eqV z' y = false
  | [], j, e => by cases e
  | z :: l, j, e => by
    unfold firstAt at e
    by_cases h : eqV z y = true
    · rw [if_pos h] at e
      cases e
      exact ⟨⟨z, rfl, h⟩, fun m z' hm => absurd hm (Nat.not_lt_zero m)⟩
    · rw [if_neg h] at e
      cases e2 : firstAt y l with
      | none => rw [e2] at e; cases e
      | some k =>
        rw [e2] at e
        have e : k + 1 = j := by simpa using e
        subst e
        obtain ⟨⟨z2, h1, h2⟩, h3⟩ := firstAt_ok e2
        refine ⟨⟨z2, by simpa using h1, h2⟩, fun m z' hm hz => ?_⟩
        cases m with
        | zero =>
          have hz : z = z' := by simpa using hz
          rw [← hz]
          exact Bool.eq_false_iff.mpr h
        | succ m => exact h3 m z' (by omega) (by simpa using hz)
def mIndex : MethT := fun d ds h => match asR h d, ds with
  | some l, [y] => match y.flat, flats l with
    | some v, some vs => match firstAt v vs with
      | some j => .ok (.int (j : Nat)) h
      | none => .no
    | _, _ => .no
  | _, _ => .no
theorem mIndex_ok : MROk c (rIndex c.K) mIndex := by
  intro g h H d v ds vs Q E S rv rs q
  unfold mIndex at q
  split at q
  · rename_i l y e
    obtain ⟨a, ws, rfl, hq, r2⟩ := asR_ok S rv e
    cases rs with
    | cons r rr =>
      cases rr
      split at q
      · rename_i v1 vs1 e1 e2
        split at q
        · rename_i j ej
          obtain ⟨rfl, f1⟩ := flat_ok r e1
          obtain ⟨rfl, f2⟩ := flats_ok r2 e2
          obtain ⟨⟨z, h1, h2⟩, h3⟩ := firstAt_ok ej
          exact ⟨a, vs1, v1, j, z, rfl, rfl, hq, f1, f2, h1, h2, h3, RP.ok_here q S (.int _)⟩
        · exact q.elim
      · exact q.elim
  · exact q.elim
/-- sep.join(texts) -/
def mJoin : MethT := fun d ds h => match d, ds with
  | .str a, [.tup l] => match strsOf l with
    | some ys => if (ys.map (·.length)).sum + ys.length * a.length ≤ 16777216 then .ok (.str (Txt.join a ys)) h else .no
    | none => .no
  | .str a, [y] => match asR h y with
    | some l => match strsOf l with
      | some ys => if (ys.map (·.length)).sum + ys.length * a.length ≤ 16777216 then .ok (.str (Txt.join a ys)) h else .no
      | none => .no
    | none => .no
  | _, _ => .no
theorem mJoin_ok : MROk c (fun x xs H Q => ∃ a p, ∃ ys : List Str, x = .str a ∧ xs = [.ref p] ∧ (SqL c.K H p (ys.map V.str) ∨ SqT c.K H p (ys.map V.str)) ∧ (ys.map (·.length)).sum + ys.length * a.length ≤ 16777216 ∧ Q (.str (Txt.join a ys)) H) mJoin := by
  intro g h H d v ds vs Q E S rv rs q
  unfold mJoin at q
  split at q
  · rename_i a l
    cases rv
    cases rs with
    | cons r rr =>
      cases rr
      obtain ⟨p, ws, rfl, hq, r2⟩ := RV.tup' S r
      split at q
      · rename_i ys ey
        have ew := strsOf_ok r2 ey
        subst ew
        by_cases hz : (ys.map (·.length)).sum + ys.length * a.length ≤ 16777216
        · rw [if_pos hz] at q
          exact ⟨a, p, ys, rfl, rfl, .inr hq, hz, RP.ok_here q S (.str _)⟩
        · rw [if_neg hz] at q
          exact q.elim
      · exact q.elim
  · rename_i a y _
    cases rv
    cases rs with
    | cons r rr =>
      cases rr
      split at q
      · rename_i l el
        obtain ⟨p, ws, rfl, hq, r2⟩ := asR_ok S r el
        split at q
        · rename_i ys ey
          have ew := strsOf_ok r2 ey
          subst ew
          by_cases hz : (ys.map (·.length)).sum + ys.length * a.length ≤ 16777216
          · rw [if_pos hz] at q
            exact ⟨a, p, ys, rfl, rfl, .inl hq, hz, RP.ok_here q S (.str _)⟩
          · rw [if_neg hz] at q
            exact q.elim
        · exact q.elim
      · exact q.elim
  · exact q.elim

/-! ### in, not in -/
def inD (h : Store) (x y : D) : Option Bool := match x, y with
  | .str i, .str j => some (!(Builtin.Str.occurrences j i 0 j.length 1).isEmpty)
  | x, .tup l => match x.flat, flats l with
    | some v, some vs => some (inV v vs)
    | _, _ => none
  | x, y => match asR h y with
    | some l => match x.flat, flats l with
      | some v, some vs => some (inV v vs)
      | _, _ => none
    | none => none
def oIn (x y : D) (h : Store) : Res D := match inD h x y with
  | some b => .ok (.bl b) h
  | none => .no
def oNotIn (x y : D) (h : Store) : Res D := match inD h x y with
  | some b => .ok (.bl (!b)) h
  | none => .no
theorem inD_ok {g : Gh} {h : Store} {H : Hp} {x y : D} {v w : V} {b : Bool} (S : SR c g h H) (r1 : RV c g h.length x v) (r2 : RV c g h.length y w) (e : inD h x y = some b) :
    (∃ p xs, w = .ref p ∧ (SqL c.K H p xs ∨ SqT c.K H p xs) ∧ flatV v = true ∧ xs.all flatV = true ∧ inV v xs = b) ∨ ∃ i j, v = .str i ∧ w = .str j ∧ (!(Builtin.Str.occurrences j i 0 j.length 1).isEmpty) = b := by
  unfold inD at e
  split at e
  · cases r1; cases r2; cases e; exact .inr ⟨_, _, rfl, rfl, rfl⟩
  · split at e
    · rename_i v1 vs1 e1 e2
      cases e
      obtain ⟨p, ws, rfl, hq, r3⟩ := RV.tup' S r2
      obtain ⟨rfl, f1⟩ := flat_ok r1 e1
      obtain ⟨rfl, f2⟩ := flats_ok r3 e2
      exact .inl ⟨p, vs1, rfl, .inr hq, f1, f2, rfl⟩
    · cases e
  · split at e
    · rename_i l el
      split at e
      · rename_i v1 vs1 e1 e2
        cases e
        obtain ⟨p, ws, rfl, hq, r3⟩ := asR_ok S r2 el
        obtain ⟨rfl, f1⟩ := flat_ok r1 e1
        obtain ⟨rfl, f2⟩ := flats_ok r3 e2
        exact .inl ⟨p, vs1, rfl, .inl hq, f1, f2, rfl⟩
      · cases e
    · cases e
theorem oIn_ok : R2Ok c (fun x y H Q => rIn c.K false x y H Q ∨ (∃ i j, x = .str i ∧ y = .str j ∧ Q (.bl (!(Builtin.Str.occurrences j i 0 j.length 1).isEmpty)) H)) oIn := by
  intro g h H d1 v1 d2 v2 Q E S r1 r2 q
  unfold oIn at q
  cases e : inD h d1 d2 with
  | none => rw [e] at q; exact q.elim
  | some b =>
    rw [e] at q
    have q2 : Q (.bl b) H := RP.ok_here q S (.bl b)
    rcases inD_ok S r1 r2 e with ⟨p, xs, e1, e2, e3, e4, e5⟩ | ⟨i, j, e1, e2, e3⟩
    · exact .inl ⟨p, xs, e1, e2, e3, e4, by rw [if_neg Bool.false_ne_true, e5]; exact q2⟩
    · exact .inr ⟨i, j, e1, e2, by rw [e3]; exact q2⟩
theorem oNotIn_ok : R2Ok c (fun x y H Q => rIn c.K true x y H Q ∨ (∃ i j, x = .str i ∧ y = .str j ∧ Q (.bl (!(!(Builtin.Str.occurrences j i 0 j.length 1).isEmpty))) H)) oNotIn := by
  intro g h H d1 v1 d2 v2 Q E S r1 r2 q
  unfold oNotIn at q
  cases e : inD h d1 d2 with
  | none => rw [e] at q; exact q.elim
  | some b =>
    rw [e] at q
    have q2 : Q (.bl (!b)) H := RP.ok_here q S (.bl _)
    rcases inD_ok S r1 r2 e with ⟨p, xs, e1, e2, e3, e4, e5⟩ | ⟨i, j, e1, e2, e3⟩
    · exact .inl ⟨p, xs, e1, e2, e3, e4, by rw [if_pos rfl, e5]; exact q2⟩
    · exact .inr ⟨i, j, e1, e2, by rw [e3]; exact q2⟩

/-! ### a + b, a * b of any kind -/
def oAdd (m : Bool) (x y : D) (h : Store) : Res D := match x, y with
  | .int i, .int j => .ok (.int (i + j)) h
  | .str i, .str j => if i.length + j.length ≤ sizeLine then .ok (.str (i ++ j)) h else .no
  | x, y => match asL h x, asL h y with
    | some l, some k => if l.length + k.length ≤ sizeLine then alloc m (l ++ k) h else .no
    | _, _ => .no
theorem oAdd_ok {m : Bool} : R2Ok c (fun x y H Q => rI0 (fun i j => .int (i + j)) x y H Q ∨ (fun x y H Q => (∃ i j, x = .str i ∧ y = .str j ∧ i.length + j.length ≤ sizeLine ∧ Q (.str (i ++ j)) H) ∨ rCat x y H Q) x y H Q) (oAdd m) := by
  intro g h H d1 v1 d2 v2 Q E S r1 r2 q
  unfold oAdd at q
  split at q
  · rename_i i j
    cases r1; cases r2
    exact .inl ⟨i, j, rfl, rfl, RP.ok_here q S (.int _)⟩
  · rename_i i j
    cases r1; cases r2
    by_cases hz : i.length + j.length ≤ sizeLine
    · rw [if_pos hz] at q
      exact .inr (.inl ⟨i, j, rfl, rfl, hz, RP.ok_here q S (.str _)⟩)
    · rw [if_neg hz] at q
      exact q.elim
  · split at q
    · rename_i l k e1 e2
      obtain ⟨a, vs, rfl, h1, s1⟩ := asL_ok S r1 e1
      obtain ⟨b, ws, rfl, h2, s2⟩ := asL_ok S r2 e2
      by_cases hz : l.length + k.length ≤ sizeLine
      · rw [if_pos hz] at q
        exact .inr (.inr ⟨a, b, vs, ws, rfl, rfl, h1, h2, by rw [← s1.length, ← s2.length]; exact hz, alloc_ok S (s1.append s2) q⟩)
      · rw [if_neg hz] at q
        exact q.elim
    · exact q.elim
theorem b_add {m : Bool} {a b : Expr} {fa fb : Ev D} (ha : PE X a (tEv c W fa)) (hb : PE X b (tEv c W fb)) : PE X (.BinOp a .Add b pos) (tEv c W (cBin (oAdd m) fa fb)) := e_bin (OpR.or op_add (OpR.or op_add_str op_cat)) oAdd_ok ha hb
theorem e_in {a b : Expr} {fa fb : Ev D} (hK : c.K = X.K) (ha : PE X a (tEv c W fa)) (hb : PE X b (tEv c W fb)) (hm : behindInMarks .In b = false := by rfl) : PE X (.Compare a [.In] [b] pos) (tEv c W (cBin oIn fa fb)) := e_cmp (OpR.or op_in_seq op_in_str) (by rw [← hK]; exact oIn_ok) ha hb hm
theorem e_notIn {a b : Expr} {fa fb : Ev D} (hK : c.K = X.K) (ha : PE X a (tEv c W fa)) (hb : PE X b (tEv c W fb)) (hm : behindInMarks .NotIn b = false := by rfl) : PE X (.Compare a [.NotIn] [b] pos) (tEv c W (cBin oNotIn fa fb)) := e_cmp (OpR.or op_notIn_seq L2.op_notIn_str) (by rw [← hK]; exact oNotIn_ok) ha hb hm
theorem t_in {a b : Expr} {fa fb : Ev D} (hK : c.K = X.K) (ha : PE X a (tEv c W fa)) (hb : PE X b (tEv c W fb)) (hm : behindInMarks .In b = false := by rfl) : PT X (.Compare a [.In] [b] pos) (tTe c W (cTv (cBin oIn fa fb))) := t_cmp (OpR.or op_in_seq op_in_str) (by rw [← hK]; exact oIn_ok) ha hb hm
theorem t_notIn {a b : Expr} {fa fb : Ev D} (hK : c.K = X.K) (ha : PE X a (tEv c W fa)) (hb : PE X b (tEv c W fb)) (hm : behindInMarks .NotIn b = false := by rfl) : PT X (.Compare a [.NotIn] [b] pos) (tTe c W (cTv (cBin oNotIn fa fb))) := t_cmp (OpR.or op_notIn_seq L2.op_notIn_str) (by rw [← hK]; exact oNotIn_ok) ha hb hm

/-! ### subscripts -/
theorem atI_at {α : Type} {xs : List α} {i : Int} {v : α} (h : L2.atI xs i = some v) : ∃ j, L2.ixN xs.length i = some j ∧ xs[j]? = some v := by
  unfold L2.atI at h
  cases e : L2.ixN xs.length i with
  | none => rw [e] at h; cases h
  | some j => rw [e] at h; exact ⟨j, rfl, h⟩
def oIx (x y : D) (h : Store) : Res D := match x, y with
  | .str z, .int i => if z.length ≤ sizeLine then match L2.atI z.cps.toList i with
      | some k => .ok (.str ⟨#[k]⟩) h
      | none => .no
    else .no
  | .tup l, .int i => match L2.atI l i with
    | some d => .ok d h
    | none => .no
  | x, .int i => match asR h x with
    | some l => match L2.atI l i with
      | some d => .ok d h
      | none => .no
    | none => .no
  | _, _ => .no
theorem atI_rel {g : Gh} {L : Nat} {l : List D} {vs : List V} {i : Int} {d : D} (rs : RVs c g L l vs) (e : L2.atI l i = some d) : ∃ v, L2.atI vs i = some v ∧ RV c g L d v := by
  obtain ⟨j, h1, h2⟩ := atI_at e
  obtain ⟨y, h3, h4⟩ := rs.get h2
  refine ⟨y, ?_, h4⟩
  unfold L2.atI
  rw [← rs.length, h1]
  exact h3
theorem oIx_ok : R2Ok c (L2.rIx c.K) oIx := by
  intro g h H d1 v1 d2 v2 Q E S r1 r2 q
  unfold oIx at q
  split at q
  · rename_i z i
    cases r1; cases r2
    by_cases hz : z.length ≤ sizeLine
    · rw [if_pos hz] at q
      split at q
      · rename_i k ek
        exact .inr (.inr ⟨z, i, k, rfl, rfl, hz, ek, RP.ok_here q S (.str _)⟩)
      · exact q.elim
    · rw [if_neg hz] at q
      exact q.elim
  · rename_i l i
    cases r2
    obtain ⟨a, vs, rfl, hq, rs⟩ := RV.tup' S r1
    split at q
    · rename_i d ed
      obtain ⟨v, h1, h2⟩ := atI_rel rs ed
      exact .inr (.inl ⟨a, vs, i, v, rfl, rfl, hq, h1, RP.ok_here q S h2⟩)
    · exact q.elim
  · rename_i x i _ _
    cases r2
    split at q
    · rename_i l el
      obtain ⟨a, vs, rfl, hq, rs⟩ := asR_ok S r1 el
      split at q
      · rename_i d ed
        obtain ⟨v, h1, h2⟩ := atI_rel rs ed
        exact .inl ⟨a, vs, i, v, rfl, rfl, hq, h1, RP.ok_here q S h2⟩
      · exact q.elim
    · exact q.elim
  · exact q.elim
theorem e_item {a b : Expr} {fa fb : Ev D} (hK : c.K = X.K) (ha : PE X a (tEv c W fa)) (hb : PE X b (tEv c W fb)) (hs : PlainIx b := by exact fun _ _ => rfl) : PE X (.Subscript a b pos) (tEv c W (cBin oIx fa fb)) := e_ix ix_seq (by rw [← hK]; exact oIx_ok) ha hb hs
end
end Gm

/-! Gm7: stores to places, slices, pairs, keywords. -/
namespace Gm
open PySem PySem.Spec PyProof.Rows L2

/-! ### o[i] = v, o[i] op= v of a list's cell -/
section
variable {c : Cf} {W : WX} {X : Cx} {pos : Pos} {o i e : Expr} {fo fi fe : Ev D}
/-- the store to a place of a cell's list -/
def putAt (x y d : D) (h : Store) : Option Store := match cellL h x, y with
  | some (n, l), .int k => match L2.ixN l.length k with
    | some j => some (h.set n (some (.lst (l.set j d))))
    | none => none
  | _, _ => none
theorem putAt_ok {g : Gh} {h h' : Store} {H : Hp} {x y d : D} {vx vy vd : V} {Q : Hp → Prop} (S : SR c g h H) (rx : RV c g h.length x vx) (ry : RV c g h.length y vy) (rd : RV c g h.length d vd) (ep : putAt x y d h = some h')
    (k : ∀ H', Go g h H g h' H' → SR c g h' H' → Q H') : L2.rSetL vx vy vd H Q := by
  unfold putAt at ep
  split at ep
  · rename_i n l kk en
    split at ep
    · rename_i j ej
      cases ep
      cases ry
      obtain ⟨rfl, e1, ws, e2, rs⟩ := cellL_ok S rx en
      obtain ⟨S1, o1⟩ := S.write (o := .lst (ws.set j vd)) (ce' := .lst (l.set j d)) e1 ⟨_, upd_same, rs.set rd j⟩
      exact ⟨_, ws, kk, j, rfl, rfl, e2, by rw [← rs.length]; exact ej, k _ o1 S1⟩
    · cases ep
  · cases ep
def gtSub (fo fi : Ev D) : Tg := fun d st h => match (fo st h).sure, (fi st h).sure with
  | .ok x h1, .ok y h2 => match putAt x y d h with
    | some h' => some (st, h')
    | none => none
  | _, _ => none
/-- an expression that leaves the store as it is -/
def Still (f : Ev D) : Prop := ∀ st h d h', f st h = .ok d h' → h' = h
theorem still_var (i : Nat) : Still (cVar i) := fun st h d h' e => by
  unfold cVar at e
  split at e
  · cases e; rfl
  · cases e
theorem still_k (d : D) : Still (cK d) := fun st h d h' e => by cases e; rfl
theorem still_bin {fo : D → D → Store → Res D} {fa fb : Ev D} (ho : ∀ x y h d h', fo x y h = .ok d h' → h' = h) (ha : Still fa) (hb : Still fb) : Still (cBin fo fa fb) := fun st h d h' e => by
  unfold cBin at e
  cases e1 : fa st h with
  | ok x h1 =>
    rw [e1, Res.bind_ok] at e
    cases e2 : fb st h1 with
    | ok y h2 =>
      rw [e2, Res.bind_ok] at e
      rw [ho _ _ _ _ _ e, hb _ _ _ _ e2, ha _ _ _ _ e1]
    | exc _ _ => rw [e2] at e; cases e
    | no => rw [e2] at e; cases e
  | exc _ _ => rw [e1] at e; cases e
  | no => rw [e1] at e; cases e
/-- o[i] = e, as a statement -/
def sPut (fe fo fi : Ev D) : Ss := fun st h => (fe st h).out st fun d h1 => (fo st h1).out st fun x h2 => (fi st h2).out st fun y h3 => match putAt x y d h3 with
  | some h' => .next st h'
  | none => .no
theorem s_put (he : PE X e (tEv c W fe)) (ho : PE X o (tEv c W fo)) (hi : PE X i (tEv c W fi)) {p2 : Pos} (P : ∀ {te to ti : TE}, PE X e te → PE X o to → PE X i ti → PS X (.Assign [.Subscript o i p2] e pos) (tAsg te (gSub to ti L2.rSetL))) :
    PS X (.Assign [.Subscript o i p2] e pos) (tSt c W (sPut fe fo fi)) := PS.imp (P he ho hi) fun D σ H ⟨st, h, g, S, sl, q⟩ => by
  refine ⟨st, h, g, S, sl, RP.mono (OP.out sl q) fun v H1 ⟨d, h1, g1, o1, S1, r1, q1⟩ => ?_⟩
  refine ⟨st, h1, g1, S1, sl.go o1, RP.mono (OP.out (sl.go o1) q1) fun vx H2 ⟨x, h2, g2, o2, S2, r2, q2⟩ => ?_⟩
  have o12 := o1.trans o2
  refine ⟨st, h2, g2, S2, sl.go o12, RP.mono (OP.out (sl.go o12) q2) fun vy H3 ⟨y, h3, g3, o3, S3, r3, q3⟩ => ?_⟩
  cases ep : putAt x y d h3 with
  | none => rw [ep] at q3; exact q3.elim
  | some h' =>
    rw [ep] at q3
    exact putAt_ok S3 (r2.mono o3.gx o3.len) r3 (r1.mono (o2.trans o3).gx (o2.trans o3).len) ep fun H' o4 S4 => q3 g3 H' σ o4 S4 (sl.go ((o12.trans o3).trans o4))
theorem ps_put {p2 : Pos} {te to ti : TE} (he : PE X e te) (ho : PE X o to) (hi : PE X i ti) (ha : ∀ v, assign (.Subscript o i p2) X.env v = (do
      let ov ← holding [v] (eval o X.env)
      let iv ← holding [v, ov] (eval i X.env)
      standAt p2
      holding [v, ov, iv] (setItem ov iv v)
      release [v, ov, iv] []) := by intro _; rfl) (hs : swapsWithSole [.Subscript o i p2] e pos.line X.env = pure false := by rfl) (hw : swappedStores [.Subscript o i p2] e X.env = pure none := by rfl)
    (h1 : (assignEach [.Subscript o i p2] X.env).map (·.2) = [assign (.Subscript o i p2) X.env] := by rfl) : PS X (.Assign [.Subscript o i p2] e pos) (tAsg te (gSub to ti L2.rSetL)) := ps_asg he (pg_sub ho hi set_list ha) hs hw h1
/-- o[i], by values -/
theorem get_list : PGet X (L2.rIxL X.K) := by
  intro pins s σ H x y ov iv Q I rx ry q
  obtain ⟨p, xs, k, z, e1, e2, hq, he, hQ⟩ := q
  subst e1 e2
  cases rx
  obtain ⟨t, rfl⟩ := ry
  obtain ⟨its, rv, pl, hz⟩ := I.list hq
  obtain ⟨j, f1, f2, f3, f4, f5⟩ := L2.atI_get he
  obtain ⟨u, eu, ru⟩ := rv.get f2
  have hlen := rv.length
  have hbig := L2.line63
  by_cases hk : 0 ≤ k
  · have ej : k.toNat = j := Option.some.inj ((PySem.seqIndex_of hk f5).symm.trans f1)
    exact wpAny_getItem_list pl.isList hk (by omega) (by rw [ej]; simpa using eu) ⟨z, H, I, ru, hQ⟩
  · have ej : (k + (its.toArray.size : Int)).toNat = j := by
      rw [List.size_toArray, ← hlen]
      exact Option.some.inj ((PySem.seqIndex_neg (by omega) f4).symm.trans f1)
    exact wpAny_getItem_list_neg pl.isList (by omega) (by rw [List.size_toArray]; omega) (by omega) (by rw [ej]; simpa using eu) ⟨z, H, I, ru, hQ⟩
/-- o[i] of a cell's list -/
def getAt (x y : D) (h : Store) : Option D := match cellL h x, y with
  | some (_, l), .int k => L2.atI l k
  | _, _ => none
theorem getAt_ok {g : Gh} {h : Store} {H : Hp} {x y d : D} {vx vy : V} {Q : VK} (S : SR c g h H) (rx : RV c g h.length x vx) (ry : RV c g h.length y vy) (ep : getAt x y h = some d) (k : ∀ v, RV c g h.length d v → Q v H) : L2.rIxL c.K vx vy H Q := by
  unfold getAt at ep
  split at ep
  · rename_i n l kk en
    cases ry
    obtain ⟨rfl, e1, ws, e2, rs⟩ := cellL_ok S rx en
    obtain ⟨v, f1, f2⟩ := atI_rel rs ep
    exact ⟨_, ws, kk, v, rfl, rfl, .inl (.inl e2), f1, k v f2⟩
  · cases ep
/-- o[i] op= e -/
def sAugAt (fop : D → D → Store → Res D) (fo fi fe : Ev D) : Ss := fun st h => (fo st h).out st fun x h1 => (fi st h1).out st fun y h2 => match getAt x y h2 with
  | some old => (fe st h2).out st fun d h4 => (fop old d h4).out st fun z h5 => match putAt x y z h5 with
    | some h' => .next st h'
    | none => .no
  | none => .no
theorem s_augAt {op : Operator} {r : R2} {fop : D → D → Store → Res D} {tpos : Pos} (hK : c.K = X.K) (hop : OpR X (inplaceOp op) r) (hr : R2Ok c r fop) (ho : PE X o (tEv c W fo)) (hi : PE X i (tEv c W fi)) (he : PE X e (tEv c W fe))
    (ha : ∀ ov iv new, augStore i ov iv new = (do holding [new, ov, iv] (setItem ov iv new); release [new, ov, iv] []; pure .next) := by intros; rfl) : PS X (.AugAssign (.Subscript o i tpos) op e pos) (tSt c W (sAugAt fop fo fi fe)) :=
  PS.imp (ps_augS (tip := r) ho hi get_list he hop set_list ha) fun D σ H ⟨st, h, g, S, sl, q⟩ => by
    refine ⟨st, h, g, S, sl, RP.mono (OP.out sl q) fun vx H1 ⟨x, h1, g1, o1, S1, r1, q1⟩ => ?_⟩
    refine ⟨st, h1, g1, S1, sl.go o1, RP.mono (OP.out (sl.go o1) q1) fun vy H2 ⟨y, h2, g2, o2, S2, r2, q2⟩ => ?_⟩
    have o12 := o1.trans o2
    cases eg : getAt x y h2 with
    | none => rw [eg] at q2; exact q2.elim
    | some old =>
      rw [eg] at q2
      rw [← hK]
      refine getAt_ok S2 (r1.mono o2.gx o2.len) r2 eg fun v rold => ⟨st, h2, g2, S2, sl.go o12, RP.mono (OP.out (sl.go o12) q2) fun ve H3 ⟨d, h3, g3, o3, S3, r3, q3⟩ => ?_⟩
      have o13 := o12.trans o3
      refine hr g3 h3 H3 old v d ve _ _ S3 (rold.mono o3.gx o3.len) r3 (RP.mono (OP.out (sl.go o13) q3) fun vz H4 ⟨z, h4, g4, o4, S4, r4, q4⟩ => ?_)
      cases ep : putAt x y z h4 with
      | none => rw [ep] at q4; exact q4.elim
      | some h' =>
        rw [ep] at q4
        have o24 := o2.trans (o3.trans o4)
        have o34 := o3.trans o4
        exact putAt_ok S4 (r1.mono o24.gx o24.len) (r2.mono o34.gx o34.len) r4 ep fun H' o5 S5 => q4 g4 H' σ o5 S5 (sl.go ((o13.trans o4).trans o5))

/-! ### a, b = x, y -/
def sPar (i j : Nat) (fs : Ev (List D)) : Ss := fun st h => (fs st h).out st fun ds h1 => match ds with
  | [a, b] => .next ((st.set i (some a)).set j (some b)) h1
  | _ => .no
theorem s_par {i j : Nat} {s : Stmt} {fs : Ev (List D)} (P : PS X s (tPar i j (tAr c W fs))) : PS X s (tSt c W (sPar i j fs)) := PS.imp P fun D σ H ⟨st, h, g, S, sl, q⟩ =>
  ⟨st, h, g, S, sl, RP.mono (OP.out sl q) fun vs H1 ⟨ds, h1, g1, o1, S1, r1, q1⟩ => by
    split at q1
    · cases r1 with
      | cons r1 rr =>
        cases rr with
        | cons r2 rr =>
          cases rr
          exact ⟨_, _, rfl, q1 g1 H1 _ (Go.refl _ _ _) S1 (((sl.go o1).set i r1).set j r2)⟩
    · exact q1.elim⟩

/-! ### slices -/
def tPo (c : Cf) (W : WX) (f : Ev (Option Int)) : L2.TO := fun σ H Q => ∃ st h g, SR c g h H ∧ SL c g h.length st σ ∧ RP c (fun _ _ a b => a = b) g h H (f st h) Q (fun cls dd H' => W cls dd σ H')
theorem PO.imp {e : Option Expr} {t t' : L2.TO} (p : L2.PO X e t) (k : ∀ σ H Q, t' σ H Q → t σ H Q) : L2.PO X e t' := ⟨fun pins s σ H Q I h => p.run pins s σ H Q I (k σ H Q h)⟩
def cNoPart : Ev (Option Int) := fun _ h => .ok none h
def cPart (f : Ev D) : Ev (Option Int) := fun st h => (f st h).bind fun d h1 => match d with
  | .int i => .ok (some i) h1
  | _ => .no
theorem p_none : L2.PO X none (tPo c W cNoPart) := PO.imp po_none fun σ H Q ⟨st, h, g, S, sl, q⟩ => RP.ok_here (R := fun _ _ a b => a = b) q S rfl
theorem p_some {f : Ev D} (he : PE X e (tEv c W f)) : L2.PO X (some e) (tPo c W (cPart f)) := PO.imp (po_some he) fun σ H Q ⟨st, h, g, S, sl, q⟩ =>
  ⟨st, h, g, S, sl, RP.mono (RP.bind q) fun v H1 ⟨d, h1, g1, o1, S1, r1, q1⟩ => by
    cases r1 with
    | int i => exact ⟨i, rfl, RP.ok_here (R := fun _ _ a b => a = b) q1 S1 rfl⟩
    | _ => exact q1.elim⟩
def cutD (l : List D) (lo hi : Option Int) : List D := (l.drop (HT.sIx l.length 0 lo)).take (HT.sIx l.length l.length hi - HT.sIx l.length 0 lo)
theorem cutD_ok {g : Gh} {L : Nat} {l : List D} {vs : List V} {lo hi : Option Int} (r : RVs c g L l vs) : RVs c g L (cutD l lo hi) (L2.cutV vs lo hi) := by
  unfold cutD L2.cutV
  rw [← r.length]
  exact (r.drop _).take _
def oSl (m : Bool) (d : D) (lo hi : Option Int) (h : Store) : Res D := match d with
  | .str z => if z.length ≤ sizeLine then .ok (.str (cutS z lo hi)) h else .no
  | d => match asR h d with
    | some l => alloc m (cutD l lo hi) h
    | none => .no
def cSl (m : Bool) (fe : Ev D) (fl fh : Ev (Option Int)) : Ev D := fun st h => (fe st h).bind fun d h1 => (fl st h1).bind fun lo h2 => (fh st h2).bind fun hi h3 => oSl m d lo hi h3
theorem e_slice {m : Bool} {lo hi : Option Expr} {p2 : Pos} {fl fh : Ev (Option Int)} (hK : c.K = X.K) (he : PE X e (tEv c W fe)) (hl : L2.PO X lo (tPo c W fl)) (hh : L2.PO X hi (tPo c W fh)) : PE X (.Subscript e (.Slice lo hi none p2) pos) (tEv c W (cSl m fe fl fh)) :=
  PE.imp (pe_slice (SlR.or sl_list sl_str) he hl hh) fun σ H Q ⟨st, h, g, S, sl, q⟩ => by
    refine ⟨st, h, g, S, sl, RP.mono (RP.bind q) fun v H1 ⟨d, h1, g1, o1, S1, r1, q1⟩ => ?_⟩
    refine ⟨st, h1, g1, S1, sl.go o1, RP.mono (RP.bind (R' := fun _ _ a b => a = b) q1) fun l H2 ⟨l', h2, g2, o2, S2, r2, q2⟩ => ?_⟩
    have r2 : l' = l := r2
    subst r2
    refine ⟨st, h2, g2, S2, sl.go (o1.trans o2), RP.mono (RP.bind (R' := fun _ _ a b => a = b) q2) fun u H3 ⟨u', h3, g3, o3, S3, r3, q3⟩ => ?_⟩
    have r3 : u' = u := r3
    subst r3
    have rv := r1.mono (o2.trans o3).gx (o2.trans o3).len
    by_cases hd : ∃ z, d = .str z
    · obtain ⟨z, rfl⟩ := hd
      cases rv
      have q3 : RP c (Rv c) g3 h3 H3 (if z.length ≤ sizeLine then .ok (.str (cutS z l' u')) h3 else .no) Q _ := q3
      by_cases hz : z.length ≤ sizeLine
      · rw [if_pos hz] at q3
        exact .inr ⟨z, rfl, hz, RP.ok_here q3 S3 (.str _)⟩
      · rw [if_neg hz] at q3
        exact q3.elim
    · have ed : oSl m d l' u' h3 = (match asR h3 d with
        | some l => alloc m (cutD l l' u') h3
        | none => .no) := by
        cases d <;> first | rfl | exact absurd ⟨_, rfl⟩ hd
      rw [ed] at q3
      split at q3
      · rename_i k ek
        obtain ⟨a, vs, rfl, hq, rs⟩ := asR_ok S3 rv ek
        rw [← hK]
        exact .inl ⟨a, vs, rfl, hq, alloc_ok S3 (cutD_ok rs) q3⟩
      · exact q3.elim
end
end Gm

/-! Gm8: sum with a start, dicts, int of a text of noughts and ones. -/
namespace Gm
open PySem PySem.Spec PyProof.Rows L2
abbrev oAddI : D → D → Store → Res D := iop (fun _ _ => true) fun i j => i + j

/-! ### sum(xs, start=0) -/
theorem args_sum_start (a v : Value) : argsOk "sum" ⟨[a], [("start", v)]⟩ := by unfold argsOk; kernel_rfl
theorem call_tree_kw {prog : Program} {w : World} {A : Around} {E : Value → Shared → Prop} {s : Shared} {id : String} {b : Builtin} {args : List Value} {kw : List (Str × Value)} {Q : Value → Shared → Prop} (kind : builtinKind id = none) (plain : plainId id = true)
    (entry : entryFor table id = some b) (fits : argsOk id ⟨args, kw⟩)
    (body : wpAny (model prog w) A.in1 (b ⟨args, kw⟩) (fun fin s' => match fin with
      | .done f => (match (Except.ok f : Result) with | .ok (.ret v) => Q v s' | .ok _ => False | .error e => E e s')
      | .again c' => c'.quiet = true ∧ codeAny (model prog w) A c' (fun r s' => match r with | .ok (.ret v) => Q v s' | .ok _ => False | .error e => E e s') s') E s) :
    wpAny (model prog w) A (call (.builtin id) args kw) Q E s := by
  refine wpAny_call (codeAny_call_builtin plain entry ?_)
  simp only [checkBuiltinCall, kind]
  cases sg : Manifest.signature? id with
  | none => exact wpAny_pure body
  | some sig =>
    simp only [argsOk, sg] at fits
    have fits2 : Bind.checkArgs id sig ⟨args, kw⟩ = pure () := fits
    show wpAny _ A.in1 (Bind.checkArgs id sig ⟨args, kw⟩) _ _ s
    rw [fits2]
    exact wpAny_pure body
theorem sum_start_raw {prog : Program} {w : World} {A : Around} {E : Value → Shared → Prop} {s : Shared} {l : Addr} {its : List Value} {ns : List Int} {u : Tok} {Q : Value → Shared → Prop} (hh : A.handled = none) (hl : s.heap.IsList l its.toArray) (hi : IntsAre its ns)
    (fin : ∀ h' tk t', (∀ b o, s.heap.get? b = some o → h'.get? b = some o) → Q (.int ns.sum t') { s with heap := h', toks := tk }) : wpAny (model prog w) A (call (.builtin "sum") [.ref l] [("start", .int 0 u)]) Q E s := by
  obtain ⟨xs, e⟩ := hi.allInts.items
  have hn : numsOf (intItems xs).toList = ns := by
    rw [← e]
    exact hi.numsOf
  rw [nums_intItems] at hn
  rw [e] at hl
  refine call_tree_kw F.kind_sum F.plain_sum F.entry_sum (args_sum_start _ _) ?_
  unfold Builtin.«sum»
  simp only [List.length_cons, List.length_nil]
  rw [if_neg (by decide)]
  have hb : Builtin.Builtins.bindParams "sum" ["start"] 0 ⟨[], [("start", .int 0 u)]⟩ = pure [some (.int 0 u)] := by with_unfolding_all rfl
  refine wpAny_bind (wpAny_of_eq hb ?_)
  refine wpAny_bind (iter_intList hl fun s2 e2 st hfp hlI => ?_)
  subst e2
  dsimp only
  split
  case isFalse hf => exact absurd (by rfl) hf
  refine wpAny_bind (wpAny_rule (wpAny_bind (wpAny_mkInt (wpAny_bind (wpAny_pure ?_)))))
  simp only [List.forIn_cons, List.forIn_nil]
  have no : ∀ {T : String} {t : Tok} {s3 : Shared} {R : Bool → Shared → Prop}, isSubtype (.type "int") (.type T) = pure false → R false s3 → wpAny (model prog w) A.in1 (isInstance (.int 0 t) (.type T)) R E s3 := fun sub k =>
    wpAny_isInstance (T := "int") (b := false) (typeIs_int _ _ _) sub k
  refine wpAny_bind (wpAny_bind (wpAny_bind (no PySem.sub_int_str ?_)))
  rw [if_neg Bool.false_ne_true]
  refine wpAny_pure (wpAny_bind (wpAny_bind (no PySem.sub_int_bytes ?_)))
  rw [if_neg Bool.false_ne_true]
  refine wpAny_pure (wpAny_bind (wpAny_bind (no PySem.sub_int_bytearray ?_)))
  rw [if_neg Bool.false_ne_true]
  refine wpAny_pure (wpAny_pure ?_)
  refine wpAny_bind (wpAny_newObj_type ?_)
  have hSf : s.heap.objs.size + 1 ∉ [s.heap.objs.size, l] := fun hm => by
    have q := hfp _ hm
    rw [Heap.size_push] at q
    exact Nat.lt_irrefl _ q
  have Wk := Walks.list (prog := prog) (w := w) (A := A.in1) hh s.heap.objs.size l hlI (intItems xs)
  have esz : (s.heap.push { cls := .type "list_iterator", data := .fields #[.ref l, .int 0 0] }).objs.size = s.heap.objs.size + 1 := Heap.size_push _ _
  refine wpAny_pure ⟨plainId_quiet F.plain_sum_loop _, codeAny_sum_loopG Wk (numAt xs) (fun _ _ => intItems_at) _ (by rw [esz]; exact hSf) _ 0 _ s.toks 0 0 (Or.inl rfl) rfl (Nat.zero_le _) (Wk.frame _ _ _ st fun b _ o q => Heap.get?_push_of_some _ q) (Heap.get?_push_size _ rfl) fun h' tk t' hk => ?_⟩
  have z := fin h' tk t' fun b o q => by
    have lt := Heap.lt_size q
    refine hk b o ?_ ?_ (Heap.get?_push_of_some _ (Heap.get?_push_of_some _ q))
    · intro hm
      have e : b = s.heap.objs.size := by simpa using hm
      exact absurd lt (by rw [e]; exact Nat.lt_irrefl _)
    · rw [esz]
      exact Nat.ne_of_lt (Nat.lt_succ_of_lt lt)
  rw [preSum_eq, List.take_of_length_le (by simp [intItems]), hn]
  exact z
section
variable {c : Cf} {W : WX} {X : Cx} {e ek : Expr} {fe fk : Ev D} {p pos kp : Pos}
def tSumS (K : PySem.W.Frag) (ta tk : TA) : TE := fun σ H Q => ta σ H fun xs H1 => tk σ H1 fun ys H2 => ∃ (a : Addr) (ns : List Int), xs = [.ref a] ∧ ys = [.int 0] ∧ SqL K H2 a (ns.map V.int) ∧ Q (.int ns.sum) H2
theorem pe_sumS {ta tk : TA} (calm : X.calm = true) (hg : Gl X "sum") (hm : X.mg "sum" = none) (ha : PA X [e] ta) (hk : L2.PK X [⟨some "start", ek, kp⟩] tk)
    (he : backTo pos (starEach [e] X.env) = (false, eval e X.env) :: backTo pos (starEach [] X.env) := by rfl) (hp : (backTo pos (starEach [e] X.env)).any (·.1) = false := by rfl) : PE X (.Call (.Name "sum" p) [e] [⟨some "start", ek, kp⟩] pos) (tSumS X.K ta tk) := by
  refine ⟨fun pins s σ H Q I h => ?_⟩
  refine wpAny_Call_Name_kw (ld_blt I hg hm boot_sum ?_)
  refine callWith_kw (env := X.env) (thn (ha.run pos pins s σ H _ I h) fun us s1 ⟨xs, H1, I1, r1, q1⟩ => thn (hk.run pos pins s1 σ H1 _ I1 q1) fun ws s2 ⟨ys, H2, I2, r2, a, ns, e1, e2, hq, q2⟩ => ?_) he hp
  subst e1 e2
  obtain ⟨u2, rfl, t, rfl⟩ := vals1 r2
  obtain ⟨u1, rfl, hr1⟩ := vals1 r1
  obtain rfl : u1 = Value.ref a := hr1
  obtain ⟨its, rv, pl, _⟩ := I2.list hq
  show wpAny _ _ (call (.builtin "sum") [.ref a] [("start", .int 0 t)]) _ _ _
  exact sum_start_raw (I2.ok.hd calm) pl.isList rv.ints fun h' tk t' hk' => ⟨.int _, H2, I2.kept hk', ⟨_, rfl⟩, q2⟩
def fSumS (d k : D) (h : Store) : Res D := match k with
  | .int 0 => match asR h d with
    | some l => match intsOf l with
      | some ns => .ok (.int ns.sum) h
      | none => .no
    | none => .no
  | _ => .no
def cSumS (fe fk : Ev D) : Ev D := fun st h => (fe st h).bind fun d h1 => (fk st h1).bind fun k h2 => fSumS d k h2
theorem e_sumS (hg : Gl X "sum") (hm : X.mg "sum" = none) (ha : PE X e (tEv c W fe)) (hk : PE X ek (tEv c W fk)) (P : ∀ {ta tk : TA}, PA X [e] ta → L2.PK X [⟨some "start", ek, kp⟩] tk → PE X (.Call (.Name "sum" p) [e] [⟨some "start", ek, kp⟩] pos) (tSumS c.K ta tk))
    (hs : starEach [e] X.env = (false, eval e X.env) :: starEach [] X.env := by rfl) : PE X (.Call (.Name "sum" p) [e] [⟨some "start", ek, kp⟩] pos) (tEv c W (cSumS fe fk)) :=
  PE.imp (P (a_cons ha a_nil hs) (k_cons hk k_nil)) fun σ H Q ⟨st, h, g, S, sl, q⟩ => by
    have q : RP c (Rv c) g h H ((cCons fe cNil st h).bind fun ds h1 => (cCons fk cNil st h1).bind fun ks h2 => match ks, ds with
      | [k], [d] => fSumS d k h2
      | _, _ => .no) Q (fun cls dd H' => W cls dd σ H') := by
      unfold cSumS at q
      unfold cCons cNil
      cases e1 : fe st h with
      | ok d h1 =>
        rw [e1] at q
        simp only [Res.bind_ok] at q ⊢
        cases e2 : fk st h1 with
        | ok k h2 =>
          rw [e2] at q
          simp only [Res.bind_ok] at q ⊢
          exact q
        | exc ee h2 => rw [e2] at q; exact q
        | no => rw [e2] at q; exact q
      | exc ee h1 => rw [e1] at q; exact q
      | no => rw [e1] at q; exact q
    refine ⟨st, h, g, S, sl, RP.mono (RP.bind q) fun vs H1 ⟨ds, h1, g1, o1, S1, r1, q1⟩ => ?_⟩
    refine ⟨st, h1, g1, S1, sl.go o1, RP.mono (RP.bind q1) fun ws H2 ⟨ks, h2, g2, o2, S2, r2, q2⟩ => ?_⟩
    split at q2
    · rename_i k d
      unfold fSumS at q2
      split at q2
      · cases r2 with
        | cons rk rr =>
          cases rr
          cases rk
          cases r1 with
          | cons rd rr =>
            cases rr
            split at q2
            · rename_i l el
              split at q2
              · rename_i ns en
                obtain ⟨a, vs, rfl, hq, rs⟩ := asR_ok S2 (rd.mono o2.gx o2.len) el
                have ev := intsOf_ok rs en
                subst ev
                exact ⟨a, ns, rfl, rfl, hq, RP.ok_here q2 S2 (.int _)⟩
              · exact q2.elim
            · exact q2.elim
      · exact q2.elim
    · exact q2.elim
end
end Gm

/-! Gm9: int of a text of noughts and ones; dicts. -/
namespace Gm
open PySem PySem.Spec PyProof.Rows L2

/-! ### int(t, 2) -/
namespace I2
open PySem.NumText PySem.Calls
abbrev Bt (a : Nat) : Prop := a = 48 ∨ a = 49
def num2 (l : List Nat) : Nat := l.foldl (fun n a => n * 2 + (a - 48)) 0
theorem dig {a : Nat} (h : Bt a) : digit? a = some (a - 48) := by rcases h with rfl | rfl <;> rfl
theorem stp {ds : Array Nat} {b : Bool} {a : Nat} (h : Bt a) : PySem.NumText.step 2 (ds, b) a = some (ds.push (a - 48), true) := by rcases h with rfl | rfl <;> rfl
theorem fld : ∀ (l : List Nat) (ds : Array Nat) (b : Bool), (∀ a ∈ l, Bt a) → l.foldlM (PySem.NumText.step 2) (ds, b) = some (ds ++ (l.map (· - 48)).toArray, b || !l.isEmpty)
  | [], ds, b, _ => by simp
  | a :: l, ds, b, h => by
    rw [List.foldlM_cons, stp (h a (by simp))]
    have e := fld l (ds.push (a - 48)) true fun x hx => h x (by simp [hx])
    simp only [Option.bind_eq_bind, Option.bind_some, e]
    simp
theorem digs {l : List Nat} (h : ∀ a ∈ l, Bt a) (hne : l ≠ []) : digits? 2 l = some (l.map (· - 48)).toArray := by
  unfold digits?
  have e := fld l #[] false h
  rw [e]
  cases l with
  | nil => exact absurd rfl hne
  | cons a l => simp
theorem val (l : List Nat) : (l.map (· - 48)).toArray.foldl (fun acc d => acc * 2 + d) 0 = num2 l := by
  rw [List.foldl_toArray', List.foldl_map]
  · rfl
  · simp
theorem drp {l : List Nat} (h : ∀ a ∈ l, Bt a) : l.dropWhile blank = l := by
  cases l with
  | nil => rfl
  | cons a l => rcases h a (by simp) with rfl | rfl <;> rfl
theorem sgn {l : List Nat} (h : ∀ a ∈ l, Bt a) : sign l = (false, l) := by
  cases l with
  | nil => rfl
  | cons a l => rcases h a (by simp) with rfl | rfl <;> rfl
theorem bsd {l : List Nat} (h : ∀ a ∈ l, Bt a) : based 2 l = (2, false, l) := by
  match l, h with
  | [], _ => rfl
  | [a], h => rcases h a (by simp) with rfl | rfl <;> rfl
  | a :: b :: r, h => rcases h a (by simp) with rfl | rfl <;> rcases h b (by simp) with rfl | rfl <;> rfl
theorem read {l : List Nat} (lim : Nat) (h : ∀ a ∈ l, Bt a) (hne : l ≠ []) : (int_private% "readNumeral") lim 2 l = (int_private% "Numeral.value") ((num2 l : Nat) : Int) := by
  have hr : ∀ a ∈ l.reverse, Bt a := fun a m => h a (List.mem_reverse.mp m)
  rw [readNumeral_eq, drp h, sgn h]
  dsimp only
  rw [bsd h]
  dsimp only
  rw [drp hr, List.reverse_reverse, digs h hne]
  unfold judge
  simp only [val]
  rfl
theorem seen {x : Str} (h : ∀ a ∈ x.cps.toList, Bt a) : numTextOf x = x.cps.toList ∧ numSeenOf x = x.cps.toList := by
  have e1 : numTextOf x = x.cps.toList := by
    refine if_pos ?_
    rw [← Array.all_toList, List.all_eq_true]
    intro a m
    rcases h a m with rfl | rfl <;> rfl
  refine ⟨e1, ?_⟩
  show (numTextOf x).takeWhile _ = _
  rw [e1]
  refine takeWhile_all fun a m => ?_
  rcases h a m with rfl | rfl <;> rfl
/-- no limit of digits is set -/
def noDig (K : PySem.W.Frag) : Bool := PySem.W.nsIn K cStatics "sys.int_max_str_digits" == some none
theorem lim {M : Model} {A : Around} {E : Value → Shared → Prop} {s : Shared} {Q : Nat → Shared → Prop} {K : PySem.W.Frag} (x : K.In s.heap) (e : noDig K = true) (q : Q 4300 s) : wpAny M A Builtin.intMaxStrDigits Q E s := by
  unfold Builtin.intMaxStrDigits
  exact wpAny_bind ((PySem.W.looks_nsIn (M := M) x (eq_of_beq e)).here (wpAny_pure q))
theorem txt {M : Model} {A : Around} {E : Value → Shared → Prop} {s : Shared} {Q : Value → Shared → Prop} {K : PySem.W.Frag} {v : Value} {t : List Nat} {n : Int} (x : K.In s.heap) (e : noDig K = true)
    (hr : ∀ k, (int_private% "readNumeral") k 2 (t.takeWhile (· != 0)) = (int_private% "Numeral.value") n) (ha : ((t.takeWhile (· != 0)).length == t.length) = true) (q : Q (.int n s.toks) { s with toks := s.toks + 1 }) :
    wpAny M A ((int_private% "intFromText") v t 2) Q E s := by
  by_cases hs : (t.takeWhile (· != 0)).length ≤ 640
  · exact Hx.wp_textB hs (hr 0) ha q
  · obtain ⟨hp, g, d, tk, os⟩ := s
    repeat (any_goals (first
      | assumption
      | (with_reducible refine lim (K := K) x e ?_)
      | (with_reducible refine wpAny_ite_false (decide_eq_false hs) ?_)
      | (with_reducible refine wpAny_ite_true (decide_eq_true ha) ?_)
      | wp_step))
    all_goals (try rw [hr])
    all_goals (try dsimp only)
    repeat (any_goals (first
      | assumption
      | (with_reducible refine wpAny_ite_true (decide_eq_true ha) ?_)
      | wp_step))
theorem made {K : PySem.W.Frag} (e : noDig K = true) {x : Str} {u t : Tok} (h : ∀ a ∈ x.cps.toList, Bt a) (hne : x.cps.toList ≠ []) :
    Meets (Builtin.«int.__new__» ⟨[.type "int", .str x u, .int 2 t], []⟩) (fun _ R s => K.In s.heap ∧ R (.ok (.ret (.int ((num2 x.cps.toList : Nat) : Int) s.toks))) { s with toks := s.toks + 1 }) :=
  .of_wp fun _ _ A R s hq => by
    obtain ⟨hK, hQ⟩ := hq
    have f1 := F.conv_sub_int
    have f2 := F.madeHere_int
    have f6 : typeOf (.str x u) = pure (.type "str") := rfl
    obtain ⟨e1, e2⟩ := seen h
    have hr : ∀ k, (int_private% "readNumeral") k 2 (numSeenOf x) = (int_private% "Numeral.value") ((num2 x.cps.toList : Nat) : Int) := fun k => by
      rw [e2]
      exact read k h hne
    have ha : ((numSeenOf x).length == (numTextOf x).length) = true := by rw [e1, e2]; simp
    obtain ⟨hp, g, d, tk, os⟩ := s
    have hk := Hx.Hid.mk (And.intro hK (And.intro hr ha))
    clear hr ha e1 e2 hne h hK
    repeat (any_goals (first
      | assumption
      | ((with_reducible show wpAny _ _ ((int_private% "intFromText") _ _ _) _ _ _); refine txt (K := K) hk.out.1 e hk.out.2.1 hk.out.2.2 ?_)
      | wp_step))
    all_goals first | exact ⟨_, rfl, hQ⟩ | skip
end I2
def rInt2 (K : PySem.W.Frag) : List V → Hp → VK → Prop := fun xs H Q => ∃ x : Str, xs = [.str x, .int 2] ∧ x.cps.toList ≠ [] ∧ (∀ a ∈ x.cps.toList, I2.Bt a) ∧ Q (.int ((I2.num2 x.cps.toList : Nat) : Int)) H
theorem call_int2 {X : Cx} (e : I2.noDig X.K = true) : CallR X (.type "int") (rInt2 X.K) := by
  intro pins s σ H xs us Q I r h
  obtain ⟨x, rfl, hne, hx, q⟩ := h
  obtain ⟨u, w', rfl, r1, r2⟩ := vals2 r
  obtain ⟨t1, rfl⟩ := r1
  obtain ⟨t2, rfl⟩ := r2
  exact callType_new F.called_int F.newNe_int (Hx.typeCall_int_2 _ _) (Hx.newCall_int_2 _ _) (fun obj => F.initArgs_range_2 obj _ _) F.entry_int_new (I2.made e hx hne) ⟨I.kIn, rfl, .int ((I2.num2 x.cps.toList : Nat) : Int), H, I.tok _, ⟨_, rfl⟩, q⟩
def isBt (x : Str) : Bool := !x.cps.toList.isEmpty && x.cps.toList.all fun a => a == 48 || a == 49
theorem isBt_ok {x : Str} (h : isBt x = true) : x.cps.toList ≠ [] ∧ ∀ a ∈ x.cps.toList, I2.Bt a := by
  unfold isBt at h
  simp only [Bool.and_eq_true, Bool.not_eq_true', List.all_eq_true, Bool.or_eq_true, beq_iff_eq] at h
  exact ⟨fun e => by rw [e] at h; simp at h, h.2⟩
def fInt2 : CallT := fun ds h => match ds with
  | [.str x, .int 2] => if isBt x = true then .ok (.int ((I2.num2 x.cps.toList : Nat) : Int)) h else .no
  | _ => .no
theorem fInt2_ok {c : Cf} : CROk c (rInt2 c.K) fInt2 := by
  intro g h H ds vs Q E S rs q
  unfold fInt2 at q
  split at q
  · rename_i x
    cases rs with
    | cons r rr =>
      cases rr with
      | cons r2 rr =>
        cases rr
        cases r
        cases r2
        by_cases hx : isBt x = true
        · rw [if_pos hx] at q
          obtain ⟨h1, h2⟩ := isBt_ok hx
          exact ⟨x, rfl, h1, h2, RP.ok_here q S (.int _)⟩
        · rw [if_neg hx] at q
          exact q.elim
  · exact q.elim

/-! ### dicts -/
def keyD : D → Option Key
  | .int i => some (.inl i)
  | .str x => some (.inr x)
  | _ => none
theorem keyD_ok {c : Cf} {g : Gh} {L : Nat} {d : D} {v : V} {k : Key} (r : RV c g L d v) (e : keyD d = some k) : v = kV k := by
  cases r <;> cases e <;> rfl
def getKD (l : List (Key × D)) (k : Key) : Option D := (l.find? fun p => decide (p.1 = k)).map (·.2)
def putKD (l : List (Key × D)) (k : Key) (d : D) : List (Key × D) := if (l.any fun p => decide (p.1 = k)) = true then l.map (fun p => if p.1 = k then (p.1, d) else p) else l ++ [(k, d)]
section
variable {c : Cf} {g : Gh} {L : Nat}
theorem RKs.get {k : Key} : ∀ {l : List (Key × D)} {kvs : List (Key × V)}, RKs c g L l kvs → (getKD l k = none ∧ valV kvs k = none) ∨ ∃ d v, getKD l k = some d ∧ valV kvs k = some v ∧ RV c g L d v
  | _, _, .nil => .inl ⟨rfl, rfl⟩
  | _, _, .cons (k := j) (d := d) (v := v) h r => by
    by_cases e : j = k
    · exact .inr ⟨d, v, by simp [getKD, e], by simp [valV, e], h⟩
    · have e1 : ∀ l, getKD ((j, d) :: l) k = getKD l k := fun l => by simp [getKD, e]
      have e2 : ∀ l, valV ((j, v) :: l) k = valV l k := fun l => by simp [valV, e]
      rw [e1, e2]
      exact RKs.get r
theorem RKs.len : ∀ {l : List (Key × D)} {kvs : List (Key × V)}, RKs c g L l kvs → l.length = kvs.length
  | _, _, .nil => rfl
  | _, _, .cons _ r => by simp only [List.length_cons, RKs.len r]
theorem RKs.any {k : Key} : ∀ {l : List (Key × D)} {kvs : List (Key × V)}, RKs c g L l kvs → (l.any fun p => decide (p.1 = k)) = kvs.any fun p => decide (p.1 = k)
  | _, _, .nil => rfl
  | _, _, .cons _ r => by simp only [List.any_cons, RKs.any r]
theorem RKs.app {l : List (Key × D)} {kvs : List (Key × V)} {l' : List (Key × D)} {kvs' : List (Key × V)} : RKs c g L l kvs → RKs c g L l' kvs' → RKs c g L (l ++ l') (kvs ++ kvs')
  | .nil, s => s
  | .cons h r, s => .cons h (RKs.app r s)
theorem RKs.mapK {k : Key} {d : D} {v : V} (q : RV c g L d v) : ∀ {l : List (Key × D)} {kvs : List (Key × V)}, RKs c g L l kvs → RKs c g L (l.map fun p => if p.1 = k then (p.1, d) else p) (kvs.map fun p => if p.1 = k then (p.1, v) else p)
  | _, _, .nil => .nil
  | _, _, .cons (k := j) h r => by
    rw [List.map_cons, List.map_cons]
    by_cases e : j = k
    · rw [if_pos e, if_pos e]
      exact .cons q (RKs.mapK q r)
    · rw [if_neg e, if_neg e]
      exact .cons h (RKs.mapK q r)
theorem RKs.put {k : Key} {d : D} {v : V} {l : List (Key × D)} {kvs : List (Key × V)} (r : RKs c g L l kvs) (q : RV c g L d v) : RKs c g L (putKD l k d) (putK kvs k v) := by
  unfold putKD putK
  rw [r.any]
  split
  · exact r.mapK q
  · exact r.app (.cons q .nil)
end
def asK (h : Store) : D → Option (List (Key × D))
  | .dct l => some l
  | .ref n => match h[n]? with
    | some (some (.dct l)) => some l
    | _ => none
  | _ => none
section
variable {c : Cf} {g : Gh} {h : Store} {H : Hp} {d : D} {v : V} {l : List (Key × D)}
theorem asK_ok (S : SR c g h H) (r : RV c g h.length d v) (e : asK h d = some l) : ∃ a kvs, v = .ref a ∧ H a = some (.dK kvs) ∧ RKs c g h.length l kvs := by
  cases r with
  | dct h1 r => cases e; exact ⟨_, _, rfl, S.sub _ _ h1, r⟩
  | @ref n hn =>
    unfold asK at e
    dsimp only at e
    split at e
    · rename_i l' e1
      cases e
      obtain ⟨vs, e2, r2⟩ := S.cell n _ e1
      exact ⟨_, vs, rfl, e2, r2⟩
    · cases e
  | _ => cases e
end
/-- d[k], k in d -/
def oDget (x y : D) (h : Store) : Res D := match asK h x, keyD y with
  | some l, some k => match getKD l k with
    | some d => .ok d h
    | none => .no
  | _, _ => .no
def oDin (y x : D) (h : Store) : Res D := match asK h x, keyD y with
  | some l, some k => .ok (.bl (getKD l k).isSome) h
  | _, _ => .no
def oDnotin (y x : D) (h : Store) : Res D := match asK h x, keyD y with
  | some l, some k => .ok (.bl (!(getKD l k).isSome)) h
  | _, _ => .no
section
variable {c : Cf} {W : WX} {X : Cx} {o i : Expr} {fo fi : Ev D} {pos : Pos}
/-- two values, one after the other -/
theorem ev2a {fo : D → D → Store → Res D} {fa fb : Ev D} {σ : L2.St} {H : Hp} {Q : VK} (x : tEv c W (cBin fo fa fb) σ H Q) : tEv c W fa σ H fun v H1 => tEv c W fb σ H1 fun w H2 => ∃ g h d e, SR c g h H2 ∧ RV c g h.length d v ∧ RV c g h.length e w ∧ RP c (Rv c) g h H2 (fo d e h) Q (fun cls dd H' => W cls dd σ H') := by
  obtain ⟨st, h, g, S, sl, q⟩ := x
  have q : RP c (Rv c) g h H ((fa st h).bind fun a h1 => (fb st h1).bind fun b h2 => fo a b h2) Q (fun cls dd H' => W cls dd σ H') := q
  refine ⟨st, h, g, S, sl, ?_⟩
  cases e1 : fa st h with
  | no => rw [e1] at q; exact q.elim
  | exc ee h1 => rw [e1] at q; exact q
  | ok a h1 =>
    rw [e1, Res.bind_ok] at q
    intro g1 H1 v1 o1 S1 r1
    refine ⟨st, h1, g1, S1, sl.go o1, ?_⟩
    cases e2 : fb st h1 with
    | no => rw [e2] at q; exact q.elim
    | exc ee h2 => rw [e2] at q; exact fun g' H' cls dd o S' rx => q g' H' cls dd (o1.trans o) S' rx
    | ok b h2 =>
      rw [e2, Res.bind_ok] at q
      intro g2 H2 v2 o2 S2 r2
      exact ⟨g2, h2, a, b, S2, r1.mono o2.gx o2.len, r2, RP.go q (o1.trans o2)⟩
theorem tEv.mono {f : Ev D} {σ : L2.St} {H : Hp} {Q Q' : VK} (x : tEv c W f σ H Q) (k : ∀ v H', Q v H' → Q' v H') : tEv c W f σ H Q' := by
  obtain ⟨st, h, g, S, sl, q⟩ := x
  exact ⟨st, h, g, S, sl, RP.mono q k⟩
theorem e_dget (hu : X.A.units + 1 < cLine) (ho : PE X o (tEv c W fo)) (hi : PE X i (tEv c W fi)) (hs : NoSl i) : PE X (.Subscript o i pos) (tEv c W (cBin oDget fo fi)) := PE.imp (pe_dget hu ho hi hs) fun σ H Q x =>
  (ev2a x).mono fun v H1 y => y.mono fun w H2 ⟨g, h, d, e, S, r1, r2, q⟩ => by
    unfold oDget at q
    split at q
    · rename_i l k el ek
      obtain ⟨a, kvs, rfl, hD, rs⟩ := asK_ok S r1 el
      have ew := keyD_ok r2 ek
      subst ew
      rcases rs.get (k := k) with ⟨z, _⟩ | ⟨d', v', z1, z2, rd⟩
      · rw [z] at q; exact q.elim
      · rw [z1] at q
        exact ⟨a, v', rfl, by rw [← z2]; exact .k hD, RP.ok_here q S rd⟩
    · exact q.elim
theorem c_din (hu : X.A.units + 1 < cLine) (hi : PE X i (tEv c W fi)) (ho : PE X o (tEv c W fo)) : PC X .In i o (tEv c W (cBin oDin fi fo)) := ⟨fun pins s σ H Q I x => (pc_din hu hi ho).run pins s σ H Q I ((ev2a x).mono fun v H1 y => y.mono fun w H2 ⟨g, h, d, e, S, r1, r2, q⟩ => by
    unfold oDin at q
    split at q
    · rename_i l k el ek
      obtain ⟨a, kvs, rfl, hD, rs⟩ := asK_ok S r2 el
      have ew := keyD_ok r1 ek
      subst ew
      refine ⟨a, _, rfl, .k hD, ?_⟩
      rcases rs.get (k := k) with ⟨z1, z2⟩ | ⟨d', v', z1, z2, rd⟩ <;> rw [z1] at q <;> rw [z2] <;> exact RP.ok_here q S (.bl _)
    · exact q.elim)⟩
theorem c_dnotin (hu : X.A.units + 1 < cLine) (hi : PE X i (tEv c W fi)) (ho : PE X o (tEv c W fo)) : PC X .NotIn i o (tEv c W (cBin oDnotin fi fo)) := ⟨fun pins s σ H Q I x => (pc_dnotin hu hi ho).run pins s σ H Q I ((ev2a x).mono fun v H1 y => y.mono fun w H2 ⟨g, h, d, e, S, r1, r2, q⟩ => by
    unfold oDnotin at q
    split at q
    · rename_i l k el ek
      obtain ⟨a, kvs, rfl, hD, rs⟩ := asK_ok S r2 el
      have ew := keyD_ok r1 ek
      subst ew
      refine ⟨a, _, rfl, .k hD, ?_⟩
      rcases rs.get (k := k) with ⟨z1, z2⟩ | ⟨d', v', z1, z2, rd⟩ <;> rw [z1] at q <;> rw [z2] <;> exact RP.ok_here q S (.bl _)
    · exact q.elim)⟩
theorem e_din (hu : X.A.units + 1 < cLine) (hi : PE X i (tEv c W fi)) (ho : PE X o (tEv c W fo)) (hm : behindInMarks .In o = false := by rfl) : PE X (.Compare i [.In] [o] pos) (tEv c W (cBin oDin fi fo)) := pe_cmp (c_din hu hi ho) hm
theorem e_dnotin (hu : X.A.units + 1 < cLine) (hi : PE X i (tEv c W fi)) (ho : PE X o (tEv c W fo)) (hm : behindInMarks .NotIn o = false := by rfl) : PE X (.Compare i [.NotIn] [o] pos) (tEv c W (cBin oDnotin fi fo)) := pe_cmp (c_dnotin hu hi ho) hm
theorem t_din (hu : X.A.units + 1 < cLine) (hi : PE X i (tEv c W fi)) (ho : PE X o (tEv c W fo)) (hm : behindInMarks .In o = false := by rfl) : PT X (.Compare i [.In] [o] pos) (tTe c W (cTv (cBin oDin fi fo))) := PT.imp (pt_cmp (c_din hu hi ho) hm) fun _ _ _ => tv
theorem t_dnotin (hu : X.A.units + 1 < cLine) (hi : PE X i (tEv c W fi)) (ho : PE X o (tEv c W fo)) (hm : behindInMarks .NotIn o = false := by rfl) : PT X (.Compare i [.NotIn] [o] pos) (tTe c W (cTv (cBin oDnotin fi fo))) := PT.imp (pt_cmp (c_dnotin hu hi ho) hm) fun _ _ _ => tv
end
end Gm

/-! Gm10: dict comprehensions. -/
namespace Gm
open PySem PySem.Spec PyProof.Rows L2
section
variable {c : Cf} {g g1 : Gh} {h h1 : Store} {H H1 : Hp}
theorem SR.sideM {a : Addr} {o o' : HO} (S : SR c g h H) (ha : H a = some o) (mu : Mut (some o)) (nx : ∀ φ, o ≠ .ext φ) (ta : g.tr a = none) (nl : ∀ n, Live h n → g.io n ≠ a) : SR c g h (upd H a o') where
  sub := fun b u e => by
    have hb : b ≠ a := fun z => by rw [z, ta] at e; cases e
    rw [upd_ne hb]
    exact S.sub b u e
  apart := S.apart
  cell := fun n ce e => (S.cell n ce e).mono (Gx.refl _ _) (Nat.le_refl _) (upd_ne (nl n ⟨ce, e⟩))
  inj := S.inj
  tabs := tabs_write S.tabs ha mu nx
  nt := S.nt
/-- a thing made aside joins what stays -/
theorem SR.join {a : Addr} {o : HO} (S : SR c g h H) (x : Go g1 h1 H1 g h H) (nD : H1 a = none) (hD : H a = some o) (tD : g.tr a = none) (nl : ∀ n, Live h n → g.io n ≠ a) (no : ∀ ps, o ≠ .tbl ps := by intro ps z; cases z) :
    SR c { g with tr := upd g.tr a o } h H ∧ Go g1 h1 H1 { g with tr := upd g.tr a o } h H ∧ Gx g h.length { g with tr := upd g.tr a o } := by
  have k : ∀ b u, g.tr b = some u → upd g.tr a o b = some u := fun b u e => by
    have hb : b ≠ a := fun z => by rw [z, tD] at e; cases e
    rw [upd_ne hb]
    exact e
  have gx : Gx g h.length { g with tr := upd g.tr a o } := ⟨fun _ _ => rfl, fun b u e => k b u e⟩
  refine ⟨⟨fun b u e => ?_, fun n ln => ?_, fun n ce e => (S.cell n ce e).mono gx (Nat.le_refl _) rfl, S.inj, S.tabs, nt_upd S.nt no⟩, ⟨x.len, x.io, fun b u e => k b u (x.tr b u e), x.dm, x.fr, fun b u e nt t nl2 => ?_, x.old, x.new⟩, gx⟩
  · have e : upd g.tr a o b = some u := e
    by_cases z : b = a
    · rw [z, upd_same] at e
      rw [z, hD, e]
    · rw [upd_ne z] at e
      exact S.sub b u e
  · show upd g.tr a o (g.io n) = none
    rw [upd_ne (nl n ln)]
    exact S.apart n ln
  · show upd g.tr a o b = none
    rw [upd_ne (ne_of_none e nD)]
    exact x.tn b u e nt t nl2
end
def dcL (fg : D → Slots → Option Slots) (ft : Ev Bool) (fk fv : Ev D) (st0 : Slots) : List D → List (Key × D) → Store → Res (List (Key × D))
  | [], acc, h => .ok acc h
  | d :: l, acc, h => match fg d st0 with
    | none => .no
    | some st1 => (ft st1 h).sure.bind fun b h1 => if b = true then (fk st1 h1).sure.bind fun y h2 => (fv st1 h2).sure.bind fun z h3 => match keyD y with
      | some k => dcL fg ft fk fv st0 l (putKD acc k z) h3
      | none => .no else dcL fg ft fk fv st0 l acc h1
def cDc (fi : Ev (List D)) (fg : D → Slots → Option Slots) (ft : Ev Bool) (fk fv : Ev D) (own : List Nat) : Ev D := fun st h =>
  (fi st h).bind fun l h1 => if l.length ≤ sizeLine then (dcL fg ft fk fv (wipeD st own) l [] h1).bind fun ys h2 => .ok (.dct ys) h2 else .no
def dcRest (fg : D → Slots → Option Slots) (ft : Ev Bool) (fk fv : Ev D) (st0 : Slots) (l : List D) (acc : List (Key × D)) (h : Store) : Res D := (dcL fg ft fk fv st0 l acc h).bind fun ys h2 => .ok (.dct ys) h2
theorem putKD_len (l : List (Key × D)) (k : Key) (d : D) : (putKD l k d).length ≤ l.length + 1 := by
  unfold putKD
  split <;> simp
section
variable {c : Cf} {W : WX} {X : Cx} {pos : Pos}
theorem dc_ok {gt : TG} {fi : Ev (List D)} {fg : D → Slots → Option Slots} {ft : Ev Bool} {fk fv : Ev D} {vs : List Nat} (tgn : TgN c vs gt fg) {σ : L2.St} {H : Hp} {Q : VK}
    (x : tEv c W (cDc fi fg ft fk fv vs) σ H Q) : tDc (tIt c W fi) gt (tTe c W0 ft) (tEv c W0 fk) (tEv c W0 fv) vs σ H Q := by
  obtain ⟨st, h, g, S, sl, q⟩ := x
  refine ⟨st, h, g, S, sl, RP.mono (RP.bind q) fun J H1 ⟨l, h1, g1, o1, S1, k1, q1⟩ => ?_⟩
  by_cases hl : l.length ≤ sizeLine
  case neg => rw [if_neg hl] at q1; exact q1.elim
  rw [if_pos hl] at q1
  intro D0 nD
  have sl1 := (sl.go o1).wipe vs
  obtain ⟨S1', t1, nl1⟩ := S1.side0 (o := .dK []) nD
  have dt : ∀ ys : List (Key × V), ∀ ps, (HO.dK ys) ≠ .tbl ps := fun ys ps z => by cases z
  let St : Nat → Hp → Prop := fun i H => i ≤ l.length ∧ ∃ acc ws h g, SR c g h H ∧ Go g1 h1 H1 g h H ∧ H D0 = some (.dK ws) ∧ g.tr D0 = none ∧ (∀ n, Live h n → g.io n ≠ D0) ∧ RKs c g h.length acc ws ∧ acc.length ≤ i ∧
    RP c (Rv c) g1 h1 H1 (dcRest fg ft fk fv (wipeD st vs) (l.drop i) acc h) Q (fun cls dd H' => W cls dd σ H')
  refine ⟨fun i m' H => m' = l.length - i ∧ St i H, ⟨_, rfl, Nat.zero_le _, [], [], h1, g1, S1', (Go.refl _ _ _).side nD, upd_same, t1, nl1, .nil, Nat.le_refl _, q1⟩, ?_⟩
  rintro i m' H ⟨rfl, hi, acc, ws, h, g, S, o, hD, tD, nlD, rs, ha, q⟩
  obtain ⟨ks, kg⟩ := k1 g h H i S o.gx o.len
  by_cases hlt : i < l.length
  · obtain ⟨go, yl⟩ := kg l[i] (List.getElem?_eq_getElem hlt)
    refine .inr ⟨go, St (i + 1), fun H' x => ⟨l.length - (i + 1), by omega, rfl, x⟩, fun x H' y => ?_⟩
    obtain ⟨g2, o2, S2, r2⟩ := yl x H' y
    rw [List.drop_eq_getElem_cons hlt] at q
    unfold dcRest dcL at q
    cases e1 : fg l[i] (wipeD st vs) with
    | none => rw [e1] at q; exact q.elim
    | some st1 =>
      rw [e1] at q
      dsimp only at q
      have o12 := o.trans o2
      refine tgn.ok S2 (((sl.go o1).go o12).wipe vs) r2 e1 wipe_wipe fun σ2 sl2 ew => ⟨ew, st1, h, g2, S2, sl2, ?_⟩
      have hD2 := o2.fr _ _ hD (dt _) nlD
      have tD2 := o2.tn _ _ hD (dt _) tD nlD
      have nlD2 := o2.apart hD (dt _) nlD
      have rs2 := rs.mono o2.gx o2.len
      cases e2 : ft st1 h with
      | no => rw [e2] at q; exact q.elim
      | exc ee h3 => rw [e2] at q; exact q.elim
      | ok b h3 =>
        rw [e2, Res.sure_ok, Res.bind_ok] at q
        intro g3 H3 b' o3 S3 eb
        have eb : b = b' := eb
        subst eb
        have hD3 := o3.fr _ _ hD2 (dt _) nlD2
        have tD3 := o3.tn _ _ hD2 (dt _) tD2 nlD2
        have nlD3 := o3.apart hD2 (dt _) nlD2
        have rs3 := rs2.mono o3.gx o3.len
        cases b with
        | false => exact ⟨hlt, acc, ws, h3, g3, S3, o12.trans o3, hD3, tD3, nlD3, rs3, Nat.le_succ_of_le ha, q⟩
        | true =>
          rw [if_pos rfl]
          refine ⟨st1, h3, g3, S3, sl2.go o3, ?_⟩
          cases e3 : fk st1 h3 with
          | no => rw [if_pos rfl, e3] at q; exact q.elim
          | exc ee h4 => rw [if_pos rfl, e3] at q; exact q.elim
          | ok yv h4 =>
            rw [if_pos rfl, e3, Res.sure_ok, Res.bind_ok] at q
            intro g4 H4 v4 o4 S4 r4
            have hD4 := o4.fr _ _ hD3 (dt _) nlD3
            have tD4 := o4.tn _ _ hD3 (dt _) tD3 nlD3
            have nlD4 := o4.apart hD3 (dt _) nlD3
            have rs4 := rs3.mono o4.gx o4.len
            refine ⟨st1, h4, g4, S4, (sl2.go o3).go o4, ?_⟩
            cases e4 : fv st1 h4 with
            | no => rw [e4] at q; exact q.elim
            | exc ee h5 => rw [e4] at q; exact q.elim
            | ok zv h5 =>
              rw [e4, Res.sure_ok, Res.bind_ok] at q
              intro g5 H5 v5 o5 S5 r5
              have hD5 := o5.fr _ _ hD4 (dt _) nlD4
              have tD5 := o5.tn _ _ hD4 (dt _) tD4 nlD4
              have nlD5 := o5.apart hD4 (dt _) nlD4
              have rs5 := rs4.mono o5.gx o5.len
              cases ek : keyD yv with
              | none => rw [ek] at q; exact q.elim
              | some k =>
                rw [ek] at q
                have hlen := rs.len
                refine ⟨ws, k, keyD_ok r4 ek, hD5, by omega, hlt, putKD acc k zv, putK ws k v5, h5, g5, S5.sideM hD5 trivial (fun φ z => by cases z) tD5 nlD5, (((o12.trans o3).trans o4).trans o5).side nD, upd_same, tD5, nlD5, rs5.put r5, ?_, q⟩
                exact Nat.le_trans (putKD_len _ _ _) (Nat.succ_le_succ ha)
  · have e : i = l.length := by omega
    subst e
    rw [List.drop_length] at q
    unfold dcRest dcL at q
    rw [Res.bind_ok] at q
    refine .inl ⟨ks (Nat.le_refl _), ?_⟩
    have q : RP c (Rv c) g1 h1 H1 (.ok (.dct acc) h) Q _ := q
    obtain ⟨S9, o9, gx9⟩ := S.join o nD hD tD nlD
    exact q _ H (.ref D0) o9 S9 (.dct upd_same (rs.mono gx9 (Nat.le_refl _)))
theorem swd_true {kx vx : Expr} {gs : List Comprehension} {scope : Scope} {pos py : Pos} {y : Str} {l : Nat} {env : Env} (hk : env.scope.kind = .function) (hy : env.scope.names.lookup y = some .local) (hl : (py.line == pos.line) = true)
    (ha : (scope.names.any fun (n, k) => n == y && (k == .local || k == .cell)) = false) : swapsWith (.DictComp kx vx gs scope pos) (some (.Name y py)) l env = pure true := by
  have ky : env.kindOf y = some .local := hy
  have hb : env.blockKind = .function := by unfold Env.blockKind; rw [hk] <;> rfl
  simp only [swapsWith, hb, ky, ha, Expr.pos, hl]
  rfl
theorem s_setDc {i : Nat} {y : Str} {py spos : Pos} {tg kx vx iter : Expr} {ifs : List Expr} {scope : Scope} {own : List (Str × Nat)} {gt : TG} {fi : Ev (List D)} {fg : D → Slots → Option Slots} {ft : Ev Bool} {fk fv : Ev D} (hc : X.calm = true) (hN : X.N.Nodup) (hy : X.N[i]? = some y) (hyl : X.env.scope.names.lookup y = some .local)
    (hsw : swapsWith (.DictComp kx vx [⟨tg, iter, ifs, 0⟩] scope pos) (some (.Name y py)) spos.line X.env = pure true) (hi : PI X tg iter (tIt c W fi)) (ok : BlkOk X.N X.env.scope scope own)
    (hg : ∀ (s : Shared) (H : Hp) (C : Addr) (cl : List (Str × Addr)) (fp : List Addr), PG (X.blk s H scope (compEnvC scope cl C X.env) fp) tg gt) (tgn : TgN c (own.map (·.2)) gt fg)
    (ht : ∀ (s : Shared) (H : Hp) (C : Addr) (cl : List (Str × Addr)) (fp : List Addr), PTs (X.blk s H scope (compEnvC scope cl C X.env) fp) ifs (tTe c W0 ft))
    (hk : ∀ (s : Shared) (H : Hp) (C : Addr) (cl : List (Str × Addr)) (fp : List Addr), PE (X.blk s H scope (compEnvC scope cl C X.env) fp) kx (tEv c W0 fk))
    (hv : ∀ (s : Shared) (H : Hp) (C : Addr) (cl : List (Str × Addr)) (fp : List Addr), PE (X.blk s H scope (compEnvC scope cl C X.env) fp) vx (tEv c W0 fv)) (hs : ∀ x, foldedSetIterable iter X.env x = pure x := by intro _; rfl) :
    PS X (.Assign [.Name y py] (.DictComp kx vx [⟨tg, iter, ifs, 0⟩] scope pos) spos) (tSt c W (sSet i (cDc fi fg ft fk fv (own.map (·.2))))) := ⟨fun pins s σ H D I ⟨st, h, g, S, sl, q⟩ => by
  have z : tDc (tIt c W fi) gt (tTe c W0 ft) (tEv c W0 fk) (tEv c W0 fv) (own.map (·.2)) σ H fun x H1 => gName i x σ H1 D.nx :=
    dc_ok tgn ⟨st, h, g, S, sl, RP.mono (OP.out sl q) fun v H1 ⟨d, h1, g1, o1, S1, r1, q1⟩ => q1 g1 H1 _ (Go.refl _ _ _) S1 ((sl.go o1).set i r1)⟩
  rw [exec_Assign_Name_used _ _ _ _ hsw]
  refine wpAny_bind (wpAny_standAt (wpAny_bind (wpAny_bind ?_)))
  refine thn (dc_core (use := some (assign (.Name y py) X.env)) (Qf := fun _ t => SP X pins D .next t) hc hN I hi ok hg ht hk hv hs z ?_) fun _ t ht' => wpAny_pure (wpAny_pure ht')
  rintro B C t m H' I' q' hn ⟨f0, f1, f2, f3, f4, f5⟩
  refine wpAny_assign_Name (env := X.env) (store_ok2 (v := V.ref B) I' hN hy (.inl hyl) rfl ?_ (.inr hyl))
  rintro t2 I2 ⟨a, sb, ha⟩
  have ne : C ≠ a := by
    rcases ha with rfl | w
    · exact f1
    · intro e
      exact f4 y a w e.symm
  exact ⟨m, hn.sameBut sb ne, fun h3 sb3 => ⟨_, H', I2.turned (t' := t2.toks) (fun b o hb e => (sb3.2 b hb).trans e) f0 f1 f3 f4 f5, q'⟩⟩⟩
end
end Gm

/-! Gm11: a law's end. -/
namespace Gm
open PySem PySem.Spec PyProof.Rows L2
/-- the classes by the module's names -/
abbrev cf (K : PySem.W.Frag) : Cf := ⟨K, fun n => some (He.ga K n), [], none⟩
/-! ### what is seen of the head: the kit's facts, and that no limit of digits is set -/
def seeM (fa : List He.Fa) (fn : List He.DefD) (K : PySem.W.Frag) : He.AlD := ((He.obsD fa fn K).1 && I2.noDig K, (He.obsD fa fn K).2)
def adM (g : Addr → Option Obj) (n : Nat) : List Addr := cStatics :: He.asD g n
def hookM (n : Nat) (fa : List He.Fa) (fn : List He.DefD) : PySem.W.Hook where
  α := He.AlD
  obs := fun s => seeM fa fn (He.frG s.heap.get? (adM s.heap.get? n))
  val := fun _ => He.valD fn
  says := fun _ h => ∃ K : PySem.W.Frag, K.In h ∧ seeM fa fn K = He.valD fn
  of := fun _ _ e => ⟨_, He.frG_in, e⟩
  keeps := fun _ _ _ ⟨K, k1, k2⟩ keep => ⟨K, k1.keeps keep, k2⟩
def obM (n : Nat) (fa : List He.Fa) (fn : List He.DefD) (s : PySem.W.SharedT) : He.AlD := seeM fa fn (He.frG (HandSHeadRun.getT s) (adM (HandSHeadRun.getT s) n))
theorem obM_eq {n : Nat} {fa : List He.Fa} {fn : List He.DefD} (s : PySem.W.SharedT) : obM n fa fn s = (hookM n fa fn).obs s.abs := by
  have e : HandSHeadRun.getT s = s.abs.heap.get? := funext (HandSHeadRun.getT_eq s)
  show seeM fa fn (He.frG (HandSHeadRun.getT s) (adM (HandSHeadRun.getT s) n)) = _
  rw [e]
  rfl
theorem seen_of {fa : List He.Fa} {fn : List He.DefD} {K : PySem.W.Frag} (e : seeM fa fn K = He.valD fn) : He.SaysD fa fn K ∧ I2.noDig K = true := by
  have e1 : ((He.obsD fa fn K).1 && I2.noDig K) = true := congrArg (fun z : He.AlD => z.1) e
  have e2 : (seeM fa fn K).2 = (He.valD fn).2 := by rw [e]
  rw [Bool.and_eq_true] at e1
  exact ⟨Prod.ext e1.1 e2, e1.2⟩

/-! ### calls of the defs -/
section
variable {P : Program} {w : World} {K : PySem.W.Frag} {mg : Str → Option Value} {base : Heap} {c : Cf} {x qual : Str} {params : Arguments} {body : List Stmt} {scope : Scope} {kws : List (Str × V)} {f : Addr} {fd : FuncData} {ps : List Str} {k : Nat} {F : FnT}
theorem callOk_of (FD : FunD K x qual params body scope [] kws f fd) (hm : mg x = some (.ref f)) (ok : FnOk P w K mg base (L2N.CX P w) k f fd ps (spOf c F))
    (hb : ∀ (kV doc pm : Value) (an : Option Addr) (cdv ct : Value) (us : List Value), us.length = ps.length → bindArgs (PySem.W.fnOf x qual params body scope .none kV doc pm an cdv ct) ⟨us, []⟩ = pure (ps.zip us)) : CallOk P w K mg base c x k F [] :=
  ⟨f, fd, ps, [], [], hm, ok, FD.kp, FD.bindsN hb, .nil, fun _ _ => .nil⟩
/-- keyword-only parameters that lack -/
theorem callOk_kw (FD : FunD K x qual params body scope [] kws f fd) (hm : mg x = some (.ref f)) (ok : FnOk P w K mg base (L2N.CX P w) k f fd ps (spOf c F)) (n : Nat) {defs : List D} (hk : kws ≠ []) (hn : n + kws.length = ps.length) (rd : ∀ g L, RVs c g L defs (kws.map (·.2)))
    (hb : ∀ (D : Addr) (doc pm : Value) (an : Option Addr) (cdv ct : Value) (us ks : List Value), us.length = n → ks.length = kws.length →
      KwChain D ((kws.map (·.1)).zip ks) (bindArgs (PySem.W.fnOf x qual params body scope .none (.ref D) doc pm an cdv ct) ⟨us, []⟩) (ps.zip (us ++ ks))) : CallOk P w K mg base c x k F defs := by
  obtain ⟨ds, r, b⟩ := FD.binds0 n hk hn hb
  exact ⟨f, fd, ps, ds, kws.map (·.2), hm, ok, FD.kp, b, r, rd⟩
/-- keyword-only parameters, all written -/
theorem callOk_all (FD : FunD K x qual params body scope [] kws f fd) (hm : mg x = some (.ref f)) (ok : FnOk P w K mg base (L2N.CX P w) k f fd ps (spOf c F)) (n : Nat) (ks : List Str)
    (hb : ∀ (kV doc pm : Value) (an : Option Addr) (cdv ct : Value) (us ws : List Value), us.length = n → ws.length = ks.length → bindArgs (PySem.W.fnOf x qual params body scope .none kV doc pm an cdv ct) ⟨us, ks.zip ws⟩ = pure (ps.zip (us ++ ws))) :
    CallOkK P w K mg base c x k F n ks (fun ds es => ds ++ es) := by
  refine ⟨f, fd, ps, fun vs zs => vs ++ zs, fun us ws => us ++ ws, hm, ok, FD.kp, ⟨fun s us ws X l1 l2 => ?_, fun r1 r2 => r1.append r2⟩, fun g L ds vs es ws r1 r2 => r1.append r2⟩
  obtain ⟨oc, od, dV, kV, doc, pm, an, cdv, ct, osl, e, _, _, hD, _⟩ := FD.ex
  rcases hD with ⟨_, e2⟩ | ⟨z, _⟩
  · rw [e, e2]
    exact .of_eq (hb kV doc pm an cdv ct us ws l1 l2)
  · exact absurd rfl z
end

/-! ### the end -/
/-- a heap without its tables -/
def noT (H : Hp) : Hp := fun a => match H a with
  | some (.tbl _) => none
  | o => o
theorem noT_eq {H : Hp} {a : Addr} {o : HO} (h : H a = some o) (n : ∀ ps, o ≠ .tbl ps) : noT H a = some o := by
  unfold noT
  rw [h]
  cases o with
  | tbl ps => exact absurd rfl (n ps)
  | _ => rfl
theorem noT_of {H : Hp} {a : Addr} {o : HO} (h : noT H a = some o) : H a = some o := by
  unfold noT at h
  split at h
  · cases h
  · exact h
theorem noT_nt {H : Hp} (a : Addr) (ps : Array Value) : noT H a ≠ some (.tbl ps) := fun z => by
  unfold noT at z
  split at z
  · cases z
  · rename_i n
    exact n ps z
theorem noT_sqL {K : PySem.W.Frag} {H : Hp} {a : Addr} {xs : List V} (h : SqL K H a xs) : SqL K (noT H) a xs := by
  rcases h with (h | ⟨o, h⟩) | h
  · exact .inl (.inl (noT_eq h fun ps z => by cases z))
  · exact .inl (.inr ⟨o, noT_eq h fun ps z => by cases z⟩)
  · exact .inr h
/-- where a law begins -/
theorem SR.begin {c : Cf} {H : Hp} (t : LamX.Tabs c.tabs H) : SR c ⟨fun _ => 0, noT H⟩ [] H :=
  ⟨fun _ _ e => noT_of e, fun n l => by obtain ⟨_, z⟩ := l; simp at z, fun n ce e => by simp at e, fun n m l _ _ => by obtain ⟨_, z⟩ := l; simp at z, t, noT_nt⟩
theorem fro_ints {c : Cf} {g : Gh} {L : Nat} : ∀ ns : List Int, RVs c g L (ns.map D.int) (ns.map V.int)
  | [] => .nil
  | n :: ns => .cons (.int n) (fro_ints ns)
theorem walk_gm {l : PySem.W.OpenLaw} {n m k : Nat} {q : Program} {loose : List Str} {XP : (Str → Option Value) → Heap → Prop} {d : DefRec} {fa : List He.Fa} {fn : List He.DefD} {Fl : FnT} (hn : l.most = some n) (hn2 : n ≤ sizeLine) (hdf : d.params.defaults = []) (hr : Room k callerA)
    (facts : ∀ (w : World) (K : PySem.W.Frag) (h : Heap) (mg : Str → Option Value) (f : Addr), K.In h → h.Ns mainGlobals mg → mg d.name = some (.ref f) → He.SaysD fa fn K → I2.noDig K = true →
      ∃ fd : FuncData, (∀ (s : Shared) (u : Value), BindsTo s fd ⟨[u], []⟩ [("script", u)]) ∧ ∀ base : Heap, FnOk l.prog w K mg base (L2N.CX l.prog w) k f fd ["script"] (spOf (cf K) Fl))
    (law : ∀ ns : List Int, ns.length ≤ n → ∃ h', Fl [.fro (ns.map .int)] [] = .ok (.bl true) h') : PySem.W.WalkO q loose XP (hookM m fa fn).says l.row.toRowW d [] (fun f vs => PySem.call f vs) := by
  refine Att.attach_call hn hdf ?_
  intro w s0 s1 mg mb f o pm cd doc a vs ns G Y ho hd hcd hmg hobj hints hlen hg
  obtain ⟨K, KX, e⟩ := Y
  obtain ⟨c1, c2⟩ := seen_of e
  obtain ⟨fd, hb, hF⟩ := facts w K _ mg f KX G.T.g hmg c1 c2
  refine law_call (CX := L2N.CX l.prog w) KX G.T.g G.T.b G.T.builtins G.T.nolimit hg hobj hints (Nat.le_trans hlen hn2) hr (fun base _ _ => hF base) hb (fun H _ hS => ?_) ?_
  · refine ⟨[.fro (ns.map .int)], [], ⟨fun _ => 0, noT H⟩, SR.begin (fun p hp => by cases hp), .cons (.fro (noT_sqL hS) (fro_ints ns)) .nil, ?_⟩
    obtain ⟨h', e⟩ := law ns hlen
    rw [e]
    intro g' H' v _ _ r
    cases r
    rfl
  · rintro H e' s' ⟨_, _, _, _, _, _, _, _, _, _, _, _, z⟩
    exact z
end Gm

/-! Gm12: types as values, isinstance, defs that call themselves. -/
namespace Gm
open PySem PySem.Spec PyProof.Rows L2
/-- the name of a value's type -/
def tyD (h : Store) : D → Option String
  | .non => some "NoneType"
  | .bl _ => some "bool"
  | .int _ => some "int"
  | .str _ => some "str"
  | .lst _ => some "list"
  | .fro _ => some "list"
  | .tup _ => some "tuple"
  | .dct _ => some "dict"
  | .ref n => match h[n]? with
    | some (some (.lst _)) => some "list"
    | some (some (.dct _)) => some "dict"
    | _ => none
  | _ => none
def tyNames : List String := ["NoneType", "bool", "int", "str", "list", "tuple", "dict"]
def tyAsk : List String := ["bool", "int", "str", "list", "tuple", "dict"]
def tyIs (a b : String) : Bool := a == b || (a == "bool" && b == "int")
theorem kit_all : (tyNames.all fun a => tyAsk.all fun b => kitB a b == some (tyIs a b)) = true := by decide +kernel
theorem kit_is {a b : String} (ha : a ∈ tyNames) (hb : b ∈ tyAsk) : kitB a b = some (tyIs a b) := by
  have z := List.all_eq_true.mp (List.all_eq_true.mp kit_all a ha) b hb
  exact eq_of_beq z
section
variable {c : Cf} {g : Gh} {h : Store} {H : Hp}
theorem tyD_ok (S : SR c g h H) {d : D} {v : V} {a : String} (r : RV c g h.length d v) (e : tyD h d = some a) : TyX c.K H v (.type a) ∧ a ∈ tyNames := by
  have sq : ∀ {p : Addr} {vs : List V}, SqL c.K H p vs → TyX c.K H (.ref p) (.type "list") := fun {p vs} q => by
    rcases q with (q | ⟨o, q⟩) | ⟨o, its, n, q1, q2, _⟩
    · exact .base (.lst q)
    · exact .base (.frz q)
    · exact .kList q1 q2
  have st : ∀ {p : Addr} {vs : List V}, SqT c.K H p vs → TyX c.K H (.ref p) (.type "tuple") := fun {p vs} q => by
    rcases q with (q | ⟨o, q⟩) | ⟨o, its, n, q1, q2, _⟩
    · exact .base (.tup q)
    · exact .fTuple q
    · exact .kTuple q1 q2
  cases r with
  | non => cases e; exact ⟨.base .non, by decide⟩
  | bl b => cases e; exact ⟨.base (.bl b), by decide⟩
  | int b => cases e; exact ⟨.base (.int b), by decide⟩
  | str b => cases e; exact ⟨.base (.str b), by decide⟩
  | lst q _ => cases e; exact ⟨.base (.lst (S.sub _ _ q)), by decide⟩
  | fro q _ => cases e; exact ⟨sq (SqL.sub S.sub q), by decide⟩
  | tup q _ => cases e; exact ⟨st (SqT.sub S.sub q), by decide⟩
  | dct q _ => cases e; exact ⟨.base (.dK (S.sub _ _ q)), by decide⟩
  | @ref n hn =>
    unfold tyD at e
    dsimp only at e
    split at e
    · rename_i l e1
      cases e
      obtain ⟨vs, e2, _⟩ := S.cell n _ e1
      exact ⟨.base (.lst e2), by decide⟩
    · rename_i l e1
      cases e
      obtain ⟨vs, e2, _⟩ := S.cell n _ e1
      exact ⟨.base (.dK e2), by decide⟩
    · cases e
  | _ => cases e
def fIsi : CallT := fun ds h => match ds with
  | [d, .ty b] => match tyD h d with
    | some a => if b ∈ tyAsk then .ok (.bl (tyIs a b)) h else .no
    | none => .no
  | _ => .no
theorem fIsi_ok : CROk c (rIsi c.K) fIsi := by
  intro g h H ds vs Q E S rs q
  unfold fIsi at q
  split at q
  · rename_i d b
    cases rs with
    | cons r rr =>
      cases rr with
      | cons r2 rr =>
        cases rr
        cases r2
        split at q
        · rename_i a ea
          obtain ⟨ty, hm⟩ := tyD_ok S r ea
          by_cases hb : b ∈ tyAsk
          · rw [if_pos hb] at q
            exact ⟨_, _, _, _, _, rfl, .ty b, ty, kit_ty (kit_is hm hb), RP.ok_here q S (.bl _)⟩
          · rw [if_neg hb] at q
            exact q.elim
        · exact q.elim
  · exact q.elim
end
section
variable {c : Cf} {W : WX} {X : Cx} {e : Expr} {fe : Ev D} {p pos tpos : Pos}
/-- a built-in type's name as a value -/
theorem e_bty {x : Str} {T : String} (hg : Gl X x) (hm : X.mg x = none) (hv : bootBuiltins x = some (.type T)) (hn : x ≠ "__name__" := by decide) (hd : (x == ("__debug__" : Str)) = false := by decide) : PE X (.Name x p) (tEv c W (cK (.ty T))) := e_k (pe_bltn (v := .ty T) hg hm hv rfl hn hd) fun _ _ => .ty T
/-- isinstance(x, (A, B)) -/
def cIs2 (fe : Ev D) (A B : String) : Ev D := fun st h => (fe st h).bind fun d h1 => match tyD h1 d with
  | some a => if A ∈ tyAsk ∧ B ∈ tyAsk then .ok (.bl (tyIs a A || tyIs a B)) h1 else .no
  | none => .no
theorem e_is2 {x y : Str} {A B : String} {k : Nat} {p1 p2 : Pos} (hK : c.K = X.K) (hg : Gl X "isinstance") (hm : X.mg "isinstance" = none) (hv : bootBuiltins "isinstance" = some (.builtin "isinstance")) (he : PE X e (tEv c W fe)) (h1 : PE X (.Name x p1) (tC (.ty A))) (h2 : PE X (.Name y p2) (tC (.ty B)))
    (s1 : starEach [e, .Tuple [.Name x p1, .Name y p2] k tpos] X.env = (false, eval e X.env) :: starEach [.Tuple [.Name x p1, .Name y p2] k tpos] X.env := by rfl) (s2 : starEach [.Tuple [.Name x p1, .Name y p2] k tpos] X.env = (false, eval (.Tuple [.Name x p1, .Name y p2] k tpos) X.env) :: starEach [] X.env := by rfl)
    (s3 : starEach [.Name x p1, .Name y p2] X.env = (false, eval (.Name x p1) X.env) :: starEach [.Name y p2] X.env := by rfl) (s4 : starEach [.Name y p2] X.env = (false, eval (.Name y p2) X.env) :: starEach [] X.env := by rfl)
    (hpl : (backTo pos (starEach [.Tuple [.Name x p1, .Name y p2] k tpos] X.env)).any (·.1) = false := by rfl) :
    PE X (.Call (.Name "isinstance" p) [e, .Tuple [.Name x p1, .Name y p2] k tpos] [] pos) (tEv c W (cIs2 fe A B)) := by
  have pt : PE X (.Tuple [.Name x p1, .Name y p2] k tpos) (tTup (tCons (tC (.ty A)) (tCons (tC (.ty B)) tNil))) := pe_tup (pa_cons h1 (pa_cons h2 pa_nil s4) s3)
  refine PE.imp (pe_callB call_isiT hg hm hv (pa_cons he (pa_cons pt pa_nil s2) s1) (by decide) (by decide) s1 hpl) fun σ H Q ⟨st, h, g, S, sl, q⟩ => ?_
  refine ⟨st, h, g, S, sl, RP.mono (RP.bind q) fun v H1 ⟨d, h1, g1, o1, S1, r1, q1⟩ => ?_⟩
  split at q1
  · rename_i a ea
    by_cases hb : A ∈ tyAsk ∧ B ∈ tyAsk
    · rw [if_pos hb] at q1
      refine ⟨show 2 ≤ sizeLine by decide, fun tp hp => ?_⟩
      obtain ⟨S2, o2⟩ := S1.tree (o := .tup [.ty A, .ty B]) hp
      obtain ⟨ty, hm2⟩ := tyD_ok S2 (r1.mono o2.gx (Nat.le_refl _)) ea
      rw [hK] at ty
      refine ⟨v, tp, [.ty A, .ty B], .type a, [.type A, .type B], tyIs a A || tyIs a B, rfl, upd_same, .cons (.ty A) (.cons (.ty B) .nil), ty, ?_, q1 _ _ _ o2 S2 (.bl _)⟩
      refine kitAny_cons (kit_ty (kit_is hm2 hb.1)) (fun z => ?_) (fun z => by rw [z]; rfl)
      rw [z, Bool.false_or]
      exact kitAny_cons (r := tyIs a B) (kit_ty (kit_is hm2 hb.2)) (fun z2 => by rw [z2]; rfl) (fun z2 => z2)
    · rw [if_neg hb] at q1
      exact q1.elim
  · exact q1.elim
end
/-- a promise of nothing -/
theorem fnOk_no {P : Program} {w : World} {K : PySem.W.Frag} {mg : Str → Option Value} {base : Heap} {CX : CXT} {k : Nat} {f : Addr} {fd : FuncData} {ps : List Str} {c : Cf} : FnOk P w K mg base CX k f fd ps (spOf c fun _ _ => .no) :=
  ⟨fun _ _ _ _ ⟨_, _, _, _, _, q⟩ => q.elim, fun _ _ _ _ _ _ _ _ _ _ _ _ _ ⟨_, _, _, _, _, q⟩ => q.elim⟩
end Gm

/-! Gm13: raising an own class without arguments. -/
namespace Gm
open PySem PySem.Spec PyProof.Rows L2
/-- the module's name x is an own exception class under ValueError, without an own __init__ -/
structure ExOwn (K : PySem.W.Frag) (mg : Str → Option Value) (x : Str) : Prop where
  glo : mg x = some (.ref (He.ga K x))
  inn : PySem.W.excIn K (He.ga K x) He.veBase "ValueError.__new__" = true
  kp : PySem.W.keepIn K (.ref (He.ga K x)) = true
  sub : PySem.W.subIn K (.ref (He.ga K x)) (.type "BaseException") = some true
  ty : PySem.W.typeIn K (.ref (He.ga K x)) = some (.type "type")
theorem exOwn_of {K : PySem.W.Frag} {h : Heap} {mg : Str → Option Value} {x : Str} (k : K.In h) (n : h.Ns mainGlobals mg) (c1 : (He.Fa.glo x).ok K = true) (c2 : (He.Fa.exc x).ok K = true) : ExOwn K mg x := by
  obtain ⟨e1, e2, e3, e4⟩ := He.exc_ok c2
  exact ⟨He.glo_ok k n c1, e1, e2, e3, e4⟩
def sRaise (x : Str) : Ss := fun st h => .exc ⟨x, none⟩ st h
section
variable {c : Cf} {W : WX} {X : Cx} {x : Str} {p pos rpos : Pos}
theorem mk_own0 (F : ExOwn X.K X.mg x) (hg : Gl X x) (hd : (x == ("__debug__" : Str)) = false := by decide) : L2N.PMk X (.Call (.Name x p) [] [] pos) (fun _ H Q => Q (.ref (He.ga X.K x)) none H) := by
  intro pins s σ H Q I q
  refine wpAny_Call_Name_kw (ld_glob I hg F.glo ?_ hd)
  refine PySem.W.callWith_K0 I.kIn F.kp ?_
  obtain ⟨bm, N, nm, qn, bs, hdct, sn, sub, ab, col, dd, k0, k1, k2, k3, k5, mN, hC, hN, hni, T⟩ := exc_obj I.kIn F.inn
  exact wpAny_call_exc_subT PySem.F.excBase_ValueError T hC hN hni (fun h' e hm => L2N.mk_of I hm (raises_own F.sub F.ty) q (I.hok.gone hm.new)) (Nat.zero_le _)
theorem s_raise (hc : X.calm = true) (tk : L2N.Takes X W) (hC : c.cl x = some (He.ga X.K x)) (F : ExOwn X.K X.mg x) (hg : Gl X x) (hd : (x == ("__debug__" : Str)) = false := by decide) : PS X (.Raise (some (.Call (.Name x p) [] [] pos)) none rpos) (tSt c W (sRaise x)) :=
  PS.imp (L2N.ps_raise hc tk (mk_own0 F hg hd)) fun D σ H ⟨st, h, g, S, sl, q⟩ => q g H σ _ none (Go.refl _ _ _) S sl ⟨_, hC, rfl, rfl⟩
end
end Gm

/-! Gm14: instances: made, read, their methods called. -/
namespace Gm
open PySem PySem.Spec PyProof.Rows L2
/-- a cell that becomes what stays -/
theorem SR.still {c : Cf} {g : Gh} {h : Store} {H : Hp} (S : SR c g h H) {n : Nat} {ce : Cell} {o : HO} (hn : h[n]? = some (some ce)) (hv : H (g.io n) = some o) :
    SR c { g with tr := upd g.tr (g.io n) o } (h.set n none) H ∧ Go g h H { g with tr := upd g.tr (g.io n) o } (h.set n none) H := by
  have ln : Live h n := ⟨_, hn⟩
  have no : ∀ ps, o ≠ .tbl ps := fun ps z => by
    obtain ⟨u, hu, mu⟩ := (S.cell n ce hn).some
    rw [hv] at hu
    cases hu
    subst z
    exact mu
  have keep : ∀ a u, g.tr a = some u → upd g.tr (g.io n) o a = some u := fun a u e => by
    have hb : a ≠ g.io n := fun z => by rw [z, S.apart n ln] at e; cases e
    rw [upd_ne hb]
    exact e
  have gx : Gx g h.length { g with tr := upd g.tr (g.io n) o } := ⟨fun _ _ => rfl, fun a u e => keep a u e⟩
  have lv : ∀ m, Live (h.set n none) m → Live h m ∧ m ≠ n := fun m ⟨ce', e⟩ => by
    by_cases z : m = n
    · subst z
      rw [List.getElem?_set_self ln.lt] at e
      cases e
    · rw [List.getElem?_set_ne (Ne.symm z)] at e
      exact ⟨⟨ce', e⟩, z⟩
  constructor
  · refine ⟨fun a u e => ?_, fun m l => ?_, fun m ce' e => ?_, fun m k l1 l2 e => S.inj m k (lv m l1).1 (lv k l2).1 e, S.tabs, nt_upd S.nt no⟩
    · have e : upd g.tr (g.io n) o a = some u := e
      by_cases z : a = g.io n
      · rw [z, upd_same] at e
        rw [z, hv, e]
      · rw [upd_ne z] at e
        exact S.sub a u e
    · show upd g.tr (g.io n) o (g.io m) = none
      obtain ⟨l0, nm⟩ := lv m l
      rw [upd_ne (fun e => nm (S.inj m n l0 ln e))]
      exact S.apart m l0
    · obtain ⟨l0, nm⟩ := lv m ⟨ce', e⟩
      rw [List.getElem?_set_ne (Ne.symm nm)] at e
      rw [List.length_set]
      exact (S.cell m ce' e).mono gx (Nat.le_refl _) rfl
  · refine ⟨by simp, gx.io, gx.tr, fun a u e nt => ⟨u, e, nt⟩, fun a u e _ _ => e, fun a u e _ t nl => ?_, fun m _ l => (lv m l).1, fun m hm l => absurd l.lt (by simpa using hm)⟩
    show upd g.tr (g.io n) o a = none
    rw [upd_ne (Ne.symm (nl n ln))]
    exact t
section
variable {c : Cf} {g : Gh} {L : Nat} {fs : List (Str × D)} {fvs : List (Str × V)}
theorem RFs.lookup {f : Str} : ∀ {fs : List (Str × D)} {fvs : List (Str × V)}, RFs c g L fs fvs → (fs.lookup f = none ∧ fvs.lookup f = none) ∨ ∃ d v, fs.lookup f = some d ∧ fvs.lookup f = some v ∧ RV c g L d v
  | _, _, .nil => .inl ⟨rfl, rfl⟩
  | _, _, .cons (k := k) (d := d) (v := v) h r => by
    rw [List.lookup_cons, List.lookup_cons]
    cases e : f == k with
    | true => exact .inr ⟨d, v, rfl, rfl, h⟩
    | false => exact RFs.lookup r
theorem RFs.len : ∀ {fs : List (Str × D)} {fvs : List (Str × V)}, RFs c g L fs fvs → fs.length = fvs.length
  | _, _, .nil => rfl
  | _, _, .cons _ r => by simp only [List.length_cons, RFs.len r]
end
/-- an instance: one that stays, a cell's -/
def asO (h : Store) : D → Option (Str × List (Str × D))
  | .obj n fs => some (n, fs)
  | .ref m => match h[m]? with
    | some (some (.obj n fs)) => some (n, fs)
    | _ => none
  | _ => none
theorem asO_ok {c : Cf} {g : Gh} {h : Store} {H : Hp} {d : D} {v : V} {n : Str} {fs : List (Str × D)} (S : SR c g h H) (r : RV c g h.length d v) (e : asO h d = some (n, fs)) : ∃ a C dx fvs, v = .ref a ∧ H a = some (.ins C dx fvs) ∧ c.cl n = some C ∧ RFs c g h.length fs fvs := by
  cases r with
  | obj h1 hc r => cases e; exact ⟨_, _, _, _, rfl, S.sub _ _ h1, hc, r⟩
  | @ref m hm =>
    unfold asO at e
    dsimp only at e
    split at e
    · rename_i n' fs' e1
      cases e
      obtain ⟨C, dx, fvs, e2, e3, r2⟩ := S.cell m _ e1
      exact ⟨_, C, dx, fvs, rfl, e2, e3, r2⟩
    · cases e
  | _ => cases e
section
variable {c : Cf} {W : WX} {X : Cx} {o value : Expr} {fo fv : Ev D} {f n : Str} {C : Addr} {pos pos' apos cpos : Pos}
def cFld (n f : Str) (fo : Ev D) : Ev D := fun st h => (fo st h).bind fun d h1 => match asO h1 d with
  | some (n', fs) => if n' = n then match fs.lookup f with
      | some v => .ok v h1
      | none => .no
    else .no
  | none => .no
theorem e_fld (hK : c.K = X.K) (hC : c.cl n = some C) (hc : Cls X.K C) (hn : NoAttr X.K C f) (ho : PE X o (tEv c W fo)) (hb : attributeBase o f X.env (eval o X.env) = eval o X.env := by rfl) : PE X (.Attribute o f pos) (tEv c W (cFld n f fo)) :=
  PE.imp (pe_fld ho hb) fun σ H Q ⟨st, h, g, S, sl, q⟩ => by
    refine ⟨st, h, g, S, sl, RP.mono (RP.bind q) fun v H1 ⟨d, h1, g1, o1, S1, r1, q1⟩ => ?_⟩
    split at q1
    · rename_i n' fs en
      by_cases e : n' = n
      · rw [if_pos e] at q1
        subst e
        obtain ⟨a, C', dx, fvs, rfl, e2, e3, r2⟩ := asO_ok S1 r1 en
        have : C' = C := by rw [hC] at e3; exact (Option.some.inj e3).symm
        subst this
        rcases r2.lookup (f := f) with ⟨z1, _⟩ | ⟨d', v', z1, z2, rv⟩
        · rw [z1] at q1; exact q1.elim
        · rw [z1] at q1
          exact ⟨a, C', dx, fvs, v', rfl, e2, hc, hn, z2, RP.ok_here q1 S1 rv⟩
      · rw [if_neg e] at q1; exact q1.elim
    · exact q1.elim
/-- fields, written -/
def putFD (f : Str) (d : D) : List (Str × D) → List (Str × D)
  | [] => [(f, d)]
  | (k, e) :: r => if k = f then (k, d) :: r else (k, e) :: putFD f d r
theorem RFs.put {g : Gh} {L : Nat} {d : D} {v : V} (q : RV c g L d v) : ∀ {fs : List (Str × D)} {fvs : List (Str × V)}, RFs c g L fs fvs → RFs c g L (putFD f d fs) (putF f v fvs)
  | _, _, .nil => .cons q .nil
  | _, _, .cons (k := k) h r => by
    unfold putFD putF
    by_cases e : k = f
    · rw [if_pos e, if_pos e]
      exact .cons q r
    · rw [if_neg e, if_neg e]
      exact .cons h (RFs.put q r)
def sFldD (n f : Str) (fv fo : Ev D) : Ss := fun st h => (fv st h).out st fun d h1 => (fo st h1).out st fun x h2 => match x with
  | .ref m => match h2[m]? with
    | some (some (.obj n' fs)) => if n' = n ∧ fs.length < 1000 then .next st (h2.set m (some (.obj n' (putFD f d fs)))) else .no
    | _ => .no
  | _ => .no
theorem s_fld (hK : c.K = X.K) (hC : c.cl n = some C) (hc : Cls X.K C) (hn : NoAttr X.K C f) (ho : PE X o (tEv c W fo)) (hv : PE X value (tEv c W fv)) (hs : swapsWith value (some (.Attribute o f pos')) pos.line X.env = pure false := by rfl) :
    PS X (.Assign [.Attribute o f pos'] value pos) (tSt c W (sFldD n f fv fo)) := PS.imp (ps_fld ho hv hs) fun D σ H ⟨st, h, g, S, sl, q⟩ => by
  refine ⟨st, h, g, S, sl, RP.mono (OP.out sl q) fun v H1 ⟨d, h1, g1, o1, S1, r1, q1⟩ => ?_⟩
  refine ⟨st, h1, g1, S1, sl.go o1, RP.mono (OP.out (sl.go o1) q1) fun x H2 ⟨xd, h2, g2, o2, S2, r2, q2⟩ => ?_⟩
  have o12 := o1.trans o2
  cases r2 with
  | @ref m hm =>
    dsimp only at q2
    split at q2
    · rename_i n' fs e1
      by_cases e : n' = n ∧ fs.length < 1000
      · rw [if_pos e] at q2
        obtain ⟨en, el⟩ := e
        subst en
        obtain ⟨C', dx, fvs, e2, e3, rr⟩ := S2.cell m _ e1
        have : C' = C := by rw [hC] at e3; exact (Option.some.inj e3).symm
        subst this
        obtain ⟨S3, o3⟩ := S2.write (o := .ins C' dx (putF f v fvs)) (ce' := .obj n' (putFD f d fs)) e1 ⟨C', dx, _, upd_same, hC, rr.put (r1.mono o2.gx o2.len)⟩
        exact ⟨_, C', dx, fvs, rfl, e2, hc, hn, by rw [← rr.len]; exact el, q2 g2 _ σ o3 S3 (sl.go (o12.trans o3))⟩
      · rw [if_neg e] at q2; exact q2.elim
    · exact q2.elim
  | _ => exact q2.elim
/-- a method of the class n -/
def cMeth (n m : Str) (F : FnT) (defs : List D) (fo : Ev D) (fs : Ev (List D)) : Ev D := fun st h => (fo st h).bind fun d h1 => match asO h1 d with
  | some (n', ff) => if n' = n ∧ ff.lookup m = none then (fs st h1).bind fun ds h2 => F (d :: (ds ++ defs)) h2 else .no
  | none => .no
/-- a method by the way it is called -/
def MethOk (P : Program) (w : World) (K : PySem.W.Frag) (mg : Str → Option Value) (base : Heap) (c : Cf) (n m : Str) (k : Nat) (F : FnT) (defs : List D) : Prop :=
  ∃ (C f : Addr) (fd : FuncData) (ps : List Str) (ds : List Value) (dvs : List V), c.cl n = some C ∧ Cls K C ∧ Meth K C m f ∧ FnOk P w K mg base (L2N.CX P w) k f fd ps (spOf c F) ∧ L2.Binds K fd ps ds ∧ Vals dvs ds ∧ ∀ g L, RVs c g L defs dvs
theorem methR {m : Str} {F : FnT} {defs : List D} {dvs : List V} {E : XK} {ta : TA} {fs : Ev (List D)} (hC : c.cl n = some C) (rd : ∀ g L, RVs c g L defs dvs) (hW : ∀ cls dd σ H, W cls dd σ H → E cls dd H) (hta : ∀ σ H Q, tAr c W fs σ H Q → ta σ H Q) {σ : L2.St} {H : Hp} {Q : VK}
    (x : tEv c W (cMeth n m F defs fo fs) σ H Q) : tMeth C m (spOf c F) dvs E (tEv c W fo) ta σ H Q := by
  obtain ⟨st, h, g, S, sl, q⟩ := x
  refine ⟨st, h, g, S, sl, RP.mono (RP.bind q) fun v H1 ⟨d, h1, g1, o1, S1, r1, q1⟩ => ?_⟩
  split at q1
  · rename_i n' ff en
    by_cases e : n' = n ∧ ff.lookup m = none
    · rw [if_pos e] at q1
      obtain ⟨e1, e2⟩ := e
      subst e1
      obtain ⟨a, C', dx, fvs, ev, e3, e4, r2⟩ := asO_ok S1 r1 en
      have : C' = C := by rw [hC] at e4; exact (Option.some.inj e4).symm
      subst this
      have lk : fvs.lookup m = none := by
        rcases r2.lookup (f := m) with ⟨_, z⟩ | ⟨d', v', z1, _, _⟩
        · exact z
        · rw [z1] at e2; cases e2
      refine ⟨a, dx, fvs, ev, e3, lk, hta _ _ _ ⟨st, h1, g1, S1, sl.go o1, RP.mono (RP.bind q1) fun vs H2 ⟨ds, h2, g2, o2, S2, r3, q2⟩ => ?_⟩⟩
      refine ⟨d :: (ds ++ defs), h2, g2, S2, .cons (r1.mono o2.gx o2.len) (r3.append (rd _ _)), ?_⟩
      cases er : F (d :: (ds ++ defs)) h2 with
      | ok d3 h3 => rw [er] at q2; exact q2
      | exc ee h3 => rw [er] at q2; exact fun g' H' cls dd o S' rx => hW _ _ _ _ (q2 g' H' cls dd o S' rx)
      | no => rw [er] at q2; exact q2
    · rw [if_neg e] at q1; exact q1.elim
  · exact q1.elim
theorem e_meth0 {m : Str} {k j : Nat} {F : FnT} {defs : List D} {E : XK} {pl : Sem Bool} (G : MethOk X.prog X.w X.K X.mg X.base c n m k F defs) (hr : Room j X.A) (hj : k ≤ j) (hx : Passes (L2N.CX X.prog X.w) X E) (hW : ∀ cls dd σ H, W cls dd σ H → E cls dd H) (ho : PE X o (tEv c W fo))
    (ht : eval (.Call (.Attribute o m apos) [] [] cpos) X.env = (do
      let ov ← eval o X.env
      standAt apos.atName
      let (f, first) ← holding [ov] (getMethod ov m pl)
      callWith cpos f first (backTo cpos (starEach [] X.env)) (backToKw cpos (keywordEach [] X.env))) := by rfl) : PE X (.Call (.Attribute o m apos) [] [] cpos) (tEv c W (cMeth n m F defs fo cNil)) := by
  obtain ⟨C, f, fd, ps, ds, dvs, hC, hc, hm, ok, hb, hd, rd⟩ := G
  exact PE.imp (pe_meth0 (E := E) ho hc hm ok (hr.mono hj) hb hd hx ht) fun σ H Q x => methR hC rd hW (fun σ H Q ⟨st, h, g, S, sl, q⟩ => RP.ok_here (α := List D) (β := List V) (R := Rvs c) q S .nil) x
theorem e_meth {m : Str} {k j : Nat} {F : FnT} {defs : List D} {E : XK} {pl : Sem Bool} {e : Expr} {es : List Expr} {fs : Ev (List D)} (G : MethOk X.prog X.w X.K X.mg X.base c n m k F defs) (hr : Room j X.A) (hj : k ≤ j) (hx : Passes (L2N.CX X.prog X.w) X E) (hW : ∀ cls dd σ H, W cls dd σ H → E cls dd H)
    (ho : PE X o (tEv c W fo)) (ha : PA X (e :: es) (tAr c W fs)) (hst : starEach (e :: es) X.env = (false, eval e X.env) :: starEach es X.env := by rfl) (hpl : (backTo cpos (starEach es X.env)).any (·.1) = false := by rfl)
    (ht : eval (.Call (.Attribute o m apos) (e :: es) [] cpos) X.env = (do
      let ov ← eval o X.env
      standAt apos.atName
      let (f, first) ← holding [ov] (getMethod ov m pl)
      callWith cpos f first (backTo cpos (starEach (e :: es) X.env)) (backToKw cpos (keywordEach [] X.env))) := by rfl) : PE X (.Call (.Attribute o m apos) (e :: es) [] cpos) (tEv c W (cMeth n m F defs fo fs)) := by
  obtain ⟨C, f, fd, ps, ds, dvs, hC, hc, hm, ok, hb, hd, rd⟩ := G
  exact PE.imp (pe_meth (E := E) ho hc hm ok (hr.mono hj) hb hd hx ha hst hpl ht) fun σ H Q x => methR hC rd hW (fun _ _ _ z => z) x
/-- n(..): a new instance, which stays as __init__ leaves it -/
def cMake (n : Str) (F : FnT) (defs : List D) (fs : Ev (List D)) : Ev D := fun st h => (fs st h).bind fun ds h1 => (F (.ref h1.length :: (ds ++ defs)) (h1 ++ [some (.obj n [])])).bind fun d h2 => match d, h2[h1.length]? with
  | .non, some (some (.obj n' ff)) => cleanD h1.length (.ok (.obj n' ff) (h2.set h1.length none))
  | _, _ => .no
def MakeOk (P : Program) (w : World) (K : PySem.W.Frag) (mg : Str → Option Value) (base : Heap) (c : Cf) (n : Str) (k : Nat) (F : FnT) (defs : List D) : Prop :=
  ∃ (C f : Addr) (fd : FuncData) (ps : List Str) (ds : List Value) (dvs : List V), mg n = some (.ref C) ∧ c.cl n = some C ∧ Mk K C f ∧ FnOk P w K mg base (L2N.CX P w) k f fd ps (spOf c F) ∧ L2.Binds K fd ps ds ∧ Vals dvs ds ∧ ∀ g L, RVs c g L defs dvs
theorem makeR {F : FnT} {defs : List D} {dvs : List V} {E : XK} {fs : Ev (List D)} (hC : c.cl n = some C) (rd : ∀ g L, RVs c g L defs dvs) (hW : ∀ cls dd σ H, W cls dd σ H → E cls dd H) {σ : L2.St} {H : Hp} {Q : VK}
    (x : tEv c W (cMake n F defs fs) σ H Q) : tMake C (spOf c F) dvs E (tAr c W fs) σ H Q := by
  obtain ⟨st, h, g, S, sl, q⟩ := x
  refine ⟨st, h, g, S, sl, RP.mono (RP.bind q) fun vs H1 ⟨ds, h1, g1, o1, S1, r1, q1⟩ => ?_⟩
  intro a dx ha hd hne
  obtain ⟨S2, _, _⟩ := S1.side0 (o := .own a) hd
  have o2 : Go g1 h1 H1 g1 h1 (upd H1 dx (.own a)) := (Go.refl g1 h1 H1).side hd
  have ha2 : upd H1 dx (.own a) a = none := by rw [upd_ne (Ne.symm hne)]; exact ha
  obtain ⟨S3, o3⟩ := S2.push (o := .ins C dx []) (ce := .obj n []) ha2 fun g' gx => ⟨C, dx, [], upd_same, hC, .nil⟩
  have o23 := o2.trans o3
  have io3 : (g1.push h1.length a).io h1.length = a := by
    show (if h1.length = h1.length then a else _) = a
    rw [if_pos rfl]
  have hl : h1.length < (h1 ++ [some (Cell.obj n [])]).length := by simp
  have r0 : RV c (g1.push h1.length a) (h1 ++ [some (Cell.obj n [])]).length (.ref h1.length) (.ref a) := by
    have z := RV.ref (c := c) (g := g1.push h1.length a) hl
    rw [io3] at z
    exact z
  refine ⟨.ref h1.length :: (ds ++ defs), h1 ++ [some (.obj n [])], g1.push h1.length a, S3, .cons r0 ((r1.mono o23.gx o23.len).append (rd _ _)), ?_⟩
  cases er : F (.ref h1.length :: (ds ++ defs)) (h1 ++ [some (.obj n [])]) with
  | no => rw [er] at q1; exact q1.elim
  | exc ee h3 => rw [er] at q1; exact fun g' H' cls dd o S' rx => hW _ _ _ _ (q1 g' H' cls dd (o23.trans o) S' rx)
  | ok d h2 =>
    rw [er, Res.bind_ok] at q1
    intro g4 H4 v4 o4 S4 r4
    split at q1
    · rename_i n' ff ec
      cases r4
      refine ⟨rfl, ?_⟩
      have q2 := RP.clean q1
      obtain ⟨C', dx', fvs, e2, e3, rr⟩ := S4.cell _ _ ec
      obtain ⟨S5, o5⟩ := S4.still ec e2
      have io4 : g4.io h1.length = a := by rw [o4.io _ hl, io3]
      have z := q2 _ H4 (.ref (g4.io h1.length)) ((o23.trans o4).trans o5) S5 (.obj upd_same e3 (by rw [List.length_set]; exact rr.mono o5.gx (by simp)))
      rw [io4] at z
      exact z
    · exact q1.elim
theorem e_make {k j : Nat} {F : FnT} {defs : List D} {E : XK} {p pos : Pos} {e : Expr} {es : List Expr} {fs : Ev (List D)} (G : MakeOk X.prog X.w X.K X.mg X.base c n k F defs) (hr : Room j X.A) (hj : k + 1 ≤ j) (hx : Passes (L2N.CX X.prog X.w) X E) (hW : ∀ cls dd σ H, W cls dd σ H → E cls dd H) (hg : Gl X n)
    (ha : PA X (e :: es) (tAr c W fs)) (hdb : (n == ("__debug__" : Str)) = false := by decide) (he : starEach (e :: es) X.env = (false, eval e X.env) :: starEach es X.env := by rfl) (hpl : (backTo pos (starEach es X.env)).any (·.1) = false := by rfl) :
    PE X (.Call (.Name n p) (e :: es) [] pos) (tEv c W (cMake n F defs fs)) := by
  obtain ⟨C, f, fd, ps, ds, dvs, hm, hC, M, ok, hb, hd, rd⟩ := G
  exact PE.imp (pe_make (E := E) M ok (hr.mono hj) hg hm hb hd hx ha hdb he hpl) fun σ H Q x => makeR hC rd hW x
end
end Gm

/-! Gm15: min, max, int, tuple; lists and texts times an int; xs[::-1]; d.get(k, x); nested targets of comprehensions. -/
namespace Gm
open PySem PySem.Spec PyProof.Rows L2
section
variable {c : Cf} {X : Cx}
def fMin2 : CallT := fun ds h => match ds with
  | [.int i, .int j] => .ok (.int (if j < i then j else i)) h
  | _ => .no
theorem fMin2_ok : CROk c (fun xs H Q => ∃ i j : Int, xs = [.int i, .int j] ∧ Q (.int (if j < i then j else i)) H) fMin2 := by
  intro g h H ds vs Q E S rs q
  unfold fMin2 at q
  split at q
  · cases rs with
    | cons r rr =>
      cases rr with
      | cons r2 rr =>
        cases rr; cases r; cases r2
        exact ⟨_, _, rfl, RP.ok_here q S (.int _)⟩
  · exact q.elim
def fMax2 : CallT := fun ds h => match ds with
  | [.int i, .int j] => .ok (.int (if j > i then j else i)) h
  | _ => .no
theorem fMax2_ok : CROk c (fun xs H Q => ∃ i j : Int, xs = [.int i, .int j] ∧ Q (.int (if j > i then j else i)) H) fMax2 := by
  intro g h H ds vs Q E S rs q
  unfold fMax2 at q
  split at q
  · cases rs with
    | cons r rr =>
      cases rr with
      | cons r2 rr =>
        cases rr; cases r; cases r2
        exact ⟨_, _, rfl, RP.ok_here q S (.int _)⟩
  · exact q.elim
def fInt1 : CallT := fun ds h => match ds with
  | [.int i] => .ok (.int i) h
  | [.bl k] => .ok (.int (if k then 1 else 0)) h
  | _ => .no
theorem fInt1_ok : CROk c (fun xs H Q => (∃ i : Int, xs = [.int i] ∧ Q (.int i) H) ∨ ∃ k : Bool, xs = [.bl k] ∧ Q (.int (if k then 1 else 0)) H) fInt1 := by
  intro g h H ds vs Q E S rs q
  unfold fInt1 at q
  split at q
  · cases rs with
    | cons r rr => cases rr; cases r; exact .inl ⟨_, rfl, RP.ok_here q S (.int _)⟩
  · cases rs with
    | cons r rr => cases rr; cases r; exact .inr ⟨_, rfl, RP.ok_here q S (.int _)⟩
  · exact q.elim
/-- tuple(xs) -/
def fTuple : CallT := fun ds h => match ds with
  | [.tup l] => .ok (.tup l) h
  | [d] => match asR h d with
    | some l => .ok (.tup l) h
    | none => .no
  | _ => .no
theorem fTuple_ok : CROk c (fun xs H Q => ∃ p ys, xs = [.ref p] ∧ ((SqL c.K H p ys ∧ ∀ l, H l = none → Q (.ref l) (upd H l (.tup ys))) ∨ (SqT c.K H p ys ∧ Q (.ref p) H))) fTuple := by
  intro g h H ds vs Q E S rs q
  unfold fTuple at q
  split at q
  · cases rs with
    | cons r rr =>
      cases rr
      obtain ⟨a, ws, rfl, hq, r3⟩ := RV.tup' S r
      exact ⟨a, ws, rfl, .inr ⟨hq, RP.ok_here q S r⟩⟩
  · rename_i d _
    split at q
    · rename_i l el
      cases rs with
      | cons r rr =>
        cases rr
        obtain ⟨a, ws, rfl, hq, r2⟩ := asR_ok S r el
        refine ⟨a, ws, rfl, .inl ⟨hq, fun p hp => ?_⟩⟩
        obtain ⟨S2, o2⟩ := S.tree (o := .tup ws) hp
        exact q _ _ _ o2 S2 (.tup (.inl (.inl upd_same)) (r2.mono o2.gx (Nat.le_refl _)))
    · exact q.elim
  · exact q.elim
end

/-! ### times an int -/
theorem RVs.rep {c : Cf} {g : Gh} {L : Nat} {l : List D} {vs : List V} (r : RVs c g L l vs) : ∀ n, RVs c g L (List.replicate n l).flatten (List.replicate n vs).flatten
  | 0 => .nil
  | n + 1 => by
    rw [List.replicate_succ, List.replicate_succ, List.flatten_cons, List.flatten_cons]
    exact r.append (RVs.rep r n)
def g63 (k : Int) : Bool := Nat.ble k.natAbs 9223372036854775807
def oRep (m : Bool) (x y : D) (h : Store) : Res D := match asL h x, y with
  | some l, .int k => if g63 k = true ∧ l.length * k.toNat ≤ sizeLine then alloc m (List.replicate k.toNat l).flatten h else .no
  | _, _ => .no
theorem oRep_ok {c : Cf} {m : Bool} : R2Ok c rRep (oRep m) := by
  intro g h H d1 v1 d2 v2 Q E S r1 r2 q
  unfold oRep at q
  split at q
  · rename_i l k el
    cases r2
    obtain ⟨a, vs, rfl, hq, rs⟩ := asL_ok S r1 el
    by_cases hk : g63 k = true ∧ l.length * k.toNat ≤ sizeLine
    · rw [if_pos hk] at q
      have h1 := Nat.le_of_ble_eq_true hk.1
      exact ⟨a, k, vs, rfl, rfl, hq, by omega, by omega, by rw [← rs.length]; exact hk.2, alloc_ok S (rs.rep _) q⟩
    · rw [if_neg hk] at q; exact q.elim
  · exact q.elim
theorem b_rep {c : Cf} {W : WX} {X : Cx} {a b : Expr} {fa fb : Ev D} {m : Bool} {pos : Pos} (ha : PE X a (tEv c W fa)) (hb : PE X b (tEv c W fb)) : PE X (.BinOp a .Mult b pos) (tEv c W (cBin (oRep m) fa fb)) := e_bin op_rep oRep_ok ha hb
/-- a text times an int -/
def repS (x : Str) (n : Int) : Str := if n < 1 then Str.empty else if (n == 1 || x.length == 0) = true then x else ⟨(List.replicate n.toNat x.cps).foldl (· ++ ·) #[]⟩
def rMulS : R2 := fun x y H Q => ∃ (z : Str) (n : Int), x = .str z ∧ y = .int n ∧ 0 ≤ n ∧ n ≤ 3000 ∧ z.length ≤ 300 ∧ Q (.str (repS z n)) H
def oMulS (x y : D) (h : Store) : Res D := match x, y with
  | .str z, .int n => if 0 ≤ n ∧ n ≤ 3000 ∧ z.length ≤ 300 then .ok (.str (repS z n)) h else .no
  | _, _ => .no
theorem oMulS_ok {c : Cf} : R2Ok c rMulS oMulS := by
  intro g h H d1 v1 d2 v2 Q E S r1 r2 q
  unfold oMulS at q
  split at q
  · rename_i z n
    cases r1; cases r2
    by_cases hk : 0 ≤ n ∧ n ≤ 3000 ∧ z.length ≤ 300
    · rw [if_pos hk] at q
      exact ⟨z, n, rfl, rfl, hk.1, hk.2.1, hk.2.2, RP.ok_here q S (.str _)⟩
    · rw [if_neg hk] at q; exact q.elim
  · exact q.elim

/-! ### xs[::-1] -/
def cRev (m : Bool) (fe : Ev D) : Ev D := fun st h => (fe st h).bind fun d h1 => match asR h1 d with
  | some l => alloc m l.reverse h1
  | none => .no
theorem RVs.rev {c : Cf} {g : Gh} {L : Nat} : ∀ {l : List D} {vs : List V}, RVs c g L l vs → RVs c g L l.reverse vs.reverse
  | _, _, .nil => .nil
  | _, _, .cons h r => by
    rw [List.reverse_cons, List.reverse_cons]
    exact (RVs.rev r).append (.cons h .nil)
section
variable {c : Cf} {W : WX} {X : Cx} {e : Expr} {fe : Ev D} {pos p1 p2 p3 : Pos}
theorem e_rev {m : Bool} {k : Nat} (hK : c.K = X.K) (he : PE X e (tEv c W fe)) : PE X (.Subscript e (.Slice none none (some (.UnaryOp .USub (.Constant (.int 1) k p1) p2)) p3) pos) (tEv c W (cRev m fe)) := PE.imp (pe_revL he) fun σ H Q ⟨st, h, g, S, sl, q⟩ => by
  refine ⟨st, h, g, S, sl, RP.mono (RP.bind q) fun v H1 ⟨d, h1, g1, o1, S1, r1, q1⟩ => ?_⟩
  split at q1
  · rename_i l el
    obtain ⟨a, vs, rfl, hq, rs⟩ := asR_ok S1 r1 el
    rw [← hK]
    exact ⟨a, vs, rfl, hq, alloc_ok S1 rs.rev q1⟩
  · exact q1.elim

/-! ### nested targets -/
structure TgNs (c : Cf) (vs : List Nat) (gt : TGs) (fg : List D → Slots → Option Slots) : Prop where
  ok : ∀ {xs : List V} {σ σ0 : L2.St} {H : Hp} {ds : List D} {st st1 : Slots} {h : Store} {g : Gh} {Q : L2.St → Hp → Prop}, SR c g h H → SL c g h.length st σ → RVs c g h.length ds xs → fg ds st = some st1 → (L2.wipe σ vs = σ0) →
    (∀ σ1, SL c g h.length st1 σ1 → L2.wipe σ1 vs = σ0 → Q σ1 H) → gt xs σ H Q
def fgNil : List D → Slots → Option Slots
  | [], st => some st
  | _, _ => none
def fgCons (f : D → Slots → Option Slots) (k : List D → Slots → Option Slots) : List D → Slots → Option Slots
  | d :: ds, st => (f d st).bind fun st1 => k ds st1
  | _, _ => none
def fgTup (n : Nat) (k : List D → Slots → Option Slots) : D → Slots → Option Slots
  | .tup ds, st => if ds.length = n then k ds st else none
  | _, _ => none
theorem tgs_nil {vs : List Nat} : TgNs c vs gNil fgNil := ⟨fun {xs σ σ0 H ds st st1 h g Q} S sl r e ew k => by
  cases r with
  | nil =>
    have e : some st = some st1 := e
    cases e
    exact ⟨rfl, k σ sl ew⟩
  | cons _ _ => cases e⟩
theorem tgs_cons {vs : List Nat} {g1 : TG} {g2 : TGs} {f1 : D → Slots → Option Slots} {f2 : List D → Slots → Option Slots} (a : TgN c vs g1 f1) (b : TgNs c vs g2 f2) : TgNs c vs (gCons g1 g2) (fgCons f1 f2) := ⟨fun {xs σ σ0 H ds st st1 h g Q} S sl r e ew k => by
  cases r with
  | nil => cases e
  | @cons d v ds' vs' r1 rs =>
    have e : (f1 d st).bind (fun st1 => f2 ds' st1) = some st1 := e
    cases e1 : f1 d st with
    | none => rw [e1] at e; cases e
    | some st2 =>
      rw [e1] at e
      exact ⟨v, vs', rfl, a.ok S sl r1 e1 ew fun σ1 sl1 ew1 => b.ok S sl1 rs e ew1 k⟩⟩
theorem tg_tupN {vs : List Nat} {n : Nat} {gt : TGs} {fg : List D → Slots → Option Slots} (a : TgNs c vs gt fg) : TgN c vs (gTup c.K n gt) (fgTup n fg) := ⟨fun {v σ σ0 H d st st1 h g Q} S sl r e ew k => by
  cases d with
  | tup ds =>
    obtain ⟨p, xs, rfl, hq, rs⟩ := RV.tup' S r
    have e : (if ds.length = n then fg ds st else none) = some st1 := e
    by_cases hl : ds.length = n
    · rw [if_pos hl] at e
      exact ⟨p, xs, rfl, hq, by rw [← rs.length]; exact hl, a.ok S sl rs e ew k⟩
    · rw [if_neg hl] at e; cases e
  | _ => cases e⟩
end
end Gm

/-! Gm16: a text times an int; d.get(k, x). -/
namespace Gm
open PySem PySem.Spec PyProof.Rows L2
theorem p63a : (-(2 ^ 63) : Int) ≤ 0 := by decide +kernel
theorem small1m : (1000000 : Nat) ≤ sizeLine := by decide
theorem p63b : (3000 : Int) < 2 ^ 63 := by decide +kernel
theorem rep_size (a : Array Nat) : ∀ (k : Nat) (b : Array Nat), ((List.replicate k a).foldl (· ++ ·) b).size = b.size + k * a.size
  | 0, b => by simp
  | k + 1, b => by
    rw [List.replicate_succ, List.foldl_cons, rep_size a k (b ++ a), Array.size_append, Nat.add_mul]
    omega
theorem op_mulS {X : Cx} : OpR X (binaryOp .Mult) rMulS := by
  intro pins s σ H x y v u Q I rx ry h
  obtain ⟨z, n, rfl, rfl, n0, n1, zl, q⟩ := h
  obtain ⟨t, rfl⟩ := rx
  obtain ⟨t2, rfl⟩ := ry
  have a1 : ¬ n < -(2 ^ 63 : Int) := Int.not_lt.mpr (Int.le_trans p63a n0)
  have a2 : ¬ n ≥ (2 ^ 63 : Int) := Int.not_le.mpr (Int.lt_of_le_of_lt n1 p63b)
  refine PySem.P.mul_str (by rw [decide_eq_false a1, decide_eq_false a2] <;> rfl) (fun h1 _ => ?_) (fun _ _ => ?_) ?_
  · have b1 : (300 : Int) ≤ (2 ^ 63 - 1) / 3000 := by decide +kernel
    have b2 : ((2 ^ 63 - 1) / 3000 : Int) ≤ (2 ^ 63 - 1) / n := by
      have p : (0 : Int) < n := by omega
      refine Int.le_ediv_of_mul_le p ?_
      have c1 : ((2 ^ 63 - 1) / 3000 : Int) * n ≤ (2 ^ 63 - 1) / 3000 * 3000 := Int.mul_le_mul_of_nonneg_left n1 (by decide +kernel)
      exact Int.le_trans c1 (by decide +kernel)
    omega
  · have c1 : z.length * n.toNat ≤ 300 * 3000 := Nat.mul_le_mul zl (by omega)
    have c2 : (1000000 : Nat) ≤ sizeLine := small1m
    show decide (z.length * n.toNat > sizeLine) = false
    exact decide_eq_false (by omega)
  · unfold repS at q
    by_cases h1 : n < 1
    · rw [if_pos h1] at q ⊢
      exact ⟨by decide, .str Str.empty, H, I.tok _, ⟨_, rfl⟩, q⟩
    · rw [if_neg h1] at q ⊢
      by_cases h2 : (n == 1 || z.length == 0) = true
      · rw [if_pos h2] at q ⊢
        exact ⟨.str z, H, I, ⟨_, rfl⟩, q⟩
      · rw [if_neg h2] at q ⊢
        refine ⟨?_, .str _, H, I.tok _, ⟨_, rfl⟩, q⟩
        show ((List.replicate n.toNat z.cps).foldl (· ++ ·) #[]).size ≤ sizeLine
        rw [rep_size]
        have c1 : n.toNat * z.cps.size ≤ 3000 * 300 := Nat.mul_le_mul (by omega) zl
        have c2 : (1000000 : Nat) ≤ sizeLine := small1m
        simp
        omega
theorem b_mulS {c : Cf} {W : WX} {X : Cx} {a b : Expr} {fa fb : Ev D} {pos : Pos} (ha : PE X a (tEv c W fa)) (hb : PE X b (tEv c W fb)) : PE X (.BinOp a .Mult b pos) (tEv c W (cBin oMulS fa fb)) := e_bin op_mulS oMulS_ok ha hb
/-! ### d.get(k, x) -/
section
variable {c : Cf} {W : WX} {X : Cx} {o e f : Expr} {fo fe ff : Ev D} {apos cpos : Pos}
def cDget2 (fo fe ff : Ev D) : Ev D := fun st h => (fo st h).bind fun d h1 => match asK h1 d with
  | some _ => (fe st h1).bind fun y h2 => (ff st h2).bind fun z h3 => match asK h3 d, keyD y with
    | some l, some k => .ok ((getKD l k).getD z) h3
    | _, _ => .no
  | none => .no
theorem e_dget2 (hu : X.A.units + 1 < cLine) (ho : PE X o (tEv c W fo)) (he : PE X e (tEv c W fe)) (hf : PE X f (tEv c W ff)) (m : M2 X o "get" apos e f cpos) : PE X (.Call (.Attribute o "get" apos) [e, f] [] cpos) (tEv c W (cDget2 fo fe ff)) :=
  PE.imp (pe_dget2 hu ho he hf m) fun σ H Q ⟨st, h, g, S, sl, q⟩ => by
    refine ⟨st, h, g, S, sl, RP.mono (RP.bind q) fun v H1 ⟨d, h1, g1, o1, S1, r1, q1⟩ => ?_⟩
    cases e1 : asK h1 d with
    | none => rw [e1] at q1; exact q1.elim
    | some l1 =>
      rw [e1] at q1
      obtain ⟨a, kvs, ev, hD, _⟩ := asK_ok S1 r1 e1
      refine ⟨a, ev, .inl ⟨kvs, .inl hD⟩, st, h1, g1, S1, sl.go o1, RP.mono (RP.bind q1) fun w H2 ⟨y, h2, g2, o2, S2, r2, q2⟩ => ?_⟩
      refine ⟨st, h2, g2, S2, sl.go (o1.trans o2), RP.mono (RP.bind q2) fun u H3 ⟨z, h3, g3, o3, S3, r3, q3⟩ => ?_⟩
      split at q3
      · rename_i l k el ek
        obtain ⟨a', kvs', ev', hD', rs⟩ := asK_ok S3 (r1.mono (o2.trans o3).gx (o2.trans o3).len) el
        rw [ev] at ev'
        have ea : a = a' := by
          have z : V.ref a = V.ref a' := ev'
          cases z
          rfl
        subst ea
        have ey := keyD_ok (r2.mono o3.gx o3.len) ek
        subst ey
        refine ⟨valV kvs' k, .k hD', ?_⟩
        rcases rs.get (k := k) with ⟨z1, z2⟩ | ⟨d', v', z1, z2, rd⟩
        · rw [z1] at q3; rw [z2]; exact RP.ok_here q3 S3 r3
        · rw [z1] at q3; rw [z2]; exact RP.ok_here q3 S3 rd
      · exact q3.elim
end
end Gm

/-! Gm18: walking two lists side by side while an exception is handled. -/
namespace Gm
open PySem PySem.Spec PyProof.Rows L2 HotX
section
variable {prog : Program} {w : World} {A : Around} {E : Value → Shared → Prop} {s : Shared}
/-- a list's iterator is through: the new exception bears the handled one -/
theorem nextOf_through {it l x1 : Addr} {i : Nat} {its : Array Value} {Q : Value → Shared → Prop} (hot : HotAt A x1 s.heap) (nx : x1 ≠ it) (hit : s.heap.IsListIter it l i) (hl : s.heap.IsList l its) (hx : its[i]? = none)
    (k : ∀ h' e, Heap.ExtBut it s.heap h' → (∃ o, h'.get? e = some o ∧ o.cls = .type "StopIteration") → E (.ref e) { s with heap := h' }) : wpAny (model prog w) A (Builtin.SmallTypes.nextOf (.ref it)) Q E s := by
  obtain ⟨hh, oo, vv, g1, g2, g3⟩ := hot
  obtain ⟨o, ho, hc, hd⟩ := id hit
  obtain ⟨ol, hol, _, nl, hdl⟩ := hl
  unfold Builtin.SmallTypes.nextOf
  refine wpAny_bind (wpAny_callSpecial?_slot (name := Str.ofString "__next__") hit.typeIs slot_listiter_next (wpAny_call_entry slot_listiter_next hit.typeIs entry_listiter_next ?_ (args_listiter_next _)))
  show wpAny _ _ (field (.ref it) 0 >>= _) _ _ _
  refine wpAny_bind (wpAny_field ho hd (x := .ref l) rfl ?_)
  show wpAny _ _ (if (Value.ref l == Value.none) = true then _ else _) _ _ _
  rw [if_neg (fun z : (Value.ref l == Value.none) = true => Bool.false_ne_true z)]
  show wpAny _ _ (field (.ref it) 1 >>= _) _ _ _
  refine wpAny_bind (wpAny_field ho hd (x := .int i 0) rfl ?_)
  show wpAny _ _ (seqItems? (.ref l) >>= _) _ _ _
  refine wpAny_bind (wpAny_seqItems hol hdl ?_)
  simp only [Int.toNat_natCast, hx]
  refine wpAny_bind (wpAny_rule (wpAny_bind (wpAny_setField ho hd (by simp) ?_)))
  show wpAny _ _ (newExc (.type "StopIteration") [] >>= _) _ _ _
  refine wpAny_bind ?_
  simp only [newExc, newTuple]
  refine wpAny_bind (wpAny_newObj_type ?_ (by size_fits))
  refine wpAny_bind (m := firstArgMember _ _) (wpAny_of_eq (a := Value.none) (by first | rfl | (simp only [firstArgMember]; rfl)) ?_)
  refine wpAny_newObj_type ?_ (by size_fits)
  have up : ∀ b o, b ≠ it → s.heap.get? b = some o → (s.heap.update it (Obj.mapFields (·.setIfInBounds 0 Value.none))).get? b = some o := fun b o hb e => by
    rw [Heap.get?_update_other _ _ (Ne.symm hb)]
    exact e
  refine raiseNew_hot ⟨hh, oo, vv, Heap.get?_push_of_some _ (Heap.get?_push_of_some _ (up _ _ nx g1)), g2, g3⟩ (Nat.ne_of_lt (Heap.lt_size (Heap.get?_push_of_some _ (up _ _ nx g1)))) (Heap.get?_push_size _ rfl) rfl (by first | (simp; done) | (simp; omega)) ?_
  refine k _ _ (fun b o hb e => ?_) ⟨_, Heap.get?_update_self _ (Heap.get?_push_size _ rfl) rfl, rfl⟩
  rw [Heap.get?_update_other _ _ (Nat.ne_of_gt (Heap.lt_size (Heap.get?_push_of_some _ (up _ _ hb e))))]
  exact Heap.get?_push_of_some _ (Heap.get?_push_of_some _ (up _ _ hb e))
/-- zip's end where an exception is handled: the first list is through -/
theorem zip_through {z TI TO i1 i2 l1 l2 x1 : Addr} {k1 : Nat} {xs : Array Value} {Q : Option Value → Shared → Prop} (hot : HotAt A x1 s.heap) (n1 : x1 ≠ i1) (nz : x1 ≠ z) (D : ZipApart z TI TO i1 i2 l1 l2)
    (hz : IsZip s.heap z TI TO .none) (hTI : IsPair s.heap TI (.ref i1) (.ref i2)) (h1 : s.heap.IsListIter i1 l1 k1) (hl1 : s.heap.IsList l1 xs) (hx : xs[k1]? = none)
    (k : ∀ h', (∀ c o, c ≠ z → c ≠ i1 → s.heap.get? c = some o → h'.get? c = some o) → Q none { s with heap := h' }) : wpAny (model prog w) A (pyNext (.ref z)) Q E s := by
  have ty : s.TypeIs (.ref z) "zip" := ⟨_, hz, rfl⟩
  unfold pyNext
  refine wpAny_bind (wpAny_attempt (wpAny_callSpecial?_slot (name := Str.ofString "__next__") ty F.slot_zip_next (wpAny_call_entry F.slot_zip_next ty F.entry_zip_next ?_ (F.args_zip_next_1 _))))
  show wpAny _ _ (field (.ref z) 2 >>= _) _ _ s
  refine wpAny_bind (wpAny_field hz rfl (x := .bool false) rfl ?_)
  show wpAny _ _ (field (.ref z) 3 >>= _) _ _ s
  refine wpAny_bind (wpAny_field hz rfl (x := .ref TI) rfl (wpAny_bind (wpAny_seqItems hTI rfl ?_)))
  show wpAny _ _ (Builtin.SmallTypes.ownedTupleIsFree (.ref z) >>= _) _ _ s
  refine wpAny_bind ?_
  unfold Builtin.SmallTypes.ownedTupleIsFree
  refine wpAny_bind (wpAny_field hz rfl (x := .none) rfl (wpAny_pure ?_))
  simp only [if_true]
  refine wpAny_bind (wpAny_rule (wpAny_bind (wpAny_field hz rfl (x := .ref TO) rfl (wpAny_bind (wpAny_setField_rec hz (by simp) fun hA zA sA => ?_)))))
  replace zA : IsZip hA z TI TO .ellipsis := zA
  refine wpAny_bind ?_
  simp only [List.zipIdx_cons, List.zipIdx_nil, List.forIn_cons, List.forIn_nil]
  refine wpAny_bind (wpAny_bind (wpAny_onRaise ?_))
  show wpAny _ _ (Builtin.SmallTypes.nextOf (.ref i1) >>= _) _ _ _
  obtain ⟨hh, oo, vv, g1, g2, g3⟩ := hot
  refine wpAny_bind (nextOf_through (x1 := x1) (s := { s with heap := hA }) ⟨hh, oo, vv, sA.extBut _ _ nz g1, g2, g3⟩ n1 (h1.extBut sA.extBut D.i1z) (hl1.extBut sA.extBut D.l1z) hx fun hB e sB eB => ?_)
  obtain ⟨oe, hoe, hce⟩ := eB
  have zB : IsZip hB z TI TO .ellipsis := sB _ _ D.i1z.symm zA
  have ez : e ≠ z := fun q => by
    subst q
    rw [zB] at hoe
    cases hoe
    simp at hce
  refine wpAny_setField_rec zB (by simp) fun hC _ sC => ?_
  refine wpAny_bind (wpAny_isInstance (T := "StopIteration") (b := true) ⟨oe, sC.extBut _ _ ez hoe, hce⟩ isSubtype_stop ?_)
  exact wpAny_pure (k _ fun c o c1 c2 q => sC.extBut _ _ c1 (sB _ _ c2 (sA.extBut _ _ c1 q)))
/-- a tuple's iterator is through: the new exception bears the handled one -/
theorem next_tup_through {it t x1 : Addr} {i : Nat} {items : Array Value} {Q : Option Value → Shared → Prop} (hot : HotAt A x1 s.heap) (nx : x1 ≠ it) (hit : IsTupIter s.heap it t i) (ht : IsTup s.heap t items) (hx : items[i]? = none)
    (k : ∀ h', Heap.ExtBut it s.heap h' → Q none { s with heap := h' }) : wpAny (model prog w) A (pyNext (.ref it)) Q E s := by
  obtain ⟨hh, oo, vv, g1, g2, g3⟩ := hot
  obtain ⟨o, ho, hc, hd⟩ := id hit
  obtain ⟨ol, hol, _, nl, hdl⟩ := ht
  unfold pyNext
  refine wpAny_bind (wpAny_attempt (wpAny_callSpecial?_slot (name := Str.ofString "__next__") hit.typeIs slot_tupleiter_next (wpAny_call_entry slot_tupleiter_next hit.typeIs entry_tupleiter_next ?_ (args_tupleiter_next _))))
  show wpAny _ _ (field (.ref it) 0 >>= _) _ _ s
  refine wpAny_bind (wpAny_field ho hd (x := .ref t) rfl ?_)
  show wpAny _ _ (if (Value.ref t == Value.none) = true then _ else _) _ _ s
  rw [if_neg (fun z : (Value.ref t == Value.none) = true => Bool.false_ne_true z)]
  show wpAny _ _ (field (.ref it) 1 >>= _) _ _ s
  refine wpAny_bind (wpAny_field ho hd (x := .int i 0) rfl ?_)
  show wpAny _ _ (seqItems? (.ref t) >>= _) _ _ s
  refine wpAny_bind (wpAny_seqItems hol hdl ?_)
  simp only [Int.toNat_natCast, hx]
  refine wpAny_bind (wpAny_rule (wpAny_bind (wpAny_setField ho hd (by simp) ?_)))
  show wpAny _ _ (newExc (.type "StopIteration") [] >>= _) _ _ _
  refine wpAny_bind ?_
  simp only [newExc, newTuple]
  refine wpAny_bind (wpAny_newObj_type ?_ (by size_fits))
  refine wpAny_bind (m := firstArgMember _ _) (wpAny_of_eq (a := Value.none) (by first | rfl | (simp only [firstArgMember]; rfl)) ?_)
  refine wpAny_newObj_type ?_ (by size_fits)
  have up : ∀ b o, b ≠ it → s.heap.get? b = some o → (s.heap.update it (Obj.mapFields (·.setIfInBounds 0 Value.none))).get? b = some o := fun b o hb e => by
    rw [Heap.get?_update_other _ _ (Ne.symm hb)]
    exact e
  refine raiseNew_hot ⟨hh, oo, vv, Heap.get?_push_of_some _ (Heap.get?_push_of_some _ (up _ _ nx g1)), g2, g3⟩ (Nat.ne_of_lt (Heap.lt_size (Heap.get?_push_of_some _ (up _ _ nx g1)))) (Heap.get?_push_size _ rfl) rfl (by first | (simp; done) | (simp; omega)) ?_
  refine wpAny_bind (wpAny_isInstance (T := "StopIteration") (b := true) ⟨_, Heap.get?_update_self _ (Heap.get?_push_size _ rfl) rfl, rfl⟩ isSubtype_stop ?_)
  refine wpAny_pure (k _ fun b o hb e => ?_)
  rw [Heap.get?_update_other _ _ (Nat.ne_of_gt (Heap.lt_size (Heap.get?_push_of_some _ (up _ _ hb e))))]
  exact Heap.get?_push_of_some _ (Heap.get?_push_of_some _ (up _ _ hb e))
/-- a, b = t where an exception is handled -/
theorem assign_tup_hot {env : Env} {elts : List Expr} {kk : Nat} {pos : Pos} {t x1 : Addr} {items : Array Value} {Q : Unit → Shared → Prop} (hot : HotAt A x1 s.heap) (ht : IsTup s.heap t items)
    (hn : (assignEach elts env).length = items.size) (hstar : (assignEach elts env).findIdx? (·.1) = none)
    (h : ∀ h', Heap.ExtBut s.heap.objs.size s.heap h' → wpAny (model prog w) A (assignInOrder ((assignEach elts env).map (·.2)) items.toList) Q E { s with heap := h' }) :
    wpAny (model prog w) A (assign (.Tuple elts kk pos) env (.ref t)) Q E s := by
  rw [assign_Tuple]
  refine wpAny_bind (wpAny_standAt ?_)
  have hlt : t ≠ s.heap.objs.size := by
    obtain ⟨o, ho, _⟩ := ht
    exact Nat.ne_of_lt (Heap.lt_size ho)
  have nx1 : x1 ≠ s.heap.objs.size := by
    obtain ⟨_, o, _, ho, _⟩ := hot
    exact Nat.ne_of_lt (Heap.lt_size ho)
  unfold unpack
  rw [hn, hstar]
  refine wpAny_bind (wpAny_holding ?_)
  unfold unpackItems notIterableAtAll
  refine wpAny_bind (wpAny_bind (wpAny_specialOf ht.typeIs slot_tuple_iter.lookup (wpAny_pure ?_)))
  simp only [Bool.false_eq_true, if_false]
  refine wpAny_bind (wpAny_holding (iter_tuple ht ?_))
  refine wpAny_bind (wpAny_holding (draw_tuple hlt items.size 0 _ _ ⟨_, Heap.get?_push_size _ rfl, rfl, rfl⟩ (ht.push _) (by omega) fun h1 hit1 hs1 => ?_))
  have hall : List.take items.size (List.drop 0 items.toList) = items.toList := by
    rw [List.drop_zero]
    exact List.take_of_length_le (by simp)
  rw [hall, if_neg (by simp)]
  have hot1 : HotAt A x1 h1 := by
    obtain ⟨q1, o, v, q2, q3, q4⟩ := hot
    exact ⟨q1, o, v, hs1.extBut _ _ nx1 (Heap.get?_push_of_some _ q2), q3, q4⟩
  refine wpAny_bind (wpAny_holding (next_tup_through hot1 nx1 hit1 ((ht.push _).extBut hs1.extBut hlt) (by simp) fun h2 he2 => ?_))
  simp only [Option.isSome_none, Bool.false_eq_true, if_false]
  exact wpAny_pure (h h2 fun b o hb e => he2 b o hb (hs1.extBut b o hb (Heap.get?_push_of_some _ e)))
end
end Gm

/-! Gm19: a list comprehension over zip while an exception is handled. -/
namespace Gm
open PySem PySem.Spec PyProof.Rows L2 HotX
/-- two lists side by side, through when the first one is -/
def ItF (K : PySem.W.Frag) (a b : Addr) : It := { Itz K a b with stop := fun i H => ∃ xs : List V, SqL K H a xs ∧ xs.length ≤ i }
/-- the iterator's objects at the turn i -/
abbrev ZAt (z TI TO i1 i2 a b : Addr) (i : Nat) (h : Heap) : Prop := IsZip h z TI TO .none ∧ IsPair h TI (.ref i1) (.ref i2) ∧ (∃ x y, IsPair h TO x y) ∧ h.IsListIter i1 a i ∧ h.IsListIter i2 b i
section
variable {Y : Cx} {pins : List (Addr × Obj)} {σ : L2.St} {H : Hp} {s : Shared} {E : Value → Shared → Prop} {z TI TO i1 i2 a b : Addr} {i : Nat}
theorem fp_cases {c : Addr} (h : c ∈ [z, TI, TO, i1, i2]) : c = z ∨ c = TI ∨ c = TO ∨ c = i1 ∨ c = i2 := by simpa using h
theorem zat_lt (st : ZAt z TI TO i1 i2 a b i s.heap) {c : Addr} (h : c ∈ [z, TI, TO, i1, i2]) : c < s.heap.objs.size := by
  obtain ⟨sz, sI, ⟨_, _, sO⟩, ⟨_, s1, _⟩, ⟨_, s2, _⟩⟩ := st
  rcases fp_cases h with q | q | q | q | q <;> rw [q]
  · exact Heap.lt_size sz
  · exact Heap.lt_size sI
  · exact Heap.lt_size sO
  · exact Heap.lt_size s1
  · exact Heap.lt_size s2
/-- a turn -/
theorem zip_turn {elts : List Expr} {kk : Nat} {tpos : Pos} (D : ZipApart z TI TO i1 i2 a b) (I : Inv Y pins σ H s) (hf : ∀ c ∈ [z, TI, TO, i1, i2], FpOk Y pins H c) (st : ZAt z TI TO i1 i2 a b i s.heap) (go : (ItF Y.K a b).go i H) :
    wpAny (model Y.prog Y.w) Y.A (pyNext (.ref z)) (fun r s1 => ∃ u, r = some u ∧
      wpAny (model Y.prog Y.w) Y.A (letOwnedTupleGo (.Tuple elts kk tpos) (.ref z) u) (fun _ s2 => ∃ x H', Inv Y pins σ H' s2 ∧ RelV x u ∧ (ItF Y.K a b).yld i H x H' ∧ ZAt z TI TO i1 i2 a b (i + 1) s2.heap ∧ ∀ c ∈ [z, TI, TO, i1, i2], H' c = none) E s1) E s := by
  obtain ⟨xs, ys, x, y, qx, qy, gx, gy⟩ := go
  obtain ⟨l1, v1, p1, _⟩ := I.list qx
  obtain ⟨l2, v2, p2, _⟩ := I.list qy
  obtain ⟨u1, hu1, w1⟩ := v1.get gx
  obtain ⟨u2, hu2, w2⟩ := v2.get gy
  have lt := fun {c : Addr} (h : c ∈ [z, TI, TO, i1, i2]) => zat_lt st h
  obtain ⟨sz, sI, ⟨_, _, sO⟩, s1, s2⟩ := st
  refine wpAny_pyNext_zip_item D sz sI sO s1 s2 p1.isList p2.isList (x := u1) (y := u2) (by simpa using hu1) (by simpa using hu2) fun hA zA oA s1A s2A tA _ kA => ⟨_, rfl, ?_⟩
  refine wpAny_letOwnedTupleGo_zip (s := { s with heap := hA }) zA fun hB zB sB => ?_
  have tB : hB.get? s.heap.objs.size = some { cls := .type "tuple", data := .seq #[u1, u2] } := (sB.2 _ (Nat.ne_of_gt (lt (by simp)))).trans tA
  have nw : ObjOk Y.prog Y.w (upd H s.heap.objs.size (.tup [x, y])) hB s.heap.objs.size (.tup [x, y]) := ⟨show 2 ≤ sizeLine by decide, [u1, u2], .cons w1 (.cons w2 .nil), _, tB, rfl, _, rfl⟩
  have I1 : Inv Y pins σ (upd H s.heap.objs.size (.tup [x, y])) { s with heap := hB } := I.turnedNew (t' := s.toks) (ch := [z, TI, TO, i1, i2]) (fun c o nc e => by
    have k1 : c ≠ z := fun q => nc (by simp [q])
    exact (sB.2 c k1).trans (kA c o k1 (fun q => nc (by simp [q])) (fun q => nc (by simp [q])) (fun q => nc (by simp [q])) e)) hf (Nat.le_refl _) nw
  refine ⟨.ref s.heap.objs.size, _, I1, rfl, ⟨_, x, y, rfl, I.hok.fresh (Nat.le_refl _), rfl, fun l hl => by rw [I.list_inj hl qx]; exact gx, fun l hl => by rw [I.list_inj hl qy]; exact gy⟩, ⟨zB, ?_, ⟨u1, u2, (sB.2 _ D.TOz).trans oA⟩, s1A.at fun o e => (sB.2 _ D.i1z).trans e, s2A.at fun o e => (sB.2 _ D.i2z).trans e⟩, fun c hc => ?_⟩
  · exact (sB.2 _ D.TIz).trans (kA _ _ D.TIz D.TITO D.TIi1 D.TIi2 sI)
  · rw [upd_ne (Nat.ne_of_lt (lt hc))]
    exact (hf c hc).1
/-- the end -/
theorem zip_gone {x1 : Addr} (hot : HotAt Y.A x1 s.heap) (nf : x1 ∉ [z, TI, TO, i1, i2]) (D : ZipApart z TI TO i1 i2 a b) (I : Inv Y pins σ H s) (hf : ∀ c ∈ [z, TI, TO, i1, i2], FpOk Y pins H c) (st : ZAt z TI TO i1 i2 a b i s.heap) (stop : (ItF Y.K a b).stop i H) :
    wpAny (model Y.prog Y.w) Y.A (pyNext (.ref z)) (fun r s1 => r = none ∧ Inv Y pins σ H s1) E s := by
  obtain ⟨sz, sI, _, s1, s2⟩ := st
  obtain ⟨xs, qx, hl⟩ := stop
  obtain ⟨l1, v1, p1, _⟩ := I.list qx
  have e1 := v1.length
  refine zip_through hot (fun q => nf (by simp [q])) (fun q => nf (by simp [q])) D sz sI s1 p1.isList (by simp; omega) fun hA kA => ⟨rfl, I.turnedL (t' := s.toks) (ch := [z, TI, TO, i1, i2]) (fun c o nc e => kA c o (fun q => nc (by simp [q])) (fun q => nc (by simp [q])) e) hf⟩
end
def iZF (K : PySem.W.Frag) (ta : TA) : TI := fun σ H R => ta σ H fun vs H1 => ∃ a b xs ys, vs = [.ref a, .ref b] ∧ SqL K H1 a xs ∧ SqL K H1 b ys ∧ R (ItF K a b) H1
/-- a target, where x1 is handled -/
structure PGh (X : Cx) (e : Expr) (t : TG) : Prop where
  run : ∀ (x1 : Addr) (pins : List (Addr × Obj)) (s : Shared) (σ : L2.St) (H : Hp) (v : V) (u : Value) (Q : L2.St → Hp → Prop), HotAt X.A x1 s.heap → Inv X pins σ H s → RelV v u → t v σ H Q →
    wpAny (model X.prog X.w) X.A (assign e X.env u) (fun _ s' => ∃ σ' H', Inv X pins σ' H' s' ∧ Q σ' H') X.xe s
theorem pgh_tup {X : Cx} {es : List Expr} {k n : Nat} {t : TGs} {pos : Pos} (h : PGs X es t) (hn : (assignEach es X.env).length = n := by rfl) (hst : (assignEach es X.env).findIdx? (·.1) = none := by rfl) : PGh X (.Tuple es k pos) (gTup X.K n t) := by
  refine ⟨fun x1 pins s σ H v u Q hot I r hw => ?_⟩
  obtain ⟨a, xs, e1, hq, hl, hw⟩ := hw
  subst e1
  cases r
  obtain ⟨its, rv, ht, hz⟩ := I.tuple hq
  refine assign_tup_hot hot ht (by simp [hn, ← hl, rv.length]) hst fun h' hx => ?_
  have I1 : Inv X pins σ H { s with heap := h' } := I.kept (t' := s.toks) fun b o e => hx b o (Nat.ne_of_lt (Heap.lt_size e)) e
  exact h.run pins _ σ H xs _ Q I1 (by simpa using rv) hw
section
variable {X : Cx}
/-- [elt for .. in zip(e, e2) if ..] where an exception is handled -/
theorem lcHot_core {pins : List (Addr × Obj)} {s : Shared} {σ : L2.St} {H : Hp} {Q : VK} {use : Option (Value → Sem Unit)} {Qf : Value → Shared → Prop} {pos' : Pos} {elt e e2 : Expr} {elts ifs : List Expr} {kk : Nat} {scope : Scope} {own : List (Str × Nat)} {p zpos tpos lpos : Pos} {ta : TA} {g : TG} {tt : TT} {te : TE} (hot : L2H.HotC X) (hN : X.N.Nodup) (hz : Gl X "zip") (hm : X.mg "zip" = none) (ha : PA X [e, e2] ta) (ok : BlkOk X.N X.env.scope scope own)
    (hg : ∀ (s : Shared) (H : Hp) (C : Addr) (cl : List (Str × Addr)) (fp : List Addr), PGh (X.blk s H scope (compEnvC scope cl C X.env) fp) (.Tuple elts kk tpos) g) (ht : ∀ (s : Shared) (H : Hp) (C : Addr) (cl : List (Str × Addr)) (fp : List Addr), PTs (X.blk s H scope (compEnvC scope cl C X.env) fp) ifs tt)
    (he : ∀ (s : Shared) (H : Hp) (C : Addr) (cl : List (Str × Addr)) (fp : List Addr), PE (X.blk s H scope (compEnvC scope cl C X.env) fp) elt te)
    (I : Inv X pins σ H s) (h : tLc (iZF X.K ta) g tt te (own.map (·.2)) σ H Q)
    (hRR : ∀ D C s' m H', Inv X pins σ H' s' → Q (.ref D) H' → s'.heap.Ns C m → FpOk X pins H' C → compPost (model X.prog X.w) X.A X.xe use Qf (.ref D) C (.ok .next) s')
    (s1 : starEach [e, e2] X.env = (false, eval e X.env) :: starEach [e2] X.env := by rfl) (s2 : (backTo zpos (starEach [e2] X.env)).any (·.1) = false := by rfl) (hs : ∀ x, foldedSetIterable (.Call (.Name "zip" p) [e, e2] [] zpos) X.env x = pure x := by intro _; rfl) :
    wpAny (model X.prog X.w) X.A (comprehension (.ListComp elt [⟨.Tuple elts kk tpos, .Call (.Name "zip" p) [e, e2] [] zpos, ifs, 0⟩] scope lpos) scope X.env pos' (newList []) false (eval (.Call (.Name "zip" p) [e, e2] [] zpos) X.env) use) Qf X.xe s := by
  have fr : ∀ y ∈ scope.names, y.2 = .free → ∃ c, X.env.cells.lookup y.1 = some c := fun y hy q => (ok.free y hy q).elim (fun k => I.ok.has _ (.inl k)) fun k => I.ok.has _ (.inr k)
  refine wpAny_comprehension_free (use := use) rfl hs (closure_ok fr) ok.kind (fun y hy q => by rw [ok.uniq y hy, q]) ?_
  refine Call_ (ld_blt I hz hm PyProof.Rows.boot_zip (PyProof.Rows.callWith_type1 (thn (ha.run zpos pins s σ H _ I h) fun us sA ⟨vs, HA, IA, rA, qA⟩ => ?_) s1 s2))
  obtain ⟨a, b, xs, ys, ev, qx, qy, q⟩ := qA
  subst ev
  cases rA with
  | cons r rr =>
  cases rr with
  | cons r' rr =>
  cases rr
  cases r
  cases r'
  obtain ⟨l1, v1, p1, _⟩ := IA.list qx
  obtain ⟨l2, v2, p2, _⟩ := IA.list qy
  have D := PySem.W.ktu_apart sA.heap.objs.size a b p1.lt p2.lt
  refine call_zip_2 p1.isList p2.isList fun hB zB iB oB j1 j2 szB kB => wpAny_pyIter_zip zB ?_
  have IB : Inv X pins σ HA { sA with heap := hB } := IA.kept (t' := sA.toks) kB
  have lo : ∀ c ∈ [sA.heap.objs.size + 4, sA.heap.objs.size + 2, sA.heap.objs.size + 3, sA.heap.objs.size, sA.heap.objs.size + 1], sA.heap.objs.size ≤ c ∧ c < hB.objs.size := fun c hc => by
    rcases fp_cases hc with w | w | w | w | w <;> rw [w, szB] <;> omega
  have fB : ∀ c ∈ [sA.heap.objs.size + 4, sA.heap.objs.size + 2, sA.heap.objs.size + 3, sA.heap.objs.size, sA.heap.objs.size + 1], FpOk X pins HA c := fun c hc => IA.fpOk (lo c hc).1 (IA.hok.fresh (lo c hc).1)
  have stB : ZAt (sA.heap.objs.size + 4) (sA.heap.objs.size + 2) (sA.heap.objs.size + 3) sA.heap.objs.size (sA.heap.objs.size + 1) a b 0 hB := ⟨zB, iB, ⟨_, _, oB⟩, j1, j2⟩
  obtain ⟨x1, hx1⟩ : ∃ x1, X.A.handled = some (.ref x1) ∧ ∃ o vs, (x1, o) ∈ X.pn ∧ o.data = .fields vs ∧ vs[2]? = some Value.none := by
    obtain ⟨pp, ⟨k1, vs, k2, k3⟩, k4⟩ := hot
    exact ⟨pp.1, k1, pp.2, vs, k4, k2, k3⟩
  obtain ⟨hh, ox, vx, mx, dx, cx⟩ := hx1
  have nx1 : x1 ∉ [sA.heap.objs.size + 4, sA.heap.objs.size + 2, sA.heap.objs.size + 3, sA.heap.objs.size, sA.heap.objs.size + 1] := fun w => (fB x1 w).2.2.2.2.2 (x1, ox) (List.mem_append_left _ mx) rfl
  clear lo szB zB iB oB j1 j2 kB
  generalize sA.heap.objs.size + 4 = z at *
  generalize sA.heap.objs.size + 3 = TO at *
  generalize sA.heap.objs.size + 2 = TI at *
  generalize sA.heap.objs.size + 1 = i2 at *
  generalize sA.heap.objs.size = i1 at *
  have ltB := fun {c : Addr} (hc : c ∈ [z, TI, TO, i1, i2]) => zat_lt (s := { sA with heap := hB }) stB hc
  refine wpAny_newObj_type (newEnv_comp ?_) (show 0 ≤ sizeLine by decide)
  generalize eL : hB.objs.size = L
  have nL : HA L = none := IB.hok.fresh (Nat.le_of_eq eL)
  obtain ⟨Wt, ⟨m0, w0⟩, step⟩ := q L nL
  generalize eC : ({ sA with heap := hB.push { cls := .type "list", data := .seq ([] : List Value).toArray } } : Shared) = sC
  have hpC : sC.heap = hB.push { cls := .type "list", data := .seq ([] : List Value).toArray } := by rw [← eC]
  have IC : Inv X pins σ (upd HA L (.lst [])) sC := by
    rw [← eC]
    refine IB.laid (t' := sA.toks) (fun c o w => Heap.get?_push_of_some _ w) (Nat.le_of_eq eL) ⟨Nat.zero_le _, [], 0, .nil, ?_⟩
    rw [← eL]
    exact Heap.get?_push_size _ rfl
  have upL : ∀ {c : Addr}, c ∈ [z, TI, TO, i1, i2] → c ≠ L := fun {c} hc w => by
    have := ltB hc
    rw [w, ← eL] at this
    exact Nat.lt_irrefl _ this
  have fC : ∀ c ∈ [z, TI, TO, i1, i2], FpOk X pins (upd HA L (.lst [])) c ∧ c < sC.heap.objs.size := fun c hc => ⟨⟨(upd_ne (upL hc)).trans (fB c hc).1, (fB c hc).2⟩, by rw [hpC, Heap.size_push]; exact Nat.lt_succ_of_lt (ltB hc)⟩
  have T := turn_zip (P := X.prog) (w := X.w) (K := X.K) (elts := elts) (kk := kk) (tpos := tpos) D
  have stC : ZAt z TI TO i1 i2 a b 0 sC.heap := T.keep _ _ _ stB fun c _ o w => by
    rw [hpC]
    exact Heap.get?_push_of_some _ w
  have I0 := block_start IC ok hN fC
  have pg := hg sC (upd HA L (.lst [])) sC.heap.objs.size (cellsFrom (sC.heap.objs.size + 1) scope.names (cloFrom X.env.cells scope.names [])) [z, TI, TO, i1, i2]
  have pt := ht sC (upd HA L (.lst [])) sC.heap.objs.size (cellsFrom (sC.heap.objs.size + 1) scope.names (cloFrom X.env.cells scope.names [])) [z, TI, TO, i1, i2]
  have pe := he sC (upd HA L (.lst [])) sC.heap.objs.size (cellsFrom (sC.heap.objs.size + 1) scope.names (cloFrom X.env.cells scope.names [])) [z, TI, TO, i1, i2]
  have nfp : ∀ c ∈ [z, TI, TO, i1, i2], (upd HA L (.lst [])) c = none := fun c hc => (fC c hc).1.1
  show codeAny _ _ (.compStart _ 0 (.ref z) (.ref L) (compEnvC scope (cellsFrom (sC.heap.objs.size + 1) scope.names (cloFrom X.env.cells scope.names [])) sC.heap.objs.size X.env)) (compPost (model X.prog X.w) X.A X.xe use _ (.ref L) sC.heap.objs.size) { sC with heap := pushCells (sC.heap.push { cls := .type "dict", data := .dict #[] }) scope.names }
  generalize eE : compEnvC scope (cellsFrom (sC.heap.objs.size + 1) scope.names (cloFrom X.env.cells scope.names [])) sC.heap.objs.size X.env = ce at I0 pg pt pe ⊢
  have cL : ce.locals = sC.heap.objs.size := by rw [← eE]; rfl
  have gx : sC.heap.get? x1 = some ox := (IC.pin (x1, ox) (List.mem_append_left _ mx)).1
  have px := IC.pin (x1, ox) (List.mem_append_left _ mx)
  generalize upd HA L (.lst []) = HC at IC I0 pg pt pe w0 nfp fC px
  generalize eD : ({ sC with heap := pushCells (sC.heap.push { cls := .type "dict", data := .dict #[] }) scope.names } : Shared) = sD at I0 ⊢
  have stD : ZAt z TI TO i1 i2 a b 0 sD.heap := T.keep _ _ _ stC fun c _ o w => by
    rw [← eD]
    exact pushCells_keeps _ _ _ _ (Heap.get?_push_of_some _ w)
  have stat : ∀ {σ' : L2.St} {H' : Hp} {s' : Shared}, Inv (X.blk sC HC scope ce [z, TI, TO, i1, i2]) [] σ' H' s' → (∀ c ∈ [z, TI, TO, i1, i2], H' c = none) → ∀ c ∈ [z, TI, TO, i1, i2], FpOk (X.blk sC HC scope ce [z, TI, TO, i1, i2]) [] H' c := fun {σ' H' s'} J hn c hc =>
    ⟨hn c hc, (J.ok.exf c hc).1, J.ok.exfs c hc, .inl hc, fun y d w => (J.ok.exf c hc).2 y d w, fun pp hp => absurd (show pp ∈ ([] : List (Addr × Obj)) ++ [] from hp) (by simp)⟩
  have loop : codeAny (model X.prog X.w) X.A (.compLoop (.ListComp elt [⟨.Tuple elts kk tpos, .Call (.Name "zip" p) [e, e2] [] zpos, ifs, 0⟩] scope lpos) 0 (.ref z) (.ref L) ce) (compPost (model X.prog X.w) X.A X.xe use Qf (.ref L) sC.heap.objs.size) sD := by
    refine compLoop_any (fun n s' => ∃ i H', Inv (X.blk sC HC scope ce [z, TI, TO, i1, i2]) [] (wipe σ (own.map (·.2))) H' s' ∧ ZAt z TI TO i1 i2 a b i s'.heap ∧ (∀ c ∈ [z, TI, TO, i1, i2], H' c = none) ∧ Wt i n H') ?_ m0 ⟨0, HC, I0, stD, nfp, w0⟩
    rintro n s5 ⟨i, H5, I5, st5, n5, w5⟩
    rcases step i n H5 w5 with ⟨stop, qq⟩ | ⟨go, Nx, hNx, st1⟩
    · have hx5 : s5.heap.get? x1 = some ox := I5.base.keep x1 ox gx px.2.1 (fun hm => (List.mem_cons.mp (IC.stkSub x1 hm)).elim px.2.2.1 px.2.2.2.1) nx1
      refine thnF (zip_gone (Y := X.blk sC HC scope ce [z, TI, TO, i1, i2]) (E := fun _ _ => False) ⟨hh, ox, vx, hx5, dx, cx⟩ nx1 D I5 (stat I5 n5) st5 stop) fun r s6 ⟨hr, I6⟩ => ?_
      subst hr
      have I7 : Inv X pins σ H5 s6 := IC.call' (ch := [z, TI, TO, i1, i2]) I6.os I6.base I6.hok I6.bare fun c hc => ⟨(fC c hc).1.2.2.2.1, (fC c hc).1.2.1, (fC c hc).1.2.2.2.2.1, (fC c hc).1.2.2.2.2.2⟩
      have nC : H5 sC.heap.objs.size = none := by
        rw [← cL]
        exact I6.free
      obtain ⟨m, hn, _⟩ := I6.loc
      have hn : s6.heap.Ns ce.locals m := hn
      rw [cL] at hn
      exact hRR L _ _ m H5 I7 qq hn (IC.fpOk (H' := H5) (Nat.le_refl _) nC)
    · refine thnF (zip_turn (Y := X.blk sC HC scope ce [z, TI, TO, i1, i2]) (E := fun _ _ => False) (elts := elts) (kk := kk) (tpos := tpos) D I5 (stat I5 n5) st5 go) fun r s6 ⟨u, hr, h6⟩ => ?_
      subst hr
      refine thnF h6 fun _ s7 ⟨x, H7, I7, r7, y7, st7, n7⟩ => ?_
      have I7p := I7.pinned (stat I7 n7) (T.obj _ _ st7)
      have hx7 : s7.heap.get? x1 = some ox := I7.base.keep x1 ox gx px.2.1 (fun hm => (List.mem_cons.mp (IC.stkSub x1 hm)).elim px.2.2.1 px.2.2.2.1) nx1
      refine thnF (pg.run x1 _ s7 _ H7 x u _ ⟨hh, ox, vx, hx7, dx, cx⟩ I7p r7 (st1 x H7 y7)) fun _ s8 ⟨σ8, H8, I8, hw8, q8⟩ => ?_
      refine thnF (pt.run _ s8 σ8 H8 _ I8 q8) fun t s9 ⟨H9, I9, q9⟩ => ?_
      have done : ∀ {s' : Shared} {H' : Hp}, Inv (X.blk sC HC scope ce [z, TI, TO, i1, i2]) ([] ++ pinsAt [z, TI, TO, i1, i2] s7.heap) σ8 H' s' → Nx H' → ∃ m, m < n ∧ ∃ i H', Inv (X.blk sC HC scope ce [z, TI, TO, i1, i2]) [] (wipe σ (own.map (·.2))) H' s' ∧ ZAt z TI TO i1 i2 a b i s'.heap ∧ (∀ c ∈ [z, TI, TO, i1, i2], H' c = none) ∧ Wt i m H' := fun {s' H'} J nx => by
        obtain ⟨m', lm, w'⟩ := hNx H' nx
        have pin : ∀ c ∈ [z, TI, TO, i1, i2], ∀ o, s7.heap.get? c = some o → s'.heap.get? c = some o ∧ H' c = none := fun c hc o w => by
          have y := J.pin (c, o) (List.mem_append_right _ (List.mem_append_right _ (mem_pinsAt hc w)))
          exact ⟨y.1, y.2.1⟩
        refine ⟨m', lm, i + 1, H', (J.unpinned (pins := [])).weak (by rw [← hw8, wipe_length]) (fun j v w => ?_), T.keep _ _ _ st7 fun c hc o w => (pin c hc o w).1, fun c hc => ?_, w'⟩
        · rw [← hw8] at w
          exact (wipe_some w).1
        · obtain ⟨o, w, _⟩ := T.obj _ _ st7 c hc
          exact (pin c hc o w).2
      cases t with
      | false => exact done I9 q9
      | true =>
        refine thnF (pe.run _ s9 σ8 H9 _ I9 q9) fun y s10 ⟨yv, H10, I10, r10, acc, d10, z10, nx⟩ => ?_
        exact app_ok (X := X.blk sC HC scope ce [z, TI, TO, i1, i2]) I10 d10 z10 r10 fun s11 I11 => done I11 nx
  exact codeAny_compStart_list loop (T.self X.A 0 _ _ _ stD loop)
/-- [elt for .. in zip(e, e2) if ..] where an exception is handled -/
theorem pe_lcHot {elt e e2 : Expr} {elts ifs : List Expr} {kk : Nat} {scope : Scope} {own : List (Str × Nat)} {p zpos tpos lpos : Pos} {ta : TA} {g : TG} {tt : TT} {te : TE} (hot : L2H.HotC X) (hN : X.N.Nodup) (hz : Gl X "zip") (hm : X.mg "zip" = none) (ha : PA X [e, e2] ta) (ok : BlkOk X.N X.env.scope scope own)
    (hg : ∀ (s : Shared) (H : Hp) (C : Addr) (cl : List (Str × Addr)) (fp : List Addr), PGh (X.blk s H scope (compEnvC scope cl C X.env) fp) (.Tuple elts kk tpos) g) (ht : ∀ (s : Shared) (H : Hp) (C : Addr) (cl : List (Str × Addr)) (fp : List Addr), PTs (X.blk s H scope (compEnvC scope cl C X.env) fp) ifs tt)
    (he : ∀ (s : Shared) (H : Hp) (C : Addr) (cl : List (Str × Addr)) (fp : List Addr), PE (X.blk s H scope (compEnvC scope cl C X.env) fp) elt te)
    (s1 : starEach [e, e2] X.env = (false, eval e X.env) :: starEach [e2] X.env := by rfl) (s2 : (backTo zpos (starEach [e2] X.env)).any (·.1) = false := by rfl) (hs : ∀ x, foldedSetIterable (.Call (.Name "zip" p) [e, e2] [] zpos) X.env x = pure x := by intro _; rfl) :
    PE X (.ListComp elt [⟨.Tuple elts kk tpos, .Call (.Name "zip" p) [e, e2] [] zpos, ifs, 0⟩] scope lpos) (tLc (iZF X.K ta) g tt te (own.map (·.2))) := by
  refine ⟨fun pins s σ H Q I h => ?_⟩
  rw [eval_ListComp]
  refine lcHot_core hot hN hz hm ha ok hg ht he I h (fun D C s' m H' I' q hn f => ⟨m, hn, fun h2 sb => ?_⟩) s1 s2 hs
  obtain ⟨f0, f1, f2, f3, f4, f5⟩ := f
  exact ⟨.ref D, H', I'.turned (t' := s'.toks) (fun c o hc w => (sb.2 c hc).trans w) f0 f1 f3 f4 f5, rfl, q⟩
/-- .. bound to a name on one line -/
theorem ps_setLcHot {i : Nat} {y : Str} {py spos : Pos} {elt e e2 : Expr} {elts ifs : List Expr} {kk : Nat} {scope : Scope} {own : List (Str × Nat)} {p zpos tpos lpos : Pos} {ta : TA} {g : TG} {tt : TT} {te : TE} (hot : L2H.HotC X) (hN : X.N.Nodup) (hy : X.N[i]? = some y) (hyl : X.env.scope.names.lookup y = some .local)
    (hsw : swapsWith (.ListComp elt [⟨.Tuple elts kk tpos, .Call (.Name "zip" p) [e, e2] [] zpos, ifs, 0⟩] scope lpos) (some (.Name y py)) spos.line X.env = pure true) (hz : Gl X "zip") (hm : X.mg "zip" = none) (ha : PA X [e, e2] ta) (ok : BlkOk X.N X.env.scope scope own)
    (hg : ∀ (s : Shared) (H : Hp) (C : Addr) (cl : List (Str × Addr)) (fp : List Addr), PGh (X.blk s H scope (compEnvC scope cl C X.env) fp) (.Tuple elts kk tpos) g) (ht : ∀ (s : Shared) (H : Hp) (C : Addr) (cl : List (Str × Addr)) (fp : List Addr), PTs (X.blk s H scope (compEnvC scope cl C X.env) fp) ifs tt)
    (he : ∀ (s : Shared) (H : Hp) (C : Addr) (cl : List (Str × Addr)) (fp : List Addr), PE (X.blk s H scope (compEnvC scope cl C X.env) fp) elt te)
    (s1 : starEach [e, e2] X.env = (false, eval e X.env) :: starEach [e2] X.env := by rfl) (s2 : (backTo zpos (starEach [e2] X.env)).any (·.1) = false := by rfl) (hs : ∀ x, foldedSetIterable (.Call (.Name "zip" p) [e, e2] [] zpos) X.env x = pure x := by intro _; rfl) :
    PS X (.Assign [.Name y py] (.ListComp elt [⟨.Tuple elts kk tpos, .Call (.Name "zip" p) [e, e2] [] zpos, ifs, 0⟩] scope lpos) spos) (tAsg (tLc (iZF X.K ta) g tt te (own.map (·.2))) (gName i)) := by
  refine ⟨fun pins s σ H D I h => ?_⟩
  rw [exec_Assign_Name_used _ _ _ _ hsw]
  refine wpAny_bind (wpAny_standAt (wpAny_bind ?_))
  have h : tLc (iZF X.K ta) g tt te (own.map (·.2)) σ H (fun x H1 => gName i x σ H1 D.nx) := h
  refine wpAny_bind (thn (lcHot_core (Qf := fun _ s' => SP X pins D .next s') (use := some (assign (.Name y py) X.env)) hot hN hz hm ha ok hg ht he I h (fun L C s' m H' I' q hn f => ?_) s1 s2 hs) fun _ s' hq => wpAny_pure (wpAny_pure hq))
  show wpAny _ _ (assign (.Name y py) X.env (.ref L)) _ _ _
  refine wpAny_assign_Name (store_ok2 (v := V.ref L) I' hN hy (.inl hyl) rfl (fun s2 I2 ⟨a, sb, ha⟩ => ?_) (.inr hyl))
  obtain ⟨f0, f1, f2, f3, f4, f5⟩ := f
  have haC : C ≠ a := ha.elim (fun z => by rw [z]; exact f1) fun z w => f4 y a z w.symm
  exact ⟨m, hn.sameBut sb haC, fun h3 sb3 => ⟨_, H', I2.turned (t' := s2.toks) (fun b o hb e => (sb3.2 b hb).trans e) f0 f1 f3 f4 f5, q⟩⟩
end
/-! ### over the readings of data -/
theorem itf_ok {c : Cf} {a b : Addr} {l k : List D} {vs ws : List V} {g0 : Gh} {L0 : Nat} (hq : SqL c.K g0.tr a vs) (rs : RVs c g0 L0 l vs) (hq2 : SqL c.K g0.tr b ws) (rs2 : RVs c g0 L0 k ws) (hl : l.length ≤ k.length) : ItOk c (ItF c.K a b) (zipD l k) g0 L0 := fun g h H i S gx hL => by
  obtain ⟨_, z2⟩ := itz_ok hq rs hq2 rs2 g h H i S gx hL
  refine ⟨fun hi => ⟨vs, SqL.sub S.sub (SqL.sub gx.tr hq), ?_⟩, z2⟩
  rw [zipD_len, Nat.min_eq_left hl, rs.length] at hi
  exact hi
/-- two lists side by side, the first one no longer than the second -/
def iZipF (fs : Ev (List D)) : Ev (List D) := fun st h => (fs st h).bind fun ds h1 => match ds with
  | [d, d'] => match asI d, asI d' with
    | some l, some k => if l.length ≤ k.length then .ok (zipD l k) h1 else .no
    | _, _ => .no
  | _ => .no
theorem zf_of {c : Cf} {W : WX} {fs : Ev (List D)} {σ : L2.St} {H : Hp} {R : It → Hp → Prop} (x : tIt c W (iZipF fs) σ H R) : iZF c.K (tAr c W fs) σ H R := by
  obtain ⟨st, h, g, S, sl, q⟩ := x
  refine ⟨st, h, g, S, sl, RP.mono (RP.bind q) fun vs H1 ⟨ds, h1, g1, o1, S1, r1, q1⟩ => ?_⟩
  split at q1
  · rename_i d d'
    split at q1
    · rename_i l k el ek
      by_cases hl : l.length ≤ k.length
      · rw [if_pos hl] at q1
        cases r1 with
        | cons r rr =>
          cases rr with
          | cons r' rr =>
            cases rr
            obtain ⟨a, vs, rfl, hq, rs⟩ := asI_ok r el
            obtain ⟨b, ws, rfl, hq2, rs2⟩ := asI_ok r' ek
            exact ⟨a, b, vs, ws, rfl, SqL.sub S1.sub hq, SqL.sub S1.sub hq2, RP.ok_here q1 S1 (itf_ok hq rs hq2 rs2 hl)⟩
      · rw [if_neg hl] at q1
        exact q1.elim
    · exact q1.elim
  · exact q1.elim
section
variable {c : Cf} {W : WX} {X : Cx}
theorem e_lcHot {m : Bool} {elt e e2 : Expr} {elts ifs : List Expr} {kk : Nat} {scope : Scope} {own : List (Str × Nat)} {p zpos tpos lpos : Pos} {gt : TG} {fs : Ev (List D)} {fg : D → Slots → Option Slots} {ft : Ev Bool} {fe : Ev D} (hK : c.K = X.K) (hot : L2H.HotC X) (hN : X.N.Nodup) (hz : Gl X "zip") (hm : X.mg "zip" = none) (ha : PA X [e, e2] (tAr c W fs)) (ok : BlkOk X.N X.env.scope scope own)
    (hg : ∀ (s : Shared) (H : Hp) (C : Addr) (cl : List (Str × Addr)) (fp : List Addr), PGh (X.blk s H scope (compEnvC scope cl C X.env) fp) (.Tuple elts kk tpos) gt) (tgn : TgN c (own.map (·.2)) gt fg)
    (ht : ∀ (s : Shared) (H : Hp) (C : Addr) (cl : List (Str × Addr)) (fp : List Addr), PTs (X.blk s H scope (compEnvC scope cl C X.env) fp) ifs (tTe c W0 ft))
    (he : ∀ (s : Shared) (H : Hp) (C : Addr) (cl : List (Str × Addr)) (fp : List Addr), PE (X.blk s H scope (compEnvC scope cl C X.env) fp) elt (tEv c W0 fe))
    (s1 : starEach [e, e2] X.env = (false, eval e X.env) :: starEach [e2] X.env := by rfl) (s2 : (backTo zpos (starEach [e2] X.env)).any (·.1) = false := by rfl) (hs : ∀ x, foldedSetIterable (.Call (.Name "zip" p) [e, e2] [] zpos) X.env x = pure x := by intro _; rfl) :
    PE X (.ListComp elt [⟨.Tuple elts kk tpos, .Call (.Name "zip" p) [e, e2] [] zpos, ifs, 0⟩] scope lpos) (tEv c W (cLc m (iZipF fs) fg ft fe (own.map (·.2)))) := PE.imp (pe_lcHot hot hN hz hm ha ok hg ht he s1 s2 hs) fun σ H Q x => by
  rw [← hK]
  exact zf_of (lc_ok tgn x)
theorem s_setLcHot {m : Bool} {i : Nat} {y : Str} {py spos : Pos} {elt e e2 : Expr} {elts ifs : List Expr} {kk : Nat} {scope : Scope} {own : List (Str × Nat)} {p zpos tpos lpos : Pos} {gt : TG} {fs : Ev (List D)} {fg : D → Slots → Option Slots} {ft : Ev Bool} {fe : Ev D} (hK : c.K = X.K) (hot : L2H.HotC X) (hN : X.N.Nodup) (hy : X.N[i]? = some y) (hyl : X.env.scope.names.lookup y = some .local)
    (hsw : swapsWith (.ListComp elt [⟨.Tuple elts kk tpos, .Call (.Name "zip" p) [e, e2] [] zpos, ifs, 0⟩] scope lpos) (some (.Name y py)) spos.line X.env = pure true) (hz : Gl X "zip") (hm : X.mg "zip" = none) (ha : PA X [e, e2] (tAr c W fs)) (ok : BlkOk X.N X.env.scope scope own)
    (hg : ∀ (s : Shared) (H : Hp) (C : Addr) (cl : List (Str × Addr)) (fp : List Addr), PGh (X.blk s H scope (compEnvC scope cl C X.env) fp) (.Tuple elts kk tpos) gt) (tgn : TgN c (own.map (·.2)) gt fg)
    (ht : ∀ (s : Shared) (H : Hp) (C : Addr) (cl : List (Str × Addr)) (fp : List Addr), PTs (X.blk s H scope (compEnvC scope cl C X.env) fp) ifs (tTe c W0 ft))
    (he : ∀ (s : Shared) (H : Hp) (C : Addr) (cl : List (Str × Addr)) (fp : List Addr), PE (X.blk s H scope (compEnvC scope cl C X.env) fp) elt (tEv c W0 fe))
    (s1 : starEach [e, e2] X.env = (false, eval e X.env) :: starEach [e2] X.env := by rfl) (s2 : (backTo zpos (starEach [e2] X.env)).any (·.1) = false := by rfl) (hs : ∀ x, foldedSetIterable (.Call (.Name "zip" p) [e, e2] [] zpos) X.env x = pure x := by intro _; rfl) :
    PS X (.Assign [.Name y py] (.ListComp elt [⟨.Tuple elts kk tpos, .Call (.Name "zip" p) [e, e2] [] zpos, ifs, 0⟩] scope lpos) spos) (tSt c W (sSet i (cLc m (iZipF fs) fg ft fe (own.map (·.2))))) := PS.imp (ps_setLcHot hot hN hy hyl hsw hz hm ha ok hg ht he s1 s2 hs) fun D σ H ⟨st, h, g, S, sl, q⟩ => by
  show tLc _ _ _ _ _ σ H (fun x H1 => gName i x σ H1 D.nx)
  rw [← hK]
  have key : tEv c W (cLc m (iZipF fs) fg ft fe (own.map (·.2))) σ H (fun x H1 => gName i x σ H1 D.nx) := ⟨st, h, g, S, sl, RP.mono (OP.out sl q) fun v H1 ⟨d, h1, g1, o1, S1, r1, q1⟩ => q1 g1 H1 _ (Go.refl _ _ _) S1 ((sl.go o1).set i r1)⟩
  exact zf_of (lc_ok tgn key)
end
end Gm

/-! Gm20: the exception that is handled as a value: isinstance of it, its fields. -/
namespace PySem.W
open PySem PySem.Spec PySem.Calls PyProof.Rows
section
variable {prog : Program} {w : World} {A : Around} {E : Value → Shared → Prop} {s : Shared} {K : Frag} {x D : Addr} {ox : Obj} {od : Option Obj}
theorem gm_findObj_data {C : Addr} {name : Str} {a g : Value} (hc : (clsIn K C).isSome = true) (ha : findIn K (.ref C) name = some (some a)) (hg : specialIn K a "__get__" = some (some g)) (ht : takesIn K a = some true) : findObj K C od name = some (.bind g a) := by
  obtain ⟨cd, hc⟩ := Option.isSome_iff_exists.mp hc
  unfold findObj
  rw [hc, Option.bind_some, ha, Option.bind_some]
  simp [hg, ht]
theorem gm_classE {Q : Option Value → Shared → Prop} (hga : findIn K (.ref D) "__getattribute__" = some (some (.builtin "BaseException.__getattribute__"))) (hgt : findIn K (.ref D) "__getattr__" = some none) (hsub : subIn K (.ref D) (.type "BaseException") = some true)
    (hdct : hasDictIn K D = true) (ha : findIn K (.ref D) "__class__" = some (some (.builtin "object.__class__")))
    (hn : specialIn K (.builtin "object.__class__") "__get__" = some (some (.builtin "getset_descriptor.__get__"))) (htk : takesIn K (.builtin "object.__class__") = some true) (hm : mroIn K D (.type "object") = some true)
    (X : K.In s.heap) (I : InstAt s.heap x ox D od) (h : Q (some (.ref D)) { s with toks := s.toks + 1 }) : wpAny (model prog w) A (getAttr? (.ref x) "__class__") Q E s := by
  have hf : findObj K D od "__class__" = some (.bind (.builtin "getset_descriptor.__get__") (.builtin "object.__class__")) := gm_findObj_data (by obtain ⟨cd, hc, _⟩ := any_some hdct; rw [hc]; rfl) ha hn htk
  obtain ⟨hp, g, d, t, os⟩ := s
  have L0 := I.type (M := model prog w)
  have L1 := looks_findIn (M := model prog w) X hga
  have L2 := looks_findIn (M := model prog w) X hgt
  have L3 := looks_find (M := model prog w) X I hf
  have sub : Looks (model prog w) hp (isInstance (.ref x) (.type "BaseException")) true := L0.andThen (looks_subIn X hsub)
  have hx0 : (false && onTheHeap (Value.builtin "BaseException.__getattribute__")) = false := rfl
  have hx2 : (Value.builtin "BaseException.__getattribute__" == Value.builtin "object.__getattribute__") = false := by decide +kernel
  have hx1 : (onTheHeap (Value.ref D) && Value.builtin "BaseException.__getattribute__" == Value.builtin "object.__getattribute__") = false := by rw [hx2]; rfl
  unfold getAttr? getAttrBy? getAttrBy
  refine wpAny_bind (wpAny_mkText (wpAny_bind (wpAny_attempt (wpAny_holding (wpAny_bind (L0.at (wpAny_bind (L1.at ?_))))))))
  show wpAny _ _ (if (onTheHeap (Value.ref D) && Value.builtin "BaseException.__getattribute__" == Value.builtin "object.__getattribute__") = true then _ else _) _ _ _
  rw [hx1, if_neg Bool.false_ne_true]
  unfold getAttrByItsOwn hookBefore
  refine wpAny_bind ?_
  rw [if_pos (show onTheHeap (Value.ref D) = true from rfl)]
  refine L2.at ?_
  refine wpAny_bind (wpAny_attempt (wpAny_holding ?_))
  unfold callGetattribute
  rw [hx0, if_neg Bool.false_ne_true]
  unfold boundAndCalled
  rw [PySem.F.excAttr_ValueError.ga.bind (.ref x)]
  refine wpAny_bind (wpAny_pure ?_)
  show wpAny _ _ (call (.builtin "BaseException.__getattribute__") [.ref x, .str "__class__" t]) _ _ _
  refine wpAny_call (codeAny_call_builtin PySem.F.excAttr_ValueError.ga.plain PySem.F.entry_bexc_ga ?_)
  refine @check_slot (model prog w) _ _ ⟨hp, g, d, t + 1, os⟩ "BaseException.__getattribute__" "BaseException" "__getattribute__" (.ref x) [.str "__class__" t] [] _ (by decide +kernel) (by decide +kernel) sub (PySem.F.args_bexc_ga (.ref x) (.str "__class__" t)) ?_
  unfold Builtin.«object.__getattribute__»
  refine wpAny_bind (wpAny_of_eq (a := ((Value.ref x : Value), [Value.str "__class__" t])) (by first | rfl | (simp only [slotArgs]; rfl)) ?_)
  refine wpAny_bind (wpAny_pure (wpAny_bind (L0.at (wpAny_bind (L3.at ?_)))))
  show wpAny _ _ (holding [Value.builtin "object.__class__"] (call (.builtin "getset_descriptor.__get__") [.builtin "object.__class__", .ref x, .ref D]) >>= ret) _ _ _
  refine wpAny_bind (wpAny_holding (wpAny_call (class_get (s := ⟨hp, g, d, t + 1, os⟩) (ox := ox) (od := od) X I hm ?_)))
  refine wpAny_pure ?_
  show wpAny _ _ (handedOut (.ref D)) _ _ _
  rw [handedOut_of (v := .ref D) rfl]
  first
    | exact wpAny_pure (wpAny_pure h)
    | exact wpAny_pure h
    | exact wpAny_pure (wpAny_bind (wpAny_pure (wpAny_pure h)))
theorem gm_kitx_exc (hga : findIn K (.ref D) "__getattribute__" = some (some (.builtin "BaseException.__getattribute__"))) (hgt : findIn K (.ref D) "__getattr__" = some none) (hsub : subIn K (.ref D) (.type "BaseException") = some true) (hdct : hasDictIn K D = true) (ha : findIn K (.ref D) "__class__" = some (some (.builtin "object.__class__")))
    (hn : specialIn K (.builtin "object.__class__") "__get__" = some (some (.builtin "getset_descriptor.__get__"))) (htk : takesIn K (.builtin "object.__class__") = some true) (hm : mroIn K D (.type "object") = some true) :
    KitX K (.ref x) (.ref D) (fun h => InstAt h x ox D od) where
  ty := fun _ _ _ I => I.type
  it := fun _ _ X _ => by
    obtain ⟨cdD, hcD, _⟩ := any_some hdct
    unfold clsIn at hcD
    split at hcD
    · rename_i c' d' cd' sl' ho
      intro A' Q' E' s' k q
      unfold isType loadHead
      exact wpAny_bind (wpAny_loadPart (k _ _ (X _ _ ho)) (wpAny_pure q))
    · cases hcD
  ne := fun h tp dd its n sl X htp => by
    obtain ⟨cdD, hcD, _⟩ := any_some hdct
    refine Bool.eq_false_iff.mpr fun q => ?_
    have e : D = tp := Value.ref.inj (beq_iff_eq.mp q)
    subst e
    unfold clsIn at hcD
    split at hcD
    · rename_i c' d' cd' sl' ho
      have z := (X _ _ ho).symm.trans htp
      cases z
    · cases hcD
  ca := fun X I k => gm_classE hga hgt hsub hdct ha hn htk hm X I k
end
end PySem.W
namespace Gm
open PySem PySem.Spec PyProof.Rows L2
/-! ### the classes of exceptions by names -/
def subE (T : List (Str × Str)) : Nat → Str → Str → Bool
  | 0, n, C => n == C
  | k + 1, n, C => n == C || match T.lookup n with
    | some m => subE T k m C
    | none => false
/-- T: whose base is what; ns: classes that are raised here; ms: own classes that are asked for -/
structure ExcT where
  T : List (Str × Str)
  ns : List Str
  ms : List Str
def ExcT.is (t : ExcT) (n C : Str) : Bool := subE t.T 4 n C
def bltE : List String := ["ValueError", "LookupError"]
def excCB (K : PySem.W.Frag) (D : Addr) : Bool :=
  decide (PySem.W.findIn K (.ref D) "__getattribute__" = some (some (.builtin "BaseException.__getattribute__"))) && (decide (PySem.W.findIn K (.ref D) "__getattr__" = some none) && (decide (PySem.W.subIn K (.ref D) (.type "BaseException") = some true) && (PySem.W.hasDictIn K D &&
    (decide (PySem.W.findIn K (.ref D) "__class__" = some (some (.builtin "object.__class__"))) && (decide (PySem.W.specialIn K (.builtin "object.__class__") "__get__" = some (some (.builtin "getset_descriptor.__get__"))) && (decide (PySem.W.takesIn K (.builtin "object.__class__") = some true) &&
      decide (PySem.W.mroIn K D (.type "object") = some true)))))))
theorem excCB_ok {K : PySem.W.Frag} {D : Addr} (h : excCB K D = true) : ExcC K D := by
  unfold excCB at h
  simp only [Bool.and_eq_true, decide_eq_true_eq] at h
  obtain ⟨h1, h2, h3, h4, h5, h6, h7, h8⟩ := h
  exact ⟨h1, h2, h3, h4, h5, h6, h7, h8⟩
def excTB (t : ExcT) (K : PySem.W.Frag) : Bool := t.ns.all fun n => excCB K (He.ga K n) && (t.ms.all (fun m => decide (PySem.W.kitOne K (.ref (He.ga K n)) (.ref (He.ga K m)) = some (t.is n m)) && decide (PySem.W.exmOne K (.ref (He.ga K n)) (.ref (He.ga K m)) = some (t.is n m))) &&
  bltE.all fun b => decide (PySem.W.kitOne K (.ref (He.ga K n)) (.type b) = some (t.is n (PySem.Str.ofString b))))
structure ExcOk (t : ExcT) (K : PySem.W.Frag) : Prop where
  c : ∀ n, n ∈ t.ns → ExcC K (He.ga K n)
  kit : ∀ n m, n ∈ t.ns → m ∈ t.ms → PySem.W.kitOne K (.ref (He.ga K n)) (.ref (He.ga K m)) = some (t.is n m)
  exm : ∀ n m, n ∈ t.ns → m ∈ t.ms → PySem.W.exmOne K (.ref (He.ga K n)) (.ref (He.ga K m)) = some (t.is n m)
  blt : ∀ n b, n ∈ t.ns → b ∈ bltE → PySem.W.kitOne K (.ref (He.ga K n)) (.type b) = some (t.is n (PySem.Str.ofString b))
theorem excOk_of {t : ExcT} {K : PySem.W.Frag} (h : excTB t K = true) : ExcOk t K := by
  have key : ∀ n, n ∈ t.ns → excCB K (He.ga K n) = true ∧ (∀ m ∈ t.ms, PySem.W.kitOne K (.ref (He.ga K n)) (.ref (He.ga K m)) = some (t.is n m) ∧ PySem.W.exmOne K (.ref (He.ga K n)) (.ref (He.ga K m)) = some (t.is n m)) ∧
      ∀ b ∈ bltE, PySem.W.kitOne K (.ref (He.ga K n)) (.type b) = some (t.is n (PySem.Str.ofString b)) := fun n hn => by
    have h1 := List.all_eq_true.mp h n hn
    rw [Bool.and_eq_true, Bool.and_eq_true] at h1
    obtain ⟨h2, h3, h4⟩ := h1
    refine ⟨h2, fun m hm => ?_, fun b hb => ?_⟩
    · have h5 := List.all_eq_true.mp h3 m hm
      rw [Bool.and_eq_true] at h5
      exact ⟨of_decide_eq_true h5.1, of_decide_eq_true h5.2⟩
    · exact of_decide_eq_true (List.all_eq_true.mp h4 b hb)
  exact ⟨fun n hn => excCB_ok (key n hn).1, fun n m hn hm => ((key n hn).2.1 m hm).1, fun n m hn hm => ((key n hn).2.1 m hm).2, fun n b hn hb => (key n hn).2.2 b hb⟩
/-! ### the handled exception in a context -/
/-- p is the object of the exception that c tells -/
structure PinE (c : Cf) (p : Addr × Obj) : Prop where
  at_ : ∃ n dd C, c.ex = some (p.1, n, dd) ∧ c.cl n = some C ∧ L2N.Zn (.ref C) dd p.2
  fld : ∃ vs, p.2.data = .fields vs
def HotE (c : Cf) (X : Cx) : Prop := ∃ p ∈ X.pn, PinE c p ∧ X.A.handled = some (.ref p.1)
theorem PinE.hot1 {c : Cf} {p : Addr × Obj} {A : Around} (x : PinE c p) (h : A.handled = some (.ref p.1)) : L2H.Hot1 A p := by
  obtain ⟨⟨n, dd, C, _, _, z⟩, vs, hv⟩ := x
  exact ⟨h, vs, hv, z.2.2 vs hv⟩
theorem HotE.hot {c : Cf} {X : Cx} (x : HotE c X) : L2H.HotC X := by
  obtain ⟨p, hp, z, h⟩ := x
  exact ⟨p, z.hot1 h, hp⟩
section
variable {c : Cf} {W : WX} {X : Cx} {t : ExcT}
/-- isinstance(e, c), e the handled one -/
def rIsX (c : Cf) (K : PySem.W.Frag) : List V → Hp → VK → Prop := fun xs H Q => ∃ (a : Addr) (n : Str) (dd : Option Addr) (D : Addr) (k : V) (kv : Value) (b : Bool), xs = [.ref a, k] ∧ c.ex = some (a, n, dd) ∧ c.cl n = some D ∧ (dd = none ∨ ∃ d fs, dd = some d ∧ H d = some (.xd fs)) ∧
  ExcC K D ∧ (∀ u, RelV k u → u = kv) ∧ PySem.W.kitOne K (.ref D) kv = some b ∧ Q (.bl b) H
theorem inst_at {pins : List (Addr × Obj)} {σ : L2.St} {H : Hp} {s : Shared} (ht : HotE c X) {a : Addr} {n : Str} {dd : Option Addr} {D : Addr} (I : Inv X pins σ H s) (e : c.ex = some (a, n, dd)) (hD : c.cl n = some D) (hd : dd = none ∨ ∃ d fs, dd = some d ∧ H d = some (.xd fs)) :
    ∃ ox od, PySem.W.InstAt s.heap a ox D od := by
  obtain ⟨p, hp, ⟨⟨n', dd', C, e', hC, hz⟩, vs, hv⟩, _⟩ := ht
  rw [e] at e'
  cases e'
  rw [hD] at hC
  cases hC
  obtain ⟨hget, _⟩ := I.pin p (List.mem_append_left _ hp)
  obtain ⟨a, oc, od, oda, osl⟩ := p
  obtain ⟨h1, h2, _⟩ := hz
  dsimp only at h1 h2 hv
  subst h1 h2 hv
  rcases hd with rfl | ⟨d, fs, rfl, hd⟩
  · exact ⟨_, none, hget, rfl, rfl, trivial⟩
  · obtain ⟨mA, hns, _⟩ := (show ObjOk X.prog X.w H s.heap d (.xd fs) from I.hok d _ hd)
    obtain ⟨o, ho, _⟩ := lookIn_ns hns
    exact ⟨_, some o, hget, rfl, rfl, ho⟩
theorem call_isX (ht : HotE c X) : CallR X (.builtin "isinstance") (rIsX c X.K) := by
  intro pins s σ H xs us Q I r h
  obtain ⟨a, n, dd, D, k, kv, b, rfl, e, hD, hd, C, hk, ek, q⟩ := h
  cases r with
  | cons rx rr =>
    cases rr with
    | cons rt rr =>
      cases rr
      cases rx
      have ec := hk _ rt
      subst ec
      obtain ⟨ox, od, J⟩ := inst_at ht I e hD hd
      exact PySem.W.kia_one (PySem.W.gm_kitx_exc (od := od) C.hg C.hk C.hs C.hd C.ha C.hn C.ht C.hm) I.kIn J ek (fun z => nomatch z) fun tk => ⟨.bl b, H, I.kept (t' := tk) fun _ _ z => z, rfl, q⟩
def rIsX2 (c : Cf) (K : PySem.W.Frag) : List V → Hp → VK → Prop := fun xs H Q => ∃ (a : Addr) (n : Str) (dd : Option Addr) (D : Addr) (tp : Addr) (cs : List V) (us : List Value) (b : Bool), xs = [.ref a, .ref tp] ∧ c.ex = some (a, n, dd) ∧ c.cl n = some D ∧ (dd = none ∨ ∃ d fs, dd = some d ∧ H d = some (.xd fs)) ∧
  ExcC K D ∧ H tp = some (.tup cs) ∧ Paired ClsV cs us ∧ PySem.W.kitAny K (.ref D) us = some b ∧ Q (.bl b) H
theorem call_isX2 (ht : HotE c X) : CallR X (.builtin "isinstance") (rIsX2 c X.K) := by
  intro pins s σ H xs us Q I r h
  obtain ⟨a, n, dd, D, tp, cs, ws, b, rfl, e, hD, hd, C, hT, k, ek, q⟩ := h
  obtain ⟨u1, u2, rfl, r1, r2⟩ := vals2 r
  cases (show u1 = Value.ref a from r1)
  cases (show u2 = Value.ref tp from r2)
  obtain ⟨_, its, rv, o, h1, h2, m, h3⟩ := (show ObjOk X.prog X.w H s.heap tp (.tup cs) from I.hok tp _ hT)
  have e3 := ClsV.all k rv
  subst e3
  obtain ⟨oc, oda, dt, sl⟩ := o
  simp only at h2 h3
  subst h2 h3
  obtain ⟨ox, od, J⟩ := inst_at ht I e hD hd
  exact PySem.W.kia_tup (PySem.W.gm_kitx_exc (od := od) C.hg C.hk C.hs C.hd C.ha C.hn C.ht C.hm) I.kIn J h1 ek (fun z => nomatch z) fun tk => ⟨.bl b, H, I.tok tk, rfl, q⟩
def exnOf (t : ExcT) (d : D) : Option Str := match d with
  | .exn n _ => if n ∈ t.ns then some n else none
  | _ => none
theorem exnOf_ok {g : Gh} {h : Store} {H : Hp} {d : D} {v : V} {n : Str} (S : SR c g h H) (r : RV c g h.length d v) (e : exnOf t d = some n) : n ∈ t.ns ∧ ∃ a dd, v = .ref a ∧ c.ex = some (a, n, dd) ∧ (dd = none ∨ ∃ d fs, dd = some d ∧ H d = some (.xd fs)) := by
  cases r with
  | @exn0 m a he =>
    unfold exnOf at e
    dsimp only at e
    by_cases hm : m ∈ t.ns
    · rw [if_pos hm] at e
      cases e
      exact ⟨hm, a, none, rfl, he, .inl rfl⟩
    · rw [if_neg hm] at e
      cases e
  | @exn1 m fs a dd fvs he hd _ =>
    unfold exnOf at e
    dsimp only at e
    by_cases hm : m ∈ t.ns
    · rw [if_pos hm] at e
      cases e
      exact ⟨hm, a, some dd, rfl, he, .inr ⟨dd, fvs, rfl, S.sub _ _ hd⟩⟩
    · rw [if_neg hm] at e
      cases e
  | _ => cases e
def cIsE (t : ExcT) (fe : Ev D) (C : Str) : Ev D := fun st h => (fe st h).bind fun d h1 => match exnOf t d with
  | some n => .ok (.bl (t.is n C)) h1
  | none => .no
variable {e : Expr} {fe : Ev D} {p pos tpos p1 p2 : Pos}
theorem e_isE {C : Str} (hcl : ∀ n, c.cl n = some (He.ga X.K n)) (ho : ExcOk t X.K) (ht : HotE c X) (hg : Gl X "isinstance") (hm : X.mg "isinstance" = none) (hv : bootBuiltins "isinstance" = some (.builtin "isinstance")) (he : PE X e (tEv c W fe)) (hgC : Gl X C) (hmC : X.mg C = some (.ref (He.ga X.K C))) (hC : C ∈ t.ms)
    (hdC : (C == ("__debug__" : Str)) = false := by decide)
    (s1 : starEach [e, .Name C p1] X.env = (false, eval e X.env) :: starEach [.Name C p1] X.env := by rfl) (s2 : starEach [.Name C p1] X.env = (false, eval (.Name C p1) X.env) :: starEach [] X.env := by rfl)
    (hpl : (backTo pos (starEach [.Name C p1] X.env)).any (·.1) = false := by rfl) :
    PE X (.Call (.Name "isinstance" p) [e, .Name C p1] [] pos) (tEv c W (cIsE t fe C)) := by
  have pc : PE X (.Name C p1) (tC (.ref (He.ga X.K C))) := pe_glob hgC hmC rfl hdC
  refine PE.imp (pe_callB (call_isX ht) hg hm hv (pa_cons he (pa_cons pc pa_nil s2) s1) (by decide) (by decide) s1 hpl) fun σ H Q ⟨st, h, g, S, sl, q⟩ => ?_
  refine ⟨st, h, g, S, sl, RP.mono (RP.bind q) fun v H1 ⟨d, h1, g1, o1, S1, r1, q1⟩ => ?_⟩
  split at q1
  · rename_i n en
    obtain ⟨hn, a, dd, rfl, ea, hd⟩ := exnOf_ok S1 r1 en
    exact ⟨a, n, dd, He.ga X.K n, .ref (He.ga X.K C), .ref (He.ga X.K C), _, rfl, ea, hcl n, hd, ho.c n hn, fun u r => r, ho.kit n C hn hC, RP.ok_here q1 S1 (.bl _)⟩
  · exact q1.elim
def cIsE2 (t : ExcT) (fe : Ev D) (A B : String) : Ev D := fun st h => (fe st h).bind fun d h1 => match exnOf t d with
  | some n => .ok (.bl (t.is n (PySem.Str.ofString A) || t.is n (PySem.Str.ofString B))) h1
  | none => .no
theorem e_isE2 {x y : Str} {A B : String} {k : Nat} (hcl : ∀ n, c.cl n = some (He.ga X.K n)) (ho : ExcOk t X.K) (ht : HotE c X) (hg : Gl X "isinstance") (hm : X.mg "isinstance" = none) (hv : bootBuiltins "isinstance" = some (.builtin "isinstance")) (he : PE X e (tEv c W fe)) (h1 : PE X (.Name x p1) (tC (.ty A))) (h2 : PE X (.Name y p2) (tC (.ty B)))
    (hA : A ∈ bltE) (hB : B ∈ bltE)
    (s1 : starEach [e, .Tuple [.Name x p1, .Name y p2] k tpos] X.env = (false, eval e X.env) :: starEach [.Tuple [.Name x p1, .Name y p2] k tpos] X.env := by rfl) (s2 : starEach [.Tuple [.Name x p1, .Name y p2] k tpos] X.env = (false, eval (.Tuple [.Name x p1, .Name y p2] k tpos) X.env) :: starEach [] X.env := by rfl)
    (s3 : starEach [.Name x p1, .Name y p2] X.env = (false, eval (.Name x p1) X.env) :: starEach [.Name y p2] X.env := by rfl) (s4 : starEach [.Name y p2] X.env = (false, eval (.Name y p2) X.env) :: starEach [] X.env := by rfl)
    (hpl : (backTo pos (starEach [.Tuple [.Name x p1, .Name y p2] k tpos] X.env)).any (·.1) = false := by rfl) :
    PE X (.Call (.Name "isinstance" p) [e, .Tuple [.Name x p1, .Name y p2] k tpos] [] pos) (tEv c W (cIsE2 t fe A B)) := by
  have pt : PE X (.Tuple [.Name x p1, .Name y p2] k tpos) (tTup (tCons (tC (.ty A)) (tCons (tC (.ty B)) tNil))) := pe_tup (pa_cons h1 (pa_cons h2 pa_nil s4) s3)
  refine PE.imp (pe_callB (call_isX2 ht) hg hm hv (pa_cons he (pa_cons pt pa_nil s2) s1) (by decide) (by decide) s1 hpl) fun σ H Q ⟨st, h, g, S, sl, q⟩ => ?_
  refine ⟨st, h, g, S, sl, RP.mono (RP.bind q) fun v H1 ⟨d, h1, g1, o1, S1, r1, q1⟩ => ?_⟩
  split at q1
  · rename_i n en
    refine ⟨show 2 ≤ sizeLine by decide, fun tp hp => ?_⟩
    obtain ⟨S2, o2⟩ := S1.tree (o := .tup [.ty A, .ty B]) hp
    obtain ⟨hn, a, dd, rfl, ea, hd⟩ := exnOf_ok S2 (r1.mono o2.gx (Nat.le_refl _)) en
    refine ⟨a, n, dd, He.ga X.K n, tp, [.ty A, .ty B], [.type A, .type B], _, rfl, ea, hcl n, hd, ho.c n hn, upd_same, .cons (.ty A) (.cons (.ty B) .nil), ?_, q1 _ _ _ o2 S2 (.bl _)⟩
    refine kitAny_cons (ho.blt n A hn hA) (fun z => ?_) (fun z => by rw [z]; rfl)
    rw [z, Bool.false_or]
    exact kitAny_cons (r := t.is n (PySem.Str.ofString B)) (ho.blt n B hn hB) (fun z2 => by rw [z2]; rfl) (fun z2 => z2)
  · exact q1.elim
end
end Gm

/-! Gm21: defs that are called while an exception is handled. -/
namespace Gm
open PySem PySem.Spec PyProof.Rows L2
/-- what such a def promises: Z, what is known of the handled exception's object -/
structure FnX (P : Program) (w : World) (K : PySem.W.Frag) (mg : Str → Option Value) (base : Heap) (k : Nat) (f : Addr) (fd : FuncData) (ps : List Str) (Z : Addr × Obj → Prop) (sp : Sp) : Prop where
  len : ∀ vs H Q E, sp vs H Q E → vs.length = ps.length
  run : ∀ (A : Around) (outer : List Env) (s : Shared) (H : Hp) (args : Args) (us : List Value) (vs : List V) (Q : VK) (E : XK) (p : Addr × Obj), L2H.RoomH k A → Z p → L2H.Hot1 A p → L2H.PinOk outer H s p → Env0 P w K mg base A outer s H → BindsTo s fd args (ps.zip us) → Vals vs us → sp vs H Q E →
    codeAny (model P w) A (.call (.ref f) args) (CR (L2N.CX P w) outer P w H s Q E) s
theorem fnX_of {P : Program} {w : World} {K : PySem.W.Frag} {mg : Str → Option Value} {base : Heap} {k : Nat} {f : Addr} {name qual : Str} {params : Arguments} {body : List Stmt} {scope : Scope} {dV kV doc pm cdv ct oc : Value} {an od : Option Addr}
    {osl : Array (Option Value)} {N ps : List Str} {Z : Addr × Obj → Prop} {sp : Sp} (lk : K.lookup f = some ⟨oc, od, .func (PySem.W.fnOf name qual params body scope dV kV doc pm an cdv ct), osl⟩) (hcd : PySem.W.codeIn K cdv qual = true) (S : FnScope N ps scope)
    (len : ∀ vs H Q E, sp vs H Q E → vs.length = ps.length)
    (hbody : ∀ (A : Around) (outer : List Env) (s : Shared) (H : Hp) (vs : List V) (Q : VK) (E : XK) (p : Addr × Obj), Z p → L2H.Hot1 A p → L2H.RoomH k (A.deeper (envOfC qual scope s.heap.objs.size f cdv)) → sp vs H Q E →
      ∃ t, PSs (L2H.cxH (L2N.CX P w) P w K mg base N qual scope f cdv A outer s H E p) body t ∧ t { nx := fun _ H' => Q .non H', rt := Q } (L2.start N vs) H) :
    FnX P w K mg base (k + 1) f (PySem.W.fnOf name qual params body scope dV kV doc pm an cdv ct) ps Z sp := by
  refine ⟨len, fun A outer s H args us vs Q E p hr hz hot hpin e0 hb r hsp => ?_⟩
  have hl := len _ _ _ _ hsp
  have KX : K.In s.heap := e0.mod.kin.keeps fun b o e => (e0.bs b o e).1
  have lim : s.heap.NoLimit := e0.mod.nolimit.keeps fun b o e => (e0.bs b o e).1
  have hkind : ∀ y ∈ ps.zip us, scope.names.lookup y.1 = some .local ∨ (scope.names.lookup y.1 = some .cell ∧ ((cellsFrom (s.heap.objs.size + 1) scope.names []).lookup y.1).isSome = true) := fun ⟨n, v⟩ hy => by
    rcases S.par n (List.of_mem_zip hy).1 with q | q
    · exact .inl q
    · exact .inr ⟨q, PySem.W.cellsFrom_some _ _ _ (.inl q)⟩
  refine codeAny_call_function hr.depth (KX _ _ lk) rfl S.co S.gen rfl (PySem.W.codeRec_of KX hcd) (hb _ _ _ _ ?_)
  refine wpAny_newFunctionEnv_cells S.kind hkind fun env he s1 x => ?_
  subst he
  refine ⟨lim.keeps x.toInCall.keep, codeAny_func ?_⟩
  obtain ⟨t, ht, hq⟩ := hbody A outer s H vs Q E p hz hot (hr.deeper _) hsp
  have I : Inv (L2H.cxH (L2N.CX P w) P w K mg base N qual scope f cdv A outer s H E p) [] (L2.start N vs) H s1 := L2H.inv_startH S hpin e0 hl r x
  refine wpAny_mono (ht.run [] s1 (L2.start N vs) H _ I hq) (fun fl s' hs => ?_) fun e s' hs => hs
  have fin : ∀ {σ' : L2.St} {H' : Hp} {v : V} {u : Value}, Inv (L2H.cxH (L2N.CX P w) P w K mg base N qual scope f cdv A outer s H E p) [] σ' H' s' → L2.RelV v u → Q v H' → CE outer P w H s Q u s' :=
    fun {σ' H' v u} J rv q => ⟨v, H', J.os, J.bare, J.base, J.hok, rv, q⟩
  cases fl with
  | ret u =>
    obtain ⟨v, σ', H', J, rv, q⟩ := hs
    exact fin J rv q
  | next =>
    obtain ⟨σ', H', J, q⟩ := hs
    exact fin (v := V.non) (u := Value.none) J rfl q
  | brk =>
    obtain ⟨_, _, _, q⟩ := hs
    exact False.elim q
  | cont =>
    obtain ⟨_, _, _, q⟩ := hs
    exact False.elim q
/-- a promise without exceptions -/
def spOf0 (c : Cf) (F : FnT) : Sp := fun vs H Q _ => spOf c F vs H Q fun _ _ _ => False
/-- the promise of such a def by its function: nothing is raised -/
theorem fnX_ok {P : Program} {w : World} {K : PySem.W.Frag} {mg : Str → Option Value} {base : Heap} {c : Cf} {x qual : Str} {params : Arguments} {body : List Stmt} {scope : Scope} {dvs : List V} {kws : List (Str × V)} {f : Addr} {fd : FuncData} {N ps : List Str} {k : Nat} {fb : Ss}
    (F : FunD K x qual params body scope dvs kws f fd) (S : FnScope N ps scope)
    (hbody : ∀ (cdv : Value) (A : Around) (outer : List Env) (s : Shared) (H : Hp) (E : XK) (p : Addr × Obj), HotE c (L2H.cxH (L2N.CX P w) P w K mg base N qual scope f cdv A outer s H E p) → L2H.RoomH k (A.deeper (envOfC qual scope s.heap.objs.size f cdv)) →
      PSs (L2H.cxH (L2N.CX P w) P w K mg base N qual scope f cdv A outer s H E p) body (tSt c W0 fb)) : FnX P w K mg base (k + 1) f fd ps (PinE c) (spOf0 c (fnOf N.length ps.length fb)) := by
  obtain ⟨oc, od, dV, kV, doc, pm, an, cdv, ct, osl, rfl, lk, hcd, _, _⟩ := F.ex
  refine fnX_of lk hcd S (fun vs H Q E ⟨ds, h, g, S, r, q⟩ => ?_) fun A outer s H vs Q E p hz hot hr ⟨ds, h, g, S, r, q⟩ => ⟨_, hbody cdv A outer s H E p ⟨p, List.mem_cons_self, hz, hot.1⟩ hr, ?_⟩
  · unfold fnOf at q
    by_cases hl : ds.length = ps.length
    · rw [← hl, r.length]
    · rw [if_neg hl] at q
      exact q.elim
  · unfold fnOf at q
    by_cases hl : ds.length = ps.length
    · rw [if_pos hl] at q
      have q := RP.clean q
      refine ⟨startD N.length ds, h, g, S, SL.start r, ?_⟩
      cases e : fb (startD N.length ds) h with
      | next st' h' => rw [e] at q; exact fun g' H' σ o S' _ => q g' H' .non o S' .non
      | ret d h' => rw [e] at q; exact q
      | brk st' h' => rw [e] at q; exact q.elim
      | cont st' h' => rw [e] at q; exact q.elim
      | exc ee st' h' => rw [e] at q; exact fun g' H' σ cls dd o S' _ rx => q g' H' cls dd o S' rx
      | no => rw [e] at q; exact q.elim
    · rw [if_neg hl] at q
      exact q.elim
/-- a def by the way it is called there -/
def CallOkX (P : Program) (w : World) (K : PySem.W.Frag) (mg : Str → Option Value) (base : Heap) (c : Cf) (x : Str) (k : Nat) (F : FnT) : Prop :=
  ∃ (f : Addr) (fd : FuncData) (ps : List Str), mg x = some (.ref f) ∧ FnX P w K mg base k f fd ps (PinE c) (spOf0 c F) ∧ PySem.W.keepIn K (.ref f) = true ∧ L2.Binds K fd ps []
section
variable {c : Cf} {W : WX} {X : Cx} {k : Nat} {f : Addr} {fd : FuncData} {ps : List Str} {sp : Sp} {x : Str} {q pos : Pos} {e : Expr} {es : List Expr} {t : TA}
theorem run_fnX {pins : List (Addr × Obj)} {σ : L2.St} {H : Hp} {s : Shared} {Q : VK} {us : List Value} {vs : List V} {F : FnT} (G : FnX X.prog X.w X.K X.mg X.base k f fd ps (PinE c) (spOf0 c F)) (hr : L2H.RoomH k X.A) (ht : HotE c X) (hb : L2.Binds X.K fd ps [])
    (I : Inv X pins σ H s) (r : Vals vs us) (h : spOf c F vs H Q fun _ _ _ => False) : wpAny (model X.prog X.w) X.A (call (.ref f) us) (EP X pins σ Q) X.xe s := by
  obtain ⟨p, hp, hz, hh⟩ := ht
  have h : spOf0 c F vs H Q (fun _ _ _ => False) := h
  have hl : us.length = ps.length := by rw [← r.length]; exact G.len _ _ _ _ h
  have b := hb s us I.kIn (by rw [List.append_nil]; exact hl)
  rw [List.append_nil] at b
  have P1 := I.pin p (List.mem_append_left _ hp)
  have hpin : L2H.PinOk X.stack H s p := ⟨P1.1, P1.2.1, fun hm => (List.mem_cons.mp (I.stkSub p.1 hm)).elim P1.2.2.1 P1.2.2.2.1, P1.2.2.2.2⟩
  refine wpAny_call (codeAny_mono (G.run X.A X.stack s H ⟨us, []⟩ us vs Q (fun _ _ _ => False) p hr hz (hz.hot1 hh) hpin I.env0 b r h) fun r s' hq => ?_)
  cases r with
  | error e =>
    obtain ⟨_, _, _, _, _, _, _, _, _, _, _, _, z⟩ := (show L2N.CX X.prog X.w X.stack H s (fun _ _ _ => False) e s' from hq)
    exact z.elim
  | ok fl =>
    cases fl with
    | ret u => exact I.after hq
    | next => exact False.elim hq
    | brk => exact False.elim hq
    | cont => exact False.elim hq
def cCallX (F : FnT) (fs : Ev (List D)) : Ev D := fun st h => (fs st h).bind fun ds h1 => match F ds h1 with
  | .ok d h2 => .ok d h2
  | _ => .no
theorem e_callX {j : Nat} {F : FnT} {fs : Ev (List D)} {p : Pos} (G : CallOkX X.prog X.w X.K X.mg X.base c x k F) (hr : L2H.RoomH j X.A) (hj : k ≤ j) (ht : HotE c X) (hg : Gl X x) (ha : PA X (e :: es) (tAr c W fs))
    (hdb : (x == ("__debug__" : Str)) = false := by decide) (he : starEach (e :: es) X.env = (false, eval e X.env) :: starEach es X.env := by rfl) (hpl : (backTo pos (starEach es X.env)).any (·.1) = false := by rfl) :
    PE X (.Call (.Name x p) (e :: es) [] pos) (tEv c W (cCallX F fs)) := by
  obtain ⟨f, fd, ps, hm, G, hk, hb⟩ := G
  refine ⟨fun pins s σ H Q I ⟨st, h, g, S, sl, q⟩ => ?_⟩
  refine wpAny_Call_Name_kw (ld_glob I hg hm ?_ hdb)
  refine PySem.W.callWith_K (h₀ := X.base) I.ok.mod.kin hk (thn (ha.run pos pins s σ H _ I ⟨st, h, g, S, sl, RP.bind q⟩) fun us s1 ⟨vs, H1, I1, r, d, h1, g1, o1, S1, r1, q1⟩ => ⟨I1.kIn, ?_⟩) he hpl
  refine run_fnX G (hr.mono hj) ht hb I1 r ⟨d, h1, g1, S1, r1, ?_⟩
  cases e2 : F d h1 with
  | ok d2 h2 => rw [e2] at q1; exact q1
  | exc ee h2 => rw [e2] at q1; exact q1.elim
  | no => rw [e2] at q1; exact q1.elim
end
theorem callOkX_of {P : Program} {w : World} {K : PySem.W.Frag} {mg : Str → Option Value} {base : Heap} {c : Cf} {x qual : Str} {params : Arguments} {body : List Stmt} {scope : Scope} {kws : List (Str × V)} {f : Addr} {fd : FuncData} {ps : List Str} {k : Nat} {F : FnT} (FD : FunD K x qual params body scope [] kws f fd) (hm : mg x = some (.ref f)) (ok : FnX P w K mg base k f fd ps (PinE c) (spOf0 c F))
    (hb : ∀ (kV doc pm : Value) (an : Option Addr) (cdv ct : Value) (us : List Value), us.length = ps.length → bindArgs (PySem.W.fnOf x qual params body scope .none kV doc pm an cdv ct) ⟨us, []⟩ = pure (ps.zip us)) : CallOkX P w K mg base c x k F :=
  ⟨f, fd, ps, hm, ok, FD.kp, FD.bindsN hb⟩
/-! ### an expression over another Cf, from an empty store -/
mutual
def D.nx : D → Bool
  | .tup l => D.nxs l
  | .lst l => D.nxs l
  | .fro l => D.nxs l
  | .dct l => D.nxk l
  | .obj _ fs => D.nxf fs
  | .exn _ _ => false
  | _ => true
def D.nxs : List D → Bool
  | [] => true
  | d :: r => d.nx && D.nxs r
def D.nxk : List (Key × D) → Bool
  | [] => true
  | (_, d) :: r => d.nx && D.nxk r
def D.nxf : List (Str × D) → Bool
  | [] => true
  | (_, d) :: r => d.nx && D.nxf r
end
abbrev Cf.exc (c : Cf) (x : Option (Addr × Str × Option Addr)) : Cf := { c with ex := x }
section
variable {c : Cf} {g : Gh} {L : Nat} {x y : Option (Addr × Str × Option Addr)}
mutual
theorem RV.exs (e : c.ex = none) : ∀ {d : D} {v : V}, RV c g L d v → RV (c.exc x) g L d v
  | _, _, .non => .non
  | _, _, .bl b => .bl b
  | _, _, .int i => .int i
  | _, _, .str s => .str s
  | _, _, .tup h r => .tup h (RVs.exs e r)
  | _, _, .lst h r => .lst h (RVs.exs e r)
  | _, _, .fro h r => .fro h (RVs.exs e r)
  | _, _, .dct h r => .dct h (RKs.exs e r)
  | _, _, .obj h hc r => .obj h hc (RFs.exs e r)
  | _, _, .ref h => .ref h
  | _, _, .ty n => .ty n
  | _, _, .cls h => .cls h
  | _, _, .exn0 h => by rw [e] at h; cases h
  | _, _, .exn1 h _ _ => by rw [e] at h; cases h
theorem RVs.exs (e : c.ex = none) : ∀ {d : List D} {v : List V}, RVs c g L d v → RVs (c.exc x) g L d v
  | _, _, .nil => .nil
  | _, _, .cons h r => .cons (RV.exs e h) (RVs.exs e r)
theorem RKs.exs (e : c.ex = none) : ∀ {d : List (Key × D)} {v : List (Key × V)}, RKs c g L d v → RKs (c.exc x) g L d v
  | _, _, .nil => .nil
  | _, _, .cons h r => .cons (RV.exs e h) (RKs.exs e r)
theorem RFs.exs (e : c.ex = none) : ∀ {d : List (Str × D)} {v : List (Str × V)}, RFs c g L d v → RFs (c.exc x) g L d v
  | _, _, .nil => .nil
  | _, _, .cons h r => .cons (RV.exs e h) (RFs.exs e r)
end
mutual
theorem RV.unex : ∀ {d : D} {v : V}, RV (c.exc x) g L d v → d.nx = true → RV c g L d v
  | _, _, .non, _ => .non
  | _, _, .bl b, _ => .bl b
  | _, _, .int i, _ => .int i
  | _, _, .str s, _ => .str s
  | _, _, .tup h r, b => .tup h (RVs.unex r (by simpa only [D.nx] using b))
  | _, _, .lst h r, b => .lst h (RVs.unex r (by simpa only [D.nx] using b))
  | _, _, .fro h r, b => .fro h (RVs.unex r (by simpa only [D.nx] using b))
  | _, _, .dct h r, b => .dct h (RKs.unex r (by simpa only [D.nx] using b))
  | _, _, .obj h hc r, b => .obj h hc (RFs.unex r (by simpa only [D.nx] using b))
  | _, _, .ref h, _ => .ref h
  | _, _, .ty n, _ => .ty n
  | _, _, .cls h, _ => .cls h
  | _, _, .exn0 h, b => by simp [D.nx] at b
  | _, _, .exn1 h _ _, b => by simp [D.nx] at b
theorem RVs.unex : ∀ {d : List D} {v : List V}, RVs (c.exc x) g L d v → D.nxs d = true → RVs c g L d v
  | _, _, .nil, _ => .nil
  | _, _, .cons h r, b => by
    simp only [D.nxs, Bool.and_eq_true] at b
    exact .cons (RV.unex h b.1) (RVs.unex r b.2)
theorem RKs.unex : ∀ {d : List (Key × D)} {v : List (Key × V)}, RKs (c.exc x) g L d v → D.nxk d = true → RKs c g L d v
  | _, _, .nil, _ => .nil
  | _, _, .cons h r, b => by
    simp only [D.nxk, Bool.and_eq_true] at b
    exact .cons (RV.unex h b.1) (RKs.unex r b.2)
theorem RFs.unex : ∀ {d : List (Str × D)} {v : List (Str × V)}, RFs (c.exc x) g L d v → D.nxf d = true → RFs c g L d v
  | _, _, .nil, _ => .nil
  | _, _, .cons h r, b => by
    simp only [D.nxf, Bool.and_eq_true] at b
    exact .cons (RV.unex h b.1) (RFs.unex r b.2)
end
end
/-- the inner run's store is empty again -/
theorem SR.inner {c : Cf} {g : Gh} {h : Store} {H : Hp} (S : SR c g h H) (x : Option (Addr × Str × Option Addr)) : SR (c.exc x) { io := fun _ => 0, tr := g.tr } [] H :=
  ⟨S.sub, fun n l => by obtain ⟨_, z⟩ := l; simp at z, fun n ce e => by simp at e, fun n m l _ _ => by obtain ⟨_, z⟩ := l; simp at z, S.tabs, S.nt⟩
theorem SR.outer {c : Cf} {g g' : Gh} {h h' : Store} {H H' : Hp} {x : Option (Addr × Str × Option Addr)} (S : SR c g h H) (o : Go { io := fun _ => 0, tr := g.tr } [] H g' h' H') (S' : SR (c.exc x) g' h' H') :
    SR c { io := g.io, tr := g'.tr } h H' ∧ Go g h H { io := g.io, tr := g'.tr } h H' := by
  have nl : ∀ a : Addr, ∀ n, Live [] n → (fun _ => 0 : Nat → Addr) n ≠ a := fun a n l => by obtain ⟨_, z⟩ := l; simp at z
  have mu0 : ∀ n, Live h n → ∃ u, H (g.io n) = some u ∧ ∀ ps, u ≠ .tbl ps := fun n ⟨ce, e⟩ => by
    obtain ⟨u, hu, mu⟩ := (S.cell n ce e).some
    exact ⟨u, hu, fun ps z => by subst z; exact mu⟩
  have gx : Gx g h.length { io := g.io, tr := g'.tr } := ⟨fun _ _ => rfl, o.tr⟩
  have fr : ∀ a u, H a = some u → (∀ ps, u ≠ .tbl ps) → H' a = some u := fun a u e nt => o.fr a u e nt (nl a)
  refine ⟨⟨S'.sub, fun n l => ?_, fun n ce e => ?_, S.inj, S'.tabs, S'.nt⟩, ⟨Nat.le_refl _, fun _ _ => rfl, o.tr, o.dm, fun a u e nt _ => fr a u e nt, fun a u e nt tn _ => o.tn a u e nt tn (nl a), fun _ _ l => l, fun n hn l => absurd l.lt (Nat.not_lt.mpr hn)⟩⟩
  · obtain ⟨u, hu, nt⟩ := mu0 n l
    exact o.tn _ u hu nt (S.apart n l) (nl _)
  · obtain ⟨u, hu, nt⟩ := mu0 n ⟨ce, e⟩
    exact (S.cell n ce e).mono gx (Nat.le_refl _) ((fr _ u hu nt).trans hu.symm)
theorem RV.gh {c : Cf} {g g' : Gh} (h : g'.tr = g.tr) {L : Nat} {d : D} {v : V} (r : RV c g 0 d v) : RV c g' L d v := r.mono ⟨fun n hn => absurd hn (Nat.not_lt_zero n), fun a o e => by rw [h]; exact e⟩ (Nat.zero_le _)
theorem RFs.gh {c : Cf} {g g' : Gh} (h : g'.tr = g.tr) {L : Nat} {d : List (Str × D)} {v : List (Str × V)} (r : RFs c g 0 d v) : RFs c g' L d v := r.mono ⟨fun n hn => absurd hn (Nat.not_lt_zero n), fun a o e => by rw [h]; exact e⟩ (Nat.zero_le _)
/-- the exception as a value -/
def exnD (e : Exn) : D := .exn e.cls e.pay.toList
/-- a suite's slots: n names, the exception in the slot i -/
def hotS (n : Nat) (i : Option Nat) (e : Exn) : Slots := match i with
  | some i => (List.replicate n none).set i (some (exnD e))
  | none => List.replicate n none
/-- an expression of an except suite -/
def slotIn (n : Nat) : Option Nat → Bool
  | some i => decide (i < n)
  | none => true
def hotV (n : Nat) (i : Option Nat) (fx : Ev D) (e : Exn) : Option D := if D.lwf 0 e.pay.toList = true ∧ slotIn n i = true then match fx (hotS n i e) [] with
  | .ok d _ => if d.nx = true ∧ d.lw 0 = true then some d else none
  | _ => none
  else none
theorem SL.blank {c : Cf} {g : Gh} {L : Nat} {σ : L2.St} : SL c g L (List.replicate σ.length none) σ := ⟨List.length_replicate, fun j d' e' => by
  rw [List.getElem?_replicate] at e'
  split at e' <;> cases e'⟩
/-- the suite's reading of an expression, from the outer state -/
theorem hot_ok {c : Cf} {W : WX} {g : Gh} {h : Store} {H : Hp} {σ : L2.St} {i : Option Nat} {fx : Ev D} {e : Exn} {d : D} {a : Addr} {cls : Value} {dd : Option Addr} {Q : VK} (hc : c.ex = none) (S : SR c g h H) (hσ : ∀ j, i = some j → σ[j]? = some (some (.ref a)))
    (rx : RX c g h.length e cls dd) (ev : hotV σ.length i fx e = some d) (q : ∀ g' H' v, Go g h H g' h H' → SR c g' h H' → RV c g' h.length d v → Q v H') :
    tEv (c.exc (some (a, e.cls, dd))) W fx σ H Q := by
  unfold hotV at ev
  split at ev
  · rename_i hl
    obtain ⟨hl, _⟩ := hl
    refine ⟨hotS σ.length i e, [], { io := fun _ => 0, tr := g.tr }, S.inner _, ?_, ?_⟩
    · cases i with
      | none => exact SL.blank
      | some i =>
        have hσ := hσ i rfl
        refine ⟨by unfold hotS; simp, fun j d' e' => ?_⟩
        unfold hotS at e'
        dsimp only at e'
        by_cases z : i = j
        · subst z
          rw [List.getElem?_set_self (by rw [List.length_replicate]; exact (List.getElem?_eq_some_iff.mp hσ).1)] at e'
          have e' : exnD e = d' := by simpa using e'
          subst e'
          refine ⟨_, hσ, ?_⟩
          obtain ⟨C, e1, e2, e3⟩ := rx
          cases hp : e.pay with
          | none =>
            rw [hp] at e3
            subst e3
            unfold exnD
            rw [hp]
            exact .exn0 rfl
          | some p =>
            rw [hp] at e3
            obtain ⟨fn, d0⟩ := p
            obtain ⟨b, v, q1, q2, q3⟩ := e3
            subst q1
            unfold exnD
            rw [hp]
            have hl2 : d0.lw 0 = true := by
              rw [hp] at hl
              simpa [D.lwf] using hl
            refine .exn1 rfl (show g.tr b = some _ from q2) (.cons ?_ .nil)
            exact RV.exs hc (RV.gh (g := g) (g' := { io := fun _ => 0, tr := g.tr }) rfl (q3.low hl2))
        · rw [List.getElem?_set_ne z, List.getElem?_replicate] at e'
          split at e' <;> cases e'
    · split at ev
      · rename_i d1 h1 e1
        split at ev
        · rename_i hd
          cases ev
          show RP _ _ _ _ _ (fx (hotS σ.length i e) []) _ _
          rw [e1]
          intro g' H' v o S' r
          obtain ⟨S2, o2⟩ := S.outer o S'
          exact q _ _ _ o2 S2 (RV.gh (g := g') (g' := { io := g.io, tr := g'.tr }) rfl ((RV.unex r hd.1).low hd.2))
        · cases ev
      · cases ev
  · cases ev
theorem hotV_in {n i : Nat} {fx : Ev D} {e : Exn} {d : D} (ev : hotV n (some i) fx e = some d) : i < n := by
  unfold hotV at ev
  split at ev
  · rename_i hl
    exact of_decide_eq_true hl.2
  · cases ev
end Gm

/-! Gm22: try with one except clause: a class or a pair of classes, with a name or without. -/
namespace Gm
open PySem PySem.Spec PyProof.Rows L2
/-- the clause's test: what it answers of a class; the heap may grow meanwhile -/
def HTest (X : Cx) (te : Expr) (mt : Value → Bool → Prop) : Prop :=
  ∀ (a : Addr) (pn : List (Addr × Obj)) (σ : L2.St) (H : Hp) (s : Shared) (b : Bool) (oe : Obj) (Q : Bool → Shared → Prop) (E : Value → Shared → Prop), Inv (X.suite a pn) [] σ H s → s.heap.get? a = some oe → mt oe.cls b →
    (∀ h' : Heap, (∀ b o, s.heap.get? b = some o → h'.get? b = some o) → Q b { s with heap := h' }) →
    wpAny (model X.prog X.w) (X.A.mark (some (.ref a))) (eval te X.env) (fun c s1 => wpAny (model X.prog X.w) (X.A.mark (some (.ref a))) (excMatches (.ref a) c) Q E s1) E s
section
variable {X : Cx}
theorem ht_name {x : Str} {c : Value} {np : Pos} (hc : Names X x c) : HTest X (.Name x np) (fun cls b => PySem.W.exmOne X.K cls c = some b) := by
  intro a pn σ H s b oe Q E I he hm q
  have LT : PySem.W.Looks (model X.prog X.w) s.heap (typeOf (.ref a)) oe.cls := fun A Q E s k q => wpAny_typeOf_ref (k _ _ he) q
  have LM := PySem.W.exm_one (M := model X.prog X.w) I.kIn LT hm
  have here : wpAny (model X.prog X.w) (X.A.mark (some (.ref a))) (excMatches (.ref a) c) Q E s := LM.here (q s.heap fun _ _ z => z)
  obtain ⟨hg, hd, hm | ⟨hm, hv, hn⟩⟩ := hc
  · exact ld_glob (X := X.suite a pn) I hg hm here hd
  · exact ld_blt (X := X.suite a pn) I hg hm hv here hn hd
theorem ht_pair {x y : Str} {c d : Value} {kk : Nat} {p1 p2 tpos : Pos} (hc : Names X x c) (hd : Names X y d)
    (s1 : starEach [.Name x p1, .Name y p2] X.env = (false, eval (.Name x p1) X.env) :: starEach [.Name y p2] X.env := by rfl) (s2 : starEach [.Name y p2] X.env = (false, eval (.Name y p2) X.env) :: starEach [] X.env := by rfl) :
    HTest X (.Tuple [.Name x p1, .Name y p2] kk tpos) (fun cls b => PySem.W.exmAny X.K cls [c, d] = some b) := by
  intro a pn σ H s b oe Q E I he hm q
  have LT : PySem.W.Looks (model X.prog X.w) s.heap (typeOf (.ref a)) oe.cls := fun A Q E s k q => wpAny_typeOf_ref (k _ _ he) q
  have ld : ∀ {z : Str} {u : Value} {pz : Pos} {Q : Value → Shared → Prop}, Names X z u → Q u s → wpAny (model X.prog X.w) (X.A.mark (some (.ref a))) (eval (.Name z pz) X.env) Q E s := fun {z u pz Q} n k => by
    obtain ⟨g, hdb, m | ⟨m, v, nn⟩⟩ := n
    · exact ld_glob (X := X.suite a pn) I g m k hdb
    · exact ld_blt (X := X.suite a pn) I g m v k nn hdb
  refine wpAny_Tuple (wpAny_items_cons (ld hc ?_) s1)
  refine wpAny_items_cons (ld hd ?_) s2
  refine wpAny_items_nil ⟨by size_fits, ?_⟩
  have kp : ∀ b o, s.heap.get? b = some o → (s.heap.push { cls := .type "tuple", data := .seq [c, d].toArray }).get? b = some o := fun _ _ z => Heap.get?_push_of_some _ z
  exact (PySem.W.exm_tup2 (I.kIn.keeps kp) (LT.keeps kp) (Heap.get?_push_size s.heap rfl) hm).here (q _ kp)
end
theorem fly_keeps {base h h' : Heap} {l : List Env} {e : Addr} {Z : Obj → Prop} (f : HandSPX.FlyingZ base l e Z h) (k : ∀ b o, h.get? b = some o → h'.get? b = some o) : HandSPX.FlyingZ base l e Z h' := by
  obtain ⟨f1, f2, f3, oe, vs, T, oT, ts, a1, a2, a3, a4, a5, a6, a7, a8, a9⟩ := f
  exact ⟨fun b o e => k _ _ (f1 b o e), f2, Heap.FunFrames.of_keeps (fun b o e _ => ⟨o, k _ _ e, rfl⟩) f3, oe, vs, T, oT, ts, k _ _ a1, a2, a3, a4, a5, a6, k _ _ a7, a8, a9⟩
/-- the wish of a try's body: the suite's reading, or the exception goes on; i: the slot of the clause's name -/
def wTry (mt : Value → Bool → Prop) (i : Option Nat) (ts : Addr → Value → Option Addr → TS) (Wout : WX) (D : Ends) : WX := fun cls d σ H =>
  ∃ b, mt cls b ∧ (b = true → ∀ a, H a = none → match i with
    | some i => ts a cls d { nx := fun σ' H' => D.nx (σ'.set i none) H', rt := D.rt, bk := fun σ' H' => D.bk (σ'.set i none) H', ct := fun σ' H' => D.ct (σ'.set i none) H' } (σ.set i (some (.ref a))) H
    | none => ts a cls d D σ H) ∧ (b = false → Wout cls d σ H)
/-- the clause's name and its slot -/
def NameAt (X : Cx) : Option Str → Option Nat → Prop
  | some n, some i => X.N.Nodup ∧ X.N[i]? = some n ∧ X.env.kindOf n = some .local
  | none, none => True
  | _, _ => False
section
variable {X : Cx} {te : Expr} {mt : Value → Bool → Prop} {on : Option Str} {oi : Option Nat} {body suite : List Stmt} {b₀ : Stmt} {pos pos' : Pos} {tb : WX → TS} {ts : Addr → Value → Option Addr → TS} {Wout : WX}
theorem ps_tryT (hs : X.stack = X.env :: X.outer) (hf : X.env.frame = some X.env.locals) (hn : NameAt X on oi) (ht : HTest X te mt) (tk : L2N.Takes X Wout)
    (hb : ∀ (W : WX) (pn : List (Addr × Obj)) (xe : Value → Shared → Prop), L2N.Takes (X.tr pn xe) W → PassesOwn (model X.prog X.w) X.A X.env xe → PSs (X.tr pn xe) body (tb W))
    (hsu : ∀ (a : Addr) (oe : Obj) (cls : Value) (d : Option Addr) (pn : List (Addr × Obj)), L2N.Zn cls d oe → (∃ vs, oe.data = .fields vs) → PSs (X.suite a ((a, oe) :: pn)) (b₀ :: suite) (ts a cls d)) :
    PS X (.Try body [.ExceptHandler (some te) on (b₀ :: suite) pos'] [] [] pos) (fun D σ H => tb (wTry mt oi ts Wout D) D σ H) := by
  refine ⟨fun pins s σ H D I h => wpAny_Try_except ?_⟩
  have ok := I.ok
  have hfr : X.A.frames = some (X.env :: X.outer) := ok.frames.trans (congrArg some hs)
  refine wpAny_mono ((hb (wTry mt oi ts Wout D) (X.pn ++ pins) (fun e t1 => wpAny (model X.prog X.w) X.A (noteFrame e X.env) (fun _ t2 => wpAny (model X.prog X.w) X.A (setFlight e none) (fun _ t3 =>
    wpAny (model X.prog X.w) X.A (handleBy e X.env [.ExceptHandler (some te) on (b₀ :: suite) pos']) (SP X pins D) X.xe t3) X.xe t2) X.xe t1) (fun u s' xx => ?_) PassesOwn.looking).run [] s σ H D (I.toTry _) h) (fun f s1 hsp => ?_) (fun e s1 he => he)
  case refine_2 =>
    cases f with
    | next => exact let ⟨σ', H', J', q⟩ := hsp; wpAny_execs_nil ⟨σ', H', J'.ofTry ok, q⟩
    | brk => exact let ⟨σ', H', J', q⟩ := hsp; ⟨σ', H', J'.ofTry ok, q⟩
    | cont => exact let ⟨σ', H', J', q⟩ := hsp; ⟨σ', H', J'.ofTry ok, q⟩
    | ret u => exact let ⟨v, σ', H', J', r, q⟩ := hsp; ⟨v, σ', H', J'.ofTry ok, r, q⟩
  obtain ⟨a, B, sI, pins', σ', H', cls, d, rfl, J', nb, up, sky, na, os, ag, b, hb1, hyes, hno⟩ := xx
  have J : Inv X pins σ' H' sI := J'.ofTry ok
  rw [show (X.tr (X.pn ++ pins) _).stack = X.env :: X.outer from hs] at sky
  refine L2N.Sky.land L2N.Zn.steady hfr hf sky fun hA flA upA => ?_
  -- the exception's object is no frame
  have away : ∀ {h : Heap} {o : Obj} {vs : Array Value}, h.FunFrames B (X.env :: X.outer) → h.get? a = some o → o.data = .fields vs → a ≠ X.env.locals ∧ a ∉ X.fs := fun {h o vs} ff e dd => by
    have nf : a ∉ frs (X.env :: X.outer) := fun hm => by
      obtain ⟨_, o', e', hnf⟩ := ff.mem hm
      rw [e] at e'
      cases e'
      exact hnf _ dd
    refine ⟨fun z => nf (List.mem_filterMap.mpr ⟨X.env, List.mem_cons_self, by rw [hf, z]⟩), fun hm => ?_⟩
    obtain ⟨e, he, q⟩ := List.mem_filterMap.mp hm
    exact nf (List.mem_filterMap.mpr ⟨e, List.mem_cons_of_mem _ he, q⟩)
  -- a state in which the exception flies on is a state of the suite
  have suiteAt : ∀ {h : Heap}, HandSPX.FlyingZ B (X.env :: X.outer) a (L2N.Zn cls d) h → sI.heap.UpToSlots h → ∃ oe, h.get? a = some oe ∧ L2N.Zn cls d oe ∧ (∃ vs, oe.data = .fields vs) ∧ Inv (X.suite a ((a, oe) :: (X.pn ++ pins))) [] σ' H' { s' with heap := h } := fun {h} fl u => by
    obtain ⟨oe, vs, he, hz, hd⟩ := fl.there
    have nn := away fl.2.2.1 he hd
    exact ⟨oe, he, hz, ⟨vs, hd⟩, (J.landed (s' := { s' with heap := h }) nb fl.1 u os ag).suite he hd na nn.1 nn.2⟩
  obtain ⟨oA, eA, zA, _, SA⟩ := suiteAt flA (up.trans upA)
  refine wpAny_handleBy_cons (codeAny_handlers_test (ht a _ _ _ _ b oA _ _ SA eA (by rw [zA.1]; exact hb1) fun hB kB => ?_)) (by intro q; cases q)
  have flB := fly_keeps flA kB
  have upB : sI.heap.UpToSlots hB := (up.trans upA).trans (Heap.UpToSlots.of_keeps kB)
  cases b with
  | false =>
    show wpAny _ X.A (handleBy (.ref a) X.env []) _ _ _
    refine wpAny_handleBy_nil ?_
    obtain ⟨_, _, _, oe, vs, T, oT, ts', he, _, hd, h1, _⟩ := id flB
    have fin : wpAny (model X.prog X.w) X.A (setFlight (.ref a) X.env.frame) (fun _ t => wpAny (model X.prog X.w) X.A (throw (.ref a) : Sem Flow) (SP X pins D) X.xe t) X.xe { s' with heap := hB } := by
      rw [hf]
      exact HandSPX.setFlight_upZ flB fun hC hh upC => wpAny_throw (tk _ _ ⟨a, B, sI, pins, σ', H', cls, d, rfl, J, nb, upB.trans upC, .inr (.inr (by rw [hs]; exact hh)), na, os, ag, hno rfl⟩)
    unfold PySem.passOn
    refine wpAny_bind (wpAny_field he hd h1 ?_)
    rw [if_neg (show ¬ ((Value.ref T == Value.none) = true) from by simp)]
    first
      | exact wpAny_bind (wpAny_pure (wpAny_bind fin))
      | exact wpAny_bind fin
  | true =>
    cases on with
    | none =>
      cases oi with
      | some _ => exact hn.elim
      | none =>
        refine codeAny_handlers_suite (HandSPX.lands_againZ flB fun hC flC upC => ?_)
        obtain ⟨oC, eC, zC, fC, SC⟩ := suiteAt flC (upB.trans upC)
        refine wpAny_mono ((hsu a oC cls d _ zC fC).run [] _ _ H' _ SC (hyes rfl a na)) (fun f s6 hsp => ?_) (fun _ _ z => False.elim z)
        cases f with
        | next => exact let ⟨_, _, S6, q6⟩ := hsp; ⟨_, _, S6.unsuite ok, q6⟩
        | brk => exact let ⟨_, _, S6, q6⟩ := hsp; ⟨_, _, S6.unsuite ok, q6⟩
        | cont => exact let ⟨_, _, S6, q6⟩ := hsp; ⟨_, _, S6.unsuite ok, q6⟩
        | ret u => exact let ⟨_, _, _, S6, r6, q6⟩ := hsp; ⟨_, _, _, S6.unsuite ok, r6, q6⟩
    | some n =>
      cases oi with
      | none => exact hn.elim
      | some i =>
        obtain ⟨hN, hi, hln⟩ := hn
        refine codeAny_handlers_suite_as (HandSPX.lands_againZ flB fun hC flC upC => ?_)
        obtain ⟨oC, eC, zC, fC, SC⟩ := suiteAt flC (upB.trans upC)
        refine store_ok (X := X.suite a ((a, oC) :: (X.pn ++ pins))) (v := .ref a) SC hN hi (.inl hln) rfl (fun s5 S5 => ?_) (.inr hln)
        refine wpAny_mono ((hsu a oC cls d _ zC fC).run [] s5 _ H' _ S5 (hyes rfl a na)) (fun f s6 hsp => ?_) (fun _ _ z => False.elim z)
        have end_ : ∀ {σ6 : L2.St} {H6 : Hp} {Q : Shared → Prop}, Inv (X.suite a ((a, oC) :: (X.pn ++ pins))) [] σ6 H6 s6 → (∀ s7, Inv X pins (σ6.set i none) H6 s7 → Q s7) →
            wpAny (model X.prog X.w) X.A (do bindName X.env n .none; unbindBehindTheSuite X.env n pos') (fun _ s7 => Q s7) X.xe s6 := fun {σ6 H6 Q} S6 hq => gone_ok (S6.unsuite ok) hN hi hln hq
        cases f with
        | next => exact let ⟨_, _, S6, q6⟩ := hsp; end_ S6 fun s7 J7 => ⟨_, _, J7, q6⟩
        | brk => exact let ⟨_, _, S6, q6⟩ := hsp; end_ S6 fun s7 J7 => ⟨_, _, J7, q6⟩
        | cont => exact let ⟨_, _, S6, q6⟩ := hsp; end_ S6 fun s7 J7 => ⟨_, _, J7, q6⟩
        | ret u => exact let ⟨_, _, _, S6, r6, q6⟩ := hsp; end_ S6 fun s7 J7 => ⟨_, _, _, J7, r6, q6⟩
end
end Gm
namespace Gm
open PySem PySem.Spec PyProof.Rows L2
/-! ### over the readings of data -/
/-- the clause's test by the classes' names -/
def MtOk (c : Cf) (t : ExcT) (mt : Value → Bool → Prop) (f : Str → Bool) : Prop := ∀ n C, n ∈ t.ns → c.cl n = some C → mt (.ref C) (f n)
/-- try: fb / except ..: x = fx; n in i: the clause's name; j: x -/
def sTry (t : ExcT) (f : Str → Bool) (i : Option Nat) (fb : Ss) (j : Nat) (fx : Ev D) : Ss := fun st h => match fb st h with
  | .exc e st' h' => if e.cls ∈ t.ns then
      if f e.cls = true then match hotV st'.length i fx e with
        | some d => .next (match i with
          | some i => ((st'.set i none).set j (some d)).set i none
          | none => st'.set j (some d)) h'
        | none => .no
      else .exc e st' h'
    else .no
  | o => o
theorem SL.drop {c : Cf} {g : Gh} {L : Nat} {st : Slots} {σ : L2.St} (s : SL c g L st σ) (i : Nat) (x : Option V) : SL c g L (st.set i none) (σ.set i x) := by
  refine ⟨by rw [List.length_set, List.length_set, s.1], fun j d' e => ?_⟩
  by_cases z : i = j
  · subst z
    have hi : i < st.length := by
      have := (List.getElem?_eq_some_iff.mp e).1
      simpa using this
    rw [List.getElem?_set_self hi] at e
    cases e
  · rw [List.getElem?_set_ne z] at e
    rw [List.getElem?_set_ne z]
    exact s.2 j d' e
theorem hotE_suite {c : Cf} {X : Cx} {a : Addr} {oe : Obj} {n : Str} {C : Addr} {dd : Option Addr} {pn : List (Addr × Obj)} (hC : c.cl n = some C) (hz : L2N.Zn (.ref C) dd oe) (hf : ∃ vs, oe.data = .fields vs) : HotE (c.exc (some (a, n, dd))) (X.suite a ((a, oe) :: pn)) :=
  ⟨(a, oe), List.mem_cons_self, ⟨⟨n, dd, C, rfl, hC, hz⟩, hf⟩, rfl⟩
section
variable {c : Cf} {t : ExcT} {f : Str → Bool} {X : Cx} {te : Expr} {mt : Value → Bool → Prop} {on : Option Str} {oi : Option Nat} {body : List Stmt} {ex : Expr} {x : Str} {j : Nat} {xp p2 pos pos' : Pos} {fb : Ss} {fx : Ev D} {Wout : WX}
theorem s_try (hcx : c.ex = none) (hs : X.stack = X.env :: X.outer) (hf : X.env.frame = some X.env.locals) (hn : NameAt X on oi) (ht : HTest X te mt) (hm : MtOk c t mt f) (tk : L2N.Takes X Wout)
    (hb : ∀ (W : WX) (pn : List (Addr × Obj)) (xe : Value → Shared → Prop), L2N.Takes (X.tr pn xe) W → PassesOwn (model X.prog X.w) X.A X.env xe → PSs (X.tr pn xe) body (tSt c W fb))
    (hN : X.N.Nodup) (hj : X.N[j]? = some x) (hx : Loc X.env.scope x) (hfn : X.fn x = true ∨ X.env.scope.names.lookup x = some .local)
    (hsu : ∀ (a : Addr) (oe : Obj) (n : Str) (dd : Option Addr) (pn : List (Addr × Obj)), HotE (c.exc (some (a, n, dd))) (X.suite a ((a, oe) :: pn)) → PE (X.suite a ((a, oe) :: pn)) ex (tEv (c.exc (some (a, n, dd))) W0 fx))
    (hsw : ∀ env : Env, swapsWith ex (some (.Name x xp)) p2.line env = pure false := by intro _; rfl) :
    PS X (.Try body [.ExceptHandler (some te) on [.Assign [.Name x xp] ex p2] pos'] [] [] pos) (tSt c Wout (sTry t f oi fb j fx)) := by
  have key := ps_tryT (X := X) (te := te) (mt := mt) (on := on) (oi := oi) (body := body) (suite := []) (b₀ := .Assign [.Name x xp] ex p2) (pos := pos) (pos' := pos') (tb := fun W => tSt c W fb) (Wout := Wout)
    (ts := fun a cls d D σ H => ∃ n C, c.cl n = some C ∧ cls = .ref C ∧ tEv (c.exc (some (a, n, d))) W0 fx σ H fun v H1 => D.nx (σ.set j (some v)) H1) hs hf hn ht tk hb (fun a oe cls d pn hz hfl => ⟨fun pins s σ H D I ⟨n, C, hC, ec, h⟩ => by
      subst ec
      exact (pss_one (ps_set (X := X.suite a ((a, oe) :: pn)) hN hj hx (hsu a oe n d pn (hotE_suite hC hz hfl)) (hsw _) hfn)).run pins s σ H D I h⟩)
  refine PS.imp key fun D σ H ⟨st, h, g, S, sl, q⟩ => ⟨st, h, g, S, sl, ?_⟩
  unfold sTry at q
  cases e : fb st h with
  | next st' h' => rw [e] at q; exact q
  | ret d h' => rw [e] at q; exact q
  | brk st' h' => rw [e] at q; exact q
  | cont st' h' => rw [e] at q; exact q
  | no => rw [e] at q; exact q
  | exc ee st' h' =>
    rw [e] at q
    dsimp only at q
    intro g' H' σ' cls dd o S' sl' rx
    by_cases hns : ee.cls ∈ t.ns
    case neg => rw [if_neg hns] at q; exact q.elim
    rw [if_pos hns] at q
    obtain ⟨C, hC, rfl, _⟩ := id rx
    refine ⟨f ee.cls, hm _ _ hns hC, fun hb' a na => ?_, fun hb' => ?_⟩
    · rw [if_pos hb'] at q
      cases ev : hotV st'.length oi fx ee with
      | none => rw [ev] at q; exact q.elim
      | some d =>
        rw [ev] at q
        dsimp only at q
        cases oi with
        | none =>
          refine ⟨_, _, hC, rfl, hot_ok (i := none) hcx S' (fun j' z => by cases z) rx (by rw [← sl'.1]; exact ev) fun g2 H2 v o2 S2 r2 => ?_⟩
          exact q g2 H2 _ (o.trans o2) S2 ((sl'.go o2).set j r2)
        | some i =>
          have hi : i < σ'.length := by
            rw [← sl'.1]
            exact hotV_in ev
          refine ⟨_, _, hC, rfl, hot_ok (i := some i) hcx S' (fun j' z => ?_) rx (by rw [List.length_set, ← sl'.1]; exact ev) fun g2 H2 v o2 S2 r2 => ?_⟩
          · cases z
            exact List.getElem?_set_self hi
          · exact q g2 H2 _ (o.trans o2) S2 ((((sl'.go o2).drop i _).set j r2).unset i)
    · rw [if_neg (by rw [hb']; decide)] at q
      exact q g' H' σ' _ dd o S' sl' rx
end
end Gm
namespace Gm
open PySem PySem.Spec PyProof.Rows L2
section
variable {c : Cf} {t : ExcT} {K : PySem.W.Frag} {A B : Str}
theorem mt_one (hcl : ∀ n, c.cl n = some (He.ga K n)) (ho : ExcOk t K) (hA : A ∈ t.ms) : MtOk c t (fun cls b => PySem.W.exmOne K cls (.ref (He.ga K A)) = some b) (fun n => t.is n A) := fun n C hn hC => by
  rw [hcl] at hC
  cases hC
  exact ho.exm n A hn hA
theorem mt_pair (hcl : ∀ n, c.cl n = some (He.ga K n)) (ho : ExcOk t K) (hA : A ∈ t.ms) (hB : B ∈ t.ms) : MtOk c t (fun cls b => PySem.W.exmAny K cls [.ref (He.ga K A), .ref (He.ga K B)] = some b) (fun n => t.is n A || t.is n B) := fun n C hn hC => by
  rw [hcl] at hC
  cases hC
  show PySem.W.exmAny K _ _ = _
  unfold PySem.W.exmAny
  rw [ho.exm n A hn hA]
  unfold PySem.W.exmAny
  rw [ho.exm n B hn hB]
  unfold PySem.W.exmAny
  simp
end
end Gm

/-! Gm23: lambdas handed to a def that tries them. -/
namespace Gm
open PySem PySem.Spec PyProof.Rows L2 LamX
/-- the context of the lambda's body; what is raised bears no context -/
abbrev lamCxN (X : Cx) (A : Around) (outer : List Env) (s : Shared) (H : Hp) (E : XK) (scope : Scope) (f c' : Addr) : Cx :=
  { lamCx X A outer s H E scope f c' with xe := fun e s' => wpAny (model X.prog X.w) (A.deeper (lamEnv X scope s.heap.objs.size f c')) (leaving (lamEnv X scope s.heap.objs.size f c') e) (fun _ s2 => L2N.CX X.prog X.w outer H s E e s2) (fun e' s2 => L2N.CX X.prog X.w outer H s E e' s2) s' }
section
variable {X : Cx} {pins : List (Addr × Obj)} {σ : L2.St} {H : Hp} {s : Shared}
theorem lam_startN {HZ : Hp} {s1 : Shared} {A : Around} {outer : List Env} {E : XK} {scope : Scope} {f c' : Addr} {h₁ : Heap} {tk : Nat} (I : Inv X pins σ H s) (L : LamS X.env.scope scope) (e0 : Env0 X.prog X.w X.K X.mg X.base A outer s1 HZ) (hd : A.handled = none)
    (un : Un (frs X.stack) [] H HZ s.heap s1.heap) (hns : h₁.Ns s1.heap.objs.size fun y => ([] : List (Str × Value)).reverse.lookup y) (kp : ∀ b o, s1.heap.get? b = some o → h₁.get? b = some o) :
    Inv (lamCxN X A outer s1 HZ E scope f c') [] σ HZ { s1 with heap := h₁, toks := tk } := by
  have J := lam_start2 (E := E) (tk := tk) (f := f) (c' := c') I L e0 hd un hns kp
  exact Inv.unwish (X := lamCxN X A outer s1 HZ E scope f c') (E := (lamCx X A outer s1 HZ E scope f c').xe) J
/-- x(), in the def that got the lambda -/
theorem pe_actN {CXg : CXT} {Eg : XK} {Ng : List Str} {qg : Str} {sg : Scope} {g f c' : Addr} {cdg pm ctv : Value} {params : Arguments} {body : Expr} {scope : Scope} {k i : Nat} {a : Str} {pn : List (Addr × Obj)} {xe : Value → Shared → Prop} {W : WX} {t : XK → TE} {p1 p2 : Pos}
    (I : Inv X pins σ H s) (L : LamS X.env.scope scope) (hf : s.heap.get? f = some (PySem.W.kla_obj "<lambda>" (X.env.qual ++ "<lambda>") params body scope (cloFrom X.env.cells scope.names []) pm c' ctv)) (hfn : H f = none) (hfr : f ∉ frs X.stack)
    (hbind : bindArgs (PySem.W.kla_fn "<lambda>" (X.env.qual ++ "<lambda>") params body scope (cloFrom X.env.cells scope.names []) pm (.ref c') ctv) ⟨[], []⟩ = pure [])
    (tk : L2N.Takes ((cxOf CXg X.prog X.w X.K X.mg X.base Ng qg sg g cdg X.A X.stack s H Eg).tr pn xe) W) (hr : Room (k + 1) (X.A.deeper (envOfC qg sg s.heap.objs.size g cdg)))
    (hbody : ∀ (A : Around) (outer : List Env) (s : Shared) (H : Hp) (E : XK), Room k (A.deeper (lamEnv X scope s.heap.objs.size f c')) → PE (lamCxN X A outer s H E scope f c') body (t E))
    (hN : Ng[i]? = some a) (hv : Vis sg a) (hd : (a == ("__debug__" : Str)) = false := by decide) (hcd : (a == ("__classdict__" : Str)) = false := by decide) :
    PE ((cxOf CXg X.prog X.w X.K X.mg X.base Ng qg sg g cdg X.A X.stack s H Eg).tr pn xe) (.Call (.Name a p1) [] [] p2)
      (fun σZ HZ Q => σZ[i]? = some (some (.ref f)) ∧ HZ c' = some (CodeO c' (X.env.qual ++ "<lambda>")) ∧ t (fun cls d H' => W cls d σZ H') σ HZ Q) := by
  refine ⟨fun pinsZ sZ σZ HZ Q IZ ⟨hs, hc, ht⟩ => ?_⟩
  refine wpAny_Call_Name_kw (thn ((pe_var (pos := p1) (i := i) hN hv hd hcd).run pinsZ sZ σZ HZ (fun v H1 => v = .ref f ∧ H1 = HZ) IZ ⟨.ref f, hs, rfl, rfl⟩) fun u s1 ⟨v, H1, I1, r1, ev, eH⟩ => ?_)
  subst ev
  rw [eH] at I1
  cases (show u = Value.ref f from r1)
  have of1 : s1.heap.get? f = some (PySem.W.kla_obj "<lambda>" (X.env.qual ++ "<lambda>") params body scope (cloFrom X.env.cells scope.names []) pm c' ctv) := I1.base.keep f _ hf hfn hfr (fun z => nomatch (show f ∈ ([] : List Addr) from z))
  refine PySem.W.callWith_F0 ⟨_, _, _, _, of1⟩ ?_
  have un : Un (frs X.stack) [] H HZ s.heap s1.heap := I1.base
  obtain ⟨⟨oc, vs, tt, hoc, hdc, hvc⟩, _, _⟩ := I1.hok c' _ hc
  have rc : codeAny (model X.prog X.w) (X.A.deeper (envOfC qg sg s.heap.objs.size g cdg)) (.call (.ref f) ⟨[], []⟩) (CR (L2N.CX X.prog X.w) (envOfC qg sg s.heap.objs.size g cdg :: X.stack) X.prog X.w HZ s1 Q fun cls d H' => W cls d σZ H') s1 := by
    refine PySem.W.kla_callFunE hr.depth of1 rfl L.co L.gen rfl ⟨c', oc, vs, tt, rfl, hoc, hdc, hvc⟩ ?_
    rw [hbind]
    refine wpAny_pure (wpAny_newFunctionEnv (fun y hy => (L.own y hy).2) (fun y hy => absurd hy (by simp)) (fun h₁ hns hsb => ⟨I1.nolimit.fresh _ hsb, ?_⟩) L.kind)
    show codeAny _ _ (.expr body (lamEnv X scope s1.heap.objs.size f c')) _ _
    have kp : ∀ b o, s1.heap.get? b = some o → h₁.get? b = some o := fun b o e => hsb.extBut b o (Nat.ne_of_lt (Heap.lt_size e)) (Heap.get?_push_of_some _ e)
    have J := lam_startN (E := fun cls d H' => W cls d σZ H') (tk := s1.toks + ([] : List (Str × Value)).length) (f := f) (c' := c') I L I1.env0 hr.hd un hns kp
    refine PySem.W.kla_codeExpr (wpAny_mono ((hbody _ _ s1 HZ _ (hr.deeper _)).run [] _ _ HZ Q J ht) (fun v s' hq => ?_) fun e s' hq => hq)
    obtain ⟨w', H', J', rv, q⟩ := hq
    exact ⟨w', H', J'.os, J'.bare, J'.base, J'.hok, rv, q⟩
  refine wpAny_call (codeAny_mono rc fun r s' hq => ?_)
  cases r with
  | error e => exact L2N.passAt tk σZ pinsZ HZ s1 e s' I1 hq
  | ok fl =>
    cases fl with
    | ret u => exact I1.after hq
    | next => exact False.elim hq
    | brk => exact False.elim hq
    | cont => exact False.elim hq
end
/-! ### the def that tries -/
/-- (what it answers, w0), or (None, what the suite makes of it) -/
def triedF (t : ExcT) (f : Str → Bool) (w0 : Str) (fx : Ev D) (r : Res D) : Res D := match r with
  | .ok d h => .ok (.tup [d, .str w0]) h
  | .exc e h => if e.cls ∈ t.ns ∧ f e.cls = true then match hotV 4 (some 3) fx e with
    | some d => .ok (.tup [.non, d]) h
    | none => .no
    else .no
  | .no => .no
abbrev trZ (P : Program) (w : World) (K : PySem.W.Frag) (mg : Str → Option Value) (base : Heap) (Ng : List Str) (x : Str) (sg : Scope) (g : Addr) (cdg : Value) (A : Around) (outer : List Env) (s : Shared) (H : Hp) : Cx := cxOf (L2N.CX P w) P w K mg base Ng x sg g cdg A outer s H fun _ _ _ => False
/-- the body makes F of what the lambda makes -/
def GivesN (P : Program) (w : World) (K : PySem.W.Frag) (mg : Str → Option Value) (base : Heap) (c : Cf) (k : Nat) (Ng : List Str) (x : Str) (sg : Scope) (g : Addr) (cdg : Value) (bg : List Stmt) (a : Str) (F : Res D → Res D) : Prop :=
  ∀ (A : Around) (outer : List Env) (s : Shared) (H : Hp) (f c' : Addr) (q : Str) (Q : VK) (tl : XK → Hp → VK → Prop) (g1 : Gh) (h : Store) (r : Res D), Room k (A.deeper (envOfC x sg s.heap.objs.size g cdg)) →
    (∀ (W : WX) (pn : List (Addr × Obj)) (xe : Value → Shared → Prop) (p1 p2 : Pos), L2N.Takes ((trZ P w K mg base Ng x sg g cdg A outer s H).tr pn xe) W →
      PE ((trZ P w K mg base Ng x sg g cdg A outer s H).tr pn xe) (.Call (.Name a p1) [] [] p2) (fun σZ HZ Q => σZ[0]? = some (some (.ref f)) ∧ HZ c' = some (CodeO c' q) ∧ tl (fun cls d H' => W cls d σZ H') HZ Q)) →
    H c' = some (CodeO c' q) → SR c g1 h H → (∀ E Q, RP c (Rv c) g1 h H r Q E → tl E H Q) → RP c (Rv c) g1 h H (F r) Q (fun _ _ _ => False) →
    ∃ t, PSs (trZ P w K mg base Ng x sg g cdg A outer s H) bg t ∧ t { nx := fun _ H' => Q .non H', rt := Q } (L2.start Ng [.ref f]) H
structure TriedOk (P : Program) (w : World) (K : PySem.W.Frag) (mg : Str → Option Value) (base : Heap) (c : Cf) (x : Str) (k : Nat) (F : Res D → Res D) : Prop where
  ex : ∃ (g : Addr) (pg : Arguments) (bg : List Stmt) (sg : Scope) (dV kV doc pm cdv ct oc : Value) (an od : Option Addr) (osl : Array (Option Value)) (Ng : List Str) (a : Str),
    mg x = some (.ref g) ∧ PySem.W.keepIn K (.ref g) = true ∧ K.lookup g = some ⟨oc, od, .func (PySem.W.fnOf x x pg bg sg dV kV doc pm an cdv ct), osl⟩ ∧ PySem.W.codeIn K cdv x = true ∧ L2.Binds K (PySem.W.fnOf x x pg bg sg dV kV doc pm an cdv ct) [a] [] ∧ FnScope Ng [a] sg ∧ Ng[0]? = some a ∧ Vis sg a ∧
    (a == ("__debug__" : Str)) = false ∧ (a == ("__classdict__" : Str)) = false ∧ GivesN P w K mg base c k Ng x sg g cdv bg a F
/-- x(lambda: body) -/
def cTried (F : Res D → Res D) (fb : Ev D) : Ev D := fun st h => match F (fb st h) with
  | .ok d h' => .ok d h'
  | _ => .no
section
variable {c : Cf} {X : Cx} {W : WX}
theorem e_tried {cd P : Addr} {k j : Nat} {x : Str} {F : Res D → Res D} {params : Arguments} {body : Expr} {scope : Scope} {fb : Ev D} {p lpos pos : Pos} (G : TriedOk X.prog X.w X.K X.mg X.base c x (k + 1) F) (hg : Gl X x)
    (TB : TabB X.base X.mg cd P) (hcode : X.env.code = .ref cd) (hmT : (P, X.env.qual ++ "<lambda>") ∈ c.tabs) (hu : ∀ p ∈ c.tabs, p.1 = P → p.2 = X.env.qual ++ "<lambda>") (hr : Room j X.A) (hj : k + 2 ≤ j) (L : LamS X.env.scope scope) (hdef : defaultsOf params X.env = ([], []))
    (hbind : ∀ (q : Str) (cl : List (Str × Addr)) (pm cv ctv : Value), bindArgs (PySem.W.kla_fn "<lambda>" q params body scope cl pm cv ctv) ⟨[], []⟩ = pure [])
    (hbody : ∀ (A : Around) (outer : List Env) (s : Shared) (H : Hp) (E : XK) (f c' : Addr), Room k (A.deeper (lamEnv X scope s.heap.objs.size f c')) → PE (lamCxN X A outer s H E scope f c') body (tEv c (fun cls d _ H' => E cls d H') fb))
    (hdb : (x == ("__debug__" : Str)) = false := by decide) :
    PE X (.Call (.Name x p) [.Lambda params body scope lpos] [] pos) (tEv c W (cTried F fb)) := by
  obtain ⟨g, pg, bg, sg, dV, kV, doc, pm, cdv, ct, oc, an, od, osl, Ng, a, hm, hk, lk, hcg, hb, Sg, hNg, hva, hd, hcd, hG⟩ := G.ex
  refine ⟨fun pins s σ H Q I ⟨st, h, gh, S, sl, q⟩ => ?_⟩
  refine wpAny_Call_Name_kw (ld_glob I hg hm ?_ hdb)
  refine PySem.W.callWith_K (h₀ := X.base) I.ok.mod.kin hk ?_ (by rfl) (by rfl)
  show wpAny _ _ (spliced ((false, eval (.Lambda params body scope lpos) X.env) :: backTo pos (starEach [] X.env))) _ _ s
  refine Calls.spliced_cons (lam_make2 I TB hcode hmT hu S.tabs hdef (L.has I.ok) fun f c' pm' ctv H1 s' I1 eN T1 hf hfn hfr hco => ?_)
  refine Calls.spliced_nil ⟨I1.kIn, ?_⟩
  -- the store and the ghost hold beside the new code object
  have up : ∀ a o, gh.tr a = some o → H1 a = some o := fun a o e => eN a o (S.sub a o e) fun ps z => S.nt a ps (by rw [e, z])
  have at_ : ∀ n, Live h n → H1 (gh.io n) = H (gh.io n) := fun n ⟨ce, e⟩ => by
    obtain ⟨u, hu, mu⟩ := (S.cell n ce e).some
    rw [hu]
    exact eN _ _ hu fun ps z => by subst z; exact mu
  have S1 : SR c gh h H1 := ⟨up, S.apart, fun n ce e => (S.cell n ce e).mono (Gx.refl _ _) (Nat.le_refl _) (at_ n ⟨ce, e⟩), S.inj, T1, S.nt⟩
  have o1 : Go gh h H gh h H1 := ⟨Nat.le_refl _, fun _ _ => rfl, fun _ _ e => e, fun a o e nt => ⟨o, eN a o e nt, nt⟩, fun a o e nt _ => eN a o e nt, fun _ _ _ _ t _ => t, fun _ _ l => l, fun n hn l => absurd l.lt (Nat.not_lt.mpr hn)⟩
  have q2 : RP c (Rv c) gh h H1 (F (fb st h)) Q (fun _ _ _ => False) := by
    unfold cTried at q
    cases e : F (fb st h) with
    | ok d h' => rw [e] at q; exact RP.go (r := .ok d h') q o1
    | exc e' h' => rw [e] at q; exact q.elim
    | no => rw [e] at q; exact q.elim
  have rc : codeAny (model X.prog X.w) X.A (.call (.ref g) ⟨[.ref f], []⟩) (CR (L2N.CX X.prog X.w) X.stack X.prog X.w H1 s' Q fun _ _ _ => False) s' := by
    refine run_ofS (N := Ng) (ps := [a]) (us := [.ref f]) (vs := [.ref f]) (k := k + 1) lk hcg Sg (hr.mono hj) I1.env0 (hb s' [.ref f] I1.kIn rfl) (.cons rfl .nil) rfl fun hr' => ?_
    refine hG X.A X.stack s' H1 f c' (X.env.qual ++ "<lambda>") Q (fun E H' Q' => tEv c (fun cls d _ H' => E cls d H') fb σ H' Q') gh h (fb st h) hr' (fun W pn xe p1 p2 tk => ?_) hco S1 (fun E Q' rp => ⟨st, h, gh, S1, sl, rp⟩) q2
    exact pe_actN (i := 0) I1 L hf hfn hfr (hbind _ _ _ _ _) tk hr' (fun A outer s H E hr2 => hbody A outer s H E f c' hr2) hNg hva hd hcd
  refine wpAny_call (codeAny_mono rc fun r s2 hq => ?_)
  cases r with
  | error e =>
    obtain ⟨_, _, _, _, _, _, _, _, _, _, _, _, z⟩ := (show L2N.CX X.prog X.w X.stack H1 s' (fun _ _ _ => False) e s2 from hq)
    exact z.elim
  | ok fl =>
    cases fl with
    | ret u => exact I1.after hq
    | next => exact False.elim hq
    | brk => exact False.elim hq
    | cont => exact False.elim hq
end
/-! ### its body -/
section
variable {P : Program} {w : World} {K : PySem.W.Frag} {mg : Str → Option Value} {base : Heap} {c : Cf} {t : ExcT} {fc : Str → Bool} {x : Str} {kws : List (Str × V)} {g : Addr} {fd : FuncData} {N : List Str} {a nf nw ne : Str} {c1 c2 te ex : Expr} {w0 : Str} {k kk : Nat} {fx : Ev D} {mt : Value → Bool → Prop}
  {p1 p2 p3 p4 p5 p6 p7 p8 p9 p10 p11 p12 p13 p14 p15 p16 : Pos} {pg : Arguments} {sg : Scope}
theorem tried_ok (hcx : c.ex = none)
    (FD : FunD K x x pg [.Assign [.Name nf p1] c1 p2, .Assign [.Name nw p3] c2 p4, .Try [.Assign [.Name nf p5] (.Call (.Name a p6) [] [] p7) p8] [.ExceptHandler (some te) (some ne) [.Assign [.Name nw p9] ex p10] p11] [] [] p12, .Return (some (.Tuple [.Name nf p13, .Name nw p14] kk p15)) p16] sg [] kws g fd)
    (hm : mg x = some (.ref g)) (Sg : FnScope [a, nf, nw, ne] [a] sg) (hva : Vis sg a) (hlf : Loc sg nf) (hlw : Loc sg nw) (hle : sg.names.lookup ne = some .local) (df1 : (nf == ("__debug__" : Str)) = false) (df2 : (nf == ("__classdict__" : Str)) = false) (dw1 : (nw == ("__debug__" : Str)) = false) (dw2 : (nw == ("__classdict__" : Str)) = false) (hd : (a == ("__debug__" : Str)) = false) (hcd : (a == ("__classdict__" : Str)) = false)
    (hb : ∀ (kV doc pm : Value) (an : Option Addr) (cdv ct : Value) (us : List Value), us.length = 1 → bindArgs (PySem.W.fnOf x x pg [.Assign [.Name nf p1] c1 p2, .Assign [.Name nw p3] c2 p4, .Try [.Assign [.Name nf p5] (.Call (.Name a p6) [] [] p7) p8] [.ExceptHandler (some te) (some ne) [.Assign [.Name nw p9] ex p10] p11] [] [] p12, .Return (some (.Tuple [.Name nf p13, .Name nw p14] kk p15)) p16] sg .none kV doc pm an cdv ct) ⟨us, []⟩ = pure ([a].zip us))
    (h1 : ∀ X : Cx, PE X c1 (tC .non)) (h2 : ∀ X : Cx, PE X c2 (tC (.str w0))) (hmt : MtOk c t mt fc)
    (hsw1 : ∀ env : Env, swapsWith c1 (some (.Name nf p1)) p2.line env = pure false) (hsw2 : ∀ env : Env, swapsWith c2 (some (.Name nw p3)) p4.line env = pure false) (hsw3 : ∀ env : Env, swapsWith ex (some (.Name nw p9)) p10.line env = pure false)
    (ht : ∀ (cdv : Value) (A : Around) (outer : List Env) (s : Shared) (H : Hp), HTest (trZ P w K mg base [a, nf, nw, ne] x sg g cdv A outer s H) te mt)
    (hsu : ∀ (cdv : Value) (A : Around) (outer : List Env) (s : Shared) (H : Hp), Room k (A.deeper (envOfC x sg s.heap.objs.size g cdv)) → ∀ (a0 : Addr) (oe : Obj) (n : Str) (dd : Option Addr) (pn : List (Addr × Obj)), HotE (c.exc (some (a0, n, dd))) ((trZ P w K mg base [a, nf, nw, ne] x sg g cdv A outer s H).suite a0 ((a0, oe) :: pn)) →
      PE ((trZ P w K mg base [a, nf, nw, ne] x sg g cdv A outer s H).suite a0 ((a0, oe) :: pn)) ex (tEv (c.exc (some (a0, n, dd))) W0 fx)) : TriedOk P w K mg base c x k (triedF t fc w0 fx) := by
  obtain ⟨oc, od, dV, kV, doc, pm, an, cdv, ct, osl, rfl, lk, hcd2, _, _⟩ := FD.ex
  refine ⟨g, pg, _, sg, _, _, _, _, _, _, _, _, _, _, [a, nf, nw, ne], a, hm, FD.kp, lk, hcd2, FD.bindsN hb, Sg, rfl, hva, hd, hcd, ?_⟩
  intro A outer s H f c' q Q tl g1 h r hr act hc S htl hq
  have hN : [a, nf, nw, ne].Nodup := Sg.nd
  -- the readings
  refine ⟨_, pss_cons (ps_set (i := 1) hN rfl hlf (h1 _) (hsw1 _) (.inl rfl)) (pss_cons (ps_set (i := 2) hN rfl hlw (h2 _) (hsw2 _) (.inl rfl)) (pss_cons
    (ps_tryT (mt := mt) (oi := some 3) (Wout := fun _ _ _ _ => False) (tb := fun W D σ H => σ[0]? = some (some (.ref f)) ∧ H c' = some (CodeO c' q) ∧ tl (fun cls d H' => W cls d σ H') H (fun v H1 => D.nx (σ.set 1 (some v)) H1))
      (ts := fun a0 cls d D σ H => ∃ n C, c.cl n = some C ∧ cls = .ref C ∧ tEv (c.exc (some (a0, n, d))) W0 fx σ H fun v H1 => D.nx (σ.set 2 (some v)) H1) rfl rfl ⟨hN, rfl, hle⟩ (ht cdv A outer s H) no_tk
      (fun W pn xe tk _ => ⟨fun pins s' σ H' D I ⟨y1, y2, y3⟩ => (pss_one (ps_set (i := 1) hN rfl hlf (act W pn xe p6 p7 tk) (by rfl) (.inl rfl))).run pins s' σ H' D I ⟨y1, y2, y3⟩⟩)
      (fun a0 oe cls d pn hz hfl => ⟨fun pins s' σ H' D I ⟨n, C, hC, ec, y⟩ => by
        subst ec
        exact (pss_one (ps_set (i := 2) hN rfl hlw (hsu cdv A outer s H hr a0 oe n d pn (hotE_suite hC hz hfl)) (hsw3 _) (.inl rfl))).run pins s' σ H' D I y⟩))
    (pss_one (s_ret (c := c) (W := W0) (e_tup (a_cons (e_var (pe_var (i := 1) rfl (hlf.elim .inl fun z => .inr (.inl z)) df1 df2)) (a_cons (e_var (pe_var (i := 2) rfl (hlw.elim .inl fun z => .inr (.inl z)) dw1 dw2)) a_nil))))))), ?_⟩
  refine ⟨rfl, hc, htl _ _ ?_⟩
  have sz : sizeLine ≥ 2 := by decide
  -- the way back: the pair
  have back : ∀ {g2 : Gh} {h2 : Store} {H2 : Hp} {d1 d2 : Gm.D} {v1 v2 : V} {y : Option V}, SR c g2 h2 H2 → RV c g2 h2.length d1 v1 → RV c g2 h2.length d2 v2 → (∀ g' H' v, Go g2 h2 H2 g' h2 H' → SR c g' h2 H' → RV c g' h2.length (.tup [d1, d2]) v → Q v H') →
      tSt c W0 (sRet (cTup (cCons (cVar 1) (cCons (cVar 2) cNil)))) { nx := fun _ H' => Q .non H', rt := Q } [some (.ref f), some v1, some v2, y] H2 := fun {g2 h2 H2 d1 d2 v1 v2 y} S2 r1 r2 k => by
    refine ⟨[none, some d1, some d2, none], h2, g2, S2, ⟨rfl, fun i d e => ?_⟩, ?_⟩
    · rcases i with _ | _ | _ | _ | i
      · simp at e
      · have e : d1 = d := by simpa using e
        subst e
        exact ⟨v1, rfl, r1⟩
      · have e : d2 = d := by simpa using e
        subst e
        exact ⟨v2, rfl, r2⟩
      · simp at e
      · simp at e
    · show OP c g2 h2 H2 ((cTup (cCons (cVar 1) (cCons (cVar 2) cNil)) [none, some d1, some d2, none] h2).out _ fun d h1 => .ret d h1) _ _
      have e : cTup (cCons (cVar 1) (cCons (cVar 2) cNil)) [none, some d1, some d2, none] h2 = .ok (.tup [d1, d2]) h2 := (if_pos (show [d1, d2].length ≤ sizeLine from sz) : (if [d1, d2].length ≤ sizeLine then Res.ok (Gm.D.tup [d1, d2]) h2 else .no) = _)
      rw [e]
      exact fun g' H' v o S' r => k g' H' v o S' r
  cases r with
  | no => exact hq.elim
  | ok d h1 =>
    intro g' H' v o S' rv
    exact back (y := none) S' rv (.str w0) fun g2 H2 v2 o2 S2 r2 => hq g2 H2 v2 (o.trans o2) S2 r2
  | exc e h1 =>
    intro g' H' cls dd o S' rx
    have hq : RP c (Rv c) g1 h H (if e.cls ∈ t.ns ∧ fc e.cls = true then match hotV 4 (some 3) fx e with | some d => .ok (.tup [.non, d]) h1 | none => .no else .no) Q (fun _ _ _ => False) := hq
    by_cases hns : e.cls ∈ t.ns ∧ fc e.cls = true
    case neg => rw [if_neg hns] at hq; exact hq.elim
    rw [if_pos hns] at hq
    obtain ⟨C, hC, rfl, _⟩ := id rx
    refine ⟨fc e.cls, hmt _ _ hns.1 hC, fun _ a0 na => ?_, fun z => by rw [hns.2] at z; cases z⟩
    cases ev : hotV 4 (some 3) fx e with
    | none => rw [ev] at hq; exact hq.elim
    | some d =>
      rw [ev] at hq
      refine ⟨_, _, hC, rfl, hot_ok (i := some 3) hcx S' (fun j z => by cases z; rfl) rx ev fun g2 H2 v o2 S2 r2 => ?_⟩
      exact back (y := none) S2 .non r2 fun g3 H3 v3 o3 S3 r3 => hq g3 H3 v3 (o.trans (o2.trans o3)) S3 r3
end
end Gm

/-! Gm24: a law's end where lambdas are made. -/
namespace Gm
open PySem PySem.Spec PyProof.Rows L2
/-- .. with tables of code objects -/
abbrev cfT (K : PySem.W.Frag) (T : List (Addr × Str)) : Cf := ⟨K, fun n => some (He.ga K n), T, none⟩
/-- where a def's lambdas are kept -/
structure LamAt (base : Heap) (mg : Str → Option Value) (T : List (Addr × Str)) (fd : FuncData) (q : Str) (cd P : Addr) : Prop where
  code : fd.code = .ref cd
  tab : LamX.TabB base mg cd P
  mem : (P, (q ++ ".<locals>.") ++ "<lambda>") ∈ T
  uniq : ∀ p ∈ T, p.1 = P → p.2 = (q ++ ".<locals>.") ++ "<lambda>"
/-- a def that makes lambdas -/
theorem fn_okL {P : Program} {w : World} {K : PySem.W.Frag} {mg : Str → Option Value} {base : Heap} {c : Cf} {x qual : Str} {params : Arguments} {body : List Stmt} {scope : Scope} {dvs : List V} {kws : List (Str × V)} {f cd : Addr} {fd : FuncData} {N ps : List Str} {k : Nat} {fb : Ss}
    (F : FunD K x qual params body scope dvs kws f fd) (S : FnScope N ps scope) (hcode : fd.code = .ref cd)
    (hbody : ∀ (A : Around) (outer : List Env) (s : Shared) (H : Hp) (E : XK), Room k (A.deeper (envOfC qual scope s.heap.objs.size f (.ref cd))) →
      PSs (cxOf (L2N.CX P w) P w K mg base N qual scope f (.ref cd) A outer s H E) body (tSt c (fun cls d _ H' => E cls d H') fb)) :
    FnOk P w K mg base (L2N.CX P w) (k + 1) f fd ps (spOf c (fnOf N.length ps.length fb)) := by
  obtain ⟨oc, od, dV, kV, doc, pm, an, cdv, ct, osl, rfl, lk, hcd, _, _⟩ := F.ex
  have e : cdv = .ref cd := hcode
  subst e
  refine fn_of lk hcd S (fun vs H Q E ⟨ds, h, g, S, r, q⟩ => ?_) fun A outer s H vs Q E hr ⟨ds, h, g, S, r, q⟩ => ⟨_, hbody A outer s H E hr, ?_⟩
  · unfold fnOf at q
    by_cases hl : ds.length = ps.length
    · rw [← hl, r.length]
    · rw [if_neg hl] at q
      exact q.elim
  · unfold fnOf at q
    by_cases hl : ds.length = ps.length
    · rw [if_pos hl] at q
      have q := RP.clean q
      refine ⟨startD N.length ds, h, g, S, SL.start r, ?_⟩
      cases e : fb (startD N.length ds) h with
      | next st' h' => rw [e] at q; exact fun g' H' σ o S' _ => q g' H' .non o S' .non
      | ret d h' => rw [e] at q; exact q
      | brk st' h' => rw [e] at q; exact q.elim
      | cont st' h' => rw [e] at q; exact q.elim
      | exc ee st' h' => rw [e] at q; exact fun g' H' σ cls dd o S' _ rx => q g' H' cls dd o S' rx
      | no => rw [e] at q; exact q.elim
    · rw [if_neg hl] at q
      exact q.elim
/-! ### what is seen of the head -/
abbrev Tq := List (He.Defn × Str)
def tabsOf (K : PySem.W.Frag) (tq : Tq) : List (Addr × Str) := tq.map fun p => ((He.cT K p.1).2, (p.2 ++ ".<locals>.") ++ "<lambda>")
def seeN (fa : List He.Fa) (fn : List He.DefD) (tq : Tq) (ex : PySem.W.Frag → Bool) (g : Addr → Option Obj) (K : PySem.W.Frag) : He.AlD :=
  ((He.obsD fa fn K).1 && (I2.noDig K && (ex K && (He.tabsB g (tq.map (·.1)) K && decide ((tq.map fun p => (He.cT K p.1).2).Nodup)))), (He.obsD fa fn K).2)
structure SaysN (fa : List He.Fa) (fn : List He.DefD) (tq : Tq) (ex : PySem.W.Frag → Bool) (h : Heap) (K : PySem.W.Frag) : Prop where
  d : He.SaysD fa fn K
  nd : I2.noDig K = true
  more : ex K = true
  dis : (tq.map fun p => (He.cT K p.1).2).Nodup
  hd : ∀ p ∈ tq, PySem.W.codeHdIn K (He.cT K p.1).1 (He.cT K p.1).2 = true
  out : ∀ p ∈ tq, K.lookup (He.cT K p.1).2 = none
  empty : ∀ p ∈ tq, h.get? (He.cT K p.1).2 = some { cls := .none, data := .fields #[] }
theorem saysN_of {n : Nat} {fa : List He.Fa} {fn : List He.DefD} {tq : Tq} {ex : PySem.W.Frag → Bool} {h : Heap} {as : List Addr} (e : seeN fa fn tq ex h.get? (He.frT h.get? as) = He.valD fn) : SaysN fa fn tq ex h (He.frT h.get? as) := by
  have e1 := congrArg (fun z : He.AlD => z.1) e
  have e2 : (seeN fa fn tq ex h.get? (He.frT h.get? as)).2 = (He.valD fn).2 := by rw [e]
  dsimp only [seeN, He.valD] at e1
  simp only [Bool.and_eq_true, decide_eq_true_eq] at e1
  obtain ⟨h1, h2, h3, h4, h5⟩ := e1
  have key : ∀ p ∈ tq, PySem.W.codeHdIn (He.frT h.get? as) (He.cT (He.frT h.get? as) p.1).1 (He.cT (He.frT h.get? as) p.1).2 = true ∧ ∃ o, h.get? (He.cT (He.frT h.get? as) p.1).2 = some o ∧ He.emptyTab o = true := fun p hp => by
    have z := List.all_eq_true.mp h4 p.1 (List.mem_map.mpr ⟨p, hp, rfl⟩)
    rw [Bool.and_eq_true] at z
    refine ⟨z.1, ?_⟩
    have z2 := z.2
    cases q : h.get? (He.cT (He.frT h.get? as) p.1).2 with
    | none => rw [q] at z2; cases z2
    | some o => rw [q] at z2; exact ⟨o, rfl, z2⟩
  refine ⟨Prod.ext h1 e2, h2, h3, h5, fun p hp => (key p hp).1, fun p hp => ?_, fun p hp => ?_⟩
  · obtain ⟨_, o, q, z⟩ := key p hp
    exact He.frT_none q z
  · obtain ⟨_, o, q, z⟩ := key p hp
    rw [q, He.emptyTab_eq z]
def hookN (n : Nat) (fa : List He.Fa) (fn : List He.DefD) (tq : Tq) (ex : PySem.W.Frag → Bool) : PySem.W.Hook where
  α := He.AlD
  obs := fun s => seeN fa fn tq ex s.heap.get? (He.frT s.heap.get? (adM s.heap.get? n))
  val := fun _ => He.valD fn
  says := fun _ h => ∃ K : PySem.W.Frag, K.In h ∧ SaysN fa fn tq ex h K
  of := fun _ _ e => ⟨_, He.frT_in, saysN_of (n := n) e⟩
  keeps := fun _ _ _ ⟨K, hK, c⟩ k => ⟨K, PySem.W.Frag.In.keeps hK k, ⟨c.d, c.nd, c.more, c.dis, c.hd, c.out, fun p hp => k _ _ (c.empty p hp)⟩⟩
def obN (n : Nat) (fa : List He.Fa) (fn : List He.DefD) (tq : Tq) (ex : PySem.W.Frag → Bool) (s : PySem.W.SharedT) : He.AlD := seeN fa fn tq ex (HandSHeadRun.getT s) (He.frT (HandSHeadRun.getT s) (adM (HandSHeadRun.getT s) n))
theorem obN_eq {n : Nat} {fa : List He.Fa} {fn : List He.DefD} {tq : Tq} {ex : PySem.W.Frag → Bool} (s : PySem.W.SharedT) : obN n fa fn tq ex s = (hookN n fa fn tq ex).obs s.abs := by
  have e : HandSHeadRun.getT s = s.abs.heap.get? := funext (HandSHeadRun.getT_eq s)
  show seeN fa fn tq ex (HandSHeadRun.getT s) (He.frT (HandSHeadRun.getT s) (adM (HandSHeadRun.getT s) n)) = _
  rw [e]
  rfl
theorem nodup_inj {α β : Type} {f : α → β} : ∀ {l : List α}, (l.map f).Nodup → ∀ {a b : α}, a ∈ l → b ∈ l → f a = f b → a = b
  | [], _, _, _, ha, _, _ => absurd ha (by simp)
  | x :: l, h, a, b, ha, hb, e => by
    rw [List.map_cons, List.nodup_cons] at h
    rcases List.mem_cons.mp ha with z1 | h1 <;> rcases List.mem_cons.mp hb with z2 | h2
    · rw [z1, z2]
    · rw [z1] at e
      exact (h.1 (List.mem_map.mpr ⟨b, h2, e.symm⟩)).elim
    · rw [z2] at e
      exact (h.1 (List.mem_map.mpr ⟨a, h1, e⟩)).elim
    · exact nodup_inj h.2 h1 h2 e
theorem lamAt_of {K : PySem.W.Frag} {base : Heap} {mg : Str → Option Value} {tq : Tq} {x qual : Str} {params : Arguments} {body : List Stmt} {scope : Scope} {dvs : List V} {kws : List (Str × V)} {fd : FuncData} {p : He.Defn} (FD : FunD K x qual params body scope dvs kws (He.fAd K p) fd) (hp : (p, qual) ∈ tq)
    (dis : (tq.map fun p => (He.cT K p.1).2).Nodup) (TB : LamX.TabB base mg (He.cT K p).1 (He.cT K p).2) : LamAt base mg (tabsOf K tq) fd qual (He.cT K p).1 (He.cT K p).2 := by
  obtain ⟨oc, od, dV, kV, doc, pm, an, cdv, ct, osl, rfl, lk, hcd, _, _⟩ := FD.ex
  obtain ⟨cc, ec⟩ := He.codeIn_ref hcd
  subst ec
  have e1 := He.codeOf_eq lk (c := cc) rfl
  refine ⟨?_, TB, List.mem_map.mpr ⟨_, hp, rfl⟩, fun q hq e => ?_⟩
  · show Value.ref cc = .ref (He.codeOf K p)
    rw [e1]
  · obtain ⟨r, hr, rfl⟩ := List.mem_map.mp hq
    have z := nodup_inj dis hr hp e
    rw [z]
/-! ### the end -/
theorem walk_gmT {l : PySem.W.OpenLaw} {n m k : Nat} {q : Program} {loose : List Str} {XP : (Str → Option Value) → Heap → Prop} {d : DefRec} {fa : List He.Fa} {fn : List He.DefD} {tq : Tq} {ex : PySem.W.Frag → Bool} {Fl : FnT} (hn : l.most = some n) (hn2 : n ≤ sizeLine) (hdf : d.params.defaults = []) (hr : Room k callerA)
    (facts : ∀ (w : World) (K : PySem.W.Frag) (h : Heap) (mg : Str → Option Value) (f : Addr), K.In h → h.Ns mainGlobals mg → mg d.name = some (.ref f) → SaysN fa fn tq ex h K →
      ∃ fd : FuncData, (∀ (s : Shared) (u : Value), BindsTo s fd ⟨[u], []⟩ [("script", u)]) ∧ ∀ base : Heap, (∀ p ∈ tq, LamX.TabB base mg (He.cT K p.1).1 (He.cT K p.1).2) → FnOk l.prog w K mg base (L2N.CX l.prog w) k f fd ["script"] (spOf (cfT K (tabsOf K tq)) Fl))
    (law : ∀ ns : List Int, ns.length ≤ n → ∃ h', Fl [.fro (ns.map .int)] [] = .ok (.bl true) h') : PySem.W.WalkO q loose XP (hookN m fa fn tq ex).says l.row.toRowW d [] (fun f vs => PySem.call f vs) := by
  refine LamX.walk_ofTsE (CX := fun w => L2N.CX l.prog w) (x := "script") (k := k) hn hn2 hdf hr (fun w mg f h ⟨K, KX, c⟩ G hm => ⟨K, KX, ?_⟩) fun w H s e s' ⟨_, _, _, _, _, _, _, _, _, _, _, _, z⟩ => z
  obtain ⟨fd, hb, hF⟩ := facts w K h mg f KX G hm c
  have mem : ∀ p ∈ tq.map fun p => He.cT K p.1, ∃ r ∈ tq, p = He.cT K r.1 := fun p hp => by
    obtain ⟨r, hr, e⟩ := List.mem_map.mp hp
    exact ⟨r, hr, e.symm⟩
  refine ⟨fd, tq.map fun p => He.cT K p.1, _, fun p hp => ?_, fun p hp => ?_, fun p hp => ?_, hb, fun H a ns hlen hbits hT hS => ?_, fun base hKb hns TB => hF base fun p hp => TB _ (List.mem_map.mpr ⟨p, hp, rfl⟩)⟩
  · obtain ⟨r, hr, rfl⟩ := mem p hp
    exact c.empty r hr
  · obtain ⟨r, hr, rfl⟩ := mem p hp
    exact c.out r hr
  · obtain ⟨r, hr, rfl⟩ := mem p hp
    exact PySem.W.codeHd_of_K KX (c.hd r hr)
  · refine ⟨[.fro (ns.map .int)], [], ⟨fun _ => 0, noT H⟩, SR.begin (fun p hp => ?_), .cons (.fro (noT_sqL hS) (fro_ints ns)) .nil, ?_⟩
    · obtain ⟨r, hr, rfl⟩ := List.mem_map.mp hp
      exact LamX.TabS.nil (hT _ (List.mem_map.mpr ⟨r, hr, rfl⟩))
    · obtain ⟨h', e⟩ := law ns hlen
      rw [e]
      intro g' H' v _ _ r
      cases r
      rfl
end Gm

/-! Gm25: text.split(sep); fields of the handled exception. -/
namespace Gm
open PySem PySem.Spec PyProof.Rows L2
section
variable {c : Cf} {W : WX} {X : Cx}
theorem rvs_strs {g : Gh} {L : Nat} : ∀ ys : List Str, RVs c g L (ys.map D.str) (ys.map V.str)
  | [] => .nil
  | y :: ys => .cons (.str y) (rvs_strs ys)
def mSplit (m : Bool) : MethT := fun d ds h => match d, ds with
  | .str a, [.str b] => if (b.length == 0) = false ∧ a.length + 2 ≤ sizeLine then alloc m ((Txt.split a b).map D.str) h else .no
  | _, _ => .no
theorem mSplit_ok {m : Bool} : MROk c (fun x xs H Q => ∃ a b, x = .str a ∧ xs = [.str b] ∧ (b.length == 0) = false ∧ a.length + 2 ≤ sizeLine ∧ rNewStrs (Txt.split a b) H Q) (mSplit m) := by
  intro g h H d v ds vs Q E S rv rs q
  unfold mSplit at q
  split at q
  · rename_i a b
    cases rv
    cases rs with
    | cons r rr =>
      cases rr
      cases r
      by_cases hc : (b.length == 0) = false ∧ a.length + 2 ≤ sizeLine
      · rw [if_pos hc] at q
        exact ⟨a, b, rfl, rfl, hc.1, hc.2, alloc_ok S (rvs_strs _) q⟩
      · rw [if_neg hc] at q
        exact q.elim
  · exact q.elim
/-- the classes whose instances' field f is their own -/
def xfOk (K : PySem.W.Frag) (ns : List Str) (f : Str) : Bool := ns.all fun n => xfB K (He.ga K n) && decide (PySem.W.findIn K (.ref (He.ga K n)) f = some none)
def cXf (ns : List Str) (f : Str) (fe : Ev D) : Ev D := fun st h => (fe st h).bind fun d h1 => match d with
  | .exn n fs => if n ∈ ns then match fs.lookup f with
    | some x => .ok x h1
    | none => .no
    else .no
  | _ => .no
theorem rfs_lookup {g : Gh} {L : Nat} {f : Str} : ∀ {fs : List (Str × D)} {vs : List (Str × V)} {d : D}, RFs c g L fs vs → fs.lookup f = some d → ∃ v, vs.lookup f = some v ∧ RV c g L d v
  | _, _, _, .nil, e => by cases e
  | _, _, d, .cons (k := k) h r, e => by
    rw [List.lookup_cons] at e ⊢
    cases q : (f == k) with
    | true =>
      rw [q] at e
      cases e
      exact ⟨_, rfl, h⟩
    | false =>
      rw [q] at e
      exact rfs_lookup r e
theorem e_xf {ns : List Str} {f : Str} {e : Expr} {fe : Ev D} {pos : Pos} (hcl : ∀ n, c.cl n = some (He.ga X.K n)) (ht : HotE c X) (hf : xfOk X.K ns f = true) (he : PE X e (tEv c W fe)) (hb : attributeBase e f X.env (eval e X.env) = eval e X.env := by rfl) :
    PE X (.Attribute e f pos) (tEv c W (cXf ns f fe)) := by
  refine ⟨fun pins s σ H Q I ⟨st, h, g, S, sl, q⟩ => ?_⟩
  refine attr_of hb (thn (he.run pins s σ H _ I ⟨st, h, g, S, sl, RP.bind q⟩) fun u s1 ⟨x, H1, I1, rx, d, h1, g1, o1, S1, r1, q1⟩ => ?_)
  cases r1 with
  | @exn1 n fs a dd fvs ex hd rf =>
    dsimp only at q1
    by_cases hn : n ∈ ns
    case neg => rw [if_neg hn] at q1; exact q1.elim
    rw [if_pos hn] at q1
    cases l : fs.lookup f with
    | none => rw [l] at q1; exact q1.elim
    | some y =>
      rw [l] at q1
      obtain ⟨v, lv, rv⟩ := rfs_lookup rf l
      obtain rfl : u = Value.ref a := rx
      have z := List.all_eq_true.mp hf n hn
      rw [Bool.and_eq_true] at z
      have T := xfB_ok z.1
      have hno : PySem.W.findIn X.K (.ref (He.ga X.K n)) f = some none := of_decide_eq_true z.2
      obtain ⟨mA, hns, hr⟩ := (show ObjOk X.prog X.w H1 s1.heap dd (.xd fvs) from I1.hok dd _ (S1.sub _ _ hd))
      obtain ⟨od, ho, hl⟩ := lookIn_ns hns
      obtain ⟨u, hu, ru⟩ := RelO.some_of (v := v) (o := mA f) (by rw [← lv]; exact hr f)
      obtain ⟨p, hp, ⟨⟨n', dd', C, e', hC, hz⟩, vs, hv⟩, _⟩ := ht
      rw [ex] at e'
      cases e'
      rw [hcl] at hC
      cases hC
      obtain ⟨hget, _⟩ := I1.pin p (List.mem_append_left _ hp)
      have J : PySem.W.InstAt s1.heap p.1 p.2 (He.ga X.K n) (some od) := ⟨hget, hz.1, by unfold PySem.W.notCls; rw [hv] <;> rfl, by rw [hz.2.1]; exact ho⟩
      exact HandSPX.exc_get I1.kIn J T.ga T.gg T.exC (PySem.W.findObj_own T.hdC hno rfl (by rw [hl, hu])) (handed_of ru) ⟨v, H1, I1.tok _, ru, RP.ok_here q1 S1 rv⟩
  | @exn0 n a ex =>
    dsimp only at q1
    split at q1
    · rw [show ([] : List (Str × D)).lookup f = none from rfl] at q1
      exact q1.elim
    · exact q1.elim
  | _ => exact q1.elim
end
end Gm
namespace Gm
open PySem PySem.Spec PyProof.Rows L2
theorem roomH_suite {k : Nat} {X : Cx} {a : Addr} {pn : List (Addr × Obj)} (hr : Room k X.A) : L2H.RoomH k (X.suite a pn).A := ⟨hr.dp, hr.un⟩
end Gm

/-! Gm26: zip of lists or of tuples. -/
namespace Gm
open PySem PySem.Spec PyProof.Rows L2
section
variable {c : Cf} {W : WX} {X : Cx} {e : Expr}
theorem itzT_ok {a b : Addr} {l k : List D} {vs ws : List V} {g0 : Gh} {L0 : Nat} (hq : SqT c.K g0.tr a vs) (rs : RVs c g0 L0 l vs) (hq2 : SqT c.K g0.tr b ws) (rs2 : RVs c g0 L0 k ws) : ItOk c (RZ.ItzT c.K a b) (zipD l k) g0 L0 := fun g h H i S gx hL => by
  have q : SqT c.K H a vs := SqT.sub S.sub (SqT.sub gx.tr hq)
  have q2 : SqT c.K H b ws := SqT.sub S.sub (SqT.sub gx.tr hq2)
  refine ⟨fun hi => ⟨vs, ws, q, q2, ?_⟩, fun d hd => ?_⟩
  · rw [zipD_len] at hi
    rw [← rs.length, ← rs2.length]
    omega
  · obtain ⟨d1, d2, e1, e2, rfl⟩ := zipD_get hd
    obtain ⟨y1, f1, r1⟩ := rs.get e1
    obtain ⟨y2, f2, r2⟩ := rs2.get e2
    refine ⟨⟨vs, ws, y1, y2, q, q2, f1, f2⟩, fun x H' ⟨T, x1, x2, ev, nT, eH, hx1, hx2⟩ => ?_⟩
    have z1 := hx1 vs q
    have z2 := hx2 ws q2
    rw [f1] at z1
    rw [f2] at z2
    cases z1
    cases z2
    subst ev eH
    obtain ⟨S2, o2⟩ := S.tree (o := .tup [y1, y2]) nT
    exact ⟨_, o2, S2, .tup (.inl (.inl upd_same)) (.cons (r1.mono (gx.trans o2.gx hL) hL) (.cons (r2.mono (gx.trans o2.gx hL) hL) .nil))⟩
/-- two lists, or two tuples, side by side -/
def zipOf : D → D → Option (List D)
  | .tup l, .tup k => some (zipD l k)
  | d, d' => match asI d, asI d' with
    | some l, some k => some (zipD l k)
    | _, _ => none
def iZipAD (fs : Ev (List D)) : Ev (List D) := fun st h => (fs st h).bind fun ds h1 => match ds with
  | [d, d'] => match zipOf d d' with
    | some l => .ok l h1
    | none => .no
  | _ => .no
theorem i_zipA {fs : Ev (List D)} {e2 : Expr} {p pos tpos : Pos} {elts : List Expr} {kk : Nat} (hK : c.K = X.K) (P : ∀ {ta : TA}, PA X [e, e2] ta → PI X (.Tuple elts kk tpos) (.Call (.Name "zip" p) [e, e2] [] pos) (RZ.iZipA X.K ta)) (ha : PA X [e, e2] (tAr c W fs)) : PI X (.Tuple elts kk tpos) (.Call (.Name "zip" p) [e, e2] [] pos) (tIt c W (iZipAD fs)) :=
  PI.imp (P ha) fun σ H R ⟨st, h, g, S, sl, q⟩ => by
    refine ⟨st, h, g, S, sl, RP.mono (RP.bind q) fun vs H1 ⟨ds, h1, g1, o1, S1, r1, q1⟩ => ?_⟩
    split at q1
    · rename_i d d'
      split at q1
      · rename_i l el
        cases r1 with
        | cons r rr =>
          cases rr with
          | cons r' rr =>
            cases rr
            rw [← hK]
            unfold zipOf at el
            split at el
            · cases r with
              | tup hq rs =>
                cases r' with
                | tup hq2 rs2 =>
                  cases el
                  exact ⟨_, _, _, _, rfl, .inr ⟨SqT.sub S1.sub hq, SqT.sub S1.sub hq2, RP.ok_here q1 S1 (itzT_ok hq rs hq2 rs2)⟩⟩
            · split at el
              · rename_i l k el1 el2
                cases el
                obtain ⟨a, vs, rfl, hq, rs⟩ := asI_ok r el1
                obtain ⟨b, ws, rfl, hq2, rs2⟩ := asI_ok r' el2
                exact ⟨a, b, vs, ws, rfl, .inl ⟨SqL.sub S1.sub hq, SqL.sub S1.sub hq2, RP.ok_here q1 S1 (itz_ok hq rs hq2 rs2)⟩⟩
              · cases el
      · exact q1.elim
    · exact q1.elim
end
end Gm

/-! Gm27: raising an own class whose __init__ keeps one field. -/
namespace Gm
open PySem PySem.Spec PyProof.Rows L2
section
variable {X : Cx} {x : Str} {C fI : Addr} {k : Nat} {fd : FuncData} {ps : List Str} {sp : Sp} {ds : List Value} {dvs : List V} {p pos : Pos} {ta : TA}
/-- the making, the arguments known -/
theorem mk_core (T : OexC X.K C) (iC : PySem.W.findIn X.K (.ref C) "__init__" = some (some (.ref fI))) (tI : PySem.W.typeIn X.K (.ref fI) = some (.type "function"))
    (F1 : FnOk X.prog X.w X.K X.mg X.base (L2N.CX X.prog X.w) k fI fd ps sp) (hr : Room (k + 1) X.A) (hb : L2.Binds X.K fd ps ds) (hd : Vals dvs ds) {pins : List (Addr × Obj)} {σ : L2.St} {Q : XK} {us : List Value} {vs : List V} {H1 : Hp} {s1 : Shared}
    (I1 : Inv X pins σ H1 s1) (r1 : Vals vs us) (hz : vs.length ≤ 1000) (q1 : ∀ a, H1 a = none → sp (.ref a :: (vs ++ dvs)) (upd H1 a (exo a C none))
      (fun v H2 => v = .non ∧ ∃ (d : Addr) (fs : List (Str × V)), H2 a = some (exo a C (some d)) ∧ H2 d = some (exd d fs) ∧ H1 d = none ∧ Q (.ref C) (some d) (upd (del H2 a) d (.xd fs))) (fun _ _ _ => False)) :
    wpAny (model X.prog X.w) X.A (call (.ref C) us) (L2N.MkP X pins σ Q) X.xe s1 := by
  obtain ⟨nm, q, N, bs, bm, sn, sub, ab, col, dd, k0, k1, k2, k3, k5, hC, hbm⟩ := T.cls
  obtain ⟨hp, g, dr, tk, os⟩ := s1
  have up : hp.objs.size ≤ hp.objs.size + 1 := Nat.le_succ _
  have hn : H1 (hp.objs.size + 1) = none := I1.hok.fresh up
  have hq := q1 (hp.objs.size + 1) hn
  have kp : ∀ b o, hp.get? b = some o → ((hp.push (PySem.W.kdv_tup us)).push (PySem.HandSPX.excO C hp.objs.size)).get? b = some o := fun b o e => Heap.get?_push_of_some _ (Heap.get?_push_of_some _ e)
  have hget : ((hp.push (PySem.W.kdv_tup us)).push (PySem.HandSPX.excO C hp.objs.size)).get? (hp.objs.size + 1) = some (PySem.HandSPX.excO C hp.objs.size) := by heap_get
  have I2 : Inv X pins σ (upd H1 (hp.objs.size + 1) (exo (hp.objs.size + 1) C none)) ⟨(hp.push (PySem.W.kdv_tup us)).push (PySem.HandSPX.excO C hp.objs.size), g, dr, tk, os⟩ :=
    I1.laid (t' := tk) (a := hp.objs.size + 1) (o := exo (hp.objs.size + 1) C none) (h' := (hp.push (PySem.W.kdv_tup us)).push (PySem.HandSPX.excO C hp.objs.size)) kp up (exo_ok hget)
  have r2 : Vals (V.ref (hp.objs.size + 1) :: (vs ++ dvs)) (Value.ref (hp.objs.size + 1) :: (us ++ ds)) := .cons rfl (r1.append hd)
  have hl : (Value.ref (hp.objs.size + 1) :: us ++ ds).length = ps.length := by
    have e := r2.length
    rw [F1.len _ _ _ _ hq] at e
    exact e.symm
  have hus : us.length ≤ sizeLine := by
    rw [← Paired.length r1, sizeLine_eq]
    omega
  refine wpAny_call (PySem.HandSPX.call_own PySem.F.excBase_ValueError (fun Y => PySem.HandSPX.refsVE_contains Y bm hbm) (I1.kIn _ _ hC) (PySem.W.looks_findIn I1.kIn iC) (fun self => PySem.W.bind_fn I1.kIn self tI) hus
    (codeAny_mono (F1.run _ X.stack _ _ ⟨Value.ref (hp.objs.size + 1) :: us, []⟩ (Value.ref (hp.objs.size + 1) :: (us ++ ds)) _ _ (fun _ _ _ => False) (hr.make C us []) (I2.env0.make C us []) (hb _ (Value.ref (hp.objs.size + 1) :: us) I2.kIn hl) r2 hq) fun r s' hq' => ?_))
  cases r with
  | error er =>
    obtain ⟨_, _, _, _, _, _, _, _, _, _, _, _, z⟩ := (show L2N.CX X.prog X.w X.stack _ _ (fun _ _ _ => False) er s' from hq')
    exact z.elim
  | ok fl =>
    cases fl with
    | ret u =>
      obtain ⟨v, H2, os2, bare2, un2, hok2, rv, ev, d, fs, ea, ed, hd1, q2⟩ := hq'
      subst ev
      obtain ⟨h2, g2, d2, t2, os'⟩ := s'
      obtain ⟨t0, G, J, kG, ge, hoe, na⟩ := mk_end0 (d2 := d2) (t2 := t2) I1 up kp un2 hok2 os2 bare2 ea ed hd1
      exact ⟨rv, hp.objs.size + 1, _, _, ⟨G, g2, d2, t2, os'⟩, _, .ref C, some d, rfl, J, kG, ge, hoe, ⟨rfl, rfl, fun vs hv => by cases hv; rfl⟩, rfl, rfl, na, rfl, bare2, raises_own T.exC T.tyC, q2⟩
    | next => exact False.elim hq'
    | brk => exact False.elim hq'
    | cont => exact False.elim hq'
theorem mk_args {e : Expr} {es : List Expr} (T : OexC X.K C) (iC : PySem.W.findIn X.K (.ref C) "__init__" = some (some (.ref fI))) (tI : PySem.W.typeIn X.K (.ref fI) = some (.type "function"))
    (F1 : FnOk X.prog X.w X.K X.mg X.base (L2N.CX X.prog X.w) k fI fd ps sp) (hr : Room (k + 1) X.A) (hb : L2.Binds X.K fd ps ds) (hd : Vals dvs ds) (hg : Gl X x) (hm : X.mg x = some (.ref C)) (ha : PA X (e :: es) ta)
    (hdb : (x == ("__debug__" : Str)) = false := by decide) (he : starEach (e :: es) X.env = (false, eval e X.env) :: starEach es X.env := by rfl) (hpl : (backTo pos (starEach es X.env)).any (·.1) = false := by rfl) :
    L2N.PMk X (.Call (.Name x p) (e :: es) [] pos) (tMkO C sp dvs ta) := by
  intro pins s σ H Q I h
  refine wpAny_Call_Name_kw (ld_glob I hg hm ?_ hdb)
  exact PySem.W.callWith_K (h₀ := X.base) I.ok.mod.kin T.kC (thn (ha.run pos pins s σ H _ I h) fun us s1 ⟨vs, H1, I1, r1, hz, q1⟩ => ⟨I1.kIn, mk_core T iC tI F1 hr hb hd I1 r1 hz q1⟩) he hpl
theorem mk_none (T : OexC X.K C) (iC : PySem.W.findIn X.K (.ref C) "__init__" = some (some (.ref fI))) (tI : PySem.W.typeIn X.K (.ref fI) = some (.type "function"))
    (F1 : FnOk X.prog X.w X.K X.mg X.base (L2N.CX X.prog X.w) k fI fd ps sp) (hr : Room (k + 1) X.A) (hb : L2.Binds X.K fd ps ds) (hd : Vals dvs ds) (hg : Gl X x) (hm : X.mg x = some (.ref C)) (hdb : (x == ("__debug__" : Str)) = false := by decide) :
    L2N.PMk X (.Call (.Name x p) [] [] pos) (tMkO C sp dvs tNil) := by
  intro pins s σ H Q I ⟨hz, q1⟩
  refine wpAny_Call_Name_kw (ld_glob I hg hm ?_ hdb)
  exact PySem.W.callWith_K0 I.kIn T.kC (mk_core T iC tI F1 hr hb hd I .nil hz q1)
end
/-! ### the __init__: self.f = f -/
def spIni (K : PySem.W.Frag) (f : Str) : Sp := fun vs H Q _ => ∃ (a C : Addr) (y : V), vs = [.ref a, y] ∧ OexC K C ∧ PySem.W.findIn K (.ref C) f = some none ∧ H a = some (exo a C none) ∧ ∀ dx, H dx = none → dx ≠ a → Q .non (upd (upd H dx (exd dx [(f, y)])) a (exo a C (some dx)))
theorem ini_ok {P : Program} {w : World} {K : PySem.W.Frag} {mg : Str → Option Value} {base : Heap} {x qual s0 f n : Str} {params : Arguments} {scope : Scope} {dvs : List V} {kws : List (Str × V)} {fI : Addr} {fd : FuncData} {p1 p2 p3 p4 : Pos}
    (F : FunD K x qual params [.Assign [.Attribute (.Name s0 p1) f p2] (.Name n p3) p4] scope dvs kws fI fd) (S : FnScope [s0, n] [s0, n] scope) (v0 : Vis scope s0) (v1 : Vis scope n)
    (d1 : (s0 == ("__debug__" : Str)) = false) (d2 : (s0 == ("__classdict__" : Str)) = false) (d3 : (n == ("__debug__" : Str)) = false) (d4 : (n == ("__classdict__" : Str)) = false) :
    FnOk P w K mg base (L2N.CX P w) 1 fI fd [s0, n] (spIni K f) := by
  refine FunD.ok F S (fun vs H Q E ⟨a, C, y, e, _⟩ => by rw [e]; rfl) fun cdv A outer s H vs Q E hr ⟨a, C, y, e, T, hno, ea, q⟩ => ?_
  subst e
  exact ⟨_, pss_one (ps_ost (pe_var (i := 0) rfl v0 d1 d2) (pe_var (i := 1) rfl v1 d3 d4)), y, rfl, .ref a, rfl, a, C, rfl, T, hno, .inl ⟨ea, fun dx n1 n2 => q dx n1 n2⟩⟩
/-! ### over the readings of data -/
/-- what is known of such a class: its __init__ keeps the field f; dfl: the defaults -/
structure ExIni (P : Program) (w : World) (K : PySem.W.Frag) (mg : Str → Option Value) (base : Heap) (c : Cf) (x f : Str) (n : Nat) (dfl : List D) : Prop where
  ex : ∃ (fI : Addr) (fd : FuncData) (ps : List Str) (ds : List Value) (dvs : List V), OexC K (He.ga K x) ∧ PySem.W.findIn K (.ref (He.ga K x)) "__init__" = some (some (.ref fI)) ∧ PySem.W.typeIn K (.ref fI) = some (.type "function") ∧
    PySem.W.findIn K (.ref (He.ga K x)) f = some none ∧ FnOk P w K mg base (L2N.CX P w) 1 fI fd ps (spIni K f) ∧ L2.Binds K fd ps ds ∧ Vals dvs ds ∧ mg x = some (.ref (He.ga K x)) ∧ ps.length = 2 ∧ dvs.length + n = 1 ∧ ∀ g L, RVs c g L dfl dvs
def sRaiseF (x f : Str) (dfl : List D) (fs : Ev (List D)) : Ss := fun st h => (fs st h).out st fun ds h1 => match ds ++ dfl with
  | [d] => .exc ⟨x, some (f, d)⟩ st h1
  | _ => .no
theorem del_new {H : Hp} {a d C : Addr} {y : V} {f : Str} (ha : H a = none) (hd : d ≠ a) : upd (del (upd (upd (upd H a (exo a C none)) d (exd d [(f, y)])) a (exo a C (some d))) a) d (.xd [(f, y)]) = upd H d (.xd [(f, y)]) := by
  funext b
  by_cases e1 : b = d
  · rw [e1, upd_same, upd_same]
  · rw [upd_ne e1, upd_ne e1]
    by_cases e2 : b = a
    · rw [e2, del_same, ha]
    · rw [del_ne e2, upd_ne e2, upd_ne e1, upd_ne e2]
section
variable {c : Cf} {W : WX} {X : Cx} {x f : Str} {p pos rpos : Pos} {dfl : List D} {fs : Ev (List D)}
theorem raise_to {n : Nat} {e : Expr} (hcl : ∀ n, c.cl n = some (He.ga X.K n)) (hc : X.calm = true) (tk : L2N.Takes X W) {dvs : List V} (rd : ∀ g L, RVs c g L dfl dvs) (T : OexC X.K (He.ga X.K x)) (hno : PySem.W.findIn X.K (.ref (He.ga X.K x)) f = some none) (hl : dvs.length + n = 1)
    (mk : L2N.PMk X e (tMkO (He.ga X.K x) (spIni X.K f) dvs (tAr c W fs))) : PS X (.Raise (some e) none rpos) (tSt c W (sRaiseF x f dfl fs)) :=
  PS.imp (L2N.ps_raise hc tk mk) fun D σ H ⟨st, h, g, S, sl, q⟩ => by
    refine ⟨st, h, g, S, sl, RP.mono (OP.out sl q) fun vs H1 ⟨d1, h1, g1, o1, S1, r1, q1⟩ => ?_⟩
    have r2 := RVs.append r1 (rd g1 h1.length)
    split at q1
    · rename_i d ed
      rw [ed] at r2
      generalize ev : vs ++ dvs = zs at r2
      cases r2 with
      | @cons _ y _ _ ry rr =>
        cases rr
        have lv : vs.length ≤ 1 := by
          have := congrArg List.length ev
          simp at this
          omega
        refine ⟨by omega, fun a na => ?_⟩
        refine ⟨a, He.ga X.K x, y, rfl, T, hno, upd_same, fun dx n1 n2 => ⟨rfl, dx, [(f, y)], upd_same, ?_, ?_, ?_⟩⟩
        · rw [upd_ne n2, upd_same]
        · rw [upd_ne n2] at n1
          exact n1
        · rw [del_new na n2]
          have nd : H1 dx = none := by
            rw [upd_ne n2] at n1
            exact n1
          obtain ⟨S2, o2⟩ := S1.tree (o := .xd [(f, y)]) nd
          exact q1 _ _ σ _ _ o2 S2 ((sl.go o1).go o2) ⟨_, hcl x, rfl, dx, y, rfl, upd_same, ry.mono o2.gx (Nat.le_refl _)⟩
    · exact q1.elim
theorem s_raiseF0 {k : Nat} (hcl : ∀ n, c.cl n = some (He.ga X.K n)) (hc : X.calm = true) (tk : L2N.Takes X W) (G : ExIni X.prog X.w X.K X.mg X.base c x f 0 dfl) (hr : Room (k + 2) X.A) (hg : Gl X x) (hd : (x == ("__debug__" : Str)) = false := by decide) :
    PS X (.Raise (some (.Call (.Name x p) [] [] pos)) none rpos) (tSt c W (sRaiseF x f dfl cNil)) := by
  obtain ⟨fI, fd, ps, ds, dvs, T, iC, tI, hno, F1, hb, hv, hm, hp, hl, rd⟩ := G.ex
  refine raise_to (n := 0) (fs := cNil) hcl hc tk rd T hno hl fun pins s σ H Q I h => mk_none T iC tI F1 (hr.mono (by omega)) hb hv hg hm hd pins s σ H Q I ?_
  obtain ⟨st, h0, g, S, sl, q⟩ := h
  exact RP.ok_here q S .nil
theorem s_raiseF1 {k : Nat} {e : Expr} {es : List Expr} (hcl : ∀ n, c.cl n = some (He.ga X.K n)) (hc : X.calm = true) (tk : L2N.Takes X W) (G : ExIni X.prog X.w X.K X.mg X.base c x f 1 []) (hr : Room (k + 2) X.A) (hg : Gl X x) (ha : PA X (e :: es) (tAr c W fs)) (hd : (x == ("__debug__" : Str)) = false := by decide)
    (he : starEach (e :: es) X.env = (false, eval e X.env) :: starEach es X.env := by rfl) (hpl : (backTo pos (starEach es X.env)).any (·.1) = false := by rfl) :
    PS X (.Raise (some (.Call (.Name x p) (e :: es) [] pos)) none rpos) (tSt c W (sRaiseF x f [] fs)) := by
  obtain ⟨fI, fd, ps, ds, dvs, T, iC, tI, hno, F1, hb, hv, hm, hp, hl, rd⟩ := G.ex
  exact raise_to (n := 1) hcl hc tk rd T hno hl (mk_args T iC tI F1 (hr.mono (by omega)) hb hv hg hm ha hd he hpl)
end
/-! ### what is seen of such a class -/
def oexB (K : PySem.W.Frag) (C : Addr) : Bool := match K.lookup C with
  | some ⟨.type c, _, .cls cd, sl⟩ => (match cd.mro, sl.toList with
    | .ref C' :: bm, [_, _, _, _, some (.builtin n), _] => decide (c = "type") && (C' == C && (n == "ValueError.__new__" && (!cd.hasDel && (cd.hasDict && PySem.HandSPX.refsVE bm))))
    | _, _ => false)
  | _ => false
def oexAll (K : PySem.W.Frag) (C : Addr) : Bool := oexB K C && (He.eqO (PySem.W.findIn K (.ref C) "__setattr__") (some (some (.builtin "object.__setattr__"))) && (decide (PySem.W.subIn K (.ref C) (.type "BaseException") = some true) && (decide (PySem.W.typeIn K (.ref C) = some (.type "type")) && PySem.W.keepIn K (.ref C))))
theorem oex_of {K : PySem.W.Frag} {C : Addr} (h : oexAll K C = true) : OexC K C := by
  unfold oexAll at h
  simp only [Bool.and_eq_true, decide_eq_true_eq] at h
  obtain ⟨q, h2, h3, h4, h5⟩ := h
  refine ⟨?_, He.eqO_ok h2, h3, h4, h5⟩
  unfold oexB at q
  split at q
  · rename_i c dd cd sl ho
    split at q
    · rename_i C' bm k0 k1 k2 k3 n k5 hm hs
      simp only [Bool.and_eq_true, beq_iff_eq, Bool.not_eq_true', decide_eq_true_eq] at q
      obtain ⟨rfl, rfl, rfl, hdel, hdict, ht⟩ := q
      obtain ⟨nm, bs, mro, ns, qn, hd, sn, sub, ab, col, del⟩ := cd
      dsimp only at hm hdel hdict
      subst hm hdel hdict
      have hsl : sl = #[k0, k1, k2, k3, some (.builtin "ValueError.__new__"), k5] := by
        obtain ⟨l⟩ := sl
        simp only at hs
        rw [hs]
      subst hsl
      exact ⟨nm, qn, ns, bs, bm, sn, sub, ab, col, dd, k0, k1, k2, k3, k5, ho, ht⟩
    · cases q
  · cases q
def iniB (K : PySem.W.Frag) (x f : Str) : Bool := oexAll K (He.ga K x) && (He.eqO (PySem.W.findIn K (.ref (He.ga K x)) "__init__") (some (some (.ref (He.ma K (He.ga K x) "__init__")))) && (decide (PySem.W.typeIn K (.ref (He.ma K (He.ga K x) "__init__")) = some (.type "function")) &&
  He.eqO (PySem.W.findIn K (.ref (He.ga K x)) f) (some none)))
theorem exIni_of {P : Program} {w : World} {K : PySem.W.Frag} {mg : Str → Option Value} {base : Heap} {c : Cf} {x f : Str} {fd : FuncData} {ps : List Str} {dvs : List V} {n : Nat} {dfl : List D} (b : iniB K x f = true) (hm : mg x = some (.ref (He.ga K x))) (hp : ps.length = 2)
    (F1 : FnOk P w K mg base (L2N.CX P w) 1 (He.ma K (He.ga K x) "__init__") fd ps (spIni K f)) (hb : ∃ ds, Vals dvs ds ∧ L2.Binds K fd ps ds) (hl : dvs.length + n = 1) (rd : ∀ g L, RVs c g L dfl dvs) : ExIni P w K mg base c x f n dfl := by
  unfold iniB at b
  simp only [Bool.and_eq_true, decide_eq_true_eq] at b
  obtain ⟨b1, b2, b3, b4⟩ := b
  obtain ⟨ds, hv, hb⟩ := hb
  exact ⟨_, fd, ps, ds, dvs, oex_of b1, He.eqO_ok b2, b3, He.eqO_ok b4, F1, hb, hv, hm, hp, hl, rd⟩
/-! ### classes in the text -/
def clsBody (s : Stmt) : List Stmt := match s with
  | .ClassDef _ _ _ b _ _ _ _ _ _ _ => b
  | _ => []
def methAt (s : Stmt) (j : Nat) : Stmt := (clsBody s).getD j (.Pass ⟨0, 0, 0, 0⟩)
end Gm

/-! Gm33: a callee's new list taken as a value. -/
namespace Gm
open PySem PySem.Spec PyProof.Rows L2
def fzK (d : D) (h : Store) : Res D := match d with
  | .ref n => match h[n]? with
    | some (some (.lst l)) => .ok (.lst l) (h.set n none)
    | _ => .no
  | _ => .no
/-- the new cell that an expression tells, frozen -/
def cFz (f : Ev D) : Ev D := fun st h => (f st h).bind fzK
theorem e_fz {c : Cf} {W : WX} {X : Cx} {e : Expr} {f : Ev D} (p : PE X e (tEv c W f)) : PE X e (tEv c W (cFz f)) := PE.imp p fun σ H Q ⟨st, h, g, S, sl, q⟩ => by
  refine ⟨st, h, g, S, sl, RP.mono (RP.bind q) fun v H1 ⟨d, h1, g1, o1, S1, r1, q1⟩ => ?_⟩
  unfold fzK at q1
  split at q1
  · rename_i n
    split at q1
    · rename_i l e2
      obtain ⟨vs, e4, rs⟩ := S1.cell n _ e2
      cases r1 with
      | ref hn =>
        obtain ⟨S2, o2⟩ := S1.frz e2 e4
        exact q1 _ H1 _ o2 S2 (.lst upd_same (by rw [List.length_set]; exact rs.mono o2.gx (Nat.le_refl _)))
    · exact q1.elim
  · exact q1.elim
end Gm

/-! Gm34: the empty tuple as a default. -/
namespace Gm
open PySem PySem.Spec PyProof.Rows L2
def emTup (K : PySem.W.Frag) (a : Addr) : Bool := match K.lookup a with
  | some o => (match o.cls with
    | .type t => t == "tuple"
    | _ => false) && (match o.data with
    | .seq its _ => its.toList.isEmpty
    | _ => false)
  | none => false
theorem emTup_ok {c : Cf} {a : Addr} (e : emTup c.K a = true) (g : Gh) (L : Nat) : RV c g L (.tup []) (.ref a) := by
  unfold emTup at e
  split at e
  · rename_i o h1
    rw [Bool.and_eq_true] at e
    obtain ⟨e1, e2⟩ := e
    split at e1
    · rename_i t h2
      split at e2
      · rename_i its n h3
        have h4 : its.toList = [] := by simpa using e2
        have e1 : t = "tuple" := by simpa using e1
        refine .tup (.inr ⟨o, its, n, h1, by rw [h2, e1], h3, ?_, ?_⟩) .nil
        · have : its.size = 0 := by rw [← Array.length_toList, h4]; rfl
          rw [this]
          exact Nat.zero_le _
        · rw [h4]
          exact .nil
      · cases e2
    · cases e1
  · cases e
end Gm

namespace K07
open PySem PySem.Spec PyProof.Rows L2 Gm
def ET : ExcT := ⟨[("GateError", "ValueError"), ("BadThings", "GateError"), ("BadTable", "GateError"), ("NoThing", "GateError"), ("BadName", "GateError"), ("Taken", "GateError"), ("Full", "GateError"), ("BadStart", "GateError"), ("BadEdge", "GateError"), ("NoNode", "GateError"), ("NoName", "GateError"), ("BadRow", "GateError"), ("NothingLeft", "GateError"), ("NotFolded", "GateError"), ("BadLeaves", "GateError"), ("Unlike", "GateError"), ("BadState", "GateError"), ("NotClosed", "GateError"), ("NotMovable", "GateError"), ("BadDelay", "GateError"), ("BadCost", "GateError"), ("TooMany", "GateError"), ("BadDeed", "GateError"), ("BadRounds", "GateError"), ("BadGate", "GateError"), ("BadText", "GateError"), ("Loop", "GateError"), ("MissingError", "LookupError"), ("NoCell", "MissingError"), ("NoDesign", "MissingError"), ("NoWire", "MissingError")], ["BadThings", "BadTable", "NoThing", "BadName", "Taken", "Full", "BadStart", "BadEdge", "NoNode", "NoName", "BadRow", "NothingLeft", "NotFolded", "BadLeaves", "Unlike", "BadState", "NotClosed", "NotMovable", "BadDelay", "BadCost", "TooMany", "BadDeed", "BadRounds", "BadGate", "BadText", "Loop", "NoCell", "NoDesign", "NoWire"], ["GateError", "BadThings", "BadTable", "NoThing", "BadName", "Taken", "Full", "BadStart", "BadEdge", "NoNode", "NoName", "BadRow", "NothingLeft", "NotFolded", "BadLeaves", "Unlike", "BadState", "NotClosed", "NotMovable", "BadDelay", "BadCost", "TooMany", "BadDeed", "BadRounds", "BadGate", "BadText", "Loop", "MissingError", "NoCell", "NoDesign", "NoWire"]⟩
def top (i : Nat) : Stmt := PySem.Challenge.pw_gatemill_k07_tables_of_nodes.main.body.getD i (.Pass ⟨0, 0, 0, 0⟩)
abbrev s_law_box : Stmt := top 52
abbrev s_law_take : Stmt := top 53
abbrev s_law_names : Stmt := top 55
abbrev s_law_frame : Stmt := top 67
abbrev s_law_some_edge : Stmt := top 65
abbrev s_law_ends : Stmt := top 66
abbrev s_law_net : Stmt := top 68
abbrev s_is_name : Stmt := top 42
abbrev s_need_name : Stmt := top 43
abbrev s_need_names : Stmt := top 44
abbrev s_Net___init__ : Stmt := methAt (top 45) 0
abbrev s_law_made : Stmt := top 64
abbrev s_law_bit : Stmt := top 59
abbrev s_law_told : Stmt := top 61
abbrev s_law_values : Stmt := top 60
abbrev s_law_things : Stmt := top 62
abbrev s_law_tables : Stmt := top 63
abbrev s_law_far : Stmt := top 56
abbrev s_Net_things : Stmt := methAt (top 45) 10
abbrev s_full_of : Stmt := top 33
abbrev s_Net_gates : Stmt := methAt (top 45) 7
abbrev s_column_of : Stmt := top 34
abbrev s_signed : Stmt := top 47
abbrev s_tables_of : Stmt := top 48
abbrev s_tables : Stmt := top 49
abbrev s_law_same : Stmt := top 54
abbrev s_Net_many : Stmt := methAt (top 45) 11
abbrev s_need_edge : Stmt := top 46
abbrev s_edge_table : Stmt := top 50
abbrev s_law_kin : Stmt := top 57
abbrev s_law_tried : Stmt := top 58
abbrev s_law : Stmt := top 69
def d_law_box : He.DefD := ⟨("_law_box", none), "_law_box", "_law_box", defArgs s_law_box, defBody s_law_box, defScope s_law_box, [], []⟩
def d_law_take : He.DefD := ⟨("_law_take", none), "_law_take", "_law_take", defArgs s_law_take, defBody s_law_take, defScope s_law_take, [], []⟩
def d_law_names : He.DefD := ⟨("_law_names", none), "_law_names", "_law_names", defArgs s_law_names, defBody s_law_names, defScope s_law_names, [], []⟩
def d_law_frame : He.DefD := ⟨("_law_frame", none), "_law_frame", "_law_frame", defArgs s_law_frame, defBody s_law_frame, defScope s_law_frame, [], []⟩
def d_law_some_edge : He.DefD := ⟨("_law_some_edge", none), "_law_some_edge", "_law_some_edge", defArgs s_law_some_edge, defBody s_law_some_edge, defScope s_law_some_edge, [], []⟩
def d_law_ends : He.DefD := ⟨("_law_ends", none), "_law_ends", "_law_ends", defArgs s_law_ends, defBody s_law_ends, defScope s_law_ends, [], []⟩
def d_law_net : He.DefD := ⟨("_law_net", none), "_law_net", "_law_net", defArgs s_law_net, defBody s_law_net, defScope s_law_net, [], []⟩
def d_is_name : He.DefD := ⟨("is_name", none), "is_name", "is_name", defArgs s_is_name, defBody s_is_name, defScope s_is_name, [], []⟩
def d_need_name : He.DefD := ⟨("need_name", none), "need_name", "need_name", defArgs s_need_name, defBody s_need_name, defScope s_need_name, [], []⟩
def d_need_names : He.DefD := ⟨("need_names", none), "need_names", "need_names", defArgs s_need_names, defBody s_need_names, defScope s_need_names, [], []⟩
def d_Net___init__ : He.DefD := ⟨("Net", some "__init__"), "__init__", "Net.__init__", defArgs s_Net___init__, defBody s_Net___init__, defScope s_Net___init__, [.adr (He.dflAt ("Net", some "__init__") 0), .adr (He.dflAt ("Net", some "__init__") 1), .adr (He.dflAt ("Net", some "__init__") 2), .adr (He.dflAt ("Net", some "__init__") 3)], []⟩
def d_law_made : He.DefD := ⟨("_law_made", none), "_law_made", "_law_made", defArgs s_law_made, defBody s_law_made, defScope s_law_made, [], []⟩
def d_law_bit : He.DefD := ⟨("_law_bit", none), "_law_bit", "_law_bit", defArgs s_law_bit, defBody s_law_bit, defScope s_law_bit, [], []⟩
def d_law_told : He.DefD := ⟨("_law_told", none), "_law_told", "_law_told", defArgs s_law_told, defBody s_law_told, defScope s_law_told, [], []⟩
def d_law_values : He.DefD := ⟨("_law_values", none), "_law_values", "_law_values", defArgs s_law_values, defBody s_law_values, defScope s_law_values, [], []⟩
def d_law_things : He.DefD := ⟨("_law_things", none), "_law_things", "_law_things", defArgs s_law_things, defBody s_law_things, defScope s_law_things, [], []⟩
def d_law_tables : He.DefD := ⟨("_law_tables", none), "_law_tables", "_law_tables", defArgs s_law_tables, defBody s_law_tables, defScope s_law_tables, [], []⟩
def d_law_far : He.DefD := ⟨("_law_far", none), "_law_far", "_law_far", defArgs s_law_far, defBody s_law_far, defScope s_law_far, [], []⟩
def d_Net_things : He.DefD := ⟨("Net", some "things"), "things", "Net.things", defArgs s_Net_things, defBody s_Net_things, defScope s_Net_things, [], []⟩
def d_full_of : He.DefD := ⟨("full_of", none), "full_of", "full_of", defArgs s_full_of, defBody s_full_of, defScope s_full_of, [], []⟩
def d_Net_gates : He.DefD := ⟨("Net", some "gates"), "gates", "Net.gates", defArgs s_Net_gates, defBody s_Net_gates, defScope s_Net_gates, [], []⟩
def d_column_of : He.DefD := ⟨("column_of", none), "column_of", "column_of", defArgs s_column_of, defBody s_column_of, defScope s_column_of, [], []⟩
def d_signed : He.DefD := ⟨("signed", none), "signed", "signed", defArgs s_signed, defBody s_signed, defScope s_signed, [], []⟩
def d_tables_of : He.DefD := ⟨("tables_of", none), "tables_of", "tables_of", defArgs s_tables_of, defBody s_tables_of, defScope s_tables_of, [], []⟩
def d_tables : He.DefD := ⟨("tables", none), "tables", "tables", defArgs s_tables, defBody s_tables, defScope s_tables, [], []⟩
def d_law_same : He.DefD := ⟨("_law_same", none), "_law_same", "_law_same", defArgs s_law_same, defBody s_law_same, defScope s_law_same, [], []⟩
def d_Net_many : He.DefD := ⟨("Net", some "many"), "many", "Net.many", defArgs s_Net_many, defBody s_Net_many, defScope s_Net_many, [], []⟩
def d_need_edge : He.DefD := ⟨("need_edge", none), "need_edge", "need_edge", defArgs s_need_edge, defBody s_need_edge, defScope s_need_edge, [], []⟩
def d_edge_table : He.DefD := ⟨("edge_table", none), "edge_table", "edge_table", defArgs s_edge_table, defBody s_edge_table, defScope s_edge_table, [], []⟩
def d_law_kin : He.DefD := ⟨("_law_kin", none), "_law_kin", "_law_kin", defArgs s_law_kin, defBody s_law_kin, defScope s_law_kin, [], []⟩
def d_law_tried : He.DefD := ⟨("_law_tried", none), "_law_tried", "_law_tried", defArgs s_law_tried, defBody s_law_tried, defScope s_law_tried, [], []⟩
def d_law : He.DefD := ⟨("law", none), "law", "law", defArgs s_law, defBody s_law, defScope s_law, [], []⟩
abbrev m_ini_BadGate : Stmt := methAt (top 25) 0
theorem sc_ini_BadGate : FnScope ["self", "at"] ["self", "at"] (defScope m_ini_BadGate) := ⟨rfl, rfl, rfl, by decide +kernel, rfl, by decide +kernel, by decide +kernel⟩
def d_ini_BadGate : He.DefD := ⟨("BadGate", some "__init__"), "__init__", "BadGate.__init__", defArgs m_ini_BadGate, defBody m_ini_BadGate, defScope m_ini_BadGate, [.int 0], []⟩
def fns : List He.DefD := [d_law_box, d_law_take, d_law_names, d_law_frame, d_law_some_edge, d_law_ends, d_law_net, d_is_name, d_need_name, d_need_names, d_Net___init__, d_law_made, d_law_bit, d_law_told, d_law_values, d_law_things, d_law_tables, d_law_far, d_Net_things, d_full_of, d_Net_gates, d_column_of, d_signed, d_tables_of, d_tables, d_law_same, d_Net_many, d_need_edge, d_edge_table, d_law_kin, d_law_tried, d_law, d_ini_BadGate]
def fas : List He.Fa := [.glo "_law_box", .glo "_law_take", .glo "_law_names", .glo "_law_frame", .glo "_law_some_edge", .glo "_law_ends", .glo "_law_net", .glo "is_name", .glo "need_name", .glo "need_names", .glo "_law_made", .glo "_law_bit", .glo "_law_told", .glo "_law_values", .glo "_law_things", .glo "_law_tables", .glo "_law_far", .glo "full_of", .glo "column_of", .glo "signed", .glo "tables_of", .glo "tables", .glo "_law_same", .glo "need_edge", .glo "edge_table", .glo "_law_kin", .glo "_law_tried", .glo "law", .cls "Net", .mkr "Net", .noat "Net" "ins", .noat "Net" "later", .noat "Net" "memory", .noat "Net" "pairs", .noat "Net" "tells", .meth "Net" "things", .meth "Net" "gates", .meth "Net" "many", .free "LookupError", .free "ValueError", .free "all", .free "any", .free "bool", .free "enumerate", .free "int", .free "isinstance", .free "len", .free "list", .free "max", .free "min", .free "range", .free "set", .free "str", .free "tuple", .free "zip", .int "LONGEST" 8, .str "LETTERS" "abcdefghijklmnopqrstuvwxyz", .int "MOST_INPUTS" 6, .int "MOST_LATCHES" 4, .int "MOST_GATES" 60, .int "MOST_OUTS" 8, .glo "BadCost", .glo "BadDeed", .glo "BadDelay", .glo "BadEdge", .glo "BadGate", .glo "BadLeaves", .glo "BadName", .glo "BadRounds", .glo "BadRow", .glo "BadStart", .glo "BadState", .glo "BadTable", .glo "BadText", .glo "BadThings", .glo "Full", .glo "GateError", .glo "Loop", .glo "MissingError", .glo "Net", .glo "NoCell", .glo "NoDesign", .glo "NoName", .glo "NoNode", .glo "NoThing", .glo "NoWire", .glo "NotClosed", .glo "NotFolded", .glo "NotMovable", .glo "NothingLeft", .glo "Taken", .glo "TooMany", .glo "Unlike", .glo "BadEdge", .exc "BadEdge", .glo "BadName", .exc "BadName", .glo "BadStart", .exc "BadStart", .glo "Full", .exc "Full", .glo "Taken", .exc "Taken"]
def tqs : Tq := [(("law", none), "law")]
def exB (K : PySem.W.Frag) : Bool := iniB K "BadGate" "at" && (excTB ET K && (emTup K (He.dflAt ("Net", some "__init__") 0 K) && (emTup K (He.dflAt ("Net", some "__init__") 1 K) && (emTup K (He.dflAt ("Net", some "__init__") 2 K) && (emTup K (He.dflAt ("Net", some "__init__") 3 K))))))
def looseN : List PySem.Str := ([PySem.Str.ofString "GateError", PySem.Str.ofString "BadThings", PySem.Str.ofString "BadTable", PySem.Str.ofString "NoThing", PySem.Str.ofString "BadName", PySem.Str.ofString "Taken", PySem.Str.ofString "Full", PySem.Str.ofString "BadStart", PySem.Str.ofString "BadEdge", PySem.Str.ofString "NoNode", PySem.Str.ofString "NoName", PySem.Str.ofString "BadRow", PySem.Str.ofString "NothingLeft", PySem.Str.ofString "NotFolded", PySem.Str.ofString "BadLeaves", PySem.Str.ofString "Unlike", PySem.Str.ofString "BadState", PySem.Str.ofString "NotClosed", PySem.Str.ofString "NotMovable", PySem.Str.ofString "BadDelay"] ++ [PySem.Str.ofString "BadCost", PySem.Str.ofString "TooMany", PySem.Str.ofString "BadDeed", PySem.Str.ofString "BadRounds", PySem.Str.ofString "BadGate", PySem.Str.ofString "BadText", PySem.Str.ofString "Loop", PySem.Str.ofString "MissingError", PySem.Str.ofString "NoCell", PySem.Str.ofString "NoDesign", PySem.Str.ofString "NoWire", PySem.Str.ofString "full_of", PySem.Str.ofString "column_of", PySem.Str.ofString "LETTERS", PySem.Str.ofString "LONGEST", PySem.Str.ofString "MOST_INPUTS", PySem.Str.ofString "MOST_LATCHES", PySem.Str.ofString "MOST_GATES", PySem.Str.ofString "MOST_OUTS", PySem.Str.ofString "is_name"] ++ [PySem.Str.ofString "need_name", PySem.Str.ofString "need_names", PySem.Str.ofString "Net", PySem.Str.ofString "need_edge", PySem.Str.ofString "signed", PySem.Str.ofString "tables_of", PySem.Str.ofString "tables", PySem.Str.ofString "edge_table", PySem.Str.ofString "_law_box", PySem.Str.ofString "_law_take", PySem.Str.ofString "_law_same", PySem.Str.ofString "_law_names", PySem.Str.ofString "_law_far", PySem.Str.ofString "_law_kin", PySem.Str.ofString "_law_tried", PySem.Str.ofString "_law_bit", PySem.Str.ofString "_law_values", PySem.Str.ofString "_law_told", PySem.Str.ofString "_law_things", PySem.Str.ofString "_law_tables"] ++ [PySem.Str.ofString "_law_made", PySem.Str.ofString "_law_some_edge", PySem.Str.ofString "_law_ends", PySem.Str.ofString "_law_frame", PySem.Str.ofString "_law_net"])
abbrev R : PySem.W.OpenRow := PySem.W.OpenLaw.row PySem.Challenge.rw_gatemill_k07_tables_of_nodes
set_option maxHeartbeats 0 in
theorem run (w : World) : HandSHeadRun.RunEq R (PySem.W.view R.prog [69]) (hookN 6 fas fns tqs exB) (obN 6 fas fns tqs exB) 20000 looseN w := by
  intro os
  kernel_rfl
end K07

/-! Gm17: len(set(xs)) of a list of texts. -/
namespace Gm
open PySem PySem.Spec PyProof.Rows
/-- the distinct ones among the first i -/
def dst (xs : List Str) : Nat → Nat
  | 0 => 0
  | i + 1 => if (xs.take i).contains (xs.getD i Str.empty) = true then dst xs i else dst xs i + 1
theorem dst_le (xs : List Str) : ∀ i, dst xs i ≤ i
  | 0 => Nat.le_refl 0
  | i + 1 => by
    have := dst_le xs i
    unfold dst
    split <;> omega
abbrev TxSet (p : Program) (w : World) (xs : List Str) (i : Nat) (a : Addr) (h : Heap) : Prop := h.SetOf (PySem.strKind p w) a (fun k => (xs.take i).contains k) (dst xs i)
theorem TxSet.next {p : Program} {w : World} {xs : List Str} {i : Nat} {a : Addr} {h : Heap} (hi : i < xs.length) (q : h.SetOf (PySem.strKind p w) a (fun k => (xs.take i).contains k || decide (k = xs.getD i Str.empty)) (if (xs.take i).contains (xs.getD i Str.empty) then dst xs i else dst xs i + 1)) : TxSet p w xs (i + 1) a h := by
  refine PyProof.Rows.SetOf_congr q (fun k => ?_) rfl
  have e : xs.take (i + 1) = xs.take i ++ [xs.getD i Str.empty] := by
    rw [List.take_succ_eq_append_getElem hi, List.getD_eq_getElem?_getD, List.getElem?_eq_getElem hi]
    rfl
  rw [e, List.contains_append]
  congr 1
  simp only [List.contains_cons, List.contains_nil, Bool.or_false]
  exact (Bool.beq_eq_decide_eq k _).symm
theorem TxSet.moved {p : Program} {w : World} {xs : List Str} {i : Nat} {a : Addr} {h h' : Heap} (x : TxSet p w xs i a h) (k : ∀ o, h.get? a = some o → h'.get? a = some o) : TxSet p w xs i a h' := by
  obtain ⟨o, es, ep, t, ho, r⟩ := x
  exact ⟨o, es, ep, t, k o ho, r⟩
section
variable {prog : Program} {w : World} {A : Around} {R : Result → Shared → Prop} {I S : Addr} {fp wr : List Addr} {G : Array GenState → Array GenState → Prop} {n : Nat} {P : Nat → Value → Prop} {St : Nat → Shared → Prop} {xs : List Str}
theorem tx_loop (W : WalksS prog w A.in1 I fp wr G n P St) (nS : S ∉ fp) (ln : xs.length = n) (fits : n + 1 < scanBound) (at_ : ∀ i v, P i v → ∃ t, v = .str (xs.getD i Str.empty) t) : ∀ (j : Nat) (s : Shared), j ≤ n → St (n - j) s → TxSet prog w xs (n - j) S s.heap →
    (∀ s', Moved (S :: wr) G s s' → TxSet prog w xs n S s'.heap → R (.ok (.ret .none)) s') → codeAny (model prog w) A (.builtin "set.update.loop" ⟨[.ref S, .ref I], []⟩) R s := by
  have nW : S ∉ wr := fun z => nS (W.sub _ z)
  have up : ∀ b ∈ wr, b ∈ S :: wr := fun b => List.mem_cons_of_mem S
  intro j
  induction j with
  | zero =>
    intro s _ st tx fin
    refine codeAny_builtin PyProof.Rows.F.entry_set_update_loop ?_
    rw [Around.under_plainId PyProof.Rows.F.plain_set_update_loop _]
    refine wpAny_bind (m := pyNext (.ref I)) (W.done s _ _ st fun s' mv => ?_)
    exact wpAny_pure (fin s' (mv.mono up) (tx.moved fun o e => mv.heap S o nW e))
  | succ j ih =>
    intro s hj st tx fin
    have lt : n - (j + 1) < n := by omega
    have nx : n - j = n - (j + 1) + 1 := by omega
    refine codeAny_builtin PyProof.Rows.F.entry_set_update_loop ?_
    rw [Around.under_plainId PyProof.Rows.F.plain_set_update_loop _]
    refine wpAny_bind (m := pyNext (.ref I)) (W.item (n - (j + 1)) s _ _ lt st fun v s1 pv st1 mv => ?_)
    obtain ⟨t, rfl⟩ := at_ _ v pv
    have tx1 := tx.moved (h' := s1.heap) fun o e => mv.heap S o nW e
    refine wpAny_bind (m := holding [Value.str (xs.getD (n - (j + 1)) Str.empty) t] (setAdd S (.str (xs.getD (n - (j + 1)) Str.empty) t))) (wpAny_holding ?_)
    unfold setAdd
    refine wpAny_holding (wpAny_bind ((PySem.strKind prog w).pyHash (k := xs.getD (n - (j + 1)) Str.empty) (strKind_is _ _ _ _) ?_))
    have room : dst xs (n - (j + 1)) + 1 < scanBound := by have := dst_le xs (n - (j + 1)); omega
    refine wpAny_setAddHashed_of (knd := PySem.strKind prog w) (s := { s1 with toks := s1.toks + 1 }) (strKind_is _ _ _ _) rfl tx1 room fun h2 same tx2 => ?_
    have tx3 : TxSet prog w xs (n - j) S h2 := by
      rw [nx]
      exact TxSet.next (by omega) tx2
    have off : ∀ b, b ≠ S → ∀ o, s1.heap.get? b = some o → h2.get? b = some o := fun b nb o e => (same.2 b nb).trans e
    refine wpAny_pure ⟨plainId_quiet PyProof.Rows.F.plain_set_update_loop _, ih _ (by omega) ?_ tx3 fun s3 mv3 tx4 => ?_⟩
    · rw [nx]
      exact W.frame _ s1 _ _ st1 (Nat.le_succ _) fun b hb o e => off b (fun z => nS (by rw [← z]; exact hb)) o e
    · exact fin s3 (Moved.trans W.gtrans ((mv.mono up).then_heap (Nat.le_succ _) fun b o hb e => off b (fun z => hb (by rw [z]; exact List.mem_cons_self)) o e) mv3) tx4
end
section
variable {prog : Program} {w : World} {A : Around} {E : Value → Shared → Prop} {s : Shared}
/-- the new, empty set -/
abbrev set0 (led : Bool) : Obj := { cls := .type "set", dict := none, data := .set #[] 0 (.fresh 0 0 led) }
/-- what stands behind set(xs) -/
def SetDone (p : Program) (w : World) (xs : List Str) (s t : Shared) : Prop := ∃ (h' : Heap) (tk : Nat), t = { s with heap := h', toks := tk } ∧ TxSet p w xs xs.length s.heap.objs.size h' ∧ ∀ b o, b < s.heap.objs.size → s.heap.get? b = some o → h'.get? b = some o
set_option maxHeartbeats 3200000 in
theorem set_texts {l : Addr} {items : Array Value} {xs : List Str} {Q : Value → Shared → Prop} (hh : A.handled = none) (hl : s.heap.IsList l items) (hi : PyProof.Rows.StrsAre items.toList xs) (few : xs.length + 1 < scanBound)
    (q : ∀ t, SetDone prog w xs s t → Q (.ref s.heap.objs.size) t) : wpAny (model prog w) A (call (.type "set") [.ref l]) Q E s := by
  have ks := PySem.F.called_set
  obtain ⟨c, tl, hmro⟩ := ks.mro
  have u1 := ks.made
  have u2 := ks.sub
  have u3 := ks.notType
  have u4 := ks.canCreate
  have u5 := PySem.F.typeCall_set_1 (.ref l)
  refine wpAny_call (codeAny_of_tree (show wpAny _ _ (callAny (.type "set") _) _ _ _ from ?_))
  refine wpAny_pure ⟨Code.quiet_builtin _ (by decide +kernel), codeAny_builtin PySem.F.entry_type_call ?_⟩
  rw [Around.under_plain (weight_type_call_type "set" [.ref l] []) rfl]
  repeat (any_goals (first
    | assumption
    | wp_step))
  refine codeAny_mono (code_set_new_1 (.ref l) (E := E) (Q₁ := fun obj t => ∃ led : Bool, obj = .ref s.heap.objs.size ∧ t = { s with heap := s.heap.push (set0 led) }) fun led => ⟨led, rfl, rfl⟩) fun r t hr => ?_
  cases r with
  | error e => exact hr
  | ok fl =>
    cases fl with
    | ret obj =>
      obtain ⟨led, rfl, rfl⟩ := hr
      have hS : (s.heap.push (set0 led)).get? s.heap.objs.size = some (set0 led) := Heap.get?_push_size _ rfl
      have hT : Shared.TypeIs { s with heap := s.heap.push (set0 led) } (.ref s.heap.objs.size) "set" := ⟨_, hS, rfl⟩
      have v1 := ks.init.lookup
      have v2 := ks.init.bind (.ref s.heap.objs.size)
      repeat (any_goals (first
        | assumption
        | wp_step))
      refine codeAny_mono (codeAny_call_builtin (R := wants (fun r t => r = .none ∧ SetDone prog w xs s t) E) ks.init.plain PySem.F.entry_set_init (check_set_init_1 hT ?_)) fun r2 t2 hr2 => ?_
      · obtain ⟨⟨oc, od, odt, osl⟩, hol, hcl, nl, hdl⟩ := hl
        simp only at hcl hdl
        subst hcl hdl
        have hol2 : (s.heap.push (set0 led)).get? l = some { cls := .type "list", dict := od, data := .seq items nl, slots := osl } := Heap.get?_push_of_some _ hol
        have hls : (s.heap.push (set0 led)).IsList l items := ⟨_, hol2, rfl, nl, rfl⟩
        have q1 := PySem.F.sub_list_set
        have q2 := PySem.F.sub_list_frozenset
        have q3 : (Value.type "list" == Value.type "dict") = false := by decide
        unfold Builtin.«set.__init__» noKeywords
        unfold Builtin.Frozenset.updateFrom
        generalize eI : pyIter = PI
        wp_walk
        subst eI
        refine wpAny_pyIter_list hls (wpAny_bind (wpAny_runValue ?_))
        have lS : l < s.heap.objs.size := Heap.lt_size hol
        have calm3 : A.in1.in1.in1.handled = none := by simp [hh]
        have sz : (s.heap.push (set0 led)).objs.size = s.heap.objs.size + 1 := Heap.size_push _ _
        have neI : l ≠ (s.heap.push (set0 led)).objs.size := by
          rw [sz]
          exact Nat.ne_of_lt (Nat.lt_succ_of_lt lS)
        have away : s.heap.objs.size ∉ [(s.heap.push (set0 led)).objs.size, l] := by
          intro z
          rcases List.mem_cons.mp z with z | z
          · rw [sz] at z
            exact Nat.ne_of_lt (Nat.lt_succ_self _) z
          · exact Nat.ne_of_lt lS (List.mem_singleton.mp z).symm
        have ln : xs.length = items.size := by rw [← PyProof.Rows.StrsAre.len_eq hi, Array.length_toList]
        have begin0 : TxSet prog w xs (items.size - items.size) s.heap.objs.size ((s.heap.push (set0 led)).push { cls := .type "list_iterator", data := .fields #[.ref l, .int 0 0] }) := by
          rw [Nat.sub_self]
          exact PyProof.Rows.SetOf_congr ((PyProof.Rows.setObjOf_fresh (knd := PySem.strKind prog w) led).setOf (Heap.get?_push_of_some _ hS) (by unfold scanBound; omega)) (fun _ => rfl) rfl
        refine tx_loop (xs := xs) ((Walks.list calm3 _ l neI items).toS) away ln (by rw [← ln]; exact few) (fun i v hv => SS.strs_at hi i v (by rw [Array.getElem?_toList]; exact hv)) items.size _ (Nat.le_refl _)
          (by rw [Nat.sub_self]; exact ⟨⟨_, Heap.get?_push_size _ rfl, rfl, rfl⟩, hls.push _⟩) begin0 fun s3 mv tx => ?_
        obtain ⟨h3, g3, d3, k3, os3⟩ := s3
        have e1 : g3 = s.gens := mv.gens
        have e2 : d3 = s.drawn := mv.drawn
        have e3 : os3 = s.os := mv.os
        subst e1 e2 e3
        refine wpAny_pure (show wpAny _ _ (ret Value.none) _ _ _ from wpAny_pure ⟨rfl, h3, k3, rfl, by rw [ln]; exact tx, fun b o hb e => ?_⟩)
        refine mv.heap b o (fun z => ?_) (Heap.get?_push_of_some _ (Heap.get?_push_of_some _ e))
        rcases List.mem_cons.mp z with z | z
        · exact Nat.ne_of_lt hb z
        · have z := List.mem_singleton.mp z
          rw [sz] at z
          exact Nat.ne_of_lt (Nat.lt_succ_of_lt hb) z
      · cases r2 with
        | error e => exact hr2
        | ok f2 =>
          cases f2 with
          | ret r =>
            obtain ⟨rfl, done⟩ := hr2
            have done2 := q t2 done
            obtain ⟨h9, k9, rfl, _⟩ := done
            repeat (any_goals (first
              | assumption
              | wp_step))
          | _ => exact hr2.elim
    | _ => exact hr.elim
end
open L2
def tLenTx (K : PySem.W.Frag) (ta : TE) : TE := fun σ H Q => ta σ H fun x H1 => ∃ (l : Addr) (xs : List Str), x = .ref l ∧ SqL K H1 l (xs.map V.str) ∧ xs.length ≤ 1000 ∧ Q (.int (dst xs xs.length : Nat)) H1
theorem few1000 : (1001 : Nat) < scanBound := by decide
section
variable {c : Cf} {W : WX} {X : Cx} {a : Expr} {fa : Ev D} {p p2 q pos : Pos}
theorem pe_lenTx {ta : TE} (hc : X.calm = true) (hg : Gl X "len") (hm : X.mg "len" = none) (hg2 : Gl X "set") (hm2 : X.mg "set" = none) (ha : PE X a ta) (na : starEach [a] X.env = (false, eval a X.env) :: starEach [] X.env := by rfl) :
    PE X (.Call (.Name "len" p) [.Call (.Name "set" p2) [a] [] q] [] pos) (tLenTx X.K ta) := by
  constructor
  intro pins s σ H Q I h
  refine Call_ (ld_blt I hg hm boot_len (PyProof.Rows.callWith_builtin1 (PyProof.Rows.args_cons (Call_ (ld_blt I hg2 hm2 boot_set ?_)) rfl) rfl rfl))
  refine PyProof.Rows.callWith_type1 (PyProof.Rows.args_cons (thn (ha.run pins s σ H _ I h) ?_) na) na rfl
  rintro v s1 ⟨x, H1, I1, r1, l, xs, rfl, hq, hl, q1⟩
  cases r1
  obtain ⟨its, r, pl, hz⟩ := I1.list hq
  have few : xs.length + 1 < scanBound := Nat.lt_of_le_of_lt (Nat.succ_le_succ hl) few1000
  refine PyProof.Rows.args_nil (set_texts (I1.ok.hd hc) pl.isList (by simpa using strsAre_of r) few ?_)
  rintro t ⟨h', tk, rfl, tx, keep⟩
  refine PyProof.Rows.args_nil ?_
  obtain ⟨o, es, ep, tb, ho, hex, hd, _, _, _, hf, hn⟩ := tx
  have I2 : Inv X pins σ H1 { s1 with heap := h', toks := tk } := I1.kept fun b o e => keep b o (Heap.lt_size e) e
  have dl := dst_le xs xs.length
  refine call_len_set ho hex hd hf (by rw [hn]; omega) ⟨.int (dst xs xs.length : Nat), H1, I2.tok _, ⟨_, by rw [hn]⟩, q1⟩
def cLenSet (fe : Ev D) : Ev D := fun st h => (fe st h).bind fun d h1 => match asR h1 d with
  | some l => match strsOf l with
    | some xs => if xs.length ≤ 1000 then .ok (.int (dst xs xs.length : Nat)) h1 else .no
    | none => .no
  | none => .no
theorem e_lenSet (hK : c.K = X.K) (hc : X.calm = true) (hg : Gl X "len") (hm : X.mg "len" = none) (hg2 : Gl X "set") (hm2 : X.mg "set" = none) (ha : PE X a (tEv c W fa)) (na : starEach [a] X.env = (false, eval a X.env) :: starEach [] X.env := by rfl) :
    PE X (.Call (.Name "len" p) [.Call (.Name "set" p2) [a] [] q] [] pos) (tEv c W (cLenSet fa)) := PE.imp (pe_lenTx hc hg hm hg2 hm2 ha na) fun σ H Q ⟨st, h, g, S, sl, q⟩ => by
  refine ⟨st, h, g, S, sl, RP.mono (RP.bind q) fun v H1 ⟨d, h1, g1, o1, S1, r1, q1⟩ => ?_⟩
  split at q1
  · rename_i l el
    split at q1
    · rename_i xs ex
      by_cases hl : xs.length ≤ 1000
      · rw [if_pos hl] at q1
        obtain ⟨b, vs, rfl, hq, rs⟩ := asR_ok S1 r1 el
        have ev := strsOf_ok rs ex
        subst ev
        rw [← hK]
        exact ⟨b, xs, rfl, hq, hl, RP.ok_here q1 S1 (.int _)⟩
      · rw [if_neg hl] at q1; exact q1.elim
    · exact q1.elim
  · exact q1.elim
end
end Gm

/-! GmN: numbers as rows of bits. -/
namespace Gm
open PySem
theorem bits_ext {a b : Nat} (h : ∀ i, a.testBit i = b.testBit i) : a = b := Nat.eq_of_testBit_eq h
theorem add_or {a b : Nat} (h : a &&& b = 0) : a + b = a ||| b := by
  have hw : a + b < 2 ^ (a + b + 1) := Nat.lt_of_lt_of_le Nat.lt_two_pow_self (Nat.pow_le_pow_right (by decide) (by omega))
  have ha : a < 2 ^ (a + b + 1) := by omega
  have hb : b < 2 ^ (a + b + 1) := by omega
  have e : (BitVec.ofNat (a + b + 1) a) &&& (BitVec.ofNat (a + b + 1) b) = 0#(a + b + 1) := by
    apply BitVec.eq_of_toNat_eq
    simp [Nat.mod_eq_of_lt ha, Nat.mod_eq_of_lt hb, h]
  have z := congrArg BitVec.toNat (BitVec.add_eq_or_of_and_eq_zero _ _ e)
  simpa [Nat.mod_eq_of_lt ha, Nat.mod_eq_of_lt hb, Nat.mod_eq_of_lt hw] using z
theorem add_bit {x k : Nat} (h : x.testBit k = false) : x + 2 ^ k = x ^^^ 2 ^ k := by
  rw [add_or]
  · apply bits_ext
    intro i
    simp only [Nat.testBit_or, Nat.testBit_xor, Nat.testBit_two_pow]
    by_cases e : k = i
    · subst e; simp [h]
    · simp [e]
  · apply bits_ext
    intro i
    simp only [Nat.testBit_and, Nat.testBit_two_pow, Nat.zero_testBit]
    by_cases e : k = i
    · subst e; simp [h]
    · simp [e]
theorem sub_bit {x k : Nat} (h : x.testBit k = true) : 2 ^ k ≤ x ∧ x - 2 ^ k = x ^^^ 2 ^ k := by
  have hy : (x ^^^ 2 ^ k).testBit k = false := by simp [Nat.testBit_xor, Nat.testBit_two_pow, h]
  have e := add_bit hy
  rw [Nat.xor_assoc, Nat.xor_self, Nat.xor_zero] at e
  omega
theorem flip_bit (x k i : Nat) : (x ^^^ 2 ^ k).testBit i = (x.testBit i ^^ decide (k = i)) := by rw [Nat.testBit_xor, Nat.testBit_two_pow]
theorem flip_2 (x k : Nat) : x ^^^ 2 ^ k ^^^ 2 ^ k = x := by rw [Nat.xor_assoc, Nat.xor_self, Nat.xor_zero]
/-- the number whose bits below n are f -/
def ofB (f : Nat → Bool) : Nat → Nat
  | 0 => 0
  | n + 1 => ofB f n + if f n = true then 2 ^ n else 0
theorem ofB_lt (f : Nat → Bool) : ∀ n, ofB f n < 2 ^ n
  | 0 => by simp [ofB]
  | n + 1 => by
    have := ofB_lt f n
    rw [Nat.pow_succ]
    unfold ofB
    split <;> omega
theorem ofB_bit (f : Nat → Bool) : ∀ n i, (ofB f n).testBit i = (decide (i < n) && f i)
  | 0, i => by simp [ofB]
  | n + 1, i => by
    have hl := ofB_lt f n
    have ih := ofB_bit f n
    unfold ofB
    by_cases hf : f n = true
    · rw [if_pos hf, add_bit (Nat.testBit_lt_two_pow hl), flip_bit, ih]
      by_cases e : n = i
      · subst e; simp [hf]
      · have : (i < n + 1) = (i < n) := by apply propext; omega
        simp [e, this]
    · rw [if_neg hf, Nat.add_zero, ih]
      by_cases e : n = i
      · subst e; simp [hf]
      · have : (i < n + 1) = (i < n) := by apply propext; omega
        simp [this]
theorem ofB_self {x n : Nat} (h : x < 2 ^ n) : ofB x.testBit n = x := by
  apply bits_ext
  intro i
  rw [ofB_bit]
  by_cases hi : i < n
  · simp [hi]
  · rw [Nat.testBit_lt_two_pow (Nat.lt_of_lt_of_le h (Nat.pow_le_pow_right (by decide) (Nat.le_of_not_lt hi)))]
    simp
theorem ofB_congr {f g : Nat → Bool} {n : Nat} (h : ∀ i, i < n → f i = g i) : ofB f n = ofB g n := by
  apply bits_ext
  intro i
  rw [ofB_bit, ofB_bit]
  by_cases hi : i < n
  · rw [h i hi]
  · simp [hi]
theorem high_bit {x n i : Nat} (h : x < 2 ^ n) (hi : n ≤ i) : x.testBit i = false := Nat.testBit_lt_two_pow (Nat.lt_of_lt_of_le h (Nat.pow_le_pow_right (by decide) hi))
/-! ### the int operators on numbers that are not negative -/
theorem band_n (a b : Nat) : Builtin.bitAnd (a : Int) (b : Int) = ((a &&& b : Nat) : Int) := by unfold Builtin.bitAnd; simp
theorem bor_n (a b : Nat) : Builtin.bitOr (a : Int) (b : Int) = ((a ||| b : Nat) : Int) := by
  rw [L2.bitOr_nn (Int.natCast_nonneg a) (Int.natCast_nonneg b)]
  rfl
theorem bxor_n (a b : Nat) : Builtin.bitXor (a : Int) (b : Int) = ((a ^^^ b : Nat) : Int) := by
  unfold Builtin.bitXor
  rw [bor_n, band_n]
  have e : (a ^^^ b) + (a &&& b) = a ||| b := by
    rw [add_or]
    · apply bits_ext
      intro i
      simp only [Nat.testBit_or, Nat.testBit_xor, Nat.testBit_and]
      cases a.testBit i <;> cases b.testBit i <;> rfl
    · apply bits_ext
      intro i
      simp only [Nat.testBit_xor, Nat.testBit_and, Nat.zero_testBit]
      cases a.testBit i <;> cases b.testBit i <;> rfl
  omega
theorem shl_n (a b : Nat) : (a : Int) * 2 ^ ((b : Int).toNat) = ((a <<< b : Nat) : Int) := by
  rw [Nat.shiftLeft_eq, Int.toNat_natCast]
  push_cast
  rfl
theorem shr_n (a b : Nat) : (a : Int) / 2 ^ ((b : Int).toNat) = ((a >>> b : Nat) : Int) := by
  rw [Nat.shiftRight_eq_div_pow, Int.toNat_natCast]
  push_cast
  rfl
theorem one_shl (b : Nat) : (1 : Nat) <<< b = 2 ^ b := by rw [Nat.shiftLeft_eq, Nat.one_mul]
theorem bits_le {i : Int} {k : Nat} (h : i.natAbs < 2 ^ k) : Builtin.Int.intBits i ≤ k := by
  unfold Builtin.Int.intBits
  split
  · omega
  · rename_i hz
    have hz : i ≠ 0 := by simpa using hz
    have := (Nat.log2_lt (by omega)).mpr h
    omega
theorem gShl_of {a b : Nat} {k : Nat} (h : a < 2 ^ k) (hk : k + b ≤ 134217728) : gShl (a : Int) (b : Int) = true := by
  have := bits_le (i := (a : Int)) (k := k) (by simpa using h)
  unfold gShl
  rw [Bool.and_eq_true, decide_eq_true_eq]
  exact ⟨Int.natCast_nonneg b, Nat.ble_eq_true_of_le (by rw [Int.toNat_natCast]; omega)⟩
theorem gShr_of (i : Int) (b : Nat) : gShr i (b : Int) = true := by unfold gShr; simp
theorem gMul_of {i j : Int} {k m : Nat} (h : i.natAbs < 2 ^ k) (h2 : j.natAbs < 2 ^ m) (hk : k + m ≤ 134217728) : gMul i j = true := by
  have := bits_le h
  have := bits_le h2
  exact Nat.ble_eq_true_of_le (by omega)
theorem gMod_of {i j : Int} (h : 0 < j) : gMod i j = true := by unfold gMod; simpa using h
theorem gDiv_of {i j : Int} {k : Nat} (h : 0 < j) (h2 : j.natAbs < 2 ^ k) (hk : k ≤ 9000) : gDiv i j = true := by
  unfold gDiv
  have := (Nat.log2_lt (n := j.natAbs) (by omega)).mpr h2
  simp only [Bool.and_eq_true, decide_eq_true_eq]
  omega
end Gm

/-! GmP: how the functions compute. -/
namespace Gm
open PySem PySem.Spec PyProof.Rows
section
variable {st : Slots} {h : Store} {α β : Type}
@[simp] theorem ev_var (i : Nat) : cVar i st h = match st[i]? with
  | some (some d) => .ok d h
  | _ => .no := rfl
@[simp] theorem ev_k (d : D) : cK d st h = .ok d h := rfl
@[simp] theorem ev_nil : cNil st h = .ok [] h := rfl
@[simp] theorem ev_cons (f : Ev D) (g : Ev (List D)) : cCons f g st h = (f st h).bind fun d h1 => (g st h1).bind fun ds h2 => .ok (d :: ds) h2 := rfl
@[simp] theorem ev_bin (o : D → D → Store → Res D) (f g : Ev D) : cBin o f g st h = (f st h).bind fun a h1 => (g st h1).bind fun b h2 => o a b h2 := rfl
@[simp] theorem ev_iop {ck : Int → Int → Bool} {f : Int → Int → Int} {i j : Int} (c : ck i j = true) : iop ck f (.int i) (.int j) h = .ok (.int (f i j)) h := if_pos c
@[simp] theorem ev_bop (f : Int → Int → Bool) (i j : Int) : bop f (.int i) (.int j) h = .ok (.bl (f i j)) h := rfl
@[simp] theorem ev_call (F : FnT) (ds : List D) (f : Ev (List D)) : cCall F ds f st h = (f st h).bind fun xs h1 => F (xs ++ ds) h1 := rfl
@[simp] theorem ev_callK (F : FnT) (n m : Nat) (g : List D → List D → List D) (f k : Ev (List D)) : cCallK F n m g f k st h = (f st h).bind fun ds h1 => (k st h1).bind fun es h2 => if ds.length = n ∧ es.length = m then F (g ds es) h2 else .no := rfl
@[simp] theorem ev_tv (f : Ev D) : cTv f st h = (f st h).bind fun d h1 => match d with
  | .bl b => .ok b h1
  | _ => .no := rfl
@[simp] theorem ev_tnot (f : Ev Bool) : cTnot f st h = (f st h).bind fun b h1 => .ok (!b) h1 := rfl
@[simp] theorem ev_tand (f k : Ev Bool) : cTand f k st h = (f st h).bind fun b h1 => if b = true then k st h1 else .ok false h1 := rfl
@[simp] theorem ev_tor (f k : Ev Bool) : cTor f k st h = (f st h).bind fun b h1 => if b = true then .ok true h1 else k st h1 := rfl
@[simp] theorem ev_chain (o o' : D → D → Store → Res D) (f g k : Ev D) : cChain o o' f g k st h = (f st h).bind fun a h1 => (g st h1).bind fun b h2 => (o a b h2).bind fun z h3 => match z with
  | .bl true => (k st h3).bind fun d h4 => o' b d h4
  | .bl false => .ok (.bl false) h3
  | _ => .no := rfl
@[simp] theorem ev_lst (fs : Ev (List D)) : cLst false fs st h = (fs st h).bind fun ds h1 => if ds.length ≤ sizeLine then .ok (.lst ds) h1 else .no := rfl
@[simp] theorem ev_lstM (fs : Ev (List D)) : cLst true fs st h = (fs st h).bind fun ds h1 => if ds.length ≤ sizeLine then .ok (.ref h1.length) (h1 ++ [some (.lst ds)]) else .no := rfl
@[simp] theorem ev_tup (fs : Ev (List D)) : cTup fs st h = (fs st h).bind fun ds h1 => if ds.length ≤ sizeLine then .ok (.tup ds) h1 else .no := rfl
@[simp] theorem ev_cB (F : CallT) (f : Ev (List D)) : cB F f st h = (f st h).bind F := rfl
@[simp] theorem ev_seq (f k : Ss) : sSeq f k st h = (f st h).seq k := rfl
@[simp] theorem seq_next (k : Ss) : (Out.next st h).seq k = k st h := rfl
@[simp] theorem seq_ret (d : D) (k : Ss) : (Out.ret d h).seq k = .ret d h := rfl
@[simp] theorem ev_sNil : sNil st h = .next st h := rfl
@[simp] theorem ev_expr (f : Ev D) : sExpr f st h = (f st h).out st fun _ h1 => .next st h1 := rfl
@[simp] theorem ev_ret (f : Ev D) : sRet f st h = (f st h).out st fun d h1 => .ret d h1 := rfl
@[simp] theorem ev_if (t : Ev Bool) (f k : Ss) : sIf t f k st h = (t st h).out st fun b h1 => if b = true then f st h1 else k st h1 := rfl
@[simp] theorem ev_set (i : Nat) (f : Ev D) : sSet i f st h = (f st h).out st fun d h1 => .next (st.set i (some d)) h1 := rfl
@[simp] theorem ev_aug (i : Nat) (o : D → D → Store → Res D) (f : Ev D) : sAug i o f st h = match st[i]? with
  | some (some x) => (f st h).out st fun y h1 => (o x y h1).out st fun z h2 => .next (st.set i (some z)) h2
  | _ => .no := rfl
@[simp] theorem ev_asg (f : Ev D) (g : Tg) : sAsg f g st h = (f st h).out st fun d h1 => match g d st h1 with
  | some (st', h') => .next st' h'
  | none => .no := rfl
@[simp] theorem ev_gtName (i : Nat) (d : D) : gtName i d st h = some (st.set i (some d), h) := rfl
@[simp] theorem ev_gtTup (n : Nat) (k : Tgs) (ds : List D) : gtTup n k (.tup ds) st h = if ds.length = n then k ds st h else none := rfl
@[simp] theorem ev_gtCons (f : Tg) (k : Tgs) (d : D) (r : List D) : gtCons f k (d :: r) st h = match f d st h with
  | some (st', h') => k r st' h'
  | none => none := rfl
@[simp] theorem ev_gtNil : gtNil [] st h = some (st, h) := rfl
@[simp] theorem ev_for (f : Ev (List D)) (g : Tg) (b : Ss) : sFor f g b st h = (f st h).out st fun l h1 => forL g b l st h1 := rfl
@[simp] theorem res_next : (Out.next st h).res = .ok .non h := rfl
@[simp] theorem res_ret (d : D) : (Out.ret d h).res = .ok d h := rfl
@[simp] theorem ev_lc (m : Bool) (fi : Ev (List D)) (fg : D → Slots → Option Slots) (ft : Ev Bool) (fe : Ev D) (own : List Nat) : cLc m fi fg ft fe own st h =
  (fi st h).bind fun l h1 => if l.length ≤ sizeLine then (lcL fg ft fe (wipeD st own) l h1).bind fun ys h2 => alloc m ys h2 else .no := rfl
@[simp] theorem ev_yes : cYes st h = .ok true h := rfl
@[simp] theorem ev_wipe0 : wipeD st [] = st := rfl
@[simp] theorem ev_wipe1 (v : Nat) (vs : List Nat) : wipeD st (v :: vs) = (wipeD st vs).set v none := rfl
@[simp] theorem ev_fName (i : Nat) (d : D) : fName i d st = some (st.set i (some d)) := rfl
@[simp] theorem ev_alloc (l : List D) : alloc false l h = .ok (.lst l) h := rfl
@[simp] theorem ev_allocM (l : List D) : alloc true l h = .ok (.ref h.length) (h ++ [some (.lst l)]) := rfl
end
theorem start_of {n k : Nat} {ds : List D} {fb : Ss} {h h' : Store} {d : D} (hk : ds.length = k) (e : (fb (startD n ds) h).res = .ok d h') (hl : h'.length = h.length) : fnOf n k fb ds h = .ok d h' := by
  unfold fnOf
  rw [if_pos hk, e]
  unfold cleanD clean
  dsimp only
  rw [← hl, List.take_length]
  split <;> rfl
/-- a def that leaves no more cells than it found -/
theorem fn_eq {n k : Nat} {ds : List D} {fb : Ss} {h h' : Store} {d : D} (st : Slots) (hk : ds.length = k) (hs : startD n ds = st) (e : (fb st h).res = .ok d h') (hl : h'.length = h.length) : fnOf n k fb ds h = .ok d h' := start_of hk (by rw [hs]; exact e) hl
/-! ### loops -/
theorem forL_inv {fg : Tg} {fb : Ss} (I : Nat → Slots → Store → Prop) : ∀ (l : List D) (k : Nat) (st : Slots) (h : Store),
    (∀ i d st h, l[i]? = some d → I (k + i) st h → ∃ st1 h1 st2 h2, fg d st h = some (st1, h1) ∧ fb st1 h1 = .next st2 h2 ∧ I (k + i + 1) st2 h2) → I k st h → ∃ st' h', forL fg fb l st h = .next st' h' ∧ I (k + l.length) st' h'
  | [], k, st, h, _, i0 => ⟨st, h, rfl, i0⟩
  | d :: l, k, st, h, step, i0 => by
    obtain ⟨st1, h1, st2, h2, e1, e2, i1⟩ := step 0 d st h rfl i0
    obtain ⟨st', h', e3, i2⟩ := forL_inv I l (k + 1) st2 h2 (fun i d st h hd hi => by
      have e : k + 1 + i = k + (i + 1) := by omega
      rw [e] at hi ⊢
      exact step (i + 1) d st h (by simpa using hd) hi) i1
    refine ⟨st', h', ?_, by rw [List.length_cons]; rw [show k + (l.length + 1) = k + 1 + l.length by omega]; exact i2⟩
    unfold forL
    rw [e1]
    dsimp only
    rw [e2]
    exact e3
theorem lcL_all {fg : D → Slots → Option Slots} {ft : Ev Bool} {fe : Ev D} {st0 : Slots} (J : Nat → Store → Prop) (P : Nat → D → Prop) : ∀ (l : List D) (k : Nat) (h : Store),
    (∀ i d h, l[i]? = some d → J (k + i) h → ∃ st1 h1 y h2, fg d st0 = some st1 ∧ ft st1 h = .ok true h1 ∧ fe st1 h1 = .ok y h2 ∧ P (k + i) y ∧ J (k + i + 1) h2) → J k h →
    ∃ ys h', lcL fg ft fe st0 l h = .ok ys h' ∧ ys.length = l.length ∧ (∀ i y, ys[i]? = some y → P (k + i) y) ∧ J (k + l.length) h'
  | [], k, h, _, j0 => ⟨[], h, rfl, rfl, fun i y e => by simp at e, j0⟩
  | d :: l, k, h, step, j0 => by
    obtain ⟨st1, h1, y, h2, e1, e2, e3, p0, j1⟩ := step 0 d h rfl j0
    obtain ⟨ys, h', e4, hl, hp, j2⟩ := lcL_all J P l (k + 1) h2 (fun i d h hd hi => by
      have e : k + 1 + i = k + (i + 1) := by omega
      rw [e] at hi ⊢
      exact step (i + 1) d h (by simpa using hd) hi) j1
    refine ⟨y :: ys, h', ?_, by simp [hl], fun i z ez => ?_, by rw [List.length_cons]; rw [show k + (l.length + 1) = k + 1 + l.length by omega]; exact j2⟩
    · unfold lcL
      rw [e1]
      dsimp only
      rw [e2]
      simp [e3, e4]
    · cases i with
      | zero =>
        have ez : y = z := by simpa using ez
        subst ez
        exact p0
      | succ i => 
        have := hp i z (by simpa using ez)
        rw [show k + (i + 1) = k + 1 + i by omega]
        exact this
theorem lcL_pure {fg : D → Slots → Option Slots} {ft : Ev Bool} {fe : Ev D} {st0 : Slots} {h : Store} {p : D → Bool} {q : D → D} : ∀ (l : List D), (∀ d ∈ l, ∃ st1, fg d st0 = some st1 ∧ ft st1 h = .ok (p d) h ∧ (p d = true → fe st1 h = .ok (q d) h)) →
    lcL fg ft fe st0 l h = .ok ((l.filter p).map q) h
  | [], _ => rfl
  | d :: l, H => by
    obtain ⟨st1, e1, e2, e3⟩ := H d (by simp)
    have ih := lcL_pure l fun x hx => H x (by simp [hx])
    unfold lcL
    rw [e1]
    dsimp only
    rw [e2]
    by_cases hp : p d = true
    · simp [hp, e3 hp, ih, List.filter_cons]
    · simp [hp, ih, List.filter_cons]
theorem whileL_run {ft : Ev Bool} {fb : Ss} (I : Nat → Slots → Store → Prop) (k : Nat) (step : ∀ i st h, i < k → I i st h → ft st h = .ok true h ∧ ∃ st2 h2, fb st h = .next st2 h2 ∧ I (i + 1) st2 h2) (stop : ∀ st h, I k st h → ft st h = .ok false h) :
    ∀ (j fuel i : Nat) (st : Slots) (h : Store), i + j = k → j < fuel → I i st h → ∃ st' h', whileL ft fb fuel st h = .next st' h' ∧ I k st' h'
  | 0, 0, i, st, h, _, hf, i0 => absurd hf (by omega)
  | 0, f + 1, i, st, h, e, _, i0 => by
    have : i = k := by omega
    subst this
    exact ⟨st, h, by unfold whileL; rw [stop st h i0]; simp, i0⟩
  | j + 1, 0, i, st, h, _, hf, i0 => absurd hf (by omega)
  | j + 1, f + 1, i, st, h, e, hf, i0 => by
    obtain ⟨e1, st2, h2, e2, i1⟩ := step i st h (by omega) i0
    obtain ⟨st', h', e3, i2⟩ := whileL_run I k step stop j f (i + 1) st2 h2 (by omega) (by omega) i1
    refine ⟨st', h', ?_, i2⟩
    unfold whileL
    rw [e1]
    simp [e2, e3]
/-! ### what is walked -/
theorem upInts01 (n : Nat) : upInts 0 1 n = (List.range n).map fun (i : Nat) => D.int (i : Int) := by
  unfold upInts
  apply List.map_congr_left
  intro i _
  simp
theorem g62_n {n : Nat} (hn : n ≤ 1000000) : g62 (n : Int) = true := Nat.ble_eq_true_of_le (by rw [Int.natAbs_natCast]; exact Nat.le_trans hn (by decide))
theorem ev_range1 {fs : Ev (List D)} {st : Slots} {h h1 : Store} {n : Nat} (e : fs st h = .ok [.int (n : Int)] h1) (hn : n ≤ 1000000) : iRange1 fs st h = .ok ((List.range n).map fun (i : Nat) => D.int (i : Int)) h1 := by
  have g := g62_n hn
  unfold iRange1
  rw [e, Res.bind_ok]
  dsimp only
  rw [if_pos g, Int.toNat_natCast, upInts01]
theorem intsOf_map (l : List Int) : intsOf (l.map D.int) = some l := by
  induction l with
  | nil => rfl
  | cons a l ih => simp [intsOf, ih]
end Gm
namespace Gm
open PySem PySem.Spec PyProof.Rows
theorem lcL_map {α : Type} {fg : D → Slots → Option Slots} {ft : Ev Bool} {fe : Ev D} {st0 : Slots} {h : Store} {f : α → D} {p : α → Bool} {q : α → D} : ∀ (l : List α), (∀ x ∈ l, ∃ st1, fg (f x) st0 = some st1 ∧ ft st1 h = .ok (p x) h ∧ (p x = true → fe st1 h = .ok (q x) h)) →
    lcL fg ft fe st0 (l.map f) h = .ok ((l.filter p).map q) h
  | [], _ => rfl
  | d :: l, H => by
    obtain ⟨st1, e1, e2, e3⟩ := H d (by simp)
    have ih := lcL_map l fun x hx => H x (by simp [hx])
    rw [List.map_cons]
    unfold lcL
    rw [e1]
    dsimp only
    rw [e2]
    by_cases hp : p d = true
    · simp [hp, e3 hp, ih, List.filter_cons]
    · simp [hp, ih, List.filter_cons]
theorem lcL_all1 {α : Type} {fg : D → Slots → Option Slots} {ft : Ev Bool} {fe : Ev D} {st0 : Slots} {h : Store} {f : α → D} {q : α → D} (l : List α) (H : ∀ x ∈ l, ∃ st1, fg (f x) st0 = some st1 ∧ ft st1 h = .ok true h ∧ fe st1 h = .ok (q x) h) :
    lcL fg ft fe st0 (l.map f) h = .ok (l.map q) h := by
  have z := lcL_map (fg := fg) (ft := ft) (fe := fe) (st0 := st0) (h := h) (f := f) (p := fun _ => true) (q := q) l fun x hx => by
    obtain ⟨st1, e1, e2, e3⟩ := H x hx
    exact ⟨st1, e1, e2, fun _ => e3⟩
  rw [List.filter_eq_self.mpr fun _ _ => rfl] at z
  exact z
theorem oNe_int (i j : Int) (h : Store) : oNe (.int i) (.int j) h = .ok (.bl (!(i == j))) h := rfl
theorem oEq_int (i j : Int) (h : Store) : oEq (.int i) (.int j) h = .ok (.bl (i == j)) h := rfl
theorem oNe_bl (i j : Bool) (h : Store) : oNe (.bl i) (.bl j) h = .ok (.bl (!(i == j))) h := rfl
theorem small_line {n : Nat} (h : n ≤ 1000000) : n ≤ sizeLine := Nat.le_trans h (by decide)
theorem nat_beq (a b : Nat) : ((a : Int) == (b : Int)) = (a == b) := by
  rw [Bool.eq_iff_iff, beq_iff_eq, beq_iff_eq]
  omega
end Gm

/-! GmT: the script's box, as every law draws from it. -/
namespace Gm
open PySem PySem.Spec PyProof.Rows
def boxB : Ss :=
  (sSeq (sSet 1 (cK (.int 7919)))
  (sSeq (sFor (iSeqD (cSl false (cVar 0) cNoPart (cPart (cK (.int 63))))) (gtName 2) (sSet 1 (cBin oMod (cBin (oAdd false) (cBin (oAdd false) (cBin oMul (cVar 1) (cK (.int 48271))) (cBin oMod (cVar 2) (cK (.int 1000003)))) (cK (.int 11))) (cK (.int 2147483647)))))
  (sRet (cLst true (cCons (cB (fList false) (cCons (cSl false (cVar 0) cNoPart (cPart (cK (.int 63)))) cNil)) (cCons (cK (.int 0)) (cCons (cK (.int 0)) (cCons (cVar 1) cNil))))))))
def takeB : Ss :=
  (sSeq (sIf (cTv (cBin oGt (cBin oIx (cVar 0) (cK (.int 2))) (cK (.int 0)))) (sSeq (sSet 2 (cBin oIx (cVar 0) (cK (.int 2))))
  (sSeq (sPut (cBin oDiv (cVar 2) (cVar 1)) (cVar 0) (cK (.int 2)))
  (sRet (cBin oMod (cVar 2) (cVar 1)))))
  sNil)
  (sSeq (sSet 3 (cK (.int 0)))
  (sSeq (sIf (cTv (cBin oLt (cBin oIx (cVar 0) (cK (.int 1))) (cB fLen (cCons (cBin oIx (cVar 0) (cK (.int 0))) cNil)))) (sSet 3 (cBin oIx (cBin oIx (cVar 0) (cK (.int 0))) (cBin oIx (cVar 0) (cK (.int 1)))))
  sNil)
  (sSeq (sAugAt oAddI (cVar 0) (cK (.int 1)) (cK (.int 1)))
  (sSeq (sIf (cTv (cBin oGe (cVar 3) (cBin oPow (cK (.int 10)) (cK (.int 18))))) (sSeq (sPut (cBin oDiv (cVar 3) (cVar 1)) (cVar 0) (cK (.int 2)))
  (sRet (cBin oMod (cVar 3) (cVar 1))))
  sNil)
  (sSeq (sSet 4 (cBin oMod (cBin (oAdd false) (cBin (oAdd false) (cBin oIx (cVar 0) (cK (.int 3))) (cBin oMul (cBin oMod (cVar 3) (cK (.int 2147483629))) (cK (.int 69621)))) (cBin oMul (cBin oIx (cVar 0) (cK (.int 1))) (cK (.int 104729)))) (cK (.int 2147483587))))
  (sSeq (sSet 4 (cBin oMod (cBin (oAdd false) (cBin (oAdd false) (cBin oMul (cVar 4) (cVar 4)) (cBin oMul (cK (.int 40961)) (cVar 4))) (cK (.int 77))) (cK (.int 2147483629))))
  (sSeq (sPut (cBin oMod (cBin (oAdd false) (cBin (oAdd false) (cBin oMul (cVar 4) (cK (.int 16807))) (cBin oMod (cBin oIx (cVar 0) (cK (.int 3))) (cK (.int 8191)))) (cK (.int 5))) (cK (.int 2147483587))) (cVar 0) (cK (.int 3)))
  (sRet (cBin oMod (cBin oDiv (cBin oIx (cVar 0) (cK (.int 3))) (cK (.int 61))) (cVar 1)))))))))))
/-- the box: the script, how many were taken, a rest, a seed -/
abbrev box (l : List Int) (p : Nat) (r s : Int) : Option Cell := some (.lst [.lst (l.map D.int), .int (p : Int), .int r, .int s])
section
variable {l : List Int} {p : Nat} {r s : Int} {t : Store}
theorem bx0 : oIx (.ref 0) (.int 0) (box l p r s :: t) = .ok (.lst (l.map D.int)) (box l p r s :: t) := rfl
theorem bx1 : oIx (.ref 0) (.int 1) (box l p r s :: t) = .ok (.int (p : Int)) (box l p r s :: t) := rfl
theorem bx2 : oIx (.ref 0) (.int 2) (box l p r s :: t) = .ok (.int r) (box l p r s :: t) := rfl
theorem bx3 : oIx (.ref 0) (.int 3) (box l p r s :: t) = .ok (.int s) (box l p r s :: t) := rfl
theorem bp2 {x : Int} : putAt (.ref 0) (.int 2) (.int x) (box l p r s :: t) = some (box l p x s :: t) := rfl
theorem bp3 {x : Int} : putAt (.ref 0) (.int 3) (.int x) (box l p r s :: t) = some (box l p r x :: t) := rfl
theorem bp1 : putAt (.ref 0) (.int 1) (.int (p + 1)) (box l p r s :: t) = some (box l (p + 1) r s :: t) := rfl
theorem bg1 : getAt (.ref 0) (.int 1) (box l p r s :: t) = some (.int (p : Int)) := rfl
theorem len_ints {h : Store} : fLen [.lst (l.map D.int)] h = .ok (.int (l.length : Int)) h := by simp [fLen, asR]
theorem at_ints {h : Store} (hp : p < l.length) : oIx (.lst (l.map D.int)) (.int (p : Int)) h = .ok (.int l[p]) h := by
  have e : L2.ixN (l.map D.int).length (p : Int) = some p := by
    unfold L2.ixN
    rw [if_pos (Int.natCast_nonneg p), if_pos (by simpa using hp), Int.toNat_natCast]
  have e2 : L2.atI (l.map D.int) (p : Int) = some (.int l[p]) := by
    unfold L2.atI
    rw [e]
    simp [hp]
  show (match asR h (.lst (l.map D.int)) with
    | some l => match L2.atI l (p : Int) with
      | some d => Res.ok d h
      | none => .no
    | none => .no) = _
  simp only [asR, e2]
theorem ev_put {st : Slots} {h : Store} (fe fo fi : Ev D) : sPut fe fo fi st h = (fe st h).out st fun d h1 => (fo st h1).out st fun x h2 => (fi st h2).out st fun y h3 => match putAt x y d h3 with
  | some h' => .next st h'
  | none => .no := rfl
theorem ev_augAt {st : Slots} {h : Store} (fop : D → D → Store → Res D) (fo fi fe : Ev D) : sAugAt fop fo fi fe st h = (fo st h).out st fun x h1 => (fi st h1).out st fun y h2 => match getAt x y h2 with
  | some old => (fe st h2).out st fun d h4 => (fop old d h4).out st fun z h5 => match putAt x y z h5 with
    | some h' => .next st h'
    | none => .no
  | none => .no := rfl
theorem oAdd_int (m : Bool) (i j : Int) (h : Store) : oAdd m (.int i) (.int j) h = .ok (.int (i + j)) h := rfl
end
/-- what a draw answers -/
theorem take_ok (l : List Int) (p : Nat) (r s : Int) (t : Store) (m : Int) (hm : 0 < m) (hm2 : m.natAbs < 2 ^ 9000) (hp : p ≤ 1000000) (h0 : 0 ≤ s) (h1 : s < 2147483647) :
    ∃ v p' r' s', fnOf 5 2 takeB [.ref 0, .int m] (box l p r s :: t) = .ok (.int v) (box l p' r' s' :: t) ∧ 0 ≤ v ∧ v < m ∧ p' ≤ p + 1 ∧ 0 ≤ s' ∧ s' < 2147483647 := by
  have dm : ∀ i : Int, gDiv i m = true := fun i => gDiv_of hm hm2 (Nat.le_refl _)
  have mm : ∀ i : Int, gMod i m = true := fun i => gMod_of hm
  have m1 : ∀ i : Int, gMod i 2147483629 = true := fun i => gMod_of (by decide)
  have m2 : ∀ i : Int, gMod i 2147483587 = true := fun i => gMod_of (by decide)
  have m3 : ∀ i : Int, gMod i 8191 = true := fun i => gMod_of (by decide)
  have d1 : ∀ i : Int, gDiv i 61 = true := fun i => gDiv_of (k := 6) (by decide) (by decide) (by decide)
  have g10 : gPow 10 18 = true := by decide
  by_cases hr : 0 < r
  · refine ⟨r % m, p, r / m, s, ?_, Int.emod_nonneg _ (by omega), Int.emod_lt_of_pos _ hm, by omega, h0, h1⟩
    refine fn_eq [some (.ref 0), some (.int m), none, none, none] rfl rfl ?_ rfl
    simp only [takeB, ev_seq, ev_if, ev_tv, ev_bin, ev_var, ev_k, List.getElem?_cons_zero, List.getElem?_cons_succ, Res.bind_ok, bx2, ev_bop, hr, decide_true, Res.out_ok, if_true, ev_set, List.set_cons_succ, List.set_cons_zero, seq_next, ev_put, ev_iop, dm, mm, bp2, ev_ret, seq_ret, res_ret]
  · obtain ⟨one, e1⟩ : ∃ one : Int, (sIf (cTv (cBin oLt (cBin oIx (cVar 0) (cK (.int 1))) (cB fLen (cCons (cBin oIx (cVar 0) (cK (.int 0))) cNil)))) (sSet 3 (cBin oIx (cBin oIx (cVar 0) (cK (.int 0))) (cBin oIx (cVar 0) (cK (.int 1))))) sNil)
        [some (.ref 0), some (.int m), none, some (.int 0), none] (box l p r s :: t) = .next [some (.ref 0), some (.int m), none, some (.int one), none] (box l p r s :: t) := by
      by_cases hl : p < l.length
      · have z : ((p : Int) < (l.length : Int)) := by omega
        refine ⟨l[p], ?_⟩
        simp only [ev_if, ev_tv, ev_bin, ev_var, ev_k, ev_cB, ev_cons, ev_nil, List.getElem?_cons_zero, List.getElem?_cons_succ, Res.bind_ok, bx0, bx1, len_ints, ev_bop, decide_eq_true z, Res.out_ok, if_true, ev_set, at_ints hl, List.set_cons_succ, List.set_cons_zero]
      · have z : ¬ ((p : Int) < (l.length : Int)) := by omega
        refine ⟨0, ?_⟩
        simp only [ev_if, ev_tv, ev_bin, ev_var, ev_k, ev_cB, ev_cons, ev_nil, List.getElem?_cons_zero, List.getElem?_cons_succ, Res.bind_ok, bx0, bx1, len_ints, ev_bop, decide_eq_false z, Res.out_ok, Bool.false_eq_true, if_false, ev_sNil]
    by_cases hb : (10 : Int) ^ (18 : Int).toNat ≤ one
    · refine ⟨one % m, p + 1, one / m, s, ?_, Int.emod_nonneg _ (by omega), Int.emod_lt_of_pos _ hm, by omega, h0, h1⟩
      refine fn_eq [some (.ref 0), some (.int m), none, none, none] rfl rfl ?_ rfl
      unfold takeB
      rw [ev_seq]
      have a1 : (sIf (cTv (cBin oGt (cBin oIx (cVar 0) (cK (.int 2))) (cK (.int 0)))) (sSeq (sSet 2 (cBin oIx (cVar 0) (cK (.int 2)))) (sSeq (sPut (cBin oDiv (cVar 2) (cVar 1)) (cVar 0) (cK (.int 2))) (sRet (cBin oMod (cVar 2) (cVar 1))))) sNil) [some (.ref 0), some (.int m), none, none, none] (box l p r s :: t) = .next [some (.ref 0), some (.int m), none, none, none] (box l p r s :: t) := by
        simp only [ev_if, ev_tv, ev_bin, ev_var, ev_k, List.getElem?_cons_zero, List.getElem?_cons_succ, Res.bind_ok, bx2, ev_bop, decide_eq_false hr, Res.out_ok, Bool.false_eq_true, if_false, ev_sNil]
      rw [a1, seq_next, ev_seq, ev_set, ev_k, Res.out_ok, seq_next]
      simp only [List.set_cons_succ, List.set_cons_zero]
      rw [ev_seq, e1, seq_next]
      simp only [ev_seq, ev_augAt, ev_var, ev_k, List.getElem?_cons_zero, List.getElem?_cons_succ, Res.out_ok, bg1, ev_iop, bp1, seq_next, ev_if, ev_tv, ev_bin, Res.bind_ok, g10, ev_bop, decide_eq_true hb, if_true, ev_put, dm, mm, bp2, ev_ret, seq_ret, res_ret]
    · have b1 := Int.emod_nonneg one (show (2147483629 : Int) ≠ 0 by decide)
      have b2 := Int.emod_lt_of_pos one (show (0 : Int) < 2147483629 by decide)
      have q1 : gMul (one % 2147483629) 69621 = true := gMul_of (k := 31) (m := 17) (by omega) (by decide) (by decide)
      have q2 : gMul (((p + 1 : Nat) : Int)) 104729 = true := gMul_of (k := 31) (m := 17) (by omega) (by decide) (by decide)
      obtain ⟨x1, ex1⟩ : ∃ x, x = (s + one % 2147483629 * 69621 + ((p + 1 : Nat) : Int) * 104729) % 2147483587 := ⟨_, rfl⟩
      have x1a : 0 ≤ x1 := by rw [ex1]; exact Int.emod_nonneg _ (by decide)
      have x1b : x1 < 2147483587 := by rw [ex1]; exact Int.emod_lt_of_pos _ (by decide)
      have q3 : gMul x1 x1 = true := gMul_of (k := 31) (m := 31) (by omega) (by omega) (by decide)
      have q4 : gMul 40961 x1 = true := gMul_of (k := 31) (m := 31) (by decide) (by omega) (by decide)
      obtain ⟨x2, ex2⟩ : ∃ x, x = (x1 * x1 + 40961 * x1 + 77) % 2147483629 := ⟨_, rfl⟩
      have x2a : 0 ≤ x2 := by rw [ex2]; exact Int.emod_nonneg _ (by decide)
      have x2b : x2 < 2147483629 := by rw [ex2]; exact Int.emod_lt_of_pos _ (by decide)
      have q5 : gMul x2 16807 = true := gMul_of (k := 31) (m := 31) (by omega) (by decide) (by decide)
      obtain ⟨x3, ex3⟩ : ∃ x, x = (x2 * 16807 + s % 8191 + 5) % 2147483587 := ⟨_, rfl⟩
      have x3a : 0 ≤ x3 := by rw [ex3]; exact Int.emod_nonneg _ (by decide)
      have x3b : x3 < 2147483587 := by rw [ex3]; exact Int.emod_lt_of_pos _ (by decide)
      refine ⟨x3 / 61 % m, p + 1, r, x3, ?_, Int.emod_nonneg _ (by omega), Int.emod_lt_of_pos _ hm, by omega, x3a, by omega⟩
      refine fn_eq [some (.ref 0), some (.int m), none, none, none] rfl rfl ?_ rfl
      unfold takeB
      rw [ev_seq]
      have a1 : (sIf (cTv (cBin oGt (cBin oIx (cVar 0) (cK (.int 2))) (cK (.int 0)))) (sSeq (sSet 2 (cBin oIx (cVar 0) (cK (.int 2)))) (sSeq (sPut (cBin oDiv (cVar 2) (cVar 1)) (cVar 0) (cK (.int 2))) (sRet (cBin oMod (cVar 2) (cVar 1))))) sNil) [some (.ref 0), some (.int m), none, none, none] (box l p r s :: t) = .next [some (.ref 0), some (.int m), none, none, none] (box l p r s :: t) := by
        simp only [ev_if, ev_tv, ev_bin, ev_var, ev_k, List.getElem?_cons_zero, List.getElem?_cons_succ, Res.bind_ok, bx2, ev_bop, decide_eq_false hr, Res.out_ok, Bool.false_eq_true, if_false, ev_sNil]
      rw [a1, seq_next, ev_seq, ev_set, ev_k, Res.out_ok, seq_next]
      simp only [List.set_cons_succ, List.set_cons_zero]
      rw [ev_seq, e1, seq_next]
      simp only [ev_seq, ev_augAt, ev_var, ev_k, List.getElem?_cons_zero, List.getElem?_cons_succ, Res.out_ok, bg1, ev_iop, bp1, seq_next, ev_if, ev_tv, ev_bin, Res.bind_ok, g10, ev_bop, decide_eq_false hb, Bool.false_eq_true, if_false, ev_sNil, ev_put, ev_set, List.set_cons_succ, List.set_cons_zero, bx3, bx1, m1, m2, m3, d1, q1, q2, oAdd_int, ← ex1, q3, q4, ← ex2, q5, ← ex3, mm, bp3, ev_ret, seq_ret, res_ret]
theorem cut63 (l : List D) : cutD l none (some 63) = l.take 63 := by
  have e : HT.sIx l.length l.length (some 63) = min 63 l.length := HT.sIx_nat l.length l.length 63
  unfold cutD
  rw [HT.sIx_none, e, List.drop_zero, Nat.sub_zero, ← List.take_eq_take_min]
theorem box_ok (ns : List Int) : ∃ s, fnOf 3 1 boxB [.fro (ns.map D.int)] [] = .ok (.ref 0) [box (ns.take 63) 0 0 s] ∧ 0 ≤ s ∧ s < 2147483647 := by
  have m1 : ∀ i : Int, gMod i 2147483647 = true := fun i => gMod_of (by decide)
  have m2 : ∀ i : Int, gMod i 1000003 = true := fun i => gMod_of (by decide)
  have cut : ∀ x : Option D, ∀ y : Option D, cSl false (cVar 0) cNoPart (cPart (cK (.int 63))) [some (.fro (ns.map D.int)), x, y] [] = .ok (.lst ((ns.take 63).map D.int)) [] := fun x y => by
    show Res.ok (D.lst (cutD (ns.map D.int) none (some 63))) [] = _
    rw [cut63, List.map_take]
  obtain ⟨st, h, e1, rfl, y, s, rfl, s0, s1⟩ := forL_inv (fg := gtName 2) (fb := sSet 1 (cBin oMod (cBin (oAdd false) (cBin (oAdd false) (cBin oMul (cVar 1) (cK (.int 48271))) (cBin oMod (cVar 2) (cK (.int 1000003)))) (cK (.int 11))) (cK (.int 2147483647))))
    (fun _ st h => h = [] ∧ ∃ y s, st = [some (.fro (ns.map D.int)), some (.int s), y] ∧ 0 ≤ s ∧ s < 2147483647) ((ns.take 63).map D.int) 0 [some (.fro (ns.map D.int)), some (.int 7919), none] [] (fun i d st h hd ⟨i1, y, s, i2, s0, s1⟩ => by
      subst i1 i2
      obtain ⟨a, _, rfl⟩ := List.mem_map.mp (List.mem_of_getElem? hd)
      have q : gMul s 48271 = true := gMul_of (k := 31) (m := 17) (by omega) (by decide) (by decide)
      refine ⟨_, _, [some (.fro (ns.map D.int)), some (.int ((s * 48271 + a % 1000003 + 11) % 2147483647)), some (.int a)], [], rfl, ?_, rfl, _, _, rfl, Int.emod_nonneg _ (by decide), Int.emod_lt_of_pos _ (by decide)⟩
      simp only [ev_set, ev_bin, ev_var, ev_k, List.set_cons_succ, List.set_cons_zero, List.getElem?_cons_zero, List.getElem?_cons_succ, Res.bind_ok, ev_iop, q, m1, m2, oAdd_int, Res.out_ok]) ⟨rfl, none, 7919, rfl, by decide, by decide⟩
  refine ⟨s, ?_, s0, s1⟩
  have e2 : (boxB [some (.fro (ns.map D.int)), none, none] []).res = .ok (.ref 0) [box (ns.take 63) 0 0 s] := by
    have e3 : iSeqD (cSl false (cVar 0) cNoPart (cPart (cK (.int 63)))) [some (.fro (ns.map D.int)), some (.int 7919), none] [] = .ok ((ns.take 63).map D.int) [] := by
      unfold iSeqD
      rw [cut]
      rfl
    have e4 : fList false [.lst ((ns.take 63).map D.int)] [] = .ok (.lst ((ns.take 63).map D.int)) [] := rfl
    have e5 : [D.lst ((ns.take 63).map D.int), .int 0, .int 0, .int s].length ≤ sizeLine := small_line (by simp)
    simp only [boxB, ev_seq, ev_set, ev_k, Res.out_ok, seq_next, List.set_cons_succ, List.set_cons_zero, ev_for, e3, e1, ev_ret, ev_lstM, ev_cons, ev_cB, cut, ev_nil, Res.bind_ok, e4, ev_var, List.getElem?_cons_zero, List.getElem?_cons_succ, e5, if_true, res_ret]
    rfl
  show (if [D.fro (ns.map D.int)].length = 1 then cleanD 0 (boxB [some (.fro (ns.map D.int)), none, none] []).res else .no) = _
  rw [if_pos (show [D.fro (ns.map D.int)].length = 1 from rfl), e2]
  rfl
end Gm

/-! GmS: the laws' own small defs: what is alike. -/
namespace Gm
open PySem PySem.Spec PyProof.Rows
theorem exc_of {n k : Nat} {ds : List D} {fb : Ss} {h h' : Store} {x : Str} (st st' : Slots) (hk : ds.length = k) (hs : startD n ds = st) (e : fb st h = .exc ⟨x, none⟩ st' h') (hl : h'.length = h.length) : fnOf n k fb ds h = .exc ⟨x, none⟩ h' := by
  unfold fnOf
  rw [if_pos hk, hs, e]
  unfold Out.res cleanD clean
  dsimp only
  rw [← hl, List.take_length]
  split <;> rfl
def sameB (R : FnT) : Ss :=
  (sSeq (sIf (cTor (cTv (cBin oIsN (cVar 1) (cK .non))) (cTv (cBin oIsN (cVar 0) (cK .non)))) (sRet (cAnd (cBin oIsN (cVar 0) (cK .non)) (cBin oIsN (cVar 1) (cK .non))))
  sNil)
  (sSeq (sIf (cTor (cTv (cIs2 (cVar 1) "list" "tuple")) (cTv (cIs2 (cVar 0) "list" "tuple"))) (sSeq (sIf (cTv (cBin oNe (cB fIsi (cCons (cVar 0) (cCons (cK (.ty "list")) cNil))) (cB fIsi (cCons (cVar 1) (cCons (cK (.ty "list")) cNil))))) (sRet (cK (.bl false)))
  sNil)
  (sSeq (sIf (cTor (cTv (cBin oNe (cB fIsi (cCons (cVar 0) (cCons (cK (.ty "tuple")) cNil))) (cB fIsi (cCons (cVar 1) (cCons (cK (.ty "tuple")) cNil))))) (cTv (cBin oNe (cB fLen (cCons (cVar 0) cNil)) (cB fLen (cCons (cVar 1) cNil))))) (sRet (cK (.bl false)))
  sNil)
  (sRet (cB fAll (cCons (cLc false (iZipAD (cCons (cVar 0) (cCons (cVar 1) cNil))) (fTup [2, 3]) cYes (cCall R [] (cCons (cVar 2) (cCons (cVar 3) cNil))) [2, 3]) cNil)))))
  sNil)
  (sSeq (sIf (cTv (cBin oNe (cB fIsi (cCons (cVar 1) (cCons (cK (.ty "bool")) cNil))) (cB fIsi (cCons (cVar 0) (cCons (cK (.ty "bool")) cNil))))) (sRet (cK (.bl false)))
  sNil)
  (sSeq (sIf (cTv (cBin oNe (cB fIsi (cCons (cVar 1) (cCons (cK (.ty "int")) cNil))) (cB fIsi (cCons (cVar 0) (cCons (cK (.ty "int")) cNil))))) (sRet (cK (.bl false)))
  sNil)
  (sRet (cAnd (cBin oEq (cB fIsi (cCons (cVar 1) (cCons (cK (.ty "str")) cNil))) (cB fIsi (cCons (cVar 0) (cCons (cK (.ty "str")) cNil)))) (cBin oEq (cVar 0) (cVar 1))))))))
def sameF : Nat → FnT
  | 0 => fun _ _ => .no
  | n + 1 => fnOf 4 2 (sameB (sameF n))
/-- the same value, lists told one way or the other -/
inductive Sm : Nat → D → D → Prop where
  | non {n} : Sm (n + 1) .non .non
  | bl {n} (b : Bool) : Sm (n + 1) (.bl b) (.bl b)
  | int {n} (i : Int) : Sm (n + 1) (.int i) (.int i)
  | str {n} (x : Str) : Sm (n + 1) (.str x) (.str x)
  | tup {n} {l k : List D} (hl : l.length = k.length) (h : ∀ (i : Nat) (x y : D), l[i]? = some x → k[i]? = some y → Sm n x y) (hz : l.length ≤ 1000000) : Sm (n + 1) (.tup l) (.tup k)
  | lst {n} {d e : D} {l k : List D} (hd : asI d = some l) (he : asI e = some k) (hl : l.length = k.length) (h : ∀ (i : Nat) (x y : D), l[i]? = some x → k[i]? = some y → Sm n x y) (hz : l.length ≤ 1000000) : Sm (n + 1) d e
theorem boolsOf_rep (n : Nat) : boolsOf (List.replicate n (D.bl true)) = some (List.replicate n true) := by
  induction n with
  | zero => rfl
  | succ n ih => rw [List.replicate_succ, boolsOf, ih]; rfl
theorem fIsi_at {h : Store} {d : D} {a b : String} (e : tyD h d = some a) (hb : b ∈ tyAsk) : fIsi [d, .ty b] h = .ok (.bl (tyIs a b)) h := by
  unfold fIsi
  dsimp only
  rw [e]
  dsimp only
  rw [if_pos hb]
theorem is2_at {h : Store} {st : Slots} {fe : Ev D} {d : D} {a A B : String} (ev : fe st h = .ok d h) (e : tyD h d = some a) (hA : A ∈ tyAsk) (hB : B ∈ tyAsk) : cIs2 fe A B st h = .ok (.bl (tyIs a A || tyIs a B)) h := by
  unfold cIs2
  rw [ev, Res.bind_ok]
  rw [e]
  dsimp only
  rw [if_pos ⟨hA, hB⟩]
theorem zip_same {R : FnT} {h : Store} {l k : List D} {a b : Option D} (hl : l.length = k.length) (hR : ∀ (i : Nat) (x y : D), l[i]? = some x → k[i]? = some y → R [x, y] h = .ok (.bl true) h) :
    lcL (fTup [2, 3]) cYes (cCall R [] (cCons (cVar 2) (cCons (cVar 3) cNil))) [a, b, none, none] (zipD l k) h = .ok (List.replicate l.length (.bl true)) h := by
  induction l generalizing k with
  | nil => rfl
  | cons x l ih =>
    cases k with
    | nil => simp at hl
    | cons y k =>
      have e := hR 0 x y rfl rfl
      have r := ih (k := k) (by simpa using hl) fun i x y h1 h2 => hR (i + 1) x y (by simpa using h1) (by simpa using h2)
      unfold zipD lcL
      show ((cYes _ h).sure.bind _) = _
      show (((Res.ok true h : Res Bool).sure).bind _) = _
      simp only [Res.sure, Res.bind_ok, if_true, ev_call, ev_cons, ev_var, ev_nil]
      show ((R ([x, y] ++ []) h).sure.bind _) = _
      rw [List.append_nil, e]
      simp only [Res.sure, Res.bind_ok]
      rw [r]
      rfl
theorem sameF_ok : ∀ {n : Nat} {x y : D} {h : Store}, Sm n x y → sameF n [x, y] h = .ok (.bl true) h := by
  intro n
  induction n with
  | zero => intro x y h s; cases s
  | succ n ih =>
    intro x y h s
    have many : ∀ {l k : List D} {t : String}, tyD h x = some t → tyD h y = some t → (t = "list" ∨ t = "tuple") → l.length = k.length → (∀ (i : Nat) (x y : D), l[i]? = some x → k[i]? = some y → Sm n x y) → l.length ≤ 1000000 → fLen [x] h = .ok (.int l.length) h → fLen [y] h = .ok (.int k.length) h → zipOf x y = some (zipD l k) →
        sameF (n + 1) [x, y] h = .ok (.bl true) h := fun {l k t} tx ty ht hl hs hz lx ly hzip => by
      have no : ∀ d : D, tyD h d = some t → d.isNon = false := fun d td => by
        cases d with
        | non =>
          have e : "NoneType" = t := Option.some.inj td
          subst e
          rcases ht with q | q <;> exact absurd q (by decide)
        | _ => rfl
      have nx := no x tx
      have ny := no y ty
      refine fn_eq [some x, some y, none, none] rfl rfl ?_ rfl
      have a1 : "list" ∈ tyAsk := by decide
      have a2 : "tuple" ∈ tyAsk := by decide
      have i1 : cIs2 (cVar 1) "list" "tuple" [some x, some y, none, none] h = .ok (.bl true) h := by
        rw [is2_at (d := y) rfl ty a1 a2]
        rcases ht with q | q <;> subst q <;> rfl
      have z := zip_same (R := sameF n) (h := h) (a := some x) (b := some y) hl fun i x y h1 h2 => ih (hs i x y h1 h2)
      have zl : (zipD l k).length ≤ sizeLine := small_line (by rw [zipD_len]; omega)
      have al : fAll [.lst (List.replicate l.length (D.bl true))] h = .ok (.bl true) h := by
        unfold fAll fOf1
        simp only [asR, boolsOf_rep]
        congr 2
        simp
      unfold sameB
      simp only [ev_seq, ev_if, ev_tor, ev_tv, ev_bin, ev_var, ev_k, List.getElem?_cons_zero, List.getElem?_cons_succ, Res.bind_ok, oIsN, nx, ny, Bool.false_eq_true, if_false, Res.out_ok, ev_sNil, seq_next, i1, if_true, ev_cB, ev_cons, ev_nil, fIsi_at tx a1, fIsi_at ty a1, fIsi_at tx a2, fIsi_at ty a2, oNe_bl, beq_self_eq_true, Bool.not_true, lx, ly, oNe_int, hl, ev_ret, ev_lc]
      have zz : iZipAD (cCons (cVar 0) (cCons (cVar 1) cNil)) [some x, some y, none, none] h = .ok (zipD l k) h := by
        show (match zipOf x y with | some l => Res.ok l h | none => .no) = _
        rw [hzip]
      simp only [zz, Res.bind_ok, zl, if_true, ev_wipe1, ev_wipe0, List.set_cons_zero, List.set_cons_succ]
      rw [z]
      simp only [Res.bind_ok, ev_alloc, al, Res.out_ok, seq_ret, res_ret]
    cases s with
    | non => exact fn_eq [some .non, some .non, none, none] rfl rfl rfl rfl
    | bl b => exact fn_eq [some (.bl b), some (.bl b), none, none] rfl rfl (by
        have a1 : "list" ∈ tyAsk := by decide
        have a2 : "tuple" ∈ tyAsk := by decide
        have a3 : "bool" ∈ tyAsk := by decide
        have a4 : "int" ∈ tyAsk := by decide
        have a5 : "str" ∈ tyAsk := by decide
        have t : tyD h (.bl b) = some "bool" := rfl
        have i1 := is2_at (fe := cVar 1) (st := [some (.bl b), some (.bl b), none, none]) (h := h) rfl t a1 a2
        have i2 := is2_at (fe := cVar 0) (st := [some (.bl b), some (.bl b), none, none]) (h := h) rfl t a1 a2
        have f1 : (tyIs "bool" "list" || tyIs "bool" "tuple") = false := by decide
        have f2 : tyIs "bool" "str" = false := by decide
        unfold sameB
        simp only [ev_seq, ev_if, ev_tor, ev_tv, ev_bin, ev_var, ev_k, List.getElem?_cons_zero, List.getElem?_cons_succ, Res.bind_ok, oIsN, D.isNon, Bool.false_eq_true, if_false, Res.out_ok, ev_sNil, seq_next, i1, i2, f1, ev_cB, ev_cons, ev_nil, fIsi_at t a3, fIsi_at t a4, fIsi_at t a5, oNe_bl, beq_self_eq_true, Bool.not_true, ev_ret]
        have e1 : oEq (.bl (tyIs "bool" "str")) (.bl (tyIs "bool" "str")) h = .ok (.bl true) h := by simp [oEq, eqD]
        have e2 : oEq (.bl b) (.bl b) h = .ok (.bl true) h := by simp [oEq, eqD]
        simp only [cAnd, ev_bin, ev_cB, ev_cons, ev_var, ev_k, ev_nil, List.getElem?_cons_zero, List.getElem?_cons_succ, Res.bind_ok, fIsi_at t a5, e1, e2, Res.out_ok, res_ret]) rfl
    | int b => exact fn_eq [some (.int b), some (.int b), none, none] rfl rfl (by
        have a1 : "list" ∈ tyAsk := by decide
        have a2 : "tuple" ∈ tyAsk := by decide
        have a3 : "bool" ∈ tyAsk := by decide
        have a4 : "int" ∈ tyAsk := by decide
        have a5 : "str" ∈ tyAsk := by decide
        have t : tyD h (.int b) = some "int" := rfl
        have i1 := is2_at (fe := cVar 1) (st := [some (.int b), some (.int b), none, none]) (h := h) rfl t a1 a2
        have i2 := is2_at (fe := cVar 0) (st := [some (.int b), some (.int b), none, none]) (h := h) rfl t a1 a2
        have f1 : (tyIs "int" "list" || tyIs "int" "tuple") = false := by decide
        unfold sameB
        simp only [ev_seq, ev_if, ev_tor, ev_tv, ev_bin, ev_var, ev_k, List.getElem?_cons_zero, List.getElem?_cons_succ, Res.bind_ok, oIsN, D.isNon, Bool.false_eq_true, if_false, Res.out_ok, ev_sNil, seq_next, i1, i2, f1, ev_cB, ev_cons, ev_nil, fIsi_at t a3, fIsi_at t a4, fIsi_at t a5, oNe_bl, beq_self_eq_true, Bool.not_true, ev_ret]
        have e1 : oEq (.bl (tyIs "int" "str")) (.bl (tyIs "int" "str")) h = .ok (.bl true) h := by simp [oEq, eqD]
        have e2 : oEq (.int b) (.int b) h = .ok (.bl true) h := by simp [oEq, eqD]
        simp only [cAnd, ev_bin, ev_cB, ev_cons, ev_var, ev_k, ev_nil, List.getElem?_cons_zero, List.getElem?_cons_succ, Res.bind_ok, fIsi_at t a5, e1, e2, Res.out_ok, res_ret]) rfl
    | str b => exact fn_eq [some (.str b), some (.str b), none, none] rfl rfl (by
        have a1 : "list" ∈ tyAsk := by decide
        have a2 : "tuple" ∈ tyAsk := by decide
        have a3 : "bool" ∈ tyAsk := by decide
        have a4 : "int" ∈ tyAsk := by decide
        have a5 : "str" ∈ tyAsk := by decide
        have t : tyD h (.str b) = some "str" := rfl
        have i1 := is2_at (fe := cVar 1) (st := [some (.str b), some (.str b), none, none]) (h := h) rfl t a1 a2
        have i2 := is2_at (fe := cVar 0) (st := [some (.str b), some (.str b), none, none]) (h := h) rfl t a1 a2
        have f1 : (tyIs "str" "list" || tyIs "str" "tuple") = false := by decide
        unfold sameB
        simp only [ev_seq, ev_if, ev_tor, ev_tv, ev_bin, ev_var, ev_k, List.getElem?_cons_zero, List.getElem?_cons_succ, Res.bind_ok, oIsN, D.isNon, Bool.false_eq_true, if_false, Res.out_ok, ev_sNil, seq_next, i1, i2, f1, ev_cB, ev_cons, ev_nil, fIsi_at t a3, fIsi_at t a4, fIsi_at t a5, oNe_bl, beq_self_eq_true, Bool.not_true, ev_ret]
        have e1 : oEq (.bl (tyIs "str" "str")) (.bl (tyIs "str" "str")) h = .ok (.bl true) h := by simp [oEq, eqD]
        have e2 : oEq (.str b) (.str b) h = .ok (.bl true) h := by simp [oEq, eqD]
        simp only [cAnd, ev_bin, ev_cB, ev_cons, ev_var, ev_k, ev_nil, List.getElem?_cons_zero, List.getElem?_cons_succ, Res.bind_ok, fIsi_at t a5, e1, e2, Res.out_ok, res_ret]) rfl
    | @tup _ l k hl hs hz => exact many (t := "tuple") rfl rfl (.inr rfl) hl hs hz rfl rfl rfl
    | @lst _ d e l k hd he hl hs hz =>
      have td : tyD h x = some "list" := by cases x <;> first | rfl | cases hd
      have te : tyD h y = some "list" := by cases y <;> first | rfl | cases he
      refine many (t := "list") td te (.inl rfl) hl hs hz ?_ ?_ ?_
      · cases x <;> first | (cases hd; rfl) | cases hd
      · cases y <;> first | (cases he; rfl) | cases he
      · cases x with
        | lst l0 =>
          show (match asI (.lst l0), asI y with | some l, some k => some (zipD l k) | _, _ => none) = _
          rw [hd, he]
        | fro l0 =>
          show (match asI (.fro l0), asI y with | some l, some k => some (zipD l k) | _, _ => none) = _
          rw [hd, he]
        | _ => cases hd
end Gm

/-! GmQ: more of how the functions compute. -/
namespace Gm
open PySem PySem.Spec PyProof.Rows
section
variable {st : Slots} {h : Store}
@[simp] theorem seq_exc (e : Exn) (k : Ss) : (Out.exc e st h).seq k = .exc e st h := rfl
@[simp] theorem seq_brk (k : Ss) : (Out.brk st h).seq k = .brk st h := rfl
@[simp] theorem seq_cont (k : Ss) : (Out.cont st h).seq k = .cont st h := rfl
@[simp] theorem seq_no (k : Ss) : Out.no.seq k = .no := rfl
@[simp] theorem res_exc (e : Exn) : (Out.exc e st h).res = .exc e h := rfl
@[simp] theorem ev_raise (x : Str) : sRaise x st h = .exc ⟨x, none⟩ st h := rfl
@[simp] theorem ev_and (f k : Ev D) : cAnd f k st h = (f st h).bind fun d h1 => match d with
  | .bl true => k st h1
  | .bl false => .ok (.bl false) h1
  | _ => .no := rfl
@[simp] theorem ev_or (f k : Ev D) : cOr f k st h = (f st h).bind fun d h1 => match d with
  | .bl false => k st h1
  | .bl true => .ok (.bl true) h1
  | _ => .no := rfl
@[simp] theorem ev_not (f : Ev D) : cNot f st h = (f st h).bind fun d h1 => match d with
  | .bl b => .ok (.bl (!b)) h1
  | _ => .no := rfl
@[simp] theorem ev_cif (t : Ev Bool) (f k : Ev D) : cIf t f k st h = (t st h).bind fun b h1 => if b = true then f st h1 else k st h1 := rfl
@[simp] theorem ev_callX (F : FnT) (fs : Ev (List D)) : cCallX F fs st h = (fs st h).bind fun ds h1 => match F ds h1 with
  | .ok d h2 => .ok d h2
  | _ => .no := rfl
theorem tried_is {F : Res D → Res D} {fb : Ev D} {d : D} {h' : Store} (e : F (fb st h) = .ok d h') : cTried F fb st h = .ok d h' := by
  unfold cTried
  rw [e]
theorem triedF_ok {t : ExcT} {f : Str → Bool} {w0 : Str} {fx : Ev D} {d : D} {h' : Store} {r : Res D} (e : r = .ok d h') : triedF t f w0 fx r = .ok (.tup [d, .str w0]) h' := by
  rw [e] <;> rfl
theorem triedF_exc {t : ExcT} {f : Str → Bool} {w0 : Str} {fx : Ev D} {d : D} {h' : Store} {r : Res D} {x : Exn} (e : r = .exc x h') (hn : x.cls ∈ t.ns ∧ f x.cls = true) (hv : hotV 4 (some 3) fx x = some d) : triedF t f w0 fx r = .ok (.tup [.non, d]) h' := by
  rw [e]
  show (if x.cls ∈ t.ns ∧ f x.cls = true then match hotV 4 (some 3) fx x with | some d => Res.ok (D.tup [D.non, d]) h' | none => .no else .no) = _
  rw [if_pos hn, hv]
theorem ev_neg (f : Ev D) (i : Int) {h' : Store} (e : f st h = .ok (.int i) h') : cNeg f st h = .ok (.int (-i)) h' := by
  unfold cNeg
  rw [e] <;> rfl
theorem last_at (h : Store) (ce : Option Cell) : (h ++ [ce])[h.length]? = some ce := by simp
theorem last_set (h : Store) (ce ce' : Option Cell) : (h ++ [ce]).set h.length ce' = h ++ [ce'] := by simp
theorem app_last {fo : Ev D} {fs : Ev (List D)} {ds : List D} {d : D} (e1 : fo st (h ++ [some (.lst ds)]) = .ok (.ref h.length) (h ++ [some (.lst ds)])) (e2 : fs st (h ++ [some (.lst ds)]) = .ok [d] (h ++ [some (.lst ds)])) (hl : ds.length < sizeLine) :
    cMt "list" mAppend fo fs st (h ++ [some (.lst ds)]) = .ok .non (h ++ [some (.lst (ds ++ [d]))]) := by
  unfold cMt
  rw [e1, Res.bind_ok]
  have z : isTy "list" (h ++ [some (.lst ds)]) (.ref h.length) = true := by
    unfold isTy
    dsimp only
    rw [last_at]
    rfl
  rw [if_pos z, e2, Res.bind_ok]
  unfold mAppend cellL
  simp only [last_at, hl, if_true, last_set]
theorem frz_last {i : Nat} {f : Ss} {l : List D} (e : st[i]? = some (some (.ref h.length))) : sFrz i f st (h ++ [some (.lst l)]) = f (st.set i (some (.lst l))) (h ++ [none]) := by
  unfold sFrz
  rw [e]
  dsimp only
  rw [last_at]
  dsimp only
  rw [last_set]
theorem oAddI_int (i j : Int) : oAddI (.int i) (.int j) h = .ok (.int (i + j)) h := rfl
theorem sz0 : (0 ≤ sizeLine) = True := eq_true (by decide)
theorem sz1 : (1 ≤ sizeLine) = True := eq_true (by decide)
theorem sz2 : (2 ≤ sizeLine) = True := eq_true (by decide)
theorem sz3 : (3 ≤ sizeLine) = True := eq_true (by decide)
theorem sz4 : (4 ≤ sizeLine) = True := eq_true (by decide)
theorem sz5 : (5 ≤ sizeLine) = True := eq_true (by decide)
theorem sz6 : (6 ≤ sizeLine) = True := eq_true (by decide)
theorem sz7 : (7 ≤ sizeLine) = True := eq_true (by decide)
theorem sz8 : (8 ≤ sizeLine) = True := eq_true (by decide)
theorem sz9 : (9 ≤ sizeLine) = True := eq_true (by decide)
theorem sz10 : (10 ≤ sizeLine) = True := eq_true (by decide)
theorem sz11 : (11 ≤ sizeLine) = True := eq_true (by decide)
theorem sz12 : (12 ≤ sizeLine) = True := eq_true (by decide)
theorem sz13 : (13 ≤ sizeLine) = True := eq_true (by decide)
theorem sz14 : (14 ≤ sizeLine) = True := eq_true (by decide)
theorem sz15 : (15 ≤ sizeLine) = True := eq_true (by decide)
theorem sz16 : (16 ≤ sizeLine) = True := eq_true (by decide)
theorem sz17 : (17 ≤ sizeLine) = True := eq_true (by decide)
theorem sz18 : (18 ≤ sizeLine) = True := eq_true (by decide)
theorem sz19 : (19 ≤ sizeLine) = True := eq_true (by decide)
theorem sz20 : (20 ≤ sizeLine) = True := eq_true (by decide)
theorem sz21 : (21 ≤ sizeLine) = True := eq_true (by decide)
theorem sz22 : (22 ≤ sizeLine) = True := eq_true (by decide)
theorem sz23 : (23 ≤ sizeLine) = True := eq_true (by decide)
theorem sz24 : (24 ≤ sizeLine) = True := eq_true (by decide)
theorem sz25 : (25 ≤ sizeLine) = True := eq_true (by decide)
theorem sz26 : (26 ≤ sizeLine) = True := eq_true (by decide)
theorem sz27 : (27 ≤ sizeLine) = True := eq_true (by decide)
theorem sz28 : (28 ≤ sizeLine) = True := eq_true (by decide)
theorem sz29 : (29 ≤ sizeLine) = True := eq_true (by decide)
theorem sz30 : (30 ≤ sizeLine) = True := eq_true (by decide)
theorem sz31 : (31 ≤ sizeLine) = True := eq_true (by decide)
theorem sz32 : (32 ≤ sizeLine) = True := eq_true (by decide)
end
end Gm

/-! GmC: lists of numbers, cells that hold them; the script's box. -/
namespace Gm
open PySem PySem.Spec PyProof.Rows
def dnums (l : List Nat) : List D := l.map fun (a : Nat) => D.int (a : Int)
abbrev cel (x : List Nat) : Option Cell := some (Cell.lst (dnums x))
/-- the box stands, at most b were drawn -/
def Bx (l : List Int) (b : Nat) (t h : Store) : Prop := ∃ p r s, h = box l p r s :: t ∧ p ≤ b ∧ 0 ≤ s ∧ s < 2147483647
section
variable {l : List Int} {b : Nat} {t h : Store}
theorem Bx.takeB {l : List Int} {b : Nat} {t h : Store} (x : Bx l b t h) (hb : b ≤ 1000000) {m : Int} (hm : 0 < m) (hm2 : m.natAbs < 2 ^ 9000) :
    ∃ v h', fnOf 5 2 takeB [D.ref 0, D.int m] h = .ok (D.int v) h' ∧ 0 ≤ v ∧ v < m ∧ Bx l (b + 1) t h' := by
  obtain ⟨p, r, s, rfl, hp, h0, h1⟩ := x
  obtain ⟨v, p', r', s', e, v0, v1, q1, q2, q3⟩ := take_ok l p r s t m hm hm2 (by omega) h0 h1
  exact ⟨v, _, e, v0, v1, p', r', s', rfl, by omega, q2, q3⟩
theorem Bx.mono {b' : Nat} (x : Bx l b t h) (hb : b ≤ b') : Bx l b' t h := by
  obtain ⟨p, r, s, e, q1, q2⟩ := x
  exact ⟨p, r, s, e, by omega, q2⟩
theorem get1 {a c : Option Cell} {z : Option Cell} : (z :: (t ++ [a, c]))[t.length + 1]? = some a := by simp
theorem get2 {a c : Option Cell} {z : Option Cell} : (z :: (t ++ [a, c]))[t.length + 2]? = some c := by simp
theorem set1 {a c a' : Option Cell} {z : Option Cell} : (z :: (t ++ [a, c])).set (t.length + 1) a' = z :: (t ++ [a', c]) := by simp
theorem set2 {a c c' : Option Cell} {z : Option Cell} : (z :: (t ++ [a, c])).set (t.length + 2) c' = z :: (t ++ [a, c']) := by
  rw [List.set_cons_succ, List.set_append_right _ _ (by omega)]
  simp
theorem Bx.len (x : Bx l b t h) : h.length = t.length + 1 := by
  obtain ⟨p, r, s, rfl, _⟩ := x
  rfl
theorem Bx.app (x : Bx l b t h) (u : Store) : Bx l b (t ++ u) (h ++ u) := by
  obtain ⟨p, r, s, rfl, q⟩ := x
  exact ⟨p, r, s, rfl, q⟩
theorem map_erase {α β : Type} (f : α → β) : ∀ (l : List α) (v : Nat), (l.map f).eraseIdx v = (l.eraseIdx v).map f
  | [], v => by simp
  | a :: l, 0 => by simp
  | a :: l, v + 1 => by simp [map_erase f l v]
theorem erase_perm {α : Type} : ∀ (l : List α) (v : Nat) (hv : v < l.length), (l[v] :: l.eraseIdx v).Perm l
  | [], v, hv => absurd hv (Nat.not_lt_zero v)
  | a :: l, 0, _ => by simp
  | a :: l, v + 1, hv => by
    have ih := erase_perm l v (by simpa using hv)
    rw [List.eraseIdx_cons_succ, List.getElem_cons_succ]
    exact (List.Perm.swap a (l[v]'(by simpa using hv)) (l.eraseIdx v)).trans (ih.cons a)
theorem pop_at {n : Nat} {xs : List Nat} {v : Nat} (hn : h[n]? = some (cel xs)) (hv : v < xs.length) (hs : xs.length ≤ 1000) : mPopAt (D.ref n) [D.int (v : Int)] h = .ok (D.int (xs[v] : Nat)) (h.set n (cel (xs.eraseIdx v))) := by
  have e1 : cellL h (D.ref n) = some (n, dnums xs) := by
    show (match h[n]? with
      | some (some (.lst l)) => some (n, l)
      | _ => none) = _
    rw [hn]
  have big : (1000 : Int) < 2 ^ 63 := by decide +kernel
  have low : (-(2 ^ 63) : Int) ≤ 0 := by decide +kernel
  have c1 : -(2 ^ 63) ≤ (v : Int) ∧ (v : Int) < 2 ^ 63 := by
    have a1 : (v : Int) ≤ 1000 := by omega
    exact ⟨Int.le_trans low (Int.natCast_nonneg v), Int.lt_of_le_of_lt a1 big⟩
  have e2 : seqIndex? (v : Int) (dnums xs).length = some v := by
    have e3 : ¬ ((v : Int) < 0) := by omega
    have e4 : (dnums xs).length = xs.length := by simp [dnums]
    unfold seqIndex?
    rw [e4, if_neg e3]
    dsimp only
    rw [if_pos (by simp; omega), Int.toNat_natCast]
  have e5 : (dnums xs)[v]? = some (D.int (xs[v] : Nat)) := by simp [dnums, hv]
  unfold mPopAt
  rw [e1]
  dsimp only
  rw [if_pos c1, e2]
  dsimp only
  rw [e5]
  dsimp only
  rw [show (dnums xs).eraseIdx v = dnums (xs.eraseIdx v) from map_erase _ xs v]
theorem app_at {n : Nat} {xs : List Nat} {v : Nat} (hn : h[n]? = some (cel xs)) (hs : xs.length ≤ 1000) : mAppend (D.ref n) [D.int (v : Int)] h = .ok .non (h.set n (cel (xs ++ [v]))) := by
  have e1 : cellL h (D.ref n) = some (n, dnums xs) := by
    show (match h[n]? with
      | some (some (.lst l)) => some (n, l)
      | _ => none) = _
    rw [hn]
  have e4 : (dnums xs).length < sizeLine := by
    have q : (1001 : Nat) ≤ sizeLine := small_line (by decide)
    simp [dnums]
    omega
  unfold mAppend
  rw [e1]
  dsimp only
  rw [if_pos e4, show dnums xs ++ [D.int (v : Int)] = dnums (xs ++ [v]) by simp [dnums]]
theorem isL {n : Nat} {xs : List Nat} (hn : h[n]? = some (cel xs)) : isTy "list" h (D.ref n) = true := by
  show (match h[n]? with
    | some (some (.lst _)) => "list" == "list"
    | some (some (.dct _)) => "list" == "dict"
    | _ => false) = true
  rw [hn] <;> rfl
theorem len_at {n : Nat} {xs : List Nat} (hn : h[n]? = some (cel xs)) : fLen [D.ref n] h = .ok (D.int (xs.length : Nat)) h := by
  have e : asR h (D.ref n) = some (dnums xs) := by
    show (match h[n]? with
      | some (some (.lst l)) => some l
      | _ => none) = _
    rw [hn]
  unfold fLen
  simp only [e]
  simp [dnums]
theorem ev_cMt {T : String} {F : MethT} {fo : Ev D} {fs : Ev (List D)} {st : Slots} {h h1 : Store} {d : D} (e : fo st h = .ok d h1) (ht : isTy T h1 d = true) : cMt T F fo fs st h = (fs st h1).bind fun ds h2 => F d ds h2 := by
  unfold cMt
  rw [e, Res.bind_ok, if_pos ht]
theorem perm_move {lf so : List Nat} {v : Nat} {n : Nat} (hv : v < lf.length) (p : (lf ++ so).Perm (List.range n)) : ((lf.eraseIdx v) ++ (so ++ [lf[v]])).Perm (List.range n) := by
  have q : (lf[v] :: lf.eraseIdx v).Perm lf := erase_perm lf v hv
  refine List.Perm.trans ?_ p
  rw [← List.append_assoc]
  refine List.Perm.trans (List.perm_append_singleton _ _) ?_
  exact List.Perm.append_right so q
theorem flats_nums (l : List Nat) : flats (dnums l) = some (l.map fun (a : Nat) => L2.V.int (a : Int)) := by
  induction l with
  | nil => rfl
  | cons a l ih =>
    have ih : flats (List.map (fun (a : Nat) => D.int (a : Int)) l) = some (l.map fun (a : Nat) => L2.V.int (a : Int)) := ih
    show flats (D.int (a : Int) :: List.map (fun (a : Nat) => D.int (a : Int)) l) = _
    simp [flats, D.flat, ih]
theorem eqV_n (a b : Nat) : L2.eqV (L2.V.int (a : Int)) (L2.V.int (b : Int)) = (a == b) := nat_beq a b
theorem in_nums (k : Nat) (l : List Nat) (h : Store) : oIn (D.int (k : Int)) (D.lst (dnums l)) h = .ok (D.bl (decide (k ∈ l))) h := by
  have q : inD h (D.int (k : Int)) (D.lst (dnums l)) = some (decide (k ∈ l)) := by
    unfold inD
    simp only [asR, D.flat, flats_nums]
    congr 1
    induction l with
    | nil => rfl
    | cons a l ih =>
      have ih : L2.inV (L2.V.int (k : Int)) (l.map fun (a : Nat) => L2.V.int (a : Int)) = decide (k ∈ l) := ih
      rw [List.map_cons]
      unfold L2.inV at ih ⊢
      rw [List.any_cons, ih, eqV_n]
      by_cases e : a = k
      · subst e; simp
      · have e2 : ¬ k = a := fun z => e z.symm
        simp [e, e2]
  unfold oIn
  rw [q]
theorem first_at (k : Nat) : ∀ (so : List Nat), k ∈ so → firstAt (L2.V.int (k : Int)) (so.map fun (a : Nat) => L2.V.int (a : Int)) = some (so.idxOf k)
  | [], h => by simp at h
  | a :: so, h => by
    rw [List.map_cons]
    unfold firstAt
    rw [eqV_n, List.idxOf_cons]
    by_cases e : a = k
    · subst e; simp
    · have z : (a == k) = false := by simpa using e
      have hk : k ∈ so := by
        rcases List.mem_cons.mp h with q | q
        · exact absurd q.symm e
        · exact q
      rw [z, first_at k so hk]
      simp
theorem index_at {k : Nat} {so : List Nat} (hk : k ∈ so) : mIndex (.lst (dnums so)) [D.int (k : Int)] h = .ok (D.int (so.idxOf k : Nat)) h := by
  unfold mIndex
  simp only [asR, D.flat, flats_nums, first_at k so hk]
theorem len_nums (xs : List Nat) : fLen [.lst (dnums xs)] h = .ok (D.int (xs.length : Nat)) h := by simp [fLen, asR, dnums]
theorem at_nums {so : List Nat} {k : Nat} (hk : k < so.length) : oIx (D.lst (dnums so)) (D.int (k : Int)) h = .ok (D.int (so[k]?.getD 0 : Nat)) h := by
  have e : dnums so = (so.map fun (a : Nat) => (a : Int)).map D.int := by rw [List.map_map]; rfl
  rw [e, at_ints (by simpa using hk)]
  simp [hk]
/-- plain data of some depth -/
inductive Py : Nat → D → Prop where
  | non {n} : Py n .non
  | bl {n} (b : Bool) : Py n (.bl b)
  | int {n} (i : Int) : Py n (.int i)
  | str {n} (x : Str) (hx : (PyData.str x).canLay0 = true) : Py n (.str x)
  | tup {n} {l : List D} (h : ∀ x ∈ l, Py n x) : Py (n + 1) (.tup l)
  | lst {n} {l : List D} (h : ∀ x ∈ l, Py n x) : Py (n + 1) (.lst l)
  | fro {n} {l : List D} (h : ∀ x ∈ l, Py n x) : Py (n + 1) (.fro l)
theorem py_list {m n : Nat} : ∀ (l : List D), (∀ x ∈ l, ∃ p, D.py h m x = some p ∧ p.canLay0 = true ∧ p.depth ≤ n) → ∃ ps, l.mapM (D.py h m) = some ps ∧ PyData.canLayAll0 ps = true ∧ PyData.depthAll ps ≤ n
  | [], _ => ⟨[], rfl, rfl, Nat.zero_le _⟩
  | x :: l, H => by
    obtain ⟨p, e1, e2, e3⟩ := H x (by simp)
    obtain ⟨ps, f1, f2, f3⟩ := py_list l fun y hy => H y (by simp [hy])
    refine ⟨p :: ps, by rw [List.mapM_cons, e1, f1]; rfl, by simp [PyData.canLayAll0, e2, f2], ?_⟩
    unfold PyData.depthAll
    omega
theorem Py.has {n : Nat} {d : D} (p : Py n d) : ∀ m, n < m → ∃ q, D.py h m d = some q ∧ q.canLay0 = true ∧ q.depth ≤ n + 1 := by
  induction p with
  | non => exact fun m hm => by cases m with
    | zero => exact absurd hm (Nat.not_lt_zero _)
    | succ m => exact ⟨_, rfl, rfl, by simp [PyData.depth]⟩
  | bl b => exact fun m hm => by cases m with
    | zero => exact absurd hm (Nat.not_lt_zero _)
    | succ m => exact ⟨_, rfl, rfl, by simp [PyData.depth]⟩
  | int b => exact fun m hm => by cases m with
    | zero => exact absurd hm (Nat.not_lt_zero _)
    | succ m => exact ⟨_, rfl, rfl, by simp [PyData.depth]⟩
  | str x hx => exact fun m hm => by cases m with
    | zero => exact absurd hm (Nat.not_lt_zero _)
    | succ m => exact ⟨_, rfl, hx, by simp [PyData.depth]⟩
  | @tup n l _ ih => exact fun m hm => by cases m with
    | zero => exact absurd hm (Nat.not_lt_zero _)
    | succ m =>
      obtain ⟨ps, f1, f2, f3⟩ := py_list (h := h) (m := m) (n := n + 1) l fun x hx => ih x hx m (by omega)
      refine ⟨.tuple ps, ?_, f2, by simp [PyData.depth]; omega⟩
      show (l.mapM (D.py h m)).map PyData.tuple = _
      rw [f1]
      rfl
  | @lst n l _ ih => exact fun m hm => by cases m with
    | zero => exact absurd hm (Nat.not_lt_zero _)
    | succ m =>
      obtain ⟨ps, f1, f2, f3⟩ := py_list (h := h) (m := m) (n := n + 1) l fun x hx => ih x hx m (by omega)
      refine ⟨.list ps, ?_, f2, by simp [PyData.depth]; omega⟩
      show (l.mapM (D.py h m)).map PyData.list = _
      rw [f1]
      rfl
  | @fro n l _ ih => exact fun m hm => by cases m with
    | zero => exact absurd hm (Nat.not_lt_zero _)
    | succ m =>
      obtain ⟨ps, f1, f2, f3⟩ := py_list (h := h) (m := m) (n := n + 1) l fun x hx => ih x hx m (by omega)
      refine ⟨.list ps, ?_, f2, by simp [PyData.depth]; omega⟩
      show (l.mapM (D.py h m)).map PyData.list = _
      rw [f1]
      rfl
theorem Py.eq {n : Nat} {d : D} (p : Py n d) (hn : n ≤ 30) : eqD h d d = some true := by
  obtain ⟨q, e1, e2, e3⟩ := p.has (h := h) 40 (by omega)
  have e4 : SeqAt.shaped q = true := by
    unfold SeqAt.shaped
    rw [e2]
    simp
    omega
  have gen : (match D.py h 40 d, D.py h 40 d with
      | some p, some q => if SeqAt.shaped p = true ∧ SeqAt.shaped q = true then some (PyData.eqv p q) else none
      | _, _ => none) = some true := by
    rw [e1]
    dsimp only
    rw [if_pos ⟨e4, e4⟩, SeqAt.eqv_refl q e2]
  cases p with
  | non => rfl
  | bl b => simp [eqD]
  | int b => simp [eqD]
  | str x _ => simp [eqD]
  | tup _ => exact gen
  | lst _ => exact gen
  | fro _ => exact gen
theorem Py.ne_ok {n : Nat} {d : D} (p : Py n d) (hn : n ≤ 30) : oNe d d h = .ok (.bl false) h := by
  unfold oNe
  rw [p.eq hn]
  rfl
theorem Py.eq_ok {n : Nat} {d : D} (p : Py n d) (hn : n ≤ 30) : oEq d d h = .ok (.bl true) h := by
  unfold oEq
  rw [p.eq hn]
theorem py_nums (l : List Nat) {n : Nat} : Py (n + 1) (.lst (dnums l)) := .lst fun x hx => by
  obtain ⟨a, _, rfl⟩ := List.mem_map.mp hx
  exact .int _
theorem frz_at {st : Slots} {i n : Nat} {f : Ss} {l : List D} (e : st[i]? = some (some (.ref n))) (hn : h[n]? = some (some (.lst l))) : sFrz i f st h = f (st.set i (some (.lst l))) (h.set n none) := by
  unfold sFrz
  rw [e]
  dsimp only
  rw [hn]
theorem list_lst (l : List D) : fList false [.lst l] h = .ok (.lst l) h := rfl
end
end Gm

/-! Gm28: a def called with keywords alone, or with its keywords in the other order. -/
namespace Gm
open PySem PySem.Spec PyProof.Rows L2
theorem vals_rev : ∀ {vs : List V} {us : List Value}, Vals vs us → Vals vs.reverse us.reverse
  | _, _, .nil => .nil
  | _, _, .cons r rs => by
    rw [List.reverse_cons, List.reverse_cons]
    exact (vals_rev rs).append (.cons r .nil)
theorem rvs_rev {c : Cf} {g : Gh} {L : Nat} : ∀ {ds : List D} {vs : List V}, RVs c g L ds vs → RVs c g L ds.reverse vs.reverse
  | _, _, .nil => .nil
  | _, _, .cons r rs => by
    rw [List.reverse_cons, List.reverse_cons]
    exact (rvs_rev rs).append (.cons r .nil)
section
variable {P : Program} {w : World} {K : PySem.W.Frag} {mg : Str → Option Value} {base : Heap} {c : Cf} {x qual : Str} {params : Arguments} {body : List Stmt} {scope : Scope} {kws : List (Str × V)} {f : Addr} {fd : FuncData} {ps : List Str} {k : Nat} {F : FnT}
/-- the keywords stand in the other order -/
theorem callOk_rev (FD : FunD K x qual params body scope [] kws f fd) (hm : mg x = some (.ref f)) (ok : FnOk P w K mg base (L2N.CX P w) k f fd ps (spOf c F)) (n : Nat) (ks : List Str)
    (hb : ∀ (kV doc pm : Value) (an : Option Addr) (cdv ct : Value) (us ws : List Value), us.length = n → ws.length = ks.length → bindArgs (PySem.W.fnOf x qual params body scope .none kV doc pm an cdv ct) ⟨us, ks.zip ws⟩ = pure (ps.zip (us ++ ws.reverse))) :
    CallOkK P w K mg base c x k F n ks (fun ds es => ds ++ es.reverse) := by
  refine ⟨f, fd, ps, fun vs zs => vs ++ zs.reverse, fun us ws => us ++ ws.reverse, hm, ok, FD.kp, ⟨fun s us ws X l1 l2 => ?_, fun r1 r2 => r1.append (vals_rev r2)⟩, fun g L ds vs es ws r1 r2 => r1.append (rvs_rev r2)⟩
  obtain ⟨oc, od, dV, kV, doc, pm, an, cdv, ct, osl, e, _, _, hD, _⟩ := FD.ex
  rcases hD with ⟨_, e2⟩ | ⟨z, _⟩
  · rw [e, e2]
    exact .of_eq (hb kV doc pm an cdv ct us ws l1 l2)
  · exact absurd rfl z
end
section
variable {X : Cx} {CX : CXT} {k n m : Nat} {f : Addr} {fd : FuncData} {ps ks : List Str} {sp : Sp} {E : XK} {x : Str} {p pos : Pos} {kws : List Keyword} {tk : TA} {g : List Value → List Value → List Value} {gV : List V → List V → List V}
/-- f(k = v, ..) -/
theorem pe_callN0 (F : FnOk X.prog X.w X.K X.mg X.base CX k f fd ps sp) (hr : Room k X.A) (hg : Gl X x) (hm : X.mg x = some (.ref f)) (hk : PySem.W.keepIn X.K (.ref f) = true) (hb : KBn X.K fd ps 0 ks g gV) (hx : Passes CX X E)
    (hkw : PK X kws tk) (hall : (backToKw pos (keywordEach kws X.env)).all (·.1.isSome) = true) (hks : (backToKw pos (keywordEach kws X.env)).filterMap (·.1) = ks)
    (hdb : (x == ("__debug__" : Str)) = false) (hpl : ((backTo pos (starEach [] X.env)).any (·.1) || (backToKw pos (keywordEach kws X.env)).any (·.1.isNone)) = false) :
    PE X (.Call (.Name x p) [] kws pos) (fun σ H Q => tk σ H fun zs H2 => zs.length = ks.length ∧ sp (gV [] zs) H2 Q E) := by
  refine ⟨fun pins s σ H Q I h => ?_⟩
  refine wpAny_Call_Name_kw (ld_glob I hg hm ?_ hdb)
  refine PySem.W.callWith_KW0 (h₀ := X.base) I.ok.mod.kin hk hall (thn (hkw.run pos pins s σ H _ I h) fun ws s2 ⟨zs, H2, I2, rz, l2, q2⟩ => ⟨I2.kIn, ?_⟩) hpl
  rw [hks]
  exact run_fnN (us := []) (vs := []) F hr hb hx I2 .nil rz rfl l2 q2
theorem e_callK0 {c : Cf} {W : WX} {fk : Ev (List D)} {F : FnT} {gD : List D → List D → List D} {j : Nat} (G : CallOkK X.prog X.w X.K X.mg X.base c x k F 0 ks gD) (hr : Room j X.A) (hj : k ≤ j) (hg : Gl X x) (hx : Passes (L2N.CX X.prog X.w) X E) (hW : ∀ cls dd σ H, W cls dd σ H → E cls dd H)
    (hkw : L2.PK X kws (tAr c W fk)) (hall : (backToKw pos (keywordEach kws X.env)).all (·.1.isSome) = true := by rfl) (hks : (backToKw pos (keywordEach kws X.env)).filterMap (·.1) = ks := by rfl)
    (hdb : (x == ("__debug__" : Str)) = false := by decide) (hpl : ((backTo pos (starEach [] X.env)).any (·.1) || (backToKw pos (keywordEach kws X.env)).any (·.1.isNone)) = false := by rfl) (hlen : ks.length = m := by rfl) :
    PE X (.Call (.Name x p) [] kws pos) (tEv c W (cCallK F 0 m gD cNil fk)) := by
  subst hlen
  obtain ⟨f, fd, ps, gV, gU, hm, G, hk, hb, rd⟩ := G
  refine PE.imp (pe_callN0 G (hr.mono hj) hg hm hk hb hx hkw hall hks hdb hpl) fun σ H Q ⟨st, h, g, S, sl, q⟩ => ?_
  have q : RP c (Rv c) g h H ((fk st h).bind fun es h2 => if ([] : List D).length = 0 ∧ es.length = ks.length then F (gD [] es) h2 else .no) Q (fun cls dd H' => W cls dd σ H') := q
  refine ⟨st, h, g, S, sl, RP.mono q.bind fun zs H2 ⟨es', h2, g2, o2, S2, r2, q2⟩ => ?_⟩
  by_cases hl : es'.length = ks.length
  · have q2 := q2
    rw [if_pos (show ([] : List D).length = 0 ∧ es'.length = ks.length from ⟨rfl, hl⟩)] at q2
    refine ⟨by rw [← r2.length]; exact hl, gD [] es', h2, g2, S2, rd _ _ _ _ _ _ .nil r2, ?_⟩
    cases er : F (gD [] es') h2 with
    | ok d h3 => rw [er] at q2; exact q2
    | exc ee h3 => rw [er] at q2; exact fun g' H' cls dd o S' rx => hW _ _ _ _ (q2 g' H' cls dd o S' rx)
    | no => rw [er] at q2; exact q2
  · rw [if_neg (fun z : ([] : List D).length = 0 ∧ es'.length = ks.length => hl z.2)] at q2
    exact q2.elim
end
end Gm

/-! Gm29: sorted(set(xs)) of a list of ints. -/
namespace Gm
open PySem PySem.Spec PyProof.Rows L2
/-! ### distinct ints in order -/
def insU (x : Int) : List Int → List Int
  | [] => [x]
  | y :: r => if x < y then x :: y :: r else if x = y then y :: r else y :: insU x r
def sortU : List Int → List Int
  | [] => []
  | x :: r => insU x (sortU r)
theorem insU_mem {x k : Int} : ∀ {l : List Int}, k ∈ insU x l ↔ k = x ∨ k ∈ l
  | [] => by simp [insU]
  | y :: r => by
    unfold insU
    split
    · simp
    · split
      · rename_i e
        subst e
        simp
      · rw [List.mem_cons, insU_mem (l := r), List.mem_cons]
        constructor
        · rintro (h | h | h) <;> simp [h]
        · rintro (h | h | h) <;> simp [h]
theorem sortU_mem {k : Int} : ∀ {l : List Int}, k ∈ sortU l ↔ k ∈ l
  | [] => by simp [sortU]
  | x :: r => by
    unfold sortU
    rw [insU_mem, sortU_mem (l := r), List.mem_cons]
theorem insU_pw {x : Int} : ∀ {l : List Int}, l.Pairwise (· < ·) → (insU x l).Pairwise (· < ·)
  | [], _ => by simp [insU]
  | y :: r, h => by
    obtain ⟨h1, h2⟩ := List.pairwise_cons.mp h
    unfold insU
    split
    · rename_i lt
      refine List.pairwise_cons.mpr ⟨fun z hz => ?_, h⟩
      rcases List.mem_cons.mp hz with rfl | hz
      · exact lt
      · have := h1 z hz; omega
    · split
      · exact h
      · refine List.pairwise_cons.mpr ⟨fun z hz => ?_, insU_pw h2⟩
        rcases insU_mem.mp hz with rfl | hz
        · omega
        · exact h1 z hz
theorem sortU_pw : ∀ (l : List Int), (sortU l).Pairwise (· < ·)
  | [] => .nil
  | x :: r => insU_pw (sortU_pw r)
theorem pw_uniq : ∀ {l k : List Int}, l.Pairwise (· < ·) → k.Pairwise (· < ·) → (∀ x, x ∈ l ↔ x ∈ k) → l = k
  | [], [], _, _, _ => rfl
  | [], y :: k, _, _, h => absurd ((h y).mpr (by simp)) (by simp)
  | x :: l, [], _, _, h => absurd ((h x).mp (by simp)) (by simp)
  | x :: l, y :: k, hl, hk, h => by
    obtain ⟨l1, l2⟩ := List.pairwise_cons.mp hl
    obtain ⟨k1, k2⟩ := List.pairwise_cons.mp hk
    have e : x = y := by
      rcases List.mem_cons.mp ((h x).mp (by simp)) with e | e
      · exact e
      · rcases List.mem_cons.mp ((h y).mpr (by simp)) with e2 | e2
        · exact e2.symm
        · have a := k1 x e
          have b := l1 y e2
          omega
    subst e
    congr 1
    refine pw_uniq l2 k2 fun z => ?_
    constructor
    · intro hz
      rcases List.mem_cons.mp ((h z).mp (by simp [hz])) with e | e
      · have := l1 z hz; omega
      · exact e
    · intro hz
      rcases List.mem_cons.mp ((h z).mpr (by simp [hz])) with e | e
      · have := k1 z hz; omega
      · exact e
theorem insU_len (x : Int) : ∀ l : List Int, (insU x l).length ≤ l.length + 1
  | [] => by simp [insU]
  | y :: r => by
    unfold insU
    split
    · simp
    · split
      · simp
      · have := insU_len x r
        simp
        omega
theorem sortU_len : ∀ l : List Int, (sortU l).length ≤ l.length
  | [] => Nat.le_refl 0
  | x :: r => by
    have := insU_len x (sortU r)
    have := sortU_len r
    unfold sortU
    simp
    omega
/-! ### the set -/
section
variable {P : Program} {w : World} {A : Around} {E : Value → Shared → Prop} {s : Shared}
abbrev setN (w : World) : Obj := { cls := .type "set", dict := none, data := .set #[] 0 (.fresh 0 0 (!w.params.followText "set-order")) }
/-- set(l), l a list of ints: its order stays told -/
theorem call_setI {l : Addr} {its : Array Value} (ns : List Int) {Q : Value → Shared → Prop} (hh : A.handled = none) (hl : s.heap.IsList l its) (hi : IntsAre its.toList ns) (hb : ns.length + 1 < scanBound)
    (h : ∀ (h' : Heap) (tk c : Nat), SetR w h' s.heap.objs.size (fun j => decide (j ∈ ns)) c → c ≤ ns.length → (∀ b o, s.heap.get? b = some o → h'.get? b = some o) → Q (.ref s.heap.objs.size) { s with heap := h', toks := tk }) :
    wpAny (model P w) A (call (.type "set") [.ref l]) Q E s := by
  have many : its.size = ns.length := by
    have q := IntsAre.length hi
    rwa [Array.length_toList] at q
  obtain ⟨cx, tl, hmro⟩ := F.called_set.mro
  have hmade := F.called_set.made
  have hsub := F.called_set.sub
  refine wpAny_call (codeAny_of_tree ?_)
  show wpAny _ _ (callAny (.type "set") _) _ _ _
  refine wpAny_pure ⟨Code.quiet_builtin _ (by decide +kernel), codeAny_builtin F.entry_type_call ?_⟩
  rw [Around.under_plain (weight_type_call_type "set" [.ref l] []) rfl]
  have h1 := F.called_set.notType
  have h2 := F.called_set.canCreate
  have hct := F.typeCall_set_1 (.ref l)
  repeat (any_goals (first | assumption | wp_step))
  refine codeAny_mono (code_set_led1 (.ref l) (E := E) (Q₁ := fun o1 s1 => o1 = .ref s.heap.objs.size ∧ s1 = { s with heap := s.heap.push (setN w) }) ⟨rfl, rfl⟩) fun r s1 hr => ?_
  cases r with
  | error e => exact hr
  | ok fl =>
    cases fl with
    | ret obj =>
      obtain ⟨rfl, rfl⟩ := hr
      have hS : (s.heap.push (setN w)).get? s.heap.objs.size = some (setN w) := Heap.get?_push_size _ rfl
      have hT : Shared.TypeIs { s with heap := s.heap.push (setN w) } (.ref s.heap.objs.size) "set" := ⟨_, hS, rfl⟩
      have hli := F.called_set.init.lookup
      have hbi := F.called_set.init.bind (.ref s.heap.objs.size)
      repeat (any_goals (first | assumption | wp_step))
      refine codeAny_mono (codeAny_call_builtin (R := wants (fun r s2 => r = .none ∧ ∃ h' tk c, s2 = { s with heap := h', toks := tk } ∧ SetR w h' s.heap.objs.size (fun j => decide (j ∈ ns)) c ∧ c ≤ ns.length ∧
          (∀ b o, s.heap.get? b = some o → h'.get? b = some o)) E) F.called_set.init.plain F.entry_set_init (check_set_init_1 hT ?_)) fun r2 s2 hr2 => ?_
      · obtain ⟨⟨oc, od, dt, osl⟩, ho, hc, nl, hd⟩ := hl
        simp only at hc hd
        subst hc; subst hd
        have ho' : (s.heap.push (setN w)).get? l = some { cls := .type "list", dict := od, data := .seq its nl, slots := osl } := Heap.get?_push_of_some _ ho
        have i1 := F.sub_list_set
        have i2 := F.sub_list_frozenset
        have i3 : (Value.type "list" == Value.type "dict") = false := by decide
        have hl1 : (s.heap.push (setN w)).IsList l its := ⟨_, ho', rfl, nl, rfl⟩
        unfold Builtin.«set.__init__» noKeywords Builtin.Frozenset.updateFrom
        generalize hPI : pyIter = PI
        wp_walk
        subst hPI
        refine wpAny_pyIter_list hl1 ?_
        refine wpAny_bind (wpAny_runValue ?_)
        have lS : l < s.heap.objs.size := Heap.lt_size ho
        have h3 : A.in1.in1.in1.handled = none := by simp [hh]
        have nI : l ≠ (s.heap.push (setN w)).objs.size := by
          rw [Heap.size_push]; exact Nat.ne_of_lt (Nat.lt_succ_of_lt lS)
        have nS : s.heap.objs.size ∉ [(s.heap.push (setN w)).objs.size, l] := by
          rw [Heap.size_push]; simp only [List.mem_cons, List.mem_singleton, List.not_mem_nil, or_false, not_or]
          exact ⟨Nat.ne_of_lt (Nat.lt_succ_self _), Nat.ne_of_gt lS⟩
        have val : ∀ (i : Nat) (v : Value), its[i]? = some v → ∃ k t, ns[i]? = some k ∧ v = .int k t := fun i v hv => by
          have hi2 : i < ns.length := by rw [← many]; exact (Array.getElem?_eq_some_iff.mp hv).1
          obtain ⟨t, e⟩ := IntsAre.int_at hi i v (by rw [Array.getElem?_toList]; exact hv)
          refine ⟨ns[i], t, List.getElem?_eq_getElem hi2, ?_⟩
          rw [e, List.getD_eq_getElem?_getD, List.getElem?_eq_getElem hi2] <;> rfl
        refine set_update_ints ((Walks.list h3 _ l nI its).toS) s.heap.objs.size nS ns many hb val (its.size - 0) 0 _ (by omega) (Nat.zero_le _) ⟨⟨_, Heap.get?_push_size _ rfl, rfl, rfl⟩, (hl1.push _)⟩ ?new0 ?upd0
        case new0 =>
          have g0 : ((s.heap.push (setN w)).push { cls := .type "list_iterator", data := .fields #[.ref l, .int 0 0] }).get? s.heap.objs.size = some (setN w) := Heap.get?_push_of_some _ hS
          exact ⟨0, Nat.le_refl 0, setR_new_at g0⟩
        case upd0 =>
          intro s' c' hm hc' hS'
          obtain ⟨h', g2, d', tk', os'⟩ := s'
          have eg : g2 = s.gens := hm.gens
          have ed : d' = s.drawn := hm.drawn
          have eo : os' = s.os := hm.os
          subst eg; subst ed; subst eo
          show wpAny _ _ _ _ _ _
          refine wpAny_pure ?_
          show wpAny _ _ (ret Value.none) _ _ _
          rw [many] at hc'
          refine wpAny_pure ⟨rfl, h', tk', c', rfl, hS', hc', fun b o e => ?_⟩
          have b0 : b < s.heap.objs.size := Heap.lt_size e
          have b1 : b ≠ s.heap.objs.size := Nat.ne_of_lt b0
          have b2 : b ≠ (s.heap.push (setN w)).objs.size := by
            rw [Heap.size_push]; exact Nat.ne_of_lt (Nat.lt_succ_of_lt b0)
          exact hm.heap b o (by simp only [List.mem_cons, List.mem_singleton, List.not_mem_nil, or_false, not_or]; exact ⟨b1, b2⟩) (Heap.get?_push_of_some _ (Heap.get?_push_of_some _ e))
      · cases r2 with
        | error e => exact hr2
        | ok f2 =>
          cases f2 with
          | ret r =>
            obtain ⟨rfl, h', tk, c', rfl, hS', hc', hk'⟩ := hr2
            repeat (any_goals (first | assumption | wp_step))
            exact h _ _ _ hS' hc' hk'
          | _ => exact hr2.elim
    | _ => exact hr.elim
end
/-! ### sorted(set(e)) -/
section
variable {X : Cx} {a : Expr} {ta : TE} {p p2 q pos : Pos}
def tSortSet (K : PySem.W.Frag) (ta : TE) : TE := fun σ H Q => ta σ H fun x H1 => ∃ (l : Addr) (ns : List Int), x = .ref l ∧ SqL K H1 l (ns.map V.int) ∧ ns.length < 64 ∧ ∀ p, H1 p = none → Q (.ref p) (upd H1 p (.lst ((sortU ns).map V.int)))
theorem sort_fin {pins : List (Addr × Obj)} {σ : L2.St} {H : Hp} {s2 s' : Shared} {p : Addr} {out : Array Value} {c2 : Nat} {ns : List Int} {Q : VK} (I2 : Inv X pins σ H s2) (k : ∀ b o, s2.heap.get? b = some o → s'.heap.get? b = some o) (g : s'.gens = s2.gens) (o : s'.os = s2.os) (hp : s2.heap.objs.size ≤ p)
    (hget : s'.heap.get? p = some (seqObj "list" out c2)) (hi : IntsAre out.toList ns) (hz : ns.length ≤ 1000) (q : ∀ p, H p = none → Q (.ref p) (upd H p (.lst (ns.map V.int)))) : EP X pins σ Q (.ref p) s' := by
  have hz2 : (ns.map V.int).length ≤ sizeLine := by rw [List.length_map, sizeLine_eq]; omega
  have hn : H p = none := I2.hok.fresh hp
  have J : Inv X pins σ (upd H p (.lst (ns.map V.int))) { s2 with heap := s'.heap, gens := s'.gens, drawn := s'.drawn, toks := s'.toks } :=
    I2.call (ch := []) (Un.laid k hp hn) (I2.hok.laid k hp ⟨hz2, out.toList, c2, vals_of_ints hi, hget⟩) (by rw [g]; exact I2.bare) (fun _ z => nomatch z)
  have e : s' = { s2 with heap := s'.heap, gens := s'.gens, drawn := s'.drawn, toks := s'.toks } := by
    cases s'
    cases s2
    cases o
    rfl
  rw [e]
  exact ⟨.ref p, _, J, rfl, q p hn⟩
theorem pe_sortSet (hc : X.calm = true) (hg : Gl X "sorted") (hm : X.mg "sorted" = none) (hg2 : Gl X "set") (hm2 : X.mg "set" = none) (ha : PE X a ta)
    (na : starEach [a] X.env = (false, eval a X.env) :: starEach [] X.env := by rfl) : PE X (.Call (.Name "sorted" p) [.Call (.Name "set" p2) [a] [] q] [] pos) (tSortSet X.K ta) := by
  refine ⟨fun pins s σ H Q I h => ?_⟩
  refine Call_ (ld_blt I hg hm PyProof.Rows.boot_sorted ?_)
  refine PyProof.Rows.callWith_builtin1 (PyProof.Rows.args_cons ?_ rfl) rfl rfl
  refine Call_ (ld_blt I hg2 hm2 PyProof.Rows.boot_set ?_)
  refine PyProof.Rows.callWith_type1 (PyProof.Rows.args_cons (thn (ha.run pins s σ H _ I h) fun v s1 ⟨x, H1, I1, r1, q1⟩ => PyProof.Rows.args_nil ?_) na) na rfl
  obtain ⟨l, ns, rfl, hq, hl, q1⟩ := q1
  cases r1
  obtain ⟨its, r, pl, hz⟩ := I1.list hq
  refine call_setI ns (I1.ok.hd hc) pl.isList (by simpa using ints_of_vals r) (by unfold scanBound; omega) fun h' tk c hS hcn hk => ?_
  refine PyProof.Rows.args_nil ?_
  have I2 : Inv X pins σ H1 { s1 with heap := h', toks := tk } := I1.kept hk
  refine sorted_set hS (I1.ok.hd hc) (by omega) fun s' p out c2 ks k g o hp hget hi hpw hmem hlen => ?_
  have e1 : ks = sortU ns := pw_uniq hpw (sortU_pw ns) fun x => by rw [hmem, sortU_mem, decide_eq_true_eq]
  subst e1
  exact sort_fin I2 k g o hp hget hi (by
    have := sortU_len ns
    omega) q1
end
section
variable {c : Cf} {W : WX} {X : Cx} {a : Expr} {fa : Ev D} {p p2 q pos : Pos}
def cSortSet (m : Bool) (fe : Ev D) : Ev D := fun st h => (fe st h).bind fun d h1 => match asL h1 d with
  | some l => match intsOf l with
    | some ns => if ns.length < 64 then alloc m ((sortU ns).map D.int) h1 else .no
    | none => .no
  | none => .no
theorem rvs_ints {g : Gh} {L : Nat} : ∀ ns : List Int, RVs c g L (ns.map D.int) (ns.map V.int)
  | [] => .nil
  | n :: ns => .cons (.int n) (rvs_ints ns)
theorem e_sortSet {m : Bool} (hK : c.K = X.K) (hc : X.calm = true) (hg : Gl X "sorted") (hm : X.mg "sorted" = none) (hg2 : Gl X "set") (hm2 : X.mg "set" = none) (ha : PE X a (tEv c W fa)) (na : starEach [a] X.env = (false, eval a X.env) :: starEach [] X.env := by rfl) :
    PE X (.Call (.Name "sorted" p) [.Call (.Name "set" p2) [a] [] q] [] pos) (tEv c W (cSortSet m fa)) := PE.imp (pe_sortSet hc hg hm hg2 hm2 ha na) fun σ H Q ⟨st, h, g, S, sl, q⟩ => by
  refine ⟨st, h, g, S, sl, RP.mono (RP.bind q) fun v H1 ⟨d, h1, g1, o1, S1, r1, q1⟩ => ?_⟩
  split at q1
  · rename_i l el
    split at q1
    · rename_i ns ex
      by_cases hl : ns.length < 64
      · rw [if_pos hl] at q1
        obtain ⟨b, vs, rfl, hq, rs⟩ := asL_ok S1 r1 el
        have ev := intsOf_ok rs ex
        subst ev
        rw [← hK]
        exact ⟨b, ns, rfl, .inl (.inl hq), hl, alloc_ok S1 (rvs_ints _) q1⟩
      · rw [if_neg hl] at q1; exact q1.elim
    · exact q1.elim
  · exact q1.elim
end
end Gm

/-! Gm30: a chain of three comparisons. -/
namespace Gm
open PySem PySem.Spec PyProof.Rows L2
section
variable {X : Cx} {a b d e : Expr} {ta tb td te : TE} {op op' op'' : CmpOp} {r r' r'' : R2} {pos : Pos}
def tChain3 (r r' r'' : R2) (ta tb td te : TE) : TE := fun σ H Q => ta σ H fun x H1 => tb σ H1 fun y H2 => r x y H2 fun z H3 => ∃ k, z = .bl k ∧
  (if k = true then td σ H3 fun w' H4 => r' y w' H4 fun z2 H5 => ∃ k2, z2 = .bl k2 ∧ (if k2 = true then te σ H5 fun w2 H6 => r'' w' w2 H6 Q else Q (.bl false) H5) else Q (.bl false) H3)
theorem pt_chain3 (ho : OpR X (compareOp op) r) (ho' : OpR X (compareOp op') r') (ho'' : OpR X (compareOp op'') r'') (ha : PE X a ta) (hb : PE X b tb) (hd : PE X d td) (he : PE X e te)
    (hm : lastMarks [op, op', op''] [b, d, e] = false := by with_unfolding_all rfl) : PT X (.Compare a [op, op', op''] [b, d, e] pos) (tTest (tChain3 r r' r'' ta tb td te)) := by
  refine ⟨fun pins s σ H Q I h => ?_⟩
  refine isTrue_chain (thn (ha.run pins s σ H _ I h) fun v s1 ⟨x, H1, I1, r1, q1⟩ => test_link (thn (hb.run pins s1 σ H1 _ I1 q1) fun u s2 ⟨y, H2, I2, r2, q2⟩ =>
    thn (ho pins s2 σ H2 x y v u _ I2 r1 r2 q2) fun _ s3 ⟨z, H3, I3, r3, k, e, q3⟩ => ?_)) hm
  subst e
  cases r3
  refine wpAny_truthy_bool ?_
  cases k with
  | false =>
    obtain ⟨k', e', q'⟩ := q3
    cases e'
    exact ite_ff ⟨H3, I3, q'⟩
  | true =>
    refine ite_tt (test_link (thn (hd.run pins s3 σ H3 _ I3 q3) fun w' s4 ⟨z', H4, I4, r4, q4⟩ => thn (ho' pins s4 σ H4 y z' u w' _ I4 r2 r4 q4) fun _ s5 ⟨z2, H5, I5, r5, k2, e2, q5⟩ => ?_))
    subst e2
    cases r5
    refine wpAny_truthy_bool ?_
    cases k2 with
    | false =>
      obtain ⟨k', e', q'⟩ := q5
      cases e'
      exact ite_ff ⟨H5, I5, q'⟩
    | true =>
      refine ite_tt (test_last (thn (he.run pins s5 σ H5 _ I5 q5) fun w2 s6 ⟨z3, H6, I6, r6, q6⟩ => thn (ho'' pins s6 σ H6 z' z3 w' w2 _ I6 r4 r6 q6) fun _ s7 ⟨z4, H7, I7, r7, k3, e3, q7⟩ => ?_))
      subst e3
      cases r7
      exact wpAny_truthy_bool ⟨H7, I7, q7⟩
end
section
variable {c : Cf} {W : WX} {X : Cx} {a b d e : Expr} {fo fo' fo'' : D → D → Store → Res D} {r r' r'' : R2} {op op' op'' : CmpOp} {fa fb fd fe : Ev D} {pos : Pos}
def cChain3 (fo fo' fo'' : D → D → Store → Res D) (fa fb fd fe : Ev D) : Ev D := fun st h => (fa st h).bind fun a h1 => (fb st h1).bind fun b h2 => (fo a b h2).bind fun z h3 => match z with
  | .bl true => (fd st h3).bind fun d h4 => (fo' b d h4).bind fun z2 h5 => match z2 with
    | .bl true => (fe st h5).bind fun e h6 => fo'' d e h6
    | .bl false => .ok (.bl false) h5
    | _ => .no
  | .bl false => .ok (.bl false) h3
  | _ => .no
theorem evChain3 (hr : R2Ok c r fo) (hr' : R2Ok c r' fo') (hr'' : R2Ok c r'' fo'') {σ : L2.St} {H : Hp} {Q : VK} (x : tEv c W (cChain3 fo fo' fo'' fa fb fd fe) σ H Q) : tChain3 r r' r'' (tEv c W fa) (tEv c W fb) (tEv c W fd) (tEv c W fe) σ H Q := by
  obtain ⟨st, h, g, S, sl, q⟩ := x
  refine ⟨st, h, g, S, sl, RP.mono q.bind fun v1 H1 ⟨d1, h1, g1, o1, S1, r1, q1⟩ => ?_⟩
  refine ⟨st, h1, g1, S1, sl.go o1, RP.mono q1.bind fun v2 H2 ⟨d2, h2, g2, o2, S2, r2, q2⟩ => ?_⟩
  refine hr g2 h2 H2 d1 v1 d2 v2 _ _ S2 (r1.mono o2.gx o2.len) r2 (RP.mono (RP.bind (R' := Rv c) q2) fun z H3 ⟨d3, h3, g3, o3, S3, r3, q3⟩ => ?_)
  cases r3 with
  | bl k =>
    refine ⟨k, rfl, ?_⟩
    cases k with
    | false => exact RP.ok_here q3 S3 (.bl false)
    | true =>
      refine ⟨st, h3, g3, S3, sl.go (o1.trans (o2.trans o3)), RP.mono q3.bind fun v4 H4 ⟨d4, h4, g4, o4, S4, r4, q4⟩ => ?_⟩
      refine hr' g4 h4 H4 d2 v2 d4 v4 _ _ S4 (r2.mono (o3.trans o4).gx (o3.trans o4).len) r4 (RP.mono (RP.bind (R' := Rv c) q4) fun z H5 ⟨d5, h5, g5, o5, S5, r5, q5⟩ => ?_)
      cases r5 with
      | bl k =>
        refine ⟨k, rfl, ?_⟩
        cases k with
        | false => exact RP.ok_here q5 S5 (.bl false)
        | true =>
          refine ⟨st, h5, g5, S5, sl.go (o1.trans (o2.trans (o3.trans (o4.trans o5)))), RP.mono q5.bind fun v6 H6 ⟨d6, h6, g6, o6, S6, r6, q6⟩ => ?_⟩
          exact hr'' g6 h6 H6 d4 v4 d6 v6 _ _ S6 (r4.mono (o5.trans o6).gx (o5.trans o6).len) r6 q6
      | _ => exact q5.elim
  | _ => exact q3.elim
theorem t_chain3 (ho : OpR X (compareOp op) r) (ho' : OpR X (compareOp op') r') (ho'' : OpR X (compareOp op'') r'') (hr : R2Ok c r fo) (hr' : R2Ok c r' fo') (hr'' : R2Ok c r'' fo'') (ha : PE X a (tEv c W fa)) (hb : PE X b (tEv c W fb)) (hd : PE X d (tEv c W fd)) (he : PE X e (tEv c W fe))
    (hm : lastMarks [op, op', op''] [b, d, e] = false := by with_unfolding_all rfl) : PT X (.Compare a [op, op', op''] [b, d, e] pos) (tTe c W (cTv (cChain3 fo fo' fo'' fa fb fd fe))) := PT.imp (pt_chain3 ho ho' ho'' ha hb hd he hm) fun _ _ _ x => evChain3 hr hr' hr'' (tv x)
theorem t_le_le_lt (ha : PE X a (tEv c W fa)) (hb : PE X b (tEv c W fb)) (hd : PE X d (tEv c W fd)) (he : PE X e (tEv c W fe)) (hm : lastMarks [.LtE, .LtE, .Lt] [b, d, e] = false := by with_unfolding_all rfl) : PT X (.Compare a [.LtE, .LtE, .Lt] [b, d, e] pos) (tTe c W (cTv (cChain3 oLe oLe oLt fa fb fd fe))) := t_chain3 op_le op_le op_lt bop_ok bop_ok bop_ok ha hb hd he hm
end
/-! a dict comprehension as a value -/
section
variable {c : Cf} {W : WX} {X : Cx} {pos : Pos}
theorem e_dc {tg kx vx iter : Expr} {ifs : List Expr} {scope : Scope} {own : List (Str × Nat)} {gt : TG} {fi : Ev (List D)} {fg : D → Slots → Option Slots} {ft : Ev Bool} {fk fv : Ev D} (hc : X.calm = true) (hN : X.N.Nodup)
    (hi : PI X tg iter (tIt c W fi)) (ok : BlkOk X.N X.env.scope scope own)
    (hg : ∀ (s : Shared) (H : Hp) (C : Addr) (cl : List (Str × Addr)) (fp : List Addr), PG (X.blk s H scope (compEnvC scope cl C X.env) fp) tg gt) (tgn : TgN c (own.map (·.2)) gt fg)
    (ht : ∀ (s : Shared) (H : Hp) (C : Addr) (cl : List (Str × Addr)) (fp : List Addr), PTs (X.blk s H scope (compEnvC scope cl C X.env) fp) ifs (tTe c W0 ft))
    (hk : ∀ (s : Shared) (H : Hp) (C : Addr) (cl : List (Str × Addr)) (fp : List Addr), PE (X.blk s H scope (compEnvC scope cl C X.env) fp) kx (tEv c W0 fk))
    (hv : ∀ (s : Shared) (H : Hp) (C : Addr) (cl : List (Str × Addr)) (fp : List Addr), PE (X.blk s H scope (compEnvC scope cl C X.env) fp) vx (tEv c W0 fv)) (hs : ∀ x, foldedSetIterable iter X.env x = pure x := by intro _; rfl) :
    PE X (.DictComp kx vx [⟨tg, iter, ifs, 0⟩] scope pos) (tEv c W (cDc fi fg ft fk fv (own.map (·.2)))) := PE.imp (pe_dc hc hN hi ok hg ht hk hv hs) fun σ H Q x => dc_ok tgn x
end
end Gm

/-! Gm31: a value's truth. -/
namespace Gm
open PySem PySem.Spec PyProof.Rows L2
section
variable {c : Cf} {W : WX} {X : Cx} {e : Expr} {f : Ev D}
def truD : D → Option Bool
  | .non => some false
  | .bl b => some b
  | .int i => some (i != 0)
  | _ => none
def cTr (f : Ev D) : Ev Bool := fun st h => (f st h).bind fun d h1 => match truD d with
  | some b => .ok b h1
  | none => .no
theorem t_tru (h : PE X e (tEv c W f)) (he : ∀ whole, isTrue e X.env whole = (do let v ← whole; standAt e.pos; holding [v] (truthy v)) := by intro _; rfl) : PT X e (tTe c W (cTr f)) :=
  PT.imp (pt_truth h he) fun σ H Q ⟨st, h, g, S, sl, q⟩ => by
    refine ⟨st, h, g, S, sl, RP.mono (RP.bind q) fun v H1 ⟨d, h1, g1, o1, S1, r1, q1⟩ => ?_⟩
    cases r1 with
    | non => exact ⟨false, rfl, q1 _ _ _ (Go.refl _ _ _) S1 rfl⟩
    | bl b => exact ⟨b, rfl, q1 _ _ _ (Go.refl _ _ _) S1 rfl⟩
    | int i => exact ⟨(i != 0), rfl, q1 _ _ _ (Go.refl _ _ _) S1 rfl⟩
    | _ => exact q1.elim
end
end Gm

/-! Gm32: enumerate of a tuple. -/
namespace Gm
open PySem PySem.Spec PyProof.Rows L2
open AutoSeq1 (wpAny_loadPart')
theorem meets_enumT (l : Addr) (items : Array Value) (n : Nat) (dct : Option Addr) (sl : Array (Option Value)) :
    Meets (Builtin.«enumerate.__new__» ⟨[.type "enumerate", .ref l], []⟩) (fun _ R s => s.heap.get? l = some { cls := .type "tuple", dict := dct, data := .seq items n, slots := sl } ∧
      R (.ok (.ret (.ref (s.heap.push { cls := .type "tuple_iterator", data := .fields #[.ref l, .int 0 0] }).objs.size)))
        { s with heap := (s.heap.push { cls := .type "tuple_iterator", data := .fields #[.ref l, .int 0 0] }).push { cls := .type "enumerate", data := .fields #[.none, .bool false, .ref s.heap.objs.size, rawInt 0, .none, .none] } }) :=
  .of_wp fun prog w A R s h => by
    obtain ⟨hp, g, d, tk, os⟩ := s
    obtain ⟨hl, h⟩ := h
    have hsub := sub_enumerate
    have hL : Heap.IsTuple (Shared.heap ⟨hp, g, d, tk, os⟩) l items := ⟨_, hl, rfl, n, rfl⟩
    wp_walk using wpAny_loadPart' hl
    refine wpAny_stack_any fun st => wpAny_pure ?_
    split
    · rename_i c _ _ _ _ _
      cases (c == Value.type "enumerate")
      · wp_walk using wpAny_loadPart' hl, wpAny_pyIter_tuple hL
        exact ⟨_, rfl, h⟩
      · wp_walk using wpAny_loadPart' hl, wpAny_pyIter_tuple hL
        exact ⟨_, rfl, h⟩
    · wp_walk using wpAny_loadPart' hl, wpAny_pyIter_tuple hL
      exact ⟨_, rfl, h⟩
section
variable {prog : Program} {w : World} {A : Around} {E : Value → Shared → Prop} {s : Shared}
theorem call_enumT {l : Addr} {items : Array Value} {Q : Value → Shared → Prop} (hL : s.heap.IsTuple l items)
    (h : ∀ h', IsEnum h' (s.heap.objs.size + 1) s.heap.objs.size 0 .none → h'.IsTupleIter s.heap.objs.size l 0 → h'.objs.size = s.heap.objs.size + 2 →
      (∀ b o, s.heap.get? b = some o → h'.get? b = some o) → Q (.ref (s.heap.objs.size + 1)) { s with heap := h' }) :
    wpAny (model prog w) A (call (.type "enumerate") [.ref l]) Q E s := by
  obtain ⟨⟨c, dct, dt, sl⟩, hl, hc, n, hd⟩ := hL
  replace hc : c = .type "tuple" := hc
  replace hd : dt = .seq items n := hd
  subst hc hd
  refine callType_new F.called_enumerate (by decide) (F.typeCall_enumerate_1 _) (F.newCall_enumerate_1 _) (fun obj => F.args_object_init_2 obj _) F.entry_enumerate_new (meets_enumT l items n dct sl) ⟨hl, ?_⟩
  have hz : (s.heap.push { cls := .type "tuple_iterator", data := .fields #[.ref l, .int 0 0] }).objs.size = s.heap.objs.size + 1 := Heap.size_push ..
  show _ ∧ _
  rw [hz]
  have he : IsEnum ((s.heap.push { cls := .type "tuple_iterator", data := .fields #[.ref l, .int 0 0] }).push
      { cls := .type "enumerate", data := .fields #[.none, .bool false, .ref s.heap.objs.size, rawInt 0, .none, .none] }) (s.heap.objs.size + 1) s.heap.objs.size 0 .none := by
    have := Heap.get?_push_size (s.heap.push { cls := .type "tuple_iterator", data := .fields #[.ref l, .int 0 0] })
      (o := { cls := .type "enumerate", data := .fields #[.none, .bool false, .ref s.heap.objs.size, rawInt 0, .none, .none] }) rfl
    rw [hz] at this; exact this
  exact ⟨⟨_, he, rfl⟩, h _ he ⟨_, Heap.get?_push_of_some _ (Heap.get?_push_size _ rfl), rfl, rfl⟩ (by rw [Heap.size_push, hz]) fun b o x => Heap.get?_push_of_some _ (Heap.get?_push_of_some _ x)⟩
end
section
variable {prog : Program} {w : World} {A : Around} {E : Value → Shared → Prop} {s : Shared}
theorem pyNext_enumT_end {e it l : Addr} {i : Nat} {items : Array Value} {old : Value} {Q : Option Value → Shared → Prop} (hh : A.handled = none)
    (he : IsEnum s.heap e it i old) (hit : s.heap.IsTupleIter it l i) (hl : s.heap.IsTuple l items) (hx : items[i]? = none)
    (hQ : ∀ h', Heap.ExtBut it s.heap h' → Q none { s with heap := h' }) : wpAny (model prog w) A (pyNext (.ref e)) Q E s := by
  have hT : s.TypeIs (.ref e) "enumerate" := ⟨_, he, rfl⟩
  unfold pyNext
  refine wpAny_bind (wpAny_attempt (wpAny_callSpecial?_slot (name := Str.ofString "__next__") hT F.slot_enumerate_next
    (wpAny_call_entry F.slot_enumerate_next hT F.entry_enumerate_next ?_ (F.args_enumerate_next_1 _))))
  show wpAny _ _ (field (.ref e) 2 >>= _) _ _ _
  refine wpAny_bind (wpAny_field he rfl (x := .ref it) rfl ?_)
  refine wpAny_bind (wpAny_nextOf_tuple_end (by simp [hh]) hit hl hx fun h' x he' hx' => ?_)
  obtain ⟨o, ho, hc⟩ := hx'
  refine wpAny_bind (wpAny_isInstance (T := "StopIteration") (b := true) ⟨o, ho, hc⟩ isSubtype_stop ?_)
  exact wpAny_pure (hQ _ he')
end
/-- the tuple at a, each item in a new pair -/
def Itet (K : PySem.W.Frag) (a : Addr) : It :=
  ⟨fun i H => ∃ (xs : List V) (x : V), SqT K H a xs ∧ xs[i]? = some x, fun i H v H' => ∃ T x, v = .ref T ∧ H T = none ∧ H' = upd H T (.tup [.int (i : Nat), x]) ∧ ∀ xs, SqT K H a xs → xs[i]? = some x, fun i H => ∃ xs : List V, SqT K H a xs ∧ xs.length ≤ i⟩
theorem turn_enumT {P : Program} {w : World} {K : PySem.W.Frag} {elts : List Expr} {kk : Nat} {tpos : Pos} (a e it : Addr) (ne : e ≠ it) (na : a ≠ it) (nea : e ≠ a) :
    Turn P w K (.Tuple elts kk tpos) (Itet K a) [e, it] e (fun i h => (∃ old, IsEnum h e it ((i : Nat) : Int) old) ∧ h.IsTupleIter it a i) where
  mem := by simp
  obj := fun i h st b hb => by
    obtain ⟨⟨old, he⟩, ⟨o, ho, hc, hd⟩⟩ := st
    have e' : b = e ∨ b = it := by simpa using hb
    rcases e' with z | z
    · rw [z]; exact ⟨_, he, fun v q => nomatch q⟩
    · rw [z]; exact ⟨o, ho, fun v q => by rw [hd] at q; cases q⟩
  keep := fun i h h' st k => let ⟨⟨old, he⟩, hi⟩ := st; ⟨⟨old, k e (by simp) _ he⟩, hi.at fun o q => k it (by simp) o q⟩
  item := by
    intro X hP hw hK hc i pins s σ H E I hf st hg
    subst hP hw hK
    obtain ⟨⟨old, he⟩, hit⟩ := st
    obtain ⟨xs, x, hq, hx⟩ := hg
    obtain ⟨its, rv, p, hz⟩ := I.tuple hq
    obtain ⟨u, hu, ru⟩ := rv.get hx
    have hel : e < s.heap.objs.size := Heap.lt_size he
    have hil : it < s.heap.objs.size := by obtain ⟨_, q, _⟩ := hit; exact Heap.lt_size q
    have hd := I.ok.hd hc
    have D := Draws.tuple (prog := X.prog) (w := X.w) (A := X.A.in1) (by simp [hd]) it a na its.toArray
    refine wpAny_pyNext_enum_itemD D he ⟨hit, p⟩ (i := i) (by simpa using (List.getElem?_eq_some_iff.mp hu).1) ne (by simp [ne, nea]) fun y h' tk hy ho hit' hT hsz hk => ?_
    have yu : y = u := by
      have q : its.toArray[i]? = some u := by simpa using hu
      rw [q] at hy
      exact (Option.some.inj hy).symm
    subst yu
    refine ⟨_, rfl, wpAny_letOwnedTupleGo_enum (s := { s with heap := h', toks := tk + 1 }) ho fun h'' he' sb => ?_⟩
    have hT2 : h''.get? s.heap.objs.size = some { cls := .type "tuple", data := .seq #[.int i tk, y] } := (sb.2 _ (Nat.ne_of_gt hel)).trans hT
    have new : ObjOk X.prog X.w (upd H s.heap.objs.size (.tup [.int (i : Nat), x])) h'' s.heap.objs.size (.tup [.int (i : Nat), x]) :=
      ⟨by show 2 ≤ sizeLine; decide, [.int i tk, y], .cons ⟨_, rfl⟩ (.cons ru .nil), ⟨_, hT2, rfl, _, rfl⟩⟩
    have I1 : Inv X pins σ (upd H s.heap.objs.size (.tup [.int (i : Nat), x])) { s with heap := h'', toks := tk + 1 } :=
      I.turnedNew (ch := [e, it]) (fun b ob hb q => (sb.2 b (fun z => hb (by simp [z]))).trans (hk b ob (fun z => hb (by simp [z])) (fun z => hb (by simp [z])) q)) hf (Nat.le_refl _) new
    refine ⟨.ref s.heap.objs.size, _, I1, rfl, ⟨_, x, rfl, I.hok.fresh (Nat.le_refl _), rfl, fun ys hy => by rw [I.tuple_inj hy hq]; exact hx⟩, ⟨⟨y, ?_⟩, hit'.1.at fun o q => (sb.2 it (Ne.symm ne)).trans q⟩, fun b hb => ?_⟩
    · have e1 : ((i + 1 : Nat) : Int) = (i : Int) + 1 := by omega
      rw [e1]; exact he'
    · have hb' : b < s.heap.objs.size := by
        have e' : b = e ∨ b = it := by simpa using hb
        rcases e' with z | z
        · rw [z]; exact hel
        · rw [z]; exact hil
      rw [upd_ne (Nat.ne_of_lt hb')]
      exact (hf b hb).1
  done := by
    intro X hP hw hK hc i pins s σ H E I hf st hg
    subst hP hw hK
    obtain ⟨⟨old, he⟩, hit⟩ := st
    obtain ⟨xs, hq, hx⟩ := hg
    obtain ⟨its, rv, p, hz⟩ := I.tuple hq
    obtain ⟨f0, f1, f2, f3, f4, f5⟩ := hf it (by simp)
    have hl := rv.length
    exact pyNext_enumT_end (I.ok.hd hc) he hit p (by simp; omega) fun h' eb => ⟨rfl, I.turned (t' := s.toks) (fun b o hb q => eb b o hb q) f0 f1 f3 f4 f5⟩
  self := fun A i s Q E st h => let ⟨⟨_, he⟩, _⟩ := st; wpAny_pyIter_enum he h
def iEnumTu (K : PySem.W.Frag) (ta : TA) : TI := fun σ H R => ta σ H fun vs H1 => ∃ a xs, vs = [.ref a] ∧ SqT K H1 a xs ∧ R (Itet K a) H1
theorem pi_enumT {X : Cx} {e : Expr} {ta : TA} {p pos tpos : Pos} {elts : List Expr} {kk : Nat} (hg : Gl X "enumerate") (hm : X.mg "enumerate" = none) (ha : PA X [e] ta) (hs : starEach [e] X.env = [(false, eval e X.env)] := by rfl) :
    PI X (.Tuple elts kk tpos) (.Call (.Name "enumerate" p) [e] [] pos) (iEnumTu X.K ta) := by
  refine ⟨fun pins s σ H R I h => ?_⟩
  refine Call_ (ld_blt I hg hm PyProof.Rows.boot_enumerate (PyProof.Rows.callWith_type1 (thn (ha.run pos pins s σ H _ I h) fun us s1 ⟨vs, H1, I1, r1, q1⟩ => ?_) hs rfl))
  obtain ⟨a, xs, ex, hq, q⟩ := q1
  subst ex
  cases r1 with
  | cons r rr =>
    cases rr
    cases r
    obtain ⟨its, rv, p', hz⟩ := I1.tuple hq
    have al : a < s1.heap.objs.size := by obtain ⟨_, z, _⟩ := p'; exact Heap.lt_size z
    refine call_enumT p' fun h' he hit hsz hk => wpAny_pyIter_enum he ?_
    have I2 : Inv X pins σ H1 { s1 with heap := h' } := I1.kept (t' := s1.toks) hk
    refine ⟨s1.heap.objs.size + 1, [s1.heap.objs.size + 1, s1.heap.objs.size], _, _, H1, rfl, I2, turn_enumT a (s1.heap.objs.size + 1) s1.heap.objs.size (Nat.succ_ne_self _) (Nat.ne_of_lt al) (Nat.ne_of_gt (Nat.lt_succ_of_lt al)), ⟨⟨.none, he⟩, hit⟩, fun b hb => ?_, q⟩
    have e' : b = s1.heap.objs.size + 1 ∨ b = s1.heap.objs.size := by simpa using hb
    have hle : s1.heap.objs.size ≤ b := by
      rcases e' with z | z
      · rw [z]; exact Nat.le_add_right _ _
      · rw [z]; exact Nat.le_refl _
    exact I1.fpOk hle (I1.hok.fresh hle)
section
variable {c : Cf} {W : WX} {X : Cx} {e : Expr}
theorem itet_ok {a : Addr} {l : List D} {vs : List V} {g0 : Gh} {L0 : Nat} (hq : SqT c.K g0.tr a vs) (rs : RVs c g0 L0 l vs) : ItOk c (Itet c.K a) (enumD l) g0 L0 := fun g h H i S gx hL => by
  have q : SqT c.K H a vs := SqT.sub S.sub (SqT.sub gx.tr hq)
  refine ⟨fun hi => ⟨vs, q, by rw [← rs.length]; simpa [enumD] using hi⟩, fun d hd => ?_⟩
  unfold enumD at hd
  rw [List.getElem?_mapIdx] at hd
  cases e : l[i]? with
  | none => rw [e] at hd; cases hd
  | some d0 =>
    rw [e] at hd
    have hd : D.tup [.int (i : Nat), d0] = d := by simpa using hd
    subst hd
    obtain ⟨y, e1, r1⟩ := rs.get e
    refine ⟨⟨vs, y, q, e1⟩, fun x H' ⟨T, x0, ev, nT, eH, hx⟩ => ?_⟩
    have e2 := hx vs q
    rw [e1] at e2
    cases e2
    subst ev eH
    obtain ⟨S2, o2⟩ := S.tree (o := .tup [.int (i : Nat), y]) nT
    exact ⟨_, o2, S2, .tup (.inl (.inl upd_same)) (.cons (.int _) (.cons (r1.mono (gx.trans o2.gx hL) hL) .nil))⟩
def iEnumT (fs : Ev (List D)) : Ev (List D) := fun st h => (fs st h).bind fun ds h1 => match ds with
  | [.tup l] => .ok (enumD l) h1
  | _ => .no
theorem i_enumT {fs : Ev (List D)} {p pos tpos : Pos} {elts : List Expr} {kk : Nat} (hK : c.K = X.K) (hg : Gl X "enumerate") (hm : X.mg "enumerate" = none) (ha : PA X [e] (tAr c W fs)) (hs : starEach [e] X.env = [(false, eval e X.env)] := by rfl) : PI X (.Tuple elts kk tpos) (.Call (.Name "enumerate" p) [e] [] pos) (tIt c W (iEnumT fs)) :=
  PI.imp (pi_enumT hg hm ha hs) fun σ H R ⟨st, h, g, S, sl, q⟩ => by
    refine ⟨st, h, g, S, sl, RP.mono (RP.bind q) fun vs H1 ⟨ds, h1, g1, o1, S1, r1, q1⟩ => ?_⟩
    split at q1
    · rename_i l
      cases r1 with
      | cons r rr =>
        cases rr
        cases r with
        | tup hq rs =>
          rw [← hK]
          exact ⟨_, _, rfl, SqT.sub S1.sub hq, RP.ok_here q1 S1 (itet_ok hq rs)⟩
    · exact q1.elim
end
end Gm

/-! Gm35: a call that only looks at cells. -/
namespace Gm
open PySem PySem.Spec PyProof.Rows L2
/-- a cell's list as a value -/
def thawD (h : Store) (d : D) : Option D := match d with
  | .ref n => match h[n]? with
    | some (some (.lst l)) => if D.lws 0 l = true then some (.lst l) else none
    | _ => none
  | d => if d.lw 0 = true then some d else none
def thaws (h : Store) : List D → Option (List D)
  | [] => some []
  | d :: ds => match thawD h d, thaws h ds with
    | some e, some es => some (e :: es)
    | _, _ => none
def pureK (F : FnT) (defs : List D) (ds : List D) (h : Store) : Res D := match thaws h ds with
  | some es => match F (es ++ defs) [] with
    | .ok d _ => if d.flat.isSome = true then .ok d h else .no
    | _ => .no
  | none => .no
def cPure (F : FnT) (defs : List D) (fs : Ev (List D)) : Ev D := fun st h => (fs st h).bind fun ds h1 => pureK F defs ds h1
section
variable {c : Cf} {g : Gh} {h : Store} {H : Hp}
def frzAll (g : Gh) (H : Hp) : Gh := ⟨g.io, fun a => match H a with
  | some (.tbl _) => none
  | o => o⟩
theorem frzAll_some {a : Addr} {o : HO} (e : H a = some o) (n : ∀ ps, o ≠ .tbl ps) : (frzAll g H).tr a = some o := by
  show (match H a with
    | some (.tbl _) => none
    | o => o) = some o
  rw [e]
  cases o with
  | tbl ps => exact absurd rfl (n ps)
  | _ => rfl
theorem frzAll_tr {a : Addr} {o : HO} (e : (frzAll g H).tr a = some o) : H a = some o ∧ ∀ ps, o ≠ .tbl ps := by
  have e : (match H a with
    | some (.tbl _) => none
    | o => o) = some o := e
  cases eh : H a with
  | none => rw [eh] at e; cases e
  | some u =>
    rw [eh] at e
    cases u with
    | tbl ps => cases e
    | _ => cases e; exact ⟨rfl, fun ps z => by cases z⟩
theorem frzAll_gx (S : SR c g h H) : Gx g 0 (frzAll g H) := ⟨fun n hn => absurd hn (Nat.not_lt_zero n), fun a o e => frzAll_some (S.sub a o e) fun ps z => S.nt a ps (by rw [e, z])⟩
theorem frzAll_sr (S : SR c g h H) : SR c (frzAll g H) [] H :=
  ⟨fun a o e => (frzAll_tr e).1, fun n l => absurd l.lt (Nat.not_lt_zero n), fun n ce e => by simp at e, fun n m l => absurd l.lt (Nat.not_lt_zero n), S.tabs, fun a ps e => (frzAll_tr e).2 ps rfl⟩
theorem thaw_rv (S : SR c g h H) {d e : D} {v : V} (r : RV c g h.length d v) (t : thawD h d = some e) : RV c (frzAll g H) 0 e v := by
  have low : ∀ {d : D}, RV c g h.length d v → (if d.lw 0 = true then some d else none) = some e → RV c (frzAll g H) 0 e v := fun {d} r t => by
    by_cases hl : d.lw 0 = true
    · rw [if_pos hl] at t
      cases t
      exact (r.low hl).mono (frzAll_gx S) (Nat.le_refl _)
    · rw [if_neg hl] at t
      cases t
  cases r with
  | @ref n hn =>
    unfold thawD at t
    dsimp only at t
    split at t
    · rename_i l e1
      by_cases hl : D.lws 0 l = true
      · rw [if_pos hl] at t
        cases t
        obtain ⟨vs, e2, rs⟩ := S.cell n _ e1
        exact .lst (frzAll_some e2 fun ps z => by cases z) ((rs.low hl).mono (frzAll_gx S) (Nat.le_refl _))
      · rw [if_neg hl] at t
        cases t
    · cases t
  | non => exact low .non t
  | bl b => exact low (.bl b) t
  | int i => exact low (.int i) t
  | str x => exact low (.str x) t
  | tup h1 r => exact low (.tup h1 r) t
  | lst h1 r => exact low (.lst h1 r) t
  | fro h1 r => exact low (.fro h1 r) t
  | dct h1 r => exact low (.dct h1 r) t
  | obj h1 hc r => exact low (.obj h1 hc r) t
  | ty n => exact low (.ty n) t
  | cls h1 => exact low (.cls h1) t
  | exn0 h1 => exact low (.exn0 h1) t
  | exn1 h1 hd r => exact low (.exn1 h1 hd r) t
theorem thaws_rv (S : SR c g h H) : ∀ {ds es : List D} {vs : List V}, RVs c g h.length ds vs → thaws h ds = some es → RVs c (frzAll g H) 0 es vs
  | [], es, _, .nil, t => by
    have t : some [] = some es := t
    cases t
    exact .nil
  | d :: ds, es, _, .cons r rs, t => by
    have t : (match thawD h d, thaws h ds with
      | some e, some es => some (e :: es)
      | _, _ => none) = some es := t
    cases e1 : thawD h d with
    | none => rw [e1] at t; cases t
    | some e =>
      cases e2 : thaws h ds with
      | none => rw [e1, e2] at t; cases t
      | some fs =>
        rw [e1, e2] at t
        cases t
        exact .cons (thaw_rv S r e1) (thaws_rv S rs e2)
/-- behind such a call all is as it was -/
theorem back_sr (S : SR c g h H) {g' : Gh} {h' : Store} {H' : Hp} (o : Go (frzAll g H) [] H g' h' H') (S' : SR c g' h' H') : SR c g h H' ∧ Go g h H g h H' := by
  have fr : ∀ a u, H a = some u → (∀ ps, u ≠ .tbl ps) → H' a = some u := fun a u e n => o.fr a u e n fun m l => absurd l.lt (Nat.not_lt_zero m)
  refine ⟨⟨fun a u e => fr a u (S.sub a u e) fun ps z => S.nt a ps (by rw [e, z]), S.apart, fun n ce e => ?_, S.inj, S'.tabs, S.nt⟩, ⟨Nat.le_refl _, fun _ _ => rfl, fun _ _ e => e, fun a u e n => ⟨u, fr a u e n, n⟩, fun a u e n _ => fr a u e n, fun _ _ _ _ e _ => e, fun _ _ l => l, fun n hn l => absurd l.lt (Nat.not_lt.mpr hn)⟩⟩
  have r := S.cell n ce e
  obtain ⟨u, eu, mu⟩ := r.some
  have eq : H' (g.io n) = H (g.io n) := by
    rw [eu]
    exact fr _ u eu fun ps z => by rw [z] at mu; exact mu
  exact r.mono (Gx.refl _ _) (Nat.le_refl _) eq
theorem flat_rv {g' : Gh} {L L' : Nat} {d : D} {v : V} (r : RV c g L d v) (f : d.flat.isSome = true) : RV c g' L' d v := by
  cases r with
  | non => exact .non
  | bl b => exact .bl b
  | int i => exact .int i
  | str x => exact .str x
  | _ => cases f
theorem RP.pureK {F : FnT} {defs ds : List D} {dvs vs : List V} {Q : VK} {E : XK} (S : SR c g h H) (rs : RVs c g h.length ds vs) (rd : ∀ g L, RVs c g L defs dvs) (q : RP c (Rv c) g h H (pureK F defs ds h) Q E) : spOf c F (vs ++ dvs) H Q E := by
  unfold Gm.pureK at q
  split at q
  · rename_i es et
    refine ⟨es ++ defs, [], frzAll g H, frzAll_sr S, (thaws_rv S rs et).append (rd _ _), ?_⟩
    split at q
    · rename_i d h' ef
      rw [ef]
      by_cases hf : d.flat.isSome = true
      · rw [if_pos hf] at q
        intro g' H' v o S' r
        obtain ⟨S2, o2⟩ := back_sr S o S'
        exact q g H' v o2 S2 (flat_rv r hf)
      · rw [if_neg hf] at q
        exact q.elim
    · exact q.elim
  · exact q.elim
end
theorem e_pure {c : Cf} {W : WX} {X : Cx} {x : Str} {k j : Nat} {F : FnT} {defs : List D} {e : Expr} {es : List Expr} {fs : Ev (List D)} {p pos : Pos} (G : CallOk X.prog X.w X.K X.mg X.base c x k F defs) (hr : Room j X.A) (hj : k ≤ j) (hg : Gl X x) (tk : L2N.Takes X W) (ha : PA X (e :: es) (tAr c W fs))
    (hdb : (x == ("__debug__" : Str)) = false := by decide) (he : starEach (e :: es) X.env = (false, eval e X.env) :: starEach es X.env := by rfl) (hpl : (backTo pos (starEach es X.env)).any (·.1) = false := by rfl) :
    PE X (.Call (.Name x p) (e :: es) [] pos) (tEv c W (cPure F defs fs)) := by
  obtain ⟨f, fd, ps, ds, dvs, hm, ok, hk, hb, hd, rd⟩ := G
  exact PE.imp (pe_callSD (E := fun σ cls d H' => W cls d σ H') ok (hr.mono hj) hg hm hk hb hd (fun σ => L2N.passAt tk σ) ha hdb he hpl) fun σ H Q ⟨st, h, g, S, sl, q⟩ => by
    refine ⟨st, h, g, S, sl, RP.mono q.bind fun vs H1 ⟨ds, h1, g1, o1, S1, r1, q1⟩ => ?_⟩
    exact RP.pureK S1 r1 rd q1
end Gm

/-! GmX: texts by their signs' numbers. -/
namespace Gm
open PySem PySem.Spec PyProof.Rows
def tx (l : List Nat) : Str := SX.S l
theorem tx_cps (l : List Nat) : (tx l).cps.toList = l := by simp [tx, SX.S]
theorem tx_len (l : List Nat) : (tx l).length = l.length := SX.S_len l
theorem tx_inj {a b : List Nat} (h : tx a = tx b) : a = b := SX.S_inj h
section
variable {h : Store}
theorem cat_tx {v w : List Nat} (hl : v.length + w.length ≤ 100000) : oAdd false (.str (tx v)) (.str (tx w)) h = .ok (.str (tx (v ++ w))) h := by
  have z : (tx v).length + (tx w).length ≤ sizeLine := small_line (by rw [tx_len, tx_len]; omega)
  show (if (tx v).length + (tx w).length ≤ sizeLine then Res.ok (D.str (tx v ++ tx w)) h else Res.no) = _
  rw [if_pos z]
  unfold tx
  rw [SX.S_cat]
theorem len_tx {w : List Nat} (hl : w.length ≤ 100000) : fLen [.str (tx w)] h = .ok (.int (w.length : Nat)) h := by
  have q : (tx w).length ≤ sizeLine := small_line (by rw [tx_len]; omega)
  show (if (tx w).length ≤ sizeLine then Res.ok (D.int ((tx w).length : Nat)) h else .no) = _
  rw [if_pos q, tx_len]
theorem cut_from {w : List Nat} {k : Nat} (hl : w.length ≤ 100000) (hk : k ≤ w.length) : oSl false (.str (tx w)) (some (k : Int)) none h = .ok (.str (tx (w.drop k))) h := by
  have z : (tx w).length ≤ sizeLine := small_line (by rw [tx_len]; omega)
  show (if (tx w).length ≤ sizeLine then Res.ok (D.str (L2.cutS (tx w) (some (k : Int)) none)) h else Res.no) = _
  rw [if_pos z]
  unfold L2.cutS
  rw [tx_cps, tx_len, HT.sIx_nat, HT.sIx_none, Nat.min_eq_left hk, List.take_of_length_le (by rw [List.length_drop]; omega)]
  rfl
theorem cut_to {w : List Nat} {k : Nat} (hl : w.length ≤ 100000) (hk : k ≤ w.length) : oSl false (.str (tx w)) none (some (k : Int)) h = .ok (.str (tx (w.take k))) h := by
  have z : (tx w).length ≤ sizeLine := small_line (by rw [tx_len]; omega)
  show (if (tx w).length ≤ sizeLine then Res.ok (D.str (L2.cutS (tx w) none (some (k : Int)))) h else Res.no) = _
  rw [if_pos z]
  unfold L2.cutS
  rw [tx_cps, tx_len, HT.sIx_nat, HT.sIx_none, Nat.min_eq_left hk, List.drop_zero, Nat.sub_zero]
  rfl
theorem atI_nat {α : Type} {l : List α} {i : Nat} (hi : i < l.length) : L2.atI l (i : Int) = some l[i] := by
  unfold L2.atI L2.ixN
  rw [if_pos (by omega), if_pos (by omega)]
  simp [hi]
theorem at_tx {w : List Nat} {i : Nat} (hl : w.length ≤ 100000) (hi : i < w.length) : oIx (.str (tx w)) (.int (i : Int)) h = .ok (.str (tx [w[i]])) h := by
  have z : (tx w).length ≤ sizeLine := small_line (by rw [tx_len]; omega)
  show (if (tx w).length ≤ sizeLine then (match L2.atI (tx w).cps.toList (i : Int) with
      | some k => Res.ok (D.str ⟨#[k]⟩) h
      | none => .no) else Res.no) = _
  rw [if_pos z, tx_cps, atI_nat hi]
  rfl
theorem rep_one {a k : Nat} (hk : 1 ≤ k) (hk2 : k ≤ 1000) : oMulS (.str (tx [a])) (.int (k : Int)) h = .ok (.str (tx (List.replicate k a))) h := by
  have z : (0 : Int) ≤ (k : Int) ∧ (k : Int) ≤ 3000 ∧ (tx [a]).length ≤ 300 := ⟨by omega, by omega, by rw [tx_len]; simp⟩
  show (if (0 : Int) ≤ (k : Int) ∧ (k : Int) ≤ 3000 ∧ (tx [a]).length ≤ 300 then Res.ok (D.str (repS (tx [a]) (k : Int))) h else Res.no) = _
  rw [if_pos z]
  have e : repS (tx [a]) (k : Int) = tx (List.replicate k a) := by
    unfold repS
    rw [if_neg (by omega)]
    by_cases h1 : k = 1
    · subst h1
      rfl
    · have h2 : (((k : Int) == 1) || (tx [a]).length == 0) = false := by
        rw [tx_len]
        simp
        omega
      rw [h2, if_neg (by decide), Int.toNat_natCast]
      have key : ∀ (k : Nat) (b : List Nat), (List.replicate k (tx [a]).cps).foldl (· ++ ·) b.toArray = (b ++ List.replicate k a).toArray := by
        intro k
        induction k with
        | zero => intro b; simp
        | succ k ih =>
          intro b
          rw [List.replicate_succ, List.foldl_cons]
          have e : b.toArray ++ (tx [a]).cps = (b ++ [a]).toArray := by simp [tx, SX.S]
          rw [e, ih (b ++ [a]), List.replicate_succ, List.append_assoc]
          rfl
      have q := key k []
      show (⟨(List.replicate k (tx [a]).cps).foldl (· ++ ·) #[]⟩ : Str) = _
      rw [q]
      rfl
  rw [e]
theorem signs_tx (w : List Nat) : Gm.signs (tx w) = w.map fun a => D.str (tx [a]) := by
  unfold Gm.signs
  rw [tx_cps]
  rfl
def abc : List Nat := (List.range 26).map (97 + ·)
theorem abc_is : PySem.Str.ofString "abcdefghijklmnopqrstuvwxyz" = tx abc := by decide +kernel
theorem abc_at {i : Nat} (hi : i < 26) : oIx (.str (PySem.Str.ofString "abcdefghijklmnopqrstuvwxyz")) (.int (i : Int)) h = .ok (.str (tx [97 + i])) h := by
  have h2 : i < abc.length := by rw [abc, List.length_map, List.length_range]; exact hi
  have e : abc[i] = 97 + i := by simp [abc]
  rw [abc_is, at_tx (by decide) h2, e]
theorem in_abc {a : Nat} (h1 : 97 ≤ a) (h2 : a ≤ 122) : oIn (.str (tx [a])) (.str (PySem.Str.ofString "abcdefghijklmnopqrstuvwxyz")) h = .ok (.bl true) h := by
  have k : ∀ i, i < 26 → (!(Builtin.Str.occurrences (PySem.Str.ofString "abcdefghijklmnopqrstuvwxyz") (tx [97 + i]) 0 (PySem.Str.ofString "abcdefghijklmnopqrstuvwxyz").length 1).isEmpty) = true := by decide +kernel
  have e := k (a - 97) (by omega)
  rw [show 97 + (a - 97) = a by omega] at e
  show (match some (!(Builtin.Str.occurrences (PySem.Str.ofString "abcdefghijklmnopqrstuvwxyz") (tx [a]) 0 (PySem.Str.ofString "abcdefghijklmnopqrstuvwxyz").length 1).isEmpty) with
    | some b => Res.ok (D.bl b) h
    | none => .no) = _
  rw [e]
theorem strs_map (l : List Str) : strsOf (l.map D.str) = some l := by
  induction l with
  | nil => rfl
  | cons a l ih => simp [strsOf, ih]
theorem bools_map (l : List Bool) : boolsOf (l.map D.bl) = some l := by
  induction l with
  | nil => rfl
  | cons a l ih => simp [boolsOf, ih]
theorem dst_nodup {xs : List Str} (nd : xs.Nodup) : ∀ i, i ≤ xs.length → dst xs i = i
  | 0, _ => rfl
  | i + 1, hi => by
    have no : (xs.take i).contains (xs.getD i Str.empty) = false := by
      rw [Bool.eq_false_iff]
      intro z
      have m := List.contains_iff_mem.mp z
      have e : xs.getD i Str.empty = xs[i] := by
        rw [List.getD_eq_getElem?_getD, List.getElem?_eq_getElem (by omega)]
        rfl
      rw [e] at m
      obtain ⟨j, hj, ej⟩ := List.mem_iff_getElem.mp m
      rw [List.length_take] at hj
      rw [List.getElem_take] at ej
      have := (List.getElem_inj nd).mp ej
      omega
    unfold dst
    rw [no, if_neg (by decide), dst_nodup nd i (by omega)]
/-! ### a name -/
def OkN (w : List Nat) : Prop := 0 < w.length ∧ w.length ≤ 8 ∧ ∀ a ∈ w, 97 ≤ a ∧ a ≤ 122
end
end Gm

/-! Gt1: typed results; what a mirrored form gives, told by a typed term. -/
namespace Gt
open PySem PySem.Spec PyProof.Rows Gm

inductive Tz (α : Type) where
  | ok (a : α)
  | exc (e : Exn)
  | no
namespace Tz
def bind {α β : Type} (t : Tz α) (k : α → Tz β) : Tz β := match t with
  | .ok a => k a
  | .exc e => .exc e
  | .no => .no
@[simp] theorem bind_ok {α β : Type} (a : α) (k : α → Tz β) : (Tz.ok a).bind k = k a := rfl
@[simp] theorem bind_exc {α β : Type} (e : Exn) (k : α → Tz β) : (Tz.exc e : Tz α).bind k = .exc e := rfl
@[simp] theorem bind_no {α β : Type} (k : α → Tz β) : (Tz.no : Tz α).bind k = .no := rfl
end Tz
/-- a value where a guard stands -/
def gd {α : Type} (c : Prop) [Decidable c] (a : α) : Tz α := if c then .ok a else .no
theorem gd_ok {α : Type} {c : Prop} [Decidable c] {a : α} (h : c) : gd c a = .ok a := if_pos h

/-- a text by its signs' numbers -/
structure Tx where
  l : List Nat
instance : DecidableEq Tx := fun a b => if h : a.l = b.l then isTrue (by cases a; cases b; cases h; rfl) else isFalse fun e => h (by rw [e])
structure Tup (α : Type) where
  l : List α
structure Fro (α : Type) where
  l : List α
structure T3 (α β γ : Type) where
  a : α
  b : β
  c : γ
structure T4 (α β γ δ : Type) where
  a : α
  b : β
  c : γ
  d : δ
structure H5 (α β γ δ ε : Type) where
  a : α
  b : β
  c : γ
  d : δ
  e : ε

class Enc (α : Type) where
  en : α → D
abbrev en {α : Type} [Enc α] (a : α) : D := Enc.en a
instance : Enc Nat := ⟨fun n => .int (n : Int)⟩
instance : Enc Int := ⟨fun n => .int n⟩
instance : Enc Bool := ⟨fun n => .bl n⟩
instance : Enc Tx := ⟨fun n => .str (tx n.l)⟩
instance : Enc Unit := ⟨fun _ => .non⟩
instance : Enc D := ⟨fun d => d⟩
instance {α : Type} [Enc α] : Enc (Option α) := ⟨fun o => match o with
  | some a => en a
  | none => .non⟩
instance {α : Type} [Enc α] : Enc (List α) := ⟨fun l => .lst (l.map en)⟩
instance {α : Type} [Enc α] : Enc (Tup α) := ⟨fun l => .tup (l.l.map en)⟩
instance {α : Type} [Enc α] : Enc (Fro α) := ⟨fun l => .fro (l.l.map en)⟩
instance {α β : Type} [Enc α] [Enc β] : Enc (α × β) := ⟨fun p => .tup [en p.1, en p.2]⟩
instance {α β γ : Type} [Enc α] [Enc β] [Enc γ] : Enc (T3 α β γ) := ⟨fun p => .tup [en p.a, en p.b, en p.c]⟩
instance {α β γ δ : Type} [Enc α] [Enc β] [Enc γ] [Enc δ] : Enc (T4 α β γ δ) := ⟨fun p => .tup [en p.a, en p.b, en p.c, en p.d]⟩
instance {α β γ δ ε : Type} [Enc α] [Enc β] [Enc γ] [Enc δ] [Enc ε] : Enc (H5 α β γ δ ε) := ⟨fun p => .lst [en p.a, en p.b, en p.c, en p.d, en p.e]⟩
/-- a list's cell -/
abbrev cl {α : Type} [Enc α] (l : List α) : Cell := .lst (l.map en)

abbrev Hs := List (Nat × Cell)
/-- the slots are as told where something is told -/
structure Sl (pat st : Slots) : Prop where
  len : st.length = pat.length
  at' : ∀ (i : Nat) (d : D), pat[i]? = some (some d) → st[i]? = some (some d)
theorem Sl.refl (st : Slots) : Sl st st := ⟨rfl, fun _ _ h => h⟩
theorem Sl.set {pat st : Slots} (s : Sl pat st) (i : Nat) (d : Option D) : Sl (pat.set i d) (st.set i d) := by
  refine ⟨by rw [List.length_set, List.length_set, s.len], fun j e h => ?_⟩
  by_cases z : i = j
  · subst z
    have hi : i < pat.length := by
      have := (List.getElem?_eq_some_iff.mp h).1
      simpa using this
    rw [List.getElem?_set_self hi] at h
    rw [List.getElem?_set_self (by rw [s.len]; exact hi)]
    exact h
  · rw [List.getElem?_set_ne z] at h ⊢
    exact s.at' j e h
/-- less is told -/
def Wk : Slots → Slots → Prop
  | [], [] => True
  | a :: p, b :: q => (b = none ∨ b = a) ∧ Wk p q
  | _, _ => False
theorem Wk.at' : ∀ {p q : Slots}, Wk p q → q.length = p.length ∧ ∀ (i : Nat) (d : D), q[i]? = some (some d) → p[i]? = some (some d)
  | [], [], _ => ⟨rfl, fun i d h => h⟩
  | a :: p, b :: q, w => by
    have ih := Wk.at' w.2
    refine ⟨by simp [ih.1], fun i d h => ?_⟩
    cases i with
    | zero =>
      have h : b = some d := by simpa using h
      rcases w.1 with e | e
      · rw [e] at h; cases h
      · rw [← e, h]; rfl
    | succ i => simpa using ih.2 i d (by simpa using h)
  | [], _ :: _, w => w.elim
  | _ :: _, [], w => w.elim
theorem Wk.refl : ∀ (p : Slots), Wk p p
  | [] => trivial
  | _ :: p => ⟨.inr rfl, Wk.refl p⟩
theorem Sl.wk {p q st : Slots} (s : Sl p st) (w : Wk p q) : Sl q st := ⟨by rw [s.len, w.at'.1], fun i d h => s.at' i d (w.at'.2 i d h)⟩
theorem Sl.wipe {pat st : Slots} (s : Sl pat st) : ∀ vs, Sl (wipeD pat vs) (wipeD st vs)
  | [] => s
  | v :: vs => (s.wipe vs).set v none

/-- the cells -/
structure Cn (bs : List Nat) (h0 : Store) (Φ : Hs) (h : Store) : Prop where
  len : h0.length ≤ h.length
  cell : ∀ p ∈ Φ, h[p.1]? = some (some p.2)
  nd : (Φ.map Prod.fst).Nodup
  old : ∀ m, m < h0.length → m ∉ bs → h[m]? = h0[m]?
  own : ∀ p ∈ Φ, p.1 ∈ bs ∨ h0.length ≤ p.1
  lo : ∀ b ∈ bs, b < h0.length
/-- a store goes on -/
structure Ext (h h' : Store) : Prop where
  len : h.length ≤ h'.length
  at' : ∀ m, m < h.length → h'[m]? = h[m]?
theorem Ext.refl (h : Store) : Ext h h := ⟨Nat.le_refl _, fun _ _ => rfl⟩
section
variable {bs : List Nat} {h0 h h' : Store} {Φ Φ' : Hs}
theorem Cn.lt (c : Cn bs h0 Φ h) {p : Nat × Cell} (hp : p ∈ Φ) : p.1 < h.length := (List.getElem?_eq_some_iff.mp (c.cell p hp)).1
theorem Cn.ext (c : Cn bs h0 Φ h) (e : Ext h h') : Cn bs h0 Φ h' :=
  ⟨Nat.le_trans c.len e.len, fun p hp => by rw [e.at' p.1 (c.lt hp)]; exact c.cell p hp, c.nd, fun m hm hb => by rw [e.at' m (Nat.lt_of_lt_of_le hm c.len)]; exact c.old m hm hb, c.own, c.lo⟩
theorem Cn.sub (c : Cn bs h0 Φ h) (s : Φ'.Sublist Φ) : Cn bs h0 Φ' h :=
  ⟨c.len, fun p hp => c.cell p (s.subset hp), (s.map _).nodup c.nd, c.old, fun p hp => c.own p (s.subset hp), c.lo⟩
theorem Cn.nil (c : Cn bs h0 Φ h) : Cn bs h0 [] h := c.sub (List.nil_sublist _)
/-- a new cell, the last one -/
theorem Cn.push (c : Cn bs h0 Φ h) (ce : Cell) : Cn bs h0 (Φ ++ [(h.length, ce)]) (h ++ [some ce]) := by
  refine ⟨by rw [List.length_append]; exact Nat.le_trans c.len (Nat.le_add_right _ _), fun p hp => ?_, ?_, fun m hm hb => ?_, fun p hp => ?_, c.lo⟩
  · rcases List.mem_append.mp hp with q | q
    · rw [List.getElem?_append_left (c.lt q)]
      exact c.cell p q
    · have q : p = (h.length, ce) := by simpa using q
      subst q
      simp
  · rw [List.map_append, List.nodup_append]
    refine ⟨c.nd, by simp, fun a ha b hb => ?_⟩
    obtain ⟨p, hp, rfl⟩ := List.mem_map.mp ha
    have hb : b = h.length := by simpa using hb
    have := c.lt hp
    omega
  · rw [List.getElem?_append_left (Nat.lt_of_lt_of_le hm c.len)]
    exact c.old m hm hb
  · rcases List.mem_append.mp hp with q | q
    · exact c.own p q
    · have q : p = (h.length, ce) := by simpa using q
      subst q
      exact .inr c.len
theorem set_fst {k n : Nat} {ce : Cell} : ∀ {Φ : Hs}, Φ[k]?.map Prod.fst = some n → (Φ.set k (n, ce)).map Prod.fst = Φ.map Prod.fst := fun {Φ} e => by
  rw [List.map_set]
  apply List.ext_getElem? 
  intro i
  by_cases z : k = i
  · subst z
    rw [List.getElem?_set]
    cases e2 : Φ[k]? with
    | none => rw [e2] at e; cases e
    | some p =>
      rw [e2] at e
      have e : p.1 = n := by simpa using e
      obtain ⟨hl, e3⟩ := List.getElem?_eq_some_iff.mp e2
      simp [hl, e3, e]
  · rw [List.getElem?_set_ne z]
theorem nd_inj {l : List Nat} (h : l.Nodup) {i j : Nat} (hi : i < l.length) (hj : j < l.length) (e : l[i] = l[j]) : i = j := by
  have p := List.pairwise_iff_getElem.mp h
  rcases Nat.lt_trichotomy i j with z | z | z
  · exact absurd e (p i j hi hj z)
  · exact z
  · exact absurd e.symm (p j i hj hi z)
/-- a cell is changed -/
theorem Cn.put (c : Cn bs h0 Φ h) {k n : Nat} {c0 : Cell} (hk : Φ[k]? = some (n, c0)) (ce : Cell) : Cn bs h0 (Φ.set k (n, ce)) (h.set n (some ce)) := by
  have hm : (n, c0) ∈ Φ := List.mem_of_getElem? hk
  have hn : n < h.length := c.lt hm
  have hl : k < Φ.length := (List.getElem?_eq_some_iff.mp hk).1
  refine ⟨by rw [List.length_set]; exact c.len, fun p hp => ?_, ?_, fun m hm2 hb => ?_, fun p hp => ?_, c.lo⟩
  · obtain ⟨i, hi, e⟩ := List.mem_iff_getElem.mp hp
    have hi' : i < Φ.length := by simpa using hi
    by_cases z : k = i
    · subst z
      rw [List.getElem_set_self] at e
      subst e
      exact List.getElem?_set_self hn
    · rw [List.getElem_set_ne z] at e
      have hp2 : p ∈ Φ := by rw [← e]; exact List.getElem_mem _
      have ne : n ≠ p.1 := by
        intro q
        have e1 : (Φ.map Prod.fst)[k]'(by simpa using hl) = n := by
          rw [List.getElem_map, (List.getElem?_eq_some_iff.mp hk).2]
        have e2 : (Φ.map Prod.fst)[i]'(by simpa using hi') = n := by rw [List.getElem_map, e, q]
        exact z (nd_inj c.nd _ _ (e1.trans e2.symm))
      rw [List.getElem?_set_ne ne]
      exact c.cell p hp2
  · rw [set_fst (by rw [hk]; rfl)]
    exact c.nd
  · have ne : n ≠ m := by
      intro q
      rcases c.own _ hm with o | o
      · subst q; exact hb o
      · have o : h0.length ≤ n := o; omega
    rw [List.getElem?_set_ne ne]
    exact c.old m hm2 hb
  · rcases List.mem_or_eq_of_mem_set hp with q | q
    · exact c.own p q
    · subst q; exact c.own (n, c0) hm
/-- a cell is let go -/
theorem Cn.drop (c : Cn bs h0 Φ h) {k n : Nat} {c0 : Cell} (hk : Φ[k]? = some (n, c0)) (hb : n ∉ bs) : Cn bs h0 (Φ.eraseIdx k) (h.set n none) := by
  have hm : (n, c0) ∈ Φ := List.mem_of_getElem? hk
  have hl : k < Φ.length := (List.getElem?_eq_some_iff.mp hk).1
  have s : (Φ.eraseIdx k).Sublist Φ := List.eraseIdx_sublist _ _
  have ho : h0.length ≤ n := by
    rcases c.own _ hm with o | o
    · exact absurd o hb
    · exact o
  refine ⟨by rw [List.length_set]; exact c.len, fun p hp => ?_, (s.map _).nodup c.nd, fun m hm2 hb2 => ?_, fun p hp => c.own p (s.subset hp), c.lo⟩
  · obtain ⟨i, hne, e⟩ := List.mem_eraseIdx_iff_getElem?.mp hp
    have hi' : i < Φ.length := (List.getElem?_eq_some_iff.mp e).1
    have ne : n ≠ p.1 := by
      intro q
      have e1 : (Φ.map Prod.fst)[k]'(by simpa using hl) = n := by
        rw [List.getElem_map, (List.getElem?_eq_some_iff.mp hk).2]
      have e2 : (Φ.map Prod.fst)[i]'(by simpa using hi') = n := by rw [List.getElem_map, (List.getElem?_eq_some_iff.mp e).2, q]
      exact hne (nd_inj c.nd _ _ (e1.trans e2.symm)).symm
    rw [List.getElem?_set_ne ne]
    exact c.cell p (s.subset hp)
  · have ne : n ≠ m := by omega
    rw [List.getElem?_set_ne ne]
    exact c.old m hm2 hb2
end

/-- what G gives from the cells Φ on -/
def Gv {σ β : Type} (bs : List Nat) (h0 : Store) (Φ : Hs) (G : Store → Res β) (t : Tz σ) (v : σ → β) (Φ' : σ → Hs) : Prop :=
  ∀ h, Cn bs h0 Φ h → match t with
    | .ok s => ∃ h', G h = .ok (v s) h' ∧ Cn bs h0 (Φ' s) h'
    | .exc x => ∃ h', G h = .exc x h' ∧ Cn bs h0 [] h'
    | .no => True
section
variable {bs : List Nat} {h0 : Store} {Φ : Hs} {σ τ β β' : Type} {G : Store → Res β} {t : Tz σ} {v : σ → β} {Φ1 : σ → Hs}
theorem Gv.bind {K : β → Store → Res β'} {k : σ → Tz τ} {v2 : τ → β'} {Φ2 : τ → Hs} (a : Gv bs h0 Φ G t v Φ1) (b : ∀ s, Gv bs h0 (Φ1 s) (K (v s)) (k s) v2 Φ2) : Gv bs h0 Φ (fun h => (G h).bind K) (t.bind k) v2 Φ2 := fun h c => by
  have q := a h c
  cases t with
  | ok s =>
    obtain ⟨h', e, c'⟩ := q
    have r := b s h' c'
    show match k s with
      | .ok s => ∃ h', (G h).bind K = .ok (v2 s) h' ∧ Cn bs h0 (Φ2 s) h'
      | .exc x => ∃ h', (G h).bind K = .exc x h' ∧ Cn bs h0 [] h'
      | .no => True
    rw [e]
    exact r
  | exc x =>
    obtain ⟨h', e, c'⟩ := q
    exact ⟨h', by show (G h).bind K = _; rw [e]; rfl, c'⟩
  | no => trivial
/-- an answer that changes nothing -/
theorem Gv.pure {x : σ} (e : ∀ h, Cn bs h0 Φ h → G h = .ok (v x) h) : Gv bs h0 Φ G (.ok x) v fun _ => Φ := fun h c => ⟨h, e h c, c⟩
theorem Gv.gd {c : Prop} [Decidable c] {x : σ} (e : c → ∀ h, Cn bs h0 Φ h → G h = .ok (v x) h) : Gv bs h0 Φ G (Gt.gd c x) v fun _ => Φ := fun h cn => by
  unfold Gt.gd
  by_cases hc : c
  · rw [if_pos hc]
    exact ⟨h, e hc h cn, cn⟩
  · rw [if_neg hc]
    trivial
theorem Gv.cast {G' : Store → Res β} (a : Gv bs h0 Φ G t v Φ1) (e : ∀ h, Cn bs h0 Φ h → G' h = G h) : Gv bs h0 Φ G' t v Φ1 := fun h c => by
  rw [e h c]
  exact a h c
end

/-- an expression without a change, by its value -/
def Pu (bs : List Nat) (h0 : Store) (pat : Slots) (Φ : Hs) {β : Type} (f : Ev β) (d : β) : Prop := ∀ st h, Sl pat st → Cn bs h0 Φ h → f st h = .ok d h
/-- an expression -/
def Ag (bs : List Nat) (h0 : Store) (pat : Slots) (Φ : Hs) {β σ : Type} (f : Ev β) (t : Tz σ) (v : σ → β) (Φ' : σ → Hs) : Prop := ∀ st, Sl pat st → Gv bs h0 Φ (f st) t v Φ'
section
variable {bs : List Nat} {h0 : Store} {pat : Slots} {Φ : Hs} {σ τ β β' : Type}
theorem Pu.ag {f : Ev β} {x : σ} {v : σ → β} (p : Pu bs h0 pat Φ f (v x)) : Ag bs h0 pat Φ f (.ok x) v fun _ => Φ := fun st s => Gv.pure fun h c => p st h s c
/-- the value as it is -/
theorem Pu.up {f : Ev β} {d : β} (p : Pu bs h0 pat Φ f d) : Ag bs h0 pat Φ f (.ok ()) (fun _ => d) fun _ => Φ := Pu.ag (x := ()) (v := fun _ => d) p
end
end Gt

/-! Gt2: expressions. -/
namespace Gt
open PySem PySem.Spec PyProof.Rows Gm
section
variable {bs : List Nat} {h0 : Store} {pat : Slots} {Φ : Hs} {σ τ β β' : Type}
/-! ### without a change -/
theorem pu_var {i : Nat} {d : D} (h : pat[i]? = some (some d)) : Pu bs h0 pat Φ (cVar i) d := fun st hh s _ => by
  rw [ev_var, s.at' i d h]
theorem pu_k {d : D} : Pu bs h0 pat Φ (cK d) d := fun _ _ _ _ => rfl
theorem pu_nil : Pu bs h0 pat Φ cNil [] := fun _ _ _ _ => rfl
theorem pu_cons {f : Ev D} {fs : Ev (List D)} {d : D} {ds : List D} (a : Pu bs h0 pat Φ f d) (b : Pu bs h0 pat Φ fs ds) : Pu bs h0 pat Φ (cCons f fs) (d :: ds) := fun st h s c => by
  rw [ev_cons, a st h s c, Res.bind_ok, b st h s c, Res.bind_ok]
theorem pu_bin {o : D → D → Store → Res D} {fa fb : Ev D} {x y z : D} (a : Pu bs h0 pat Φ fa x) (b : Pu bs h0 pat Φ fb y) (e : ∀ h, Cn bs h0 Φ h → o x y h = .ok z h) : Pu bs h0 pat Φ (cBin o fa fb) z := fun st h s c => by
  rw [ev_bin, a st h s c, Res.bind_ok, b st h s c, Res.bind_ok, e h c]
theorem pu_cb {F : CallT} {fs : Ev (List D)} {ds : List D} {z : D} (a : Pu bs h0 pat Φ fs ds) (e : ∀ h, Cn bs h0 Φ h → F ds h = .ok z h) : Pu bs h0 pat Φ (cB F fs) z := fun st h s c => by
  rw [ev_cB, a st h s c, Res.bind_ok, e h c]
theorem pu_tup {fs : Ev (List D)} {ds : List D} (a : Pu bs h0 pat Φ fs ds) (e : ds.length ≤ 64 := by exact Nat.le_of_ble_eq_true rfl) : Pu bs h0 pat Φ (cTup fs) (.tup ds) := fun st h s c => by
  rw [ev_tup, a st h s c, Res.bind_ok, if_pos (small_line (by omega))]
theorem pu_lst {fs : Ev (List D)} {ds : List D} (a : Pu bs h0 pat Φ fs ds) (e : ds.length ≤ 64 := by exact Nat.le_of_ble_eq_true rfl) : Pu bs h0 pat Φ (cLst false fs) (.lst ds) := fun st h s c => by
  rw [ev_lst, a st h s c, Res.bind_ok, if_pos (small_line (by omega))]
theorem pu_tv {f : Ev D} {b : Bool} (a : Pu bs h0 pat Φ f (.bl b)) : Pu bs h0 pat Φ (cTv f) b := fun st h s c => by
  rw [ev_tv, a st h s c, Res.bind_ok]
theorem pu_tnot {f : Ev Bool} {b : Bool} (a : Pu bs h0 pat Φ f b) : Pu bs h0 pat Φ (cTnot f) (!b) := fun st h s c => by
  rw [ev_tnot, a st h s c, Res.bind_ok]
theorem pu_tand {f k : Ev Bool} {b b' : Bool} (a : Pu bs h0 pat Φ f b) (a' : Pu bs h0 pat Φ k b') : Pu bs h0 pat Φ (cTand f k) (b && b') := fun st h s c => by
  rw [ev_tand, a st h s c, Res.bind_ok, a' st h s c]
  cases b <;> rfl
theorem pu_tor {f k : Ev Bool} {b b' : Bool} (a : Pu bs h0 pat Φ f b) (a' : Pu bs h0 pat Φ k b') : Pu bs h0 pat Φ (cTor f k) (b || b') := fun st h s c => by
  rw [ev_tor, a st h s c, Res.bind_ok, a' st h s c]
  cases b <;> rfl
theorem pu_not {f : Ev D} {b : Bool} (a : Pu bs h0 pat Φ f (.bl b)) : Pu bs h0 pat Φ (cNot f) (.bl (!b)) := fun st h s c => by
  rw [ev_not, a st h s c, Res.bind_ok]
theorem pu_and {f k : Ev D} {b b' : Bool} (a : Pu bs h0 pat Φ f (.bl b)) (a' : Pu bs h0 pat Φ k (.bl b')) : Pu bs h0 pat Φ (cAnd f k) (.bl (b && b')) := fun st h s c => by
  rw [ev_and, a st h s c, Res.bind_ok]
  cases b
  · rfl
  · exact a' st h s c
theorem pu_or {f k : Ev D} {b b' : Bool} (a : Pu bs h0 pat Φ f (.bl b)) (a' : Pu bs h0 pat Φ k (.bl b')) : Pu bs h0 pat Φ (cOr f k) (.bl (b || b')) := fun st h s c => by
  rw [ev_or, a st h s c, Res.bind_ok]
  cases b
  · exact a' st h s c
  · rfl
theorem pu_if {α : Type} [Enc α] {t : Ev Bool} {f k : Ev D} {b : Bool} {x y : α} (a : Pu bs h0 pat Φ t b) (p : Pu bs h0 pat Φ f (en x)) (q : Pu bs h0 pat Φ k (en y)) : Pu bs h0 pat Φ (cIf t f k) (en (if b = true then x else y)) := fun st h s c => by
  rw [ev_cif, a st h s c, Res.bind_ok]
  cases b
  · exact q st h s c
  · exact p st h s c
theorem pu_neg {f : Ev D} {i : Int} (a : Pu bs h0 pat Φ f (.int i)) : Pu bs h0 pat Φ (cNeg f) (en (-i)) := fun st h s c => ev_neg f i (a st h s c)
theorem pu_mt {T : String} {F : MethT} {fo : Ev D} {fs : Ev (List D)} {d z : D} {ds : List D} (a : Pu bs h0 pat Φ fo d) (b : Pu bs h0 pat Φ fs ds) (ht : ∀ h, Cn bs h0 Φ h → isTy T h d = true) (e : ∀ h, Cn bs h0 Φ h → F d ds h = .ok z h) : Pu bs h0 pat Φ (cMt T F fo fs) z := fun st h s c => by
  rw [ev_cMt (a st h s c) (ht h c), b st h s c, Res.bind_ok, e h c]
theorem pu_fld {n f : Str} {fo : Ev D} {d z : D} (a : Pu bs h0 pat Φ fo d) (e : ∀ st h, Cn bs h0 Φ h → cFld n f (cK d) st h = .ok z h) : Pu bs h0 pat Φ (cFld n f fo) z := fun st h s c => by
  have q := e st h c
  unfold cFld at q ⊢
  rw [a st h s c]
  exact q
/-- the same value -/
theorem Pu.to {f : Ev β} {d d' : β} (a : Pu bs h0 pat Φ f d) (e : d = d') : Pu bs h0 pat Φ f d' := e ▸ a

/-! ### one behind the other -/
def AL (bs : List Nat) (h0 : Store) (pat : Slots) (Φ : Hs) (fs : Ev (List D)) (K : List D → Store → Res β) (t : Tz σ) (v : σ → β) (Φ' : σ → Hs) : Prop := ∀ st, Sl pat st → Gv bs h0 Φ (fun h => (fs st h).bind K) t v Φ'
variable {t : Tz σ} {v : σ → β} {Φ' : σ → Hs}
theorem al_nil {K : List D → Store → Res β} (a : Gv bs h0 Φ (K []) t v Φ') : AL bs h0 pat Φ cNil K t v Φ' := fun st s => a
theorem al_p {f : Ev D} {fs : Ev (List D)} {d : D} {K : List D → Store → Res β} (a : Pu bs h0 pat Φ f d) (b : AL bs h0 pat Φ fs (fun ds => K (d :: ds)) t v Φ') : AL bs h0 pat Φ (cCons f fs) K t v Φ' := fun st s =>
  (b st s).cast fun h c => by
    rw [ev_cons, a st h s c, Res.bind_ok]
    cases fs st h <;> rfl
theorem al_e {f : Ev D} {fs : Ev (List D)} {K : List D → Store → Res β} {t1 : Tz τ} {v1 : τ → D} {Φ1 : τ → Hs} {k : τ → Tz σ} (a : Ag bs h0 pat Φ f t1 v1 Φ1) (b : ∀ s, AL bs h0 pat (Φ1 s) fs (fun ds => K (v1 s :: ds)) (k s) v Φ') : AL bs h0 pat Φ (cCons f fs) K (t1.bind k) v Φ' := fun st s =>
  (Gv.bind (K := fun d h1 => (fs st h1).bind fun ds => K (d :: ds)) (a st s) fun x => b x st s).cast fun h c => by
    rw [ev_cons]
    cases f st h with
    | ok d h1 => 
      rw [Res.bind_ok, Res.bind_ok]
      cases fs st h1 <;> rfl
    | exc x h1 => rfl
    | no => rfl
theorem ag_call {F : FnT} {defs : List D} {fs : Ev (List D)} {v : σ → D} (a : AL bs h0 pat Φ fs (fun ds => F (ds ++ defs)) t v Φ') : Ag bs h0 pat Φ (cCall F defs fs) t v Φ' := a
theorem ag_cb {F : CallT} {fs : Ev (List D)} {v : σ → D} (a : AL bs h0 pat Φ fs F t v Φ') : Ag bs h0 pat Φ (cB F fs) t v Φ' := a
def b2 (o : D → D → Store → Res D) (ds : List D) (h : Store) : Res D := match ds with
  | [a, b] => o a b h
  | _ => .no
theorem ag_bin {o : D → D → Store → Res D} {fa fb : Ev D} {v : σ → D} (a : AL bs h0 pat Φ (cCons fa (cCons fb cNil)) (b2 o) t v Φ') : Ag bs h0 pat Φ (cBin o fa fb) t v Φ' := fun st s =>
  (a st s).cast fun h c => by
    rw [ev_bin, ev_cons]
    cases fa st h with
    | ok d h1 =>
      rw [Res.bind_ok, Res.bind_ok, ev_cons]
      cases fb st h1 <;> rfl
    | exc x h1 => rfl
    | no => rfl
def bT (ds : List D) (h : Store) : Res D := if ds.length ≤ sizeLine then .ok (.tup ds) h else .no
def bL (ds : List D) (h : Store) : Res D := if ds.length ≤ sizeLine then .ok (.lst ds) h else .no
theorem ag_tup {fs : Ev (List D)} {v : σ → D} (a : AL bs h0 pat Φ fs bT t v Φ') : Ag bs h0 pat Φ (cTup fs) t v Φ' := a
theorem ag_lst {fs : Ev (List D)} {v : σ → D} (a : AL bs h0 pat Φ fs bL t v Φ') : Ag bs h0 pat Φ (cLst false fs) t v Φ' := a
theorem bT_ok {ds : List D} {x : σ} {v : σ → D} (e : D.tup ds = v x := by rfl) (hl : ds.length ≤ 64 := by exact Nat.le_of_ble_eq_true rfl) : Gv bs h0 Φ (bT ds) (.ok x) v fun _ => Φ := Gv.pure fun h c => by
  unfold bT
  rw [if_pos (small_line (by omega)), e]
theorem bL_ok {ds : List D} {x : σ} {v : σ → D} (e : D.lst ds = v x := by rfl) (hl : ds.length ≤ 64 := by exact Nat.le_of_ble_eq_true rfl) : Gv bs h0 Φ (bL ds) (.ok x) v fun _ => Φ := Gv.pure fun h c => by
  unfold bL
  rw [if_pos (small_line (by omega)), e]
/-- a method of a built-in type -/
theorem ag_mt {T : String} {F : MethT} {fo : Ev D} {fs : Ev (List D)} {d : D} {v : σ → D} (a : Pu bs h0 pat Φ fo d) (ht : ∀ h, Cn bs h0 Φ h → isTy T h d = true) (b : AL bs h0 pat Φ fs (F d) t v Φ') : Ag bs h0 pat Φ (cMt T F fo fs) t v Φ' := fun st s =>
  (b st s).cast fun h c => by rw [ev_cMt (a st h s c) (ht h c)]
theorem ag_mtE {T : String} {F : MethT} {fo : Ev D} {fs : Ev (List D)} {t1 : Tz τ} {v1 : τ → D} {Φ1 : τ → Hs} {k : τ → Tz σ} {v : σ → D} (a : Ag bs h0 pat Φ fo t1 v1 Φ1) (ht : ∀ s h, Cn bs h0 (Φ1 s) h → isTy T h (v1 s) = true) (b : ∀ s, AL bs h0 pat (Φ1 s) fs (F (v1 s)) (k s) v Φ') : Ag bs h0 pat Φ (cMt T F fo fs) (t1.bind k) v Φ' := fun st s => by
  refine (Gv.bind (K := fun d h => if isTy T h d = true then (fs st h).bind fun ds h2 => F d ds h2 else .no) (a st s) fun x => ?_)
  exact (b x st s).cast fun h c => by rw [if_pos (ht x h c)]
/-! ### tests, choices -/
theorem ag_tv {f : Ev D} {t : Tz σ} {v : σ → Bool} (a : Ag bs h0 pat Φ f t (fun s => .bl (v s)) Φ') : Ag bs h0 pat Φ (cTv f) t v Φ' := fun st s h c => by
  have q := a st s h c
  rw [ev_tv]
  cases t with
  | ok x => obtain ⟨h', e, c'⟩ := q; exact ⟨h', by rw [e]; rfl, c'⟩
  | exc x => obtain ⟨h', e, c'⟩ := q; exact ⟨h', by rw [e]; rfl, c'⟩
  | no => trivial
theorem ag_tnot {f : Ev Bool} {t : Tz σ} {v : σ → Bool} (a : Ag bs h0 pat Φ f t v Φ') : Ag bs h0 pat Φ (cTnot f) t (fun s => !v s) Φ' := fun st s h c => by
  have q := a st s h c
  rw [ev_tnot]
  cases t with
  | ok x => obtain ⟨h', e, c'⟩ := q; exact ⟨h', by rw [e]; rfl, c'⟩
  | exc x => obtain ⟨h', e, c'⟩ := q; exact ⟨h', by rw [e]; rfl, c'⟩
  | no => trivial
/-- a test and what stands behind it -/
theorem ag_test {t : Ev Bool} {f k : Ev β} {G : Ev β} {x : Tz τ} {v1 : τ → Bool} {Φ1 : τ → Hs} {y z : τ → Tz σ} {v : σ → β} (hG : ∀ st h, G st h = (t st h).bind fun b h1 => if b = true then f st h1 else k st h1)
    (a : Ag bs h0 pat Φ t x v1 Φ1) (p : ∀ s, Ag bs h0 pat (Φ1 s) f (y s) v Φ') (q : ∀ s, Ag bs h0 pat (Φ1 s) k (z s) v Φ') : Ag bs h0 pat Φ G (x.bind fun s => if v1 s = true then y s else z s) v Φ' := fun st s => by
  have r := Gv.bind (K := fun b h1 => if b = true then f st h1 else k st h1) (k := fun s => if v1 s = true then y s else z s) (a st s) (v2 := v) (Φ2 := Φ') fun x => by
    cases v1 x with
    | true => exact p x st s
    | false => exact q x st s
  exact r.cast fun h c => hG st h
theorem ag_testP {t : Ev Bool} {f k : Ev β} {G : Ev β} {b : Bool} {y z : Tz σ} {v : σ → β} (hG : ∀ st h, G st h = (t st h).bind fun b h1 => if b = true then f st h1 else k st h1)
    (a : Pu bs h0 pat Φ t b) (p : Ag bs h0 pat Φ f y v Φ') (q : Ag bs h0 pat Φ k z v Φ') : Ag bs h0 pat Φ G (if b = true then y else z) v Φ' := fun st s => by
  have r : Gv bs h0 Φ (fun h => if b = true then f st h else k st h) (if b = true then y else z) v Φ' := by
    cases b with
    | true => exact p st s
    | false => exact q st s
  exact r.cast fun h c => by rw [hG, a st h s c, Res.bind_ok]
theorem ag_if {t : Ev Bool} {f k : Ev D} {x : Tz τ} {v1 : τ → Bool} {Φ1 : τ → Hs} {y z : τ → Tz σ} {v : σ → D} (a : Ag bs h0 pat Φ t x v1 Φ1) (p : ∀ s, Ag bs h0 pat (Φ1 s) f (y s) v Φ') (q : ∀ s, Ag bs h0 pat (Φ1 s) k (z s) v Φ') :
    Ag bs h0 pat Φ (cIf t f k) (x.bind fun s => if v1 s = true then y s else z s) v Φ' := ag_test (fun _ _ => rfl) a p q
theorem ag_ifP {t : Ev Bool} {f k : Ev D} {b : Bool} {y z : Tz σ} {v : σ → D} (a : Pu bs h0 pat Φ t b) (p : Ag bs h0 pat Φ f y v Φ') (q : Ag bs h0 pat Φ k z v Φ') : Ag bs h0 pat Φ (cIf t f k) (if b = true then y else z) v Φ' := ag_testP (fun _ _ => rfl) a p q
theorem pu_no {b : Bool} : Pu bs h0 pat Φ (fun _ h => .ok b h : Ev Bool) b := fun _ _ _ _ => rfl
/-- and, or of tests -/
theorem ag_tand {f k : Ev Bool} {x : Tz τ} {v1 : τ → Bool} {Φ1 : τ → Hs} {y : τ → Tz Bool} (a : Ag bs h0 pat Φ f x v1 Φ1) (p : ∀ s, Ag bs h0 pat (Φ1 s) k (y s) (fun b => b) fun _ => Φ) (q : ∀ s, Φ1 s = Φ) :
    Ag bs h0 pat Φ (cTand f k) (x.bind fun s => if v1 s = true then y s else .ok false) (fun b => b) fun _ => Φ := ag_test (f := k) (k := fun _ h => .ok false h) (fun _ _ => rfl) a p fun s => by rw [q s]; exact Pu.ag (v := fun b => b) pu_no
theorem ag_tor {f k : Ev Bool} {x : Tz τ} {v1 : τ → Bool} {Φ1 : τ → Hs} {y : τ → Tz Bool} (a : Ag bs h0 pat Φ f x v1 Φ1) (p : ∀ s, Ag bs h0 pat (Φ1 s) k (y s) (fun b => b) fun _ => Φ) (q : ∀ s, Φ1 s = Φ) :
    Ag bs h0 pat Φ (cTor f k) (x.bind fun s => if v1 s = true then .ok true else y s) (fun b => b) fun _ => Φ := ag_test (f := fun _ h => .ok true h) (k := k) (fun _ _ => rfl) a (fun s => by rw [q s]; exact Pu.ag (v := fun b => b) pu_no) p
theorem ag_tandP {f k : Ev Bool} {b : Bool} {y : Tz Bool} (a : Pu bs h0 pat Φ f b) (p : Ag bs h0 pat Φ k y (fun b => b) fun _ => Φ) : Ag bs h0 pat Φ (cTand f k) (if b = true then y else .ok false) (fun b => b) fun _ => Φ := ag_testP (f := k) (k := fun _ h => .ok false h) (fun _ _ => rfl) a p (Pu.ag (v := fun b => b) pu_no)
theorem ag_torP {f k : Ev Bool} {b : Bool} {y : Tz Bool} (a : Pu bs h0 pat Φ f b) (p : Ag bs h0 pat Φ k y (fun b => b) fun _ => Φ) : Ag bs h0 pat Φ (cTor f k) (if b = true then .ok true else y) (fun b => b) fun _ => Φ := ag_testP (f := fun _ h => .ok true h) (k := k) (fun _ _ => rfl) a (Pu.ag (v := fun b => b) pu_no) p
/-- and, or as values -/
theorem and_test {f k : Ev D} (st : Slots) (h : Store) : cAnd f k st h = (cTv f st h).bind fun b h1 => if b = true then k st h1 else .ok (.bl false) h1 := by
  rw [ev_and, ev_tv]
  cases f st h with
  | ok d h1 =>
    cases d with
    | bl b => cases b <;> rfl
    | _ => rfl
  | _ => rfl
theorem or_test {f k : Ev D} (st : Slots) (h : Store) : cOr f k st h = (cTv f st h).bind fun b h1 => if b = true then .ok (.bl true) h1 else k st h1 := by
  rw [ev_or, ev_tv]
  cases f st h with
  | ok d h1 =>
    cases d with
    | bl b => cases b <;> rfl
    | _ => rfl
  | _ => rfl
theorem pu_bl {b : Bool} : Pu bs h0 pat Φ (fun _ h => .ok (.bl b) h : Ev D) (.bl b) := fun _ _ _ _ => rfl
theorem ag_andP {f k : Ev D} {b : Bool} {y : Tz Bool} (a : Pu bs h0 pat Φ f (.bl b)) (p : Ag bs h0 pat Φ k y (fun b => .bl b) fun _ => Φ) : Ag bs h0 pat Φ (cAnd f k) (if b = true then y else .ok false) (fun b => .bl b) fun _ => Φ := ag_testP (f := k) (k := fun _ h => .ok (.bl false) h) and_test (pu_tv a) p (Pu.ag (v := fun b : Bool => D.bl b) pu_bl)
theorem ag_orP {f k : Ev D} {b : Bool} {y : Tz Bool} (a : Pu bs h0 pat Φ f (.bl b)) (p : Ag bs h0 pat Φ k y (fun b => .bl b) fun _ => Φ) : Ag bs h0 pat Φ (cOr f k) (if b = true then .ok true else y) (fun b => .bl b) fun _ => Φ := ag_testP (f := fun _ h => .ok (.bl true) h) (k := k) or_test (pu_tv a) (Pu.ag (v := fun b : Bool => D.bl b) pu_bl) p
theorem ag_and {f k : Ev D} {x : Tz Bool} {y : Bool → Tz Bool} (a : Ag bs h0 pat Φ f x (fun b => .bl b) fun _ => Φ) (p : ∀ s, Ag bs h0 pat Φ k (y s) (fun b => .bl b) fun _ => Φ) : Ag bs h0 pat Φ (cAnd f k) (x.bind fun b => if b = true then y b else .ok false) (fun b => .bl b) fun _ => Φ := ag_test (f := k) (k := fun _ h => .ok (.bl false) h) and_test (ag_tv (v := fun b => b) a) p fun _ => Pu.ag (v := fun b : Bool => D.bl b) pu_bl
theorem ag_or {f k : Ev D} {x : Tz Bool} {y : Bool → Tz Bool} (a : Ag bs h0 pat Φ f x (fun b => .bl b) fun _ => Φ) (p : ∀ s, Ag bs h0 pat Φ k (y s) (fun b => .bl b) fun _ => Φ) : Ag bs h0 pat Φ (cOr f k) (x.bind fun b => if b = true then .ok true else y b) (fun b => .bl b) fun _ => Φ := ag_test (f := fun _ h => .ok (.bl true) h) (k := k) or_test (ag_tv (v := fun b => b) a) (fun _ => Pu.ag (v := fun b : Bool => D.bl b) pu_bl) p
/-- a chain of two comparisons of values that stand -/
theorem pu_chain {o o' : D → D → Store → Res D} {f g k : Ev D} {x y z : D} {b b' : Bool} (p : Pu bs h0 pat Φ f x) (q : Pu bs h0 pat Φ g y) (r : Pu bs h0 pat Φ k z) (e : ∀ h, o x y h = .ok (.bl b) h) (e' : ∀ h, o' y z h = .ok (.bl b') h) : Pu bs h0 pat Φ (cChain o o' f g k) (.bl (b && b')) := fun st h s c => by
  rw [ev_chain, p st h s c, Res.bind_ok, q st h s c, Res.bind_ok, e h, Res.bind_ok]
  cases b with
  | false => rfl
  | true =>
    dsimp only
    rw [r st h s c, Res.bind_ok, e' h]
    rfl
end
end Gt

/-! Gt3: statements, loops, defs. -/
namespace Gt
open PySem PySem.Spec PyProof.Rows Gm

abbrev lim : Nat := 1000000
inductive OS where
  | next (p : Slots) (Φ : Hs)
  | lp (p : Slots) (Φ : Hs)
  | brk (p : Slots) (Φ : Hs)
  | ret (d : D) (Φ : Hs)
  | retc (c : Cell) (Φ : Hs)
  | non (Φ : Hs)
def OS.is (bs : List Nat) (h0 : Store) (o : Out) : OS → Prop
  | .next p Φ => ∃ st h, o = .next st h ∧ Sl p st ∧ Cn bs h0 Φ h
  | .lp p Φ => ∃ st h, (o = .next st h ∨ o = .cont st h) ∧ Sl p st ∧ Cn bs h0 Φ h
  | .brk p Φ => ∃ st h, o = .brk st h ∧ Sl p st ∧ Cn bs h0 Φ h
  | .ret d Φ => ∃ h, o = .ret d h ∧ Cn bs h0 Φ h
  | .retc c Φ => ∃ n h, o = .ret (.ref n) h ∧ n ∉ bs ∧ Cn bs h0 (Φ ++ [(n, c)]) h
  | .non Φ => ∃ h, (o = .ret .non h ∨ ∃ st, o = .next st h) ∧ Cn bs h0 Φ h
def AgS (bs : List Nat) (h0 : Store) (pat : Slots) (Φ : Hs) {σ : Type} (s : Ss) (t : Tz σ) (O : σ → OS) : Prop := ∀ st h, Sl pat st → Cn bs h0 Φ h → match t with
  | .ok a => (O a).is bs h0 (s st h)
  | .exc x => ∃ st' h', s st h = .exc x st' h' ∧ Cn bs h0 [] h'
  | .no => True
section
variable {bs : List Nat} {h0 : Store} {pat : Slots} {Φ : Hs} {σ τ ρ γ α : Type} {s r a b : Ss} {t : Tz σ} {O : σ → OS}
theorem AgS.cast {s' : Ss} (p : AgS bs h0 pat Φ s t O) (e : ∀ st h, Sl pat st → Cn bs h0 Φ h → s' st h = s st h) : AgS bs h0 pat Φ s' t O := fun st h q c => by
  rw [e st h q c]
  exact p st h q c
/-- behind an answer -/
theorem as_out {t : Tz τ} {β : Type} {f : Ev β} {v : τ → β} {Φ' : τ → Hs} {k : τ → Tz σ} {K : Slots → β → Store → Out} (p : Ag bs h0 pat Φ f t v Φ') (hs : ∀ st h, s st h = (f st h).out st (K st)) (q : ∀ x, AgS bs h0 pat (Φ' x) (fun st h => K st (v x) h) (k x) O) :
    AgS bs h0 pat Φ s (t.bind k) O := fun st h sl c => by
  have z := p st sl h c
  rw [hs]
  cases t with
  | ok x =>
    obtain ⟨h', e, c'⟩ := z
    rw [e]
    exact q x st h' sl c'
  | exc x =>
    obtain ⟨h', e, c'⟩ := z
    rw [e]
    exact ⟨st, h', rfl, c'⟩
  | no => trivial
theorem as_seq {t : Tz τ} {P : τ → Slots} {Q : τ → Hs} {k : τ → Tz σ} (p : AgS bs h0 pat Φ s t fun x => .next (P x) (Q x)) (q : ∀ x, AgS bs h0 (P x) (Q x) r (k x) O) : AgS bs h0 pat Φ (sSeq s r) (t.bind k) O := fun st h sl c => by
  have z := p st h sl c
  rw [ev_seq]
  cases t with
  | ok x =>
    obtain ⟨st', h', e, sl', c'⟩ := z
    rw [e]
    exact q x st' h' sl' c'
  | exc x =>
    obtain ⟨st', h', e, c'⟩ := z
    rw [e]
    exact ⟨st', h', rfl, c'⟩
  | no => trivial
theorem seq_assoc (x y z : Ss) : sSeq (sSeq x y) z = sSeq x (sSeq y z) := by
  funext st h
  show ((x st h).seq y).seq z = (x st h).seq fun st h => (y st h).seq z
  cases x st h <;> rfl
theorem as_assoc (p : AgS bs h0 pat Φ (sSeq a (sSeq b r)) t O) : AgS bs h0 pat Φ (sSeq (sSeq a b) r) t O := by
  rw [seq_assoc]
  exact p
theorem as_nilS (p : AgS bs h0 pat Φ r t O) : AgS bs h0 pat Φ (sSeq sNil r) t O := p
/-! ### names -/
theorem as_set {t : Tz τ} {i : Nat} {f : Ev D} {v : τ → D} {Φ' : τ → Hs} (p : Ag bs h0 pat Φ f t v Φ') : AgS bs h0 pat Φ (sSet i f) t fun x => .next (pat.set i (some (v x))) (Φ' x) := fun st h sl c => by
  have z := p st sl h c
  rw [ev_set]
  cases t with
  | ok x =>
    obtain ⟨h', e, c'⟩ := z
    rw [e]
    exact ⟨_, h', rfl, sl.set _ _, c'⟩
  | exc x =>
    obtain ⟨h', e, c'⟩ := z
    rw [e]
    exact ⟨st, h', rfl, c'⟩
  | no => trivial
theorem as_setS {t : Tz τ} {i : Nat} {f : Ev D} {v : τ → D} {Φ' : τ → Hs} {k : τ → Tz σ} (p : Ag bs h0 pat Φ f t v Φ') (q : ∀ x, AgS bs h0 (pat.set i (some (v x))) (Φ' x) r (k x) O) : AgS bs h0 pat Φ (sSeq (sSet i f) r) (t.bind k) O := as_seq (as_set p) q
theorem as_setP {i : Nat} {f : Ev D} {d : D} (p : Pu bs h0 pat Φ f d) (q : AgS bs h0 (pat.set i (some d)) Φ r t O) : AgS bs h0 pat Φ (sSeq (sSet i f) r) t O := fun st h sl c => by
  rw [ev_seq, ev_set, p st h sl c, Res.out_ok, seq_next]
  exact q _ h (sl.set _ _) c
/-- a new cell -/
def AgC (bs : List Nat) (h0 : Store) (pat : Slots) (Φ : Hs) {σ : Type} (f : Ev D) (t : Tz σ) (ce : σ → Cell) (Φ' : σ → Hs) : Prop := ∀ st h, Sl pat st → Cn bs h0 Φ h → match t with
  | .ok x => ∃ n h', f st h = .ok (.ref n) h' ∧ n ∉ bs ∧ Cn bs h0 (Φ' x ++ [(n, ce x)]) h'
  | .exc x => ∃ h', f st h = .exc x h' ∧ Cn bs h0 [] h'
  | .no => True
theorem Cn.fresh {h : Store} (c : Cn bs h0 Φ h) : h.length ∉ bs := fun z => by
  have := c.lo _ z
  have := c.len
  omega
theorem as_new {t : Tz τ} {i : Nat} {f : Ev D} {ce : τ → Cell} {Φ' : τ → Hs} {k : τ → Tz σ} (p : AgC bs h0 pat Φ f t ce Φ') (q : ∀ x n, n ∉ bs → AgS bs h0 (pat.set i (some (.ref n))) (Φ' x ++ [(n, ce x)]) r (k x) O) : AgS bs h0 pat Φ (sSeq (sSet i f) r) (t.bind k) O := fun st h sl c => by
  have z := p st h sl c
  rw [ev_seq, ev_set]
  cases t with
  | ok x =>
    obtain ⟨n, h', e, hn, c'⟩ := z
    rw [e]
    exact q x n hn _ h' (sl.set _ _) c'
  | exc x =>
    obtain ⟨h', e, c'⟩ := z
    rw [e]
    exact ⟨st, h', rfl, c'⟩
  | no => trivial
/-- a list that is told as a value is told as a new cell -/
theorem agc_of {t : Tz τ} {f g : Ev D} {l : τ → List D} {Φ' : τ → Hs} (p : Ag bs h0 pat Φ f t (fun x => .lst (l x)) Φ') (e : ∀ st h l' h', Sl pat st → Cn bs h0 Φ h → f st h = .ok (.lst l') h' → g st h = .ok (.ref h'.length) (h' ++ [some (.lst l')])) (e2 : ∀ st h x h', Sl pat st → Cn bs h0 Φ h → f st h = .exc x h' → g st h = .exc x h') :
    AgC bs h0 pat Φ g t (fun x => .lst (l x)) Φ' := fun st h sl c => by
  have z := p st sl h c
  cases t with
  | ok x =>
    obtain ⟨h', e1, c'⟩ := z
    exact ⟨h'.length, _, e st h _ h' sl c e1, c'.fresh, c'.push _⟩
  | exc x =>
    obtain ⟨h', e1, c'⟩ := z
    exact ⟨h', e2 st h x h' sl c e1, c'⟩
  | no => trivial
theorem agc_lst {t : Tz τ} {fs : Ev (List D)} {l : τ → List D} {Φ' : τ → Hs} (p : Ag bs h0 pat Φ (cLst false fs) t (fun x => .lst (l x)) Φ') : AgC bs h0 pat Φ (cLst true fs) t (fun x => .lst (l x)) Φ' := agc_of p (fun st h l' h' _ _ e => by
    rw [ev_lst] at e
    rw [ev_lstM]
    cases e2 : fs st h with
    | ok ds h1 =>
      rw [e2, Res.bind_ok] at e
      rw [Res.bind_ok]
      by_cases hl : ds.length ≤ sizeLine
      · rw [if_pos hl] at e ⊢
        cases e
        rfl
      · rw [if_neg hl] at e
        cases e
    | exc x h1 => rw [e2] at e; cases e
    | no => rw [e2] at e; cases e) fun st h x h' _ _ e => by
    rw [ev_lst] at e
    rw [ev_lstM]
    cases e2 : fs st h with
    | ok ds h1 =>
      rw [e2, Res.bind_ok] at e
      by_cases hl : ds.length ≤ sizeLine
      · rw [if_pos hl] at e
        cases e
      · rw [if_neg hl] at e
        cases e
    | exc x h1 => rw [e2] at e; exact e
    | no => rw [e2] at e; cases e
theorem agc_lc {t : Tz τ} {fi : Ev (List D)} {fg : D → Slots → Option Slots} {ft : Ev Bool} {fe : Ev D} {own : List Nat} {l : τ → List D} {Φ' : τ → Hs} (p : Ag bs h0 pat Φ (cLc false fi fg ft fe own) t (fun x => .lst (l x)) Φ') : AgC bs h0 pat Φ (cLc true fi fg ft fe own) t (fun x => .lst (l x)) Φ' := agc_of p (fun st h l' h' _ _ e => by
    rw [ev_lc] at e ⊢
    cases e2 : fi st h with
    | ok ds h1 =>
      rw [e2, Res.bind_ok] at e
      rw [Res.bind_ok]
      by_cases hl : ds.length ≤ sizeLine
      · rw [if_pos hl] at e ⊢
        cases e3 : lcL fg ft fe (wipeD st own) ds h1 with
        | ok ys h2 => rw [e3] at e; cases e; rfl
        | exc x h2 => rw [e3] at e; cases e
        | no => rw [e3] at e; cases e
      · rw [if_neg hl] at e
        cases e
    | exc x h1 => rw [e2] at e; cases e
    | no => rw [e2] at e; cases e) fun st h x h' _ _ e => by
    rw [ev_lc] at e ⊢
    cases e2 : fi st h with
    | ok ds h1 =>
      rw [e2, Res.bind_ok] at e
      rw [Res.bind_ok]
      by_cases hl : ds.length ≤ sizeLine
      · rw [if_pos hl] at e ⊢
        cases e3 : lcL fg ft fe (wipeD st own) ds h1 with
        | ok ys h2 => rw [e3] at e; cases e
        | exc x h2 => rw [e3] at e; exact e
        | no => rw [e3] at e; cases e
      · rw [if_neg hl] at e
        cases e
    | exc x h1 => rw [e2] at e; exact e
    | no => rw [e2] at e; cases e
/-- a frozen cell -/
theorem as_frz {i k n : Nat} {l : List D} (h1 : pat[i]? = some (some (.ref n))) (h2 : Φ[k]? = some (n, .lst l)) (hn : n ∉ bs) (q : AgS bs h0 (pat.set i (some (.lst l))) (Φ.eraseIdx k) s t O) : AgS bs h0 pat Φ (sFrz i s) t O := fun st h sl c => by
  have e : sFrz i s st h = s (st.set i (some (.lst l))) (h.set n none) := frz_at (sl.at' i _ h1) (c.cell _ (List.mem_of_getElem? h2))
  rw [e]
  exact q _ _ (sl.set _ _) (c.drop h2 hn)
theorem as_frzS {i k n : Nat} {l : List D} (h1 : pat[i]? = some (some (.ref n))) (h2 : Φ[k]? = some (n, .lst l)) (hn : n ∉ bs) (q : AgS bs h0 (pat.set i (some (.lst l))) (Φ.eraseIdx k) (sSeq s r) t O) : AgS bs h0 pat Φ (sSeq (sFrz i s) r) t O := fun st h sl c => by
  have e : sFrz i s st h = s (st.set i (some (.lst l))) (h.set n none) := frz_at (sl.at' i _ h1) (c.cell _ (List.mem_of_getElem? h2))
  rw [ev_seq, e]
  exact q _ _ (sl.set _ _) (c.drop h2 hn)
/-! ### the ends -/
theorem as_ret {f : Ev D} {v : σ → D} {Φ' : σ → Hs} (p : Ag bs h0 pat Φ f t v Φ') : AgS bs h0 pat Φ (sRet f) t fun x => .ret (v x) (Φ' x) := fun st h sl c => by
  have z := p st sl h c
  rw [ev_ret]
  cases t with
  | ok x =>
    obtain ⟨h', e, c'⟩ := z
    rw [e]
    exact ⟨h', rfl, c'⟩
  | exc x =>
    obtain ⟨h', e, c'⟩ := z
    rw [e]
    exact ⟨st, h', rfl, c'⟩
  | no => trivial
/-- return, with what is wanted of it -/
theorem as_retO {t : Tz τ} {f : Ev D} {v : τ → D} {Φ' : τ → Hs} {k : τ → σ} (p : Ag bs h0 pat Φ f t v Φ') (o : ∀ x, ∃ Φ2, O (k x) = .ret (v x) Φ2 ∧ Φ2.Sublist (Φ' x)) : AgS bs h0 pat Φ (sRet f) (t.bind fun x => .ok (k x)) O := fun st h sl c => by
  have z := p st sl h c
  rw [ev_ret]
  cases t with
  | ok x =>
    obtain ⟨h', e, c'⟩ := z
    rw [e]
    obtain ⟨Φ2, e2, s2⟩ := o x
    show (O (k x)).is bs h0 _
    rw [e2]
    exact ⟨h', rfl, c'.sub s2⟩
  | exc x =>
    obtain ⟨h', e, c'⟩ := z
    rw [e]
    exact ⟨st, h', rfl, c'⟩
  | no => trivial
theorem as_retP {f : Ev D} {d : D} {x : σ} {Φ2 : Hs} (p : Pu bs h0 pat Φ f d) (o : O x = .ret d Φ2) (w : Φ2.Sublist Φ) : AgS bs h0 pat Φ (sRet f) (.ok x) O := fun st h sl c => by
  rw [ev_ret, p st h sl c]
  show (O x).is bs h0 _
  rw [o]
  exact ⟨h, rfl, c.sub w⟩
theorem Cn.subR {h : Store} {Φ2 : Hs} {n : Nat} {ce : Cell} (c : Cn bs h0 (Φ ++ [(n, ce)]) h) (w : Φ2.Sublist Φ) : Cn bs h0 (Φ2 ++ [(n, ce)]) h := c.sub (w.append (List.Sublist.refl _))
theorem as_retC {t : Tz τ} {f : Ev D} {ce : τ → Cell} {Φ' : τ → Hs} {k : τ → σ} (p : AgC bs h0 pat Φ f t ce Φ') (o : ∀ x, ∃ Φ2, O (k x) = .retc (ce x) Φ2 ∧ Φ2.Sublist (Φ' x)) : AgS bs h0 pat Φ (sRet f) (t.bind fun x => .ok (k x)) O := fun st h sl c => by
  have z := p st h sl c
  rw [ev_ret]
  cases t with
  | ok x =>
    obtain ⟨n, h', e, hn, c'⟩ := z
    obtain ⟨Φ2, e2, w⟩ := o x
    rw [e]
    show (O (k x)).is bs h0 _
    rw [e2]
    exact ⟨n, h', rfl, hn, c'.subR w⟩
  | exc x =>
    obtain ⟨h', e, c'⟩ := z
    rw [e]
    exact ⟨st, h', rfl, c'⟩
  | no => trivial
theorem as_retCT {f : Ev D} {ce : σ → Cell} {Φ' : σ → Hs} (p : AgC bs h0 pat Φ f t ce Φ') (o : ∀ x, ∃ Φ2, O x = .retc (ce x) Φ2 ∧ Φ2.Sublist (Φ' x)) : AgS bs h0 pat Φ (sRet f) t O := fun st h sl c => by
  have z := as_retC (k := fun x => x) p o st h sl c
  cases t with
  | ok x => exact z
  | exc x => exact z
  | no => trivial
/-- what stands behind an end is not come to -/
def Ends (s : Ss) : Prop := ∀ st h k, (s st h).seq k = s st h
theorem ends_ret {f : Ev D} : Ends (sRet f) := fun st h k => by
  rw [ev_ret]
  cases f st h <;> rfl
theorem ends_retN : Ends sRetN := fun _ _ _ => rfl
theorem ends_raise {x : Str} : Ends (sRaise x) := fun _ _ _ => rfl
theorem ends_no : Ends sNo := fun _ _ _ => rfl
theorem ends_brk : Ends sBrk := fun _ _ _ => rfl
theorem ends_cont : Ends sCont := fun _ _ _ => rfl
theorem ends_frz {i : Nat} (e : Ends s) : Ends (sFrz i s) := fun st h k => by
  unfold sFrz
  split
  · split
    · exact e _ _ _
    · rfl
  · rfl
theorem as_ends (e : Ends s) (p : AgS bs h0 pat Φ s t O) : AgS bs h0 pat Φ (sSeq s r) t O := p.cast fun st h _ _ => e st h r
theorem as_retN {x : σ} {Φ2 : Hs} (o : O x = .non Φ2) (w : Φ2.Sublist Φ) : AgS bs h0 pat Φ sRetN (.ok x) O := fun st h sl c => by
  show (O x).is bs h0 _
  rw [o]
  exact ⟨h, .inl rfl, c.sub w⟩
theorem as_raise {x : Str} : AgS bs h0 pat Φ (sRaise x) (.exc ⟨x, none⟩ : Tz σ) O := fun st h sl c => ⟨st, h, rfl, c.nil⟩
theorem as_no : AgS bs h0 pat Φ s (.no : Tz σ) O := fun _ _ _ _ => trivial
/-- the end of a block -/
theorem as_fall {x : σ} {Φ2 : Hs} (o : O x = .non Φ2) (w : Φ2.Sublist Φ) : AgS bs h0 pat Φ sNil (.ok x) O := fun st h sl c => by
  show (O x).is bs h0 _
  rw [o]
  exact ⟨h, .inr ⟨st, rfl⟩, c.sub w⟩
theorem as_end {x : σ} {P : Slots} {Q : Hs} (o : O x = .next P Q) (w : Wk pat P) (u : Q.Sublist Φ) : AgS bs h0 pat Φ sNil (.ok x) O := fun st h sl c => by
  show (O x).is bs h0 _
  rw [o]
  exact ⟨st, h, rfl, sl.wk w, c.sub u⟩
theorem as_endL {x : σ} {P : Slots} {Q : Hs} (o : O x = .lp P Q) (w : Wk pat P) (u : Q.Sublist Φ) : AgS bs h0 pat Φ sNil (.ok x) O := fun st h sl c => by
  show (O x).is bs h0 _
  rw [o]
  exact ⟨st, h, .inl rfl, sl.wk w, c.sub u⟩
theorem as_cont {x : σ} {P : Slots} {Q : Hs} (o : O x = .lp P Q) (w : Wk pat P) (u : Q.Sublist Φ) : AgS bs h0 pat Φ sCont (.ok x) O := fun st h sl c => by
  show (O x).is bs h0 _
  rw [o]
  exact ⟨st, h, .inr rfl, sl.wk w, c.sub u⟩
theorem as_brk {x : σ} {P : Slots} {Q : Hs} (o : O x = .brk P Q) (w : Wk pat P) (u : Q.Sublist Φ) : AgS bs h0 pat Φ sBrk (.ok x) O := fun st h sl c => by
  show (O x).is bs h0 _
  rw [o]
  exact ⟨st, h, rfl, sl.wk w, c.sub u⟩
/-- the last statement of a block: the same as ahead of nothing -/
theorem as_last (p : AgS bs h0 pat Φ (sSeq s sNil) t O) : AgS bs h0 pat Φ s t O := p.cast fun st h _ _ => by
  rw [ev_seq]
  cases s st h <;> rfl
/-! ### if -/
theorem as_ifP {c : Ev Bool} {q : Bool} {x y : Tz σ} (p : Pu bs h0 pat Φ c q) (e1 : AgS bs h0 pat Φ (sSeq a r) x O) (e2 : AgS bs h0 pat Φ (sSeq b r) y O) : AgS bs h0 pat Φ (sSeq (sIf c a b) r) (if q = true then x else y) O := by
  have z : AgS bs h0 pat Φ (fun st h => if q = true then (sSeq a r) st h else (sSeq b r) st h) (if q = true then x else y) O := by
    cases q with
    | true => exact e1
    | false => exact e2
  refine z.cast fun st h sl cn => ?_
  rw [ev_seq, ev_if, p st h sl cn, Res.out_ok]
  cases q <;> rfl
theorem as_ifE {c : Ev Bool} {t : Tz τ} {v : τ → Bool} {Φ' : τ → Hs} {x y : τ → Tz σ} (p : Ag bs h0 pat Φ c t v Φ') (e1 : ∀ s, AgS bs h0 pat (Φ' s) (sSeq a r) (x s) O) (e2 : ∀ s, AgS bs h0 pat (Φ' s) (sSeq b r) (y s) O) : AgS bs h0 pat Φ (sSeq (sIf c a b) r) (t.bind fun s => if v s = true then x s else y s) O := by
  have z : AgS bs h0 pat Φ (fun st h => (c st h).out st fun q h1 => if q = true then (sSeq a r) st h1 else (sSeq b r) st h1) (t.bind fun s => if v s = true then x s else y s) O := by
    refine as_out (K := fun st q h1 => if q = true then (sSeq a r) st h1 else (sSeq b r) st h1) p (fun _ _ => rfl) fun s => ?_
    cases v s with
    | true => exact e1 s
    | false => exact e2 s
  refine z.cast fun st h sl cn => ?_
  rw [ev_seq, ev_if]
  cases c st h with
  | ok q h1 => cases q <;> rfl
  | exc x h1 => rfl
  | no => rfl
/-- branches that meet -/
theorem as_joinP {c : Ev Bool} {q : Bool} {x y : Tz σ} (p : Pu bs h0 pat Φ c q) (e1 : AgS bs h0 pat Φ a x O) (e2 : AgS bs h0 pat Φ b y O) : AgS bs h0 pat Φ (sIf c a b) (if q = true then x else y) O := by
  have z : AgS bs h0 pat Φ (fun st h => if q = true then a st h else b st h) (if q = true then x else y) O := by
    cases q with
    | true => exact e1
    | false => exact e2
  refine z.cast fun st h sl cn => ?_
  rw [ev_if, p st h sl cn, Res.out_ok]
theorem as_joinE {c : Ev Bool} {t : Tz τ} {v : τ → Bool} {Φ' : τ → Hs} {x y : τ → Tz σ} (p : Ag bs h0 pat Φ c t v Φ') (e1 : ∀ s, AgS bs h0 pat (Φ' s) a (x s) O) (e2 : ∀ s, AgS bs h0 pat (Φ' s) b (y s) O) : AgS bs h0 pat Φ (sIf c a b) (t.bind fun s => if v s = true then x s else y s) O :=
  as_out (K := fun st q h1 => if q = true then a st h1 else b st h1) p (fun _ _ => rfl) fun s => by
    cases v s with
    | true => exact e1 s
    | false => exact e2 s
/-! ### other statements -/
theorem as_expr {t : Tz σ} {f : Ev D} {v : σ → D} {Φ' : σ → Hs} (p : Ag bs h0 pat Φ f t v Φ') : AgS bs h0 pat Φ (sExpr f) t fun x => .next pat (Φ' x) := fun st h sl c => by
  have z := p st sl h c
  rw [ev_expr]
  cases t with
  | ok x =>
    obtain ⟨h', e, c'⟩ := z
    rw [e]
    exact ⟨st, h', rfl, sl, c'⟩
  | exc x =>
    obtain ⟨h', e, c'⟩ := z
    rw [e]
    exact ⟨st, h', rfl, c'⟩
  | no => trivial
theorem as_exprP {f : Ev D} {d : D} (p : Pu bs h0 pat Φ f d) (q : AgS bs h0 pat Φ r t O) : AgS bs h0 pat Φ (sSeq (sExpr f) r) t O := fun st h sl c => by
  rw [ev_seq, ev_expr, p st h sl c, Res.out_ok, seq_next]
  exact q st h sl c
theorem as_augP {i : Nat} {fo : D → D → Store → Res D} {f : Ev D} {x y z : D} (h1 : pat[i]? = some (some x)) (p : Pu bs h0 pat Φ f y) (e : ∀ h, fo x y h = .ok z h) (q : AgS bs h0 (pat.set i (some z)) Φ r t O) : AgS bs h0 pat Φ (sSeq (sAug i fo f) r) t O := fun st h sl c => by
  rw [ev_seq, ev_aug, sl.at' i _ h1]
  dsimp only
  rw [p st h sl c, Res.out_ok, e h, Res.out_ok, seq_next]
  exact q _ h (sl.set _ _) c
theorem as_aug {i : Nat} {fo : D → D → Store → Res D} {f : Ev D} {x : D} {t : Tz τ} {v : τ → D} {Φ' : τ → Hs} {u : τ → Tz σ} (h1 : pat[i]? = some (some x)) (p : AL bs h0 pat Φ (cCons f cNil) (fun ds h => b2 fo (x :: ds) h) t v Φ') (q : ∀ s, AgS bs h0 (pat.set i (some (v s))) (Φ' s) r (u s) O) : AgS bs h0 pat Φ (sSeq (sAug i fo f) r) (t.bind u) O := fun st h sl c => by
  have z := p st sl h c
  have e : sAug i fo f st h = ((cCons f cNil st h).bind fun ds h => b2 fo (x :: ds) h).out st fun z h2 => .next (st.set i (some z)) h2 := by
    rw [ev_aug, sl.at' i _ h1, ev_cons]
    dsimp only
    cases f st h with
    | ok y h1 => rfl
    | exc y h1 => rfl
    | no => rfl
  rw [ev_seq, e]
  dsimp only at z
  cases t with
  | ok s =>
    obtain ⟨h', e, c'⟩ := z
    rw [e]
    exact q s _ h' (sl.set _ _) c'
  | exc x =>
    obtain ⟨h', e, c'⟩ := z
    rw [e]
    exact ⟨st, h', rfl, c'⟩
  | no => trivial
/-! ### targets -/
structure TgM (fg : Tg) : Prop where
  go : ∀ {d : D} {p p1 st : Slots} {h h1 : Store}, fg d p h = some (p1, h1) → Sl p st → ∃ st1, fg d st h = some (st1, h) ∧ Sl p1 st1 ∧ h1 = h
structure TgsM (fg : Tgs) : Prop where
  go : ∀ {d : List D} {p p1 st : Slots} {h h1 : Store}, fg d p h = some (p1, h1) → Sl p st → ∃ st1, fg d st h = some (st1, h) ∧ Sl p1 st1 ∧ h1 = h
theorem tm_name {i : Nat} : TgM (gtName i) := ⟨fun {d p p1 st h h1} e s => by
  cases e
  exact ⟨_, rfl, s.set _ _, rfl⟩⟩
theorem tm_nil : TgsM gtNil := ⟨fun {d p p1 st h h1} e s => by
  cases d with
  | nil => cases e; exact ⟨_, rfl, s, rfl⟩
  | cons _ _ => cases e⟩
theorem tm_cons {f : Tg} {k : Tgs} (a : TgM f) (b : TgsM k) : TgsM (gtCons f k) := ⟨fun {d p p1 st h h1} e s => by
  cases d with
  | nil => cases e
  | cons x ds =>
    rw [ev_gtCons] at e
    cases e1 : f x p h with
    | none => rw [e1] at e; cases e
    | some q =>
      obtain ⟨p2, h2⟩ := q
      rw [e1] at e
      obtain ⟨st1, e2, s1, rfl⟩ := a.go e1 s
      obtain ⟨st2, e3, s2, rfl⟩ := b.go e s1
      exact ⟨st2, by rw [ev_gtCons, e2]; exact e3, s2, rfl⟩⟩
theorem tm_tup {n : Nat} {k : Tgs} (b : TgsM k) : TgM (gtTup n k) := ⟨fun {d p p1 st h h1} e s => by
  cases d with
  | tup ds =>
    rw [ev_gtTup] at e
    by_cases hl : ds.length = n
    · rw [if_pos hl] at e
      obtain ⟨st1, e2, s1, rfl⟩ := b.go e s
      exact ⟨st1, by rw [ev_gtTup, if_pos hl]; exact e2, s1, rfl⟩
    · rw [if_neg hl] at e
      cases e
  | _ => cases e⟩
/-- a, b = .. -/
theorem as_asg {f : Ev D} {fg : Tg} {t : Tz τ} {v : τ → D} {Φ' : τ → Hs} {P : τ → Slots} (m : TgM fg) (p : Ag bs h0 pat Φ f t v Φ') (e : ∀ x (h : Store), fg (v x) pat h = some (P x, h)) : AgS bs h0 pat Φ (sAsg f fg) t fun x => .next (P x) (Φ' x) := fun st h sl c => by
  have z := p st sl h c
  rw [ev_asg]
  cases t with
  | ok x =>
    obtain ⟨h', e1, c'⟩ := z
    obtain ⟨st1, e2, s1, _⟩ := m.go (e x h') sl
    rw [e1, Res.out_ok, e2]
    exact ⟨st1, h', rfl, s1, c'⟩
  | exc x =>
    obtain ⟨h', e, c'⟩ := z
    rw [e]
    exact ⟨st, h', rfl, c'⟩
  | no => trivial
theorem as_asgP {f : Ev D} {fg : Tg} {d : D} {P : Slots} (m : TgM fg) (p : Pu bs h0 pat Φ f d) (e : ∀ (h : Store), fg d pat h = some (P, h)) (q : AgS bs h0 P Φ r t O) : AgS bs h0 pat Φ (sSeq (sAsg f fg) r) t O := fun st h sl c => by
  obtain ⟨st1, e2, s1, _⟩ := m.go (e h) sl
  rw [ev_seq, ev_asg, p st h sl c, Res.out_ok, e2]
  exact q st1 h s1 c
/-- a, b = x, y -/
theorem as_par {i j : Nat} {fs : Ev (List D)} {t : Tz τ} {v v' : τ → D} {Φ' : τ → Hs} (p : AL bs h0 pat Φ fs bT t (fun x => .tup [v x, v' x]) Φ') : AgS bs h0 pat Φ (sPar i j fs) t fun x => .next ((pat.set i (some (v x))).set j (some (v' x))) (Φ' x) := fun st h sl c => by
  have z := p st sl h c
  unfold sPar
  dsimp only at z
  cases e : fs st h with
  | ok ds h1 =>
    rw [e, Res.bind_ok] at z
    rw [Res.out_ok]
    cases t with
    | ok x =>
      obtain ⟨h', e1, c'⟩ := z
      unfold bT at e1
      by_cases hl : ds.length ≤ sizeLine
      · rw [if_pos hl] at e1
        cases e1
        exact ⟨_, h1, rfl, (sl.set _ _).set _ _, c'⟩
      · rw [if_neg hl] at e1
        cases e1
    | exc x =>
      obtain ⟨h', e1, c'⟩ := z
      unfold bT at e1
      by_cases hl : ds.length ≤ sizeLine
      · rw [if_pos hl] at e1; cases e1
      · rw [if_neg hl] at e1; cases e1
    | no => trivial
  | exc x h1 =>
    rw [e, Res.bind_exc] at z
    cases t with
    | ok x => obtain ⟨h', e1, c'⟩ := z; cases e1
    | exc y => obtain ⟨h', e1, c'⟩ := z; cases e1; exact ⟨st, h1, rfl, c'⟩
    | no => trivial
  | no =>
    rw [e, Res.bind_no] at z
    cases t with
    | ok x => obtain ⟨h', e1, c'⟩ := z; cases e1
    | exc y => obtain ⟨h', e1, c'⟩ := z; cases e1
    | no => trivial
/-! ### for -/
def foldT (body : γ → α → Tz γ) : List α → γ → Tz γ
  | [], g => .ok g
  | x :: xs, g => (body g x).bind (foldT body xs)
theorem as_forL {e : α → D} {fg : Tg} {fb : Ss} {S : γ → Slots} {Q : γ → Hs} {P : γ → α → Slots} {body : γ → α → Tz γ} (m : TgM fg) (tg : ∀ g x (h : Store), fg (e x) (S g) h = some (P g x, h)) (hb : ∀ g x, AgS bs h0 (P g x) (Q g) fb (body g x) fun g' => .lp (S g') (Q g')) :
    ∀ (xs : List α) (g : γ), AgS bs h0 (S g) (Q g) (fun st h => forL fg fb (xs.map e) st h) (foldT body xs g) fun g' => .next (S g') (Q g')
  | [], g => fun st h sl c => ⟨st, h, rfl, sl, c⟩
  | x :: xs, g => fun st h sl c => by
    obtain ⟨st1, e1, s1, _⟩ := m.go (tg g x h) sl
    have z := hb g x st1 h s1 c
    rw [List.map_cons]
    unfold forL foldT
    dsimp only
    rw [e1]
    dsimp only
    cases e2 : body g x with
    | ok g' =>
      rw [e2] at z
      obtain ⟨st2, h2, e3, s2, c2⟩ := z
      have ih := as_forL m tg hb xs g' st2 h2 s2 c2
      rw [Tz.bind_ok]
      rcases e3 with e3 | e3 <;> rw [e3] <;> exact ih
    | exc y =>
      rw [e2] at z
      obtain ⟨st2, h2, e3, c2⟩ := z
      rw [e3]
      exact ⟨st2, h2, rfl, c2⟩
    | no => trivial
theorem as_for {fi : Ev (List D)} {e : α → D} {fg : Tg} {fb : Ss} {S : γ → Slots} {Q : γ → Hs} {P : γ → α → Slots} {body : γ → α → Tz γ} {ti : Tz τ} {xs : τ → List α} {g0 : τ → γ} {Φ1 : τ → Hs} (hi : Ag bs h0 pat Φ fi ti (fun s => (xs s).map e) Φ1) (m : TgM fg) (w : ∀ s, Wk pat (S (g0 s))) (u : ∀ s, (Q (g0 s)).Sublist (Φ1 s))
    (tg : ∀ g x (h : Store), fg (e x) (S g) h = some (P g x, h)) (hb : ∀ g x, AgS bs h0 (P g x) (Q g) fb (body g x) fun g' => .lp (S g') (Q g')) : AgS bs h0 pat Φ (sFor fi fg fb) (ti.bind fun s => foldT body (xs s) (g0 s)) fun g' => .next (S g') (Q g') :=
  as_out (K := fun st l h => forL fg fb l st h) hi (fun _ _ => rfl) fun s => fun st h sl c => as_forL m tg hb (xs s) (g0 s) st h (sl.wk (w s)) (c.sub (u s))
theorem as_forP {fi : Ev (List D)} {e : α → D} {fg : Tg} {fb : Ss} {S : γ → Slots} {Q : γ → Hs} {P : γ → α → Slots} {body : γ → α → Tz γ} {xs : List α} {g0 : γ} (hi : Pu bs h0 pat Φ fi (xs.map e)) (m : TgM fg) (w : Wk pat (S g0)) (u : (Q g0).Sublist Φ)
    (tg : ∀ g x (h : Store), fg (e x) (S g) h = some (P g x, h)) (hb : ∀ g x, AgS bs h0 (P g x) (Q g) fb (body g x) fun g' => .lp (S g') (Q g')) : AgS bs h0 pat Φ (sFor fi fg fb) (foldT body xs g0) fun g' => .next (S g') (Q g') := fun st h sl c => by
  rw [ev_for, hi st h sl c, Res.out_ok]
  exact as_forL m tg hb xs g0 st h (sl.wk w) (c.sub u)
/-- with a break or a return -/
inductive Lp (γ ρ : Type) where
  | go (g : γ)
  | brk (g : γ)
  | ret (r : ρ)
def forT (body : γ → α → Tz (Lp γ ρ)) : List α → γ → Tz (Lp γ ρ)
  | [], g => .ok (.go g)
  | x :: xs, g => (body g x).bind fun o => match o with
    | .go g' => forT body xs g'
    | .brk g' => .ok (.go g')
    | .ret r => .ok (.ret r)
def loS (S : γ → Slots) (Q : γ → Hs) (R : ρ → OS) : Lp γ ρ → OS
  | .go g => .lp (S g) (Q g)
  | .brk g => .brk (S g) (Q g)
  | .ret r => R r
def loE (S : γ → Slots) (Q : γ → Hs) (R : ρ → OS) : Lp γ ρ → OS
  | .go g => .next (S g) (Q g)
  | .brk g => .next (S g) (Q g)
  | .ret r => R r
/-- an end of the def -/
def OS.fin : OS → Bool
  | .ret _ _ => true
  | .retc _ _ => true
  | _ => false
theorem as_forTL {e : α → D} {fg : Tg} {fb : Ss} {S : γ → Slots} {Q : γ → Hs} {R : ρ → OS} {P : γ → α → Slots} {body : γ → α → Tz (Lp γ ρ)} (m : TgM fg) (hR : ∀ r, (R r).fin = true) (tg : ∀ g x (h : Store), fg (e x) (S g) h = some (P g x, h)) (hb : ∀ g x, AgS bs h0 (P g x) (Q g) fb (body g x) (loS S Q R)) :
    ∀ (xs : List α) (g : γ), AgS bs h0 (S g) (Q g) (fun st h => forL fg fb (xs.map e) st h) (forT body xs g) (loE S Q R)
  | [], g => fun st h sl c => ⟨st, h, rfl, sl, c⟩
  | x :: xs, g => fun st h sl c => by
    obtain ⟨st1, e1, s1, _⟩ := m.go (tg g x h) sl
    have z := hb g x st1 h s1 c
    rw [List.map_cons]
    unfold forL forT
    dsimp only
    rw [e1]
    dsimp only
    cases e2 : body g x with
    | ok o =>
      rw [e2] at z
      cases o with
      | go g' =>
        obtain ⟨st2, h2, e3, s2, c2⟩ := z
        have ih := as_forTL m hR tg hb xs g' st2 h2 s2 c2
        rw [Tz.bind_ok]
        rcases e3 with e3 | e3 <;> rw [e3] <;> exact ih
      | brk g' =>
        obtain ⟨st2, h2, e3, s2, c2⟩ := z
        rw [Tz.bind_ok, e3]
        exact ⟨st2, h2, rfl, s2, c2⟩
      | ret r =>
        rw [Tz.bind_ok]
        have z : (R r).is bs h0 (fb st1 h) := z
        show (R r).is bs h0 _
        have hr := hR r
        cases e4 : R r with
        | ret d Φ' =>
          rw [e4] at z
          obtain ⟨h2, e5, c2⟩ := z
          exact ⟨h2, by rw [e5], c2⟩
        | retc d Φ' =>
          rw [e4] at z
          obtain ⟨n, h2, e5, hn, c2⟩ := z
          exact ⟨n, h2, by rw [e5], hn, c2⟩
        | next _ _ => rw [e4] at hr; cases hr
        | lp _ _ => rw [e4] at hr; cases hr
        | brk _ _ => rw [e4] at hr; cases hr
        | non _ => rw [e4] at hr; cases hr
    | exc y =>
      rw [e2] at z
      obtain ⟨st2, h2, e3, c2⟩ := z
      rw [e3]
      exact ⟨st2, h2, rfl, c2⟩
    | no => trivial
theorem as_forR {fi : Ev (List D)} {e : α → D} {fg : Tg} {fb : Ss} {S : γ → Slots} {Q : γ → Hs} {R : ρ → OS} {P : γ → α → Slots} {body : γ → α → Tz (Lp γ ρ)} {ti : Tz τ} {xs : τ → List α} {g0 : τ → γ} {Φ1 : τ → Hs} (hi : Ag bs h0 pat Φ fi ti (fun s => (xs s).map e) Φ1) (m : TgM fg) (hR : ∀ r, (R r).fin = true) (w : ∀ s, Wk pat (S (g0 s))) (u : ∀ s, (Q (g0 s)).Sublist (Φ1 s))
    (tg : ∀ g x (h : Store), fg (e x) (S g) h = some (P g x, h)) (hb : ∀ g x, AgS bs h0 (P g x) (Q g) fb (body g x) (loS S Q R)) : AgS bs h0 pat Φ (sFor fi fg fb) (ti.bind fun s => forT body (xs s) (g0 s)) (loE S Q R) :=
  as_out (K := fun st l h => forL fg fb l st h) hi (fun _ _ => rfl) fun s => fun st h sl c => as_forTL m hR tg hb (xs s) (g0 s) st h (sl.wk (w s)) (c.sub (u s))
theorem as_forRP {fi : Ev (List D)} {e : α → D} {fg : Tg} {fb : Ss} {S : γ → Slots} {Q : γ → Hs} {R : ρ → OS} {P : γ → α → Slots} {body : γ → α → Tz (Lp γ ρ)} {xs : List α} {g0 : γ} (hi : Pu bs h0 pat Φ fi (xs.map e)) (m : TgM fg) (hR : ∀ r, (R r).fin = true) (w : Wk pat (S g0)) (u : (Q g0).Sublist Φ)
    (tg : ∀ g x (h : Store), fg (e x) (S g) h = some (P g x, h)) (hb : ∀ g x, AgS bs h0 (P g x) (Q g) fb (body g x) (loS S Q R)) : AgS bs h0 pat Φ (sFor fi fg fb) (forT body xs g0) (loE S Q R) := fun st h sl c => by
  rw [ev_for, hi st h sl c, Res.out_ok]
  exact as_forTL m hR tg hb xs g0 st h (sl.wk w) (c.sub u)
/-- behind such a loop -/
def Lp.on (o : Lp γ ρ) (k : γ → Tz σ) (i : ρ → σ) : Tz σ := match o with
  | .go g => k g
  | .brk g => k g
  | .ret r => .ok (i r)
theorem OS.fin_seq {o : OS} {x : Out} {k : Ss} (hf : o.fin = true) (z : o.is bs h0 x) : o.is bs h0 (x.seq k) := by
  cases o with
  | ret d Φ' => obtain ⟨h2, e5, c2⟩ := z; exact ⟨h2, by rw [e5]; rfl, c2⟩
  | retc d Φ' => obtain ⟨n, h2, e5, hn, c2⟩ := z; exact ⟨n, h2, by rw [e5]; rfl, hn, c2⟩
  | next _ _ => cases hf
  | lp _ _ => cases hf
  | brk _ _ => cases hf
  | non _ => cases hf
theorem as_seqR {S : γ → Slots} {Q : γ → Hs} {R : ρ → OS} {t : Tz (Lp γ ρ)} {k : γ → Tz σ} {i : ρ → σ} (hR : ∀ r, (R r).fin = true) (hO : ∀ r, O (i r) = R r) (p : AgS bs h0 pat Φ s t (loE S Q R)) (q : ∀ g, AgS bs h0 (S g) (Q g) r (k g) O) : AgS bs h0 pat Φ (sSeq s r) (t.bind fun o => o.on k i) O := fun st h sl c => by
  have z := p st h sl c
  rw [ev_seq]
  cases t with
  | ok o =>
    cases o with
    | go g =>
      obtain ⟨st', h', e, sl', c'⟩ := z
      rw [e]
      exact q g st' h' sl' c'
    | brk g =>
      obtain ⟨st', h', e, sl', c'⟩ := z
      rw [e]
      exact q g st' h' sl' c'
    | ret x =>
      show (O (i x)).is bs h0 _
      rw [hO x]
      exact OS.fin_seq (hR x) z
  | exc x =>
    obtain ⟨st', h', e, c'⟩ := z
    rw [e]
    exact ⟨st', h', rfl, c'⟩
  | no => trivial
/-! ### while -/
def whileT (c : γ → Tz Bool) (b : γ → Tz γ) : Nat → γ → Tz γ
  | 0, _ => .no
  | n + 1, g => (c g).bind fun q => if q = true then (b g).bind (whileT c b n) else .ok g
theorem as_whileL {ft : Ev Bool} {fb : Ss} {S : γ → Slots} {Q : γ → Hs} {c : γ → Tz Bool} {body : γ → Tz γ} (hc : ∀ g, Ag bs h0 (S g) (Q g) ft (c g) (fun b => b) fun _ => Q g) (hb : ∀ g, AgS bs h0 (S g) (Q g) fb (body g) fun g' => .lp (S g') (Q g')) :
    ∀ (n : Nat) (g : γ), AgS bs h0 (S g) (Q g) (whileL ft fb n) (whileT c body n g) fun g' => .next (S g') (Q g')
  | 0, g => fun _ _ _ _ => trivial
  | n + 1, g => fun st h sl cn => by
    have z := hc g st sl h cn
    unfold whileL whileT
    cases e : c g with
    | ok q =>
      rw [e] at z
      obtain ⟨h', e1, c'⟩ := z
      rw [e1, Res.out_ok, Tz.bind_ok]
      cases q with
      | false => exact ⟨st, h', rfl, sl, c'⟩
      | true =>
        rw [if_pos rfl, if_pos rfl]
        have y := hb g st h' sl c'
        cases e2 : body g with
        | ok g' =>
          rw [e2] at y
          obtain ⟨st2, h2, e3, s2, c2⟩ := y
          have ih := as_whileL hc hb n g' st2 h2 s2 c2
          rw [Tz.bind_ok]
          rcases e3 with e3 | e3 <;> rw [e3] <;> exact ih
        | exc yy =>
          rw [e2] at y
          obtain ⟨st2, h2, e3, c2⟩ := y
          rw [e3]
          exact ⟨st2, h2, rfl, c2⟩
        | no => trivial
    | exc x =>
      rw [e] at z
      obtain ⟨h', e1, c'⟩ := z
      rw [e1]
      exact ⟨st, h', rfl, c'⟩
    | no => trivial
theorem as_while {ft : Ev Bool} {fb : Ss} {S : γ → Slots} {Q : γ → Hs} {c : γ → Tz Bool} {body : γ → Tz γ} {n : Nat} {g0 : γ} (w : Wk pat (S g0)) (u : (Q g0).Sublist Φ) (hc : ∀ g, Ag bs h0 (S g) (Q g) ft (c g) (fun b => b) fun _ => Q g) (hb : ∀ g, AgS bs h0 (S g) (Q g) fb (body g) fun g' => .lp (S g') (Q g')) :
    AgS bs h0 pat Φ (whileL ft fb n) (whileT c body n g0) fun g' => .next (S g') (Q g') := fun st h sl cn => as_whileL hc hb n g0 st h (sl.wk w) (cn.sub u)
end
/-! ### defs -/
def FoX {σ : Type} (F : FnT) (ds : List D) (Φ0 : Hs) (t : Tz σ) (O : σ → OS) : Prop := ∀ h, Cn (Φ0.map Prod.fst) h Φ0 h → match t with
  | .ok s => ∃ d h', F ds h = .ok d h' ∧ (O s).is (Φ0.map Prod.fst) h (.ret d h')
  | .exc x => ∃ h', F ds h = .exc x h' ∧ Cn (Φ0.map Prod.fst) h [] h'
  | .no => True
section
variable {σ : Type} {t : Tz σ} {O : σ → OS}
theorem Cn.clean {bs : List Nat} {h0 h : Store} {Φ : Hs} (c : Cn bs h0 Φ h) (hΦ : ∀ p ∈ Φ, p.1 < h0.length) : Cn bs h0 Φ (h.take h0.length) := by
  have tk : ∀ m, m < h0.length → (h.take h0.length)[m]? = h[m]? := fun m hm => by rw [List.getElem?_take_of_lt hm]
  exact ⟨by rw [List.length_take]; have := c.len; omega, fun p hp => by rw [tk _ (hΦ p hp)]; exact c.cell p hp, c.nd, fun m hm hb => by rw [tk m hm]; exact c.old m hm hb, c.own, c.lo⟩
/-- cells that a def was handed alone -/
theorem Cn.lows {bs : List Nat} {h0 h : Store} {Φ : Hs} (c : Cn bs h0 Φ h) (hb : ∀ p ∈ Φ, p.1 ∈ bs) : ∀ p ∈ Φ, p.1 < h0.length := fun p hp => c.lo _ (hb p hp)
theorem clean_ok {n : Nat} {d : D} {h : Store} : cleanD n (.ok d h) = .ok d h ∨ (cleanD n (.ok d h) = .ok d (h.take n) ∧ d.lw n = true) := by
  unfold cleanD clean
  dsimp only
  split
  · rename_i q; exact .inr ⟨rfl, q.1⟩
  · exact .inl rfl
theorem clean_exc {n : Nat} {x : Exn} {h : Store} : cleanD n (.exc x h) = .exc x h ∨ cleanD n (.exc x h) = .exc x (h.take n) := by
  unfold cleanD clean
  dsimp only
  split
  · exact .inr rfl
  · exact .inl rfl
/-- a def of values -/
theorem fn_fo {n k : Nat} {B : Ss} {ds : List D} {pat : Slots} {Φ0 : Hs} {v : σ → D} {Q : σ → Hs} (hk : ds.length = k) (hs : startD n ds = pat) (hQ : ∀ s, ∀ p ∈ Q s, p.1 ∈ Φ0.map Prod.fst) (p : ∀ h0, AgS (Φ0.map Prod.fst) h0 pat Φ0 B t fun s => .ret (v s) (Q s)) : FoX (fnOf n k B) ds Φ0 t fun s => .ret (v s) (Q s) := fun h c => by
  have z := p h (startD n ds) h (by rw [hs]; exact Sl.refl _) c
  unfold fnOf
  rw [if_pos hk]
  cases t with
  | ok s =>
    obtain ⟨h', e, c'⟩ := z
    rw [e, res_ret]
    rcases clean_ok (n := h.length) (d := v s) (h := h') with q | q
    · exact ⟨_, _, q, h', rfl, c'⟩
    · exact ⟨_, _, q.1, _, rfl, c'.clean (c'.lows (hQ s))⟩
  | exc x =>
    obtain ⟨st', h', e, c'⟩ := z
    rw [e, res_exc]
    rcases clean_exc (n := h.length) (x := x) (h := h') with q | q
    · exact ⟨_, q, c'⟩
    · exact ⟨_, q, c'.clean fun p hp => by cases hp⟩
  | no => trivial
/-- a def that answers nothing -/
theorem fn_foN {n k : Nat} {B : Ss} {ds : List D} {pat : Slots} {Φ0 : Hs} {Q : σ → Hs} (hk : ds.length = k) (hs : startD n ds = pat) (hQ : ∀ s, ∀ p ∈ Q s, p.1 ∈ Φ0.map Prod.fst) (p : ∀ h0, AgS (Φ0.map Prod.fst) h0 pat Φ0 B t fun s => .non (Q s)) : FoX (fnOf n k B) ds Φ0 t fun s => .ret .non (Q s) := fun h c => by
  have z := p h (startD n ds) h (by rw [hs]; exact Sl.refl _) c
  unfold fnOf
  rw [if_pos hk]
  cases t with
  | ok s =>
    obtain ⟨h', e, c'⟩ := z
    have e2 : (B (startD n ds) h).res = .ok .non h' := by
      rcases e with e | ⟨st, e⟩ <;> rw [e] <;> rfl
    rw [e2]
    rcases clean_ok (n := h.length) (d := .non) (h := h') with q | q
    · exact ⟨_, _, q, h', rfl, c'⟩
    · exact ⟨_, _, q.1, _, rfl, c'.clean (c'.lows (hQ s))⟩
  | exc x =>
    obtain ⟨st', h', e, c'⟩ := z
    rw [e, res_exc]
    rcases clean_exc (n := h.length) (x := x) (h := h') with q | q
    · exact ⟨_, q, c'⟩
    · exact ⟨_, q, c'.clean fun p hp => by cases hp⟩
  | no => trivial
/-- a def that answers a new cell -/
theorem fn_foC {n k : Nat} {B : Ss} {ds : List D} {pat : Slots} {Φ0 : Hs} {ce : σ → Cell} {Q : σ → Hs} (hk : ds.length = k) (hs : startD n ds = pat) (p : ∀ h0, AgS (Φ0.map Prod.fst) h0 pat Φ0 B t fun s => .retc (ce s) (Q s)) : FoX (fnOf n k B) ds Φ0 t fun s => .retc (ce s) (Q s) := fun h c => by
  have z := p h (startD n ds) h (by rw [hs]; exact Sl.refl _) c
  unfold fnOf
  rw [if_pos hk]
  cases t with
  | ok s =>
    obtain ⟨m, h', e, hm, c'⟩ := z
    rw [e, res_ret]
    have ho := c'.own (m, ce s) (by simp)
    have ge : h.length ≤ m := by
      rcases ho with o | o
      · exact absurd o hm
      · exact o
    rcases clean_ok (n := h.length) (d := .ref m) (h := h') with q | q
    · exact ⟨_, _, q, m, h', rfl, hm, c'⟩
    · have q2 := q.2
      simp only [D.lw, decide_eq_true_eq] at q2
      omega
  | exc x =>
    obtain ⟨st', h', e, c'⟩ := z
    rw [e, res_exc]
    rcases clean_exc (n := h.length) (x := x) (h := h') with q | q
    · exact ⟨_, q, c'⟩
    · exact ⟨_, q, c'.clean fun p hp => by cases hp⟩
  | no => trivial
/-! ### calls -/
variable {bs : List Nat} {h0 : Store} {Φ : Hs} {F : FnT} {ds : List D} {v : σ → D}
theorem fo0 (f : FoX F ds [] t fun s => .ret (v s) []) : Gv bs h0 Φ (F ds) t v fun _ => Φ := fun h c => by
  have z := f h ⟨Nat.le_refl _, fun p hp => (by cases hp), by simp, fun _ _ _ => rfl, fun p hp => (by cases hp), fun b hb => (by cases hb)⟩
  cases t with
  | ok s =>
    obtain ⟨d, h', e, h2, e2, c'⟩ := z
    cases e2
    exact ⟨h', e, c.ext ⟨c'.len, fun m hm => c'.old m hm (by simp)⟩⟩
  | exc x =>
    obtain ⟨h', e, c'⟩ := z
    exact ⟨h', e, (c.ext ⟨c'.len, fun m hm => c'.old m hm (by simp)⟩).nil⟩
  | no => trivial
/-- one cell was changed by a callee -/
theorem Cn.upd {h h' : Store} {k n : Nat} {c0 ce : Cell} (c : Cn bs h0 Φ h) (hk : Φ[k]? = some (n, c0)) (hl : h.length ≤ h'.length) (ho : ∀ m, m < h.length → m ≠ n → h'[m]? = h[m]?) (hc : h'[n]? = some (some ce)) : Cn bs h0 (Φ.set k (n, ce)) h' := by
  have c2 := c.put hk ce
  have hm : (n, c0) ∈ Φ := List.mem_of_getElem? hk
  have hn : n < h.length := c.lt hm
  refine c2.ext ⟨by rw [List.length_set]; exact hl, fun m hm2 => ?_⟩
  rw [List.length_set] at hm2
  by_cases e : m = n
  · subst e
    rw [hc, List.getElem?_set_self hn]
  · rw [ho m hm2 e, List.getElem?_set_ne (Ne.symm e)]
theorem fo1 {k n : Nat} {c0 : Cell} {ce : σ → Cell} (hk : Φ[k]? = some (n, c0)) (f : FoX F ds [(n, c0)] t fun s => .ret (v s) [(n, ce s)]) : Gv bs h0 Φ (F ds) t v fun s => Φ.set k (n, ce s) := fun h c => by
  have hm : (n, c0) ∈ Φ := List.mem_of_getElem? hk
  have hn : n < h.length := c.lt hm
  have z := f h ⟨Nat.le_refl _, fun p hp => by
    have hp : p = (n, c0) := by simpa using hp
    subst hp
    exact c.cell _ hm, by simp, fun _ _ _ => rfl, fun p hp => by
    have hp : p = (n, c0) := by simpa using hp
    subst hp
    exact .inl (by simp), fun b hb => by
    have hb : b = n := by simpa using hb
    subst hb
    exact hn⟩
  have old : ∀ {Φ' : Hs} {h' : Store}, Cn (List.map Prod.fst [(n, c0)]) h Φ' h' → ∀ m, m < h.length → m ≠ n → h'[m]? = h[m]? := fun c' m hm e => c'.old m hm (by simpa using e)
  cases t with
  | ok s =>
    obtain ⟨d, h', e, h2, e2, c'⟩ := z
    cases e2
    exact ⟨h', e, c.upd hk c'.len (old c') (c'.cell (n, ce s) (by simp))⟩
  | exc x =>
    obtain ⟨h', e, c'⟩ := z
    refine ⟨h', e, Nat.le_trans c.len c'.len, fun p hp => (by cases hp), by simp, fun m hm2 hb => ?_, fun p hp => (by cases hp), c.lo⟩
    have ne : m ≠ n := fun q => by
      rcases c.own _ hm with o | o
      · subst q; exact hb o
      · have o : h0.length ≤ n := o
        omega
    rw [old c' m (Nat.lt_of_lt_of_le hm2 c.len) ne]
    exact c.old m hm2 hb
  | no => trivial
theorem set_same {k : Nat} {p : Nat × Cell} : ∀ {Φ : Hs}, Φ[k]? = some p → Φ.set k p = Φ := fun {Φ} e => by
  obtain ⟨hl, e2⟩ := List.getElem?_eq_some_iff.mp e
  rw [← e2, List.set_getElem_self]
/-- a cell that a callee reads -/
theorem fo1r {k n : Nat} {c0 : Cell} (hk : Φ[k]? = some (n, c0)) (f : FoX F ds [(n, c0)] t fun s => .ret (v s) [(n, c0)]) : Gv bs h0 Φ (F ds) t v fun _ => Φ := by
  have z := fo1 (bs := bs) (h0 := h0) (ce := fun _ => c0) hk f
  rw [set_same hk] at z
  exact z
/-- a callee's new cell -/
theorem foC {ce : σ → Cell} (f : FoX F ds [] t fun s => .retc (ce s) []) {fs : Ev (List D)} {defs : List D} {pat : Slots} (p : Pu bs h0 pat Φ fs ds) : AgC bs h0 pat Φ (cCall F [] fs) t ce fun _ => Φ := fun st h sl c => by
  have z := f h ⟨Nat.le_refl _, fun p hp => (by cases hp), by simp, fun _ _ _ => rfl, fun p hp => (by cases hp), fun b hb => (by cases hb)⟩
  rw [ev_call, p st h sl c, Res.bind_ok, List.append_nil]
  cases t with
  | ok s =>
    obtain ⟨d, h', e, n, h2, e2, hn, c'⟩ := z
    cases e2
    have ce1 := c.ext (h' := h') ⟨c'.len, fun m hm => c'.old m hm (by simp)⟩
    have ge : h.length ≤ n := by
      rcases c'.own (n, ce s) (by simp) with o | o
      · exact absurd o (by simp)
      · exact o
    refine ⟨n, h', e, fun z => ?_, ce1.len, fun p hp => ?_, ?_, ce1.old, fun p hp => ?_, ce1.lo⟩
    · have := ce1.lo _ z
      have := c.len
      omega
    · rcases List.mem_append.mp hp with q | q
      · exact ce1.cell p q
      · have q : p = (n, ce s) := by simpa using q
        subst q
        exact c'.cell _ (by simp)
    · rw [List.map_append, List.nodup_append]
      refine ⟨c.nd, by simp, fun a ha b hb => ?_⟩
      obtain ⟨p, hp, rfl⟩ := List.mem_map.mp ha
      have hb : b = n := by simpa using hb
      have := c.lt hp
      omega
    · rcases List.mem_append.mp hp with q | q
      · exact c.own p q
      · have q : p = (n, ce s) := by simpa using q
        subst q
        exact .inr (Nat.le_trans c.len ge)
  | exc x =>
    obtain ⟨h', e, c'⟩ := z
    exact ⟨h', e, (c.ext ⟨c'.len, fun m hm => c'.old m hm (by simp)⟩).nil⟩
  | no => trivial
end
end Gt

/-! Gt4: what is walked, comprehensions, operators on typed values. -/
namespace Gt
open PySem PySem.Spec PyProof.Rows Gm

@[irreducible] def big : Nat := 2 ^ 100000
theorem lt_big {a k : Nat} (h : a < 2 ^ k) (hk : k ≤ 100000 := by decide) : a < big := by
  unfold big
  exact Nat.lt_of_lt_of_le h (Nat.pow_le_pow_right (by decide) hk)
theorem big_lt {a : Nat} (h : a < big) : a < 2 ^ 100000 := by
  unfold big at h
  exact h
theorem small_big {a : Nat} (h : a ≤ 1000000000000000000) : a < big := lt_big (k := 64) (Nat.lt_of_le_of_lt h (by decide))
/-! ### numbers -/
def mulT (a b : Nat) : Tz Nat := gd (a < big ∧ b < big) (a * b)
def mulI (a b : Int) : Tz Int := gd (a.natAbs < big ∧ b.natAbs < big) (a * b)
def shlT (a k : Nat) : Tz Nat := gd (a < big ∧ k < 100000) (a <<< k)
def subT (a b : Nat) : Tz Nat := gd (b ≤ a) (a - b)
def divT (a b : Nat) : Tz Nat := gd (0 < b ∧ b < 2 ^ 64) (a / b)
def modT (a b : Nat) : Tz Nat := gd (0 < b) (a % b)
def divI (a b : Int) : Tz Int := gd (0 < b ∧ b < 2 ^ 64) (a / b)
def modI (a b : Int) : Tz Int := gd (0 < b) (a % b)
def toN (a : Int) : Tz Nat := gd (0 ≤ a) a.toNat
theorem mulT_ok {a b : Nat} (h1 : a ≤ 1000000000000000000) (h2 : b ≤ 1000000000000000000) : mulT a b = .ok (a * b) := gd_ok ⟨small_big h1, small_big h2⟩
theorem mulI_ok {a b : Int} (h1 : a.natAbs ≤ 1000000000000000000) (h2 : b.natAbs ≤ 1000000000000000000) : mulI a b = .ok (a * b) := gd_ok ⟨small_big h1, small_big h2⟩
theorem shlT_ok {a k : Nat} (h1 : a ≤ 1000000000000000000) (h2 : k < 100000) : shlT a k = .ok (a <<< k) := gd_ok ⟨small_big h1, h2⟩
theorem subT_ok {a b : Nat} (h : b ≤ a) : subT a b = .ok (a - b) := gd_ok h
theorem divT_ok {a b : Nat} (h1 : 0 < b) (h2 : b < 2 ^ 64) : divT a b = .ok (a / b) := gd_ok ⟨h1, h2⟩
theorem modT_ok {a b : Nat} (h1 : 0 < b) : modT a b = .ok (a % b) := gd_ok h1
theorem divI_ok {a b : Int} (h1 : 0 < b) (h2 : b < 2 ^ 64) : divI a b = .ok (a / b) := gd_ok ⟨h1, h2⟩
theorem modI_ok {a b : Int} (h1 : 0 < b) : modI a b = .ok (a % b) := gd_ok h1
theorem toN_ok {a : Int} (h1 : 0 ≤ a) : toN a = .ok a.toNat := gd_ok h1
section
variable {bs : List Nat} {h0 : Store} {Φ : Hs}
abbrev enD {α : Type} [Enc α] : α → D := en
theorem nn_add (a b : Nat) (m : Bool) (h : Store) : oAdd m (en a) (en b) h = .ok (en (a + b)) h := rfl
theorem nn_addI (a b : Nat) (h : Store) : oAddI (en a) (en b) h = .ok (en (a + b)) h := rfl
theorem ii_add (a b : Int) (m : Bool) (h : Store) : oAdd m (en a) (en b) h = .ok (en (a + b)) h := rfl
theorem ii_addI (a b : Int) (h : Store) : oAddI (en a) (en b) h = .ok (en (a + b)) h := rfl
theorem ii_sub (a b : Int) (h : Store) : oSub (en a) (en b) h = .ok (en (a - b)) h := rfl
theorem gMul_big {i j : Int} (h1 : i.natAbs < big) (h2 : j.natAbs < big) : gMul i j = true := gMul_of (big_lt h1) (big_lt h2) (by decide)
theorem ii_mul (a b : Int) : Gv bs h0 Φ (oMul (en a) (en b)) (mulI a b) en fun _ => Φ := Gv.gd fun hc h _ => ev_iop (f := fun i j => i * j) (gMul_big hc.1 hc.2)
theorem nn_mul (a b : Nat) : Gv bs h0 Φ (oMul (en a) (en b)) (mulT a b) en fun _ => Φ := Gv.gd fun hc h _ => by
  have e := ev_iop (h := h) (f := fun i j => i * j) (gMul_big (i := (a : Int)) (j := (b : Int)) (by simpa using hc.1) (by simpa using hc.2))
  exact e
theorem nn_sub (a b : Nat) : Gv bs h0 Φ (oSub (en a) (en b)) (subT a b) en fun _ => Φ := Gv.gd fun hc h _ => by
  show Res.ok (D.int ((a : Int) - (b : Int))) h = .ok (D.int ((a - b : Nat) : Int)) h
  rw [Int.ofNat_sub hc] <;> rfl
theorem nn_divP (a b : Nat) (hb : 0 < b ∧ b < 2 ^ 64) (h : Store) : oDiv (en a) (en b) h = .ok (en (a / b)) h := by
  have z : gDiv (a : Int) (b : Int) = true := gDiv_of (k := 64) (by omega) (by rw [Int.natAbs_natCast]; exact hb.2) (by decide)
  have e := ev_iop (h := h) (f := fun i j => i / j) z
  exact e
theorem nn_modP (a b : Nat) (hb : 0 < b) (h : Store) : oMod (en a) (en b) h = .ok (en (a % b)) h := by
  have z : gMod (a : Int) (b : Int) = true := gMod_of (by omega)
  have e := ev_iop (h := h) (f := fun i j => i % j) z
  exact e
theorem ii_divP (a b : Int) (hb : 0 < b ∧ b < 2 ^ 64) (h : Store) : oDiv (en a) (en b) h = .ok (en (a / b)) h := ev_iop (f := fun i j => i / j) (gDiv_of (k := 64) hb.1 (by omega) (by decide))
theorem ii_modP (a b : Int) (hb : 0 < b) (h : Store) : oMod (en a) (en b) h = .ok (en (a % b)) h := ev_iop (f := fun i j => i % j) (gMod_of hb)
theorem nn_div (a b : Nat) : Gv bs h0 Φ (oDiv (en a) (en b)) (divT a b) en fun _ => Φ := Gv.gd fun hc h _ => nn_divP a b hc h
theorem nn_mod (a b : Nat) : Gv bs h0 Φ (oMod (en a) (en b)) (modT a b) en fun _ => Φ := Gv.gd fun hc h _ => nn_modP a b hc h
theorem ii_div (a b : Int) : Gv bs h0 Φ (oDiv (en a) (en b)) (divI a b) en fun _ => Φ := Gv.gd fun hc h _ => ii_divP a b hc h
theorem ii_mod (a b : Int) : Gv bs h0 Φ (oMod (en a) (en b)) (modI a b) en fun _ => Φ := Gv.gd fun hc h _ => ii_modP a b hc h
theorem nn_shl (a b : Nat) : Gv bs h0 Φ (oShl (en a) (en b)) (shlT a b) en fun _ => Φ := Gv.gd fun hc h _ => by
  have e := ev_iop (h := h) (f := fun i j => i * 2 ^ j.toNat) (gShl_of (a := a) (b := b) (k := 100000) (big_lt hc.1) (by omega))
  show oShl (D.int (a : Int)) (D.int (b : Int)) h = .ok (D.int ((a <<< b : Nat) : Int)) h
  rw [← shl_n]
  exact e
theorem nn_shr (a b : Nat) (h : Store) : oShr (en a) (en b) h = .ok (en (a >>> b)) h := by
  have e := ev_iop (h := h) (f := fun i j => i / 2 ^ j.toNat) (gShr_of (a : Int) b)
  show oShr (D.int (a : Int)) (D.int (b : Int)) h = .ok (D.int ((a >>> b : Nat) : Int)) h
  rw [← shr_n]
  exact e
theorem nn_and (a b : Nat) (h : Store) : oAnd (en a) (en b) h = .ok (en (a &&& b)) h := by
  show Res.ok (D.int (Builtin.bitAnd (a : Int) (b : Int))) h = _
  rw [band_n] <;> rfl
theorem nn_or (a b : Nat) (h : Store) : oOr (en a) (en b) h = .ok (en (a ||| b)) h := by
  show Res.ok (D.int (Builtin.bitOr (a : Int) (b : Int))) h = _
  rw [bor_n] <;> rfl
theorem nn_xor (a b : Nat) (h : Store) : oXor (en a) (en b) h = .ok (en (a ^^^ b)) h := by
  show Res.ok (D.int (Builtin.bitXor (a : Int) (b : Int))) h = _
  rw [bxor_n] <;> rfl
theorem nn_lt (a b : Nat) (h : Store) : oLt (en a) (en b) h = .ok (en (decide (a < b))) h := by
  show Res.ok (D.bl (decide ((a : Int) < (b : Int)))) h = _
  rw [decide_eq_decide.mpr Int.ofNat_lt] <;> rfl
theorem nn_le (a b : Nat) (h : Store) : oLe (en a) (en b) h = .ok (en (decide (a ≤ b))) h := by
  show Res.ok (D.bl (decide ((a : Int) ≤ (b : Int)))) h = _
  rw [decide_eq_decide.mpr Int.ofNat_le] <;> rfl
theorem nn_gt (a b : Nat) (h : Store) : oGt (en a) (en b) h = .ok (en (decide (b < a))) h := nn_lt b a h
theorem nn_ge (a b : Nat) (h : Store) : oGe (en a) (en b) h = .ok (en (decide (b ≤ a))) h := nn_le b a h
theorem ii_lt (a b : Int) (h : Store) : oLt (en a) (en b) h = .ok (en (decide (a < b))) h := rfl
theorem ii_le (a b : Int) (h : Store) : oLe (en a) (en b) h = .ok (en (decide (a ≤ b))) h := rfl
theorem ii_gt (a b : Int) (h : Store) : oGt (en a) (en b) h = .ok (en (decide (b < a))) h := rfl
theorem ii_ge (a b : Int) (h : Store) : oGe (en a) (en b) h = .ok (en (decide (b ≤ a))) h := rfl
theorem nn_eq (a b : Nat) (h : Store) : oEq (en a) (en b) h = .ok (en (decide (a = b))) h := by
  show Res.ok (D.bl ((a : Int) == (b : Int))) h = _
  rw [nat_beq]
  rfl
theorem nn_ne (a b : Nat) (h : Store) : oNe (en a) (en b) h = .ok (en (!decide (a = b))) h := by
  show Res.ok (D.bl (!((a : Int) == (b : Int)))) h = _
  rw [nat_beq]
  rfl
theorem ii_eq (a b : Int) (h : Store) : oEq (en a) (en b) h = .ok (en (decide (a = b))) h := rfl
theorem ii_ne (a b : Int) (h : Store) : oNe (en a) (en b) h = .ok (en (!decide (a = b))) h := rfl
theorem bb_eq (a b : Bool) (h : Store) : oEq (en a) (en b) h = .ok (en (a == b)) h := rfl
theorem bb_ne (a b : Bool) (h : Store) : oNe (en a) (en b) h = .ok (en (!(a == b))) h := rfl
theorem xx_dec (a b : Tx) : decide (tx a.l = tx b.l) = decide (a = b) := decide_eq_decide.mpr ⟨fun e => by have e2 := tx_inj e; cases a; cases b; cases e2; rfl, fun e => by rw [e]⟩
theorem xx_eq (a b : Tx) (h : Store) : oEq (en a) (en b) h = .ok (en (decide (a = b))) h := by
  show Res.ok (D.bl (decide (tx a.l = tx b.l))) h = _
  rw [xx_dec] <;> rfl
theorem xx_ne (a b : Tx) (h : Store) : oNe (en a) (en b) h = .ok (en (!decide (a = b))) h := by
  show Res.ok (D.bl (!decide (tx a.l = tx b.l))) h = _
  rw [xx_dec] <;> rfl
theorem nn_min (a b : Nat) (h : Store) : fMin2 [en a, en b] h = .ok (en (min a b)) h := by
  show Res.ok (D.int (if (b : Int) < (a : Int) then (b : Int) else (a : Int))) h = .ok (D.int ((min a b : Nat) : Int)) h
  congr 2
  split <;> omega
theorem nn_max (a b : Nat) (h : Store) : fMax2 [en a, en b] h = .ok (en (max a b)) h := by
  show Res.ok (D.int (if (b : Int) > (a : Int) then (b : Int) else (a : Int))) h = .ok (D.int ((max a b : Nat) : Int)) h
  congr 2
  split <;> omega
theorem i_toN {t : Tz Int} {f : Ev D} {pat : Slots} {Φ' : Int → Hs} (p : Ag bs h0 pat Φ f t en Φ') (q : ∀ s, Φ' s = Φ) : Ag bs h0 pat Φ f (t.bind toN) en fun _ => Φ := fun st s h c => by
  have z := p st s h c
  cases t with
  | ok i =>
    obtain ⟨h', e, c'⟩ := z
    rw [Tz.bind_ok]
    unfold toN gd
    by_cases hi : 0 ≤ i
    · rw [if_pos hi]
      refine ⟨h', ?_, by rw [← q i]; exact c'⟩
      rw [e]
      show Res.ok (D.int i) h' = .ok (D.int ((i.toNat : Nat) : Int)) h'
      rw [Int.toNat_of_nonneg hi] <;> rfl
    · rw [if_neg hi]; trivial
  | exc x => exact z
  | no => trivial
/-- None or not -/
theorem o_isN {α : Type} [Enc α] (hα : ∀ a : α, (en a).isNon = false) (o : Option α) (h : Store) : oIsN (en o) .non h = .ok (en o.isNone) h := by
  cases o with
  | none => rfl
  | some a =>
    show Res.ok (D.bl (en a).isNon) h = _
    rw [hα a]
    rfl
theorem o_notN {α : Type} [Enc α] (hα : ∀ a : α, (en a).isNon = false) (o : Option α) (h : Store) : oNotN (en o) .non h = .ok (en o.isSome) h := by
  cases o with
  | none => rfl
  | some a =>
    show Res.ok (D.bl (!(en a).isNon)) h = _
    rw [hα a]
    rfl
/-! ### lists -/
variable {α β : Type} [Enc α] [Enc β]
theorem l_len (xs : List α) (h : Store) : fLen [en xs] h = .ok (en xs.length) h := by
  show Res.ok (D.int ((xs.map en).length : Nat)) h = _
  rw [List.length_map] <;> rfl
theorem t_len (xs : Tup α) (h : Store) : fLen [en xs] h = .ok (en xs.l.length) h := by
  show Res.ok (D.int ((xs.l.map en).length : Nat)) h = _
  rw [List.length_map] <;> rfl
theorem f_len (xs : Fro α) (h : Store) : fLen [en xs] h = .ok (en xs.l.length) h := by
  show Res.ok (D.int ((xs.l.map en).length : Nat)) h = _
  rw [List.length_map] <;> rfl
def lenX (x : Tx) : Tz Nat := gd (x.l.length ≤ lim) x.l.length
theorem lenX_ok {x : Tx} (h : x.l.length ≤ 1000000) : lenX x = .ok x.l.length := gd_ok h
theorem x_len (x : Tx) : Gv bs h0 Φ (fLen [en x]) (lenX x) en fun _ => Φ := Gv.gd fun hc h _ => by
  show (if (tx x.l).length ≤ sizeLine then Res.ok (D.int ((tx x.l).length : Nat)) h else .no) = _
  rw [tx_len, if_pos (small_line hc)] <;> rfl
def ixT (xs : List α) (i : Nat) : Tz α := match xs[i]? with
  | some a => .ok a
  | none => .no
theorem ixT_ok {α : Type} {xs : List α} {i : Nat} {a : α} (h : xs[i]? = some a) : ixT xs i = .ok a := by
  unfold ixT
  rw [h] <;> rfl
theorem ixT_lt {α : Type} {xs : List α} {i : Nat} (h : i < xs.length) : ixT xs i = .ok xs[i] := ixT_ok (List.getElem?_eq_getElem h)
theorem atI_n {α : Type} (l : List α) (i : Nat) : L2.atI l (i : Int) = l[i]? := by
  by_cases hi : i < l.length
  · rw [atI_nat hi, List.getElem?_eq_getElem hi]
  · rw [List.getElem?_eq_none (by omega)]
    unfold L2.atI L2.ixN
    rw [if_pos (by omega), if_neg (by omega)]
    rfl
theorem gv_ix {G : Store → Res D} {xs : List α} {i : Nat} (e : ∀ h, Cn bs h0 Φ h → G h = match L2.atI (xs.map en) (i : Int) with
    | some d => .ok d h
    | none => .no) : Gv bs h0 Φ G (ixT xs i) en fun _ => Φ := fun h c => by
  have z := e h c
  rw [atI_n, List.getElem?_map] at z
  unfold ixT
  cases e2 : xs[i]? with
  | none => trivial
  | some a =>
    rw [e2] at z
    exact ⟨h, z, c⟩
theorem l_ix (xs : List α) (i : Nat) : Gv bs h0 Φ (oIx (en xs) (en i)) (ixT xs i) en fun _ => Φ := gv_ix fun h _ => rfl
theorem t_ix (xs : Tup α) (i : Nat) : Gv bs h0 Φ (oIx (en xs) (en i)) (ixT xs.l i) en fun _ => Φ := gv_ix fun h _ => rfl
theorem f_ix (xs : Fro α) (i : Nat) : Gv bs h0 Φ (oIx (en xs) (en i)) (ixT xs.l i) en fun _ => Φ := gv_ix fun h _ => rfl
/-- the last one but k -/
def ixB (xs : List α) (k : Nat) : Tz α := if k ≤ xs.length then ixT xs (xs.length - k) else .no
theorem atI_b {α : Type} (l : List α) (k : Nat) (hk : 0 < k) : L2.atI l (-(k : Int)) = if k ≤ l.length then l[l.length - k]? else none := by
  unfold L2.atI L2.ixN
  rw [if_neg (by omega)]
  by_cases h : k ≤ l.length
  · rw [if_pos h, if_pos (by omega)]
    have : (-(k : Int) + (l.length : Int)).toNat = l.length - k := by omega
    rw [this]
    rfl
  · rw [if_neg h, if_neg (by omega)]
    rfl
theorem l_ixB (xs : List α) (k : Nat) (hk : 0 < k) : Gv bs h0 Φ (oIx (en xs) (.int (-(k : Int)))) (ixB xs k) en fun _ => Φ := fun h c => by
  have z : oIx (en xs) (.int (-(k : Int))) h = match L2.atI (xs.map en) (-(k : Int)) with
    | some d => .ok d h
    | none => .no := rfl
  rw [atI_b _ _ hk, List.length_map] at z
  unfold ixB
  by_cases hl : k ≤ xs.length
  · rw [if_pos hl] at z ⊢
    rw [List.getElem?_map] at z
    unfold ixT
    cases e2 : xs[xs.length - k]? with
    | none => trivial
    | some a => rw [e2] at z; exact ⟨h, z, c⟩
  · rw [if_neg hl]
    trivial
def catT (xs ys : List α) : Tz (List α) := gd (xs.length + ys.length ≤ lim) (xs ++ ys)
theorem catT_ok {α : Type} {xs ys : List α} (h : xs.length + ys.length ≤ 1000000) : catT xs ys = .ok (xs ++ ys) := gd_ok h
theorem l_cat (xs ys : List α) : Gv bs h0 Φ (oAdd false (en xs) (en ys)) (catT xs ys) en fun _ => Φ := Gv.gd fun hc h _ => by
  show (if (xs.map en).length + (ys.map en).length ≤ sizeLine then Res.ok (D.lst (xs.map en ++ ys.map en)) h else .no) = .ok (D.lst ((xs ++ ys).map en)) h
  rw [List.length_map, List.length_map, if_pos (small_line hc), List.map_append] <;> rfl
def catX (x y : Tx) : Tz Tx := gd (x.l.length + y.l.length ≤ 100000) ⟨x.l ++ y.l⟩
theorem catX_ok {x y : Tx} (h : x.l.length + y.l.length ≤ 100000) : catX x y = .ok ⟨x.l ++ y.l⟩ := gd_ok h
theorem x_cat (x y : Tx) : Gv bs h0 Φ (oAdd false (en x) (en y)) (catX x y) en fun _ => Φ := Gv.gd fun hc h _ => cat_tx hc
def repT (xs : List α) (k : Nat) : Tz (List α) := gd (xs.length * k ≤ lim ∧ k ≤ lim) (List.replicate k xs).flatten
theorem l_list (xs : List α) (h : Store) : fList false [en xs] h = .ok (en xs) h := rfl
theorem f_list (xs : Fro α) (h : Store) : fList false [en xs] h = .ok (en xs.l) h := rfl
theorem t_list (xs : Tup α) (h : Store) : fList false [en xs] h = .ok (en xs.l) h := rfl
theorem l_tuple (xs : List α) (h : Store) : fTuple [en xs] h = .ok (en (Tup.mk xs)) h := rfl
theorem intsOf_n (xs : List Nat) : intsOf (xs.map en) = some (xs.map fun (n : Nat) => (n : Int)) := by
  induction xs with
  | nil => rfl
  | cons a l ih =>
    show (intsOf (l.map en)).map _ = _
    rw [ih]
    rfl
theorem boolsOf_b (xs : List Bool) : boolsOf (xs.map en) = some xs := bools_map xs
theorem l_all (xs : List Bool) (h : Store) : fAll [en xs] h = .ok (en (xs.all id)) h := by
  have e : asR h (en xs) = some (xs.map en) := rfl
  unfold fAll fOf1
  simp only [e, boolsOf_b] <;> rfl
theorem l_any (xs : List Bool) (h : Store) : fAny [en xs] h = .ok (en (xs.any id)) h := by
  have e : asR h (en xs) = some (xs.map en) := rfl
  unfold fAny fOf1
  simp only [e, boolsOf_b] <;> rfl
theorem sum_n (xs : List Nat) : (xs.map fun (n : Nat) => (n : Int)).sum = ((xs.sum : Nat) : Int) := by
  induction xs with
  | nil => rfl
  | cons a l ih => rw [List.map_cons, List.sum_cons, List.sum_cons, ih]; rfl
theorem l_sum (xs : List Nat) (h : Store) : fSum [en xs] h = .ok (en xs.sum) h := by
  have e : asR h (en xs) = some (xs.map en) := rfl
  unfold fSum fOf1
  simp only [e, intsOf_n, sum_n] <;> rfl
theorem l_sumS (xs : List Nat) (h : Store) : fSumS (en xs) (.int 0) h = .ok (en xs.sum) h := by
  have e : asR h (en xs) = some (xs.map en) := rfl
  unfold fSumS
  simp only [e, intsOf_n, sum_n] <;> rfl
theorem pu_sumS {pat : Slots} {fe fk : Ev D} {xs : List Nat} (a : Pu bs h0 pat Φ fe (en xs)) (b : Pu bs h0 pat Φ fk (.int 0)) : Pu bs h0 pat Φ (cSumS fe fk) (en xs.sum) := fun st h s c => by
  unfold cSumS
  rw [a st h s c, Res.bind_ok, b st h s c, Res.bind_ok, l_sumS] <;> rfl
theorem ag_sumS {σ : Type} {t : Tz σ} {xs : σ → List Nat} {pat : Slots} {fe fk : Ev D} {Φ' : σ → Hs} (a : Ag bs h0 pat Φ fe t (fun s => en (xs s)) Φ') (b : ∀ st h, fk st h = .ok (.int 0) h) : Ag bs h0 pat Φ (cSumS fe fk) t (fun s => en (xs s).sum) Φ' := fun st s h c => by
  have z := a st s h c
  unfold cSumS
  cases t with
  | ok x =>
    obtain ⟨h', e, c'⟩ := z
    exact ⟨h', by rw [e, Res.bind_ok, b, Res.bind_ok, l_sumS], c'⟩
  | exc x =>
    obtain ⟨h', e, c'⟩ := z
    exact ⟨h', by rw [e]; rfl, c'⟩
  | no => trivial
/-! ### slices -/
def cutT {α : Type} (xs : List α) (lo hi : Option Int) : List α := (xs.drop (HT.sIx xs.length 0 lo)).take (HT.sIx xs.length xs.length hi - HT.sIx xs.length 0 lo)
theorem cutD_map (xs : List α) (lo hi : Option Int) : Gm.cutD (xs.map en) lo hi = (cutT xs lo hi).map en := by
  unfold Gm.cutD cutT
  rw [List.length_map, List.map_take, List.map_drop] <;> rfl
theorem cut_to' {α : Type} (xs : List α) (k : Nat) : cutT xs none (some (k : Int)) = xs.take k := by
  unfold cutT
  rw [HT.sIx_none, HT.sIx_nat, List.drop_zero, Nat.sub_zero]
  by_cases h : k ≤ xs.length
  · rw [Nat.min_eq_left h]
  · rw [Nat.min_eq_right (by omega), List.take_of_length_le (Nat.le_refl _), List.take_of_length_le (by omega)]
theorem cut_from' {α : Type} (xs : List α) (k : Nat) : cutT xs (some (k : Int)) none = xs.drop k := by
  unfold cutT
  rw [HT.sIx_none, HT.sIx_nat]
  by_cases h : k ≤ xs.length
  · rw [Nat.min_eq_left h, List.take_of_length_le (by rw [List.length_drop]; omega)]
  · rw [Nat.min_eq_right (by omega), List.drop_length, List.drop_of_length_le (by omega)]
    simp
theorem cut_mid {α : Type} (xs : List α) (a b : Nat) : cutT xs (some (a : Int)) (some (b : Int)) = (xs.take b).drop a := by
  unfold cutT
  rw [HT.sIx_nat, HT.sIx_nat, List.drop_take]
  by_cases h : a ≤ xs.length
  · rw [Nat.min_eq_left h]
    by_cases h2 : b ≤ xs.length
    · rw [Nat.min_eq_left h2]
    · rw [Nat.min_eq_right (by omega)]
      rw [List.take_of_length_le (by rw [List.length_drop]; omega), List.take_of_length_le (by rw [List.length_drop]; omega)] <;> rfl
  · have e1 : xs.drop (min a xs.length) = [] := List.drop_of_length_le (by omega)
    have e2 : xs.drop a = [] := List.drop_of_length_le (by omega)
    rw [e1, e2]
    simp
theorem cut_all {α : Type} (xs : List α) : cutT xs none none = xs := by
  unfold cutT
  rw [HT.sIx_none, HT.sIx_none, List.drop_zero, Nat.sub_zero, List.take_of_length_le (Nat.le_refl _)] <;> rfl
theorem pu_part {pat : Slots} {f : Ev D} {i : Int} (a : Pu bs h0 pat Φ f (.int i)) : Pu bs h0 pat Φ (cPart f) (some i) := fun st h s c => by
  unfold cPart
  rw [a st h s c, Res.bind_ok] <;> rfl
theorem pu_nopart {pat : Slots} : Pu bs h0 pat Φ cNoPart none := fun _ _ _ _ => rfl
theorem pu_slL {pat : Slots} {fe : Ev D} {fl fh : Ev (Option Int)} {xs ys : List α} {lo hi : Option Int} (a : Pu bs h0 pat Φ fe (en xs)) (b : Pu bs h0 pat Φ fl lo) (c : Pu bs h0 pat Φ fh hi) (e : cutT xs lo hi = ys) : Pu bs h0 pat Φ (cSl false fe fl fh) (en ys) := fun st h s cn => by
  unfold cSl
  rw [a st h s cn, Res.bind_ok, b st h s cn, Res.bind_ok, c st h s cn, Res.bind_ok]
  show Res.ok (D.lst (Gm.cutD (xs.map en) lo hi)) h = _
  rw [cutD_map, e] <;> rfl
theorem pu_slF {pat : Slots} {fe : Ev D} {fl fh : Ev (Option Int)} {xs : Fro α} {ys : List α} {lo hi : Option Int} (a : Pu bs h0 pat Φ fe (en xs)) (b : Pu bs h0 pat Φ fl lo) (c : Pu bs h0 pat Φ fh hi) (e : cutT xs.l lo hi = ys) : Pu bs h0 pat Φ (cSl false fe fl fh) (en ys) := fun st h s cn => by
  unfold cSl
  rw [a st h s cn, Res.bind_ok, b st h s cn, Res.bind_ok, c st h s cn, Res.bind_ok]
  show Res.ok (D.lst (Gm.cutD (xs.l.map en) lo hi)) h = _
  rw [cutD_map, e] <;> rfl
/-- a slice whose parts come one behind the other -/
theorem ag_slL {σ τ υ : Type} {pat : Slots} {fe : Ev D} {fl fh : Ev (Option Int)} {t : Tz σ} {t2 : σ → Tz τ} {t3 : σ → τ → Tz υ} {xs : σ → List α} {lo : σ → τ → Option Int} {hi : σ → τ → υ → Option Int} {ys : σ → τ → υ → List α} {Φ1 : σ → Hs} {Φ2 : σ → τ → Hs} {Φ3 : σ → τ → υ → Hs} {ρ : Type} {fin : σ → τ → υ → Tz ρ} {v : ρ → D} {Φ' : ρ → Hs}
    (a : Ag bs h0 pat Φ fe t (fun s => en (xs s)) Φ1) (b : ∀ s, Ag bs h0 pat (Φ1 s) fl (t2 s) (lo s) (Φ2 s)) (c : ∀ s u, Ag bs h0 pat (Φ2 s u) fh (t3 s u) (hi s u) (Φ3 s u)) (e : ∀ s u w, cutT (xs s) (lo s u) (hi s u w) = ys s u w)
    (f : ∀ s u w, Gv bs h0 (Φ3 s u w) (fun h => .ok (en (ys s u w)) h) (fin s u w) v Φ') : Ag bs h0 pat Φ (cSl false fe fl fh) (t.bind fun s => (t2 s).bind fun u => (t3 s u).bind fun w => fin s u w) v Φ' := fun st sl => by
  refine Gv.bind (K := fun d h1 => (fl st h1).bind fun lo h2 => (fh st h2).bind fun hi h3 => oSl false d lo hi h3) (a st sl) fun s => ?_
  refine Gv.bind (K := fun lo h2 => (fh st h2).bind fun hi h3 => oSl false (en (xs s)) lo hi h3) (b s st sl) fun u => ?_
  refine Gv.bind (K := fun hi h3 => oSl false (en (xs s)) (lo s u) hi h3) (c s u st sl) fun w => ?_
  refine (f s u w).cast fun h _ => ?_
  show Res.ok (D.lst (Gm.cutD ((xs s).map en) _ _)) h = _
  rw [cutD_map, e s u w] <;> rfl
def cutX (x : Tx) (lo hi : Option Int) : Tz Tx := gd (x.l.length ≤ lim) ⟨cutT x.l lo hi⟩
theorem ag_slX {pat : Slots} {fe : Ev D} {fl fh : Ev (Option Int)} {x : Tx} {lo hi : Option Int} (a : Pu bs h0 pat Φ fe (en x)) (b : Pu bs h0 pat Φ fl lo) (c : Pu bs h0 pat Φ fh hi) : Ag bs h0 pat Φ (cSl false fe fl fh) (cutX x lo hi) en fun _ => Φ := fun st s => Gv.gd fun hc h cn => by
  unfold cSl
  rw [a st h s cn, Res.bind_ok, b st h s cn, Res.bind_ok, c st h s cn, Res.bind_ok]
  show (if (tx x.l).length ≤ sizeLine then Res.ok (D.str (L2.cutS (tx x.l) lo hi)) h else Res.no) = Res.ok (D.str (tx (cutT x.l lo hi))) h
  rw [tx_len, if_pos (small_line hc)]
  unfold L2.cutS cutT
  rw [tx_cps, tx_len]
  rfl
theorem cutX_to {x : Tx} {k : Nat} (h : x.l.length ≤ 1000000) : cutX x none (some (k : Int)) = .ok ⟨x.l.take k⟩ := by
  unfold cutX
  rw [gd_ok h, cut_to'] <;> rfl
theorem cutX_from {x : Tx} {k : Nat} (h : x.l.length ≤ 1000000) : cutX x (some (k : Int)) none = .ok ⟨x.l.drop k⟩ := by
  unfold cutX
  rw [gd_ok h, cut_from'] <;> rfl
def ixX (x : Tx) (i : Nat) : Tz Tx := if x.l.length ≤ lim then (ixT x.l i).bind fun k => .ok ⟨[k]⟩ else .no
theorem ixX_ok {x : Tx} {i k : Nat} (h : x.l.length ≤ 1000000) (e : x.l[i]? = some k) : ixX x i = .ok ⟨[k]⟩ := by
  unfold ixX
  rw [if_pos h, ixT_ok e, Tz.bind_ok] <;> rfl
theorem x_ix (x : Tx) (i : Nat) : Gv bs h0 Φ (oIx (en x) (en i)) (ixX x i) en fun _ => Φ := fun h c => by
  unfold ixX
  by_cases hl : x.l.length ≤ lim
  · rw [if_pos hl]
    unfold ixT
    cases e : x.l[i]? with
    | none => trivial
    | some k =>
      refine ⟨h, ?_, c⟩
      show (if (tx x.l).length ≤ sizeLine then match L2.atI (tx x.l).cps.toList (i : Int) with
        | some k => Res.ok (D.str ⟨#[k]⟩) h
        | none => Res.no else Res.no) = _
      rw [tx_len, if_pos (small_line hl), tx_cps, atI_n, e]
      rfl
  · rw [if_neg hl]
    trivial
/-! ### what is walked -/
theorem pu_seq {pat : Slots} {fe : Ev D} {d : D} {l : List D} (a : Pu bs h0 pat Φ fe d) (e : items d = some l) : Pu bs h0 pat Φ (iSeqD fe) l := fun st h s c => by
  unfold iSeqD
  rw [a st h s c, Res.bind_ok, e] <;> rfl
theorem ag_seq {σ : Type} {t : Tz σ} {v : σ → D} {l : σ → List D} {Φ' : σ → Hs} {pat : Slots} {fe : Ev D} (a : Ag bs h0 pat Φ fe t v Φ') (e : ∀ s, items (v s) = some (l s)) : Ag bs h0 pat Φ (iSeqD fe) t l Φ' := fun st s h c => by
  have z := a st s h c
  unfold iSeqD
  cases t with
  | ok x =>
    obtain ⟨h', e1, c'⟩ := z
    exact ⟨h', by rw [e1, Res.bind_ok, e x], c'⟩
  | exc x =>
    obtain ⟨h', e1, c'⟩ := z
    exact ⟨h', by rw [e1]; rfl, c'⟩
  | no => trivial
def ch (x : Tx) : List Tx := x.l.map fun k => ⟨[k]⟩
theorem items_x (x : Tx) : items (en x) = some ((ch x).map en) := by
  show some (Gm.signs (tx x.l)) = _
  rw [signs_tx]
  unfold ch
  rw [List.map_map]
  rfl
def bR1 (ds : List D) (h : Store) : Res (List D) := match ds with
  | [.int j] => if g62 j = true then .ok (upInts 0 1 j.toNat) h else .no
  | _ => .no
theorem ag_range1 {σ : Type} {t : Tz σ} {v : σ → List D} {Φ' : σ → Hs} {pat : Slots} {fs : Ev (List D)} (a : AL bs h0 pat Φ fs bR1 t v Φ') : Ag bs h0 pat Φ (iRange1 fs) t v Φ' := a
def rng (n : Nat) : Tz (List Nat) := gd (n ≤ lim) (List.range n)
theorem rng_ok {n : Nat} (h : n ≤ 1000000) : rng n = .ok (List.range n) := gd_ok h
theorem bR1_ok (n : Nat) : Gv bs h0 Φ (bR1 [en n]) (rng n) (fun l => l.map en) fun _ => Φ := Gv.gd fun hc h _ => by
  show (if g62 (n : Int) = true then Res.ok (upInts 0 1 (n : Int).toNat) h else .no) = _
  rw [if_pos (g62_n hc), Int.toNat_natCast, upInts01] <;> rfl
def bR2 (ds : List D) (h : Store) : Res (List D) := match ds with
  | [.int i, .int j] => if g62 i = true ∧ g62 j = true then .ok (upInts i 1 (j - i).toNat) h else .no
  | _ => .no
theorem ag_range2 {σ : Type} {t : Tz σ} {v : σ → List D} {Φ' : σ → Hs} {pat : Slots} {fs : Ev (List D)} (a : AL bs h0 pat Φ fs bR2 t v Φ') : Ag bs h0 pat Φ (iRange2 fs) t v Φ' := a
def rng2 (i n : Nat) : Tz (List Nat) := gd (i ≤ lim ∧ n ≤ lim) ((List.range (n - i)).map (i + ·))
theorem rng2_ok {i n : Nat} (h1 : i ≤ 1000000) (h : n ≤ 1000000) : rng2 i n = .ok ((List.range (n - i)).map (i + ·)) := gd_ok ⟨h1, h⟩
theorem bR2_ok (i n : Nat) : Gv bs h0 Φ (bR2 [en i, en n]) (rng2 i n) (fun l => l.map en) fun _ => Φ := Gv.gd fun hc h _ => by
  show (if g62 (i : Int) = true ∧ g62 (n : Int) = true then Res.ok (upInts i 1 ((n : Int) - (i : Int)).toNat) h else .no) = _
  rw [if_pos ⟨g62_n hc.1, g62_n hc.2⟩]
  unfold upInts
  rw [List.map_map, show ((n : Int) - (i : Int)).toNat = n - i by omega]
  congr 1
  apply List.map_congr_left
  intro a _
  show D.int ((i : Int) + (a : Int) * 1) = D.int ((i + a : Nat) : Int)
  congr 1
  omega
theorem ag_revRange {pat : Slots} {fe : Ev D} {n : Nat} (a : Pu bs h0 pat Φ fe (en n)) : Ag bs h0 pat Φ (iRevRange fe) ((rng n).bind fun l => .ok l.reverse) (fun l => l.map en) fun _ => Φ := fun st s h c => by
  unfold rng gd
  by_cases hn : n ≤ lim
  · rw [if_pos hn]
    refine ⟨h, ?_, c⟩
    unfold iRevRange
    rw [a st h s c, Res.bind_ok]
    show (if g62 (n : Int) = true then Res.ok (upInts ((((n : Int).toNat : Nat) : Int) - 1) (-1) (n : Int).toNat) h else .no) = _
    rw [if_pos (g62_n hn), Int.toNat_natCast]
    congr 1
    unfold upInts
    apply List.ext_getElem (by simp)
    intro i h1 h2
    simp only [List.getElem_map, List.getElem_range, List.getElem_reverse, List.length_range]
    show D.int ((n : Int) - 1 + (i : Int) * (-1)) = D.int ((n - 1 - i : Nat) : Int)
    congr 1
    have : i < n := by simpa using h1
    omega
  · rw [if_neg hn]
    trivial
def enumT {α : Type} (xs : List α) : List (Nat × α) := xs.mapIdx fun i x => (i, x)
theorem enumD_map (xs : List α) : enumD (xs.map en) = (enumT xs).map en := by
  unfold enumD enumT
  apply List.ext_getElem? 
  intro i
  rw [List.getElem?_mapIdx, List.getElem?_map, List.getElem?_map, List.getElem?_mapIdx]
  cases xs[i]? <;> rfl
theorem pu_enum {pat : Slots} {fs : Ev (List D)} {xs : List α} (a : Pu bs h0 pat Φ fs [en xs]) : Pu bs h0 pat Φ (iEnumD fs) ((enumT xs).map en) := fun st h s c => by
  unfold iEnumD
  rw [a st h s c, Res.bind_ok]
  show Res.ok (enumD (xs.map en)) h = _
  rw [enumD_map] <;> rfl
theorem ag_enum {σ : Type} {t : Tz σ} {xs : σ → List α} {Φ' : σ → Hs} {pat : Slots} {fs : Ev (List D)} (a : AL bs h0 pat Φ fs (fun ds h => match ds with
    | [d] => match asI d with
      | some l => .ok (enumD l) h
      | none => .no
    | _ => .no) t (fun s => (enumT (xs s)).map en) Φ') : Ag bs h0 pat Φ (iEnumD fs) t (fun s => (enumT (xs s)).map en) Φ' := a
theorem bEnum_ok (xs : List α) : Gv bs h0 Φ (fun h => (fun ds h => match ds with
    | [d] => match asI d with
      | some l => Res.ok (enumD l) h
      | none => .no
    | _ => .no : List D → Store → Res (List D)) [en xs] h) (.ok xs) (fun xs => (enumT xs).map en) fun _ => Φ := Gv.pure fun h _ => by
  show Res.ok (enumD (xs.map en)) h = _
  rw [enumD_map] <;> rfl
theorem zipD_map (xs : List α) (ys : List β) : zipD (xs.map en) (ys.map en) = (xs.zip ys).map en := by
  induction xs generalizing ys with
  | nil => rfl
  | cons a l ih =>
    cases ys with
    | nil => rfl
    | cons b k =>
      show D.tup [en a, en b] :: zipD (l.map en) (k.map en) = _
      rw [ih]
      rfl
/-! ### comprehensions -/
def Tz.sure {α : Type} : Tz α → Tz α
  | .ok a => .ok a
  | _ => .no
@[simp] theorem Tz.sure_ok {α : Type} (a : α) : (Tz.ok a).sure = .ok a := rfl
def mapT' {α β : Type} (q : α → Tz β) : List α → Tz (List β)
  | [] => .ok []
  | x :: xs => (q x).sure.bind fun y => (mapT' q xs).bind fun ys => .ok (y :: ys)
def filT' {α : Type} (p : α → Tz Bool) : List α → Tz (List α)
  | [] => .ok []
  | x :: xs => (p x).sure.bind fun b => (filT' p xs).bind fun ys => .ok (if b = true then x :: ys else ys)
def mapT {α β : Type} (q : α → Tz β) (xs : List α) : Tz (List β) := if xs.length ≤ lim then mapT' q xs else .no
def filT {α : Type} (p : α → Tz Bool) (xs : List α) : Tz (List α) := if xs.length ≤ lim then filT' p xs else .no
def mapP {α β : Type} (q : α → β) (xs : List α) : Tz (List β) := gd (xs.length ≤ lim) (xs.map q)
def filP {α : Type} (p : α → Bool) (xs : List α) : Tz (List α) := gd (xs.length ≤ lim) (xs.filter p)
def mapS' {α β γ : Type} (q : γ → α → Tz (γ × β)) : List α → γ → Tz (γ × List β)
  | [], g => .ok (g, [])
  | x :: xs, g => (q g x).sure.bind fun r => (mapS' q xs r.1).bind fun rs => .ok (rs.1, r.2 :: rs.2)
def mapS {α β γ : Type} (q : γ → α → Tz (γ × β)) (xs : List α) (g : γ) : Tz (γ × List β) := if xs.length ≤ lim then mapS' q xs g else .no
theorem mapP_ok {α β : Type} {q : α → β} {xs : List α} (h : xs.length ≤ 1000000) : mapP q xs = .ok (xs.map q) := gd_ok h
theorem filP_ok {α : Type} {q : α → Bool} {xs : List α} (h : xs.length ≤ 1000000) : filP q xs = .ok (xs.filter q) := gd_ok h
theorem mapT'_ok {α β : Type} {q : α → Tz β} {f : α → β} : ∀ {xs : List α}, (∀ x ∈ xs, q x = .ok (f x)) → mapT' q xs = .ok (xs.map f)
  | [], _ => rfl
  | x :: xs, h => by
    unfold mapT'
    rw [h x (by simp), mapT'_ok fun y hy => h y (by simp [hy])]
    rfl
theorem mapT_ok {α β : Type} {q : α → Tz β} {f : α → β} {xs : List α} (hl : xs.length ≤ 1000000) (h : ∀ x ∈ xs, q x = .ok (f x)) : mapT q xs = .ok (xs.map f) := by
  unfold mapT
  rw [if_pos hl, mapT'_ok h] <;> rfl
theorem filT'_ok {α : Type} {q : α → Tz Bool} {f : α → Bool} : ∀ {xs : List α}, (∀ x ∈ xs, q x = .ok (f x)) → filT' q xs = .ok (xs.filter f)
  | [], _ => rfl
  | x :: xs, h => by
    unfold filT'
    rw [h x (by simp), filT'_ok fun y hy => h y (by simp [hy])]
    show Tz.ok (if f x = true then x :: xs.filter f else xs.filter f) = _
    rw [List.filter_cons] <;> rfl
theorem filT_ok {α : Type} {q : α → Tz Bool} {f : α → Bool} {xs : List α} (hl : xs.length ≤ 1000000) (h : ∀ x ∈ xs, q x = .ok (f x)) : filT q xs = .ok (xs.filter f) := by
  unfold filT
  rw [if_pos hl, filT'_ok h] <;> rfl
/-- the place of what a comprehension is handed -/
structure FgM (fg : D → Slots → Option Slots) : Prop where
  go : ∀ {d : D} {p p1 st : Slots}, fg d p = some p1 → Sl p st → ∃ st1, fg d st = some st1 ∧ Sl p1 st1
structure FgsM (fg : List D → Slots → Option Slots) : Prop where
  go : ∀ {d : List D} {p p1 st : Slots}, fg d p = some p1 → Sl p st → ∃ st1, fg d st = some st1 ∧ Sl p1 st1
theorem fm_name {i : Nat} : FgM (fName i) := ⟨fun {d p p1 st} e s => by
  cases e
  exact ⟨_, rfl, s.set _ _⟩⟩
theorem fm_ns : ∀ {is : List Nat}, FgsM (fNs is)
  | [] => ⟨fun {d p p1 st} e s => by
    cases d with
    | nil => cases e; exact ⟨_, rfl, s⟩
    | cons _ _ => cases e⟩
  | i :: is => ⟨fun {d p p1 st} e s => by
    cases d with
    | nil => cases e
    | cons x ds => exact (fm_ns (is := is)).go (show fNs is ds (p.set i (some x)) = some p1 from e) (s.set i _)⟩
theorem fm_tup {is : List Nat} : FgM (fTup is) := ⟨fun {d p p1 st} e s => by
  cases d with
  | tup ds => exact (fm_ns (is := is)).go (show fNs is ds p = some p1 from e) s
  | _ => cases e⟩
theorem fm_nil : FgsM fgNil := ⟨fun {d p p1 st} e s => by
  cases d with
  | nil => cases e; exact ⟨_, rfl, s⟩
  | cons _ _ => cases e⟩
theorem fm_cons {f : D → Slots → Option Slots} {k : List D → Slots → Option Slots} (a : FgM f) (b : FgsM k) : FgsM (fgCons f k) := ⟨fun {d p p1 st} e s => by
  cases d with
  | nil => cases e
  | cons x ds =>
    have e : ((f x p).bind fun st1 => k ds st1) = some p1 := e
    cases e1 : f x p with
    | none => rw [e1] at e; cases e
    | some q =>
      rw [e1] at e
      obtain ⟨st1, e2, s1⟩ := a.go e1 s
      obtain ⟨st2, e3, s2⟩ := b.go e s1
      refine ⟨st2, ?_, s2⟩
      show ((f x st).bind fun st1 => k ds st1) = some st2
      rw [e2]
      exact e3⟩
theorem fm_tupN {n : Nat} {k : List D → Slots → Option Slots} (b : FgsM k) : FgM (fgTup n k) := ⟨fun {d p p1 st} e s => by
  cases d with
  | tup ds =>
    have e : (if ds.length = n then k ds p else none) = some p1 := e
    by_cases hl : ds.length = n
    · rw [if_pos hl] at e
      obtain ⟨st1, e2, s1⟩ := b.go e s
      refine ⟨st1, ?_, s1⟩
      show (if ds.length = n then k ds st else none) = _
      rw [if_pos hl]
      exact e2
    · rw [if_neg hl] at e
      cases e
  | _ => cases e⟩
variable {δ ε γ : Type} {e : δ → D} {fg : D → Slots → Option Slots} {ft : Ev Bool} {fe : Ev D} {pat0 : Slots} {P : δ → Slots} {v : ε → D}
theorem lc_T {p : δ → Tz Bool} {q : δ → Tz ε} (m : FgM fg) (tg : ∀ x, fg (e x) pat0 = some (P x)) (ht : ∀ x, Ag bs h0 (P x) Φ ft (p x) (fun b => b) fun _ => Φ) (he : ∀ x, Ag bs h0 (P x) Φ fe (q x) v fun _ => Φ) (st0 : Slots) (sl : Sl pat0 st0) :
    ∀ (xs : List δ) (h : Store), Cn bs h0 Φ h → ∀ (ys : List δ) (zs : List ε), filT' p xs = .ok ys → mapT' q ys = .ok zs → ∃ h', lcL fg ft fe st0 (xs.map e) h = .ok (zs.map v) h' ∧ Cn bs h0 Φ h'
  | [], h, c, ys, zs, e1, e2 => by
    cases e1
    cases e2
    exact ⟨h, rfl, c⟩
  | x :: xs, h, c, ys, zs, e1, e2 => by
    obtain ⟨st1, g1, s1⟩ := m.go (tg x) sl
    unfold filT' at e1
    have z := ht x st1 s1 h c
    cases ep : p x with
    | ok b =>
      rw [ep] at e1 z
      obtain ⟨h1, e3, c1⟩ := z
      rw [Tz.sure_ok, Tz.bind_ok] at e1
      cases ef : filT' p xs with
      | ok ws =>
        rw [ef, Tz.bind_ok] at e1
        cases b with
        | false =>
          cases e1
          obtain ⟨h', e4, c'⟩ := lc_T m tg ht he st0 sl xs h1 c1 _ _ ef e2
          refine ⟨h', ?_, c'⟩
          rw [List.map_cons]
          unfold lcL
          rw [g1]
          dsimp only
          rw [e3]
          exact e4
        | true =>
          cases e1
          rw [if_pos rfl] at e2
          unfold mapT' at e2
          have y := he x st1 s1 h1 c1
          cases eq : q x with
          | ok w =>
            rw [eq] at e2 y
            obtain ⟨h2, e5, c2⟩ := y
            rw [Tz.sure_ok, Tz.bind_ok] at e2
            cases em : mapT' q ws with
            | ok us =>
              rw [em, Tz.bind_ok] at e2
              cases e2
              obtain ⟨h', e4, c'⟩ := lc_T m tg ht he st0 sl xs h2 c2 _ _ ef em
              refine ⟨h', ?_, c'⟩
              rw [List.map_cons]
              unfold lcL
              rw [g1]
              dsimp only
              rw [e3, Res.sure_ok, Res.bind_ok]
              dsimp only
              rw [if_pos rfl, e5, Res.sure_ok, Res.bind_ok, e4]
              rfl
            | exc _ => rw [em] at e2; cases e2
            | no => rw [em] at e2; cases e2
          | exc _ => rw [eq] at e2; cases e2
          | no => rw [eq] at e2; cases e2
      | exc _ => rw [ef] at e1; cases e1
      | no => rw [ef] at e1; cases e1
    | exc _ => rw [ep] at e1; cases e1
    | no => rw [ep] at e1; cases e1
theorem filT'_no {p : δ → Tz Bool} : ∀ {xs : List δ} {x : Exn}, filT' p xs ≠ .exc x
  | [], x, z => by cases z
  | a :: xs, x, z => by
    unfold filT' at z
    cases ep : p a with
    | ok b =>
      rw [ep, Tz.sure_ok, Tz.bind_ok] at z
      cases ef : filT' p xs with
      | ok ws => rw [ef] at z; cases z
      | exc y => exact filT'_no ef
      | no => rw [ef] at z; cases z
    | exc _ => rw [ep] at z; cases z
    | no => rw [ep] at z; cases z
theorem mapT'_no {q : δ → Tz ε} : ∀ {xs : List δ} {x : Exn}, mapT' q xs ≠ .exc x
  | [], x, z => by cases z
  | a :: xs, x, z => by
    unfold mapT' at z
    cases ep : q a with
    | ok b =>
      rw [ep, Tz.sure_ok, Tz.bind_ok] at z
      cases ef : mapT' q xs with
      | ok ws => rw [ef] at z; cases z
      | exc y => exact mapT'_no ef
      | no => rw [ef] at z; cases z
    | exc _ => rw [ep] at z; cases z
    | no => rw [ep] at z; cases z
theorem filT'_len {p : δ → Tz Bool} : ∀ {xs ys : List δ}, filT' p xs = .ok ys → ys.length ≤ xs.length
  | [], ys, z => by cases z; exact Nat.le_refl _
  | a :: xs, ys, z => by
    unfold filT' at z
    cases ep : p a with
    | ok b =>
      rw [ep, Tz.sure_ok, Tz.bind_ok] at z
      cases ef : filT' p xs with
      | ok ws =>
        rw [ef, Tz.bind_ok] at z
        have ih := filT'_len ef
        cases b with
        | true => cases z; simp; exact ih
        | false => cases z; simp; omega
      | exc y => rw [ef] at z; cases z
      | no => rw [ef] at z; cases z
    | exc _ => rw [ep] at z; cases z
    | no => rw [ep] at z; cases z
/-- [q for x in xs if p] -/
theorem ag_lcTT {τ : Type} {fi : Ev (List D)} {own : List Nat} {pat : Slots} {ti : Tz τ} {xs : τ → List δ} {p : δ → Tz Bool} {q : δ → Tz ε} (hi : Ag bs h0 pat Φ fi ti (fun s => (xs s).map e) fun _ => Φ) (m : FgM fg) (tg : ∀ x, fg (e x) (wipeD pat own) = some (P x))
    (ht : ∀ x, Ag bs h0 (P x) Φ ft (p x) (fun b => b) fun _ => Φ) (he : ∀ x, Ag bs h0 (P x) Φ fe (q x) v fun _ => Φ) : Ag bs h0 pat Φ (cLc false fi fg ft fe own) (ti.bind fun s => (filT p (xs s)).bind (mapT q)) (fun ys => .lst (ys.map v)) fun _ => Φ := fun st sl => by
  refine Gv.bind (K := fun l h1 => if l.length ≤ sizeLine then (lcL fg ft fe (wipeD st own) l h1).bind fun ys h2 => alloc false ys h2 else .no) (hi st sl) fun s => fun h c => ?_
  unfold filT mapT
  by_cases hl : (xs s).length ≤ lim
  · rw [if_pos hl]
    cases ef : filT' p (xs s) with
    | ok ys =>
      have hy : ys.length ≤ lim := Nat.le_trans (filT'_len ef) hl
      rw [Tz.bind_ok, if_pos hy]
      cases em : mapT' q ys with
      | ok zs =>
        obtain ⟨h', e4, c'⟩ := lc_T m tg ht he (wipeD st own) (sl.wipe own) (xs s) h c _ _ ef em
        refine ⟨h', ?_, c'⟩
        dsimp only
        rw [if_pos (by rw [List.length_map]; exact small_line hl), e4]
        rfl
      | exc _ => exact absurd em mapT'_no
      | no => trivial
    | exc _ => exact absurd ef filT'_no
    | no => trivial
  · rw [if_neg hl]
    trivial
theorem filT'_P {p : δ → Bool} : ∀ {xs : List δ}, filT' (fun x => .ok (p x)) xs = .ok (xs.filter p) := fun {xs} => filT'_ok fun _ _ => rfl
theorem filT_P {p : δ → Bool} (xs : List δ) : filT (fun x => .ok (p x)) xs = filP p xs := by
  unfold filT filP gd
  rw [filT'_P] <;> rfl
theorem mapT_P {q : δ → ε} (xs : List δ) : mapT (fun x => .ok (q x)) xs = mapP q xs := by
  unfold mapT mapP gd
  rw [mapT'_ok fun _ _ => rfl] <;> rfl
theorem filT_all (xs : List δ) (k : List δ → Tz γ) (hk : ∀ ys : List δ, ¬ ys.length ≤ lim → k ys = .no) : (filT (fun _ => .ok true) xs).bind k = k xs := by
  rw [filT_P]
  unfold filP gd
  by_cases h : xs.length ≤ lim
  · rw [if_pos h, Tz.bind_ok, List.filter_eq_self.mpr fun _ _ => rfl]
  · rw [if_neg h, hk xs h]
    rfl
theorem pu_yes {pat : Slots} : Ag bs h0 pat Φ cYes (.ok true) (fun b => b) fun _ => Φ := Pu.ag (v := fun b => b) fun _ _ _ _ => rfl
section
variable {τ : Type} {fi : Ev (List D)} {own : List Nat} {pat : Slots} {ti : Tz τ} {xs : τ → List δ} {ys : List δ}
/-- all items, each by an answer -/
theorem ag_lcE {q : δ → Tz ε} (hi : Ag bs h0 pat Φ fi ti (fun s => (xs s).map e) fun _ => Φ) (m : FgM fg) (tg : ∀ x, fg (e x) (wipeD pat own) = some (P x)) (he : ∀ x, Ag bs h0 (P x) Φ fe (q x) v fun _ => Φ) : Ag bs h0 pat Φ (cLc false fi fg cYes fe own) (ti.bind fun s => mapT q (xs s)) (fun ys => .lst (ys.map v)) fun _ => Φ := by
  have z := ag_lcTT (ft := cYes) (p := fun _ => .ok true) hi m tg (fun _ => pu_yes) he
  have e2 : (ti.bind fun s => (filT (fun _ => .ok true) (xs s)).bind (mapT q)) = ti.bind fun s => mapT q (xs s) := by
    congr 1
    funext s
    rw [filT_all (xs s) (mapT q) fun ys hy => by unfold mapT; rw [if_neg hy]] <;> rfl
  rw [e2] at z
  exact z
theorem ag_lcEP {q : δ → Tz ε} (hi : Pu bs h0 pat Φ fi (ys.map e)) (m : FgM fg) (tg : ∀ x, fg (e x) (wipeD pat own) = some (P x)) (he : ∀ x, Ag bs h0 (P x) Φ fe (q x) v fun _ => Φ) : Ag bs h0 pat Φ (cLc false fi fg cYes fe own) (mapT q ys) (fun ys => .lst (ys.map v)) fun _ => Φ :=
  ag_lcE (ti := .ok ()) (xs := fun _ => ys) (Pu.ag (v := fun _ => ys.map e) hi) m tg he
/-- all items, each by a value -/
theorem ag_lcP {q : δ → ε} (hi : Ag bs h0 pat Φ fi ti (fun s => (xs s).map e) fun _ => Φ) (m : FgM fg) (tg : ∀ x, fg (e x) (wipeD pat own) = some (P x)) (he : ∀ x, Pu bs h0 (P x) Φ fe (v (q x))) : Ag bs h0 pat Φ (cLc false fi fg cYes fe own) (ti.bind fun s => mapP q (xs s)) (fun ys => .lst (ys.map v)) fun _ => Φ := by
  have z := ag_lcE (q := fun x => .ok (q x)) hi m tg fun x => Pu.ag (v := v) (he x)
  have e2 : (ti.bind fun s => mapT (fun x => .ok (q x)) (xs s)) = ti.bind fun s => mapP q (xs s) := by
    congr 1
    funext s
    exact mapT_P _
  rw [e2] at z
  exact z
theorem ag_lcPP {q : δ → ε} (hi : Pu bs h0 pat Φ fi (ys.map e)) (m : FgM fg) (tg : ∀ x, fg (e x) (wipeD pat own) = some (P x)) (he : ∀ x, Pu bs h0 (P x) Φ fe (v (q x))) : Ag bs h0 pat Φ (cLc false fi fg cYes fe own) (mapP q ys) (fun ys => .lst (ys.map v)) fun _ => Φ :=
  ag_lcP (ti := .ok ()) (xs := fun _ => ys) (Pu.ag (v := fun _ => ys.map e) hi) m tg he
/-- with a plain test -/
theorem ag_lcFE {p : δ → Bool} {q : δ → Tz ε} (hi : Ag bs h0 pat Φ fi ti (fun s => (xs s).map e) fun _ => Φ) (m : FgM fg) (tg : ∀ x, fg (e x) (wipeD pat own) = some (P x)) (ht : ∀ x, Pu bs h0 (P x) Φ ft (p x)) (he : ∀ x, Ag bs h0 (P x) Φ fe (q x) v fun _ => Φ) : Ag bs h0 pat Φ (cLc false fi fg ft fe own) (ti.bind fun s => (filP p (xs s)).bind (mapT q)) (fun ys => .lst (ys.map v)) fun _ => Φ := by
  have z := ag_lcTT (p := fun x => .ok (p x)) hi m tg (fun x => Pu.ag (v := fun b => b) (ht x)) he
  simp only [filT_P] at z
  exact z
theorem ag_lcFP {p : δ → Bool} {q : δ → ε} (hi : Ag bs h0 pat Φ fi ti (fun s => (xs s).map e) fun _ => Φ) (m : FgM fg) (tg : ∀ x, fg (e x) (wipeD pat own) = some (P x)) (ht : ∀ x, Pu bs h0 (P x) Φ ft (p x)) (he : ∀ x, Pu bs h0 (P x) Φ fe (v (q x))) : Ag bs h0 pat Φ (cLc false fi fg ft fe own) (ti.bind fun s => (filP p (xs s)).bind (mapP q)) (fun ys => .lst (ys.map v)) fun _ => Φ := by
  have z := ag_lcFE (q := fun x => .ok (q x)) hi m tg ht fun x => Pu.ag (v := v) (he x)
  have e2 : mapT (fun x => .ok (q x)) = mapP q := funext mapT_P
  rw [e2] at z
  exact z
end
/-- items that change the cells -/
theorem lc_S {S : γ → Hs} {q : γ → δ → Tz (γ × ε)} (m : FgM fg) (tg : ∀ x, fg (e x) pat0 = some (P x)) (he : ∀ g x, Ag bs h0 (P x) (S g) fe (q g x) (fun r => v r.2) fun r => S r.1) (st0 : Slots) (sl : Sl pat0 st0) :
    ∀ (xs : List δ) (g : γ), Gv bs h0 (S g) (lcL fg cYes fe st0 (xs.map e)) (mapS' q xs g) (fun r => r.2.map v) fun r => S r.1
  | [], g => fun h c => ⟨h, rfl, c⟩
  | x :: xs, g => fun h c => by
    obtain ⟨st1, g1, s1⟩ := m.go (tg x) sl
    have z := he g x st1 s1 h c
    unfold mapS'
    rw [List.map_cons]
    unfold lcL
    rw [g1]
    dsimp only
    cases eq : q g x with
    | ok r =>
      rw [eq] at z
      obtain ⟨h1, e1, c1⟩ := z
      have ih := lc_S m tg he st0 sl xs r.1 h1 c1
      rw [Tz.sure_ok, Tz.bind_ok]
      cases em : mapS' q xs r.1 with
      | ok rs =>
        rw [em] at ih
        obtain ⟨h2, e2, c2⟩ := ih
        refine ⟨h2, ?_, c2⟩
        rw [ev_yes, Res.sure_ok, Res.bind_ok, if_pos rfl, e1, Res.sure_ok, Res.bind_ok, e2]
        rfl
      | exc y =>
        rw [em] at ih
        obtain ⟨h2, e2, c2⟩ := ih
        refine ⟨h2, ?_, c2⟩
        rw [ev_yes, Res.sure_ok, Res.bind_ok, if_pos rfl, e1, Res.sure_ok, Res.bind_ok, e2]
        rfl
      | no => trivial
    | exc y => trivial
    | no => trivial
theorem ag_lcS {τ : Type} {fi : Ev (List D)} {own : List Nat} {pat : Slots} {ti : Tz τ} {xs : τ → List δ} {g0 : τ → γ} {S : γ → Hs} {q : γ → δ → Tz (γ × ε)} (hi : Ag bs h0 pat Φ fi ti (fun s => (xs s).map e) fun s => S (g0 s)) (m : FgM fg) (tg : ∀ x, fg (e x) (wipeD pat own) = some (P x)) (he : ∀ g x, Ag bs h0 (P x) (S g) fe (q g x) (fun r => v r.2) fun r => S r.1) :
    Ag bs h0 pat Φ (cLc false fi fg cYes fe own) (ti.bind fun s => mapS q (xs s) (g0 s)) (fun r => .lst (r.2.map v)) fun r => S r.1 := fun st sl => by
  refine Gv.bind (K := fun l h1 => if l.length ≤ sizeLine then (lcL fg cYes fe (wipeD st own) l h1).bind fun ys h2 => alloc false ys h2 else .no) (hi st sl) fun s => ?_
  unfold mapS
  by_cases hl : (xs s).length ≤ lim
  · rw [if_pos hl]
    have z := lc_S m tg he (wipeD st own) (sl.wipe own) (xs s) (g0 s)
    intro h c
    have y := z h c
    dsimp only
    rw [if_pos (by rw [List.length_map]; exact small_line hl)]
    cases em : mapS' q (xs s) (g0 s) with
    | ok r =>
      rw [em] at y
      obtain ⟨h', e1, c'⟩ := y
      exact ⟨h', by rw [e1]; rfl, c'⟩
    | exc x =>
      rw [em] at y
      obtain ⟨h', e1, c'⟩ := y
      exact ⟨h', by rw [e1]; rfl, c'⟩
    | no => trivial
  · rw [if_neg hl]
    exact fun _ _ => trivial
/-! ### lists' cells -/
def appT {α : Type} (l : List α) (x : α) : Tz (List α) := gd (l.length < lim) (l ++ [x])
theorem appT_ok {α : Type} {l : List α} {x : α} (h : l.length < 1000000) : appT l x = .ok (l ++ [x]) := gd_ok h
def putT {α : Type} (l : List α) (i : Nat) (x : α) : Tz (List α) := gd (i < l.length) (l.set i x)
theorem putT_ok {α : Type} {l : List α} {i : Nat} {x : α} (h : i < l.length) : putT l i x = .ok (l.set i x) := gd_ok h
section
variable {k n : Nat} {l : List α}
theorem c_cell (hk : Φ[k]? = some (n, cl l)) {h : Store} (c : Cn bs h0 Φ h) : h[n]? = some (some (.lst (l.map en))) := c.cell _ (List.mem_of_getElem? hk)
theorem c_asR (hk : Φ[k]? = some (n, cl l)) {h : Store} (c : Cn bs h0 Φ h) : asR h (.ref n) = some (l.map en) := by
  show (match h[n]? with
    | some (some (.lst l)) => some l
    | _ => none) = _
  rw [c_cell hk c] <;> rfl
theorem c_isL (hk : Φ[k]? = some (n, cl l)) (h : Store) (c : Cn bs h0 Φ h) : isTy "list" h (.ref n) = true := by
  show (match h[n]? with
    | some (some (.lst _)) => "list" == "list"
    | some (some (.dct _)) => "list" == "dict"
    | _ => false) = true
  rw [c_cell hk c]
  rfl
theorem c_len (hk : Φ[k]? = some (n, cl l)) (h : Store) (c : Cn bs h0 Φ h) : fLen [.ref n] h = .ok (en l.length) h := by
  unfold fLen
  simp only [c_asR hk c]
  rw [List.length_map] <;> rfl
theorem c_ix (hk : Φ[k]? = some (n, cl l)) (i : Nat) : Gv bs h0 Φ (oIx (.ref n) (en i)) (ixT l i) en fun _ => Φ := gv_ix fun h c => by
  show (match asR h (.ref n) with
    | some l => match L2.atI l (i : Int) with
      | some d => Res.ok d h
      | none => .no
    | none => .no) = _
  rw [c_asR hk c]
theorem c_cellL (hk : Φ[k]? = some (n, cl l)) {h : Store} (c : Cn bs h0 Φ h) : cellL h (.ref n) = some (n, l.map en) := by
  show (match h[n]? with
    | some (some (.lst l)) => some (n, l)
    | _ => none) = _
  rw [c_cell hk c] <;> rfl
theorem c_app (hk : Φ[k]? = some (n, cl l)) (x : α) : Gv bs h0 Φ (mAppend (.ref n) [en x]) (appT l x) (fun _ => .non) fun l' => Φ.set k (n, cl l') := fun h c => by
  unfold appT gd
  by_cases hl : l.length < lim
  · rw [if_pos hl]
    refine ⟨h.set n (some (cl (l ++ [x]))), ?_, c.put hk _⟩
    unfold mAppend
    rw [c_cellL hk c]
    dsimp only
    rw [if_pos (by rw [List.length_map]; exact Nat.lt_of_lt_of_le hl (small_line (Nat.le_refl _)))]
    unfold cl
    rw [List.map_append] <;> rfl
  · rw [if_neg hl]
    trivial
variable {σ' : Type} {pat : Slots} {fe fo fi : Ev D}
theorem as_putE {i : Nat} {x : σ' → α} {t : Tz σ'} (hk : Φ[k]? = some (n, cl l)) (he : Ag bs h0 pat Φ fe t (fun s => en (x s)) fun _ => Φ) (ho : Pu bs h0 pat Φ fo (.ref n)) (hi : Pu bs h0 pat Φ fi (en i)) :
    AgS bs h0 pat Φ (sPut fe fo fi) (t.bind fun s => putT l i (x s)) fun l' => .next pat (Φ.set k (n, cl l')) := by
  refine as_out (K := fun st d h1 => (fo st h1).out st fun x h2 => (fi st h2).out st fun y h3 => match Gm.putAt x y d h3 with
    | some h' => .next st h'
    | none => .no) he (fun _ _ => rfl) fun s => fun st h sl c => ?_
  unfold putT gd
  by_cases hl : i < l.length
  · rw [if_pos hl]
    refine ⟨st, h.set n (some (cl (l.set i (x s)))), ?_, sl, c.put hk _⟩
    dsimp only
    rw [ho st h sl c, Res.out_ok, hi st h sl c, Res.out_ok]
    have z : Gm.putAt (.ref n) (en i) (en (x s)) h = some (h.set n (some (cl (l.set i (x s))))) := by
      unfold Gm.putAt
      rw [c_cellL hk c]
      show (match L2.ixN (l.map en).length (i : Int) with
        | some j => some (h.set n (some (.lst ((l.map en).set j (en (x s))))))
        | none => none) = _
      have q : L2.ixN (l.map en).length (i : Int) = some i := by
        unfold L2.ixN
        rw [if_pos (by omega), if_pos (by rw [List.length_map]; omega), Int.toNat_natCast] <;> rfl
      rw [q]
      dsimp only [cl]
      rw [List.map_set] <;> rfl
    rw [z] <;> rfl
  · rw [if_neg hl]
    trivial
theorem as_putP {i : Nat} {x : α} (hk : Φ[k]? = some (n, cl l)) (he : Pu bs h0 pat Φ fe (en x)) (ho : Pu bs h0 pat Φ fo (.ref n)) (hi : Pu bs h0 pat Φ fi (en i)) :
    AgS bs h0 pat Φ (sPut fe fo fi) (putT l i x) fun l' => .next pat (Φ.set k (n, cl l')) :=
  as_putE (t := .ok ()) (x := fun _ => x) hk (Pu.ag (v := fun _ => en x) he) ho hi
/-- a place of a list of unlike things -/
theorem as_putH {ds : List D} {j : Int} {v : σ' → D} {t : Tz σ'} {ce : σ' → Cell} (he : Ag bs h0 pat Φ fe t v fun _ => Φ) (hk : Φ[k]? = some (n, .lst ds)) (ho : Pu bs h0 pat Φ fo (.ref n)) (hi : Pu bs h0 pat Φ fi (.int j)) (hj : ∃ m, L2.ixN ds.length j = some m ∧ ∀ s, Cell.lst (ds.set m (v s)) = ce s) :
    AgS bs h0 pat Φ (sPut fe fo fi) t fun s => .next pat (Φ.set k (n, ce s)) := by
  have z : AgS bs h0 pat Φ (sPut fe fo fi) (t.bind fun s => .ok s) fun s => .next pat (Φ.set k (n, ce s)) := by
    refine as_out (K := fun st d h1 => (fo st h1).out st fun x h2 => (fi st h2).out st fun y h3 => match Gm.putAt x y d h3 with
      | some h' => .next st h'
      | none => .no) he (fun _ _ => rfl) fun s => fun st h sl c => ?_
    obtain ⟨m, e1, e2⟩ := hj
    refine ⟨st, h.set n (some (ce s)), ?_, sl, c.put hk _⟩
    dsimp only
    rw [ho st h sl c, Res.out_ok, hi st h sl c, Res.out_ok]
    have z : Gm.putAt (.ref n) (.int j) (v s) h = some (h.set n (some (ce s))) := by
      have q : cellL h (.ref n) = some (n, ds) := by
        show (match h[n]? with
          | some (some (.lst l)) => some (n, l)
          | _ => none) = _
        rw [c.cell _ (List.mem_of_getElem? hk)] <;> rfl
      unfold Gm.putAt
      rw [q]
      dsimp only
      rw [e1]
      dsimp only
      rw [e2 s] <;> rfl
    rw [z] <;> rfl
  intro st h sl c
  have y := z st h sl c
  cases t <;> exact y
theorem c_ixH {ds : List D} {j : Int} {d : D} (hk : Φ[k]? = some (n, .lst ds)) (e : L2.atI ds j = some d) (h : Store) (c : Cn bs h0 Φ h) : oIx (.ref n) (.int j) h = .ok d h := by
  have q : asR h (.ref n) = some ds := by
    show (match h[n]? with
      | some (some (.lst l)) => some l
      | _ => none) = _
    rw [c.cell _ (List.mem_of_getElem? hk)] <;> rfl
  show (match asR h (.ref n) with
    | some l => match L2.atI l j with
      | some d => Res.ok d h
      | none => .no
    | none => .no) = _
  rw [q]
  dsimp only
  rw [e] <;> rfl
/-- o[j] op= e of unlike things -/
theorem as_augH {ds : List D} {j : Int} {fop : D → D → Store → Res D} {x y z : D} {ce : Cell} (hk : Φ[k]? = some (n, .lst ds)) (ho : Pu bs h0 pat Φ fo (.ref n)) (hi : Pu bs h0 pat Φ fi (.int j)) (he : Pu bs h0 pat Φ fe y) (hx : L2.atI ds j = some x) (hop : ∀ h, fop x y h = .ok z h) (hj : ∃ m, L2.ixN ds.length j = some m ∧ Cell.lst (ds.set m z) = ce) :
    AgS bs h0 pat Φ (sAugAt fop fo fi fe) (.ok ()) fun _ => .next pat (Φ.set k (n, ce)) := fun st h sl c => by
  obtain ⟨m, e1, e2⟩ := hj
  refine ⟨st, h.set n (some ce), ?_, sl, c.put hk _⟩
  have q : cellL h (.ref n) = some (n, ds) := by
    show (match h[n]? with
      | some (some (.lst l)) => some (n, l)
      | _ => none) = _
    rw [c.cell _ (List.mem_of_getElem? hk)] <;> rfl
  have g1 : Gm.getAt (.ref n) (.int j) h = some x := by
    unfold Gm.getAt
    rw [q]
    dsimp only
    rw [hx] <;> rfl
  have p1 : Gm.putAt (.ref n) (.int j) z h = some (h.set n (some ce)) := by
    unfold Gm.putAt
    rw [q]
    dsimp only
    rw [e1]
    dsimp only
    rw [e2] <;> rfl
  rw [ev_augAt, ho st h sl c, Res.out_ok, hi st h sl c, Res.out_ok, g1]
  dsimp only
  rw [he st h sl c, Res.out_ok, hop h, Res.out_ok, p1] <;> rfl
end
end
end Gt

/-! Gt5: what the printed proofs lean on. -/
namespace Gt
open PySem PySem.Spec PyProof.Rows Gm
def Tz.lt {α β : Type} (x : α) (k : α → Tz β) : Tz β := k x
@[simp] theorem Tz.lt_eq {α β : Type} (x : α) (k : α → Tz β) : Tz.lt x k = k x := rfl
section
variable {bs : List Nat} {h0 : Store} {pat : Slots} {Φ : Hs} {σ τ κ α β : Type} [Enc α] [Enc β]
theorem gp {G : Store → Res D} {x : α} (e : ∀ h, Cn bs h0 Φ h → G h = .ok (en x) h) : Gv bs h0 Φ G (.ok x) en fun _ => Φ := Gv.pure e
theorem gpS {G : Store → Res D} {Φ2 : α × κ → Hs} {x : α × κ} (e : ∀ h, Cn bs h0 Φ h → G h = .ok (en x.1) h) (hΦ : Φ2 x = Φ := by rfl) : Gv bs h0 Φ G (.ok x) (fun r => en r.1) Φ2 := fun h c => ⟨h, e h c, by rw [hΦ]; exact c⟩
theorem gsX {ε : Type} {G : Store → Res β'} {t : Tz ε} {v : ε → β'} {Φ2 : ε × κ → Hs} {b : κ} (p : Gv bs h0 Φ G t v fun _ => Φ) (hΦ : ∀ x, Φ2 (x, b) = Φ) : Gv bs h0 Φ G (t.bind fun x => .ok (x, b)) (fun r => v r.1) Φ2 := fun h c => by
  have z := p h c
  cases t with
  | ok x =>
    obtain ⟨h', e, c'⟩ := z
    exact ⟨h', e, by rw [hΦ x]; exact c'⟩
  | exc x => exact z
  | no => trivial
theorem gs {G : Store → Res D} {t : Tz α} {Φ2 : α × κ → Hs} {b : κ} (p : Gv bs h0 Φ G t en fun _ => Φ) (hΦ : ∀ x, Φ2 (x, b) = Φ := by intro _; rfl) : Gv bs h0 Φ G (t.bind fun x => .ok (x, b)) (fun r => en r.1) Φ2 := gsX p hΦ
theorem gsI {G : Store → Res (List D)} {t : Tz (List α)} {Φ2 : List α × κ → Hs} {b : κ} (p : Gv bs h0 Φ G t (fun l => l.map en) fun _ => Φ) (hΦ : ∀ x, Φ2 (x, b) = Φ := by intro _; rfl) : Gv bs h0 Φ G (t.bind fun x => .ok (x, b)) (fun r => r.1.map en) Φ2 := gsX p hΦ
theorem gmap {G : Store → Res D} {t : Tz σ} {d : D} {Φ1 : σ → Hs} {f : σ → τ} {Φ2 : τ → Hs} (p : Gv bs h0 Φ G t (fun _ => d) Φ1) (hΦ : ∀ s, Φ2 (f s) = Φ1 s) : Gv bs h0 Φ G (t.bind fun s => .ok (f s)) (fun _ => d) Φ2 := fun h c => by
  have z := p h c
  cases t with
  | ok x =>
    obtain ⟨h', e, c'⟩ := z
    exact ⟨h', e, by rw [hΦ x]; exact c'⟩
  | exc x => exact z
  | no => trivial
theorem ePu {f : Ev D} {x : α} (p : Pu bs h0 pat Φ f (en x)) : Ag bs h0 pat Φ f (.ok x) en fun _ => Φ := Pu.ag p
theorem ePuS {f : Ev D} {Φ2 : α × κ → Hs} {x : α × κ} (p : Pu bs h0 pat Φ f (en x.1)) (hΦ : Φ2 x = Φ := by rfl) : Ag bs h0 pat Φ f (.ok x) (fun r => en r.1) Φ2 := fun st s => gpS (fun h c => p st h s c) hΦ
theorem ePuT {f : Ev D} {Φ2 : κ × α → Hs} {x : κ × α} (p : Pu bs h0 pat Φ f (en x.2)) (hΦ : Φ2 x = Φ := by rfl) : Ag bs h0 pat Φ f (.ok x) (fun r => en r.2) Φ2 := fun st s h c => ⟨h, p st h s c, by rw [hΦ]; exact c⟩
theorem eAgS {f : Ev D} {t : Tz α} {Φ2 : α × κ → Hs} {b : κ} (p : Ag bs h0 pat Φ f t en fun _ => Φ) (hΦ : ∀ x, Φ2 (x, b) = Φ := by intro _; rfl) : Ag bs h0 pat Φ f (t.bind fun x => .ok (x, b)) (fun r => en r.1) Φ2 := fun st s => gs (p st s) hΦ
theorem eTest {f : Ev Bool} {b : Bool} (p : Pu bs h0 pat Φ f b) : Ag bs h0 pat Φ f (.ok b) (fun b => b) fun _ => Φ := Pu.ag (v := fun b => b) p
theorem ag_swap {f : Ev D} {t : Tz (α × κ)} {Φ2 : κ → Hs} (p : Ag bs h0 pat Φ f t (fun r => en r.1) fun r => Φ2 r.2) : Ag bs h0 pat Φ f (t.bind fun r => .ok (r.2, r.1)) (fun r => en r.2) fun r => Φ2 r.1 := fun st s h c => by
  have z := p st s h c
  cases t with
  | ok x => exact z
  | exc x => exact z
  | no => trivial
theorem ag_lcS2 {γ : Type} {fi : Ev (List D)} {fg : D → Slots → Option Slots} {fe : Ev D} {own : List Nat} {ti : Tz τ} {xs : τ → List α} {g0 : τ → γ} {S : γ → Hs} {P : α → Slots} {q : γ → α → Tz (γ × β)} (hi : Ag bs h0 pat Φ fi ti (fun s => (xs s).map en) fun s => S (g0 s)) (m : FgM fg) (tg : ∀ x, fg (en x) (wipeD pat own) = some (P x)) (he : ∀ g x, Ag bs h0 (P x) (S g) fe (q g x) (fun r => en r.2) fun r => S r.1) :
    Ag bs h0 pat Φ (cLc false fi fg cYes fe own) ((ti.bind fun s => mapS q (xs s) (g0 s)).bind fun r => .ok (r.2, r.1)) (fun r => en r.1) fun r => S r.2 := fun st sl h c => by
  have z := ag_lcS (v := enD) hi m tg he st sl h c
  cases e : (ti.bind fun s => mapS q (xs s) (g0 s)) with
  | ok r => rw [e] at z; exact z
  | exc x => rw [e] at z; exact z
  | no => trivial
theorem bT_okS {ds : List D} {x : α × κ} {Φ2 : α × κ → Hs} (e : D.tup ds = en x.1 := by rfl) (hl : ds.length ≤ 64 := by exact Nat.le_of_ble_eq_true rfl) (hΦ : Φ2 x = Φ := by rfl) : Gv bs h0 Φ (bT ds) (.ok x) (fun r => en r.1) Φ2 := gpS (fun h c => by
  unfold bT
  rw [if_pos (small_line (by omega)), e]) hΦ
theorem bL_okS {ds : List D} {x : α × κ} {Φ2 : α × κ → Hs} (e : D.lst ds = en x.1 := by rfl) (hl : ds.length ≤ 64 := by exact Nat.le_of_ble_eq_true rfl) (hΦ : Φ2 x = Φ := by rfl) : Gv bs h0 Φ (bL ds) (.ok x) (fun r => en r.1) Φ2 := gpS (fun h c => by
  unfold bL
  rw [if_pos (small_line (by omega)), e]) hΦ
theorem pu_x (x : Tx) {s : Str} (e : s = tx x.l) : Pu bs h0 pat Φ (cK (.str s)) (en x) := fun _ _ _ _ => by
  rw [e]
  rfl
theorem ag_not {f : Ev D} {t : Tz Bool} (p : Ag bs h0 pat Φ f t en fun _ => Φ) : Ag bs h0 pat Φ (cNot f) (t.bind fun b => .ok (!b)) en fun _ => Φ := fun st s h c => by
  have z := p st s h c
  rw [ev_not]
  cases t with
  | ok x => obtain ⟨h', e, c'⟩ := z; exact ⟨h', by rw [e]; rfl, c'⟩
  | exc x => obtain ⟨h', e, c'⟩ := z; exact ⟨h', by rw [e]; rfl, c'⟩
  | no => trivial
theorem ag_tnotB {f : Ev Bool} {t : Tz Bool} (p : Ag bs h0 pat Φ f t (fun b => b) fun _ => Φ) : Ag bs h0 pat Φ (cTnot f) (t.bind fun b => .ok (!b)) (fun b => b) fun _ => Φ := fun st s h c => by
  have z := p st s h c
  rw [ev_tnot]
  cases t with
  | ok x => obtain ⟨h', e, c'⟩ := z; exact ⟨h', by rw [e]; rfl, c'⟩
  | exc x => obtain ⟨h', e, c'⟩ := z; exact ⟨h', by rw [e]; rfl, c'⟩
  | no => trivial
theorem ag_tandB {f k : Ev Bool} {x : Tz Bool} {y : Bool → Tz Bool} (a : Ag bs h0 pat Φ f x (fun b => b) fun _ => Φ) (p : ∀ s, Ag bs h0 pat Φ k (y s) (fun b => b) fun _ => Φ) :
    Ag bs h0 pat Φ (cTand f k) (x.bind fun b => if b = true then y b else .ok false) (fun b => b) fun _ => Φ := ag_tand (v1 := fun b => b) a p fun _ => rfl
theorem ag_torB {f k : Ev Bool} {x : Tz Bool} {y : Bool → Tz Bool} (a : Ag bs h0 pat Φ f x (fun b => b) fun _ => Φ) (p : ∀ s, Ag bs h0 pat Φ k (y s) (fun b => b) fun _ => Φ) :
    Ag bs h0 pat Φ (cTor f k) (x.bind fun b => if b = true then .ok true else y b) (fun b => b) fun _ => Φ := ag_tor (v1 := fun b => b) a p fun _ => rfl
theorem ag_chain {o o' : D → D → Store → Res D} {f g k : Ev D} {x y : D} {b : Bool} {t : Tz τ} {v : τ → D} {c : τ → Bool} (p : Pu bs h0 pat Φ f x) (q : Pu bs h0 pat Φ g y) (r : Ag bs h0 pat Φ k t v fun _ => Φ) (e : ∀ h, o x y h = .ok (en b) h) (e' : ∀ z h, o' y (v z) h = .ok (en (c z)) h) :
    Ag bs h0 pat Φ (cChain o o' f g k) (if b = true then (t.bind fun z => .ok (c z)) else .ok false) en fun _ => Φ := fun st s h cn => by
  rw [ev_chain, p st h s cn, Res.bind_ok, q st h s cn, Res.bind_ok, e h, Res.bind_ok]
  cases b with
  | false => exact ⟨h, rfl, cn⟩
  | true =>
    have z := r st s h cn
    cases t with
    | ok x => obtain ⟨h', e1, c'⟩ := z; exact ⟨h', by show (k st h).bind _ = _; rw [e1, Res.bind_ok, e' x h'], c'⟩
    | exc x => obtain ⟨h', e1, c'⟩ := z; exact ⟨h', by show (k st h).bind _ = _; rw [e1]; rfl, c'⟩
    | no => trivial
theorem ag_chain3 {o o' o'' : D → D → Store → Res D} {f g k l : Ev D} {x y w : D} {b b' : Bool} {t : Tz τ} {v : τ → D} {c : τ → Bool} (p : Pu bs h0 pat Φ f x) (q : Pu bs h0 pat Φ g y) (q' : Pu bs h0 pat Φ k w) (r : Ag bs h0 pat Φ l t v fun _ => Φ) (e : ∀ h, o x y h = .ok (en b) h) (e2 : ∀ h, o' y w h = .ok (en b') h) (e' : ∀ z h, o'' w (v z) h = .ok (en (c z)) h) :
    Ag bs h0 pat Φ (cChain3 o o' o'' f g k l) (if (b && b') = true then (t.bind fun z => .ok (c z)) else .ok false) en fun _ => Φ := fun st s h cn => by
  have E : cChain3 o o' o'' f g k l st h = (match b, b' with
    | true, true => (l st h).bind fun e h6 => o'' w e h6
    | _, _ => .ok (en false) h) := by
    unfold cChain3
    rw [p st h s cn, Res.bind_ok, q st h s cn, Res.bind_ok, e h, Res.bind_ok]
    cases b with
    | false => rfl
    | true =>
      show (k st h).bind _ = _
      rw [q' st h s cn, Res.bind_ok, e2 h, Res.bind_ok]
      cases b' <;> rfl
  rw [E]
  cases b with
  | false => exact ⟨h, rfl, cn⟩
  | true =>
    cases b' with
    | false => exact ⟨h, rfl, cn⟩
    | true =>
      have z := r st s h cn
      cases t with
      | ok x => obtain ⟨h', e1, c'⟩ := z; exact ⟨h', by show (l st h).bind _ = _; rw [e1, Res.bind_ok, e' x h'], c'⟩
      | exc x => obtain ⟨h', e1, c'⟩ := z; exact ⟨h', by show (l st h).bind _ = _; rw [e1]; rfl, c'⟩
      | no => trivial
theorem ag_chM {o o' : D → D → Store → Res D} {f g k : Ev D} {x : D} {t : Tz τ} {v : τ → D} {K : τ → Tz σ} {v2 : σ → D} {Φ' : σ → Hs} {Φ1 : τ → Hs} (p : Pu bs h0 pat Φ f x) (q : Ag bs h0 pat Φ g t v Φ1) (r : ∀ s, Ag bs h0 pat (Φ1 s) (cChain o o' (cK x) (cK (v s)) k) (K s) v2 Φ') : Ag bs h0 pat Φ (cChain o o' f g k) (t.bind K) v2 Φ' := fun st sl => by
  refine (Gv.bind (K := fun d h => cChain o o' (cK x) (cK d) k st h) (q st sl) fun s => r s st sl).cast fun h c => ?_
  rw [ev_chain, p st h sl c, Res.bind_ok]
  cases g st h <;> rfl
theorem pu_trN {f : Ev D} {n : Nat} (p : Pu bs h0 pat Φ f (en n)) : Pu bs h0 pat Φ (cTr f) (!decide (n = 0)) := fun st h s c => by
  unfold cTr
  rw [p st h s c, Res.bind_ok]
  show Res.ok (!((n : Int) == 0)) h = _
  congr 2
  rw [Bool.eq_iff_iff, beq_iff_eq, decide_eq_true_iff]
  omega
theorem pu_rev {f : Ev D} {xs : List α} (p : Pu bs h0 pat Φ f (en xs)) : Pu bs h0 pat Φ (cRev false f) (en xs.reverse) := fun st h s c => by
  unfold cRev
  rw [p st h s c, Res.bind_ok]
  show Res.ok (D.lst (xs.map en).reverse) h = .ok (D.lst (xs.reverse.map en)) h
  rw [List.map_reverse]
theorem ag_part {f : Ev D} {t : Tz σ} {i : σ → Int} {Φ' : σ → Hs} (p : Ag bs h0 pat Φ f t (fun s => .int (i s)) Φ') : Ag bs h0 pat Φ (cPart f) t (fun s => some (i s)) Φ' := fun st s h c => by
  have z := p st s h c
  unfold cPart
  cases t with
  | ok x => obtain ⟨h', e, c'⟩ := z; exact ⟨h', by rw [e]; rfl, c'⟩
  | exc x => obtain ⟨h', e, c'⟩ := z; exact ⟨h', by rw [e]; rfl, c'⟩
  | no => trivial
theorem ag_enumE {f : Ev D} {t : Tz (List α)} (p : Ag bs h0 pat Φ f t en fun _ => Φ) : Ag bs h0 pat Φ (iEnumD (cCons f cNil)) (t.bind fun s => .ok (enumT s)) (fun l => l.map en) fun _ => Φ := fun st s h c => by
  have z := p st s h c
  unfold iEnumD
  rw [ev_cons]
  cases t with
  | ok x =>
    obtain ⟨h', e, c'⟩ := z
    refine ⟨h', ?_, c'⟩
    rw [e, Res.bind_ok]
    show Res.ok (enumD (x.map en)) h' = _
    rw [enumD_map]
  | exc x => obtain ⟨h', e, c'⟩ := z; exact ⟨h', by rw [e]; rfl, c'⟩
  | no => trivial
theorem pu_enumV {fs : Ev (List D)} {xs : Tup α} (a : Pu bs h0 pat Φ fs [en xs]) : Pu bs h0 pat Φ (iEnumT fs) ((enumT xs.l).map en) := fun st h s c => by
  unfold iEnumT
  rw [a st h s c, Res.bind_ok]
  show Res.ok (enumD (xs.l.map en)) h = _
  rw [enumD_map]
theorem pu_zip {fs : Ev (List D)} {xs : List α} {ys : List β} (a : Pu bs h0 pat Φ fs [en xs, en ys]) : Pu bs h0 pat Φ (iZipAD fs) ((xs.zip ys).map en) := fun st h s c => by
  unfold iZipAD
  rw [a st h s c, Res.bind_ok]
  show Res.ok (zipD (xs.map en) (ys.map en)) h = _
  rw [zipD_map]
theorem ag_sumS2 {fe : Ev D} {t : Tz (List Nat)} (a : Ag bs h0 pat Φ fe t en fun _ => Φ) : Ag bs h0 pat Φ (cSumS fe (cK (.int 0))) (t.bind fun l => .ok l.sum) en fun _ => Φ := fun st s h c => by
  have z := ag_sumS (xs := fun l => l) a (fun _ _ => rfl) st s h c
  cases t with
  | ok x => exact z
  | exc x => exact z
  | no => trivial
/-! ### statements -/
variable {r : Ss} {O : σ → OS}
theorem as_setL {i : Nat} {f : Ev D} {x : α} {k : α → Tz σ} (p : Pu bs h0 pat Φ f (en x)) (q : ∀ y, AgS bs h0 (pat.set i (some (en y))) Φ r (k y) O) : AgS bs h0 pat Φ (sSeq (sSet i f) r) (Tz.lt x k) O := as_setP p (q x)
theorem as_augL {i : Nat} {fo : D → D → Store → Res D} {f : Ev D} {w y : D} {x : α} {k : α → Tz σ} (h1 : pat[i]? = some (some w)) (p : Pu bs h0 pat Φ f y) (e : ∀ h, fo w y h = .ok (en x) h) (q : ∀ z, AgS bs h0 (pat.set i (some (en z))) Φ r (k z) O) : AgS bs h0 pat Φ (sSeq (sAug i fo f) r) (Tz.lt x k) O := as_augP h1 p e (q x)
theorem as_asgL {f : Ev D} {fg : Tg} {x : α} {P : α → Slots} {k : α → Tz σ} (m : TgM fg) (p : Pu bs h0 pat Φ f (en x)) (e : ∀ y (h : Store), fg (en y) pat h = some (P y, h)) (q : ∀ y, AgS bs h0 (P y) Φ r (k y) O) : AgS bs h0 pat Φ (sSeq (sAsg f fg) r) (Tz.lt x k) O := as_asgP m p (e x) (q x)
theorem as_retT {t : Tz σ} {f : Ev D} {v : σ → D} {Φ' : σ → Hs} (p : Ag bs h0 pat Φ f t v Φ') (o : ∀ x, ∃ Φ2, O x = .ret (v x) Φ2 ∧ Φ2.Sublist (Φ' x)) : AgS bs h0 pat Φ (sRet f) t O := fun st h sl c => by
  have z := as_retO (k := fun x => x) p o st h sl c
  cases t with
  | ok x => exact z
  | exc x => exact z
  | no => trivial
theorem agc_cell {x : σ} {ce : σ → Cell} {fs : Ev (List D)} {ds : List D} (p : Pu bs h0 pat Φ (cLst false fs) (.lst ds)) (e : Cell.lst ds = ce x := by rfl) : AgC bs h0 pat Φ (cLst true fs) (.ok x) ce fun _ => Φ := fun st h sl c => by
  have z := agc_lst (t := .ok ()) (l := fun _ => ds) (Pu.ag (v := fun _ => D.lst ds) p) st h sl c
  obtain ⟨n, h', e1, hn, c'⟩ := z
  exact ⟨n, h', e1, hn, by rw [← e]; exact c'⟩
theorem agc_list {t : Tz τ} {fs : Ev (List D)} {l : τ → List D} {Φ' : τ → Hs} (p : Ag bs h0 pat Φ (cB (fList false) fs) t (fun x => .lst (l x)) Φ') : AgC bs h0 pat Φ (cB (fList true) fs) t (fun x => .lst (l x)) Φ' := agc_of p (fun st h l' h' _ _ e => by
    rw [ev_cB] at e ⊢
    cases e2 : fs st h with
    | ok ds h1 =>
      rw [e2, Res.bind_ok] at e
      rw [Res.bind_ok]
      unfold fList at e ⊢
      split at e
      · cases e; rfl
      · rename_i d hd
        split at e
        · cases e; rfl
        · cases e
      · cases e
    | exc x h1 => rw [e2] at e; cases e
    | no => rw [e2] at e; cases e) fun st h x h' _ _ e => by
    rw [ev_cB] at e ⊢
    cases e2 : fs st h with
    | ok ds h1 =>
      rw [e2, Res.bind_ok] at e
      rw [Res.bind_ok]
      unfold fList at e ⊢
      split at e
      · cases e
      · rename_i d hd
        split at e
        · cases e
        · cases e
      · cases e
    | exc x h1 => rw [e2] at e; exact e
    | no => rw [e2] at e; cases e
theorem agc_rep {t : Tz τ} {fa fb : Ev D} {l : τ → List D} {Φ' : τ → Hs} (p : Ag bs h0 pat Φ (cBin (oRep false) fa fb) t (fun x => .lst (l x)) Φ') : AgC bs h0 pat Φ (cBin (oRep true) fa fb) t (fun x => .lst (l x)) Φ' := agc_of p (fun st h l' h' _ _ e => by
    rw [ev_bin] at e ⊢
    cases e2 : fa st h with
    | ok a h1 =>
      rw [e2, Res.bind_ok] at e
      rw [Res.bind_ok]
      cases e3 : fb st h1 with
      | ok b h2 =>
        rw [e3, Res.bind_ok] at e
        rw [Res.bind_ok]
        unfold oRep at e ⊢
        split at e
        · split at e
          · rename_i hc
            rw [if_pos hc]
            cases e; rfl
          · cases e
        · cases e
      | exc x h2 => rw [e3] at e; cases e
      | no => rw [e3] at e; cases e
    | exc x h1 => rw [e2] at e; cases e
    | no => rw [e2] at e; cases e) fun st h x h' _ _ e => by
    rw [ev_bin] at e ⊢
    cases e2 : fa st h with
    | ok a h1 =>
      rw [e2, Res.bind_ok] at e
      rw [Res.bind_ok]
      cases e3 : fb st h1 with
      | ok b h2 =>
        rw [e3, Res.bind_ok] at e
        unfold oRep at e
        split at e
        · split at e
          · cases e
          · cases e
        · cases e
      | exc x h2 => rw [e3] at e; exact e
      | no => rw [e3] at e; cases e
    | exc x h1 => rw [e2] at e; exact e
    | no => rw [e2] at e; cases e
theorem agc_add {t : Tz τ} {fa fb : Ev D} {l : τ → List D} {Φ' : τ → Hs} (p : Ag bs h0 pat Φ (cBin (oAdd false) fa fb) t (fun x => .lst (l x)) Φ') : AgC bs h0 pat Φ (cBin (oAdd true) fa fb) t (fun x => .lst (l x)) Φ' := agc_of p (fun st h l' h' _ _ e => by
    rw [ev_bin] at e ⊢
    cases e2 : fa st h with
    | ok a h1 =>
      rw [e2, Res.bind_ok] at e
      rw [Res.bind_ok]
      cases e3 : fb st h1 with
      | ok b h2 =>
        rw [e3, Res.bind_ok] at e
        rw [Res.bind_ok]
        unfold oAdd at e ⊢
        split at e
        · cases e
        · split at e
          · cases e
          · cases e
        · split at e
          · split at e
            · rename_i hc
              rw [if_pos hc]
              cases e; rfl
            · cases e
          · cases e
      | exc x h2 => rw [e3] at e; cases e
      | no => rw [e3] at e; cases e
    | exc x h1 => rw [e2] at e; cases e
    | no => rw [e2] at e; cases e) fun st h x h' _ _ e => by
    rw [ev_bin] at e ⊢
    cases e2 : fa st h with
    | ok a h1 =>
      rw [e2, Res.bind_ok] at e
      rw [Res.bind_ok]
      cases e3 : fb st h1 with
      | ok b h2 =>
        rw [e3, Res.bind_ok] at e
        unfold oAdd at e
        split at e
        · cases e
        · split at e
          · cases e
          · cases e
        · split at e
          · split at e
            · cases e
            · cases e
          · cases e
      | exc x h2 => rw [e3] at e; exact e
      | no => rw [e3] at e; cases e
    | exc x h1 => rw [e2] at e; exact e
    | no => rw [e2] at e; cases e
/-! ### methods of what stays -/
theorem ag_meth {n m : Str} {F : FnT} {fo : Ev D} {fs : Ev (List D)} {d : D} {ff : List (Str × D)} {t : Tz σ} {v : σ → D} {Φ' : σ → Hs} (p : Pu bs h0 pat Φ fo d) (e : d = .obj n ff) (hl : ff.lookup m = none) (a : AL bs h0 pat Φ fs (fun ds => F (d :: (ds ++ []))) t v Φ') : Ag bs h0 pat Φ (cMeth n m F [] fo fs) t v Φ' := fun st s =>
  (a st s).cast fun h c => by
    unfold cMeth
    rw [p st h s c, Res.bind_ok, e]
    show (if n = n ∧ ff.lookup m = none then _ else _) = _
    rw [if_pos ⟨rfl, hl⟩]
/-- n(..) -/
def bMk (n : Str) (F : FnT) (defs : List D) (ds : List D) (h1 : Store) : Res D := (F (.ref h1.length :: (ds ++ defs)) (h1 ++ [some (.obj n [])])).bind fun d h2 => match d, h2[h1.length]? with
  | .non, some (some (.obj n' ff)) => cleanD h1.length (.ok (.obj n' ff) (h2.set h1.length none))
  | _, _ => .no
theorem ag_make {n : Str} {F : FnT} {fs : Ev (List D)} {t : Tz σ} {v : σ → D} {Φ' : σ → Hs} {defs : List D} (a : AL bs h0 pat Φ fs (bMk n F defs) t v Φ') : Ag bs h0 pat Φ (cMake n F defs fs) t v Φ' := a
theorem mk0 {n : Str} {F : FnT} {ds defs : List D} {t : Tz σ} {v : σ → D} {ff : σ → List (Str × D)} (e : ∀ s, v s = .obj n (ff s)) (f : ∀ k : Nat, FoX F (.ref k :: (ds ++ defs)) [(k, .obj n [])] t fun s => .ret .non [(k, .obj n (ff s))]) : Gv bs h0 Φ (bMk n F defs ds) t v fun _ => Φ := fun h c => by
  have hk : (h ++ [some (Cell.obj n [])])[h.length]? = some (some (.obj n [])) := by simp
  have z := f h.length (h ++ [some (.obj n [])]) ⟨Nat.le_refl _, fun p hp => by
    have hp : p = (h.length, Cell.obj n []) := by simpa using hp
    subst hp
    exact hk, by simp, fun _ _ _ => rfl, fun p hp => by
    have hp : p = (h.length, Cell.obj n []) := by simpa using hp
    subst hp
    exact .inl (by simp), fun b hb => by
    have hb : b = h.length := by simpa using hb
    subst hb
    simp⟩
  have old : ∀ {Φ' : Hs} {h' : Store}, Cn (List.map Prod.fst [(h.length, Cell.obj n [])]) (h ++ [some (Cell.obj n [])]) Φ' h' → Ext h h' := fun {Φ' h'} c' => ⟨by have := c'.len; rw [List.length_append] at this; omega, fun m hm => by
    rw [c'.old m (by rw [List.length_append]; omega) (by simp; omega), List.getElem?_append_left hm]⟩
  unfold bMk
  cases t with
  | ok s =>
    obtain ⟨d, h', e1, h2, e2, c'⟩ := z
    cases e2
    have hc : h'[h.length]? = some (some (.obj n (ff s))) := c'.cell (h.length, .obj n (ff s)) (by simp)
    have x1 := old c'
    have x2 : Ext h (h'.set h.length none) := ⟨by rw [List.length_set]; exact x1.len, fun m hm => by rw [List.getElem?_set_ne (by omega)]; exact x1.at' m hm⟩
    rw [e1, Res.bind_ok]
    dsimp only
    rw [hc]
    dsimp only
    rcases clean_ok (n := h.length) (d := .obj n (ff s)) (h := h'.set h.length none) with q | q
    · exact ⟨_, by rw [q, e s], c.ext x2⟩
    · refine ⟨_, by rw [q.1, e s], c.ext ⟨by rw [List.length_take]; have := x2.len; omega, fun m hm => by rw [List.getElem?_take_of_lt hm]; exact x2.at' m hm⟩⟩
  | exc x =>
    obtain ⟨h', e1, c'⟩ := z
    exact ⟨h', by rw [e1]; rfl, (c.ext (old c')).nil⟩
  | no => trivial
/-- the fields of an instance that is made -/
theorem pu_fldC {n f : Str} {fo : Ev D} {k a : Nat} {fs : List (Str × D)} {d : D} (hk : Φ[k]? = some (a, .obj n fs)) (p : Pu bs h0 pat Φ fo (.ref a)) (e : fs.lookup f = some d) : Pu bs h0 pat Φ (cFld n f fo) d := fun st h s c => by
  have q : asO h (.ref a) = some (n, fs) := by
    show (match h[a]? with
      | some (some (.obj n fs)) => some (n, fs)
      | _ => none) = _
    rw [c.cell _ (List.mem_of_getElem? hk)]
  unfold cFld
  rw [p st h s c, Res.bind_ok, q]
  dsimp only
  rw [if_pos rfl, e]
theorem as_fld {n f : Str} {fv fo : Ev D} {k a : Nat} {fs : List (Str × D)} {t : Tz σ} {v : σ → D} {ce : σ → Cell} (hv : Ag bs h0 pat Φ fv t v fun _ => Φ) (hk : Φ[k]? = some (a, .obj n fs)) (p : Pu bs h0 pat Φ fo (.ref a)) (hl : fs.length < 1000 := by exact Nat.le_of_ble_eq_true rfl) (e : ∀ s, Cell.obj n (putFD f (v s) fs) = ce s := by intro _; rfl) :
    AgS bs h0 pat Φ (sFldD n f fv fo) t fun s => .next pat (Φ.set k (a, ce s)) := by
  have z : AgS bs h0 pat Φ (sFldD n f fv fo) (t.bind fun s => .ok s) fun s => .next pat (Φ.set k (a, ce s)) := by
    refine as_out (K := fun st d h1 => (fo st h1).out st fun x h2 => match x with
      | .ref m => match h2[m]? with
        | some (some (.obj n' fs)) => if n' = n ∧ fs.length < 1000 then .next st (h2.set m (some (.obj n' (putFD f d fs)))) else .no
        | _ => .no
      | _ => .no) hv (fun _ _ => rfl) fun s => fun st h sl c => ?_
    refine ⟨st, h.set a (some (ce s)), ?_, sl, c.put hk _⟩
    dsimp only
    rw [p st h sl c, Res.out_ok]
    dsimp only
    rw [c.cell _ (List.mem_of_getElem? hk)]
    dsimp only
    rw [if_pos ⟨rfl, hl⟩, e s]
  intro st h sl c
  have y := z st h sl c
  cases t <;> exact y
end
theorem pow_lit {i j : Int} {n : Nat} (hg : gPow i j = true) (hv : i ^ j.toNat = (n : Int)) (h : Store) : oPow (.int i) (.int j) h = .ok (en n) h := by
  have e : oPow (.int i) (.int j) h = .ok (.int (i ^ j.toNat)) h := ev_iop (h := h) (f := fun i j => i ^ j.toNat) hg
  rw [e, hv] <;> rfl
/-! ### flat values in lists -/
class Flt (α : Type) [Enc α] [DecidableEq α] where
  fl : α → L2.V
  ok : ∀ a : α, (en a).flat = some (fl a)
  eq : ∀ a b : α, L2.eqV (fl a) (fl b) = decide (a = b)
  nstr : ∀ (a : α) (l : List D), True
instance : Flt Nat := ⟨fun n => .int (n : Int), fun _ => rfl, fun a b => by rw [eqV_n]; rfl, fun _ _ => trivial⟩
instance : Flt Int := ⟨fun n => .int n, fun _ => rfl, fun a b => rfl, fun _ _ => trivial⟩
instance : Flt Tx := ⟨fun x => .str (tx x.l), fun _ => rfl, fun a b => by
  show decide (tx a.l = tx b.l) = _
  exact xx_dec a b, fun _ _ => trivial⟩
section
variable {bs : List Nat} {h0 : Store} {pat : Slots} {Φ : Hs} {α : Type} [Enc α] [DecidableEq α] [Flt α]
theorem flats_en (xs : List α) : flats (xs.map en) = some (xs.map Flt.fl) := by
  induction xs with
  | nil => rfl
  | cons a l ih =>
    rw [List.map_cons]
    unfold flats
    rw [Flt.ok a, ih]
    rfl
theorem inV_en (a : α) (xs : List α) : L2.inV (Flt.fl a) (xs.map Flt.fl) = decide (a ∈ xs) := by
  induction xs with
  | nil => rfl
  | cons b l ih =>
    unfold L2.inV at ih ⊢
    rw [List.map_cons, List.any_cons, ih, Flt.eq, Bool.eq_iff_iff, Bool.or_eq_true, decide_eq_true_iff, decide_eq_true_iff, decide_eq_true_iff, List.mem_cons]
    exact or_congr_left ⟨fun e => e.symm, fun e => e.symm⟩
theorem inD_l (a : α) (xs : List α) (h : Store) : inD h (en a) (en xs) = some (decide (a ∈ xs)) := by
  have e1 := Flt.ok a
  have e2 : asR h (en xs) = some (xs.map en) := rfl
  have e3 : inD h (en a) (en xs) = match asR h (en xs) with
    | some l => match (en a).flat, flats l with
      | some v, some vs => some (L2.inV v vs)
      | _, _ => none
    | none => none := by
    show inD h (en a) (.lst (xs.map en)) = _
    unfold inD
    split
    · rename_i i j e4 e5
      cases e5
    · rename_i i j e4
      cases e4
    · rfl
  rw [e3, e2]
  dsimp only
  rw [e1, flats_en]
  dsimp only
  rw [inV_en]
theorem inD_t (a : α) (xs : Tup α) (h : Store) : inD h (en a) (en xs) = some (decide (a ∈ xs.l)) := by
  have e1 := Flt.ok a
  have e3 : inD h (en a) (en xs) = match (en a).flat, flats (xs.l.map en) with
      | some v, some vs => some (L2.inV v vs)
      | _, _ => none := by
    show inD h (en a) (.tup (xs.l.map en)) = _
    unfold inD
    split
    · rename_i i j e4 e5
      cases e5
    · rename_i i j e4
      cases e4
      rfl
    · rename_i ha hb
      exact (ha _ rfl).elim
  rw [e3, e1, flats_en]
  dsimp only
  rw [inV_en]
theorem l_in (a : α) (xs : List α) (h : Store) : oIn (en a) (en xs) h = .ok (en (decide (a ∈ xs))) h := by
  unfold oIn
  rw [inD_l] <;> rfl
theorem l_notin (a : α) (xs : List α) (h : Store) : oNotIn (en a) (en xs) h = .ok (en (!decide (a ∈ xs))) h := by
  unfold oNotIn
  rw [inD_l] <;> rfl
theorem t_in (a : α) (xs : Tup α) (h : Store) : oIn (en a) (en xs) h = .ok (en (decide (a ∈ xs.l))) h := by
  unfold oIn
  rw [inD_t] <;> rfl
theorem t_notin (a : α) (xs : Tup α) (h : Store) : oNotIn (en a) (en xs) h = .ok (en (!decide (a ∈ xs.l))) h := by
  unfold oNotIn
  rw [inD_t] <;> rfl
def idxT {α : Type} [DecidableEq α] (xs : List α) (a : α) : Tz Nat := if a ∈ xs then .ok (xs.idxOf a) else .no
theorem idxT_ok {α : Type} [DecidableEq α] {xs : List α} {a : α} (h : a ∈ xs) : idxT xs a = .ok (xs.idxOf a) := if_pos h
theorem first_en (a : α) : ∀ (xs : List α), a ∈ xs → firstAt (Flt.fl a) (xs.map Flt.fl) = some (xs.idxOf a)
  | [], h => by simp at h
  | b :: xs, h => by
    rw [List.map_cons]
    unfold firstAt
    rw [Flt.eq, List.idxOf_cons]
    by_cases e : b = a
    · subst e; simp
    · have hk : a ∈ xs := by
        rcases List.mem_cons.mp h with q | q
        · exact absurd q.symm e
        · exact q
      have e2 : (b == a) = false := by simpa using e
      rw [e2, first_en a xs hk, decide_eq_false e]
      simp
theorem l_idx (xs : List α) (a : α) : Gv bs h0 Φ (mIndex (en xs) [en a]) (idxT xs a) en fun _ => Φ := fun h c => by
  unfold idxT
  by_cases hm : a ∈ xs
  · rw [if_pos hm]
    refine ⟨h, ?_, c⟩
    have e2 : asR h (en xs) = some (xs.map en) := rfl
    unfold mIndex
    simp only [e2, Flt.ok, flats_en, first_en a xs hm] <;> rfl
  · rw [if_neg hm]
    trivial
end
def repT_ok' : True := trivial
theorem l_rep {bs : List Nat} {h0 : Store} {Φ : Hs} {α : Type} [Enc α] (xs : List α) (k : Nat) : Gv bs h0 Φ (oRep false (en xs) (en k)) (repT xs k) en fun _ => Φ := Gv.gd fun hc h _ => by
  have e2 : asL h (en xs) = some (xs.map en) := rfl
  have g : g63 (k : Int) = true := Nat.ble_eq_true_of_le (by rw [Int.natAbs_natCast]; exact Nat.le_trans hc.2 (by decide))
  show (match asL h (en xs), D.int (k : Int) with
    | some l, .int k => if g63 k = true ∧ l.length * k.toNat ≤ sizeLine then alloc false (List.replicate k.toNat l).flatten h else .no
    | _, _ => .no) = _
  rw [e2]
  dsimp only
  rw [if_pos ⟨g, by rw [List.length_map, Int.toNat_natCast]; exact small_line hc.1⟩, Int.toNat_natCast]
  show Res.ok (D.lst _) h = .ok (D.lst ((List.replicate k xs).flatten.map en)) h
  rw [List.map_flatten, List.map_replicate]
theorem repT_one {α : Type} (x : α) {k : Nat} (h : k ≤ 1000000) : repT [x] k = .ok (List.replicate k x) := by
  unfold repT
  rw [gd_ok ⟨by rw [List.length_singleton]; show 1 * k ≤ 1000000; omega, h⟩]
  congr 1
  induction k with
  | zero => rfl
  | succ n ih => rw [List.replicate_succ, List.replicate_succ, List.flatten_cons, ih (by omega)]; rfl
theorem b_int (b : Bool) (h : Store) : fInt1 [en b] h = .ok (en (cond b 1 0 : Nat)) h := by cases b <;> rfl
def lenD : D → Tz Nat
  | .lst l => .ok l.length
  | .tup l => .ok l.length
  | .fro l => .ok l.length
  | _ => .no
theorem d_len {bs : List Nat} {h0 : Store} {Φ : Hs} (d : D) : Gv bs h0 Φ (fLen [en d]) (lenD d) en fun _ => Φ := fun h c => by
  cases d <;> first | exact ⟨h, rfl, c⟩ | trivial
/-- sorted(set(..)) -/
def insN (x : Nat) : List Nat → List Nat
  | [] => [x]
  | y :: l => if x < y then x :: y :: l else if x = y then y :: l else y :: insN x l
def setN : List Nat → List Nat
  | [] => []
  | x :: l => insN x (setN l)
def sortN (l : List Nat) : Tz (List Nat) := gd (l.length < 64) (setN l)
theorem sortN_ok {l : List Nat} (h : l.length < 64) : sortN l = .ok (setN l) := gd_ok h
end Gt

/-! Gt6: callees' new cells. -/
namespace Gt
open PySem PySem.Spec PyProof.Rows Gm
section
variable {bs : List Nat} {h0 : Store} {pat : Slots} {Φ : Hs} {σ τ α : Type} [Enc α]
def GvC {σ : Type} (bs : List Nat) (h0 : Store) (Φ : Hs) (G : Store → Res D) (t : Tz σ) (ce : σ → Cell) (Φ' : σ → Hs) : Prop := ∀ h, Cn bs h0 Φ h → match t with
  | .ok x => ∃ n h', G h = .ok (.ref n) h' ∧ n ∉ bs ∧ Cn bs h0 (Φ' x ++ [(n, ce x)]) h'
  | .exc x => ∃ h', G h = .exc x h' ∧ Cn bs h0 [] h'
  | .no => True
theorem GvC.cast {G G' : Store → Res D} {t : Tz σ} {ce : σ → Cell} {Φ' : σ → Hs} (a : GvC bs h0 Φ G t ce Φ') (e : ∀ h, Cn bs h0 Φ h → G' h = G h) : GvC bs h0 Φ G' t ce Φ' := fun h c => by
  rw [e h c]
  exact a h c
/-- frozen at once -/
theorem GvC.fz {G : Store → Res D} {t : Tz σ} {l : σ → List D} {Φ' : σ → Hs} (a : GvC bs h0 Φ G t (fun s => .lst (l s)) Φ') : Gv bs h0 Φ (fun h => (G h).bind fzK) t (fun s => .lst (l s)) Φ' := fun h c => by
  have z := a h c
  cases t with
  | ok s =>
    obtain ⟨n, h', e, hn, c'⟩ := z
    have hk : (Φ' s ++ [(n, Cell.lst (l s))])[(Φ' s).length]? = some (n, .lst (l s)) := by simp
    refine ⟨h'.set n none, ?_, ?_⟩
    · dsimp only
      rw [e, Res.bind_ok]
      unfold fzK
      dsimp only
      rw [c'.cell (n, .lst (l s)) (by simp)]
    · have d := c'.drop hk hn
      rw [List.eraseIdx_append_of_length_le (Nat.le_refl _)] at d
      simpa using d
  | exc x =>
    obtain ⟨h', e, c'⟩ := z
    exact ⟨h', by dsimp only; rw [e]; rfl, c'⟩
  | no => trivial
variable {t : Tz σ} {F : FnT} {ds : List D}
theorem foC0 {ce : σ → Cell} (f : FoX F ds [] t fun s => .retc (ce s) []) : GvC bs h0 Φ (F ds) t ce fun _ => Φ := fun h c => by
  have z := foC (pat := []) (Φ := Φ) (bs := bs) (h0 := h0) (fs := fun _ h => .ok ds h) (defs := []) f (fun _ _ _ _ => rfl) [] h (Sl.refl _) c
  have e : cCall F [] (fun _ h => .ok ds h) [] h = F ds h := by
    rw [ev_call, Res.bind_ok, List.append_nil]
  rw [e] at z
  exact z
theorem foC1 {k n : Nat} {c0 : Cell} {ce cr : σ → Cell} (hk : Φ[k]? = some (n, c0)) (f : FoX F ds [(n, c0)] t fun s => .retc (ce s) [(n, cr s)]) : GvC bs h0 Φ (F ds) t ce fun s => Φ.set k (n, cr s) := fun h c => by
  have hm : (n, c0) ∈ Φ := List.mem_of_getElem? hk
  have hn : n < h.length := c.lt hm
  have z := f h ⟨Nat.le_refl _, fun p hp => by
    have hp : p = (n, c0) := by simpa using hp
    subst hp
    exact c.cell _ hm, by simp, fun _ _ _ => rfl, fun p hp => by
    have hp : p = (n, c0) := by simpa using hp
    subst hp
    exact .inl (by simp), fun b hb => by
    have hb : b = n := by simpa using hb
    subst hb
    exact hn⟩
  have old : ∀ {Φ' : Hs} {h' : Store}, Cn (List.map Prod.fst [(n, c0)]) h Φ' h' → ∀ m, m < h.length → m ≠ n → h'[m]? = h[m]? := fun c' m hm e => c'.old m hm (by simpa using e)
  cases t with
  | ok s =>
    obtain ⟨d, h', e, m, h2, e2, hm2, c'⟩ := z
    cases e2
    have ge : h.length ≤ m := by
      rcases c'.own (m, ce s) (by simp) with o | o
      · exact absurd o hm2
      · exact o
    have cu := c.upd hk c'.len (old c') (c'.cell (n, cr s) (by simp))
    refine ⟨m, h', e, fun z => ?_, cu.len, fun p hp => ?_, ?_, cu.old, fun p hp => ?_, cu.lo⟩
    · have := cu.lo _ z
      have := c.len
      omega
    · rcases List.mem_append.mp hp with q | q
      · exact cu.cell p q
      · have q : p = (m, ce s) := by simpa using q
        subst q
        exact c'.cell _ (by simp)
    · rw [List.map_append, List.nodup_append]
      refine ⟨cu.nd, by simp, fun a ha b hb => ?_⟩
      rw [set_fst (by rw [hk]; rfl)] at ha
      obtain ⟨p, hp, rfl⟩ := List.mem_map.mp ha
      have hb : b = m := by simpa using hb
      have := c.lt hp
      omega
    · rcases List.mem_append.mp hp with q | q
      · exact cu.own p q
      · have q : p = (m, ce s) := by simpa using q
        subst q
        exact .inr (Nat.le_trans c.len ge)
  | exc x =>
    obtain ⟨h', e, c'⟩ := z
    refine ⟨h', e, Nat.le_trans c.len c'.len, fun p hp => (by cases hp), by simp, fun m hm2 hb => ?_, fun p hp => (by cases hp), c.lo⟩
    have ne : m ≠ n := fun q => by
      rcases c.own _ hm with o | o
      · subst q; exact hb o
      · have o : h0.length ≤ n := o
        omega
    rw [old c' m (Nat.lt_of_lt_of_le hm2 c.len) ne]
    exact c.old m hm2 hb
  | no => trivial
/-- a callee that reads a cell and tells a new one -/
theorem foC1r {k n : Nat} {c0 : Cell} {ce : σ → Cell} (hk : Φ[k]? = some (n, c0)) (f : FoX F ds [(n, c0)] t fun s => .retc (ce s) [(n, c0)]) : GvC bs h0 Φ (F ds) t ce fun _ => Φ := by
  have z := foC1 (bs := bs) (h0 := h0) (cr := fun _ => c0) hk f
  rw [set_same hk] at z
  exact z
/-- operands ahead of a new cell -/
def ALC (bs : List Nat) (h0 : Store) (pat : Slots) (Φ : Hs) (fs : Ev (List D)) (K : List D → Store → Res D) (t : Tz σ) (ce : σ → Cell) (Φ' : σ → Hs) : Prop := ∀ st, Sl pat st → GvC bs h0 Φ (fun h => (fs st h).bind K) t ce Φ'
variable {ce : σ → Cell} {Φ' : σ → Hs}
theorem alc_nil {K : List D → Store → Res D} (a : GvC bs h0 Φ (K []) t ce Φ') : ALC bs h0 pat Φ cNil K t ce Φ' := fun st s => a
theorem alc_p {f : Ev D} {fs : Ev (List D)} {d : D} {K : List D → Store → Res D} (a : Pu bs h0 pat Φ f d) (b : ALC bs h0 pat Φ fs (fun ds => K (d :: ds)) t ce Φ') : ALC bs h0 pat Φ (cCons f fs) K t ce Φ' := fun st s =>
  (b st s).cast fun h c => by
    rw [ev_cons, a st h s c, Res.bind_ok]
    cases fs st h <;> rfl
theorem alc_e {f : Ev D} {fs : Ev (List D)} {K : List D → Store → Res D} {t1 : Tz τ} {v1 : τ → D} {Φ1 : τ → Hs} {k : τ → Tz σ} (a : Ag bs h0 pat Φ f t1 v1 Φ1) (b : ∀ s, ALC bs h0 pat (Φ1 s) fs (fun ds => K (v1 s :: ds)) (k s) ce Φ') : ALC bs h0 pat Φ (cCons f fs) K (t1.bind k) ce Φ' := fun st s h c => by
  have q := a st s h c
  cases t1 with
  | ok x =>
    obtain ⟨h', e, c'⟩ := q
    have r := b x st s h' c'
    have e2 : ((cCons f fs st h).bind K) = (fs st h').bind fun ds => K (v1 x :: ds) := by
      rw [ev_cons, e, Res.bind_ok]
      cases fs st h' <;> rfl
    show match k x with
      | .ok x => ∃ n h', ((cCons f fs st h).bind K) = .ok (.ref n) h' ∧ n ∉ bs ∧ Cn bs h0 (Φ' x ++ [(n, ce x)]) h'
      | .exc x => ∃ h', ((cCons f fs st h).bind K) = .exc x h' ∧ Cn bs h0 [] h'
      | .no => True
    rw [e2]
    exact r
  | exc x =>
    obtain ⟨h', e, c'⟩ := q
    exact ⟨h', by show ((cCons f fs st h).bind K) = _; rw [ev_cons, e]; rfl, c'⟩
  | no => trivial
theorem agc_call {fs : Ev (List D)} {defs : List D} (a : ALC bs h0 pat Φ fs (fun ds => F (ds ++ defs)) t ce Φ') : AgC bs h0 pat Φ (cCall F defs fs) t ce Φ' := fun st h sl c => a st sl h c
theorem agc_meth {n m : Str} {fo : Ev D} {fs : Ev (List D)} {d : D} {ff : List (Str × D)} (p : Pu bs h0 pat Φ fo d) (e : d = .obj n ff) (hl : ff.lookup m = none) (a : ALC bs h0 pat Φ fs (fun ds => F (d :: (ds ++ []))) t ce Φ') : AgC bs h0 pat Φ (cMeth n m F [] fo fs) t ce Φ' := fun st h sl c => by
  have z := a st sl h c
  have e2 : cMeth n m F [] fo fs st h = (fs st h).bind fun ds => F (d :: (ds ++ [])) := by
    unfold cMeth
    rw [p st h sl c, Res.bind_ok, e]
    show (if n = n ∧ ff.lookup m = none then _ else _) = _
    rw [if_pos ⟨rfl, hl⟩]
  rw [e2]
  exact z
/-- an expression's new cell, frozen -/
theorem ag_fz {f : Ev D} {l : σ → List α} (a : AgC bs h0 pat Φ f t (fun s => cl (l s)) Φ') : Ag bs h0 pat Φ (cFz f) t (fun s => en (l s)) Φ' := fun st sl => GvC.fz (l := fun s => (l s).map en) fun h c => a st h sl c
/-- a name's cell is told -/
theorem as_retV {i k n : Nat} {c0 : Cell} {x : σ} {O : σ → OS} {Φ2 : Hs} (h1 : pat[i]? = some (some (.ref n))) (hk : Φ[k]? = some (n, c0)) (hn : n ∉ bs) (o : O x = .retc c0 Φ2) (w : Φ2.Sublist (Φ.eraseIdx k)) : AgS bs h0 pat Φ (sRet (cVar i)) (.ok x) O := fun st h sl c => by
  rw [ev_ret, ev_var, sl.at' i _ h1]
  show (O x).is bs h0 _
  rw [o]
  have hm : (n, c0) ∈ Φ := List.mem_of_getElem? hk
  have hl : k < Φ.length := (List.getElem?_eq_some_iff.mp hk).1
  have c2 := c.sub (w.trans (List.eraseIdx_sublist _ _))
  have hnk : ∀ p ∈ Φ2, p.1 ≠ n := fun p hp q => by
    obtain ⟨i, hne, e⟩ := List.mem_eraseIdx_iff_getElem?.mp (w.subset hp)
    have hi' : i < Φ.length := (List.getElem?_eq_some_iff.mp e).1
    have e1 : (Φ.map Prod.fst)[k]'(by simpa using hl) = n := by
      rw [List.getElem_map, (List.getElem?_eq_some_iff.mp hk).2]
    have e2 : (Φ.map Prod.fst)[i]'(by simpa using hi') = n := by rw [List.getElem_map, (List.getElem?_eq_some_iff.mp e).2, q]
    exact hne (nd_inj c.nd _ _ (e1.trans e2.symm)).symm
  refine ⟨n, h, rfl, hn, c2.len, fun p hp => ?_, ?_, c2.old, fun p hp => ?_, c2.lo⟩
  · rcases List.mem_append.mp hp with q | q
    · exact c2.cell p q
    · have q : p = (n, c0) := by simpa using q
      subst q
      exact c.cell _ hm
  · rw [List.map_append, List.nodup_append]
    refine ⟨c2.nd, by simp, fun a ha b hb => ?_⟩
    obtain ⟨p, hp, rfl⟩ := List.mem_map.mp ha
    have hb : b = n := by simpa using hb
    rw [hb]
    exact hnk p hp
  · rcases List.mem_append.mp hp with q | q
    · exact c2.own p q
    · have q : p = (n, c0) := by simpa using q
      subst q
      exact c.own _ hm
/-! ### numbers that are told as ints -/
theorem ag_toN {f : Ev D} {i : Int} (p : Pu bs h0 pat Φ f (en i)) : Ag bs h0 pat Φ f (toN i) en fun _ => Φ := fun st s => by
  have z := i_toN (t := .ok i) (ePu p) (fun _ => rfl) st s
  exact z
end
theorem sm_up {d e : D} : ∀ {n m : Nat}, Gm.Sm n d e → n ≤ m → Gm.Sm m d e := fun {n m} h => by
  induction h generalizing m with
  | non => intro hm; obtain ⟨k, rfl⟩ : ∃ k, m = k + 1 := ⟨m - 1, by omega⟩; exact .non
  | bl b => intro hm; obtain ⟨k, rfl⟩ : ∃ k, m = k + 1 := ⟨m - 1, by omega⟩; exact .bl b
  | int b => intro hm; obtain ⟨k, rfl⟩ : ∃ k, m = k + 1 := ⟨m - 1, by omega⟩; exact .int b
  | str b => intro hm; obtain ⟨k, rfl⟩ : ∃ k, m = k + 1 := ⟨m - 1, by omega⟩; exact .str b
  | tup hl h hz ih => intro hm; obtain ⟨k, rfl⟩ : ∃ k, m = k + 1 := ⟨m - 1, by omega⟩; exact .tup hl (fun i x y a b => ih i x y a b (by omega)) hz
  | lst hd he hl h hz ih => intro hm; obtain ⟨k, rfl⟩ : ∃ k, m = k + 1 := ⟨m - 1, by omega⟩; exact .lst hd he hl (fun i x y a b => ih i x y a b (by omega)) hz
/-! ### what is alike -/
class Same (α : Type) [Enc α] where
  d : Nat
  good : α → Bool
  sm : ∀ a : α, good a = true → Gm.Sm d (en a) (en a)
instance : Same Nat := ⟨1, fun _ => true, fun a _ => .int _⟩
instance : Same Int := ⟨1, fun _ => true, fun a _ => .int _⟩
instance : Same Bool := ⟨1, fun _ => true, fun a _ => .bl _⟩
instance : Same Tx := ⟨1, fun _ => true, fun a _ => .str _⟩
instance : Same Unit := ⟨1, fun _ => true, fun a _ => .non⟩
theorem sm_map {α : Type} [Enc α] [Same α] {l : List α} (h : l.all Same.good = true) {d e : D} {m : Nat} (hm : Same.d α ≤ m) : ∀ (i : Nat) (x y : D), (l.map en)[i]? = some x → (l.map en)[i]? = some y → Gm.Sm m x y := fun i x y a b => by
  rw [a] at b
  cases b
  rw [List.getElem?_map] at a
  cases e : l[i]? with
  | none => rw [e] at a; cases a
  | some z =>
    rw [e] at a
    have a : en z = x := by simpa using a
    rw [← a]
    exact sm_up (Same.sm z (List.all_eq_true.mp h z (List.mem_of_getElem? e))) hm
instance {α : Type} [Enc α] [Same α] : Same (Option α) := ⟨Same.d α + 1, fun o => o.all Same.good, fun o h => by
  cases o with
  | none => exact .non
  | some a => exact sm_up (Same.sm a h) (Nat.le_succ _)⟩
instance {α : Type} [Enc α] [Same α] : Same (List α) := ⟨Same.d α + 1, fun l => decide (l.length ≤ 1000000) && l.all Same.good, fun l h => by
  rw [Bool.and_eq_true, decide_eq_true_iff] at h
  exact .lst rfl rfl rfl (sm_map (d := .non) (e := .non) h.2 (Nat.le_refl _)) (by rw [List.length_map]; exact h.1)⟩
instance {α : Type} [Enc α] [Same α] : Same (Tup α) := ⟨Same.d α + 1, fun l => decide (l.l.length ≤ 1000000) && l.l.all Same.good, fun l h => by
  rw [Bool.and_eq_true, decide_eq_true_iff] at h
  exact .tup rfl (sm_map (d := .non) (e := .non) h.2 (Nat.le_refl _)) (by rw [List.length_map]; exact h.1)⟩
theorem sm_of {n : Nat} : ∀ {l : List D}, (∀ x ∈ l, Gm.Sm n x x) → ∀ (i : Nat) (x y : D), l[i]? = some x → l[i]? = some y → Gm.Sm n x y := fun {l} h i x y a b => by
  rw [a] at b
  cases b
  exact h x (List.mem_of_getElem? a)
instance {α β : Type} [Enc α] [Enc β] [Same α] [Same β] : Same (α × β) := ⟨max (Same.d α) (Same.d β) + 1, fun p => Same.good p.1 && Same.good p.2, fun p h => by
  rw [Bool.and_eq_true] at h
  refine .tup rfl (sm_of fun x hx => ?_) (Nat.le_of_ble_eq_true rfl)
  rcases List.mem_cons.mp hx with rfl | hx
  · exact sm_up (Same.sm _ h.1) (by omega)
  · rcases List.mem_cons.mp hx with rfl | hx
    · exact sm_up (Same.sm _ h.2) (by omega)
    · cases hx⟩
instance {α β γ : Type} [Enc α] [Enc β] [Enc γ] [Same α] [Same β] [Same γ] : Same (T3 α β γ) := ⟨max (Same.d α) (max (Same.d β) (Same.d γ)) + 1, fun p => Same.good p.a && (Same.good p.b && Same.good p.c), fun p h => by
  rw [Bool.and_eq_true, Bool.and_eq_true] at h
  refine .tup rfl (sm_of fun x hx => ?_) (Nat.le_of_ble_eq_true rfl)
  rcases List.mem_cons.mp hx with rfl | hx
  · exact sm_up (Same.sm _ h.1) (by omega)
  · rcases List.mem_cons.mp hx with rfl | hx
    · exact sm_up (Same.sm _ h.2.1) (by omega)
    · rcases List.mem_cons.mp hx with rfl | hx
      · exact sm_up (Same.sm _ h.2.2) (by omega)
      · cases hx⟩
instance {α β γ δ ε : Type} [Enc α] [Enc β] [Enc γ] [Enc δ] [Enc ε] [Same α] [Same β] [Same γ] [Same δ] [Same ε] : Same (H5 α β γ δ ε) := ⟨max (Same.d α) (max (Same.d β) (max (Same.d γ) (max (Same.d δ) (Same.d ε)))) + 1, fun p => Same.good p.a && (Same.good p.b && (Same.good p.c && (Same.good p.d && Same.good p.e))), fun p h => by
  simp only [Bool.and_eq_true] at h
  refine .lst rfl rfl rfl (sm_of fun x hx => ?_) (Nat.le_of_ble_eq_true rfl)
  rcases List.mem_cons.mp hx with rfl | hx
  · exact sm_up (Same.sm _ h.1) (by omega)
  · rcases List.mem_cons.mp hx with rfl | hx
    · exact sm_up (Same.sm _ h.2.1) (by omega)
    · rcases List.mem_cons.mp hx with rfl | hx
      · exact sm_up (Same.sm _ h.2.2.1) (by omega)
      · rcases List.mem_cons.mp hx with rfl | hx
        · exact sm_up (Same.sm _ h.2.2.2.1) (by omega)
        · rcases List.mem_cons.mp hx with rfl | hx
          · exact sm_up (Same.sm _ h.2.2.2.2) (by omega)
          · cases hx⟩
instance {α : Type} [DecidableEq α] : DecidableEq (Tup α) := fun a b => if h : a.l = b.l then isTrue (by cases a; cases b; cases h; rfl) else isFalse fun e => h (by rw [e])
instance {α β γ : Type} [DecidableEq α] [DecidableEq β] [DecidableEq γ] : DecidableEq (T3 α β γ) := fun a b => if h : a.a = b.a ∧ a.b = b.b ∧ a.c = b.c then isTrue (by cases a; cases b; obtain ⟨h1, h2, h3⟩ := h; cases h1; cases h2; cases h3; rfl) else isFalse fun e => h (by rw [e]; exact ⟨rfl, rfl, rfl⟩)
instance {α β γ δ ε : Type} [DecidableEq α] [DecidableEq β] [DecidableEq γ] [DecidableEq δ] [DecidableEq ε] : DecidableEq (H5 α β γ δ ε) := fun a b => if h : a.a = b.a ∧ a.b = b.b ∧ a.c = b.c ∧ a.d = b.d ∧ a.e = b.e then isTrue (by cases a; cases b; obtain ⟨h1, h2, h3, h4, h5⟩ := h; cases h1; cases h2; cases h3; cases h4; cases h5; rfl) else isFalse fun e => h (by rw [e]; exact ⟨rfl, rfl, rfl, rfl, rfl⟩)
def sameT {α : Type} [DecidableEq α] [Enc α] [Same α] (a b : α) : Tz Bool := if a = b ∧ Same.good a = true then .ok true else .no
theorem sameT_ok {α : Type} [DecidableEq α] [Enc α] [Same α] {a b : α} (h : a = b) (g : Same.good a = true) : sameT a b = .ok true := if_pos ⟨h, g⟩
theorem gv_same {bs : List Nat} {h0 : Store} {Φ : Hs} {α : Type} [Enc α] [DecidableEq α] [Same α] (a b : α) (hd : Same.d α ≤ 6 := by decide) : Gv bs h0 Φ (Gm.sameF 6 [en a, en b]) (sameT a b) en fun _ => Φ := fun h c => by
  unfold sameT
  by_cases e : a = b ∧ Same.good a = true
  · rw [if_pos e]
    obtain ⟨rfl, g⟩ := e
    exact ⟨h, sameF_ok (sm_up (Same.sm a g) hd), c⟩
  · rw [if_neg e]
    trivial
theorem al_fzcall {bs : List Nat} {h0 : Store} {pat : Slots} {Φ : Hs} {σ : Type} {t : Tz σ} {v : σ → D} {Φ' : σ → Hs} {F : FnT} {defs : List D} {fs : Ev (List D)} (a : AL bs h0 pat Φ fs (fun ds h => (F (ds ++ defs) h).bind fzK) t v Φ') : Ag bs h0 pat Φ (cFz (cCall F defs fs)) t v Φ' := fun st s => (a st s).cast fun h c => by
  unfold cFz
  rw [ev_call]
  cases fs st h <;> rfl
theorem al_fzmeth {bs : List Nat} {h0 : Store} {pat : Slots} {Φ : Hs} {σ : Type} {t : Tz σ} {v : σ → D} {Φ' : σ → Hs} {F : FnT} {fs : Ev (List D)} {n m : Str} {fo : Ev D} {d : D} {ff : List (Str × D)} (p : Pu bs h0 pat Φ fo d) (e : d = .obj n ff) (hl : ff.lookup m = none) (a : AL bs h0 pat Φ fs (fun ds h => (F (d :: (ds ++ [])) h).bind fzK) t v Φ') : Ag bs h0 pat Φ (cFz (cMeth n m F [] fo fs)) t v Φ' := fun st s => (a st s).cast fun h c => by
  unfold cFz cMeth
  rw [p st h s c, Res.bind_ok, e]
  show Res.bind (if n = n ∧ ff.lookup m = none then _ else _) _ = _
  rw [if_pos ⟨rfl, hl⟩]
  cases fs st h <;> rfl
theorem fz0 {bs : List Nat} {h0 : Store} {Φ : Hs} {σ α : Type} [Enc α] {t : Tz σ} {F : FnT} {ds : List D} {l : σ → List α} (f : FoX F ds [] t fun s => .retc (cl (l s)) []) : Gv bs h0 Φ (fun h => (F ds h).bind fzK) t (fun s => en (l s)) fun _ => Φ := GvC.fz (l := fun s => (l s).map en) (foC0 f)
theorem fz1 {bs : List Nat} {h0 : Store} {Φ : Hs} {σ α : Type} [Enc α] {t : Tz σ} {F : FnT} {ds : List D} {l : σ → List α} {k n : Nat} {c0 : Cell} {cr : σ → Cell} (hk : Φ[k]? = some (n, c0)) (f : FoX F ds [(n, c0)] t fun s => .retc (cl (l s)) [(n, cr s)]) : Gv bs h0 Φ (fun h => (F ds h).bind fzK) t (fun s => en (l s)) fun s => Φ.set k (n, cr s) := GvC.fz (l := fun s => (l s).map en) (foC1 hk f)
theorem fz1r {bs : List Nat} {h0 : Store} {Φ : Hs} {σ α : Type} [Enc α] {t : Tz σ} {F : FnT} {ds : List D} {l : σ → List α} {k n : Nat} {c0 : Cell} (hk : Φ[k]? = some (n, c0)) (f : FoX F ds [(n, c0)] t fun s => .retc (cl (l s)) [(n, c0)]) : Gv bs h0 Φ (fun h => (F ds h).bind fzK) t (fun s => en (l s)) fun _ => Φ := GvC.fz (l := fun s => (l s).map en) (foC1r hk f)
/-! ### calls that only look at cells -/
class Flw (α : Type) [Enc α] : Prop where
  lw : ∀ (a : α) (n : Nat), (en a).lw n = true
instance : Flw Nat := ⟨fun _ _ => rfl⟩
instance : Flw Int := ⟨fun _ _ => rfl⟩
instance : Flw Bool := ⟨fun _ _ => rfl⟩
instance : Flw Tx := ⟨fun _ _ => rfl⟩
instance : Flw Unit := ⟨fun _ _ => rfl⟩
instance {α : Type} [Enc α] [Flw α] : Flw (Option α) := ⟨fun o n => by
  cases o with
  | none => rfl
  | some a => exact Flw.lw a n⟩
theorem lws_en {α : Type} [Enc α] [Flw α] (l : List α) (n : Nat) : D.lws n (l.map en) = true := by
  induction l with
  | nil => rfl
  | cons a l ih =>
    rw [List.map_cons]
    unfold D.lws
    rw [Flw.lw a n, ih] <;> rfl
instance {α : Type} [Enc α] [Flw α] : Flw (List α) := ⟨fun l n => lws_en l n⟩
instance {α : Type} [Enc α] [Flw α] : Flw (Tup α) := ⟨fun l n => lws_en l.l n⟩
instance {α : Type} [Enc α] [Flw α] : Flw (Fro α) := ⟨fun l n => lws_en l.l n⟩
instance {α β : Type} [Enc α] [Enc β] [Flw α] [Flw β] : Flw (α × β) := ⟨fun p n => by
  show ((en p.1).lw n && ((en p.2).lw n && true)) = true
  rw [Flw.lw, Flw.lw] <;> rfl⟩
instance {α β γ : Type} [Enc α] [Enc β] [Enc γ] [Flw α] [Flw β] [Flw γ] : Flw (T3 α β γ) := ⟨fun p n => by
  show ((en p.a).lw n && ((en p.b).lw n && ((en p.c).lw n && true))) = true
  rw [Flw.lw, Flw.lw, Flw.lw] <;> rfl⟩
instance {α β γ δ ε : Type} [Enc α] [Enc β] [Enc γ] [Enc δ] [Enc ε] [Flw α] [Flw β] [Flw γ] [Flw δ] [Flw ε] : Flw (H5 α β γ δ ε) := ⟨fun p n => by
  show ((en p.a).lw n && ((en p.b).lw n && ((en p.c).lw n && ((en p.d).lw n && ((en p.e).lw n && true))))) = true
  rw [Flw.lw, Flw.lw, Flw.lw, Flw.lw, Flw.lw] <;> rfl⟩
section
variable {bs : List Nat} {h0 : Store} {pat : Slots} {Φ : Hs} {σ α β : Type} [Enc α] [Enc β]
theorem thaw_v {d : D} (h : Store) (e : d.lw 0 = true) : thawD h d = some d := by
  cases d with
  | ref n =>
    simp only [D.lw, decide_eq_true_eq] at e
    exact absurd e (Nat.not_lt_zero n)
  | _ =>
    unfold thawD
    dsimp only
    rw [if_pos e]
theorem th_nil (h : Store) (c : Cn bs h0 Φ h) : thaws h [] = some [] := rfl
theorem th_v [Flw α] (a : α) {ds es : List D} (r : ∀ h, Cn bs h0 Φ h → thaws h ds = some es) (h : Store) (c : Cn bs h0 Φ h) : thaws h (en a :: ds) = some (en a :: es) := by
  unfold thaws
  rw [thaw_v h (Flw.lw a 0), r h c]
theorem th_c [Flw α] {k n : Nat} {l : List α} (hk : Φ[k]? = some (n, cl l)) {ds es : List D} (r : ∀ h, Cn bs h0 Φ h → thaws h ds = some es) (h : Store) (c : Cn bs h0 Φ h) : thaws h (.ref n :: ds) = some (en l :: es) := by
  have e : thawD h (.ref n) = some (en l) := by
    unfold thawD
    dsimp only
    rw [c_cell hk c]
    dsimp only
    rw [if_pos (lws_en l 0)] <;> rfl
  unfold thaws
  rw [e, r h c]
class Flat (α : Type) [Enc α] : Prop where
  f : ∀ a : α, (en a).flat.isSome = true
instance : Flat Nat := ⟨fun _ => rfl⟩
instance : Flat Int := ⟨fun _ => rfl⟩
instance : Flat Bool := ⟨fun _ => rfl⟩
instance : Flat Tx := ⟨fun _ => rfl⟩
instance : Flat Unit := ⟨fun _ => rfl⟩
instance {α : Type} [Enc α] [Flat α] : Flat (Option α) := ⟨fun o => by
  cases o with
  | none => rfl
  | some a => exact Flat.f a⟩
theorem gv_pure [Flat α] {F : FnT} {defs ds es : List D} {t : Tz α} (hth : ∀ h, Cn bs h0 Φ h → thaws h ds = some es) (f : FoX F (es ++ defs) [] t fun s => .ret (en s) []) : Gv bs h0 Φ (pureK F defs ds) t.sure en fun _ => Φ := fun h c => by
  have z := f [] ⟨Nat.le_refl _, fun p hp => (by cases hp), by simp, fun _ _ _ => rfl, fun p hp => (by cases hp), fun b hb => (by cases hb)⟩
  cases t with
  | ok s =>
    obtain ⟨d, h', e, h2, e2, c'⟩ := z
    cases e2
    refine ⟨h, ?_, c⟩
    unfold pureK
    rw [hth h c]
    dsimp only
    rw [e]
    dsimp only
    rw [if_pos (Flat.f s)]
  | exc x => trivial
  | no => trivial
theorem ag_pure {F : FnT} {defs : List D} {fs : Ev (List D)} {t : Tz σ} {v : σ → D} {Φ' : σ → Hs} (a : AL bs h0 pat Φ fs (pureK F defs) t v Φ') : Ag bs h0 pat Φ (cPure F defs fs) t v Φ' := a
/-- what is alike, of lists in cells -/
theorem gv_sameP {ds : List D} [DecidableEq α] [Same α] (a b : α) (hth : ∀ h, Cn bs h0 Φ h → thaws h ds = some [en a, en b]) (hd : Same.d α ≤ 6 := by decide) : Gv bs h0 Φ (pureK (Gm.sameF 6) [] ds) (sameT a b) en fun _ => Φ := fun h c => by
  unfold sameT
  by_cases e : a = b ∧ Same.good a = true
  · rw [if_pos e]
    obtain ⟨rfl, g⟩ := e
    refine ⟨h, ?_, c⟩
    unfold pureK
    rw [hth h c]
    show (match Gm.sameF 6 [en a, en a] [] with
      | .ok d _ => if d.flat.isSome = true then Res.ok d h else .no
      | _ => .no) = _
    rw [sameF_ok (sm_up (Same.sm a g) hd)]
    rfl
  · rw [if_neg e]
    trivial
end
theorem ends_raiseF {x f : Str} {dfl : List D} {fs : Ev (List D)} : Ends (sRaiseF x f dfl fs) := fun st h k => by
  unfold sRaiseF
  cases fs st h with
  | ok ds h1 =>
    rw [Res.out_ok]
    split <;> rfl
  | _ => rfl
theorem as_raiseF {bs : List Nat} {h0 : Store} {pat : Slots} {Φ : Hs} {σ : Type} {O : σ → OS} {x f : Str} {dfl : List D} {fs : Ev (List D)} {ds : List D} {d : D} (p : Pu bs h0 pat Φ fs ds) (e : ds ++ dfl = [d] := by rfl) : AgS bs h0 pat Φ (sRaiseF x f dfl fs) (.exc ⟨x, some (f, d)⟩ : Tz σ) O := fun st h sl c => by
  refine ⟨st, h, ?_, c.nil⟩
  unfold sRaiseF
  rw [p st h sl c, Res.out_ok, e]
/-- a text within a text -/
def subX (x y : Tx) : Bool := !(Builtin.Str.occurrences (tx y.l) (tx x.l) 0 (tx y.l).length 1).isEmpty
theorem subX_one (a : Nat) (y : Tx) : subX ⟨[a]⟩ y = decide (a ∈ y.l) := by
  have z := PySem.StrLaws.found_one (tx y.l) a
  rw [tx_cps] at z
  exact z
theorem x_in (x y : Tx) (h : Store) : oIn (en x) (en y) h = .ok (en (subX x y)) h := rfl
theorem x_notin (x y : Tx) (h : Store) : oNotIn (en x) (en y) h = .ok (en (!subX x y)) h := rfl
/-- how many unlike texts -/
def lenSetX (xs : List Tx) : Tz Nat := gd (xs.length ≤ 1000) (dst (xs.map fun x => tx x.l) xs.length)
theorem strs_en (xs : List Tx) : strsOf (xs.map en) = some (xs.map fun x => tx x.l) := by
  have z := Gm.strs_map (xs.map fun x => tx x.l)
  rw [List.map_map] at z
  exact z
theorem ag_lenSet {bs : List Nat} {h0 : Store} {pat : Slots} {Φ : Hs} {fe : Ev D} {xs : List Tx} (p : Pu bs h0 pat Φ fe (en xs)) : Ag bs h0 pat Φ (cLenSet fe) (lenSetX xs) en fun _ => Φ := fun st s => Gv.gd fun hc h c => by
  have e1 : asR h (en xs) = some (xs.map en) := rfl
  unfold cLenSet
  rw [p st h s c, Res.bind_ok]
  simp only [e1, strs_en, List.length_map]
  rw [if_pos hc] <;> rfl
theorem agc_sl {bs : List Nat} {h0 : Store} {pat : Slots} {Φ : Hs} {τ : Type} {t : Tz τ} {fe : Ev D} {fl fh : Ev (Option Int)} {l : τ → List D} {Φ' : τ → Hs} (p : Ag bs h0 pat Φ (cSl false fe fl fh) t (fun x => .lst (l x)) Φ') : AgC bs h0 pat Φ (cSl true fe fl fh) t (fun x => .lst (l x)) Φ' := agc_of p (fun st h l' h' _ _ e => by
    unfold cSl at e ⊢
    cases e2 : fe st h with
    | ok d h1 =>
      rw [e2, Res.bind_ok] at e
      rw [Res.bind_ok]
      cases e3 : fl st h1 with
      | ok lo h2 =>
        rw [e3, Res.bind_ok] at e
        rw [Res.bind_ok]
        cases e4 : fh st h2 with
        | ok hi h3 =>
          rw [e4, Res.bind_ok] at e
          rw [Res.bind_ok]
          unfold oSl at e ⊢
          split at e
          · split at e <;> cases e
          · split at e
            · cases e; rfl
            · cases e
        | exc x h3 => rw [e4] at e; cases e
        | no => rw [e4] at e; cases e
      | exc x h3 => rw [e3] at e; cases e
      | no => rw [e3] at e; cases e
    | exc x h1 => rw [e2] at e; cases e
    | no => rw [e2] at e; cases e) fun st h x h' _ _ e => by
    unfold cSl at e ⊢
    cases e2 : fe st h with
    | ok d h1 =>
      rw [e2, Res.bind_ok] at e
      rw [Res.bind_ok]
      cases e3 : fl st h1 with
      | ok lo h2 =>
        rw [e3, Res.bind_ok] at e
        rw [Res.bind_ok]
        cases e4 : fh st h2 with
        | ok hi h3 =>
          rw [e4, Res.bind_ok] at e
          unfold oSl at e
          split at e
          · split at e <;> cases e
          · split at e <;> cases e
        | exc x h3 => rw [e4] at e; exact e
        | no => rw [e4] at e; cases e
      | exc x h3 => rw [e3] at e; exact e
      | no => rw [e3] at e; cases e
    | exc x h1 => rw [e2] at e; exact e
    | no => rw [e2] at e; cases e
/-- a text some times -/
def repX (x : Tx) (n : Nat) : Tz Tx := gd (n ≤ 3000 ∧ x.l.length ≤ 300) ⟨(List.replicate n x.l).flatten⟩
theorem repX_ok {x : Tx} {n : Nat} (h1 : n ≤ 3000) (h2 : x.l.length ≤ 300) : repX x n = .ok ⟨(List.replicate n x.l).flatten⟩ := gd_ok ⟨h1, h2⟩
theorem fold_app (c : Array Nat) : ∀ (n : Nat) (b : Array Nat), ((List.replicate n c).foldl (· ++ ·) b).toList = b.toList ++ (List.replicate n c.toList).flatten
  | 0, b => by simp
  | n + 1, b => by
    rw [List.replicate_succ, List.foldl_cons, fold_app c n, List.replicate_succ, List.flatten_cons, Array.toList_append, List.append_assoc]
theorem repS_tx (l : List Nat) (n : Nat) : repS (tx l) (n : Int) = tx (List.replicate n l).flatten := by
  unfold repS
  by_cases h0 : n = 0
  · subst h0
    rfl
  · rw [if_neg (by omega)]
    by_cases h1 : ((n : Int) == 1 || (tx l).length == 0) = true
    · rw [if_pos h1]
      rw [Bool.or_eq_true, beq_iff_eq, beq_iff_eq, tx_len] at h1
      rcases h1 with h1 | h1
      · have : n = 1 := by omega
        subst this
        simp
      · have : l = [] := List.eq_nil_of_length_eq_zero h1
        subst this
        have e : (List.replicate n ([] : List Nat)).flatten = [] := by
          induction n with
          | zero => rfl
          | succ n ih => 
            by_cases hn : n = 0
            · subst hn; rfl
            · rw [List.replicate_succ, List.flatten_cons, ih hn]; rfl
        rw [e]
    · rw [if_neg h1, Int.toNat_natCast]
      have e := fold_app (tx l).cps n #[]
      rw [tx_cps] at e
      have e2 : ((List.replicate n (tx l).cps).foldl (· ++ ·) #[]).toList = (List.replicate n l).flatten := by simpa using e
      have e3 := SX.S_tl ⟨(List.replicate n (tx l).cps).foldl (· ++ ·) #[]⟩
      rw [← e3]
      show SX.S _ = _
      rw [e2] <;> rfl
theorem x_rep {bs : List Nat} {h0 : Store} {Φ : Hs} (x : Tx) (n : Nat) : Gv bs h0 Φ (oMulS (en x) (en n)) (repX x n) en fun _ => Φ := Gv.gd fun hc h _ => by
  show (if (0 : Int) ≤ (n : Int) ∧ (n : Int) ≤ 3000 ∧ (tx x.l).length ≤ 300 then Res.ok (D.str (repS (tx x.l) (n : Int))) h else Res.no) = _
  rw [if_pos ⟨by omega, by omega, by rw [tx_len]; exact hc.2⟩, repS_tx]
  rfl
/-! ### what is tried -/
/-- the word of an exception -/
def kinT (TF : Res D → Res D) (x : Exn) : Option Tx := match TF (.exc x []) with
  | .ok (.tup [.non, .str s]) _ => some ⟨s.cps.toList⟩
  | _ => none
def triedT {α : Type} (k : Exn → Option Tx) (t : Tz α) : Tz (Option α × Tx) := match t with
  | .ok a => .ok (some a, ⟨[]⟩)
  | .exc x => match k x with
    | some w => .ok (none, w)
    | none => .no
  | .no => .no
theorem ag_tried {bs : List Nat} {h0 : Store} {pat : Slots} {Φ : Hs} {α : Type} [Enc α] {T : ExcT} {f : Str → Bool} {fx : Ev D} {fb : Ev D} {w0 : Str} {t : Tz α} (hw : w0 = tx []) (a : ∀ h1, Ag [] h1 pat [] fb t en fun _ => []) :
    Ag bs h0 pat Φ (cTried (triedF T f w0 fx) fb) (triedT (kinT (triedF T f w0 fx)) t) en fun _ => Φ := fun st s h c => by
  have z := a h st s h ⟨Nat.le_refl _, fun p hp => (by cases hp), by simp, fun _ _ _ => rfl, fun p hp => (by cases hp), fun b hb => (by cases hb)⟩
  cases t with
  | ok x =>
    obtain ⟨h', e, c'⟩ := z
    refine ⟨h', ?_, c.ext ⟨c'.len, fun m hm => c'.old m hm (by simp)⟩⟩
    unfold cTried
    rw [e, hw]
    rfl
  | exc x =>
    obtain ⟨h', e, c'⟩ := z
    have c2 := c.ext (h' := h') ⟨c'.len, fun m hm => c'.old m hm (by simp)⟩
    unfold triedT
    dsimp only
    cases ek : kinT (triedF T f w0 fx) x with
    | none => trivial
    | some w =>
      refine ⟨h', ?_, c2⟩
      unfold kinT at ek
      unfold cTried
      rw [e]
      unfold triedF at ek ⊢
      dsimp only at ek ⊢
      by_cases hx : x.cls ∈ T.ns ∧ f x.cls = true
      · rw [if_pos hx] at ek ⊢
        cases ev : hotV 4 (some 3) fx x with
        | none => rw [ev] at ek; cases ek
        | some d =>
          rw [ev] at ek
          dsimp only at ek ⊢
          split at ek
          · rename_i s _ e3
            cases e3
            cases ek
            show Res.ok (D.tup [D.non, D.str s]) h' = .ok (D.tup [D.non, D.str (tx s.cps.toList)]) h'
            have e4 : tx s.cps.toList = s := SX.S_tl s
            rw [e4]
          · cases ek
      · rw [if_neg hx] at ek
        cases ek
  | no => trivial
end Gt

/-! Gp0: the program's and the laws' own kinds of data. -/
namespace Gp
open PySem PySem.Spec PyProof.Rows Gm Gt
def fuel : Nat := 1000000000
structure NetT where
  ins : List Tx
  lat : List (Tx × Nat)
  gat : List (Nat × Nat)
  out : List (Tx × Nat)
  nxt : List Nat
instance : Enc NetT := ⟨fun s => .obj "Net" [("ins", en s.ins), ("memory", en s.lat), ("pairs", en s.gat), ("tells", en s.out), ("later", en s.nxt)]⟩
structure Bxs where
  nums : List Int
  pos : Nat
  rest : Int
  seed : Int
def boxc (b : Bxs) : Cell := .lst [en b.nums, en b.pos, en b.rest, en b.seed]
end Gp

namespace Gp
open PySem PySem.Spec PyProof.Rows Gm Gt
def B_law_box : Ss :=
  (sSeq (sSet 1 (cK (.int 7919)))
  (sSeq (sFor (iSeqD (cSl false (cVar 0) cNoPart (cPart (cK (.int 63))))) (gtName 2) (sSet 1 (cBin oMod (cBin (oAdd false) (cBin (oAdd false) (cBin oMul (cVar 1) (cK (.int 48271))) (cBin oMod (cVar 2) (cK (.int 1000003)))) (cK (.int 11))) (cK (.int 2147483647)))))
  (sRet (cLst true (cCons (cB (fList false) (cCons (cSl false (cVar 0) cNoPart (cPart (cK (.int 63)))) cNil)) (cCons (cK (.int 0)) (cCons (cK (.int 0)) (cCons (cVar 1) cNil))))))))
def F_law_box : FnT := fnOf 3 1 B_law_box
def T_law_box (scriptV : (Fro Int)) : Tz Bxs :=
  (Tz.lt (α := Int) (7919 : Int) fun seed_1 =>
  ((foldT (fun (g2 : Int) (x3 : Int) =>
  (((((mulI g2 (48271 : Int)).bind fun s8 => (Tz.ok (s8 + (x3 % (1000003 : Int))))).bind fun s9 => (Tz.ok (s9 + (11 : Int)))).bind fun s10 => (Tz.ok (s10 % (2147483647 : Int)))).bind fun seed_11 =>
  (Tz.ok seed_11))) (scriptV.l.take 63) seed_1).bind fun g2 =>
  (Tz.ok (Bxs.mk (scriptV.l.take 63) 0 (0 : Int) g2))))
theorem ag_law_box  (scriptV : (Fro Int)) : FoX F_law_box [en scriptV] [] (T_law_box scriptV) (fun s => .retc (boxc s) []) :=
  fn_foC (ce := fun (s : Bxs) => (boxc s)) (Q := fun s => []) rfl rfl fun h0 =>
  (as_setL (x := (7919 : Int)) pu_k fun seed_1 =>
  (as_seq (as_forP (S := fun (g2 : Int) => [some (en (scriptV : (Fro Int))), some (en (g2 : Int)), none]) (Q := fun g2 => []) (e := fun (y : Int) => en y) (pu_seq (pu_slF (pu_var rfl) pu_nopart (pu_part pu_k) (cut_to' _ _)) rfl) tm_name ⟨.inr rfl, ⟨.inr rfl, ⟨.inl rfl, trivial⟩⟩⟩ .slnil (fun _ _ _ => rfl) fun g2 x3 =>
  (as_last (as_setS (ag_bin (al_e (v1 := (fun (s10 : Int) => en s10)) (ag_bin (al_e (v1 := (fun (s9 : Int) => en s9)) (ag_bin (al_e (v1 := (fun (s8 : Int) => en s8)) (ag_bin (al_p (pu_var rfl) (al_p pu_k (al_nil (ii_mul g2 (48271 : Int)))))) fun s8 => (al_p (pu_bin (pu_var rfl) pu_k (fun h c => ii_modP x3 (1000003 : Int) (by decide) h)) (al_nil (gp (fun h c => ii_add s8 (x3 % (1000003 : Int)) false h)))))) fun s9 => (al_p pu_k (al_nil (gp (fun h c => ii_add s9 (11 : Int) false h)))))) fun s10 => (al_p pu_k (al_nil (gp (fun h c => ii_modP s10 (2147483647 : Int) (by decide) h)))))) fun seed_11 =>
  (as_endL rfl ⟨.inr rfl, ⟨.inr rfl, ⟨.inl rfl, trivial⟩⟩⟩ .slnil)))) fun g2 =>
  (as_last (as_ends ends_ret (as_retCT (agc_cell (x := (Bxs.mk (scriptV.l.take 63) 0 (0 : Int) g2)) (ce := boxc) (pu_lst (pu_cons (pu_cb (pu_cons (pu_slF (pu_var rfl) pu_nopart (pu_part pu_k) (cut_to' _ _)) pu_nil) (fun h c => l_list (scriptV.l.take 63) h)) (pu_cons pu_k (pu_cons pu_k (pu_cons (pu_var rfl) pu_nil)))))) fun _ => ⟨_, rfl, .slnil⟩)))))
def B_law_take : Ss :=
  (sSeq (sIf (cTv (cBin oGt (cBin oIx (cVar 0) (cK (.int 2))) (cK (.int 0)))) (sSeq (sSet 2 (cBin oIx (cVar 0) (cK (.int 2))))
  (sSeq (sPut (cBin oDiv (cVar 2) (cVar 1)) (cVar 0) (cK (.int 2)))
  (sRet (cBin oMod (cVar 2) (cVar 1)))))
  sNil)
  (sSeq (sSet 3 (cK (.int 0)))
  (sSeq (sIf (cTv (cBin oLt (cBin oIx (cVar 0) (cK (.int 1))) (cB fLen (cCons (cBin oIx (cVar 0) (cK (.int 0))) cNil)))) (sSet 3 (cBin oIx (cBin oIx (cVar 0) (cK (.int 0))) (cBin oIx (cVar 0) (cK (.int 1)))))
  sNil)
  (sSeq (sAugAt oAddI (cVar 0) (cK (.int 1)) (cK (.int 1)))
  (sSeq (sIf (cTv (cBin oGe (cVar 3) (cBin oPow (cK (.int 10)) (cK (.int 18))))) (sSeq (sPut (cBin oDiv (cVar 3) (cVar 1)) (cVar 0) (cK (.int 2)))
  (sRet (cBin oMod (cVar 3) (cVar 1))))
  sNil)
  (sSeq (sSet 4 (cBin oMod (cBin (oAdd false) (cBin (oAdd false) (cBin oIx (cVar 0) (cK (.int 3))) (cBin oMul (cBin oMod (cVar 3) (cK (.int 2147483629))) (cK (.int 69621)))) (cBin oMul (cBin oIx (cVar 0) (cK (.int 1))) (cK (.int 104729)))) (cK (.int 2147483587))))
  (sSeq (sSet 4 (cBin oMod (cBin (oAdd false) (cBin (oAdd false) (cBin oMul (cVar 4) (cVar 4)) (cBin oMul (cK (.int 40961)) (cVar 4))) (cK (.int 77))) (cK (.int 2147483629))))
  (sSeq (sPut (cBin oMod (cBin (oAdd false) (cBin (oAdd false) (cBin oMul (cVar 4) (cK (.int 16807))) (cBin oMod (cBin oIx (cVar 0) (cK (.int 3))) (cK (.int 8191)))) (cK (.int 5))) (cK (.int 2147483587))) (cVar 0) (cK (.int 3)))
  (sRet (cBin oMod (cBin oDiv (cBin oIx (cVar 0) (cK (.int 3))) (cK (.int 61))) (cVar 1)))))))))))
def F_law_take : FnT := fnOf 5 2 B_law_take
def T_law_take (boxC : Bxs) (manyV : Nat) : Tz (Nat × Bxs) :=
  (if (decide ((0 : Int) < boxC.rest)) = true then
  ((divI boxC.rest (manyV : Int)).bind fun box_1 =>
  (((modI boxC.rest (manyV : Int)).bind toN).bind fun x => Tz.ok (x, ({ boxC with rest := box_1 } : Bxs))))
  else
  (Tz.lt (α := Int) (0 : Int) fun one_2 =>
  ((if (decide (boxC.pos < boxC.nums.length)) = true then ((ixT boxC.nums boxC.pos).bind fun one_4 =>
  (Tz.ok one_4)) else (Tz.ok one_2) : Tz Int).bind fun g3 =>
  ((Tz.ok ()).bind fun _ =>
  (if (decide ((1000000000000000000 : Int) ≤ g3)) = true then
  ((divI g3 (manyV : Int)).bind fun box_5 =>
  (((modI g3 (manyV : Int)).bind toN).bind fun x => Tz.ok (x, ({ ({ boxC with pos := (boxC.pos + 1) } : Bxs) with rest := box_5 } : Bxs))))
  else
  (((((mulI (g3 % (2147483629 : Int)) (69621 : Int)).bind fun s11 => (Tz.ok (({ boxC with pos := (boxC.pos + 1) } : Bxs).seed + s11))).bind fun s12 => ((mulT ({ boxC with pos := (boxC.pos + 1) } : Bxs).pos 104729).bind fun s13 => (Tz.ok (s12 + (s13 : Int))))).bind fun s14 => (Tz.ok (s14 % (2147483587 : Int)))).bind fun mixed_15 =>
  (((((mulI mixed_15 mixed_15).bind fun s23 => ((mulI (40961 : Int) mixed_15).bind fun s24 => (Tz.ok (s23 + s24)))).bind fun s25 => (Tz.ok (s25 + (77 : Int)))).bind fun s26 => (Tz.ok (s26 % (2147483629 : Int)))).bind fun mixed_27 =>
  (((((mulI mixed_27 (16807 : Int)).bind fun s32 => (Tz.ok (s32 + (({ boxC with pos := (boxC.pos + 1) } : Bxs).seed % (8191 : Int))))).bind fun s33 => (Tz.ok (s33 + (5 : Int)))).bind fun s34 => (Tz.ok (s34 % (2147483587 : Int)))).bind fun box_35 =>
  (((modI (({ ({ boxC with pos := (boxC.pos + 1) } : Bxs) with seed := box_35 } : Bxs).seed / (61 : Int)) (manyV : Int)).bind toN).bind fun x => Tz.ok (x, ({ ({ boxC with pos := (boxC.pos + 1) } : Bxs) with seed := box_35 } : Bxs)))))))))))
theorem ag_law_take (n_box : Nat) (boxC : Bxs) (manyV : Nat) : FoX F_law_take [.ref n_box, en manyV] [(n_box, (boxc boxC))] (T_law_take boxC manyV) (fun s => .ret (en s.1) [(n_box, (boxc s.2))]) :=
  fn_fo (v := fun (s : (Nat × Bxs)) => en s.1) (Q := fun (s : (Nat × Bxs)) => [(n_box, (boxc s.2))]) rfl rfl (by simp) fun h0 =>
  (as_ifP (pu_tv (pu_bin (pu_bin (pu_var rfl) pu_k fun h c => c_ixH (k := 0) rfl rfl h c) pu_k (fun h c => ii_gt boxC.rest (0 : Int) h)))
  (as_assoc (as_setP (pu_bin (pu_var rfl) pu_k fun h c => c_ixH (k := 0) rfl rfl h c) (as_assoc (as_seq (as_putH (k := 0) (ce := fun (box_1 : Int) => (boxc ({ boxC with rest := box_1 } : Bxs))) (ag_bin (al_p (pu_var rfl) (al_p (pu_var rfl) (al_nil (ii_div boxC.rest (manyV : Int)))))) rfl (pu_var rfl) pu_k ⟨2, rfl, fun _ => rfl⟩) fun box_1 =>
  (as_ends ends_ret (as_retO (k := fun (x : Nat) => (x, ({ boxC with rest := box_1 } : Bxs))) (i_toN (ag_bin (al_p (pu_var rfl) (al_p (pu_var rfl) (al_nil (ii_mod boxC.rest (manyV : Int)))))) fun _ => rfl) fun _ => ⟨_, rfl, (.cons₂ _ .slnil)⟩))))))
  (as_nilS (as_setL (x := (0 : Int)) pu_k fun one_2 =>
  (as_seq (as_joinP (O := fun (g3 : Int) => .next [some (.ref n_box), some (en (manyV : Nat)), none, some (en (g3 : Int)), none] [(n_box, (boxc boxC))]) (pu_tv (pu_bin (pu_bin (pu_var rfl) pu_k fun h c => c_ixH (k := 0) rfl rfl h c) (pu_cb (pu_cons (pu_bin (pu_var rfl) pu_k fun h c => c_ixH (k := 0) rfl rfl h c) pu_nil) (fun h c => l_len boxC.nums h)) (fun h c => nn_lt boxC.pos boxC.nums.length h))) (as_last (as_setS (ag_bin (al_p (pu_bin (pu_var rfl) pu_k fun h c => c_ixH (k := 0) rfl rfl h c) (al_p (pu_bin (pu_var rfl) pu_k fun h c => c_ixH (k := 0) rfl rfl h c) (al_nil (l_ix boxC.nums boxC.pos))))) fun one_4 =>
  (as_end rfl ⟨.inr rfl, ⟨.inr rfl, ⟨.inl rfl, ⟨.inr rfl, ⟨.inl rfl, trivial⟩⟩⟩⟩⟩ (.cons₂ _ .slnil)))) (as_end rfl ⟨.inr rfl, ⟨.inr rfl, ⟨.inl rfl, ⟨.inr rfl, ⟨.inl rfl, trivial⟩⟩⟩⟩⟩ (.cons₂ _ .slnil))) fun g3 =>
  (as_seq (as_augH (k := 0) (ce := (boxc ({ boxC with pos := (boxC.pos + 1) } : Bxs))) rfl (pu_var rfl) pu_k pu_k rfl (fun h => nn_addI boxC.pos 1 h) ⟨1, rfl, rfl⟩) fun _ =>
  (as_ifP (pu_tv (pu_bin (pu_var rfl) (pu_bin pu_k pu_k fun h _ => pow_lit (by decide) (by decide +kernel) h) (fun h c => ii_ge g3 (1000000000000000000 : Int) h)))
  (as_assoc (as_seq (as_putH (k := 0) (ce := fun (box_5 : Int) => (boxc ({ ({ boxC with pos := (boxC.pos + 1) } : Bxs) with rest := box_5 } : Bxs))) (ag_bin (al_p (pu_var rfl) (al_p (pu_var rfl) (al_nil (ii_div g3 (manyV : Int)))))) rfl (pu_var rfl) pu_k ⟨2, rfl, fun _ => rfl⟩) fun box_5 =>
  (as_ends ends_ret (as_retO (k := fun (x : Nat) => (x, ({ ({ boxC with pos := (boxC.pos + 1) } : Bxs) with rest := box_5 } : Bxs))) (i_toN (ag_bin (al_p (pu_var rfl) (al_p (pu_var rfl) (al_nil (ii_mod g3 (manyV : Int)))))) fun _ => rfl) fun _ => ⟨_, rfl, (.cons₂ _ .slnil)⟩))))
  (as_nilS (as_setS (ag_bin (al_e (v1 := (fun (s14 : Int) => en s14)) (ag_bin (al_e (v1 := (fun (s12 : Int) => en s12)) (ag_bin (al_p (pu_bin (pu_var rfl) pu_k fun h c => c_ixH (k := 0) rfl rfl h c) (al_e (v1 := (fun (s11 : Int) => en s11)) (ag_bin (al_p (pu_bin (pu_var rfl) pu_k (fun h c => ii_modP g3 (2147483629 : Int) (by decide) h)) (al_p pu_k (al_nil (ii_mul (g3 % (2147483629 : Int)) (69621 : Int)))))) fun s11 => (al_nil (gp (fun h c => ii_add ({ boxC with pos := (boxC.pos + 1) } : Bxs).seed s11 false h)))))) fun s12 => (al_e (v1 := (fun (s13 : Nat) => en s13)) (ag_bin (al_p (pu_bin (pu_var rfl) pu_k fun h c => c_ixH (k := 0) rfl rfl h c) (al_p pu_k (al_nil (nn_mul ({ boxC with pos := (boxC.pos + 1) } : Bxs).pos 104729))))) fun s13 => (al_nil (gp (fun h c => ii_add s12 (s13 : Int) false h)))))) fun s14 => (al_p pu_k (al_nil (gp (fun h c => ii_modP s14 (2147483587 : Int) (by decide) h)))))) fun mixed_15 =>
  (as_setS (ag_bin (al_e (v1 := (fun (s26 : Int) => en s26)) (ag_bin (al_e (v1 := (fun (s25 : Int) => en s25)) (ag_bin (al_e (v1 := (fun (s23 : Int) => en s23)) (ag_bin (al_p (pu_var rfl) (al_p (pu_var rfl) (al_nil (ii_mul mixed_15 mixed_15))))) fun s23 => (al_e (v1 := (fun (s24 : Int) => en s24)) (ag_bin (al_p pu_k (al_p (pu_var rfl) (al_nil (ii_mul (40961 : Int) mixed_15))))) fun s24 => (al_nil (gp (fun h c => ii_add s23 s24 false h)))))) fun s25 => (al_p pu_k (al_nil (gp (fun h c => ii_add s25 (77 : Int) false h)))))) fun s26 => (al_p pu_k (al_nil (gp (fun h c => ii_modP s26 (2147483629 : Int) (by decide) h)))))) fun mixed_27 =>
  (as_seq (as_putH (k := 0) (ce := fun (box_35 : Int) => (boxc ({ ({ boxC with pos := (boxC.pos + 1) } : Bxs) with seed := box_35 } : Bxs))) (ag_bin (al_e (v1 := (fun (s34 : Int) => en s34)) (ag_bin (al_e (v1 := (fun (s33 : Int) => en s33)) (ag_bin (al_e (v1 := (fun (s32 : Int) => en s32)) (ag_bin (al_p (pu_var rfl) (al_p pu_k (al_nil (ii_mul mixed_27 (16807 : Int)))))) fun s32 => (al_p (pu_bin (pu_bin (pu_var rfl) pu_k fun h c => c_ixH (k := 0) rfl rfl h c) pu_k (fun h c => ii_modP ({ boxC with pos := (boxC.pos + 1) } : Bxs).seed (8191 : Int) (by decide) h)) (al_nil (gp (fun h c => ii_add s32 (({ boxC with pos := (boxC.pos + 1) } : Bxs).seed % (8191 : Int)) false h)))))) fun s33 => (al_p pu_k (al_nil (gp (fun h c => ii_add s33 (5 : Int) false h)))))) fun s34 => (al_p pu_k (al_nil (gp (fun h c => ii_modP s34 (2147483587 : Int) (by decide) h)))))) rfl (pu_var rfl) pu_k ⟨3, rfl, fun _ => rfl⟩) fun box_35 =>
  (as_last (as_ends ends_ret (as_retO (k := fun (x : Nat) => (x, ({ ({ boxC with pos := (boxC.pos + 1) } : Bxs) with seed := box_35 } : Bxs))) (i_toN (ag_bin (al_p (pu_bin (pu_bin (pu_var rfl) pu_k fun h c => c_ixH (k := 0) rfl rfl h c) pu_k (fun h c => ii_divP ({ ({ boxC with pos := (boxC.pos + 1) } : Bxs) with seed := box_35 } : Bxs).seed (61 : Int) (by decide) h)) (al_p (pu_var rfl) (al_nil (ii_mod (({ ({ boxC with pos := (boxC.pos + 1) } : Bxs) with seed := box_35 } : Bxs).seed / (61 : Int)) (manyV : Int)))))) fun _ => rfl) fun _ => ⟨_, rfl, (.cons₂ _ .slnil)⟩)))))))))))))
def B_law_names : Ss :=
  (sSeq (sSet 2 (cK (.str (PySem.Str.ofString "abcdefghijklmnopqrstuvwxyz"))))
  (sSeq (sSet 3 (cCall F_law_take [] (cCons (cVar 0) (cCons (cK (.int 8)) cNil))))
  (sSeq (sSet 4 (cCall F_law_take [] (cCons (cVar 0) (cCons (cK (.int 26)) cNil))))
  (sSeq (sIf (cTv (cBin oEq (cVar 3) (cK (.int 7)))) (sRet (cLc true (iRange1 (cCons (cVar 1) cNil)) (fName 8) cYes (cBin oMulS (cBin oIx (cVar 2) (cBin (oAdd false) (cBin oMod (cVar 4) (cK (.int 20))) (cBin oDiv (cVar 8) (cK (.int 8))))) (cBin (oAdd false) (cK (.int 1)) (cBin oMod (cVar 8) (cK (.int 8))))) [8]))
  sNil)
  (sSeq (sSet 5 (cBin oIx (cLst false (cCons (cK (.str (PySem.Str.ofString ""))) (cCons (cK (.str (PySem.Str.ofString "q"))) (cCons (cK (.str (PySem.Str.ofString "ab"))) (cCons (cK (.str (PySem.Str.ofString "gate"))) (cCons (cK (.str (PySem.Str.ofString "aaaaaaa"))) (cCons (cK (.str (PySem.Str.ofString "zzyzx"))) (cCons (cK (.str (PySem.Str.ofString "bb"))) cNil)))))))) (cVar 3)))
  (sSeq (sSet 6 (cCall F_law_take [] (cCons (cVar 0) (cCons (cBin (oAdd false) (cB fLen (cCons (cVar 5) cNil)) (cK (.int 1))) cNil))))
  (sSeq (sSet 7 (cBin oIx (cLst false (cCons (cK (.int 1)) (cCons (cK (.int 3)) (cCons (cK (.int 5)) (cCons (cK (.int 7)) (cCons (cK (.int 9)) (cCons (cK (.int 11)) cNil))))))) (cCall F_law_take [] (cCons (cVar 0) (cCons (cK (.int 6)) cNil)))))
  (sRet (cLc true (iRange1 (cCons (cVar 1) cNil)) (fName 8) cYes (cBin (oAdd false) (cBin (oAdd false) (cSl false (cVar 5) cNoPart (cPart (cVar 6))) (cBin oIx (cVar 2) (cBin oMod (cBin (oAdd false) (cVar 4) (cBin oMul (cVar 7) (cVar 8))) (cK (.int 26))))) (cSl false (cVar 5) (cPart (cVar 6)) cNoPart)) [8])))))))))
def F_law_names : FnT := fnOf 9 2 B_law_names
def T_law_names (boxC : Bxs) (manyV : Nat) : Tz ((List Tx) × Bxs) :=
  (Tz.lt (α := Tx) (Tx.mk [97, 98, 99, 100, 101, 102, 103, 104, 105, 106, 107, 108, 109, 110, 111, 112, 113, 114, 115, 116, 117, 118, 119, 120, 121, 122]) fun letters_1 =>
  ((T_law_take boxC 8).bind fun which_2 =>
  ((T_law_take which_2.2 26).bind fun first_3 =>
  (if (decide (which_2.1 = 7)) = true then
  (((rng manyV).bind fun s => mapT (fun (x4 : Nat) => ((ixX letters_1 ((first_3.1 % 20) + (x4 / 8))).bind fun s5 => (repX s5 (1 + (x4 % 8))))) s).bind fun x => Tz.ok (x, first_3.2))
  else
  ((ixT [(Tx.mk []), (Tx.mk [113]), (Tx.mk [97, 98]), (Tx.mk [103, 97, 116, 101]), (Tx.mk [97, 97, 97, 97, 97, 97, 97]), (Tx.mk [122, 122, 121, 122, 120]), (Tx.mk [98, 98])] which_2.1).bind fun stem_6 =>
  ((((lenX stem_6).bind fun s8 => (Tz.ok (s8 + 1))).bind fun s9 => (T_law_take first_3.2 s9)).bind fun at_10 =>
  (((T_law_take at_10.2 6).bind fun s11 => ((ixT [1, 3, 5, 7, 9, 11] s11.1).bind fun x => Tz.ok (x, s11.2))).bind fun step_12 =>
  (((rng manyV).bind fun s => mapT (fun (x13 : Nat) => (((cutX stem_6 none (some ((at_10.1 : Nat) : Int))).bind fun s37 => (((((mulT step_12.1 x13).bind fun s42 => (Tz.ok (first_3.1 + s42))).bind fun s43 => (Tz.ok (s43 % 26))).bind fun s44 => (ixX letters_1 s44)).bind fun s45 => (catX s37 s45))).bind fun s46 => ((cutX stem_6 (some ((at_10.1 : Nat) : Int)) none).bind fun s47 => (catX s46 s47)))) s).bind fun x => Tz.ok (x, step_12.2)))))))))
theorem ag_law_names (n_box : Nat) (boxC : Bxs) (manyV : Nat) : FoX F_law_names [.ref n_box, en manyV] [(n_box, (boxc boxC))] (T_law_names boxC manyV) (fun s => .retc (cl s.1) [(n_box, (boxc s.2))]) :=
  fn_foC (ce := fun (s : ((List Tx) × Bxs)) => (cl s.1)) (Q := fun s => [(n_box, (boxc s.2))]) rfl rfl fun h0 =>
  (as_setL (x := (Tx.mk [97, 98, 99, 100, 101, 102, 103, 104, 105, 106, 107, 108, 109, 110, 111, 112, 113, 114, 115, 116, 117, 118, 119, 120, 121, 122])) (pu_x (Tx.mk [97, 98, 99, 100, 101, 102, 103, 104, 105, 106, 107, 108, 109, 110, 111, 112, 113, 114, 115, 116, 117, 118, 119, 120, 121, 122]) (by decide +kernel)) fun letters_1 =>
  (as_setS (ag_call (al_p (pu_var rfl) (al_p pu_k (al_nil (fo1 (k := 0) rfl (ag_law_take n_box boxC 8)))))) fun which_2 =>
  (as_setS (ag_call (al_p (pu_var rfl) (al_p pu_k (al_nil (fo1 (k := 0) rfl (ag_law_take n_box which_2.2 26)))))) fun first_3 =>
  (as_ifP (pu_tv (pu_bin (pu_var rfl) pu_k (fun h c => nn_eq which_2.1 7 h)))
  (as_ends ends_ret (as_retC (k := fun x => (x, first_3.2)) (agc_lc (l := fun (x : List Tx) => x.map en) (ag_lcE (e := fun (y : Nat) => en y) (v := fun (y : Tx) => en y) (ag_range1 (al_p (pu_var rfl) (al_nil (bR1_ok manyV)))) fm_name (fun _ => rfl) fun x4 => (ag_bin (al_e (v1 := (fun (s5 : Tx) => en s5)) (ag_bin (al_p (pu_var rfl) (al_p (pu_bin (pu_bin (pu_var rfl) pu_k (fun h c => nn_modP first_3.1 20 (by decide) h)) (pu_bin (pu_var rfl) pu_k (fun h c => nn_divP x4 8 (by decide) h)) (fun h c => nn_add (first_3.1 % 20) (x4 / 8) false h)) (al_nil (x_ix letters_1 ((first_3.1 % 20) + (x4 / 8))))))) fun s5 => (al_p (pu_bin pu_k (pu_bin (pu_var rfl) pu_k (fun h c => nn_modP x4 8 (by decide) h)) (fun h c => nn_add 1 (x4 % 8) false h)) (al_nil (x_rep s5 (1 + (x4 % 8))))))))) fun _ => ⟨_, rfl, (.cons₂ _ .slnil)⟩))
  (as_nilS (as_setS (ag_bin (al_p (pu_lst (pu_cons (pu_x (Tx.mk []) (by decide +kernel)) (pu_cons (pu_x (Tx.mk [113]) (by decide +kernel)) (pu_cons (pu_x (Tx.mk [97, 98]) (by decide +kernel)) (pu_cons (pu_x (Tx.mk [103, 97, 116, 101]) (by decide +kernel)) (pu_cons (pu_x (Tx.mk [97, 97, 97, 97, 97, 97, 97]) (by decide +kernel)) (pu_cons (pu_x (Tx.mk [122, 122, 121, 122, 120]) (by decide +kernel)) (pu_cons (pu_x (Tx.mk [98, 98]) (by decide +kernel)) pu_nil)))))))) (al_p (pu_var rfl) (al_nil (l_ix [(Tx.mk []), (Tx.mk [113]), (Tx.mk [97, 98]), (Tx.mk [103, 97, 116, 101]), (Tx.mk [97, 97, 97, 97, 97, 97, 97]), (Tx.mk [122, 122, 121, 122, 120]), (Tx.mk [98, 98])] which_2.1))))) fun stem_6 =>
  (as_setS (ag_call (al_p (pu_var rfl) (al_e (v1 := (fun (s9 : Nat) => en s9)) (ag_bin (al_e (v1 := (fun (s8 : Nat) => en s8)) (ag_cb (al_p (pu_var rfl) (al_nil (x_len stem_6)))) fun s8 => (al_p pu_k (al_nil (gp (fun h c => nn_add s8 1 false h)))))) fun s9 => (al_nil (fo1 (k := 0) rfl (ag_law_take n_box first_3.2 s9)))))) fun at_10 =>
  (as_setS (ag_bin (al_p (pu_lst (pu_cons pu_k (pu_cons pu_k (pu_cons pu_k (pu_cons pu_k (pu_cons pu_k (pu_cons pu_k pu_nil))))))) (al_e (v1 := (fun (s11 : (Nat × Bxs)) => en s11.1)) (ag_call (al_p (pu_var rfl) (al_p pu_k (al_nil (fo1 (k := 0) rfl (ag_law_take n_box at_10.2 6)))))) fun s11 => (al_nil (gs (Φ2 := (fun (r : Nat × Bxs) => [(n_box, (boxc r.2))])) (b := s11.2) (l_ix [1, 3, 5, 7, 9, 11] s11.1)))))) fun step_12 =>
  (as_last (as_ends ends_ret (as_retC (k := fun x => (x, step_12.2)) (agc_lc (l := fun (x : List Tx) => x.map en) (ag_lcE (e := fun (y : Nat) => en y) (v := fun (y : Tx) => en y) (ag_range1 (al_p (pu_var rfl) (al_nil (bR1_ok manyV)))) fm_name (fun _ => rfl) fun x13 => (ag_bin (al_e (v1 := (fun (s46 : Tx) => en s46)) (ag_bin (al_e (v1 := (fun (s37 : Tx) => en s37)) (ag_slX (pu_var rfl) pu_nopart (pu_part (pu_var rfl))) fun s37 => (al_e (v1 := (fun (s45 : Tx) => en s45)) (ag_bin (al_p (pu_var rfl) (al_e (v1 := (fun (s44 : Nat) => en s44)) (ag_bin (al_e (v1 := (fun (s43 : Nat) => en s43)) (ag_bin (al_p (pu_var rfl) (al_e (v1 := (fun (s42 : Nat) => en s42)) (ag_bin (al_p (pu_var rfl) (al_p (pu_var rfl) (al_nil (nn_mul step_12.1 x13))))) fun s42 => (al_nil (gp (fun h c => nn_add first_3.1 s42 false h)))))) fun s43 => (al_p pu_k (al_nil (gp (fun h c => nn_modP s43 26 (by decide) h)))))) fun s44 => (al_nil (x_ix letters_1 s44))))) fun s45 => (al_nil (x_cat s37 s45))))) fun s46 => (al_e (v1 := (fun (s47 : Tx) => en s47)) (ag_slX (pu_var rfl) (pu_part (pu_var rfl)) pu_nopart) fun s47 => (al_nil (x_cat s46 s47))))))) fun _ => ⟨_, rfl, (.cons₂ _ .slnil)⟩)))))))))))
def B_law_frame : Ss :=
  (sSeq (sSet 3 (cFz (cCall F_law_names [] (cCons (cVar 0) (cCons (cK (.int 10)) cNil)))))
  (sSeq (sSet 4 (cCall F_law_take [] (cCons (cVar 0) (cCons (cBin (oAdd false) (cVar 1) (cK (.int 1))) cNil))))
  (sSeq (sSet 5 (cLc false (iSeqD (cSl false (cVar 3) (cPart (cVar 4)) (cPart (cBin (oAdd false) (cVar 4) (cCall F_law_take [] (cCons (cVar 0) (cCons (cBin (oAdd false) (cVar 2) (cK (.int 1))) cNil))))))) (fName 6) cYes (cTup (cCons (cVar 6) (cCons (cCall F_law_take [] (cCons (cVar 0) (cCons (cK (.int 2)) cNil))) cNil))) [6]))
  (sRet (cTup (cCons (cVar 3) (cCons (cSl false (cVar 3) cNoPart (cPart (cVar 4))) (cCons (cVar 5) cNil))))))))
def F_law_frame : FnT := fnOf 7 3 B_law_frame
def T_law_frame (boxC : Bxs) (insV : Nat) (memV : Nat) : Tz ((T3 (List Tx) (List Tx) (List (Tx × Nat))) × Bxs) :=
  ((T_law_names boxC 10).bind fun names_1 =>
  ((T_law_take names_1.2 (insV + 1)).bind fun many_2 =>
  (((((Tz.ok ()).bind fun _ => ((Tz.ok ()).bind fun _ => (((T_law_take many_2.2 (memV + 1)).bind fun s4 => (Tz.ok ((many_2.1 + s4.1), s4.2))).bind fun s5 => (Tz.ok (((names_1.1.take s5.1).drop many_2.1), s5.2))))).bind fun s => mapS (fun (g8 : Bxs) (x6 : Tx) => (((T_law_take g8 2).bind fun s9 => (Tz.ok ((x6, s9.1), s9.2))).bind fun r => Tz.ok (r.2, r.1))) s.1 s.2).bind fun r => Tz.ok (r.2, r.1)).bind fun latches_10 =>
  (Tz.ok ((T3.mk names_1.1 (names_1.1.take many_2.1) latches_10.1), latches_10.2)))))
theorem ag_law_frame (n_box : Nat) (boxC : Bxs) (insV : Nat) (memV : Nat) : FoX F_law_frame [.ref n_box, en insV, en memV] [(n_box, (boxc boxC))] (T_law_frame boxC insV memV) (fun s => .ret (en s.1) [(n_box, (boxc s.2))]) :=
  fn_fo (v := fun (s : ((T3 (List Tx) (List Tx) (List (Tx × Nat))) × Bxs)) => en s.1) (Q := fun (s : ((T3 (List Tx) (List Tx) (List (Tx × Nat))) × Bxs)) => [(n_box, (boxc s.2))]) rfl rfl (by simp) fun h0 =>
  (as_setS (al_fzcall (al_p (pu_var rfl) (al_p pu_k (al_nil (fz1 (k := 0) rfl (ag_law_names n_box boxC 10)))))) fun names_1 =>
  (as_setS (ag_call (al_p (pu_var rfl) (al_p (pu_bin (pu_var rfl) pu_k (fun h c => nn_add insV 1 false h)) (al_nil (fo1 (k := 0) rfl (ag_law_take n_box names_1.2 (insV + 1))))))) fun many_2 =>
  (as_setS (ag_lcS2 (S := (fun (g8 : Bxs) => [(n_box, (boxc g8))])) (xs := fun (s : ((List Tx) × Bxs)) => s.1) (g0 := fun (s : ((List Tx) × Bxs)) => s.2) (ag_seq (ag_slL (Pu.up (pu_var rfl)) (fun _ => (Pu.up (pu_part (pu_var rfl)))) (fun _ _ => (ag_part (ag_bin (al_p (pu_var rfl) (al_e (v1 := (fun (s4 : (Nat × Bxs)) => en s4.1)) (ag_call (al_p (pu_var rfl) (al_p (pu_bin (pu_var rfl) pu_k (fun h c => nn_add memV 1 false h)) (al_nil (fo1 (k := 0) rfl (ag_law_take n_box many_2.2 (memV + 1))))))) fun s4 => (al_nil (gpS (Φ2 := (fun (r : Nat × Bxs) => [(n_box, (boxc r.2))])) (x := ((many_2.1 + s4.1), s4.2)) (fun h c => nn_add many_2.1 s4.1 false h)))))))) (fun _ _ s5 => (cut_mid _ _ _)) (fun _ _ s5 => (gpS (Φ2 := (fun (r : (List Tx) × Bxs) => [(n_box, (boxc r.2))])) (x := (((names_1.1.take s5.1).drop many_2.1), s5.2)) (fun h c => rfl)))) fun _ => rfl) fm_name (fun _ => rfl) fun g8 x6 => (ag_swap (Φ2 := (fun (g8 : Bxs) => [(n_box, (boxc g8))])) (ag_tup (al_p (pu_var rfl) (al_e (v1 := (fun (s9 : (Nat × Bxs)) => en s9.1)) (ag_call (al_p (pu_var rfl) (al_p pu_k (al_nil (fo1 (k := 0) rfl (ag_law_take n_box g8 2)))))) fun s9 => (al_nil (bT_okS (Φ2 := (fun (r : (Tx × Nat) × Bxs) => [(n_box, (boxc r.2))])) (x := ((x6, s9.1), s9.2))))))))) fun latches_10 =>
  (as_last (as_ends ends_ret (as_retP (pu_tup (pu_cons (pu_var rfl) (pu_cons (pu_slL (pu_var rfl) pu_nopart (pu_part (pu_var rfl)) (cut_to' _ _)) (pu_cons (pu_var rfl) pu_nil)))) rfl (.cons₂ _ .slnil)))))))
def B_law_some_edge : Ss :=
  (sSeq (sSet 2 (cCall F_law_take [] (cCons (cVar 0) (cCons (cK (.int 3)) cNil))))
  (sSeq (sIf (cTv (cBin oEq (cVar 2) (cK (.int 0)))) (sRet (cBin oSub (cBin oSub (cBin oMul (cK (.int 2)) (cVar 1)) (cK (.int 1))) (cCall F_law_take [] (cCons (cVar 0) (cCons (cB fMin2 (cCons (cBin oMul (cK (.int 2)) (cVar 1)) (cCons (cK (.int 6)) cNil))) cNil)))))
  sNil)
  (sRet (cCall F_law_take [] (cCons (cVar 0) (cCons (cBin oMul (cK (.int 2)) (cVar 1)) cNil))))))
def F_law_some_edge : FnT := fnOf 3 2 B_law_some_edge
def T_law_some_edge (boxC : Bxs) (nodesV : Nat) : Tz (Nat × Bxs) :=
  ((T_law_take boxC 3).bind fun way_1 =>
  (if (decide (way_1.1 = 0)) = true then
  (((mulT 2 nodesV).bind fun s6 => (subT s6 1)).bind fun s7 => ((((mulT 2 nodesV).bind fun s9 => (Tz.ok (min s9 6))).bind fun s10 => (T_law_take way_1.2 s10)).bind fun s11 => ((subT s7 s11.1).bind fun x => Tz.ok (x, s11.2))))
  else
  ((mulT 2 nodesV).bind fun s12 => (T_law_take way_1.2 s12))))
theorem ag_law_some_edge (n_box : Nat) (boxC : Bxs) (nodesV : Nat) : FoX F_law_some_edge [.ref n_box, en nodesV] [(n_box, (boxc boxC))] (T_law_some_edge boxC nodesV) (fun s => .ret (en s.1) [(n_box, (boxc s.2))]) :=
  fn_fo (v := fun (s : (Nat × Bxs)) => en s.1) (Q := fun (s : (Nat × Bxs)) => [(n_box, (boxc s.2))]) rfl rfl (by simp) fun h0 =>
  (as_setS (ag_call (al_p (pu_var rfl) (al_p pu_k (al_nil (fo1 (k := 0) rfl (ag_law_take n_box boxC 3)))))) fun way_1 =>
  (as_ifP (pu_tv (pu_bin (pu_var rfl) pu_k (fun h c => nn_eq way_1.1 0 h)))
  (as_ends ends_ret (as_retT (ag_bin (al_e (v1 := (fun (s7 : Nat) => en s7)) (ag_bin (al_e (v1 := (fun (s6 : Nat) => en s6)) (ag_bin (al_p pu_k (al_p (pu_var rfl) (al_nil (nn_mul 2 nodesV))))) fun s6 => (al_p pu_k (al_nil (nn_sub s6 1))))) fun s7 => (al_e (v1 := (fun (s11 : (Nat × Bxs)) => en s11.1)) (ag_call (al_p (pu_var rfl) (al_e (v1 := (fun (s10 : Nat) => en s10)) (ag_cb (al_e (v1 := (fun (s9 : Nat) => en s9)) (ag_bin (al_p pu_k (al_p (pu_var rfl) (al_nil (nn_mul 2 nodesV))))) fun s9 => (al_p pu_k (al_nil (gp (fun h c => nn_min s9 6 h)))))) fun s10 => (al_nil (fo1 (k := 0) rfl (ag_law_take n_box way_1.2 s10)))))) fun s11 => (al_nil (gs (Φ2 := (fun (r : Nat × Bxs) => [(n_box, (boxc r.2))])) (b := s11.2) (nn_sub s7 s11.1)))))) fun _ => ⟨_, rfl, (.cons₂ _ .slnil)⟩))
  (as_nilS (as_last (as_ends ends_ret (as_retT (ag_call (al_p (pu_var rfl) (al_e (v1 := (fun (s12 : Nat) => en s12)) (ag_bin (al_p pu_k (al_p (pu_var rfl) (al_nil (nn_mul 2 nodesV))))) fun s12 => (al_nil (fo1 (k := 0) rfl (ag_law_take n_box way_1.2 s12)))))) fun _ => ⟨_, rfl, (.cons₂ _ .slnil)⟩))))))
def B_law_ends : Ss :=
  (sSeq (sSet 5 (cLc false (iSeqD (cSl false (cVar 1) cNoPart (cPart (cCall F_law_take [] (cCons (cVar 0) (cCons (cBin (oAdd false) (cVar 4) (cK (.int 1))) cNil)))))) (fName 6) cYes (cTup (cCons (cVar 6) (cCons (cCall F_law_some_edge [] (cCons (cVar 0) (cCons (cVar 3) cNil))) cNil))) [6]))
  (sRet (cTup (cCons (cVar 5) (cCons (cLc false (iSeqD (cVar 2)) (fName 7) cYes (cCall F_law_some_edge [] (cCons (cVar 0) (cCons (cVar 3) cNil))) [7]) cNil)))))
def F_law_ends : FnT := fnOf 8 5 B_law_ends
def T_law_ends (boxC : Bxs) (namesV : (List Tx)) (latchesV : (List (Tx × Nat))) (nodesV : Nat) (topV : Nat) : Tz (((List (Tx × Nat)) × (List Nat)) × Bxs) :=
  (((((Tz.ok ()).bind fun _ => ((Tz.ok ()).bind fun _ => ((T_law_take boxC (topV + 1)).bind fun s1 => (Tz.ok ((namesV.take s1.1), s1.2))))).bind fun s => mapS (fun (g4 : Bxs) (x2 : Tx) => (((T_law_some_edge g4 nodesV).bind fun s5 => (Tz.ok ((x2, s5.1), s5.2))).bind fun r => Tz.ok (r.2, r.1))) s.1 s.2).bind fun r => Tz.ok (r.2, r.1)).bind fun outs_6 =>
  ((((Tz.ok ()).bind fun s => mapS (fun (g8 : Bxs) (x7 : (Tx × Nat)) => ((T_law_some_edge g8 nodesV).bind fun r => Tz.ok (r.2, r.1))) latchesV outs_6.2).bind fun r => Tz.ok (r.2, r.1)).bind fun s9 => (Tz.ok ((outs_6.1, s9.1), s9.2))))
theorem ag_law_ends (n_box : Nat) (boxC : Bxs) (namesV : (List Tx)) (latchesV : (List (Tx × Nat))) (nodesV : Nat) (topV : Nat) : FoX F_law_ends [.ref n_box, en namesV, en latchesV, en nodesV, en topV] [(n_box, (boxc boxC))] (T_law_ends boxC namesV latchesV nodesV topV) (fun s => .ret (en s.1) [(n_box, (boxc s.2))]) :=
  fn_fo (v := fun (s : (((List (Tx × Nat)) × (List Nat)) × Bxs)) => en s.1) (Q := fun (s : (((List (Tx × Nat)) × (List Nat)) × Bxs)) => [(n_box, (boxc s.2))]) rfl rfl (by simp) fun h0 =>
  (as_setS (ag_lcS2 (S := (fun (g4 : Bxs) => [(n_box, (boxc g4))])) (xs := fun (s : ((List Tx) × Bxs)) => s.1) (g0 := fun (s : ((List Tx) × Bxs)) => s.2) (ag_seq (ag_slL (Pu.up (pu_var rfl)) (fun _ => (Pu.up pu_nopart)) (fun _ _ => (ag_part (ag_call (al_p (pu_var rfl) (al_p (pu_bin (pu_var rfl) pu_k (fun h c => nn_add topV 1 false h)) (al_nil (fo1 (k := 0) rfl (ag_law_take n_box boxC (topV + 1))))))))) (fun _ _ s1 => (cut_to' _ _)) (fun _ _ s1 => (gpS (Φ2 := (fun (r : (List Tx) × Bxs) => [(n_box, (boxc r.2))])) (x := ((namesV.take s1.1), s1.2)) (fun h c => rfl)))) fun _ => rfl) fm_name (fun _ => rfl) fun g4 x2 => (ag_swap (Φ2 := (fun (g4 : Bxs) => [(n_box, (boxc g4))])) (ag_tup (al_p (pu_var rfl) (al_e (v1 := (fun (s5 : (Nat × Bxs)) => en s5.1)) (ag_call (al_p (pu_var rfl) (al_p (pu_var rfl) (al_nil (fo1 (k := 0) rfl (ag_law_some_edge n_box g4 nodesV)))))) fun s5 => (al_nil (bT_okS (Φ2 := (fun (r : (Tx × Nat) × Bxs) => [(n_box, (boxc r.2))])) (x := ((x2, s5.1), s5.2))))))))) fun outs_6 =>
  (as_last (as_ends ends_ret (as_retT (ag_tup (al_p (pu_var rfl) (al_e (v1 := (fun (s9 : ((List Nat) × Bxs)) => en s9.1)) (ag_lcS2 (S := (fun (g8 : Bxs) => [(n_box, (boxc g8))])) (xs := fun (s : Unit) => latchesV) (g0 := fun (s : Unit) => outs_6.2) (Pu.up (pu_seq (pu_var rfl) rfl)) fm_name (fun _ => rfl) fun g8 x7 => (ag_swap (Φ2 := (fun (g8 : Bxs) => [(n_box, (boxc g8))])) (ag_call (al_p (pu_var rfl) (al_p (pu_var rfl) (al_nil (fo1 (k := 0) rfl (ag_law_some_edge n_box g8 nodesV)))))))) fun s9 => (al_nil (bT_okS (Φ2 := (fun (r : ((List (Tx × Nat)) × (List Nat)) × Bxs) => [(n_box, (boxc r.2))])) (x := ((outs_6.1, s9.1), s9.2))))))) fun _ => ⟨_, rfl, (.cons₂ _ .slnil)⟩))))
def B_law_net : Ss :=
  (sSeq (sAsg (cCall F_law_frame [] (cCons (cVar 0) (cCons (cVar 1) (cCons (cVar 2) cNil)))) (gtTup 3 (gtCons (gtName 5) (gtCons (gtName 6) (gtCons (gtName 7) gtNil)))))
  (sSeq (sSet 8 (cBin (oAdd false) (cBin (oAdd false) (cK (.int 1)) (cB fLen (cCons (cVar 6) cNil))) (cB fLen (cCons (cVar 7) cNil))))
  (sSeq (sSet 9 (cLst true cNil))
  (sSeq (sFor (iRange1 (cCons (cCall F_law_take [] (cCons (cVar 0) (cCons (cBin (oAdd false) (cVar 3) (cK (.int 1))) cNil))) cNil)) (gtName 10) (sSeq (sPar 11 12 (cCons (cCall F_law_some_edge [] (cCons (cVar 0) (cCons (cBin (oAdd false) (cVar 8) (cVar 10)) cNil))) (cCons (cCall F_law_some_edge [] (cCons (cVar 0) (cCons (cBin (oAdd false) (cVar 8) (cVar 10)) cNil))) cNil)))
  (sExpr (cMt "list" mAppend (cVar 9) (cCons (cTup (cCons (cB fMin2 (cCons (cVar 11) (cCons (cVar 12) cNil))) (cCons (cB fMax2 (cCons (cVar 11) (cCons (cVar 12) cNil))) cNil))) cNil)))))
  (sSeq (sFrz 9 (sAsg (cCall F_law_ends [] (cCons (cVar 0) (cCons (cRev false (cVar 5)) (cCons (cVar 7) (cCons (cBin (oAdd false) (cVar 8) (cB fLen (cCons (cVar 9) cNil))) (cCons (cVar 4) cNil)))))) (gtTup 2 (gtCons (gtName 13) (gtCons (gtName 14) gtNil)))))
  (sRet (cLst false (cCons (cVar 6) (cCons (cVar 7) (cCons (cVar 9) (cCons (cVar 13) (cCons (cVar 14) cNil))))))))))))
def F_law_net : FnT := fnOf 15 5 B_law_net
def T_law_net (boxC : Bxs) (insV : Nat) (memV : Nat) (topV : Nat) (endsV : Nat) : Tz ((H5 (List Tx) (List (Tx × Nat)) (List (Nat × Nat)) (List (Tx × Nat)) (List Nat)) × Bxs) :=
  ((T_law_frame boxC insV memV).bind fun p_1 =>
  (Tz.lt (α := Nat) ((1 + p_1.1.b.length) + p_1.1.c.length) fun nodes_2 =>
  ((Tz.ok ([] : (List (Nat × Nat)))).bind fun gates_3 =>
  ((((T_law_take p_1.2 (topV + 1)).bind fun s5 => ((rng s5.1).bind fun x => Tz.ok (x, s5.2))).bind fun s => foldT (fun (g6 : (Bxs × (List (Nat × Nat)))) (x7 : Nat) =>
  (((T_law_some_edge g6.1 (nodes_2 + x7)).bind fun s8 => ((T_law_some_edge s8.2 (nodes_2 + x7)).bind fun s9 => (Tz.ok ((s8.1, s9.1), s9.2)))).bind fun p_10 =>
  ((appT g6.2 ((min p_10.1.1 p_10.1.2), (max p_10.1.1 p_10.1.2))).bind fun l11 =>
  (Tz.ok (p_10.2, l11))))) s.1 (s.2, gates_3)).bind fun g6 =>
  ((T_law_ends g6.1 p_1.1.a.reverse p_1.1.c (nodes_2 + g6.2.length) endsV).bind fun p_12 =>
  (Tz.ok ((H5.mk p_1.1.b p_1.1.c g6.2 p_12.1.1 p_12.1.2), p_12.2)))))))
theorem ag_law_net (n_box : Nat) (boxC : Bxs) (insV : Nat) (memV : Nat) (topV : Nat) (endsV : Nat) : FoX F_law_net [.ref n_box, en insV, en memV, en topV, en endsV] [(n_box, (boxc boxC))] (T_law_net boxC insV memV topV endsV) (fun s => .ret (en s.1) [(n_box, (boxc s.2))]) :=
  fn_fo (v := fun (s : ((H5 (List Tx) (List (Tx × Nat)) (List (Nat × Nat)) (List (Tx × Nat)) (List Nat)) × Bxs)) => en s.1) (Q := fun (s : ((H5 (List Tx) (List (Tx × Nat)) (List (Nat × Nat)) (List (Tx × Nat)) (List Nat)) × Bxs)) => [(n_box, (boxc s.2))]) rfl rfl (by simp) fun h0 =>
  (as_seq (as_asg (tm_tup (tm_cons tm_name (tm_cons tm_name (tm_cons tm_name tm_nil)))) (ag_call (al_p (pu_var rfl) (al_p (pu_var rfl) (al_p (pu_var rfl) (al_nil (fo1 (k := 0) rfl (ag_law_frame n_box boxC insV memV))))))) (fun _ _ => rfl)) fun p_1 =>
  (as_setL (x := ((1 + p_1.1.b.length) + p_1.1.c.length)) (pu_bin (pu_bin pu_k (pu_cb (pu_cons (pu_var rfl) pu_nil) (fun h c => l_len p_1.1.b h)) (fun h c => nn_add 1 p_1.1.b.length false h)) (pu_cb (pu_cons (pu_var rfl) pu_nil) (fun h c => l_len p_1.1.c h)) (fun h c => nn_add (1 + p_1.1.b.length) p_1.1.c.length false h)) fun nodes_2 =>
  (as_new (agc_lst (l := fun (x : List (Nat × Nat)) => x.map en) (ePu (x := ([] : (List (Nat × Nat)))) (pu_lst pu_nil))) fun gates_3 n4 hn4 =>
  (as_seq (as_for (S := fun (g6 : (Bxs × (List (Nat × Nat)))) => [some (.ref n_box), some (en (insV : Nat)), some (en (memV : Nat)), some (en (topV : Nat)), some (en (endsV : Nat)), some (en (p_1.1.a : (List Tx))), some (en (p_1.1.b : (List Tx))), some (en (p_1.1.c : (List (Tx × Nat)))), some (en (nodes_2 : Nat)), some (.ref n4), none, none, none, none, none]) (Q := fun g6 => [(n_box, (boxc g6.1)), (n4, (cl g6.2))]) (e := fun (y : Nat) => en y) (xs := fun (s : ((List Nat) × Bxs)) => s.1) (g0 := fun (s : ((List Nat) × Bxs)) => (s.2, gates_3)) (ag_range1 (al_e (v1 := (fun (s5 : (Nat × Bxs)) => en s5.1)) (ag_call (al_p (pu_var rfl) (al_p (pu_bin (pu_var rfl) pu_k (fun h c => nn_add topV 1 false h)) (al_nil (fo1 (k := 0) rfl (ag_law_take n_box p_1.2 (topV + 1))))))) fun s5 => (al_nil (gsI (Φ2 := (fun (r : (List Nat) × Bxs) => [(n_box, (boxc r.2)), (n4, (cl gates_3))])) (b := s5.2) (bR1_ok s5.1))))) tm_name (fun _ => ⟨.inr rfl, ⟨.inr rfl, ⟨.inr rfl, ⟨.inr rfl, ⟨.inr rfl, ⟨.inr rfl, ⟨.inr rfl, ⟨.inr rfl, ⟨.inr rfl, ⟨.inr rfl, ⟨.inl rfl, ⟨.inl rfl, ⟨.inl rfl, ⟨.inl rfl, ⟨.inl rfl, trivial⟩⟩⟩⟩⟩⟩⟩⟩⟩⟩⟩⟩⟩⟩⟩) (fun _ => (.cons₂ _ (.cons₂ _ .slnil))) (fun _ _ _ => rfl) fun g6 x7 =>
  (as_seq (as_par (v := fun (r : ((Nat × Nat) × Bxs)) => en r.1.1) (v' := fun (r : ((Nat × Nat) × Bxs)) => en r.1.2) (al_e (v1 := (fun (s8 : (Nat × Bxs)) => en s8.1)) (ag_call (al_p (pu_var rfl) (al_p (pu_bin (pu_var rfl) (pu_var rfl) (fun h c => nn_add nodes_2 x7 false h)) (al_nil (fo1 (k := 0) rfl (ag_law_some_edge n_box g6.1 (nodes_2 + x7))))))) fun s8 => (al_e (v1 := (fun (s9 : (Nat × Bxs)) => en s9.1)) (ag_call (al_p (pu_var rfl) (al_p (pu_bin (pu_var rfl) (pu_var rfl) (fun h c => nn_add nodes_2 x7 false h)) (al_nil (fo1 (k := 0) rfl (ag_law_some_edge n_box s8.2 (nodes_2 + x7))))))) fun s9 => (al_nil (bT_okS (Φ2 := (fun (r : (Nat × Nat) × Bxs) => [(n_box, (boxc r.2)), (n4, (cl g6.2))])) (x := ((s8.1, s9.1), s9.2))))))) fun p_10 =>
  (as_last (as_seq (as_expr (ag_mt (pu_var rfl) (c_isL (k := 1) rfl) (al_p (pu_tup (pu_cons (pu_cb (pu_cons (pu_var rfl) (pu_cons (pu_var rfl) pu_nil)) (fun h c => nn_min p_10.1.1 p_10.1.2 h)) (pu_cons (pu_cb (pu_cons (pu_var rfl) (pu_cons (pu_var rfl) pu_nil)) (fun h c => nn_max p_10.1.1 p_10.1.2 h)) pu_nil))) (al_nil (c_app (k := 1) rfl ((min p_10.1.1 p_10.1.2), (max p_10.1.1 p_10.1.2))))))) fun l11 =>
  (as_endL rfl ⟨.inr rfl, ⟨.inr rfl, ⟨.inr rfl, ⟨.inr rfl, ⟨.inr rfl, ⟨.inr rfl, ⟨.inr rfl, ⟨.inr rfl, ⟨.inr rfl, ⟨.inr rfl, ⟨.inl rfl, ⟨.inl rfl, ⟨.inl rfl, ⟨.inl rfl, ⟨.inl rfl, trivial⟩⟩⟩⟩⟩⟩⟩⟩⟩⟩⟩⟩⟩⟩⟩ (.cons₂ _ (.cons₂ _ .slnil))))))) fun g6 =>
  (as_frzS (k := 1) rfl rfl hn4 (as_seq (as_asg (tm_tup (tm_cons tm_name (tm_cons tm_name tm_nil))) (ag_call (al_p (pu_var rfl) (al_p (pu_rev (pu_var rfl)) (al_p (pu_var rfl) (al_p (pu_bin (pu_var rfl) (pu_cb (pu_cons (pu_var rfl) pu_nil) (fun h c => l_len g6.2 h)) (fun h c => nn_add nodes_2 g6.2.length false h)) (al_p (pu_var rfl) (al_nil (fo1 (k := 0) rfl (ag_law_ends n_box g6.1 p_1.1.a.reverse p_1.1.c (nodes_2 + g6.2.length) endsV))))))))) (fun _ _ => rfl)) fun p_12 =>
  (as_last (as_ends ends_ret (as_retP (pu_lst (pu_cons (pu_var rfl) (pu_cons (pu_var rfl) (pu_cons (pu_var rfl) (pu_cons (pu_var rfl) (pu_cons (pu_var rfl) pu_nil)))))) rfl (.cons₂ _ .slnil))))))))))
def B_is_name : Ss :=
  (sRet (cAnd (cChain oLt oLe (cK (.int 0)) (cB fLen (cCons (cVar 0) cNil)) (cK (.int 8))) (cB fAll (cCons (cLc false (iSeqD (cVar 0)) (fName 1) cYes (cBin oIn (cVar 1) (cK (.str (PySem.Str.ofString "abcdefghijklmnopqrstuvwxyz")))) [1]) cNil))))
def F_is_name : FnT := fnOf 2 1 B_is_name
def T_is_name (textV : Tx) : Tz Bool :=
  (((lenX textV).bind fun s1 => Tz.ok ((decide (0 < s1)) && (decide (s1 ≤ 8)))).bind fun b => if b = true then ((mapP (fun (x3 : Tx) => (subX x3 (Tx.mk [97, 98, 99, 100, 101, 102, 103, 104, 105, 106, 107, 108, 109, 110, 111, 112, 113, 114, 115, 116, 117, 118, 119, 120, 121, 122]))) (ch textV)).bind fun s4 => (Tz.ok (s4.all id))) else Tz.ok false)
theorem ag_is_name  (textV : Tx) : FoX F_is_name [en textV] [] (T_is_name textV) (fun s => .ret (en s) []) :=
  fn_fo (v := en) (Q := fun _ => []) rfl rfl (by simp) fun h0 =>
  (as_last (as_ends ends_ret (as_retT (ag_and (ag_chM pu_k (ag_cb (al_p (pu_var rfl) (al_nil (x_len textV)))) fun s1 => (ePu (pu_chain pu_k pu_k pu_k (fun h => nn_lt 0 s1 h) (fun h => nn_le s1 8 h)))) fun _ => (ag_cb (al_e (v1 := (fun (s4 : (List Bool)) => en s4)) (ag_lcPP (e := fun (y : Tx) => en y) (v := fun (y : Bool) => en y) (pu_seq (pu_var rfl) (items_x _)) fm_name (fun _ => rfl) fun x3 => (pu_bin (pu_var rfl) (pu_x (Tx.mk [97, 98, 99, 100, 101, 102, 103, 104, 105, 106, 107, 108, 109, 110, 111, 112, 113, 114, 115, 116, 117, 118, 119, 120, 121, 122]) (by decide +kernel)) (fun h c => x_in x3 (Tx.mk [97, 98, 99, 100, 101, 102, 103, 104, 105, 106, 107, 108, 109, 110, 111, 112, 113, 114, 115, 116, 117, 118, 119, 120, 121, 122]) h))) fun s4 => (al_nil (gp (fun h c => l_all s4 h)))))) fun _ => ⟨_, rfl, .slnil⟩)))
def B_need_name : Ss :=
  (sIf (cTnot (cTv (cCall F_is_name [] (cCons (cVar 0) cNil)))) (sRaise (PySem.Str.ofString "BadName"))
  sNil)
def F_need_name : FnT := fnOf 1 1 B_need_name
def T_need_name (textV : Tx) : Tz Unit :=
  (((T_is_name textV).bind fun b => Tz.ok (!b)).bind fun b1 => if b1 = true then
  (Tz.exc ⟨(PySem.Str.ofString "BadName"), none⟩)
  else
  (Tz.ok ()))
theorem ag_need_name  (textV : Tx) : FoX F_need_name [en textV] [] (T_need_name textV) (fun s => .ret .non []) :=
  fn_foN (Q := fun (s : Unit) => []) rfl rfl (by simp) fun h0 =>
  (as_last (as_ifE (ag_tnotB (ag_tv (ag_call (al_p (pu_var rfl) (al_nil (fo0 (ag_is_name textV))))))) (fun b1 =>
  (as_ends ends_raise as_raise)) fun b1 =>
  (as_nilS (as_fall rfl .slnil))))
def B_need_names : Ss :=
  (sSeq (sFor (iSeqD (cBin (oAdd false) (cVar 0) (cVar 1))) (gtName 2) (sExpr (cCall F_need_name [] (cCons (cVar 2) cNil))))
  (sIf (cTor (cTv (cBin oLt (cLenSet (cVar 0)) (cB fLen (cCons (cVar 0) cNil)))) (cTv (cBin oLt (cLenSet (cVar 1)) (cB fLen (cCons (cVar 1) cNil))))) (sRaise (PySem.Str.ofString "Taken"))
  sNil))
def F_need_names : FnT := fnOf 3 2 B_need_names
def T_need_names (namesV : (List Tx)) (outsV : (List Tx)) : Tz Unit :=
  (((catT namesV outsV).bind fun s => foldT (fun (g1 : Unit) (x2 : Tx) =>
  ((T_need_name x2).bind fun u3 =>
  (Tz.ok ()))) s ()).bind fun g1 =>
  ((((lenSetX namesV).bind fun s4 => (Tz.ok (decide (s4 < namesV.length)))).bind fun b => if b = true then Tz.ok true else ((lenSetX outsV).bind fun s5 => (Tz.ok (decide (s5 < outsV.length))))).bind fun b6 => if b6 = true then
  (Tz.exc ⟨(PySem.Str.ofString "Taken"), none⟩)
  else
  (Tz.ok ())))
theorem ag_need_names  (namesV : (List Tx)) (outsV : (List Tx)) : FoX F_need_names [en namesV, en outsV] [] (T_need_names namesV outsV) (fun s => .ret .non []) :=
  fn_foN (Q := fun (s : Unit) => []) rfl rfl (by simp) fun h0 =>
  (as_seq (as_for (S := fun (g1 : Unit) => [some (en (namesV : (List Tx))), some (en (outsV : (List Tx))), none]) (Q := fun g1 => []) (e := fun (y : Tx) => en y) (xs := fun (s : (List Tx)) => s) (g0 := fun (s : (List Tx)) => ()) (ag_seq (ag_bin (al_p (pu_var rfl) (al_p (pu_var rfl) (al_nil (l_cat namesV outsV))))) fun _ => rfl) tm_name (fun _ => ⟨.inr rfl, ⟨.inr rfl, ⟨.inl rfl, trivial⟩⟩⟩) (fun _ => .slnil) (fun _ _ _ => rfl) fun g1 x2 =>
  (as_last (as_seq (as_expr (ag_call (al_p (pu_var rfl) (al_nil (fo0 (ag_need_name x2)))))) fun u3 =>
  (as_endL rfl ⟨.inr rfl, ⟨.inr rfl, ⟨.inl rfl, trivial⟩⟩⟩ .slnil)))) fun g1 =>
  (as_last (as_ifE (ag_torB (ag_tv (ag_bin (al_e (v1 := (fun (s4 : Nat) => en s4)) (ag_lenSet (pu_var rfl)) fun s4 => (al_p (pu_cb (pu_cons (pu_var rfl) pu_nil) (fun h c => l_len namesV h)) (al_nil (gp (fun h c => nn_lt s4 namesV.length h))))))) fun _ => (ag_tv (ag_bin (al_e (v1 := (fun (s5 : Nat) => en s5)) (ag_lenSet (pu_var rfl)) fun s5 => (al_p (pu_cb (pu_cons (pu_var rfl) pu_nil) (fun h c => l_len outsV h)) (al_nil (gp (fun h c => nn_lt s5 outsV.length h)))))))) (fun b6 =>
  (as_ends ends_raise as_raise)) fun b6 =>
  (as_nilS (as_fall rfl .slnil)))))
def B_Net___init__ : Ss :=
  (sSeq (sExpr (cCall F_need_names [] (cCons (cBin (oAdd false) (cB (fList false) (cCons (cVar 1) cNil)) (cLc false (iSeqD (cVar 2)) (fTup [15, 13]) cYes (cVar 15) [15, 13])) (cCons (cLc false (iSeqD (cVar 4)) (fTup [15, 14]) cYes (cVar 15) [15, 14]) cNil))))
  (sSeq (sSet 6 (cLst false (cCons (cTup (cCons (cVar 1) (cCons (cK (.int 6)) cNil))) (cCons (cTup (cCons (cVar 2) (cCons (cK (.int 4)) cNil))) (cCons (cTup (cCons (cVar 3) (cCons (cK (.int 60)) cNil))) (cCons (cTup (cCons (cVar 4) (cCons (cK (.int 8)) cNil))) cNil))))))
  (sSeq (sIf (cTv (cB fAny (cCons (cLc false (iSeqD (cVar 6)) (fTup [16, 11]) cYes (cBin oGt (cB fLen (cCons (cVar 16) cNil)) (cVar 11)) [16, 11]) cNil))) (sRaise (PySem.Str.ofString "Full"))
  sNil)
  (sSeq (sIf (cTv (cB fAny (cCons (cLc false (iSeqD (cVar 2)) (fTup [15, 13]) cYes (cBin oNotIn (cVar 13) (cTup (cCons (cK (.int 0)) (cCons (cK (.int 1)) cNil)))) [15, 13]) cNil))) (sRaise (PySem.Str.ofString "BadStart"))
  sNil)
  (sSeq (sFldD "Net" "ins" (cB (fList false) (cCons (cVar 1) cNil)) (cVar 0))
  (sSeq (sFldD "Net" "memory" (cB (fList false) (cCons (cVar 2) cNil)) (cVar 0))
  (sSeq (sFldD "Net" "pairs" (cB (fList false) (cCons (cVar 3) cNil)) (cVar 0))
  (sSeq (sFldD "Net" "tells" (cB (fList false) (cCons (cVar 4) cNil)) (cVar 0))
  (sSeq (sFldD "Net" "later" (cB (fList false) (cCons (cVar 5) cNil)) (cVar 0))
  (sSeq (sSet 7 (cBin (oAdd false) (cBin (oAdd false) (cK (.int 1)) (cB fLen (cCons (cFld "Net" "ins" (cVar 0)) cNil))) (cB fLen (cCons (cFld "Net" "memory" (cVar 0)) cNil))))
  (sSeq (sFor (iEnumD (cCons (cFld "Net" "pairs" (cVar 0)) cNil)) (gtTup 2 (gtCons (gtName 8) (gtCons (gtTup 2 (gtCons (gtName 9) (gtCons (gtName 10) gtNil))) gtNil))) (sIf (cTnot (cTv (cChain3 oLe oLe oLt (cK (.int 0)) (cVar 9) (cVar 10) (cBin oMul (cK (.int 2)) (cBin (oAdd false) (cVar 7) (cVar 8)))))) (sRaiseF (PySem.Str.ofString "BadGate") (PySem.Str.ofString "at") [] (cCons (cVar 8) cNil))
  sNil))
  (sSeq (sSet 11 (cBin oMul (cK (.int 2)) (cBin (oAdd false) (cVar 7) (cB fLen (cCons (cFld "Net" "pairs" (cVar 0)) cNil)))))
  (sSeq (sSet 12 (cBin (oAdd false) (cLc false (iSeqD (cFld "Net" "tells" (cVar 0))) (fTup [15, 14]) cYes (cVar 14) [15, 14]) (cFld "Net" "later" (cVar 0))))
  (sIf (cTor (cTv (cBin oNe (cB fLen (cCons (cFld "Net" "later" (cVar 0)) cNil)) (cB fLen (cCons (cFld "Net" "memory" (cVar 0)) cNil)))) (cTnot (cTv (cB fAll (cCons (cLc false (iSeqD (cVar 12)) (fName 14) cYes (cChain oLe oLt (cK (.int 0)) (cVar 14) (cVar 11)) [14]) cNil))))) (sRaise (PySem.Str.ofString "BadEdge"))
  sNil))))))))))))))
def F_Net___init__ : FnT := fnOf 17 6 B_Net___init__
def T_Net___init__ (inputsV : (List Tx)) (latchesV : (List (Tx × Nat))) (gatesV : (List (Nat × Nat))) (outsV : (List (Tx × Nat))) (nextsV : (List Nat)) : Tz NetT :=
  ((((mapP (fun (x6 : (Tx × Nat)) => x6.1) latchesV).bind fun s7 => (catT inputsV s7)).bind fun s8 => ((mapP (fun (x9 : (Tx × Nat)) => x9.1) outsV).bind fun s10 => (T_need_names s8 s10))).bind fun u11 =>
  (Tz.lt (α := (List (D × Nat))) [((en (inputsV, 6).1), (inputsV, 6).2), ((en (latchesV, 4).1), (latchesV, 4).2), ((en (gatesV, 60).1), (gatesV, 60).2), ((en (outsV, 8).1), (outsV, 8).2)] fun sizes_12 =>
  (((mapT (fun (x15 : (D × Nat)) => ((lenD x15.1).bind fun s16 => (Tz.ok (decide (x15.2 < s16))))) sizes_12).bind fun s17 => (Tz.ok (s17.any id))).bind fun b18 => if b18 = true then
  (Tz.exc ⟨(PySem.Str.ofString "Full"), none⟩)
  else
  (((mapP (fun (x20 : (Tx × Nat)) => (!(decide (x20.2 ∈ [0, 1])))) latchesV).bind fun s21 => (Tz.ok (s21.any id))).bind fun b22 => if b22 = true then
  (Tz.exc ⟨(PySem.Str.ofString "BadStart"), none⟩)
  else
  ((Tz.ok inputsV).bind fun ins_23 =>
  ((Tz.ok latchesV).bind fun memory_24 =>
  ((Tz.ok gatesV).bind fun pairs_25 =>
  ((Tz.ok outsV).bind fun tells_26 =>
  ((Tz.ok nextsV).bind fun later_27 =>
  (Tz.lt (α := Nat) ((1 + ins_23.length) + memory_24.length) fun first_28 =>
  ((foldT (fun (g29 : Unit) (x30 : (Nat × (Nat × Nat))) =>
  (((if ((decide (0 ≤ x30.2.1)) && (decide (x30.2.1 ≤ x30.2.2))) = true then ((mulT 2 (first_28 + x30.1)).bind fun z => Tz.ok (decide (x30.2.2 < z))) else Tz.ok false).bind fun b => Tz.ok (!b)).bind fun b31 => if b31 = true then
  (Tz.exc ⟨(PySem.Str.ofString "BadGate"), some ((PySem.Str.ofString "at"), en x30.1)⟩)
  else
  (Tz.ok ()))) (enumT pairs_25) ()).bind fun g29 =>
  ((mulT 2 (first_28 + pairs_25.length)).bind fun most_32 =>
  (((mapP (fun (x34 : (Tx × Nat)) => x34.2) tells_26).bind fun s35 => (catT s35 later_27)).bind fun told_36 =>
  ((if (!decide (later_27.length = memory_24.length)) = true then Tz.ok true else (((mapP (fun (x38 : Nat) => ((decide (0 ≤ x38)) && (decide (x38 < most_32)))) told_36).bind fun s39 => (Tz.ok (s39.all id))).bind fun b => Tz.ok (!b))).bind fun b40 => if b40 = true then
  (Tz.exc ⟨(PySem.Str.ofString "BadEdge"), none⟩)
  else
  (Tz.ok (NetT.mk ins_23 memory_24 pairs_25 tells_26 later_27))))))))))))))))
theorem ag_Net___init__ (n_self : Nat) (inputsV : (List Tx)) (latchesV : (List (Tx × Nat))) (gatesV : (List (Nat × Nat))) (outsV : (List (Tx × Nat))) (nextsV : (List Nat)) : FoX F_Net___init__ [.ref n_self, en inputsV, en latchesV, en gatesV, en outsV, en nextsV] [(n_self, .obj "Net" [])] (T_Net___init__ inputsV latchesV gatesV outsV nextsV) (fun s => .ret .non [(n_self, .obj "Net" [("ins", en s.ins), ("memory", en s.lat), ("pairs", en s.gat), ("tells", en s.out), ("later", en s.nxt)])]) :=
  fn_foN (Q := fun (s : NetT) => [(n_self, .obj "Net" [("ins", en s.ins), ("memory", en s.lat), ("pairs", en s.gat), ("tells", en s.out), ("later", en s.nxt)])]) rfl rfl (by simp) fun h0 =>
  (as_seq (as_expr (ag_call (al_e (v1 := (fun (s8 : (List Tx)) => en s8)) (ag_bin (al_p (pu_cb (pu_cons (pu_var rfl) pu_nil) (fun h c => l_list inputsV h)) (al_e (v1 := (fun (s7 : (List Tx)) => en s7)) (ag_lcPP (e := fun (y : (Tx × Nat)) => en y) (v := fun (y : Tx) => en y) (pu_seq (pu_var rfl) rfl) fm_tup (fun _ => rfl) fun x6 => (pu_var rfl)) fun s7 => (al_nil (l_cat inputsV s7))))) fun s8 => (al_e (v1 := (fun (s10 : (List Tx)) => en s10)) (ag_lcPP (e := fun (y : (Tx × Nat)) => en y) (v := fun (y : Tx) => en y) (pu_seq (pu_var rfl) rfl) fm_tup (fun _ => rfl) fun x9 => (pu_var rfl)) fun s10 => (al_nil (fo0 (ag_need_names s8 s10))))))) fun u11 =>
  (as_setL (x := [((en (inputsV, 6).1), (inputsV, 6).2), ((en (latchesV, 4).1), (latchesV, 4).2), ((en (gatesV, 60).1), (gatesV, 60).2), ((en (outsV, 8).1), (outsV, 8).2)]) (pu_lst (pu_cons (pu_tup (pu_cons (pu_var rfl) (pu_cons pu_k pu_nil))) (pu_cons (pu_tup (pu_cons (pu_var rfl) (pu_cons pu_k pu_nil))) (pu_cons (pu_tup (pu_cons (pu_var rfl) (pu_cons pu_k pu_nil))) (pu_cons (pu_tup (pu_cons (pu_var rfl) (pu_cons pu_k pu_nil))) pu_nil))))) fun sizes_12 =>
  (as_ifE (ag_tv (ag_cb (al_e (v1 := (fun (s17 : (List Bool)) => en s17)) (ag_lcEP (e := fun (y : (D × Nat)) => en y) (v := fun (y : Bool) => en y) (pu_seq (pu_var rfl) rfl) fm_tup (fun _ => rfl) fun x15 => (ag_bin (al_e (v1 := (fun (s16 : Nat) => en s16)) (ag_cb (al_p (pu_var rfl) (al_nil (d_len x15.1)))) fun s16 => (al_p (pu_var rfl) (al_nil (gp (fun h c => nn_gt s16 x15.2 h))))))) fun s17 => (al_nil (gp (fun h c => l_any s17 h)))))) (fun b18 =>
  (as_ends ends_raise as_raise)) fun b18 =>
  (as_nilS (as_ifE (ag_tv (ag_cb (al_e (v1 := (fun (s21 : (List Bool)) => en s21)) (ag_lcPP (e := fun (y : (Tx × Nat)) => en y) (v := fun (y : Bool) => en y) (pu_seq (pu_var rfl) rfl) fm_tup (fun _ => rfl) fun x20 => (pu_bin (pu_var rfl) (pu_tup (pu_cons pu_k (pu_cons pu_k pu_nil))) (fun h c => t_notin x20.2 (Tup.mk [0, 1]) h))) fun s21 => (al_nil (gp (fun h c => l_any s21 h)))))) (fun b22 =>
  (as_ends ends_raise as_raise)) fun b22 =>
  (as_nilS (as_seq (as_fld (k := 0) (ce := fun (ins_23 : (List Tx)) => (.obj "Net" [("ins", en (ins_23 : (List Tx)))])) (ePu (x := inputsV) (pu_cb (pu_cons (pu_var rfl) pu_nil) (fun h c => l_list inputsV h))) rfl (pu_var rfl)) fun ins_23 =>
  (as_seq (as_fld (k := 0) (ce := fun (memory_24 : (List (Tx × Nat))) => (.obj "Net" [("ins", en (ins_23 : (List Tx))), ("memory", en (memory_24 : (List (Tx × Nat))))])) (ePu (x := latchesV) (pu_cb (pu_cons (pu_var rfl) pu_nil) (fun h c => l_list latchesV h))) rfl (pu_var rfl)) fun memory_24 =>
  (as_seq (as_fld (k := 0) (ce := fun (pairs_25 : (List (Nat × Nat))) => (.obj "Net" [("ins", en (ins_23 : (List Tx))), ("memory", en (memory_24 : (List (Tx × Nat)))), ("pairs", en (pairs_25 : (List (Nat × Nat))))])) (ePu (x := gatesV) (pu_cb (pu_cons (pu_var rfl) pu_nil) (fun h c => l_list gatesV h))) rfl (pu_var rfl)) fun pairs_25 =>
  (as_seq (as_fld (k := 0) (ce := fun (tells_26 : (List (Tx × Nat))) => (.obj "Net" [("ins", en (ins_23 : (List Tx))), ("memory", en (memory_24 : (List (Tx × Nat)))), ("pairs", en (pairs_25 : (List (Nat × Nat)))), ("tells", en (tells_26 : (List (Tx × Nat))))])) (ePu (x := outsV) (pu_cb (pu_cons (pu_var rfl) pu_nil) (fun h c => l_list outsV h))) rfl (pu_var rfl)) fun tells_26 =>
  (as_seq (as_fld (k := 0) (ce := fun (later_27 : (List Nat)) => (.obj "Net" [("ins", en (ins_23 : (List Tx))), ("memory", en (memory_24 : (List (Tx × Nat)))), ("pairs", en (pairs_25 : (List (Nat × Nat)))), ("tells", en (tells_26 : (List (Tx × Nat)))), ("later", en (later_27 : (List Nat)))])) (ePu (x := nextsV) (pu_cb (pu_cons (pu_var rfl) pu_nil) (fun h c => l_list nextsV h))) rfl (pu_var rfl)) fun later_27 =>
  (as_setL (x := ((1 + ins_23.length) + memory_24.length)) (pu_bin (pu_bin pu_k (pu_cb (pu_cons (pu_fldC (k := 0) rfl (pu_var rfl) rfl) pu_nil) (fun h c => l_len ins_23 h)) (fun h c => nn_add 1 ins_23.length false h)) (pu_cb (pu_cons (pu_fldC (k := 0) rfl (pu_var rfl) rfl) pu_nil) (fun h c => l_len memory_24 h)) (fun h c => nn_add (1 + ins_23.length) memory_24.length false h)) fun first_28 =>
  (as_seq (as_forP (S := fun (g29 : Unit) => [some (.ref n_self), some (en (inputsV : (List Tx))), some (en (latchesV : (List (Tx × Nat)))), some (en (gatesV : (List (Nat × Nat)))), some (en (outsV : (List (Tx × Nat)))), some (en (nextsV : (List Nat))), some (en (sizes_12 : (List (D × Nat)))), some (en (first_28 : Nat)), none, none, none, none, none, none, none, none, none]) (Q := fun g29 => [(n_self, (.obj "Net" [("ins", en (ins_23 : (List Tx))), ("memory", en (memory_24 : (List (Tx × Nat)))), ("pairs", en (pairs_25 : (List (Nat × Nat)))), ("tells", en (tells_26 : (List (Tx × Nat)))), ("later", en (later_27 : (List Nat)))]))]) (e := fun (y : (Nat × (Nat × Nat))) => en y) (pu_enum (pu_cons (pu_fldC (k := 0) rfl (pu_var rfl) rfl) pu_nil)) (tm_tup (tm_cons tm_name (tm_cons (tm_tup (tm_cons tm_name (tm_cons tm_name tm_nil))) tm_nil))) ⟨.inr rfl, ⟨.inr rfl, ⟨.inr rfl, ⟨.inr rfl, ⟨.inr rfl, ⟨.inr rfl, ⟨.inr rfl, ⟨.inr rfl, ⟨.inl rfl, ⟨.inl rfl, ⟨.inl rfl, ⟨.inl rfl, ⟨.inl rfl, ⟨.inl rfl, ⟨.inl rfl, ⟨.inl rfl, ⟨.inl rfl, trivial⟩⟩⟩⟩⟩⟩⟩⟩⟩⟩⟩⟩⟩⟩⟩⟩⟩ (.cons₂ _ .slnil) (fun _ _ _ => rfl) fun g29 x30 =>
  (as_last (as_ifE (ag_tnotB (ag_tv (ag_chain3 pu_k (pu_var rfl) (pu_var rfl) (ag_bin (al_p pu_k (al_p (pu_bin (pu_var rfl) (pu_var rfl) (fun h c => nn_add first_28 x30.1 false h)) (al_nil (nn_mul 2 (first_28 + x30.1)))))) (fun h => nn_le 0 x30.2.1 h) (fun h => nn_le x30.2.1 x30.2.2 h) fun z h => nn_lt x30.2.2 z h))) (fun b31 =>
  (as_ends ends_raiseF (as_raiseF (pu_cons (pu_var rfl) pu_nil)))) fun b31 =>
  (as_nilS (as_endL rfl ⟨.inr rfl, ⟨.inr rfl, ⟨.inr rfl, ⟨.inr rfl, ⟨.inr rfl, ⟨.inr rfl, ⟨.inr rfl, ⟨.inr rfl, ⟨.inl rfl, ⟨.inl rfl, ⟨.inl rfl, ⟨.inl rfl, ⟨.inl rfl, ⟨.inl rfl, ⟨.inl rfl, ⟨.inl rfl, ⟨.inl rfl, trivial⟩⟩⟩⟩⟩⟩⟩⟩⟩⟩⟩⟩⟩⟩⟩⟩⟩ (.cons₂ _ .slnil)))))) fun g29 =>
  (as_setS (ag_bin (al_p pu_k (al_p (pu_bin (pu_var rfl) (pu_cb (pu_cons (pu_fldC (k := 0) rfl (pu_var rfl) rfl) pu_nil) (fun h c => l_len pairs_25 h)) (fun h c => nn_add first_28 pairs_25.length false h)) (al_nil (nn_mul 2 (first_28 + pairs_25.length)))))) fun most_32 =>
  (as_setS (ag_bin (al_e (v1 := (fun (s35 : (List Nat)) => en s35)) (ag_lcPP (e := fun (y : (Tx × Nat)) => en y) (v := fun (y : Nat) => en y) (pu_seq (pu_fldC (k := 0) rfl (pu_var rfl) rfl) rfl) fm_tup (fun _ => rfl) fun x34 => (pu_var rfl)) fun s35 => (al_p (pu_fldC (k := 0) rfl (pu_var rfl) rfl) (al_nil (l_cat s35 later_27))))) fun told_36 =>
  (as_last (as_ifE (ag_torP (pu_tv (pu_bin (pu_cb (pu_cons (pu_fldC (k := 0) rfl (pu_var rfl) rfl) pu_nil) (fun h c => l_len later_27 h)) (pu_cb (pu_cons (pu_fldC (k := 0) rfl (pu_var rfl) rfl) pu_nil) (fun h c => l_len memory_24 h)) (fun h c => nn_ne later_27.length memory_24.length h))) (ag_tnotB (ag_tv (ag_cb (al_e (v1 := (fun (s39 : (List Bool)) => en s39)) (ag_lcPP (e := fun (y : Nat) => en y) (v := fun (y : Bool) => en y) (pu_seq (pu_var rfl) rfl) fm_name (fun _ => rfl) fun x38 => (pu_chain pu_k (pu_var rfl) (pu_var rfl) (fun h => nn_le 0 x38 h) (fun h => nn_lt x38 most_32 h))) fun s39 => (al_nil (gp (fun h c => l_all s39 h)))))))) (fun b40 =>
  (as_ends ends_raise as_raise)) fun b40 =>
  (as_nilS (as_fall rfl (.cons₂ _ .slnil))))))))))))))))))))
def B_law_made : Ss :=
  (sRet (cMake "Net" F_Net___init__ [] (cCons (cB (fList false) (cCons (cBin oIx (cVar 0) (cK (.int 0))) cNil)) (cCons (cB (fList false) (cCons (cBin oIx (cVar 0) (cK (.int 1))) cNil)) (cCons (cB (fList false) (cCons (cBin oIx (cVar 0) (cK (.int 2))) cNil)) (cCons (cB (fList false) (cCons (cBin oIx (cVar 0) (cK (.int 3))) cNil)) (cCons (cB (fList false) (cCons (cBin oIx (cVar 0) (cK (.int 4))) cNil)) cNil)))))))
def F_law_made : FnT := fnOf 1 1 B_law_made
def T_law_made (mV : (H5 (List Tx) (List (Tx × Nat)) (List (Nat × Nat)) (List (Tx × Nat)) (List Nat))) : Tz NetT :=
  (T_Net___init__ mV.a mV.b mV.c mV.d mV.e)
theorem ag_law_made  (mV : (H5 (List Tx) (List (Tx × Nat)) (List (Nat × Nat)) (List (Tx × Nat)) (List Nat))) : FoX F_law_made [en mV] [] (T_law_made mV) (fun s => .ret (en s) []) :=
  fn_fo (v := en) (Q := fun _ => []) rfl rfl (by simp) fun h0 =>
  (as_last (as_ends ends_ret (as_retT (ag_make (al_p (pu_cb (pu_cons (pu_bin (pu_var rfl) pu_k (fun h c => rfl)) pu_nil) (fun h c => l_list mV.a h)) (al_p (pu_cb (pu_cons (pu_bin (pu_var rfl) pu_k (fun h c => rfl)) pu_nil) (fun h c => l_list mV.b h)) (al_p (pu_cb (pu_cons (pu_bin (pu_var rfl) pu_k (fun h c => rfl)) pu_nil) (fun h c => l_list mV.c h)) (al_p (pu_cb (pu_cons (pu_bin (pu_var rfl) pu_k (fun h c => rfl)) pu_nil) (fun h c => l_list mV.d h)) (al_p (pu_cb (pu_cons (pu_bin (pu_var rfl) pu_k (fun h c => rfl)) pu_nil) (fun h c => l_list mV.e h)) (al_nil (mk0 (fun _ => rfl) (fun n => ag_Net___init__ n mV.a mV.b mV.c mV.d mV.e))))))))) fun _ => ⟨_, rfl, .slnil⟩)))
def B_law_bit : Ss :=
  (sRet (cBin oMod (cBin oDiv (cVar 0) (cBin oShl (cK (.int 1)) (cVar 1))) (cK (.int 2))))
def F_law_bit : FnT := fnOf 2 2 B_law_bit
def T_law_bit (numberV : Nat) (atV : Nat) : Tz Nat :=
  (((shlT 1 atV).bind fun s2 => (divT numberV s2)).bind fun s3 => (Tz.ok (s3 % 2)))
theorem ag_law_bit  (numberV : Nat) (atV : Nat) : FoX F_law_bit [en numberV, en atV] [] (T_law_bit numberV atV) (fun s => .ret (en s) []) :=
  fn_fo (v := en) (Q := fun _ => []) rfl rfl (by simp) fun h0 =>
  (as_last (as_ends ends_ret (as_retT (ag_bin (al_e (v1 := (fun (s3 : Nat) => en s3)) (ag_bin (al_p (pu_var rfl) (al_e (v1 := (fun (s2 : Nat) => en s2)) (ag_bin (al_p pu_k (al_p (pu_var rfl) (al_nil (nn_shl 1 atV))))) fun s2 => (al_nil (nn_div numberV s2))))) fun s3 => (al_p pu_k (al_nil (gp (fun h c => nn_modP s3 2 (by decide) h)))))) fun _ => ⟨_, rfl, .slnil⟩)))
def B_law_told : Ss :=
  (sRet (cIf (cTv (cBin oEq (cBin oMod (cVar 1) (cK (.int 2))) (cK (.int 0)))) (cBin oIx (cVar 0) (cBin oDiv (cVar 1) (cK (.int 2)))) (cBin oSub (cK (.int 1)) (cBin oIx (cVar 0) (cBin oDiv (cVar 1) (cK (.int 2)))))))
def F_law_told : FnT := fnOf 2 2 B_law_told
def T_law_told (rowsV : (List Nat)) (edgeV : Nat) : Tz Nat :=
  (if (decide ((edgeV % 2) = 0)) = true then (ixT rowsV (edgeV / 2)) else ((ixT rowsV (edgeV / 2)).bind fun s1 => (subT 1 s1)))
theorem ag_law_told  (rowsV : (List Nat)) (edgeV : Nat) : FoX F_law_told [en rowsV, en edgeV] [] (T_law_told rowsV edgeV) (fun s => .ret (en s) []) :=
  fn_fo (v := en) (Q := fun _ => []) rfl rfl (by simp) fun h0 =>
  (as_last (as_ends ends_ret (as_retT (ag_ifP (pu_tv (pu_bin (pu_bin (pu_var rfl) pu_k (fun h c => nn_modP edgeV 2 (by decide) h)) pu_k (fun h c => nn_eq (edgeV % 2) 0 h))) (ag_bin (al_p (pu_var rfl) (al_p (pu_bin (pu_var rfl) pu_k (fun h c => nn_divP edgeV 2 (by decide) h)) (al_nil (l_ix rowsV (edgeV / 2)))))) (ag_bin (al_p pu_k (al_e (v1 := (fun (s1 : Nat) => en s1)) (ag_bin (al_p (pu_var rfl) (al_p (pu_bin (pu_var rfl) pu_k (fun h c => nn_divP edgeV 2 (by decide) h)) (al_nil (l_ix rowsV (edgeV / 2)))))) fun s1 => (al_nil (nn_sub 1 s1)))))) fun _ => ⟨_, rfl, .slnil⟩)))
def B_law_values : Ss :=
  (sSeq (sSet 2 (cLst true (cCons (cK (.int 0)) cNil)))
  (sSeq (sFor (iRange1 (cCons (cBin (oAdd false) (cB fLen (cCons (cBin oIx (cVar 0) (cK (.int 0))) cNil)) (cB fLen (cCons (cBin oIx (cVar 0) (cK (.int 1))) cNil))) cNil)) (gtName 3) (sExpr (cMt "list" mAppend (cVar 2) (cCons (cCall F_law_bit [] (cCons (cVar 1) (cCons (cVar 3) cNil))) cNil))))
  (sSeq (sFor (iSeqD (cBin oIx (cVar 0) (cK (.int 2)))) (gtTup 2 (gtCons (gtName 4) (gtCons (gtName 5) gtNil))) (sExpr (cMt "list" mAppend (cVar 2) (cCons (cBin oMul (cPure F_law_told [] (cCons (cVar 2) (cCons (cVar 4) cNil))) (cPure F_law_told [] (cCons (cVar 2) (cCons (cVar 5) cNil)))) cNil))))
  (sRet (cVar 2)))))
def F_law_values : FnT := fnOf 6 2 B_law_values
def T_law_values (mV : (H5 (List Tx) (List (Tx × Nat)) (List (Nat × Nat)) (List (Tx × Nat)) (List Nat))) (rowV : Nat) : Tz (List Nat) :=
  ((Tz.ok [0]).bind fun rows_1 =>
  (((rng (mV.a.length + mV.b.length)).bind fun s => foldT (fun (g3 : (List Nat)) (x4 : Nat) =>
  (((T_law_bit rowV x4).bind fun s5 => (appT g3 s5)).bind fun l6 =>
  (Tz.ok l6))) s rows_1).bind fun g3 =>
  ((foldT (fun (g7 : (List Nat)) (x8 : (Nat × Nat)) =>
  ((((T_law_told g7 x8.1).sure.bind fun s11 => ((T_law_told g7 x8.2).sure.bind fun s12 => (mulT s11 s12))).bind fun s13 => (appT g7 s13)).bind fun l14 =>
  (Tz.ok l14))) mV.c g3).bind fun g7 =>
  (Tz.ok g7))))
theorem ag_law_values  (mV : (H5 (List Tx) (List (Tx × Nat)) (List (Nat × Nat)) (List (Tx × Nat)) (List Nat))) (rowV : Nat) : FoX F_law_values [en mV, en rowV] [] (T_law_values mV rowV) (fun s => .retc (cl s) []) :=
  fn_foC (ce := fun (s : (List Nat)) => (cl s)) (Q := fun s => []) rfl rfl fun h0 =>
  (as_new (agc_lst (l := fun (x : List Nat) => x.map en) (ePu (x := [0]) (pu_lst (pu_cons pu_k pu_nil)))) fun rows_1 n2 hn2 =>
  (as_seq (as_for (S := fun (g3 : (List Nat)) => [some (en (mV : (H5 (List Tx) (List (Tx × Nat)) (List (Nat × Nat)) (List (Tx × Nat)) (List Nat)))), some (en (rowV : Nat)), some (.ref n2), none, none, none]) (Q := fun g3 => [(n2, (cl g3))]) (e := fun (y : Nat) => en y) (xs := fun (s : (List Nat)) => s) (g0 := fun (s : (List Nat)) => rows_1) (ag_range1 (al_p (pu_bin (pu_cb (pu_cons (pu_bin (pu_var rfl) pu_k (fun h c => rfl)) pu_nil) (fun h c => l_len mV.a h)) (pu_cb (pu_cons (pu_bin (pu_var rfl) pu_k (fun h c => rfl)) pu_nil) (fun h c => l_len mV.b h)) (fun h c => nn_add mV.a.length mV.b.length false h)) (al_nil (bR1_ok (mV.a.length + mV.b.length))))) tm_name (fun _ => ⟨.inr rfl, ⟨.inr rfl, ⟨.inr rfl, ⟨.inl rfl, ⟨.inl rfl, ⟨.inl rfl, trivial⟩⟩⟩⟩⟩⟩) (fun _ => (.cons₂ _ .slnil)) (fun _ _ _ => rfl) fun g3 x4 =>
  (as_last (as_seq (as_expr (ag_mt (pu_var rfl) (c_isL (k := 0) rfl) (al_e (v1 := (fun (s5 : Nat) => en s5)) (ag_call (al_p (pu_var rfl) (al_p (pu_var rfl) (al_nil (fo0 (ag_law_bit rowV x4)))))) fun s5 => (al_nil (c_app (k := 0) rfl s5))))) fun l6 =>
  (as_endL rfl ⟨.inr rfl, ⟨.inr rfl, ⟨.inr rfl, ⟨.inl rfl, ⟨.inl rfl, ⟨.inl rfl, trivial⟩⟩⟩⟩⟩⟩ (.cons₂ _ .slnil))))) fun g3 =>
  (as_seq (as_forP (S := fun (g7 : (List Nat)) => [some (en (mV : (H5 (List Tx) (List (Tx × Nat)) (List (Nat × Nat)) (List (Tx × Nat)) (List Nat)))), some (en (rowV : Nat)), some (.ref n2), none, none, none]) (Q := fun g7 => [(n2, (cl g7))]) (e := fun (y : (Nat × Nat)) => en y) (pu_seq (pu_bin (pu_var rfl) pu_k (fun h c => rfl)) rfl) (tm_tup (tm_cons tm_name (tm_cons tm_name tm_nil))) ⟨.inr rfl, ⟨.inr rfl, ⟨.inr rfl, ⟨.inl rfl, ⟨.inl rfl, ⟨.inl rfl, trivial⟩⟩⟩⟩⟩⟩ (.cons₂ _ .slnil) (fun _ _ _ => rfl) fun g7 x8 =>
  (as_last (as_seq (as_expr (ag_mt (pu_var rfl) (c_isL (k := 0) rfl) (al_e (v1 := (fun (s13 : Nat) => en s13)) (ag_bin (al_e (v1 := (fun (s11 : Nat) => en s11)) (ag_pure (al_p (pu_var rfl) (al_p (pu_var rfl) (al_nil (gv_pure (th_c (k := 0) rfl (th_v x8.1 th_nil)) (ag_law_told g7 x8.1)))))) fun s11 => (al_e (v1 := (fun (s12 : Nat) => en s12)) (ag_pure (al_p (pu_var rfl) (al_p (pu_var rfl) (al_nil (gv_pure (th_c (k := 0) rfl (th_v x8.2 th_nil)) (ag_law_told g7 x8.2)))))) fun s12 => (al_nil (nn_mul s11 s12))))) fun s13 => (al_nil (c_app (k := 0) rfl s13))))) fun l14 =>
  (as_endL rfl ⟨.inr rfl, ⟨.inr rfl, ⟨.inr rfl, ⟨.inl rfl, ⟨.inl rfl, ⟨.inl rfl, trivial⟩⟩⟩⟩⟩⟩ (.cons₂ _ .slnil))))) fun g7 =>
  (as_last (as_ends ends_ret (as_retV (k := 0) rfl rfl hn2 rfl .slnil))))))
def B_law_things : Ss :=
  (sRet (cBin (oAdd false) (cB fLen (cCons (cBin oIx (cVar 0) (cK (.int 0))) cNil)) (cB fLen (cCons (cBin oIx (cVar 0) (cK (.int 1))) cNil))))
def F_law_things : FnT := fnOf 1 1 B_law_things
def T_law_things (mV : (H5 (List Tx) (List (Tx × Nat)) (List (Nat × Nat)) (List (Tx × Nat)) (List Nat))) : Tz Nat :=
  (Tz.ok (mV.a.length + mV.b.length))
theorem ag_law_things  (mV : (H5 (List Tx) (List (Tx × Nat)) (List (Nat × Nat)) (List (Tx × Nat)) (List Nat))) : FoX F_law_things [en mV] [] (T_law_things mV) (fun s => .ret (en s) []) :=
  fn_fo (v := en) (Q := fun _ => []) rfl rfl (by simp) fun h0 =>
  (as_last (as_ends ends_ret (as_retP (pu_bin (pu_cb (pu_cons (pu_bin (pu_var rfl) pu_k (fun h c => rfl)) pu_nil) (fun h c => l_len mV.a h)) (pu_cb (pu_cons (pu_bin (pu_var rfl) pu_k (fun h c => rfl)) pu_nil) (fun h c => l_len mV.b h)) (fun h c => nn_add mV.a.length mV.b.length false h)) rfl .slnil)))
def B_law_tables : Ss :=
  (sSeq (sSet 1 (cBin (oRep false) (cLst false (cCons (cK (.int 0)) cNil)) (cBin (oAdd false) (cBin (oAdd false) (cK (.int 1)) (cCall F_law_things [] (cCons (cVar 0) cNil))) (cB fLen (cCons (cBin oIx (cVar 0) (cK (.int 2))) cNil)))))
  (sSeq (sFor (iRange1 (cCons (cBin oShl (cK (.int 1)) (cCall F_law_things [] (cCons (cVar 0) cNil))) cNil)) (gtName 2) (sSeq (sSet 3 (cFz (cCall F_law_values [] (cCons (cVar 0) (cCons (cVar 2) cNil)))))
  (sSet 1 (cLc false (iRange1 (cCons (cB fLen (cCons (cVar 1) cNil)) cNil)) (fName 4) cYes (cBin (oAdd false) (cBin oIx (cVar 1) (cVar 4)) (cBin oMul (cBin oIx (cVar 3) (cVar 4)) (cBin oShl (cK (.int 1)) (cVar 2)))) [4]))))
  (sRet (cVar 1))))
def F_law_tables : FnT := fnOf 5 1 B_law_tables
def T_law_tables (mV : (H5 (List Tx) (List (Tx × Nat)) (List (Nat × Nat)) (List (Tx × Nat)) (List Nat))) : Tz (List Nat) :=
  (((((T_law_things mV).bind fun s5 => (Tz.ok (1 + s5))).bind fun s6 => (Tz.ok (s6 + mV.c.length))).bind fun s7 => (repT [0] s7)).bind fun found_8 =>
  (((((T_law_things mV).bind fun s9 => (shlT 1 s9)).bind fun s10 => (rng s10)).bind fun s => foldT (fun (g11 : (List Nat)) (x12 : Nat) =>
  ((T_law_values mV x12).bind fun rows_13 =>
  (((rng g11.length).bind fun s => mapT (fun (x14 : Nat) => ((ixT g11 x14).bind fun s17 => (((ixT rows_13 x14).bind fun s18 => ((shlT 1 x12).bind fun s19 => (mulT s18 s19))).bind fun s20 => (Tz.ok (s17 + s20))))) s).bind fun found_21 =>
  (Tz.ok found_21)))) s found_8).bind fun g11 =>
  (Tz.ok g11)))
theorem ag_law_tables  (mV : (H5 (List Tx) (List (Tx × Nat)) (List (Nat × Nat)) (List (Tx × Nat)) (List Nat))) : FoX F_law_tables [en mV] [] (T_law_tables mV) (fun s => .ret (en s) []) :=
  fn_fo (v := en) (Q := fun _ => []) rfl rfl (by simp) fun h0 =>
  (as_setS (ag_bin (al_p (pu_lst (pu_cons pu_k pu_nil)) (al_e (v1 := (fun (s7 : Nat) => en s7)) (ag_bin (al_e (v1 := (fun (s6 : Nat) => en s6)) (ag_bin (al_p pu_k (al_e (v1 := (fun (s5 : Nat) => en s5)) (ag_call (al_p (pu_var rfl) (al_nil (fo0 (ag_law_things mV))))) fun s5 => (al_nil (gp (fun h c => nn_add 1 s5 false h)))))) fun s6 => (al_p (pu_cb (pu_cons (pu_bin (pu_var rfl) pu_k (fun h c => rfl)) pu_nil) (fun h c => l_len mV.c h)) (al_nil (gp (fun h c => nn_add s6 mV.c.length false h)))))) fun s7 => (al_nil (l_rep [0] s7))))) fun found_8 =>
  (as_seq (as_for (S := fun (g11 : (List Nat)) => [some (en (mV : (H5 (List Tx) (List (Tx × Nat)) (List (Nat × Nat)) (List (Tx × Nat)) (List Nat)))), some (en (g11 : (List Nat))), none, none, none]) (Q := fun g11 => []) (e := fun (y : Nat) => en y) (xs := fun (s : (List Nat)) => s) (g0 := fun (s : (List Nat)) => found_8) (ag_range1 (al_e (v1 := (fun (s10 : Nat) => en s10)) (ag_bin (al_p pu_k (al_e (v1 := (fun (s9 : Nat) => en s9)) (ag_call (al_p (pu_var rfl) (al_nil (fo0 (ag_law_things mV))))) fun s9 => (al_nil (nn_shl 1 s9))))) fun s10 => (al_nil (bR1_ok s10)))) tm_name (fun _ => ⟨.inr rfl, ⟨.inr rfl, ⟨.inl rfl, ⟨.inl rfl, ⟨.inl rfl, trivial⟩⟩⟩⟩⟩) (fun _ => .slnil) (fun _ _ _ => rfl) fun g11 x12 =>
  (as_setS (al_fzcall (al_p (pu_var rfl) (al_p (pu_var rfl) (al_nil (fz0 (ag_law_values mV x12)))))) fun rows_13 =>
  (as_last (as_setS (ag_lcE (e := fun (y : Nat) => en y) (v := fun (y : Nat) => en y) (ag_range1 (al_p (pu_cb (pu_cons (pu_var rfl) pu_nil) (fun h c => l_len g11 h)) (al_nil (bR1_ok g11.length)))) fm_name (fun _ => rfl) fun x14 => (ag_bin (al_e (v1 := (fun (s17 : Nat) => en s17)) (ag_bin (al_p (pu_var rfl) (al_p (pu_var rfl) (al_nil (l_ix g11 x14))))) fun s17 => (al_e (v1 := (fun (s20 : Nat) => en s20)) (ag_bin (al_e (v1 := (fun (s18 : Nat) => en s18)) (ag_bin (al_p (pu_var rfl) (al_p (pu_var rfl) (al_nil (l_ix rows_13 x14))))) fun s18 => (al_e (v1 := (fun (s19 : Nat) => en s19)) (ag_bin (al_p pu_k (al_p (pu_var rfl) (al_nil (nn_shl 1 x12))))) fun s19 => (al_nil (nn_mul s18 s19))))) fun s20 => (al_nil (gp (fun h c => nn_add s17 s20 false h))))))) fun found_21 =>
  (as_endL rfl ⟨.inr rfl, ⟨.inr rfl, ⟨.inl rfl, ⟨.inl rfl, ⟨.inl rfl, trivial⟩⟩⟩⟩⟩ .slnil))))) fun g11 =>
  (as_last (as_ends ends_ret (as_retP (pu_var rfl) rfl .slnil)))))
def B_law_far : Ss :=
  (sSeq (sSet 2 (cBin (oAdd false) (cBin oPow (cK (.int 10)) (cK (.int 30))) (cCall F_law_take [] (cCons (cVar 0) (cCons (cK (.int 7)) cNil)))))
  (sRet (cBin oIx (cLst false (cCons (cVar 1) (cCons (cBin (oAdd false) (cVar 1) (cK (.int 1))) (cCons (cBin (oAdd false) (cVar 1) (cCall F_law_take [] (cCons (cVar 0) (cCons (cK (.int 900)) cNil)))) (cCons (cVar 2) (cCons (cNeg (cK (.int 1))) (cCons (cNeg (cVar 2)) cNil))))))) (cCall F_law_take [] (cCons (cVar 0) (cCons (cK (.int 6)) cNil))))))
def F_law_far : FnT := fnOf 3 2 B_law_far
def T_law_far (boxC : Bxs) (leastV : Nat) : Tz (Int × Bxs) :=
  (((T_law_take boxC 7).bind fun s1 => (Tz.ok ((1000000000000000000000000000000 + s1.1), s1.2))).bind fun far_2 =>
  ((((T_law_take far_2.2 900).bind fun s5 => (Tz.ok ((leastV + s5.1), s5.2))).bind fun s6 => (Tz.ok ([(leastV : Int), ((leastV + 1) : Int), (s6.1 : Int), (far_2.1 : Int), ((-(1 : Int)) : Int), ((-(far_2.1 : Int)) : Int)], s6.2))).bind fun s7 => ((T_law_take s7.2 6).bind fun s8 => ((ixT s7.1 s8.1).bind fun x => Tz.ok (x, s8.2)))))
theorem ag_law_far (n_box : Nat) (boxC : Bxs) (leastV : Nat) : FoX F_law_far [.ref n_box, en leastV] [(n_box, (boxc boxC))] (T_law_far boxC leastV) (fun s => .ret (en s.1) [(n_box, (boxc s.2))]) :=
  fn_fo (v := fun (s : (Int × Bxs)) => en s.1) (Q := fun (s : (Int × Bxs)) => [(n_box, (boxc s.2))]) rfl rfl (by simp) fun h0 =>
  (as_setS (ag_bin (al_p (pu_bin pu_k pu_k fun h _ => pow_lit (by decide) (by decide +kernel) h) (al_e (v1 := (fun (s1 : (Nat × Bxs)) => en s1.1)) (ag_call (al_p (pu_var rfl) (al_p pu_k (al_nil (fo1 (k := 0) rfl (ag_law_take n_box boxC 7)))))) fun s1 => (al_nil (gpS (Φ2 := (fun (r : Nat × Bxs) => [(n_box, (boxc r.2))])) (x := ((1000000000000000000000000000000 + s1.1), s1.2)) (fun h c => nn_add 1000000000000000000000000000000 s1.1 false h)))))) fun far_2 =>
  (as_last (as_ends ends_ret (as_retT (ag_bin (al_e (v1 := (fun (s7 : ((List Int) × Bxs)) => en s7.1)) (ag_lst (al_p (pu_var rfl) (al_p (pu_bin (pu_var rfl) pu_k (fun h c => nn_add leastV 1 false h)) (al_e (v1 := (fun (s6 : (Nat × Bxs)) => en s6.1)) (ag_bin (al_p (pu_var rfl) (al_e (v1 := (fun (s5 : (Nat × Bxs)) => en s5.1)) (ag_call (al_p (pu_var rfl) (al_p pu_k (al_nil (fo1 (k := 0) rfl (ag_law_take n_box far_2.2 900)))))) fun s5 => (al_nil (gpS (Φ2 := (fun (r : Nat × Bxs) => [(n_box, (boxc r.2))])) (x := ((leastV + s5.1), s5.2)) (fun h c => nn_add leastV s5.1 false h)))))) fun s6 => (al_p (pu_var rfl) (al_p (pu_neg pu_k) (al_p (pu_neg (pu_var rfl)) (al_nil (bL_okS (Φ2 := (fun (r : (List Int) × Bxs) => [(n_box, (boxc r.2))])) (x := ([(leastV : Int), ((leastV + 1) : Int), (s6.1 : Int), (far_2.1 : Int), ((-(1 : Int)) : Int), ((-(far_2.1 : Int)) : Int)], s6.2))))))))))) fun s7 => (al_e (v1 := (fun (s8 : (Nat × Bxs)) => en s8.1)) (ag_call (al_p (pu_var rfl) (al_p pu_k (al_nil (fo1 (k := 0) rfl (ag_law_take n_box s7.2 6)))))) fun s8 => (al_nil (gs (Φ2 := (fun (r : Int × Bxs) => [(n_box, (boxc r.2))])) (b := s8.2) (l_ix s7.1 s8.1)))))) fun _ => ⟨_, rfl, (.cons₂ _ .slnil)⟩))))
def B_Net_things : Ss :=
  (sRet (cBin (oAdd false) (cB fLen (cCons (cFld "Net" "ins" (cVar 0)) cNil)) (cB fLen (cCons (cFld "Net" "memory" (cVar 0)) cNil))))
def F_Net_things : FnT := fnOf 1 1 B_Net_things
def T_Net_things (selfV : NetT) : Tz Nat :=
  (Tz.ok (selfV.ins.length + selfV.lat.length))
theorem ag_Net_things  (selfV : NetT) : FoX F_Net_things [en selfV] [] (T_Net_things selfV) (fun s => .ret (en s) []) :=
  fn_fo (v := en) (Q := fun _ => []) rfl rfl (by simp) fun h0 =>
  (as_last (as_ends ends_ret (as_retP (pu_bin (pu_cb (pu_cons (pu_fld (pu_var rfl) fun st h _ => rfl) pu_nil) (fun h c => l_len selfV.ins h)) (pu_cb (pu_cons (pu_fld (pu_var rfl) fun st h _ => rfl) pu_nil) (fun h c => l_len selfV.lat h)) (fun h c => nn_add selfV.ins.length selfV.lat.length false h)) rfl .slnil)))
def B_full_of : Ss :=
  (sRet (cBin oSub (cBin oShl (cK (.int 1)) (cBin oShl (cK (.int 1)) (cVar 0))) (cK (.int 1))))
def F_full_of : FnT := fnOf 1 1 B_full_of
def T_full_of (thingsV : Nat) : Tz Nat :=
  (((shlT 1 thingsV).bind fun s2 => (shlT 1 s2)).bind fun s3 => (subT s3 1))
theorem ag_full_of  (thingsV : Nat) : FoX F_full_of [en thingsV] [] (T_full_of thingsV) (fun s => .ret (en s) []) :=
  fn_fo (v := en) (Q := fun _ => []) rfl rfl (by simp) fun h0 =>
  (as_last (as_ends ends_ret (as_retT (ag_bin (al_e (v1 := (fun (s3 : Nat) => en s3)) (ag_bin (al_p pu_k (al_e (v1 := (fun (s2 : Nat) => en s2)) (ag_bin (al_p pu_k (al_p (pu_var rfl) (al_nil (nn_shl 1 thingsV))))) fun s2 => (al_nil (nn_shl 1 s2))))) fun s3 => (al_p pu_k (al_nil (nn_sub s3 1))))) fun _ => ⟨_, rfl, .slnil⟩)))
def B_Net_gates : Ss :=
  (sRet (cB (fList true) (cCons (cFld "Net" "pairs" (cVar 0)) cNil)))
def F_Net_gates : FnT := fnOf 1 1 B_Net_gates
def T_Net_gates (selfV : NetT) : Tz (List (Nat × Nat)) :=
  (Tz.ok selfV.gat)
theorem ag_Net_gates  (selfV : NetT) : FoX F_Net_gates [en selfV] [] (T_Net_gates selfV) (fun s => .retc (cl s) []) :=
  fn_foC (ce := fun (s : (List (Nat × Nat))) => (cl s)) (Q := fun s => []) rfl rfl fun h0 =>
  (as_last (as_ends ends_ret (as_retCT (agc_list (l := fun (x : List (Nat × Nat)) => x.map en) (ePu (x := selfV.gat) (pu_cb (pu_cons (pu_fld (pu_var rfl) fun st h _ => rfl) pu_nil) (fun h c => l_list selfV.gat h)))) fun _ => ⟨_, rfl, .slnil⟩)))
def B_column_of : Ss :=
  (sSeq (sSet 2 (cBin oShl (cK (.int 1)) (cVar 1)))
  (sSeq (sSet 3 (cBin oShl (cBin oSub (cBin oShl (cK (.int 1)) (cVar 2)) (cK (.int 1))) (cVar 2)))
  (sSeq (sSet 4 (cBin oMul (cK (.int 2)) (cVar 2)))
  (sSeq (whileL (cTv (cBin oLt (cVar 4) (cBin oShl (cK (.int 1)) (cVar 0)))) (sSeq (sAug 3 oOr (cBin oShl (cVar 3) (cVar 4)))
  (sAug 4 oShl (cK (.int 1)))) fuel)
  (sRet (cVar 3))))))
def F_column_of : FnT := fnOf 5 2 B_column_of
def T_column_of (thingsV : Nat) (atV : Nat) : Tz Nat :=
  ((shlT 1 atV).bind fun wide_1 =>
  ((((shlT 1 wide_1).bind fun s3 => (subT s3 1)).bind fun s4 => (shlT s4 wide_1)).bind fun found_5 =>
  ((mulT 2 wide_1).bind fun size_6 =>
  ((whileT (fun (g7 : (Nat × Nat)) => ((shlT 1 thingsV).bind fun s8 => (Tz.ok (decide (g7.2 < s8))))) (fun (g7 : (Nat × Nat)) =>
  (((shlT g7.1 g7.2).bind fun s9 => (Tz.ok (g7.1 ||| s9))).bind fun found_10 =>
  ((shlT g7.2 1).bind fun size_11 =>
  (Tz.ok (found_10, size_11))))) fuel (found_5, size_6)).bind fun g7 =>
  (Tz.ok g7.1)))))
theorem ag_column_of  (thingsV : Nat) (atV : Nat) : FoX F_column_of [en thingsV, en atV] [] (T_column_of thingsV atV) (fun s => .ret (en s) []) :=
  fn_fo (v := en) (Q := fun _ => []) rfl rfl (by simp) fun h0 =>
  (as_setS (ag_bin (al_p pu_k (al_p (pu_var rfl) (al_nil (nn_shl 1 atV))))) fun wide_1 =>
  (as_setS (ag_bin (al_e (v1 := (fun (s4 : Nat) => en s4)) (ag_bin (al_e (v1 := (fun (s3 : Nat) => en s3)) (ag_bin (al_p pu_k (al_p (pu_var rfl) (al_nil (nn_shl 1 wide_1))))) fun s3 => (al_p pu_k (al_nil (nn_sub s3 1))))) fun s4 => (al_p (pu_var rfl) (al_nil (nn_shl s4 wide_1))))) fun found_5 =>
  (as_setS (ag_bin (al_p pu_k (al_p (pu_var rfl) (al_nil (nn_mul 2 wide_1))))) fun size_6 =>
  (as_seq (as_while (S := fun (g7 : (Nat × Nat)) => [some (en (thingsV : Nat)), some (en (atV : Nat)), some (en (wide_1 : Nat)), some (en (g7.1 : Nat)), some (en (g7.2 : Nat))]) (Q := fun g7 => []) ⟨.inr rfl, ⟨.inr rfl, ⟨.inr rfl, ⟨.inr rfl, ⟨.inr rfl, trivial⟩⟩⟩⟩⟩ .slnil (fun g7 => (ag_tv (ag_bin (al_p (pu_var rfl) (al_e (v1 := (fun (s8 : Nat) => en s8)) (ag_bin (al_p pu_k (al_p (pu_var rfl) (al_nil (nn_shl 1 thingsV))))) fun s8 => (al_nil (gp (fun h c => nn_lt g7.2 s8 h)))))))) fun g7 =>
  (as_aug rfl (al_e (v1 := (fun (s9 : Nat) => en s9)) (ag_bin (al_p (pu_var rfl) (al_p (pu_var rfl) (al_nil (nn_shl g7.1 g7.2))))) fun s9 => (al_nil (gp (fun h c => nn_or g7.1 s9 h)))) fun found_10 =>
  (as_last (as_aug rfl (al_p pu_k (al_nil (nn_shl g7.2 1))) fun size_11 =>
  (as_endL rfl ⟨.inr rfl, ⟨.inr rfl, ⟨.inr rfl, ⟨.inr rfl, ⟨.inr rfl, trivial⟩⟩⟩⟩⟩ .slnil))))) fun g7 =>
  (as_last (as_ends ends_ret (as_retP (pu_var rfl) rfl .slnil)))))))
def B_signed : Ss :=
  (sRet (cBin oXor (cBin oIx (cVar 0) (cBin oShr (cVar 1) (cK (.int 1)))) (cIf (cTr (cBin oAnd (cVar 1) (cK (.int 1)))) (cVar 2) (cK (.int 0)))))
def F_signed : FnT := fnOf 3 3 B_signed
def T_signed (rowsV : (List Nat)) (edgeV : Nat) (wholeV : Nat) : Tz Nat :=
  ((ixT rowsV (edgeV >>> 1)).bind fun s1 => (Tz.ok (s1 ^^^ (if (!decide ((edgeV &&& 1) = 0)) = true then wholeV else 0))))
theorem ag_signed  (rowsV : (List Nat)) (edgeV : Nat) (wholeV : Nat) : FoX F_signed [en rowsV, en edgeV, en wholeV] [] (T_signed rowsV edgeV wholeV) (fun s => .ret (en s) []) :=
  fn_fo (v := en) (Q := fun _ => []) rfl rfl (by simp) fun h0 =>
  (as_last (as_ends ends_ret (as_retT (ag_bin (al_e (v1 := (fun (s1 : Nat) => en s1)) (ag_bin (al_p (pu_var rfl) (al_p (pu_bin (pu_var rfl) pu_k (fun h c => nn_shr edgeV 1 h)) (al_nil (l_ix rowsV (edgeV >>> 1)))))) fun s1 => (al_p (pu_if (pu_trN (pu_bin (pu_var rfl) pu_k (fun h c => nn_and edgeV 1 h))) (pu_var rfl) pu_k) (al_nil (gp (fun h c => nn_xor s1 (if (!decide ((edgeV &&& 1) = 0)) = true then wholeV else 0) h)))))) fun _ => ⟨_, rfl, .slnil⟩)))
def B_tables_of : Ss :=
  (sSeq (sSet 1 (cMeth "Net" "things" F_Net_things [] (cVar 0) cNil))
  (sSeq (sSet 2 (cCall F_full_of [] (cCons (cVar 1) cNil)))
  (sSeq (sSet 3 (cBin (oAdd true) (cLst false (cCons (cK (.int 0)) cNil)) (cLc false (iRange1 (cCons (cVar 1) cNil)) (fName 6) cYes (cCall F_column_of [] (cCons (cVar 1) (cCons (cVar 6) cNil))) [6])))
  (sSeq (sFor (iSeqD (cFz (cMeth "Net" "gates" F_Net_gates [] (cVar 0) cNil))) (gtTup 2 (gtCons (gtName 4) (gtCons (gtName 5) gtNil))) (sExpr (cMt "list" mAppend (cVar 3) (cCons (cBin oAnd (cPure F_signed [] (cCons (cVar 3) (cCons (cVar 4) (cCons (cVar 2) cNil)))) (cPure F_signed [] (cCons (cVar 3) (cCons (cVar 5) (cCons (cVar 2) cNil))))) cNil))))
  (sRet (cVar 3))))))
def F_tables_of : FnT := fnOf 7 1 B_tables_of
def T_tables_of (netV : NetT) : Tz (List Nat) :=
  ((T_Net_things netV).bind fun things_1 =>
  ((T_full_of things_1).bind fun whole_2 =>
  ((((rng things_1).bind fun s => mapT (fun (x4 : Nat) => (T_column_of things_1 x4)) s).bind fun s5 => (catT [0] s5)).bind fun found_6 =>
  (((T_Net_gates netV).bind fun s => foldT (fun (g8 : (List Nat)) (x9 : (Nat × Nat)) =>
  ((((T_signed g8 x9.1 whole_2).sure.bind fun s12 => ((T_signed g8 x9.2 whole_2).sure.bind fun s13 => (Tz.ok (s12 &&& s13)))).bind fun s14 => (appT g8 s14)).bind fun l15 =>
  (Tz.ok l15))) s found_6).bind fun g8 =>
  (Tz.ok g8)))))
theorem ag_tables_of  (netV : NetT) : FoX F_tables_of [en netV] [] (T_tables_of netV) (fun s => .retc (cl s) []) :=
  fn_foC (ce := fun (s : (List Nat)) => (cl s)) (Q := fun s => []) rfl rfl fun h0 =>
  (as_setS (ag_meth (pu_var rfl) rfl rfl (al_nil (fo0 (ag_Net_things netV)))) fun things_1 =>
  (as_setS (ag_call (al_p (pu_var rfl) (al_nil (fo0 (ag_full_of things_1))))) fun whole_2 =>
  (as_new (agc_add (l := fun (x : List Nat) => x.map en) (ag_bin (al_p (pu_lst (pu_cons pu_k pu_nil)) (al_e (v1 := (fun (s5 : (List Nat)) => en s5)) (ag_lcE (e := fun (y : Nat) => en y) (v := fun (y : Nat) => en y) (ag_range1 (al_p (pu_var rfl) (al_nil (bR1_ok things_1)))) fm_name (fun _ => rfl) fun x4 => (ag_call (al_p (pu_var rfl) (al_p (pu_var rfl) (al_nil (fo0 (ag_column_of things_1 x4))))))) fun s5 => (al_nil (l_cat [0] s5)))))) fun found_6 n7 hn7 =>
  (as_seq (as_for (S := fun (g8 : (List Nat)) => [some (en (netV : NetT)), some (en (things_1 : Nat)), some (en (whole_2 : Nat)), some (.ref n7), none, none, none]) (Q := fun g8 => [(n7, (cl g8))]) (e := fun (y : (Nat × Nat)) => en y) (xs := fun (s : (List (Nat × Nat))) => s) (g0 := fun (s : (List (Nat × Nat))) => found_6) (ag_seq (al_fzmeth (pu_var rfl) rfl rfl (al_nil (fz0 (ag_Net_gates netV)))) fun _ => rfl) (tm_tup (tm_cons tm_name (tm_cons tm_name tm_nil))) (fun _ => ⟨.inr rfl, ⟨.inr rfl, ⟨.inr rfl, ⟨.inr rfl, ⟨.inl rfl, ⟨.inl rfl, ⟨.inl rfl, trivial⟩⟩⟩⟩⟩⟩⟩) (fun _ => (.cons₂ _ .slnil)) (fun _ _ _ => rfl) fun g8 x9 =>
  (as_last (as_seq (as_expr (ag_mt (pu_var rfl) (c_isL (k := 0) rfl) (al_e (v1 := (fun (s14 : Nat) => en s14)) (ag_bin (al_e (v1 := (fun (s12 : Nat) => en s12)) (ag_pure (al_p (pu_var rfl) (al_p (pu_var rfl) (al_p (pu_var rfl) (al_nil (gv_pure (th_c (k := 0) rfl (th_v x9.1 (th_v whole_2 th_nil))) (ag_signed g8 x9.1 whole_2))))))) fun s12 => (al_e (v1 := (fun (s13 : Nat) => en s13)) (ag_pure (al_p (pu_var rfl) (al_p (pu_var rfl) (al_p (pu_var rfl) (al_nil (gv_pure (th_c (k := 0) rfl (th_v x9.2 (th_v whole_2 th_nil))) (ag_signed g8 x9.2 whole_2))))))) fun s13 => (al_nil (gp (fun h c => nn_and s12 s13 h)))))) fun s14 => (al_nil (c_app (k := 0) rfl s14))))) fun l15 =>
  (as_endL rfl ⟨.inr rfl, ⟨.inr rfl, ⟨.inr rfl, ⟨.inr rfl, ⟨.inl rfl, ⟨.inl rfl, ⟨.inl rfl, trivial⟩⟩⟩⟩⟩⟩⟩ (.cons₂ _ .slnil))))) fun g8 =>
  (as_last (as_ends ends_ret (as_retV (k := 0) rfl rfl hn7 rfl .slnil)))))))
def B_tables : Ss :=
  (sRet (cCall F_tables_of [] (cCons (cVar 0) cNil)))
def F_tables : FnT := fnOf 1 1 B_tables
def T_tables (netV : NetT) : Tz (List Nat) :=
  (T_tables_of netV)
theorem ag_tables  (netV : NetT) : FoX F_tables [en netV] [] (T_tables netV) (fun s => .retc (cl s) []) :=
  fn_foC (ce := fun (s : (List Nat)) => (cl s)) (Q := fun s => []) rfl rfl fun h0 =>
  (as_last (as_ends ends_ret (as_retCT (agc_call (alc_p (pu_var rfl) (alc_nil (foC0 (ag_tables_of netV))))) fun _ => ⟨_, rfl, .slnil⟩)))
def B_Net_many : Ss :=
  (sRet (cBin (oAdd false) (cBin (oAdd false) (cK (.int 1)) (cMeth "Net" "things" F_Net_things [] (cVar 0) cNil)) (cB fLen (cCons (cFld "Net" "pairs" (cVar 0)) cNil))))
def F_Net_many : FnT := fnOf 1 1 B_Net_many
def T_Net_many (selfV : NetT) : Tz Nat :=
  (((T_Net_things selfV).bind fun s2 => (Tz.ok (1 + s2))).bind fun s3 => (Tz.ok (s3 + selfV.gat.length)))
theorem ag_Net_many  (selfV : NetT) : FoX F_Net_many [en selfV] [] (T_Net_many selfV) (fun s => .ret (en s) []) :=
  fn_fo (v := en) (Q := fun _ => []) rfl rfl (by simp) fun h0 =>
  (as_last (as_ends ends_ret (as_retT (ag_bin (al_e (v1 := (fun (s3 : Nat) => en s3)) (ag_bin (al_p pu_k (al_e (v1 := (fun (s2 : Nat) => en s2)) (ag_meth (pu_var rfl) rfl rfl (al_nil (fo0 (ag_Net_things selfV)))) fun s2 => (al_nil (gp (fun h c => nn_add 1 s2 false h)))))) fun s3 => (al_p (pu_cb (pu_cons (pu_fld (pu_var rfl) fun st h _ => rfl) pu_nil) (fun h c => l_len selfV.gat h)) (al_nil (gp (fun h c => nn_add s3 selfV.gat.length false h)))))) fun _ => ⟨_, rfl, .slnil⟩)))
def B_need_edge : Ss :=
  (sIf (cTnot (cTv (cChain oLe oLt (cK (.int 0)) (cVar 1) (cBin oMul (cK (.int 2)) (cMeth "Net" "many" F_Net_many [] (cVar 0) cNil))))) (sRaise (PySem.Str.ofString "BadEdge"))
  sNil)
def F_need_edge : FnT := fnOf 2 2 B_need_edge
def T_need_edge (netV : NetT) (edgeV : Int) : Tz Unit :=
  (((if (decide ((0 : Int) ≤ edgeV)) = true then (((T_Net_many netV).bind fun s1 => (mulT 2 s1)).bind fun z => Tz.ok (decide (edgeV < (z : Int)))) else Tz.ok false).bind fun b => Tz.ok (!b)).bind fun b2 => if b2 = true then
  (Tz.exc ⟨(PySem.Str.ofString "BadEdge"), none⟩)
  else
  (Tz.ok ()))
theorem ag_need_edge  (netV : NetT) (edgeV : Int) : FoX F_need_edge [en netV, en edgeV] [] (T_need_edge netV edgeV) (fun s => .ret .non []) :=
  fn_foN (Q := fun (s : Unit) => []) rfl rfl (by simp) fun h0 =>
  (as_last (as_ifE (ag_tnotB (ag_tv (ag_chain pu_k (pu_var rfl) (ag_bin (al_p pu_k (al_e (v1 := (fun (s1 : Nat) => en s1)) (ag_meth (pu_var rfl) rfl rfl (al_nil (fo0 (ag_Net_many netV)))) fun s1 => (al_nil (nn_mul 2 s1))))) (fun h => ii_le (0 : Int) edgeV h) fun z h => ii_lt edgeV (z : Int) h))) (fun b2 =>
  (as_ends ends_raise as_raise)) fun b2 =>
  (as_nilS (as_fall rfl .slnil))))
def B_edge_table : Ss :=
  (sSeq (sExpr (cCall F_need_edge [] (cCons (cVar 0) (cCons (cVar 1) cNil))))
  (sRet (cCall F_signed [] (cCons (cFz (cCall F_tables_of [] (cCons (cVar 0) cNil))) (cCons (cVar 1) (cCons (cCall F_full_of [] (cCons (cMeth "Net" "things" F_Net_things [] (cVar 0) cNil) cNil)) cNil))))))
def F_edge_table : FnT := fnOf 2 2 B_edge_table
def T_edge_table (netV : NetT) (edgeV : Int) : Tz Nat :=
  ((T_need_edge netV edgeV).bind fun u1 =>
  ((T_tables_of netV).bind fun s3 => ((toN edgeV).bind fun s4 => (((T_Net_things netV).bind fun s5 => (T_full_of s5)).bind fun s6 => (T_signed s3 s4 s6)))))
theorem ag_edge_table  (netV : NetT) (edgeV : Int) : FoX F_edge_table [en netV, en edgeV] [] (T_edge_table netV edgeV) (fun s => .ret (en s) []) :=
  fn_fo (v := en) (Q := fun _ => []) rfl rfl (by simp) fun h0 =>
  (as_seq (as_expr (ag_call (al_p (pu_var rfl) (al_p (pu_var rfl) (al_nil (fo0 (ag_need_edge netV edgeV))))))) fun u1 =>
  (as_last (as_ends ends_ret (as_retT (ag_call (al_e (v1 := (fun (s3 : (List Nat)) => en s3)) (al_fzcall (al_p (pu_var rfl) (al_nil (fz0 (ag_tables_of netV))))) fun s3 => (al_e (v1 := (fun (s4 : Nat) => en s4)) (ag_toN (pu_var rfl)) fun s4 => (al_e (v1 := (fun (s6 : Nat) => en s6)) (ag_call (al_e (v1 := (fun (s5 : Nat) => en s5)) (ag_meth (pu_var rfl) rfl rfl (al_nil (fo0 (ag_Net_things netV)))) fun s5 => (al_nil (fo0 (ag_full_of s5))))) fun s6 => (al_nil (fo0 (ag_signed s3 s4 s6))))))) fun _ => ⟨_, rfl, .slnil⟩))))
end Gp

/-! Hw: what a typed term answers. -/
namespace Gt
open PySem PySem.Spec PyProof.Rows Gm
variable {α β γ δ ρ : Type}
theorem bind_id (t : Tz α) : (t.bind fun x => .ok x) = t := by cases t <;> rfl
def WP (t : Tz α) (P : α → Prop) : Prop := ∃ a, t = .ok a ∧ P a
theorem WP.bind {t : Tz α} {k : α → Tz β} {P : α → Prop} {Q : β → Prop} (h : WP t P) (h2 : ∀ a, P a → WP (k a) Q) : WP (t.bind k) Q := by
  obtain ⟨a, rfl, p⟩ := h
  exact h2 a p
theorem WP.ok {a : α} {P : α → Prop} (h : P a) : WP (.ok a) P := ⟨a, rfl, h⟩
theorem WP.eq {t : Tz α} {a : α} {P : α → Prop} (e : t = .ok a) (h : P a) : WP t P := ⟨a, e, h⟩
theorem WP.of {t : Tz α} {a : α} (e : t = .ok a) : WP t (· = a) := ⟨a, e, rfl⟩
theorem WP.get {t : Tz α} {a : α} (h : WP t (· = a)) : t = .ok a := by
  obtain ⟨b, e, rfl⟩ := h
  exact e
theorem WP.mono {t : Tz α} {P Q : α → Prop} (h : WP t P) (k : ∀ a, P a → Q a) : WP t Q := by
  obtain ⟨a, e, p⟩ := h
  exact ⟨a, e, k a p⟩
theorem WP.both {t : Tz α} {P Q : α → Prop} (h : WP t P) (k : WP t Q) : WP t fun a => P a ∧ Q a := by
  obtain ⟨a, e, p⟩ := h
  obtain ⟨b, e2, q⟩ := k
  rw [e] at e2
  cases e2
  exact ⟨a, e, p, q⟩
theorem WP.lt {x : α} {k : α → Tz β} {P : β → Prop} (h : WP (k x) P) : WP (Tz.lt x k) P := h
theorem WP.ite {c : Prop} [Decidable c] {s t : Tz α} {P : α → Prop} (h1 : c → WP s P) (h2 : ¬ c → WP t P) : WP (if c then s else t) P := by
  by_cases h : c
  · rw [if_pos h]; exact h1 h
  · rw [if_neg h]; exact h2 h
theorem WP.fold {body : γ → α → Tz γ} (I : Nat → γ → Prop) : ∀ (xs : List α) (k : Nat) (g : γ), (∀ i x g, xs[i]? = some x → I (k + i) g → WP (body g x) (I (k + i + 1))) → I k g → WP (foldT body xs g) (I (k + xs.length))
  | [], k, g, _, h => ⟨g, rfl, h⟩
  | x :: xs, k, g, step, h => by
    unfold foldT
    refine WP.bind (step 0 x g rfl h) fun g' h' => ?_
    have ih := WP.fold I xs (k + 1) g' (fun i y g hy hg => by
      have e : k + 1 + i = k + (i + 1) := by omega
      rw [e] at hg ⊢
      exact step (i + 1) y g (by simpa using hy) hg) h'
    rw [List.length_cons, show k + (xs.length + 1) = k + 1 + xs.length by omega]
    exact ih
theorem WP.fold0 {body : γ → α → Tz γ} (I : Nat → γ → Prop) {xs : List α} {g : γ} (step : ∀ i x g, xs[i]? = some x → I i g → WP (body g x) (I (i + 1))) (h : I 0 g) : WP (foldT body xs g) (I xs.length) := by
  have z := WP.fold I xs 0 g (fun i x g hx hg => by rw [Nat.zero_add] at hg ⊢; exact step i x g hx hg) h
  rw [Nat.zero_add] at z
  exact z
/-- a fold of a plain function -/
theorem foldT_eq {body : γ → α → Tz γ} {f : γ → α → γ} : ∀ (xs : List α) (g : γ), (∀ g x, x ∈ xs → body g x = .ok (f g x)) → foldT body xs g = .ok (xs.foldl f g)
  | [], g, _ => rfl
  | x :: xs, g, h => by
    unfold foldT
    rw [h g x (by simp), Tz.bind_ok, foldT_eq xs (f g x) fun g y hy => h g y (by simp [hy])]
    rfl
theorem WP.forG {body : γ → α → Tz (Lp γ ρ)} (I : Nat → γ → Prop) : ∀ (xs : List α) (k : Nat) (g : γ), (∀ i x g, xs[i]? = some x → I (k + i) g → WP (body g x) fun o => ∃ g', o = .go g' ∧ I (k + i + 1) g') → I k g → WP (forT body xs g) fun o => ∃ g', o = .go g' ∧ I (k + xs.length) g'
  | [], k, g, _, h => ⟨.go g, rfl, g, rfl, h⟩
  | x :: xs, k, g, step, h => by
    unfold forT
    refine WP.bind (step 0 x g rfl h) fun o ⟨g', e, h'⟩ => ?_
    subst e
    have ih := WP.forG I xs (k + 1) g' (fun i y g hy hg => by
      have e : k + 1 + i = k + (i + 1) := by omega
      rw [e] at hg ⊢
      exact step (i + 1) y g (by simpa using hy) hg) h'
    rw [List.length_cons, show k + (xs.length + 1) = k + 1 + xs.length by omega]
    exact ih
/-- a loop that runs to its end, and what stands behind -/
theorem WP.forO {body : γ → α → Tz (Lp γ ρ)} {xs : List α} {g : γ} {k : γ → Tz β} {i : ρ → β} {P : β → Prop} (I : Nat → γ → Prop) (h : I 0 g) (step : ∀ i x g, xs[i]? = some x → I i g → WP (body g x) fun o => ∃ g', o = .go g' ∧ I (i + 1) g') (h2 : ∀ g, I xs.length g → WP (k g) P) : WP ((forT body xs g).bind fun o => o.on k i) P := by
  have z := WP.forG I xs 0 g (fun i x g hx hg => by rw [Nat.zero_add] at hg ⊢; exact step i x g hx hg) h
  rw [Nat.zero_add] at z
  refine WP.bind z fun o ⟨g', e, hg⟩ => ?_
  subst e
  exact h2 g' hg
theorem WP.mapT' {q : α → Tz β} {R : Nat → β → Prop} : ∀ (xs : List α) (k : Nat), (∀ i x, xs[i]? = some x → WP (q x) (R (k + i))) → WP (Gt.mapT' q xs) fun ys => ys.length = xs.length ∧ ∀ i y, ys[i]? = some y → R (k + i) y
  | [], k, _ => ⟨[], rfl, rfl, fun i y e => by simp at e⟩
  | x :: xs, k, h => by
    unfold Gt.mapT'
    obtain ⟨y, e, ry⟩ := h 0 x rfl
    obtain ⟨ys, e2, l, hy⟩ := WP.mapT' xs (k + 1) fun i z hz => by
      have := h (i + 1) z (by simpa using hz)
      rw [show k + 1 + i = k + (i + 1) by omega]
      exact this
    refine ⟨y :: ys, by rw [e, e2]; rfl, by simp [l], fun i z hz => ?_⟩
    cases i with
    | zero =>
      have hz : y = z := by simpa using hz
      rw [← hz]
      exact ry
    | succ i =>
      have := hy i z (by simpa using hz)
      rw [show k + (i + 1) = k + 1 + i by omega]
      exact this
theorem WP.mapT {q : α → Tz β} {R : Nat → β → Prop} {xs : List α} (hl : xs.length ≤ 1000000) (h : ∀ i x, xs[i]? = some x → WP (q x) (R i)) : WP (Gt.mapT q xs) fun ys => ys.length = xs.length ∧ ∀ i y, ys[i]? = some y → R i y := by
  unfold Gt.mapT
  rw [if_pos hl]
  have z := WP.mapT' (q := q) (R := R) xs 0 (fun i x hx => by rw [Nat.zero_add]; exact h i x hx)
  refine z.mono fun ys ⟨l, hy⟩ => ⟨l, fun i y e => ?_⟩
  have := hy i y e
  rwa [Nat.zero_add] at this
theorem WP.mapS' {q : γ → α → Tz (γ × β)} (I : Nat → γ → Prop) {R : Nat → β → Prop} : ∀ (xs : List α) (k : Nat) (g : γ), (∀ i x g, xs[i]? = some x → I (k + i) g → WP (q g x) fun r => I (k + i + 1) r.1 ∧ R (k + i) r.2) → I k g →
    WP (Gt.mapS' q xs g) fun r => I (k + xs.length) r.1 ∧ r.2.length = xs.length ∧ ∀ i y, r.2[i]? = some y → R (k + i) y
  | [], k, g, _, h => ⟨(g, []), rfl, h, rfl, fun i y e => by simp at e⟩
  | x :: xs, k, g, step, h => by
    unfold Gt.mapS'
    obtain ⟨r, e, h1, r1⟩ := step 0 x g rfl h
    obtain ⟨rs, e2, h2, l, hy⟩ := WP.mapS' I xs (k + 1) r.1 (fun i z g hz hg => by
      have := step (i + 1) z g (by simpa using hz)
      rw [show k + 1 + i = k + (i + 1) by omega] at hg ⊢
      exact this hg) h1
    refine ⟨(rs.1, r.2 :: rs.2), by rw [e, Tz.sure_ok, Tz.bind_ok, e2]; rfl, ?_, by simp [l], fun i z hz => ?_⟩
    · rw [List.length_cons, show k + (xs.length + 1) = k + 1 + xs.length by omega]
      exact h2
    · cases i with
      | zero =>
        have hz : r.2 = z := by simpa using hz
        rw [← hz]
        exact r1
      | succ i =>
        have := hy i z (by simpa using hz)
        rw [show k + (i + 1) = k + 1 + i by omega]
        exact this
theorem WP.mapS {q : γ → α → Tz (γ × β)} (I : Nat → γ → Prop) {R : Nat → β → Prop} {xs : List α} {g : γ} (hl : xs.length ≤ 1000000) (h : I 0 g) (step : ∀ i x g, xs[i]? = some x → I i g → WP (q g x) fun r => I (i + 1) r.1 ∧ R i r.2) :
    WP (Gt.mapS q xs g) fun r => I xs.length r.1 ∧ r.2.length = xs.length ∧ ∀ i y, r.2[i]? = some y → R i y := by
  unfold Gt.mapS
  rw [if_pos hl]
  have z := WP.mapS' (q := q) I (R := R) xs 0 g (fun i x g hx hg => by rw [Nat.zero_add] at hg ⊢; exact step i x g hx hg) h
  refine z.mono fun r ⟨a, l, hy⟩ => ⟨by rwa [Nat.zero_add] at a, l, fun i y e => ?_⟩
  have := hy i y e
  rwa [Nat.zero_add] at this
theorem WP.ix {xs : List α} {i : Nat} {P : α → Prop} (hi : i < xs.length) (h : ∀ x ∈ xs, P x) : WP (ixT xs i) P := ⟨xs[i], ixT_lt hi, h _ (List.getElem_mem hi)⟩
/-- the end of a law -/
theorem law_end {F : FnT} {s : Fro Int} {t : Tz Bool} (a : FoX F [en s] [] t fun s => .ret (en s) []) (h : WP t (· = true)) : ∃ h', F [.fro (s.l.map .int)] [] = .ok (.bl true) h' := by
  obtain ⟨b, e, rfl⟩ := h
  have z := a [] ⟨Nat.le_refl _, fun p hp => (by cases hp), by simp, fun _ _ _ => rfl, fun p hp => (by cases hp), fun b hb => (by cases hb)⟩
  rw [e] at z
  obtain ⟨d, h', e1, h2, e2, c'⟩ := z
  cases e2
  exact ⟨h', e1⟩
end Gt
namespace Gp
open PySem PySem.Spec PyProof.Rows Gm Gt
/-! ### the script's box -/
def BxOk (k : Nat) (b : Bxs) : Prop := b.pos ≤ k ∧ 0 ≤ b.seed ∧ b.seed < 2147483647
theorem BxOk.mono {k m : Nat} {b : Bxs} (h : BxOk k b) (hk : k ≤ m) : BxOk m b := ⟨Nat.le_trans h.1 hk, h.2⟩
abbrev cap : Nat := 1000000000000
theorem take_wp {b : Bxs} {k m : Nat} (h : BxOk k b) (hk : k ≤ 1000000000000) (hm : 0 < m) (hm2 : m ≤ 1000000000000) : WP (T_law_take b m) fun r => r.1 < m ∧ BxOk (k + 1) r.2 := by
  obtain ⟨h1, h2, h3⟩ := h
  have dm : ∀ i : Int, divI i (m : Int) = .ok (i / (m : Int)) := fun i => divI_ok (by omega) (by omega)
  have mm : ∀ i : Int, (modI i (m : Int)).bind toN = .ok (i % (m : Int)).toNat := fun i => by
    rw [modI_ok (by omega), Tz.bind_ok, toN_ok (Int.emod_nonneg _ (by omega))]
  have ml : ∀ i : Int, (i % (m : Int)).toNat < m := fun i => by
    have := Int.emod_lt_of_pos i (show (0 : Int) < m by omega)
    have := Int.emod_nonneg i (show (m : Int) ≠ 0 by omega)
    omega
  unfold T_law_take
  refine WP.ite (fun hr => ?_) fun hr => ?_
  · rw [dm, Tz.bind_ok, mm, Tz.bind_ok]
    exact WP.ok ⟨ml _, by show b.pos ≤ k + 1; omega, h2, h3⟩
  · refine WP.lt ?_
    have A : WP (if (decide (b.pos < b.nums.length)) = true then ((ixT b.nums b.pos).bind fun one_4 => (Tz.ok one_4)) else (Tz.ok (0 : Int)) : Tz Int) fun _ => True := by
      refine WP.ite (fun q => ?_) fun q => WP.ok trivial
      rw [ixT_lt (of_decide_eq_true q), Tz.bind_ok]
      exact WP.ok trivial
    refine WP.bind A fun g _ => ?_
    rw [Tz.bind_ok]
    refine WP.ite (fun q => ?_) fun q => ?_
    · rw [dm, Tz.bind_ok, mm, Tz.bind_ok]
      exact WP.ok ⟨ml _, by show b.pos + 1 ≤ k + 1; omega, h2, h3⟩
    · have e1 : ∀ i : Int, mulI (i % 2147483629) 69621 = .ok (i % 2147483629 * 69621) := fun i => mulI_ok (by omega) (by decide)
      have e2 : mulT (b.pos + 1) 104729 = .ok ((b.pos + 1) * 104729) := mulT_ok (by omega) (by decide)
      simp only [e1, e2, Tz.bind_ok]
      have b1 : ∀ i : Int, (i % 2147483587).natAbs ≤ 2147483587 := fun i => by omega
      have b2 : ∀ i : Int, (i % 2147483629).natAbs ≤ 2147483629 := fun i => by omega
      rw [mulI_ok (by have := b1 (b.seed + g % 2147483629 * 69621 + (((b.pos + 1) * 104729 : Nat) : Int)); omega) (by have := b1 (b.seed + g % 2147483629 * 69621 + (((b.pos + 1) * 104729 : Nat) : Int)); omega), Tz.bind_ok,
        mulI_ok (by decide) (by have := b1 (b.seed + g % 2147483629 * 69621 + (((b.pos + 1) * 104729 : Nat) : Int)); omega), Tz.bind_ok, Tz.bind_ok]
      generalize b.seed + g % 2147483629 * 69621 + (((b.pos + 1) * 104729 : Nat) : Int) = X
      simp only [Tz.bind_ok]
      rw [mulI_ok (by have := b2 (X % 2147483587 * (X % 2147483587) + 40961 * (X % 2147483587) + 77); omega) (by decide), Tz.bind_ok, Tz.bind_ok, Tz.bind_ok, Tz.bind_ok, mm, Tz.bind_ok]
      refine WP.ok ⟨ml _, by show b.pos + 1 ≤ k + 1; omega, ?_, ?_⟩
      · exact Int.emod_nonneg _ (by decide)
      · have := Int.emod_lt_of_pos ((X % 2147483587 * (X % 2147483587) + 40961 * (X % 2147483587) + 77) % 2147483629 * 16807 + b.seed % 8191 + 5) (show (0 : Int) < 2147483587 by decide)
        exact Int.lt_trans this (by decide)
theorem box_wp (s : Fro Int) : WP (T_law_box s) (BxOk 0) := by
  unfold T_law_box
  refine WP.lt ?_
  refine WP.bind (WP.fold0 (fun _ (g : Int) => 0 ≤ g ∧ g < 2147483647) (fun i x g _ hg => ?_) ⟨by decide, by decide⟩) fun g hg => ?_
  · rw [mulI_ok (by omega) (by decide)]
    simp only [Tz.bind_ok]
    refine WP.ok ⟨Int.emod_nonneg _ (by decide), Int.emod_lt_of_pos _ (by decide)⟩
  · exact WP.ok ⟨Nat.le_refl _, hg⟩
end Gp

/-! Hb: what the laws draw: names, edges, ends, nets. -/
namespace Gp
open PySem PySem.Spec PyProof.Rows Gm Gt
def abcL : List Nat := [97, 98, 99, 100, 101, 102, 103, 104, 105, 106, 107, 108, 109, 110, 111, 112, 113, 114, 115, 116, 117, 118, 119, 120, 121, 122]
theorem abcL_at {i : Nat} (hi : i < 26) : abcL[i]? = some (97 + i) := by
  have h : ∀ j, j < 26 → abcL[j]? = some (97 + j) := by decide
  exact h i hi
theorem abcL_mem {a : Nat} (h1 : 97 ≤ a) (h2 : a ≤ 122) : a ∈ abcL := List.mem_of_getElem? (i := a - 97) (by rw [abcL_at (by omega), show 97 + (a - 97) = a by omega])
def OkT (x : Tx) : Prop := OkN x.l
theorem nodup_range_map {β : Type} {n : Nat} {f : Nat → β} (inj : ∀ i j, i < n → j < n → f i = f j → i = j) : ((List.range n).map f).Nodup := by
  refine List.pairwise_map.mpr ((List.nodup_range (n := n)).imp_of_mem fun {a b} ha hb ne e => ne ?_)
  exact inj a b (List.mem_range.mp ha) (List.mem_range.mp hb) e
theorem stems {w : Nat} (hw : w < 7) : ∃ s : Tx, ixT [(Tx.mk []), (Tx.mk [113]), (Tx.mk [97, 98]), (Tx.mk [103, 97, 116, 101]), (Tx.mk [97, 97, 97, 97, 97, 97, 97]), (Tx.mk [122, 122, 121, 122, 120]), (Tx.mk [98, 98])] w = .ok s ∧ s.l.length ≤ 7 ∧ ∀ a ∈ s.l, 97 ≤ a ∧ a ≤ 122 := by
  have z : w = 0 ∨ w = 1 ∨ w = 2 ∨ w = 3 ∨ w = 4 ∨ w = 5 ∨ w = 6 := by omega
  rcases z with rfl | rfl | rfl | rfl | rfl | rfl | rfl <;> exact ⟨_, rfl, by decide, by decide⟩
theorem steps {w : Nat} (hw : w < 6) : ∃ s : Nat, ixT [1, 3, 5, 7, 9, 11] w = .ok s ∧ (s = 1 ∨ s = 3 ∨ s = 5 ∨ s = 7 ∨ s = 9 ∨ s = 11) := by
  have z : w = 0 ∨ w = 1 ∨ w = 2 ∨ w = 3 ∨ w = 4 ∨ w = 5 := by omega
  rcases z with rfl | rfl | rfl | rfl | rfl | rfl <;> exact ⟨_, rfl, by decide⟩
def GoodNs (ns : List Tx) (n : Nat) : Prop := ns.length = n ∧ (∀ w ∈ ns, OkT w) ∧ ns.Nodup
theorem names_wp {b : Bxs} {k n : Nat} (h : BxOk k b) (hk : k ≤ 100000000000) (hn : n ≤ 26) : WP (T_law_names b n) fun r => GoodNs r.1 n ∧ BxOk (k + 10) r.2 := by
  unfold T_law_names
  refine WP.lt ?_
  refine WP.bind (take_wp h (by omega) (by decide) (by decide)) fun r1 ⟨w1, h1⟩ => ?_
  refine WP.bind (take_wp h1 (by omega) (by decide) (by decide)) fun r2 ⟨w2, h2⟩ => ?_
  refine WP.ite (fun q => ?_) fun q => ?_
  · rw [rng_ok (by omega), Tz.bind_ok]
    rw [mapT_ok (f := fun i => Tx.mk (List.replicate (1 + i % 8) (97 + (r2.1 % 20 + i / 8)))) (by simp; omega) fun i hi => ?_]
    · refine WP.ok ⟨⟨by simp, fun v hv => ?_, ?_⟩, h2.mono (by omega)⟩
      · obtain ⟨i, hi, rfl⟩ := List.mem_map.mp hv
        have hi := List.mem_range.mp hi
        refine ⟨by show 0 < (List.replicate _ _).length; rw [List.length_replicate]; omega, by show (List.replicate _ _).length ≤ 8; rw [List.length_replicate]; omega, fun a ha => ?_⟩
        obtain rfl := List.eq_of_mem_replicate (show a ∈ List.replicate _ _ from ha)
        omega
      · refine nodup_range_map fun i j hi hj e => ?_
        have e := congrArg Tx.l e
        have l1 := congrArg List.length e
        rw [List.length_replicate, List.length_replicate] at l1
        have h1 := congrArg (fun q : List Nat => q[0]?) e
        simp only [List.getElem?_replicate] at h1
        rw [if_pos (by omega), if_pos (by omega)] at h1
        have h1 := Option.some.inj h1
        omega
    · have hi := List.mem_range.mp hi
      rw [ixX_ok (k := 97 + (r2.1 % 20 + i / 8)) (by decide) (abcL_at (by omega)), Tz.bind_ok, repX_ok (by omega) (by show 1 ≤ 300; decide)]
      congr 2
      generalize 1 + i % 8 = m
      induction m with
      | zero => rfl
      | succ m ih => rw [List.replicate_succ, List.replicate_succ, List.flatten_cons, ih]; rfl
  · have q : ¬ r1.1 = 7 := fun e => q (by rw [e]; rfl)
    obtain ⟨s, e1, s7, sa⟩ := stems (w := r1.1) (by omega)
    rw [e1, Tz.bind_ok, lenX_ok (by omega), Tz.bind_ok, Tz.bind_ok]
    refine WP.bind (take_wp h2 (by omega) (by omega) (by omega)) fun r3 ⟨w3, h3⟩ => ?_
    refine WP.bind (P := fun r => (r.1 = 1 ∨ r.1 = 3 ∨ r.1 = 5 ∨ r.1 = 7 ∨ r.1 = 9 ∨ r.1 = 11) ∧ BxOk (k + 4) r.2) ?_ fun r4 ⟨w4, h4⟩ => ?_
    · refine WP.bind (take_wp h3 (by omega) (by decide) (by decide)) fun r5 ⟨w5, h5⟩ => ?_
      obtain ⟨u, e2, hu⟩ := steps w5
      rw [e2, Tz.bind_ok]
      exact WP.ok ⟨hu, h5.mono (by omega)⟩
    · rw [rng_ok (by omega), Tz.bind_ok]
      rw [mapT_ok (f := fun i => Tx.mk (s.l.take r3.1 ++ [97 + (r2.1 + r4.1 * i) % 26] ++ s.l.drop r3.1)) (by simp; omega) fun i hi => ?_]
      · refine WP.ok ⟨⟨by simp, fun v hv => ?_, ?_⟩, h4.mono (by omega)⟩
        · obtain ⟨i, hi, rfl⟩ := List.mem_map.mp hv
          refine ⟨by show 0 < (_ ++ _ ++ _ : List Nat).length; simp only [List.length_append, List.length_singleton]; omega, ?_, fun a ha => ?_⟩
          · show (s.l.take r3.1 ++ [97 + (r2.1 + r4.1 * i) % 26] ++ s.l.drop r3.1).length ≤ 8
            simp only [List.length_append, List.length_take, List.length_drop, List.length_singleton]
            omega
          · have ha : a ∈ s.l.take r3.1 ++ [97 + (r2.1 + r4.1 * i) % 26] ++ s.l.drop r3.1 := ha
            rw [List.mem_append, List.mem_append] at ha
            rcases ha with (ha | ha) | ha
            · exact sa a (List.mem_of_mem_take ha)
            · have := List.mem_singleton.mp ha
              omega
            · exact sa a (List.mem_of_mem_drop ha)
        · refine nodup_range_map fun i j hi hj e => ?_
          have e := congrArg Tx.l e
          have e : s.l.take r3.1 ++ [97 + (r2.1 + r4.1 * i) % 26] ++ s.l.drop r3.1 = s.l.take r3.1 ++ [97 + (r2.1 + r4.1 * j) % 26] ++ s.l.drop r3.1 := e
          rw [List.append_assoc, List.append_assoc] at e
          have e := List.append_cancel_left e
          have e := (List.cons.inj e).1
          rcases w4 with x | x | x | x | x | x <;> rw [x] at e <;> omega
      · have hi := List.mem_range.mp hi
        rw [cutX_to (by omega), Tz.bind_ok, mulT_ok (by omega) (by omega)]
        simp only [Tz.bind_ok]
        rw [ixX_ok (k := 97 + (r2.1 + r4.1 * i) % 26) (by decide) (abcL_at (by omega)), Tz.bind_ok, catX_ok (by simp; omega), Tz.bind_ok, cutX_from (by omega), Tz.bind_ok, catX_ok (by simp; omega)]
/-! ### edges, ends -/
theorem some_edge_wp {b : Bxs} {k n : Nat} (h : BxOk k b) (hk : k ≤ 100000000000) (h0 : 0 < n) (hn : n ≤ 100000000) : WP (T_law_some_edge b n) fun r => r.1 < 2 * n ∧ BxOk (k + 2) r.2 := by
  unfold T_law_some_edge
  refine WP.bind (take_wp h (by omega) (by decide) (by decide)) fun r1 ⟨w1, h1⟩ => ?_
  simp only [mulT_ok (show 2 ≤ 1000000000000000000 by decide) (show n ≤ 1000000000000000000 by omega), subT_ok (show 1 ≤ 2 * n by omega), Tz.bind_ok]
  refine WP.ite (fun q => ?_) fun q => ?_
  · refine WP.bind (take_wp h1 (by omega) (by omega) (by omega)) fun r2 ⟨w2, h2⟩ => ?_
    rw [subT_ok (by omega), Tz.bind_ok]
    refine WP.ok ⟨?_, h2⟩
    show 2 * n - 1 - r2.1 < 2 * n
    omega
  · exact (take_wp h1 (by omega) (by omega) (by omega)).mono fun r ⟨a, b⟩ => ⟨a, b⟩
abbrev M5 := H5 (List Tx) (List (Tx × Nat)) (List (Nat × Nat)) (List (Tx × Nat)) (List Nat)
theorem zip_map1 {α β : Type} : ∀ {xs : List α} {ys : List (α × β)}, ys.length = xs.length → (∀ (i : Nat) (x : α) (y : α × β), xs[i]? = some x → ys[i]? = some y → y.1 = x) → ys.map Prod.fst = xs
  | [], [], _, _ => rfl
  | x :: xs, y :: ys, e, h => by
    rw [List.map_cons, h 0 x y rfl rfl, zip_map1 (by simpa using e) fun i a b ha hb => h (i + 1) a b (by simpa using ha) (by simpa using hb)]
  | _ :: _, [], e, _ => by simp at e
  | [], _ :: _, e, _ => by simp at e
theorem frame_wp {b : Bxs} {k i m : Nat} (h : BxOk k b) (hk : k ≤ 10000000000) (hi : i + m ≤ 10) : WP (T_law_frame b i m) fun r => GoodNs r.1.a 10 ∧ (∃ u, r.1.b = r.1.a.take u ∧ u ≤ i ∧ r.1.b.length = u ∧ ∃ w, w ≤ m ∧ r.1.c.map Prod.fst = (r.1.a.take (u + w)).drop u ∧ r.1.c.length = w ∧ ∀ p ∈ r.1.c, p.2 < 2) ∧ BxOk (k + 100) r.2 := by
  unfold T_law_frame
  refine WP.bind (names_wp h (by omega) (n := 10) (by decide)) fun r1 ⟨g1, h1⟩ => ?_
  refine WP.bind (take_wp h1 (by omega) (by omega) (by omega)) fun r2 ⟨w2, h2⟩ => ?_
  simp only [Tz.bind_ok]
  refine WP.bind (P := fun r : List (Tx × Nat) × Bxs => (∃ w, w ≤ m ∧ r.1.map Prod.fst = (r1.1.take (r2.1 + w)).drop r2.1 ∧ r.1.length = w ∧ ∀ p ∈ r.1, p.2 < 2) ∧ BxOk (k + 100) r.2) ?_ fun r3 ⟨w3, h3⟩ => ?_
  · refine WP.bind (P := fun r : Bxs × List (Tx × Nat) => (∃ w, w ≤ m ∧ r.2.map Prod.fst = (r1.1.take (r2.1 + w)).drop r2.1 ∧ r.2.length = w ∧ ∀ p ∈ r.2, p.2 < 2) ∧ BxOk (k + 100) r.1) ?_ fun r ⟨a, b⟩ => WP.ok ⟨a, b⟩
    refine WP.bind (P := fun r : List Tx × Bxs => (∃ w, w ≤ m ∧ r.1 = (r1.1.take (r2.1 + w)).drop r2.1) ∧ BxOk (k + 12) r.2) ?_ fun r4 ⟨⟨w, hw, e4⟩, h4⟩ => ?_
    · refine WP.bind (P := fun r : Nat × Bxs => (∃ w, w ≤ m ∧ r.1 = r2.1 + w) ∧ BxOk (k + 12) r.2) ?_ fun r5 ⟨⟨w, hw, e5⟩, h5⟩ => WP.ok ⟨⟨w, hw, by rw [e5]⟩, h5⟩
      refine WP.bind (take_wp h2 (by omega) (by omega) (by omega)) fun r6 ⟨w6, h6⟩ => WP.ok ⟨⟨r6.1, by omega, rfl⟩, h6⟩
    · have l4 : r4.1.length = w := by
        rw [e4, List.length_drop, List.length_take, g1.1]
        omega
      refine (WP.mapS (fun i g => BxOk (k + 12 + i) g) (R := fun i y => y.2 < 2 ∧ ∃ x, r4.1[i]? = some x ∧ y.1 = x) (by omega) h4 fun i x g hx hg => ?_).mono fun r ⟨a, l, c⟩ => ⟨⟨w, hw, ?_, by rw [l, l4], fun p hp => ?_⟩, a.mono (by omega)⟩
      · refine WP.bind (P := fun r : (Tx × Nat) × Bxs => (r.1.2 < 2 ∧ r.1.1 = x) ∧ BxOk (k + 12 + (i + 1)) r.2) ?_ fun r ⟨⟨a, e⟩, b⟩ => WP.ok ⟨b, a, x, hx, e⟩
        have li : i < r4.1.length := (List.getElem?_eq_some_iff.mp hx).1
        exact WP.bind (take_wp hg (by omega) (by decide) (by decide)) fun r7 ⟨w7, h7⟩ => WP.ok ⟨⟨w7, rfl⟩, h7⟩
      · rw [← e4]
        refine zip_map1 l fun i x y hx hy => ?_
        obtain ⟨_, x', hx', e⟩ := c i y hy
        rw [hx] at hx'
        cases hx'
        exact e
      · obtain ⟨i, hi⟩ := List.getElem?_of_mem hp
        exact (c i p hi).1
  · exact WP.ok ⟨g1, ⟨r2.1, rfl, by omega, by rw [List.length_take, g1.1]; omega, w3⟩, h3⟩
theorem ends_wp {b : Bxs} {k n top : Nat} {ns : List Tx} {ls : List (Tx × Nat)} (h : BxOk k b) (hk : k ≤ 10000000000) (hn : ns.length = 10) (hl : ls.length ≤ 10) (h0 : 0 < n) (hn2 : n ≤ 100000) (ht : top ≤ 10) : WP (T_law_ends b ns ls n top) fun r => (∃ w, w ≤ top ∧ r.1.1.map Prod.fst = ns.take w ∧ r.1.1.length = w) ∧ (∀ p ∈ r.1.1, p.2 < 2 * n) ∧ r.1.2.length = ls.length ∧ (∀ e ∈ r.1.2, e < 2 * n) ∧ BxOk (k + 100) r.2 := by
  unfold T_law_ends
  simp only [Tz.bind_ok]
  refine WP.bind (P := fun r : List (Tx × Nat) × Bxs => ((∃ w, w ≤ top ∧ r.1.map Prod.fst = ns.take w ∧ r.1.length = w) ∧ ∀ p ∈ r.1, p.2 < 2 * n) ∧ BxOk (k + 30) r.2) ?_ fun r1 ⟨w1, h1⟩ => ?_
  · refine WP.bind (P := fun r : Bxs × List (Tx × Nat) => ((∃ w, w ≤ top ∧ r.2.map Prod.fst = ns.take w ∧ r.2.length = w) ∧ ∀ p ∈ r.2, p.2 < 2 * n) ∧ BxOk (k + 30) r.1) ?_ fun r ⟨a, b⟩ => WP.ok ⟨a, b⟩
    refine WP.bind (P := fun r : List Tx × Bxs => (∃ w, w ≤ top ∧ r.1 = ns.take w) ∧ BxOk (k + 1) r.2) ?_ fun r4 ⟨⟨w, hw, e4⟩, h4⟩ => ?_
    · exact WP.bind (take_wp h (by omega) (by omega) (by omega)) fun r6 ⟨w6, h6⟩ => WP.ok ⟨⟨r6.1, by omega, rfl⟩, h6⟩
    · have l4 : r4.1.length = w := by
        rw [e4, List.length_take, hn]
        omega
      refine (WP.mapS (fun i g => BxOk (k + 1 + 2 * i) g) (R := fun i y => y.2 < 2 * n ∧ ∃ x, r4.1[i]? = some x ∧ y.1 = x) (by omega) h4 fun i x g hx hg => ?_).mono fun r ⟨a, l, c⟩ => ⟨⟨⟨w, hw, ?_, by rw [l, l4]⟩, fun p hp => ?_⟩, a.mono (by omega)⟩
      · refine WP.bind (P := fun r : (Tx × Nat) × Bxs => (r.1.2 < 2 * n ∧ r.1.1 = x) ∧ BxOk (k + 1 + 2 * (i + 1)) r.2) ?_ fun r ⟨⟨a, e⟩, b⟩ => WP.ok ⟨b, a, x, hx, e⟩
        have li : i < r4.1.length := (List.getElem?_eq_some_iff.mp hx).1
        exact WP.bind (some_edge_wp hg (by omega) h0 (by omega)) fun r7 ⟨w7, h7⟩ => WP.ok ⟨⟨w7, rfl⟩, h7⟩
      · rw [← e4]
        refine zip_map1 l fun i x y hx hy => ?_
        obtain ⟨_, x', hx', e⟩ := c i y hy
        rw [hx] at hx'
        cases hx'
        exact e
      · obtain ⟨i, hi⟩ := List.getElem?_of_mem hp
        exact (c i p hi).1
  · refine WP.bind (P := fun r : List Nat × Bxs => (r.1.length = ls.length ∧ ∀ e ∈ r.1, e < 2 * n) ∧ BxOk (k + 100) r.2) ?_ fun r2 ⟨w2, h2⟩ => WP.ok ⟨w1.1, w1.2, w2.1, w2.2, h2⟩
    refine WP.bind (P := fun r : Bxs × List Nat => (r.2.length = ls.length ∧ ∀ e ∈ r.2, e < 2 * n) ∧ BxOk (k + 100) r.1) ?_ fun r ⟨a, b⟩ => WP.ok ⟨a, b⟩
    refine (WP.mapS (fun i g => BxOk (k + 30 + 2 * i) g) (R := fun i y => y < 2 * n) (by omega) h1 fun i x g hx hg => ?_).mono fun r ⟨a, l, c⟩ => ⟨⟨l, fun e he => ?_⟩, a.mono (by omega)⟩
    · have li : i < ls.length := (List.getElem?_eq_some_iff.mp hx).1
      exact WP.bind (some_edge_wp hg (by omega) h0 (by omega)) fun r7 ⟨w7, h7⟩ => WP.ok ⟨h7, w7⟩
    · obtain ⟨i, hi⟩ := List.getElem?_of_mem he
      exact c i e hi
/-- a good net -/
structure OkM (m : M5) : Prop where
  okn : ∀ w ∈ m.a ++ m.b.map Prod.fst, OkT w
  nd : (m.a ++ m.b.map Prod.fst).Nodup
  oko : ∀ w ∈ m.d.map Prod.fst, OkT w
  ndo : (m.d.map Prod.fst).Nodup
  st : ∀ p ∈ m.b, p.2 < 2
  gt : ∀ j p, m.c[j]? = some p → p.1 ≤ p.2 ∧ p.2 < 2 * (1 + m.a.length + m.b.length + j)
  oe : ∀ p ∈ m.d, p.2 < 2 * (1 + m.a.length + m.b.length + m.c.length)
  ne : ∀ e ∈ m.e, e < 2 * (1 + m.a.length + m.b.length + m.c.length)
  nl : m.e.length = m.b.length
  l1 : m.a.length ≤ 6
  l2 : m.b.length ≤ 4
  l3 : m.c.length ≤ 60
  l4 : m.d.length ≤ 8
theorem net_wp {b : Bxs} {k i m top ends : Nat} (h : BxOk k b) (hk : k ≤ 1000000000) (hi : i ≤ 6) (hm : m ≤ 4) (ht : top ≤ 60) (he : ends ≤ 8) : WP (T_law_net b i m top ends) fun r => OkM r.1 ∧ (r.1.a.length ≤ i ∧ r.1.b.length ≤ m ∧ r.1.c.length ≤ top ∧ r.1.d.length ≤ ends) ∧ BxOk (k + 1000) r.2 := by
  unfold T_law_net
  refine WP.bind (frame_wp h (by omega) (by omega)) fun r1 ⟨g1, ⟨u, e1, u1, lu, w, hw, e2, lw, ok2⟩, h1⟩ => ?_
  refine WP.lt ?_
  simp only [Tz.bind_ok]
  refine WP.bind (P := fun g : Bxs × List (Nat × Nat) => (g.2.length ≤ top ∧ ∀ j p, g.2[j]? = some p → p.1 ≤ p.2 ∧ p.2 < 2 * (1 + r1.1.b.length + r1.1.c.length + j)) ∧ BxOk (k + 500) g.1) ?_ fun r2 ⟨⟨l2, g2⟩, h2⟩ => ?_
  · refine WP.bind (P := fun r : List Nat × Bxs => r.1.length ≤ top ∧ (∀ (j x : Nat), r.1[j]? = some x → x = j) ∧ BxOk (k + 101) r.2) ?_ fun r3 ⟨l3, id3, h3⟩ => ?_
    · refine WP.bind (take_wp h1 (by omega) (by omega) (by omega)) fun r4 ⟨w4, h4⟩ => ?_
      rw [rng_ok (by omega), Tz.bind_ok]
      refine WP.ok ⟨by simp; omega, fun j x hx => ?_, h4⟩
      have lj := (List.getElem?_eq_some_iff.mp hx).1
      rw [List.getElem?_range (by simpa using lj)] at hx
      exact (Option.some.inj hx).symm
    · refine (WP.fold0 (fun j (g : Bxs × List (Nat × Nat)) => (g.2.length = j ∧ ∀ j p, g.2[j]? = some p → p.1 ≤ p.2 ∧ p.2 < 2 * (1 + r1.1.b.length + r1.1.c.length + j)) ∧ BxOk (k + 101 + 4 * j) g.1) (fun j x g hx ⟨⟨lg, hg⟩, bg⟩ => ?_) ⟨⟨rfl, fun j p hp => by simp at hp⟩, h3⟩).mono fun g ⟨⟨lg, hg⟩, bg⟩ => ⟨⟨by omega, hg⟩, bg.mono (by omega)⟩
      have lj := (List.getElem?_eq_some_iff.mp hx).1
      have ex := id3 j x hx
      subst ex
      refine WP.bind (P := fun r : (Nat × Nat) × Bxs => (r.1.1 < 2 * (1 + r1.1.b.length + r1.1.c.length + x) ∧ r.1.2 < 2 * (1 + r1.1.b.length + r1.1.c.length + x)) ∧ BxOk (k + 101 + 4 * (x + 1)) r.2) ?_ fun r5 ⟨⟨a5, c5⟩, h5⟩ => ?_
      · refine WP.bind (some_edge_wp bg (by omega) (by omega) (by omega)) fun r6 ⟨a6, h6⟩ => ?_
        refine WP.bind (some_edge_wp h6 (by omega) (by omega) (by omega)) fun r7 ⟨a7, h7⟩ => ?_
        exact WP.ok ⟨⟨a6, a7⟩, h7⟩
      · rw [appT_ok (by omega), Tz.bind_ok]
        refine WP.ok ⟨⟨by show (_ ++ [_]).length = _; simp [lg], fun q p hq => ?_⟩, h5⟩
        have hq : (g.2 ++ [(min r5.1.1 r5.1.2, max r5.1.1 r5.1.2)])[q]? = some p := hq
        by_cases z : q < g.2.length
        · rw [List.getElem?_append_left z] at hq
          exact hg q p hq
        · by_cases z2 : q = g.2.length
          · subst z2
            rw [List.getElem?_append_right (Nat.le_refl _), Nat.sub_self] at hq
            have hq : (min r5.1.1 r5.1.2, max r5.1.1 r5.1.2) = p := by simpa using hq
            subst hq
            rw [lg]
            exact ⟨by show min _ _ ≤ max _ _; omega, by show max _ _ < _; omega⟩
          · rw [List.getElem?_append_right (by omega), List.getElem?_eq_none (by simp; omega)] at hq
            cases hq
  · refine WP.bind (ends_wp h2 (by omega) (by rw [List.length_reverse]; exact g1.1) (by omega) (by omega) (by omega) (by omega)) fun r3 ⟨⟨v, hv, e3, l3⟩, o3, l4, n3, h3⟩ => ?_
    have sub : (r1.1.b ++ r1.1.c.map Prod.fst).Sublist r1.1.a := by
      rw [e2, e1]
      have z : r1.1.a.take (u + w) = r1.1.a.take u ++ (r1.1.a.take (u + w)).drop u := by
        have := List.take_append_drop u (r1.1.a.take (u + w))
        rw [List.take_take, Nat.min_eq_left (by omega)] at this
        exact this.symm
      rw [← z]
      exact List.take_sublist _ _
    refine WP.ok ⟨⟨fun x hx => g1.2.1 x (sub.subset hx), sub.nodup g1.2.2, fun x hx => ?_, ?_, ok2, g2, o3, n3, l4, by show r1.1.b.length ≤ 6; omega, by show r1.1.c.length ≤ 4; omega, by show r2.2.length ≤ 60; omega, by show r3.1.1.length ≤ 8; omega⟩, ⟨by show r1.1.b.length ≤ i; omega, by show r1.1.c.length ≤ m; omega, l2, by show r3.1.1.length ≤ ends; omega⟩, h3.mono (by omega)⟩
    · have hx : x ∈ r3.1.1.map Prod.fst := hx
      rw [e3] at hx
      exact g1.2.1 x (List.mem_reverse.mp (List.mem_of_mem_take hx))
    · show (r3.1.1.map Prod.fst).Nodup
      rw [e3]
      exact (List.take_sublist _ _).nodup (List.pairwise_reverse.mpr (g1.2.2.imp fun z => Ne.symm z))
theorem far_wp {b : Bxs} {k l : Nat} (h : BxOk k b) (hk : k ≤ 100000000000) (hl : l ≤ 1000000000000) : WP (T_law_far b l) fun r => ((l : Int) ≤ r.1 ∨ r.1 < 0) ∧ BxOk (k + 3) r.2 := by
  unfold T_law_far
  refine WP.bind (P := fun r : Nat × Bxs => 1000000000000000000000000000000 ≤ r.1 ∧ BxOk (k + 1) r.2) ?_ fun r1 ⟨f1, h1⟩ => ?_
  · exact WP.bind (take_wp h (by omega) (by decide) (by decide)) fun r ⟨a, c⟩ => WP.ok ⟨Nat.le_add_right _ _, c⟩
  refine WP.bind (P := fun r : List Int × Bxs => (r.1.length = 6 ∧ ∀ x ∈ r.1, (l : Int) ≤ x ∨ x < 0) ∧ BxOk (k + 2) r.2) ?_ fun r2 ⟨⟨l2, h2⟩, b2⟩ => ?_
  · refine WP.bind (P := fun r : Nat × Bxs => l ≤ r.1 ∧ BxOk (k + 2) r.2) ?_ fun r3 ⟨l3, h3⟩ => ?_
    · exact WP.bind (take_wp h1 (by omega) (by decide) (by decide)) fun r ⟨a, c⟩ => WP.ok ⟨by show l ≤ l + r.1; omega, c⟩
    · refine WP.ok ⟨⟨rfl, fun x hx => ?_⟩, h3⟩
      simp only [List.mem_cons, List.not_mem_nil, or_false] at hx
      omega
  · exact WP.bind (take_wp b2 (by omega) (by decide) (by decide)) fun r ⟨a, c⟩ => WP.bind (P := fun x => (l : Int) ≤ x ∨ x < 0) (WP.ix (by omega) h2) fun x hx => WP.ok ⟨hx, c⟩
end Gp

/-! Hn: nets as the program keeps them; what nodes tell. -/
namespace Gp
open PySem PySem.Spec PyProof.Rows Gm Gt
/-! ### names -/
theorem is_name_ok {x : Tx} (h : OkT x) : T_is_name x = .ok true := by
  obtain ⟨h1, h2, h3⟩ := h
  unfold T_is_name
  rw [lenX_ok (by omega), Tz.bind_ok, Tz.bind_ok]
  have e1 : (decide (0 < x.l.length) && decide (x.l.length ≤ 8)) = true := by simp [h1, h2]
  rw [e1]
  simp only [if_true]
  rw [mapP_ok (by unfold ch; rw [List.length_map]; omega), Tz.bind_ok]
  congr 1
  rw [List.all_eq_true]
  intro b hb
  obtain ⟨y, hy, rfl⟩ := List.mem_map.mp hb
  obtain ⟨a, ha, rfl⟩ := List.mem_map.mp hy
  show subX ⟨[a]⟩ (Tx.mk abcL) = true
  rw [subX_one]
  exact decide_eq_true (abcL_mem (h3 a ha).1 (h3 a ha).2)
theorem need_name_ok {x : Tx} (h : OkT x) : T_need_name x = .ok () := by
  unfold T_need_name
  rw [is_name_ok h]
  rfl
theorem tx_l_inj : ∀ {a b : Tx}, a.l = b.l → a = b := fun {a b} e => by cases a; cases b; cases e; rfl
theorem lenSet_ok {xs : List Tx} (h : xs.length ≤ 1000) (nd : xs.Nodup) : lenSetX xs = .ok xs.length := by
  unfold lenSetX
  rw [gd_ok h]
  have nd2 : (xs.map fun x => tx x.l).Nodup := List.pairwise_map.mpr (nd.imp fun ne e => ne (tx_l_inj (tx_inj e)))
  rw [dst_nodup nd2 _ (by rw [List.length_map]; exact Nat.le_refl _)]
theorem need_names_ok {ns os : List Tx} (h : ∀ w ∈ ns ++ os, OkT w) (n1 : ns.Nodup) (n2 : os.Nodup) (l1 : ns.length ≤ 100) (l2 : os.length ≤ 100) : T_need_names ns os = .ok () := by
  unfold T_need_names
  rw [catT_ok (by omega), Tz.bind_ok, foldT_eq (f := fun g _ => g) _ _ fun g x hx => by rw [need_name_ok (h x hx)]; rfl]
  rw [Tz.bind_ok, lenSet_ok (by omega) n1, Tz.bind_ok]
  simp only [lenSet_ok (show os.length ≤ 1000 by omega) n2, Tz.bind_ok]
  simp
/-! ### a net is made -/
def netOf (m : M5) : NetT := ⟨m.a, m.b, m.c, m.d, m.e⟩
theorem enum_mem {α : Type} {xs : List α} {p : Nat × α} (h : p ∈ enumT xs) : xs[p.1]? = some p.2 := by
  unfold enumT at h
  obtain ⟨i, hi⟩ := List.getElem?_of_mem h
  rw [List.getElem?_mapIdx] at hi
  cases e : xs[i]? with
  | none => rw [e] at hi; cases hi
  | some x =>
    rw [e] at hi
    have hi : (i, x) = p := by simpa using hi
    rw [← hi]
    exact e
theorem made_ok {m : M5} (h : OkM m) : T_Net___init__ m.a m.b m.c m.d m.e = .ok (netOf m) := by
  have l1 := h.l1; have l2 := h.l2; have l3 := h.l3; have l4 := h.l4; have nl := h.nl
  unfold T_Net___init__
  rw [mapP_ok (by omega), Tz.bind_ok, catT_ok (by rw [List.length_map]; omega), Tz.bind_ok, mapP_ok (by omega), Tz.bind_ok]
  rw [need_names_ok (fun w hw => by
    rcases List.mem_append.mp hw with q | q
    · exact h.okn w q
    · exact h.oko w q) h.nd h.ndo (by rw [List.length_append, List.length_map]; omega) (by rw [List.length_map]; omega), Tz.bind_ok, Tz.lt_eq]
  rw [mapT_ok (f := fun x : D × Nat => false) (Nat.le_of_ble_eq_true rfl) fun x hx => by
    simp only [List.mem_cons, List.not_mem_nil, or_false] at hx
    have q : ∀ {α : Type} [Enc α] (xs : List α) (k : Nat), xs.length ≤ k → ((lenD (en xs)).bind fun s16 => Tz.ok (decide (k < s16))) = .ok false := fun {α} _ xs k hk => by
      show Tz.ok (decide (k < (xs.map en).length)) = _
      rw [List.length_map, decide_eq_false (by omega)]
    rcases hx with rfl | rfl | rfl | rfl
    · exact q m.a 6 l1
    · exact q m.b 4 l2
    · exact q m.c 60 l3
    · exact q m.d 8 l4]
  simp only [Tz.bind_ok, List.map_cons, List.map_nil]
  rw [if_neg (by decide)]
  have e2 : mapP (fun (x20 : Tx × Nat) => (!(decide (x20.2 ∈ [0, 1])))) m.b = .ok (m.b.map fun _ => false) := by
    rw [mapP_ok (by omega)]
    congr 1
    apply List.map_congr_left
    intro p hp
    have := h.st p hp
    have z : p.2 = 0 ∨ p.2 = 1 := by omega
    rcases z with z | z <;> rw [z] <;> rfl
  have e3 : (m.b.map fun _ => false).any id = false := by
    rw [List.any_eq_false]
    intro b hb
    obtain ⟨_, _, rfl⟩ := List.mem_map.mp hb
    simp
  rw [e2]
  simp only [Tz.bind_ok, Tz.lt_eq, e3]
  rw [if_neg (by decide), foldT_eq (f := fun g _ => g) _ _ fun g x hx => by
    have q := h.gt x.1 x.2 (enum_mem hx)
    have lx := (List.getElem?_eq_some_iff.mp (enum_mem hx)).1
    rw [mulT_ok (by decide) (by omega)]
    simp only [Tz.bind_ok]
    have c1 : (decide (0 ≤ x.2.1) && decide (x.2.1 ≤ x.2.2)) = true := by simp [q.1]
    rw [c1, decide_eq_true q.2]
    rfl]
  rw [Tz.bind_ok, mulT_ok (by decide) (by omega), Tz.bind_ok, mapP_ok (by omega), Tz.bind_ok, catT_ok (by rw [List.length_map]; omega), Tz.bind_ok]
  have c2 : (!decide (m.e.length = m.b.length)) = false := by simp [nl]
  rw [c2]
  simp only [Bool.false_eq_true, if_false]
  rw [mapP_ok (by rw [List.length_append, List.length_map]; omega)]
  simp only [Tz.bind_ok]
  have c3 : ((m.d.map fun x => x.2) ++ m.e).all (fun x38 => decide (0 ≤ x38) && decide (x38 < 2 * (1 + m.a.length + m.b.length + m.c.length))) = true := by
    rw [List.all_eq_true]
    intro e he
    have : e < 2 * (1 + m.a.length + m.b.length + m.c.length) := by
      rcases List.mem_append.mp he with q | q
      · obtain ⟨p, hp, rfl⟩ := List.mem_map.mp q
        exact h.oe p hp
      · exact h.ne e q
    simp [this]
  have c4 : (((m.d.map fun x => x.2) ++ m.e).map (fun x38 => decide (0 ≤ x38) && decide (x38 < 2 * (1 + m.a.length + m.b.length + m.c.length)))).all id = true := by
    rw [List.all_map]
    exact c3
  rw [c4]
  rfl
/-! ### what nodes tell -/
def eV (vs : List Bool) (e : Nat) : Bool := (vs[e / 2]?).getD false ^^ decide (e % 2 = 1)
def vals (things : Nat) (gs : List (Nat × Nat)) (row : Nat) : List Bool := gs.foldl (fun vs g => vs ++ [eV vs g.1 && eV vs g.2]) (false :: (List.range things).map row.testBit)
theorem fold_len (gs : List (Nat × Nat)) : ∀ vs : List Bool, (gs.foldl (fun vs g => vs ++ [eV vs g.1 && eV vs g.2]) vs).length = vs.length + gs.length := by
  induction gs with
  | nil => intro vs; rfl
  | cons g gs ih =>
    intro vs
    rw [List.foldl_cons, ih, List.length_append, List.length_singleton, List.length_cons]
    omega
theorem vals_len (things : Nat) (gs : List (Nat × Nat)) (row : Nat) : (vals things gs row).length = 1 + things + gs.length := by
  unfold vals
  rw [fold_len, List.length_cons, List.length_map, List.length_range]
  omega
theorem vals_snoc (things : Nat) (gs : List (Nat × Nat)) (g : Nat × Nat) (row : Nat) : vals things (gs ++ [g]) row = vals things gs row ++ [eV (vals things gs row) g.1 && eV (vals things gs row) g.2] := by
  unfold vals
  rw [List.foldl_append]
  rfl
/-- gates of lower nodes -/
def Low (things : Nat) (gs : List (Nat × Nat)) : Prop := ∀ j p, gs[j]? = some p → p.1 < 2 * (1 + things + j) ∧ p.2 < 2 * (1 + things + j)
theorem Low.init {things : Nat} {gs : List (Nat × Nat)} {g : Nat × Nat} (h : Low things (gs ++ [g])) : Low things gs := fun j p hp => h j p (by
  rw [List.getElem?_append_left (List.getElem?_eq_some_iff.mp hp).1]
  exact hp)
theorem OkM.low {m : M5} (h : OkM m) : Low (m.a.length + m.b.length) m.c := fun j p hp => by
  have q := h.gt j p hp
  constructor <;> omega
/-- a node's table -/
def tab (things : Nat) (gs : List (Nat × Nat)) (i : Nat) : Nat := ofB (fun row => ((vals things gs row)[i]?).getD false) (2 ^ things)
theorem tab_bit (things : Nat) (gs : List (Nat × Nat)) (i row : Nat) : (tab things gs i).testBit row = (decide (row < 2 ^ things) && ((vals things gs row)[i]?).getD false) := ofB_bit _ _ _
theorem tab_lt (things : Nat) (gs : List (Nat × Nat)) (i : Nat) : tab things gs i < 2 ^ 2 ^ things := ofB_lt _ _
theorem tab_snoc {things : Nat} {gs : List (Nat × Nat)} {g : Nat × Nat} {i : Nat} (h : i < 1 + things + gs.length) : tab things (gs ++ [g]) i = tab things gs i := by
  unfold tab
  congr 1
  funext row
  rw [vals_snoc, List.getElem?_append_left (by rw [vals_len]; exact h)]
def full (things : Nat) : Nat := 2 ^ 2 ^ things - 1
/-- an edge's table -/
def etab (things : Nat) (gs : List (Nat × Nat)) (e : Nat) : Nat := tab things gs (e / 2) ^^^ (if e % 2 = 1 then full things else 0)
theorem etab_bit {things : Nat} {gs : List (Nat × Nat)} {e row : Nat} (hr : row < 2 ^ things) : (etab things gs e).testBit row = eV (vals things gs row) e := by
  unfold etab eV
  rw [Nat.testBit_xor, tab_bit, decide_eq_true hr, Bool.true_and]
  congr 1
  by_cases h : e % 2 = 1
  · rw [if_pos h, decide_eq_true h]
    unfold full
    rw [Nat.testBit_two_pow_sub_one, decide_eq_true hr]
  · rw [if_neg h, decide_eq_false h, Nat.zero_testBit]
theorem etab_lt (things : Nat) (gs : List (Nat × Nat)) (e : Nat) : etab things gs e < 2 ^ 2 ^ things := by
  unfold etab
  refine Nat.xor_lt_two_pow (tab_lt _ _ _) ?_
  split
  · unfold full
    have := Nat.one_le_two_pow (n := 2 ^ things)
    omega
  · exact Nat.two_pow_pos _
theorem tab_new (things : Nat) (gs : List (Nat × Nat)) (g : Nat × Nat) : tab things (gs ++ [g]) (1 + things + gs.length) = etab things gs g.1 &&& etab things gs g.2 := by
  apply bits_ext
  intro row
  rw [tab_bit, Nat.testBit_and]
  by_cases hr : row < 2 ^ things
  · rw [etab_bit hr, etab_bit hr, decide_eq_true hr, Bool.true_and, vals_snoc, List.getElem?_append_right (by rw [vals_len]; exact Nat.le_refl _), vals_len, Nat.sub_self]
    rfl
  · rw [decide_eq_false hr, Bool.false_and, high_bit (etab_lt _ _ _) (by omega), Bool.false_and]
theorem vals_thing {things : Nat} {gs : List (Nat × Nat)} {row i : Nat} (hi : i < things) : (vals things gs row)[1 + i]? = some (row.testBit i) := by
  unfold vals
  have : ∀ (gs : List (Nat × Nat)) (vs : List Bool) (j : Nat), j < vs.length → (gs.foldl (fun vs g => vs ++ [eV vs g.1 && eV vs g.2]) vs)[j]? = vs[j]? := by
    intro gs
    induction gs with
    | nil => intro vs j _; rfl
    | cons g gs ih =>
      intro vs j hj
      rw [List.foldl_cons, ih _ j (by rw [List.length_append]; omega), List.getElem?_append_left hj]
  rw [this _ _ _ (by simp; omega), show 1 + i = i + 1 by omega, List.getElem?_cons_succ, List.getElem?_map, List.getElem?_range hi]
  rfl
theorem vals_zero (things : Nat) (gs : List (Nat × Nat)) (row : Nat) : (vals things gs row)[0]? = some false := by
  unfold vals
  have : ∀ (gs : List (Nat × Nat)) (vs : List Bool), vs[0]? = some false → (gs.foldl (fun vs g => vs ++ [eV vs g.1 && eV vs g.2]) vs)[0]? = some false := by
    intro gs
    induction gs with
    | nil => intro vs h; exact h
    | cons g gs ih =>
      intro vs h
      rw [List.foldl_cons]
      exact ih _ (by rw [List.getElem?_append_left (List.getElem?_eq_some_iff.mp h).1]; exact h)
  exact this _ _ rfl
theorem tab_zero (things : Nat) (gs : List (Nat × Nat)) : tab things gs 0 = 0 := by
  apply bits_ext
  intro row
  rw [tab_bit, vals_zero]
  simp
/-! ### columns -/
def col (n a : Nat) : Nat := ofB (fun i => i.testBit a) (2 ^ n)
theorem col_bit {n a i : Nat} : (col n a).testBit i = (decide (i < 2 ^ n) && i.testBit a) := ofB_bit _ _ _
theorem col_lt (n a : Nat) : col n a < 2 ^ 2 ^ n := ofB_lt _ _
theorem tab_thing {things : Nat} {gs : List (Nat × Nat)} {i : Nat} (hi : i < things) : tab things gs (1 + i) = col things i := by
  apply bits_ext
  intro row
  rw [tab_bit, col_bit, vals_thing hi]
  rfl
theorem col_0 (a : Nat) : (2 ^ 2 ^ a - 1) <<< 2 ^ a = col (a + 1) a := by
  apply bits_ext
  intro i
  rw [col_bit, Nat.testBit_shiftLeft, Nat.testBit_two_pow_sub_one, Nat.pow_succ]
  by_cases h : i < 2 ^ a
  · rw [Nat.testBit_lt_two_pow h]
    simp; omega
  · have e : i = 2 ^ a + (i - 2 ^ a) := by omega
    by_cases h2 : i - 2 ^ a < 2 ^ a
    · have z : i.testBit a = true := by rw [e, Nat.testBit_two_pow_add_eq, Nat.testBit_lt_two_pow h2] <;> rfl
      have h3 : i < 2 ^ a * 2 := by omega
      have h4 : 2 ^ a ≤ i := by omega
      simp [z, h2, h3, h4]
    · have : ¬ i < 2 ^ a * 2 := by omega
      simp [h2, this]
theorem col_step {a m : Nat} (h : a < m) : col m a ||| col m a <<< 2 ^ m = col (m + 1) a := by
  apply bits_ext
  intro i
  rw [Nat.testBit_or, col_bit, Nat.testBit_shiftLeft, col_bit, col_bit, Nat.pow_succ]
  by_cases h1 : i < 2 ^ m
  · have h2 : ¬ 2 ^ m ≤ i := by omega
    have h3 : i < 2 ^ m * 2 := by omega
    simp [h1, h2, h3]
  · have e : i = 2 ^ m + (i - 2 ^ m) := by omega
    have z : i.testBit a = (i - 2 ^ m).testBit a := by
      conv => lhs; rw [e]
      exact Nat.testBit_two_pow_add_gt h _
    rw [z]
    have h2 : (i < 2 ^ m * 2) = (i - 2 ^ m < 2 ^ m) := by apply propext; omega
    have h3 : 2 ^ m ≤ i := by omega
    simp [h1, h2, h3]
theorem two_le {n : Nat} (h : n ≤ 10) : 2 ^ n ≤ 1024 := Nat.le_trans (Nat.pow_le_pow_right (by decide) h) (by decide)
theorem whileT_run {γ : Type} {c : γ → Tz Bool} {b : γ → Tz γ} (I : Nat → γ → Prop) (k : Nat) (step : ∀ i g, i < k → I i g → c g = .ok true ∧ WP (b g) (I (i + 1))) (stop : ∀ g, I k g → c g = .ok false) :
    ∀ (j fuel i : Nat) (g : γ), i + j = k → j < fuel → I i g → WP (whileT c b fuel g) (I k)
  | 0, 0, i, g, _, hf, i0 => absurd hf (by omega)
  | 0, f + 1, i, g, e, hf, i0 => by
    have : i = k := by omega
    subst this
    refine ⟨g, ?_, i0⟩
    unfold whileT
    rw [stop g i0]
    rfl
  | j + 1, 0, i, g, _, hf, i0 => absurd hf (by omega)
  | j + 1, f + 1, i, g, e, hf, i0 => by
    obtain ⟨e1, g', e2, i1⟩ := step i g (by omega) i0
    have ih := whileT_run I k step stop j f (i + 1) g' (by omega) (by omega) i1
    unfold whileT
    rw [e1, Tz.bind_ok, if_pos rfl, e2]
    exact ih
theorem shl_big {a k : Nat} (h : a < 2 ^ 100000) (hk : k < 100000) : shlT a k = .ok (a <<< k) := gd_ok ⟨lt_big h, hk⟩
theorem pow_big {k : Nat} (h : k < 100000) : 2 ^ k < 2 ^ 100000 := Nat.pow_lt_pow_right (by decide) h
theorem column_of_ok {n a : Nat} (hn : n ≤ 10) (ha : a < n) : T_column_of n a = .ok (col n a) := by
  have w1 := two_le (n := a) (by omega)
  have wn := two_le hn
  unfold T_column_of
  rw [shlT_ok (by decide) (by omega), Tz.bind_ok, one_shl]
  rw [shlT_ok (by decide) (by omega), Tz.bind_ok, one_shl, subT_ok Nat.one_le_two_pow, Tz.bind_ok]
  have hb : 2 ^ 2 ^ a - 1 < 2 ^ 100000 := Nat.lt_of_le_of_lt (Nat.sub_le _ _) (pow_big (by omega))
  rw [shl_big hb (by omega), Tz.bind_ok, col_0, mulT_ok (by decide) (by omega), Tz.bind_ok]
  have W := whileT_run (c := fun (g7 : (Nat × Nat)) => ((shlT 1 n).bind fun s8 => (Tz.ok (decide (g7.2 < s8))))) (b := fun (g7 : (Nat × Nat)) => (((shlT g7.1 g7.2).bind fun s9 => (Tz.ok (g7.1 ||| s9))).bind fun found_10 => ((shlT g7.2 1).bind fun size_11 => (Tz.ok (found_10, size_11)))))
    (fun j g => g = (col (a + 1 + j) a, 2 ^ (a + 1 + j))) (n - (a + 1)) (fun j g hj e => by
      subst e
      have z : 2 ^ (a + 1 + j) < 2 ^ n := Nat.pow_lt_pow_right (by decide) (by omega)
      refine ⟨by rw [shlT_ok (by decide) (by omega), Tz.bind_ok, one_shl, decide_eq_true z], ?_⟩
      have hb : col (a + 1 + j) a < 2 ^ 100000 := Nat.lt_trans (col_lt _ _) (pow_big (by omega))
      dsimp only
      rw [shl_big hb (by omega), Tz.bind_ok, Tz.bind_ok, shlT_ok (by omega) (by decide), Tz.bind_ok, col_step (by omega)]
      refine WP.ok ?_
      rw [show a + 1 + (j + 1) = a + 1 + j + 1 by omega, Nat.shiftLeft_eq, Nat.pow_succ _ (a + 1 + j), Nat.pow_one])
    (fun g e => by
      subst e
      rw [shlT_ok (by decide) (by omega), Tz.bind_ok, one_shl, show a + 1 + (n - (a + 1)) = n by omega, decide_eq_false (by omega)])
    (n - (a + 1)) fuel 0 (col (a + 1) a, 2 * 2 ^ a) (by omega) (by unfold fuel; omega) (by rw [Nat.add_zero, Nat.pow_succ, Nat.mul_comm])
  obtain ⟨g, e, eg⟩ := W
  rw [e, Tz.bind_ok, eg, show a + 1 + (n - (a + 1)) = n by omega]
theorem full_of_ok {n : Nat} (hn : n ≤ 10) : T_full_of n = .ok (full n) := by
  have wn := two_le hn
  unfold T_full_of
  rw [shlT_ok (by decide) (by omega), Tz.bind_ok, one_shl, shlT_ok (by decide) (by omega), Tz.bind_ok, one_shl, subT_ok Nat.one_le_two_pow]
  rfl
theorem and_one_test (e : Nat) : (!decide ((e &&& 1) = 0)) = decide (e % 2 = 1) := by
  rw [Nat.and_one_is_mod]
  have z : e % 2 = 0 ∨ e % 2 = 1 := by omega
  rcases z with z | z <;> rw [z] <;> rfl
theorem signed_ok {ts : List Nat} {e w t : Nat} (h : ts[e / 2]? = some t) : T_signed ts e w = .ok (t ^^^ (if e % 2 = 1 then w else 0)) := by
  unfold T_signed
  rw [Nat.shiftRight_eq_div_pow, Nat.pow_one, ixT_ok h, Tz.bind_ok, and_one_test]
  congr 2
  by_cases z : e % 2 = 1
  · rw [if_pos z, if_pos (decide_eq_true z)]
  · rw [if_neg z, if_neg (by rw [decide_eq_false z]; decide)]
/-- all tables -/
def tabs (things : Nat) (gs : List (Nat × Nat)) : List Nat := (List.range (1 + things + gs.length)).map (tab things gs)
theorem tabs_len (things : Nat) (gs : List (Nat × Nat)) : (tabs things gs).length = 1 + things + gs.length := by simp [tabs]
theorem tabs_at {things : Nat} {gs : List (Nat × Nat)} {i : Nat} (h : i < 1 + things + gs.length) : (tabs things gs)[i]? = some (tab things gs i) := by
  unfold tabs
  rw [List.getElem?_map, List.getElem?_range h]
  rfl
theorem tabs_nil (things : Nat) : tabs things [] = 0 :: (List.range things).map (col things) := by
  unfold tabs
  rw [List.length_nil, Nat.add_zero, Nat.add_comm 1 things, List.range_succ_eq_map, List.map_cons, tab_zero, List.map_map]
  congr 1
  apply List.map_congr_left
  intro i hi
  show tab things [] (i + 1) = _
  rw [Nat.add_comm i 1, tab_thing (List.mem_range.mp hi)]
theorem tabs_snoc (things : Nat) (gs : List (Nat × Nat)) (g : Nat × Nat) : tabs things (gs ++ [g]) = tabs things gs ++ [etab things gs g.1 &&& etab things gs g.2] := by
  unfold tabs
  rw [List.length_append, List.length_singleton, show 1 + things + (gs.length + 1) = (1 + things + gs.length) + 1 by omega, List.range_succ, List.map_append, List.map_singleton, tab_new]
  congr 1
  apply List.map_congr_left
  intro i hi
  exact tab_snoc (List.mem_range.mp hi)
theorem tables_fold {things : Nat} (all : List (Nat × Nat)) : ∀ (gs ds : List (Nat × Nat)), all = ds ++ gs → Low things all → all.length ≤ 1000 → things ≤ 10 → foldT (fun (g8 : (List Nat)) (x9 : (Nat × Nat)) =>
    ((((T_signed g8 x9.1 (full things)).sure.bind fun s12 => ((T_signed g8 x9.2 (full things)).sure.bind fun s13 => (Tz.ok (s12 &&& s13)))).bind fun s14 => (appT g8 s14)).bind fun l15 => (Tz.ok l15))) gs (tabs things ds) = .ok (tabs things all)
  | [], ds, e, _, _, _ => by rw [e, List.append_nil]; rfl
  | g :: gs, ds, e, low, hl, ht => by
    have hg : all[ds.length]? = some g := by rw [e, List.getElem?_append_right (Nat.le_refl _), Nat.sub_self]; rfl
    have q := low _ _ hg
    have ll : all.length = ds.length + gs.length + 1 := by rw [e, List.length_append, List.length_cons]; omega
    unfold foldT
    rw [signed_ok (tabs_at (i := g.1 / 2) (by omega)), signed_ok (tabs_at (i := g.2 / 2) (by omega))]
    simp only [Tz.sure_ok, Tz.bind_ok]
    rw [appT_ok (by rw [tabs_len]; omega), Tz.bind_ok, Tz.bind_ok]
    have e2 := tabs_snoc things ds g
    unfold etab at e2
    rw [← e2]
    exact tables_fold all gs (ds ++ [g]) (by rw [e, List.append_assoc]; rfl) low hl ht
def NetT.things (N : NetT) : Nat := N.ins.length + N.lat.length
theorem tables_of_ok {N : NetT} (low : Low N.things N.gat) (ht : N.things ≤ 10) (hg : N.gat.length ≤ 1000) : T_tables_of N = .ok (tabs N.things N.gat) := by
  unfold T_tables_of T_Net_things T_Net_gates
  rw [Tz.bind_ok, full_of_ok (n := N.ins.length + N.lat.length) ht, Tz.bind_ok, rng_ok (by unfold NetT.things at ht; omega), Tz.bind_ok]
  rw [mapT_ok (f := col (N.ins.length + N.lat.length)) (by simp; unfold NetT.things at ht; omega) fun i hi => column_of_ok ht (List.mem_range.mp hi), Tz.bind_ok, catT_ok (by simp; unfold NetT.things at ht; omega), Tz.bind_ok, Tz.bind_ok]
  have e : [0] ++ (List.range (N.ins.length + N.lat.length)).map (col (N.ins.length + N.lat.length)) = tabs N.things [] := by rw [tabs_nil]; rfl
  rw [e]
  have z := tables_fold (things := N.things) N.gat N.gat [] rfl low hg ht
  rw [show full (N.ins.length + N.lat.length) = full N.things from rfl, z]
  rfl
end Gp

/-! Hl: the laws' own walks over drawn nets. -/
namespace Gp
open PySem PySem.Spec PyProof.Rows Gm Gt
def M5.things (m : M5) : Nat := m.a.length + m.b.length
theorem mul_big {a b : Nat} (h : a < 2 ^ 100000) (h2 : b < 2 ^ 100000) : mulT a b = .ok (a * b) := gd_ok ⟨lt_big h, lt_big h2⟩
theorem law_things_ok (m : M5) : T_law_things m = .ok m.things := rfl
theorem law_made_ok {m : M5} (h : OkM m) : T_law_made m = .ok (netOf m) := made_ok h
theorem law_bit_ok {n a : Nat} (ha : a < 60) : T_law_bit n a = .ok (n.testBit a).toNat := by
  unfold T_law_bit
  have h1 : 2 ^ a < 2 ^ 64 := Nat.pow_lt_pow_right (by decide) (by omega)
  rw [shlT_ok (by decide) (by omega), Tz.bind_ok, one_shl, divT_ok (Nat.two_pow_pos a) h1, Tz.bind_ok, Nat.toNat_testBit]
/-- truths as numbers -/
def nums (vs : List Bool) : List Nat := vs.map Bool.toNat
theorem nums_at {vs : List Bool} {i : Nat} {b : Bool} (h : vs[i]? = some b) : (nums vs)[i]? = some b.toNat := by
  unfold nums
  rw [List.getElem?_map, h]
  rfl
theorem law_told_ok {vs : List Bool} {e : Nat} (h : e / 2 < vs.length) : T_law_told (nums vs) e = .ok (eV vs e).toNat := by
  have h1 : vs[e / 2]? = some vs[e / 2] := List.getElem?_eq_getElem h
  have z : e % 2 = 0 ∨ e % 2 = 1 := by omega
  unfold T_law_told eV
  rw [ixT_ok (nums_at h1), h1]
  simp only [Tz.bind_ok, Option.getD_some]
  rcases z with z | z <;> rw [z]
  · rw [if_pos (by decide)]
    cases vs[e / 2] <;> rfl
  · rw [if_neg (by decide)]
    cases vs[e / 2] <;> rfl
theorem values_fold {things : Nat} (all : List (Nat × Nat)) (row : Nat) : ∀ (gs ds : List (Nat × Nat)), all = ds ++ gs → Low things all → all.length ≤ 1000 → things ≤ 10 → foldT (fun (g8 : (List Nat)) (x9 : (Nat × Nat)) =>
    ((((T_law_told g8 x9.1).sure.bind fun s12 => ((T_law_told g8 x9.2).sure.bind fun s13 => (mulT s12 s13))).bind fun s14 => (appT g8 s14)).bind fun l15 => (Tz.ok l15))) gs (nums (vals things ds row)) = .ok (nums (vals things all row))
  | [], ds, e, _, _, _ => by rw [e, List.append_nil]; rfl
  | g :: gs, ds, e, low, hl, ht => by
    have hg : all[ds.length]? = some g := by rw [e, List.getElem?_append_right (Nat.le_refl _), Nat.sub_self]; rfl
    have q := low _ _ hg
    have ll : all.length = ds.length + gs.length + 1 := by rw [e, List.length_append, List.length_cons]; omega
    unfold foldT
    rw [law_told_ok (by rw [vals_len]; omega), law_told_ok (by rw [vals_len]; omega)]
    simp only [Tz.sure_ok, Tz.bind_ok]
    have b1 : ∀ b : Bool, b.toNat ≤ 1000000000000000000 := fun b => by cases b <;> decide
    rw [mulT_ok (b1 _) (b1 _), Tz.bind_ok, appT_ok (by unfold nums; rw [List.length_map, vals_len]; omega), Tz.bind_ok, Tz.bind_ok]
    have e2 : nums (vals things ds row) ++ [(eV (vals things ds row) g.1).toNat * (eV (vals things ds row) g.2).toNat] = nums (vals things (ds ++ [g]) row) := by
      rw [vals_snoc]
      unfold nums
      rw [List.map_append, List.map_singleton]
      congr 2
      cases eV (vals things ds row) g.1 <;> cases eV (vals things ds row) g.2 <;> rfl
    rw [e2]
    exact values_fold all row gs (ds ++ [g]) (by rw [e, List.append_assoc]; rfl) low hl ht
theorem law_values_ok {m : M5} (low : Low m.things m.c) (ht : m.things ≤ 10) (hg : m.c.length ≤ 1000) (row : Nat) : T_law_values m row = .ok (nums (vals m.things m.c row)) := by
  unfold T_law_values
  simp only [Tz.bind_ok]
  rw [rng_ok (by unfold M5.things at ht; omega), Tz.bind_ok]
  have A : foldT (fun (g : List Nat) (x : Nat) => ((T_law_bit row x).bind fun s => (appT g s)).bind fun l => Tz.ok l) (List.range (m.a.length + m.b.length)) [0] = .ok (nums (vals m.things [] row)) := by
    have F : ∀ (k : Nat), k ≤ 10 → foldT (fun (g : List Nat) (x : Nat) => ((T_law_bit row x).bind fun s => (appT g s)).bind fun l => Tz.ok l) (List.range k) [0] = .ok (nums (false :: (List.range k).map row.testBit)) := by
      intro k hk
      have W := WP.fold0 (body := fun (g : List Nat) (x : Nat) => ((T_law_bit row x).bind fun s => (appT g s)).bind fun l => Tz.ok l) (fun j g => j ≤ k ∧ g = nums (false :: (List.range j).map row.testBit)) (xs := List.range k) (g := [0]) (fun i x g hx ⟨hi, hg⟩ => by
        have li : i < k := by simpa using (List.getElem?_eq_some_iff.mp hx).1
        rw [List.getElem?_range li] at hx
        have hx : i = x := Option.some.inj hx
        subst hx
        subst hg
        rw [law_bit_ok (by omega), Tz.bind_ok, appT_ok (by unfold nums; simp; omega), Tz.bind_ok]
        refine WP.ok ⟨li, ?_⟩
        unfold nums
        rw [List.range_succ, List.map_append, ← List.cons_append, List.map_append (f := Bool.toNat)]
        rfl) ⟨Nat.zero_le _, rfl⟩
      obtain ⟨g, e, _, eg⟩ := W
      rw [e, eg, List.length_range]
    exact F _ ht
  rw [A, Tz.bind_ok, bind_id]
  exact values_fold m.c row m.c [] rfl low hg ht
theorem ofB_step (f : Nat → Bool) (n : Nat) : ofB f (n + 1) = ofB f n + (f n).toNat * 2 ^ n := by
  show ofB f n + (if f n = true then 2 ^ n else 0) = _
  cases f n <;> simp
theorem law_tables_ok {m : M5} (low : Low m.things m.c) (ht : m.things ≤ 10) (hg : m.c.length ≤ 1000) : T_law_tables m = .ok (tabs m.things m.c) := by
  have w := two_le ht
  unfold T_law_tables
  simp only [law_things_ok, Tz.bind_ok]
  rw [repT_one _ (by omega), Tz.bind_ok, shlT_ok (by decide) (by omega), Tz.bind_ok, one_shl, rng_ok (by omega), Tz.bind_ok]
  have W := WP.fold0 (xs := List.range (2 ^ m.things)) (g := List.replicate (1 + m.things + m.c.length) 0) (fun j (g : List Nat) => j ≤ 2 ^ m.things ∧ g = (List.range (1 + m.things + m.c.length)).map fun i => ofB (fun row => ((vals m.things m.c row)[i]?).getD false) j) (body := fun (g : List Nat) (x : Nat) => (T_law_values m x).bind fun rows => ((rng g.length).bind fun s => mapT (fun (i : Nat) => (ixT g i).bind fun s16 => (((ixT rows i).bind fun s18 => ((shlT 1 x).bind fun s19 => (mulT s18 s19))).bind fun s20 => (Tz.ok (s16 + s20)))) s).bind fun found => Tz.ok found) (fun j x g hx ⟨hj, eg⟩ => by
    have lj : j < 2 ^ m.things := by simpa using (List.getElem?_eq_some_iff.mp hx).1
    rw [List.getElem?_range lj] at hx
    have hx : j = x := Option.some.inj hx
    subst hx
    subst eg
    rw [law_values_ok low ht hg, Tz.bind_ok, List.length_map, List.length_range, rng_ok (by omega), Tz.bind_ok]
    rw [mapT_ok (f := fun i => ofB (fun row => ((vals m.things m.c row)[i]?).getD false) (j + 1)) (by simp; omega) fun i hi => by
      have hi := List.mem_range.mp hi
      have hv : (vals m.things m.c j)[i]? = some (((vals m.things m.c j)[i]?).getD false) := by
        rw [List.getElem?_eq_getElem (by rw [vals_len]; exact hi)]
        rfl
      rw [ixT_ok (a := ofB (fun row => ((vals m.things m.c row)[i]?).getD false) j) (by rw [List.getElem?_map, List.getElem?_range hi]; rfl), Tz.bind_ok, ixT_ok (nums_at hv), Tz.bind_ok, shlT_ok (by decide) (by omega), Tz.bind_ok, one_shl]
      rw [mul_big (by cases ((vals m.things m.c j)[i]?).getD false <;> exact Nat.lt_of_lt_of_le (m := 2 ^ 2) (by decide) (Nat.pow_le_pow_right (by decide) (by decide))) (pow_big (by omega)), Tz.bind_ok]
      rw [ofB_step], Tz.bind_ok]
    exact WP.ok ⟨lj, rfl⟩) ⟨Nat.zero_le _, by
      apply List.ext_getElem (by simp)
      intro i h1 h2
      simp [ofB]⟩
  obtain ⟨g, e, _, eg⟩ := W
  refine Eq.trans ?_ (congrArg Tz.ok ?_ : Tz.ok g = .ok (tabs m.things m.c))
  · rw [e]
    rfl
  · rw [eg, List.length_range]
    rfl
end Gp

namespace K07
open PySem PySem.Spec PyProof.Rows L2 Gm
abbrev fuel : Nat := Gp.fuel
abbrev F_law_box : FnT := Gp.F_law_box
abbrev B_law_box : Ss := Gp.B_law_box
abbrev F_law_take : FnT := Gp.F_law_take
abbrev B_law_take : Ss := Gp.B_law_take
abbrev F_law_names : FnT := Gp.F_law_names
abbrev B_law_names : Ss := Gp.B_law_names
abbrev F_law_frame : FnT := Gp.F_law_frame
abbrev B_law_frame : Ss := Gp.B_law_frame
abbrev F_law_some_edge : FnT := Gp.F_law_some_edge
abbrev B_law_some_edge : Ss := Gp.B_law_some_edge
abbrev F_law_ends : FnT := Gp.F_law_ends
abbrev B_law_ends : Ss := Gp.B_law_ends
abbrev F_law_net : FnT := Gp.F_law_net
abbrev B_law_net : Ss := Gp.B_law_net
abbrev F_is_name : FnT := Gp.F_is_name
abbrev B_is_name : Ss := Gp.B_is_name
abbrev F_need_name : FnT := Gp.F_need_name
abbrev B_need_name : Ss := Gp.B_need_name
abbrev F_need_names : FnT := Gp.F_need_names
abbrev B_need_names : Ss := Gp.B_need_names
abbrev F_Net___init__ : FnT := Gp.F_Net___init__
abbrev B_Net___init__ : Ss := Gp.B_Net___init__
abbrev F_law_made : FnT := Gp.F_law_made
abbrev B_law_made : Ss := Gp.B_law_made
abbrev F_law_bit : FnT := Gp.F_law_bit
abbrev B_law_bit : Ss := Gp.B_law_bit
abbrev F_law_told : FnT := Gp.F_law_told
abbrev B_law_told : Ss := Gp.B_law_told
abbrev F_law_values : FnT := Gp.F_law_values
abbrev B_law_values : Ss := Gp.B_law_values
abbrev F_law_things : FnT := Gp.F_law_things
abbrev B_law_things : Ss := Gp.B_law_things
abbrev F_law_tables : FnT := Gp.F_law_tables
abbrev B_law_tables : Ss := Gp.B_law_tables
abbrev F_law_far : FnT := Gp.F_law_far
abbrev B_law_far : Ss := Gp.B_law_far
abbrev F_Net_things : FnT := Gp.F_Net_things
abbrev B_Net_things : Ss := Gp.B_Net_things
abbrev F_full_of : FnT := Gp.F_full_of
abbrev B_full_of : Ss := Gp.B_full_of
abbrev F_Net_gates : FnT := Gp.F_Net_gates
abbrev B_Net_gates : Ss := Gp.B_Net_gates
abbrev F_column_of : FnT := Gp.F_column_of
abbrev B_column_of : Ss := Gp.B_column_of
abbrev F_signed : FnT := Gp.F_signed
abbrev B_signed : Ss := Gp.B_signed
abbrev F_tables_of : FnT := Gp.F_tables_of
abbrev B_tables_of : Ss := Gp.B_tables_of
abbrev F_tables : FnT := Gp.F_tables
abbrev B_tables : Ss := Gp.B_tables
def B_law_same (R : FnT) : Ss :=
  (sSeq (sIf (cTor (cTv (cBin oIsN (cVar 1) (cK .non))) (cTv (cBin oIsN (cVar 0) (cK .non)))) (sRet (cAnd (cBin oIsN (cVar 0) (cK .non)) (cBin oIsN (cVar 1) (cK .non))))
  sNil)
  (sSeq (sIf (cTor (cTv (cIs2 (cVar 1) "list" "tuple")) (cTv (cIs2 (cVar 0) "list" "tuple"))) (sSeq (sIf (cTv (cBin oNe (cB fIsi (cCons (cVar 0) (cCons (cK (.ty "list")) cNil))) (cB fIsi (cCons (cVar 1) (cCons (cK (.ty "list")) cNil))))) (sRet (cK (.bl false)))
  sNil)
  (sSeq (sIf (cTor (cTv (cBin oNe (cB fIsi (cCons (cVar 0) (cCons (cK (.ty "tuple")) cNil))) (cB fIsi (cCons (cVar 1) (cCons (cK (.ty "tuple")) cNil))))) (cTv (cBin oNe (cB fLen (cCons (cVar 0) cNil)) (cB fLen (cCons (cVar 1) cNil))))) (sRet (cK (.bl false)))
  sNil)
  (sRet (cB fAll (cCons (cLc false (iZipAD (cCons (cVar 0) (cCons (cVar 1) cNil))) (fTup [2, 3]) cYes (cCall R [] (cCons (cVar 2) (cCons (cVar 3) cNil))) [2, 3]) cNil)))))
  sNil)
  (sSeq (sIf (cTv (cBin oNe (cB fIsi (cCons (cVar 1) (cCons (cK (.ty "bool")) cNil))) (cB fIsi (cCons (cVar 0) (cCons (cK (.ty "bool")) cNil))))) (sRet (cK (.bl false)))
  sNil)
  (sSeq (sIf (cTv (cBin oNe (cB fIsi (cCons (cVar 1) (cCons (cK (.ty "int")) cNil))) (cB fIsi (cCons (cVar 0) (cCons (cK (.ty "int")) cNil))))) (sRet (cK (.bl false)))
  sNil)
  (sRet (cAnd (cBin oEq (cB fIsi (cCons (cVar 1) (cCons (cK (.ty "str")) cNil))) (cB fIsi (cCons (cVar 0) (cCons (cK (.ty "str")) cNil)))) (cBin oEq (cVar 0) (cVar 1))))))))
def F_law_same : Nat → FnT
  | 0 => fun _ _ => .no
  | n + 1 => fnOf 4 2 (B_law_same (F_law_same n))
abbrev F_Net_many : FnT := Gp.F_Net_many
abbrev B_Net_many : Ss := Gp.B_Net_many
abbrev F_need_edge : FnT := Gp.F_need_edge
abbrev B_need_edge : Ss := Gp.B_need_edge
abbrev F_edge_table : FnT := Gp.F_edge_table
abbrev B_edge_table : Ss := Gp.B_edge_table
def B_law_kin : Ss :=
  (sSeq (sSet 1 (cK (.str (PySem.Str.ofString "BadThings BadTable NoThing BadName Taken Full BadStart BadEdge NoNode"))))
  (sSeq (sSet 1 (cBin (oAdd false) (cVar 1) (cK (.str (PySem.Str.ofString " NoName BadRow NothingLeft NotFolded BadLeaves Unlike BadState NotClosed NotMovable")))))
  (sSeq (sSet 1 (cBin (oAdd false) (cVar 1) (cK (.str (PySem.Str.ofString " BadDelay BadCost TooMany BadDeed BadRounds BadGate BadText Loop")))))
  (sSeq (sSet 1 (cBin (oAdd false) (cVar 1) (cK (.str (PySem.Str.ofString " NoCell NoDesign NoWire")))))
  (sSeq (sSet 2 (cLst false cNil))
  (sSeq (sSet 2 (cBin (oAdd false) (cVar 2) (cLst false (cCons (cIsE ET (cVar 0) (PySem.Str.ofString "BadThings")) (cCons (cIsE ET (cVar 0) (PySem.Str.ofString "BadTable")) (cCons (cIsE ET (cVar 0) (PySem.Str.ofString "NoThing")) cNil))))))
  (sSeq (sSet 2 (cBin (oAdd false) (cVar 2) (cLst false (cCons (cIsE ET (cVar 0) (PySem.Str.ofString "BadName")) (cCons (cIsE ET (cVar 0) (PySem.Str.ofString "Taken")) (cCons (cIsE ET (cVar 0) (PySem.Str.ofString "Full")) cNil))))))
  (sSeq (sSet 2 (cBin (oAdd false) (cVar 2) (cLst false (cCons (cIsE ET (cVar 0) (PySem.Str.ofString "BadStart")) (cCons (cIsE ET (cVar 0) (PySem.Str.ofString "BadEdge")) (cCons (cIsE ET (cVar 0) (PySem.Str.ofString "NoNode")) cNil))))))
  (sSeq (sSet 2 (cBin (oAdd false) (cVar 2) (cLst false (cCons (cIsE ET (cVar 0) (PySem.Str.ofString "NoName")) (cCons (cIsE ET (cVar 0) (PySem.Str.ofString "BadRow")) (cCons (cIsE ET (cVar 0) (PySem.Str.ofString "NothingLeft")) cNil))))))
  (sSeq (sSet 2 (cBin (oAdd false) (cVar 2) (cLst false (cCons (cIsE ET (cVar 0) (PySem.Str.ofString "NotFolded")) (cCons (cIsE ET (cVar 0) (PySem.Str.ofString "BadLeaves")) (cCons (cIsE ET (cVar 0) (PySem.Str.ofString "Unlike")) cNil))))))
  (sSeq (sSet 2 (cBin (oAdd false) (cVar 2) (cLst false (cCons (cIsE ET (cVar 0) (PySem.Str.ofString "BadState")) (cCons (cIsE ET (cVar 0) (PySem.Str.ofString "NotClosed")) (cCons (cIsE ET (cVar 0) (PySem.Str.ofString "NotMovable")) cNil))))))
  (sSeq (sSet 2 (cBin (oAdd false) (cVar 2) (cLst false (cCons (cIsE ET (cVar 0) (PySem.Str.ofString "BadDelay")) (cCons (cIsE ET (cVar 0) (PySem.Str.ofString "BadCost")) (cCons (cIsE ET (cVar 0) (PySem.Str.ofString "TooMany")) cNil))))))
  (sSeq (sSet 2 (cBin (oAdd false) (cVar 2) (cLst false (cCons (cIsE ET (cVar 0) (PySem.Str.ofString "BadDeed")) (cCons (cIsE ET (cVar 0) (PySem.Str.ofString "BadRounds")) (cCons (cIsE ET (cVar 0) (PySem.Str.ofString "BadGate")) cNil))))))
  (sSeq (sSet 2 (cBin (oAdd false) (cVar 2) (cLst false (cCons (cIsE ET (cVar 0) (PySem.Str.ofString "BadText")) (cCons (cIsE ET (cVar 0) (PySem.Str.ofString "Loop")) (cCons (cIsE ET (cVar 0) (PySem.Str.ofString "NoCell")) cNil))))))
  (sSeq (sSet 2 (cBin (oAdd false) (cVar 2) (cLst false (cCons (cIsE ET (cVar 0) (PySem.Str.ofString "NoDesign")) (cCons (cIsE ET (cVar 0) (PySem.Str.ofString "NoWire")) cNil)))))
  (sSeq (sSet 3 (cLc false (iZipF (cCons (cMt "str" (mSplit false) (cVar 1) (cCons (cK (.str (PySem.Str.ofString " "))) cNil)) (cCons (cVar 2) cNil))) (fTup [5, 4]) (cTv (cVar 4)) (cVar 5) [5, 4]))
  (sSeq (sIf (cTnot (cTv (cIsE2 ET (cVar 0) "ValueError" "LookupError"))) (sRet (cK (.str (PySem.Str.ofString "odd"))))
  sNil)
  (sRet (cMt "str" mJoin (cK (.str (PySem.Str.ofString " "))) (cCons (cVar 3) cNil))))))))))))))))))))
def F_law_kin : FnT := fnOf 6 1 B_law_kin
def TF_law_tried : Res D → Res D := triedF ET (fun n => ET.is n (PySem.Str.ofString "GateError") || ET.is n (PySem.Str.ofString "MissingError")) (PySem.Str.ofString "") (cCallX F_law_kin (cCons (cVar 3) cNil))
def B_law : Ss :=
  (sSeq (sSet 1 (cCall F_law_box [] (cCons (cVar 0) cNil)))
  (sSeq (sSet 2 (cCall F_law_net [] (cCons (cVar 1) (cCons (cBin oIx (cLst false (cCons (cK (.int 4)) (cCons (cK (.int 4)) (cCons (cK (.int 4)) (cCons (cK (.int 6)) cNil))))) (cCall F_law_take [] (cCons (cVar 1) (cCons (cK (.int 4)) cNil)))) (cCons (cBin oIx (cLst false (cCons (cK (.int 2)) (cCons (cK (.int 2)) (cCons (cK (.int 4)) cNil)))) (cCall F_law_take [] (cCons (cVar 1) (cCons (cK (.int 3)) cNil)))) (cCons (cK (.int 9)) (cCons (cK (.int 2)) cNil)))))))
  (sSeq (sSet 3 (cCall F_law_made [] (cCons (cVar 2) cNil)))
  (sSeq (sSet 4 (cCall F_law_tables [] (cCons (cVar 2) cNil)))
  (sSeq (sFor (iRange1 (cCons (cK (.int 2)) cNil)) (gtName 5) (sSeq (sSet 6 (cCall F_tables [] (cCons (cVar 3) cNil)))
  (sSeq (sIf (cTnot (cTv (cPure (F_law_same 6) [] (cCons (cVar 6) (cCons (cVar 4) cNil))))) (sRet (cK (.bl false)))
  sNil)
  (sExpr (cMt "list" mAppend (cVar 6) (cCons (cK (.int 1)) cNil))))))
  (sSeq (sSet 7 (cBin oSub (cBin oShl (cK (.int 1)) (cBin oShl (cK (.int 1)) (cCall F_law_things [] (cCons (cVar 2) cNil)))) (cK (.int 1))))
  (sSeq (sFor (iRange1 (cCons (cB fLen (cCons (cVar 4) cNil)) cNil)) (gtName 8) (sSeq (sSet 6 (cLst true (cCons (cCall F_edge_table [] (cCons (cVar 3) (cCons (cBin oMul (cK (.int 2)) (cVar 8)) cNil))) (cCons (cCall F_edge_table [] (cCons (cVar 3) (cCons (cBin (oAdd false) (cBin oMul (cK (.int 2)) (cVar 8)) (cK (.int 1))) cNil))) cNil))))
  (sIf (cTnot (cTv (cPure (F_law_same 6) [] (cCons (cVar 6) (cCons (cLst false (cCons (cBin oIx (cVar 4) (cVar 8)) (cCons (cBin oSub (cVar 7) (cBin oIx (cVar 4) (cVar 8))) cNil))) cNil))))) (sRet (cK (.bl false)))
  sNil)))
  (sSeq (sSet 9 (cCall F_law_far [] (cCons (cVar 1) (cCons (cBin oMul (cK (.int 2)) (cB fLen (cCons (cVar 4) cNil))) cNil))))
  (sRet (cAnd (cBin oEq (cBin oIx (cTried TF_law_tried (cCall F_edge_table [] (cCons (cVar 3) (cCons (cVar 9) cNil)))) (cK (.int 1))) (cK (.str (PySem.Str.ofString "BadEdge")))) (cCall (F_law_same 6) [] (cCons (cFz (cCall F_tables [] (cCons (cMake "Net" F_Net___init__ [.tup [], .tup [], .tup [], .tup []] (cCons (cLst false cNil) cNil)) cNil))) (cCons (cLst false (cCons (cK (.int 0)) cNil)) cNil)))))))))))))
def F_law : FnT := fnOf 10 1 B_law
end K07

namespace K07
open PySem PySem.Spec PyProof.Rows L2 Gm
abbrev FnP (K : PySem.W.Frag) (x : Str) (st : Stmt) (kws : List (Str × V)) (f : Addr) (fd : FuncData) : Prop := FunD K x x (defArgs st) (defBody st) (defScope st) [] kws f fd
/-! _law_box -/
theorem sc_law_box : FnScope ["script", "seed", "one"] ["script"] (defScope s_law_box) := ⟨rfl, rfl, rfl, by decide +kernel, rfl, by decide +kernel, by decide +kernel⟩
theorem ok_law_box {P : Program} {w : World} {K : PySem.W.Frag} {T : List (Addr × Str)} {mg : Str → Option Value} {base : Heap} {f : Addr} {fd : FuncData} {kws : List (Str × V)} (F : FnP K "_law_box" s_law_box kws f fd)
    (m_list : mg "list" = none) :
    FnOk P w K mg base (L2N.CX P w) 1 f fd ["script"] (spOf (cfT K T) F_law_box) :=
  fn_ok (k := 0) F sc_law_box fun cdv A outer s H E hr =>
  (ss_cons (s_set (i := 1) sc_law_box.nd rfl (by first | exact Or.inl rfl | exact Or.inr rfl) (e_int pe_int))
  (ss_cons (s_for (passes_of rfl) rfl (i_seq rfl (e_slice (m := false) rfl (e_var (pv 0)) p_none (p_some (e_int pe_int)))) (g_name (pg_name (i := 2) sc_law_box.nd rfl (by first | exact Or.inl rfl | exact Or.inr rfl))) (ss_one (s_set (i := 1) sc_law_box.nd rfl (by first | exact Or.inl rfl | exact Or.inr rfl) (b_mod (b_add (m := false) (b_add (m := false) (b_mul (e_var (pv 1)) (e_int pe_int)) (b_mod (e_var (pv 2)) (e_int pe_int))) (e_int pe_int)) (e_int pe_int)))))
  (ss_one (s_ret (e_lst (m := true) (a_cons (e_ct call_list_of (fList_ok (m := false)) (by rfl) m_list (by decide +kernel) (a_cons (e_slice (m := false) rfl (e_var (pv 0)) p_none (p_some (e_int pe_int))) a_nil)) (a_cons (e_int pe_int) (a_cons (e_int pe_int) (a_cons (e_var (pv 1)) a_nil)))))))))
/-! _law_take -/
theorem sc_law_take : FnScope ["box", "many", "rest", "one", "mixed"] ["box", "many"] (defScope s_law_take) := ⟨rfl, rfl, rfl, by decide +kernel, rfl, by decide +kernel, by decide +kernel⟩
theorem ok_law_take {P : Program} {w : World} {K : PySem.W.Frag} {T : List (Addr × Str)} {mg : Str → Option Value} {base : Heap} {f : Addr} {fd : FuncData} {kws : List (Str × V)} (F : FnP K "_law_take" s_law_take kws f fd)
    (m_len : mg "len" = none) :
    FnOk P w K mg base (L2N.CX P w) 1 f fd ["box", "many"] (spOf (cfT K T) F_law_take) :=
  fn_ok (k := 0) F sc_law_take fun cdv A outer s H E hr =>
  (ss_cons (s_if (t_gt (e_item rfl (e_var (pv 0)) (e_int pe_int)) (e_int pe_int)) (ss_cons (s_set (i := 2) sc_law_take.nd rfl (by first | exact Or.inl rfl | exact Or.inr rfl) (e_item rfl (e_var (pv 0)) (e_int pe_int)))
  (ss_cons (s_put (b_div (e_var (pv 2)) (e_var (pv 1))) (e_var (pv 0)) (e_int pe_int) fun a b c => ps_put a b c)
  (ss_one (s_ret (b_mod (e_var (pv 2)) (e_var (pv 1)))))))
  ss_nil)
  (ss_cons (s_set (i := 3) sc_law_take.nd rfl (by first | exact Or.inl rfl | exact Or.inr rfl) (e_int pe_int))
  (ss_cons (s_if (t_lt (e_item rfl (e_var (pv 0)) (e_int pe_int)) (e_cb rLen_ok fLen_ok (by rfl) m_len (by decide +kernel) (a_cons (e_item rfl (e_var (pv 0)) (e_int pe_int)) a_nil))) (ss_one (s_set (i := 3) sc_law_take.nd rfl (by first | exact Or.inl rfl | exact Or.inr rfl) (e_item rfl (e_item rfl (e_var (pv 0)) (e_int pe_int)) (e_item rfl (e_var (pv 0)) (e_int pe_int)))))
  ss_nil)
  (ss_cons (s_augAt rfl iop_add iop0_ok (e_var (pv 0)) (e_int pe_int) (e_int pe_int))
  (ss_cons (s_if (t_ge (e_var (pv 3)) (b_pow (e_int pe_int) (e_int pe_int))) (ss_cons (s_put (b_div (e_var (pv 3)) (e_var (pv 1))) (e_var (pv 0)) (e_int pe_int) fun a b c => ps_put a b c)
  (ss_one (s_ret (b_mod (e_var (pv 3)) (e_var (pv 1))))))
  ss_nil)
  (ss_cons (s_set (i := 4) sc_law_take.nd rfl (by first | exact Or.inl rfl | exact Or.inr rfl) (b_mod (b_add (m := false) (b_add (m := false) (e_item rfl (e_var (pv 0)) (e_int pe_int)) (b_mul (b_mod (e_var (pv 3)) (e_int pe_int)) (e_int pe_int))) (b_mul (e_item rfl (e_var (pv 0)) (e_int pe_int)) (e_int pe_int))) (e_int pe_int)))
  (ss_cons (s_set (i := 4) sc_law_take.nd rfl (by first | exact Or.inl rfl | exact Or.inr rfl) (b_mod (b_add (m := false) (b_add (m := false) (b_mul (e_var (pv 4)) (e_var (pv 4))) (b_mul (e_int pe_int) (e_var (pv 4)))) (e_int pe_int)) (e_int pe_int)))
  (ss_cons (s_put (b_mod (b_add (m := false) (b_add (m := false) (b_mul (e_var (pv 4)) (e_int pe_int)) (b_mod (e_item rfl (e_var (pv 0)) (e_int pe_int)) (e_int pe_int))) (e_int pe_int)) (e_int pe_int)) (e_var (pv 0)) (e_int pe_int) fun a b c => ps_put a b c)
  (ss_one (s_ret (b_mod (b_div (e_item rfl (e_var (pv 0)) (e_int pe_int)) (e_int pe_int)) (e_var (pv 1)))))))))))))
/-! _law_names -/
theorem sc_law_names : FnScope ["box", "many", "letters", "which", "first", "stem", "at", "step", "k"] ["box", "many"] (defScope s_law_names) := ⟨rfl, rfl, rfl, by decide +kernel, rfl, by decide +kernel, by decide +kernel⟩
theorem ok_law_names {P : Program} {w : World} {K : PySem.W.Frag} {T : List (Addr × Str)} {mg : Str → Option Value} {base : Heap} {f : Addr} {fd : FuncData} {kws : List (Str × V)} (F : FnP K "_law_names" s_law_names kws f fd)
    (m_range : mg "range" = none)
    (m_len : mg "len" = none)
    (C_law_take : CallOk P w K mg base (cfT K T) "_law_take" 1 F_law_take []) :
    FnOk P w K mg base (L2N.CX P w) 2 f fd ["box", "many"] (spOf (cfT K T) F_law_names) :=
  fn_ok (k := 1) F sc_law_names fun cdv A outer s H E hr =>
  (ss_cons (s_set (i := 2) sc_law_names.nd rfl (by first | exact Or.inl rfl | exact Or.inr rfl) (e_str pe_str))
  (ss_cons (s_set (i := 3) sc_law_names.nd rfl (by first | exact Or.inl rfl | exact Or.inr rfl) (e_callC C_law_take hr (by decide) (by rfl) (L2N.takes_of rfl rfl rfl rfl) (a_cons (e_var (pv 0)) (a_cons (e_int pe_int) a_nil))))
  (ss_cons (s_set (i := 4) sc_law_names.nd rfl (by first | exact Or.inl rfl | exact Or.inr rfl) (e_callC C_law_take hr (by decide) (by rfl) (L2N.takes_of rfl rfl rfl rfl) (a_cons (e_var (pv 0)) (a_cons (e_int pe_int) a_nil))))
  (ss_cons (s_if (t_eq rfl hr.units (e_var (pv 3)) (e_int pe_int)) (ss_one (s_ret (e_lc (m := true) (own := [("k", 8)]) (gt := (gName 8)) rfl sc_law_names.nd (i_range1 (by rfl) m_range (a_cons (e_var (pv 1)) a_nil)) (blkOk_by (by show blkC ["box", "many", "letters", "which", "first", "stem", "at", "step", "k"] (defScope s_law_names) _ _ = true; decide +kernel)) (fun _ _ _ _ _ => pg_name (i := 8) sc_law_names.nd rfl (by first | exact Or.inl rfl | exact Or.inr rfl)) (tg_name (by decide)) (fun _ _ _ _ _ => ts_nil) (fun _ _ _ _ _ => (b_mulS (e_item rfl (e_var (pv 2)) (b_add (m := false) (b_mod (e_var (pv 4)) (e_int pe_int)) (b_div (e_var (pv 8)) (e_int pe_int)))) (b_add (m := false) (e_int pe_int) (b_mod (e_var (pv 8)) (e_int pe_int))))))))
  ss_nil)
  (ss_cons (s_set (i := 5) sc_law_names.nd rfl (by first | exact Or.inl rfl | exact Or.inr rfl) (e_item rfl (e_lst (m := false) (a_cons (e_str pe_str) (a_cons (e_str pe_str) (a_cons (e_str pe_str) (a_cons (e_str pe_str) (a_cons (e_str pe_str) (a_cons (e_str pe_str) (a_cons (e_str pe_str) a_nil)))))))) (e_var (pv 3))))
  (ss_cons (s_set (i := 6) sc_law_names.nd rfl (by first | exact Or.inl rfl | exact Or.inr rfl) (e_callC C_law_take hr (by decide) (by rfl) (L2N.takes_of rfl rfl rfl rfl) (a_cons (e_var (pv 0)) (a_cons (b_add (m := false) (e_cb rLen_ok fLen_ok (by rfl) m_len (by decide +kernel) (a_cons (e_var (pv 5)) a_nil)) (e_int pe_int)) a_nil))))
  (ss_cons (s_set (i := 7) sc_law_names.nd rfl (by first | exact Or.inl rfl | exact Or.inr rfl) (e_item rfl (e_lst (m := false) (a_cons (e_int pe_int) (a_cons (e_int pe_int) (a_cons (e_int pe_int) (a_cons (e_int pe_int) (a_cons (e_int pe_int) (a_cons (e_int pe_int) a_nil))))))) (e_callC C_law_take hr (by decide) (by rfl) (L2N.takes_of rfl rfl rfl rfl) (a_cons (e_var (pv 0)) (a_cons (e_int pe_int) a_nil)))))
  (ss_one (s_ret (e_lc (m := true) (own := [("k", 8)]) (gt := (gName 8)) rfl sc_law_names.nd (i_range1 (by rfl) m_range (a_cons (e_var (pv 1)) a_nil)) (blkOk_by (by show blkC ["box", "many", "letters", "which", "first", "stem", "at", "step", "k"] (defScope s_law_names) _ _ = true; decide +kernel)) (fun _ _ _ _ _ => pg_name (i := 8) sc_law_names.nd rfl (by first | exact Or.inl rfl | exact Or.inr rfl)) (tg_name (by decide)) (fun _ _ _ _ _ => ts_nil) (fun _ _ _ _ _ => (b_add (m := false) (b_add (m := false) (e_slice (m := false) rfl (e_var (pv 5)) p_none (p_some (e_var (pv 6)))) (e_item rfl (e_var (pv 2)) (b_mod (b_add (m := false) (e_var (pv 4)) (b_mul (e_var (pv 7)) (e_var (pv 8)))) (e_int pe_int)))) (e_slice (m := false) rfl (e_var (pv 5)) (p_some (e_var (pv 6))) p_none)))))))))))))
/-! _law_frame -/
theorem sc_law_frame : FnScope ["box", "ins", "mem", "names", "many", "latches", "called"] ["box", "ins", "mem"] (defScope s_law_frame) := ⟨rfl, rfl, rfl, by decide +kernel, rfl, by decide +kernel, by decide +kernel⟩
theorem ok_law_frame {P : Program} {w : World} {K : PySem.W.Frag} {T : List (Addr × Str)} {mg : Str → Option Value} {base : Heap} {f : Addr} {fd : FuncData} {kws : List (Str × V)} (F : FnP K "_law_frame" s_law_frame kws f fd)
    (C_law_names : CallOk P w K mg base (cfT K T) "_law_names" 2 F_law_names [])
    (C_law_take : CallOk P w K mg base (cfT K T) "_law_take" 1 F_law_take []) :
    FnOk P w K mg base (L2N.CX P w) 3 f fd ["box", "ins", "mem"] (spOf (cfT K T) F_law_frame) :=
  fn_ok (k := 2) F sc_law_frame fun cdv A outer s H E hr =>
  (ss_cons (s_set (i := 3) sc_law_frame.nd rfl (by first | exact Or.inl rfl | exact Or.inr rfl) (e_fz (e_callC C_law_names hr (by decide) (by rfl) (L2N.takes_of rfl rfl rfl rfl) (a_cons (e_var (pv 0)) (a_cons (e_int pe_int) a_nil)))))
  (ss_cons (s_set (i := 4) sc_law_frame.nd rfl (by first | exact Or.inl rfl | exact Or.inr rfl) (e_callC C_law_take hr (by decide) (by rfl) (L2N.takes_of rfl rfl rfl rfl) (a_cons (e_var (pv 0)) (a_cons (b_add (m := false) (e_var (pv 1)) (e_int pe_int)) a_nil))))
  (ss_cons (s_setLc (m := false) (own := [("called", 6)]) (gt := (gName 6)) (i := 5) rfl sc_law_frame.nd rfl rfl (sw_true rfl rfl rfl (by decide +kernel)) (i_seq rfl (e_slice (m := false) rfl (e_var (pv 3)) (p_some (e_var (pv 4))) (p_some (b_add (m := false) (e_var (pv 4)) (e_callC C_law_take hr (by decide) (by rfl) (L2N.takes_of rfl rfl rfl rfl) (a_cons (e_var (pv 0)) (a_cons (b_add (m := false) (e_var (pv 2)) (e_int pe_int)) a_nil))))))) (blkOk_by (by show blkC ["box", "ins", "mem", "names", "many", "latches", "called"] (defScope s_law_frame) _ _ = true; decide +kernel)) (fun _ _ _ _ _ => pg_name (i := 6) sc_law_frame.nd rfl (by first | exact Or.inl rfl | exact Or.inr rfl)) (tg_name (by decide)) (fun _ _ _ _ _ => ts_nil) (fun _ _ _ _ _ => (e_tup (a_cons (e_var (pv 6)) (a_cons (e_callC C_law_take hr (by decide) (by rfl) no_tk (a_cons (e_var (pv 0)) (a_cons (e_int pe_int) a_nil))) a_nil)))))
  (ss_one (s_ret (e_tup (a_cons (e_var (pv 3)) (a_cons (e_slice (m := false) rfl (e_var (pv 3)) p_none (p_some (e_var (pv 4)))) (a_cons (e_var (pv 5)) a_nil)))))))))
/-! _law_some_edge -/
theorem sc_law_some_edge : FnScope ["box", "nodes", "way"] ["box", "nodes"] (defScope s_law_some_edge) := ⟨rfl, rfl, rfl, by decide +kernel, rfl, by decide +kernel, by decide +kernel⟩
theorem ok_law_some_edge {P : Program} {w : World} {K : PySem.W.Frag} {T : List (Addr × Str)} {mg : Str → Option Value} {base : Heap} {f : Addr} {fd : FuncData} {kws : List (Str × V)} (F : FnP K "_law_some_edge" s_law_some_edge kws f fd)
    (m_min : mg "min" = none)
    (C_law_take : CallOk P w K mg base (cfT K T) "_law_take" 1 F_law_take []) :
    FnOk P w K mg base (L2N.CX P w) 2 f fd ["box", "nodes"] (spOf (cfT K T) F_law_some_edge) :=
  fn_ok (k := 1) F sc_law_some_edge fun cdv A outer s H E hr =>
  (ss_cons (s_set (i := 2) sc_law_some_edge.nd rfl (by first | exact Or.inl rfl | exact Or.inr rfl) (e_callC C_law_take hr (by decide) (by rfl) (L2N.takes_of rfl rfl rfl rfl) (a_cons (e_var (pv 0)) (a_cons (e_int pe_int) a_nil))))
  (ss_cons (s_if (t_eq rfl hr.units (e_var (pv 2)) (e_int pe_int)) (ss_one (s_ret (b_sub (b_sub (b_mul (e_int pe_int) (e_var (pv 1))) (e_int pe_int)) (e_callC C_law_take hr (by decide) (by rfl) (L2N.takes_of rfl rfl rfl rfl) (a_cons (e_var (pv 0)) (a_cons (e_cb (call_min2 rfl) fMin2_ok (by rfl) m_min (by decide +kernel) (a_cons (b_mul (e_int pe_int) (e_var (pv 1))) (a_cons (e_int pe_int) a_nil))) a_nil))))))
  ss_nil)
  (ss_one (s_ret (e_callC C_law_take hr (by decide) (by rfl) (L2N.takes_of rfl rfl rfl rfl) (a_cons (e_var (pv 0)) (a_cons (b_mul (e_int pe_int) (e_var (pv 1))) a_nil)))))))
/-! _law_ends -/
theorem sc_law_ends : FnScope ["box", "names", "latches", "nodes", "top", "outs", "called", "one"] ["box", "names", "latches", "nodes", "top"] (defScope s_law_ends) := ⟨rfl, rfl, rfl, by decide +kernel, rfl, by decide +kernel, by decide +kernel⟩
theorem ok_law_ends {P : Program} {w : World} {K : PySem.W.Frag} {T : List (Addr × Str)} {mg : Str → Option Value} {base : Heap} {f : Addr} {fd : FuncData} {kws : List (Str × V)} (F : FnP K "_law_ends" s_law_ends kws f fd)
    (C_law_take : CallOk P w K mg base (cfT K T) "_law_take" 1 F_law_take [])
    (C_law_some_edge : CallOk P w K mg base (cfT K T) "_law_some_edge" 2 F_law_some_edge []) :
    FnOk P w K mg base (L2N.CX P w) 3 f fd ["box", "names", "latches", "nodes", "top"] (spOf (cfT K T) F_law_ends) :=
  fn_ok (k := 2) F sc_law_ends fun cdv A outer s H E hr =>
  (ss_cons (s_setLc (m := false) (own := [("called", 6)]) (gt := (gName 6)) (i := 5) rfl sc_law_ends.nd rfl rfl (sw_true rfl rfl rfl (by decide +kernel)) (i_seq rfl (e_slice (m := false) rfl (e_var (pv 1)) p_none (p_some (e_callC C_law_take hr (by decide) (by rfl) (L2N.takes_of rfl rfl rfl rfl) (a_cons (e_var (pv 0)) (a_cons (b_add (m := false) (e_var (pv 4)) (e_int pe_int)) a_nil)))))) (blkOk_by (by show blkC ["box", "names", "latches", "nodes", "top", "outs", "called", "one"] (defScope s_law_ends) _ _ = true; decide +kernel)) (fun _ _ _ _ _ => pg_name (i := 6) sc_law_ends.nd rfl (by first | exact Or.inl rfl | exact Or.inr rfl)) (tg_name (by decide)) (fun _ _ _ _ _ => ts_nil) (fun _ _ _ _ _ => (e_tup (a_cons (e_var (pv 6)) (a_cons (e_callC C_law_some_edge hr (by decide) (by rfl) no_tk (a_cons (e_var (pv 0)) (a_cons (e_var (pv 3)) a_nil))) a_nil)))))
  (ss_one (s_ret (e_tup (a_cons (e_var (pv 5)) (a_cons (e_lc (m := false) (own := [("one", 7)]) (gt := (gName 7)) rfl sc_law_ends.nd (i_seq rfl (e_var (pv 2))) (blkOk_by (by show blkC ["box", "names", "latches", "nodes", "top", "outs", "called", "one"] (defScope s_law_ends) _ _ = true; decide +kernel)) (fun _ _ _ _ _ => pg_name (i := 7) sc_law_ends.nd rfl (by first | exact Or.inl rfl | exact Or.inr rfl)) (tg_name (by decide)) (fun _ _ _ _ _ => ts_nil) (fun _ _ _ _ _ => (e_callC C_law_some_edge hr (by decide) (by rfl) no_tk (a_cons (e_var (pv 0)) (a_cons (e_var (pv 3)) a_nil))))) a_nil))))))
/-! _law_net -/
theorem sc_law_net : FnScope ["box", "ins", "mem", "top", "ends", "names", "some", "latches", "nodes", "gates", "k", "one", "other", "outs", "nexts"] ["box", "ins", "mem", "top", "ends"] (defScope s_law_net) := ⟨rfl, rfl, rfl, by decide +kernel, rfl, by decide +kernel, by decide +kernel⟩
theorem ok_law_net {P : Program} {w : World} {K : PySem.W.Frag} {T : List (Addr × Str)} {mg : Str → Option Value} {base : Heap} {f : Addr} {fd : FuncData} {kws : List (Str × V)} (F : FnP K "_law_net" s_law_net kws f fd)
    (m_len : mg "len" = none)
    (m_range : mg "range" = none)
    (m_min : mg "min" = none)
    (m_max : mg "max" = none)
    (C_law_frame : CallOk P w K mg base (cfT K T) "_law_frame" 3 F_law_frame [])
    (C_law_take : CallOk P w K mg base (cfT K T) "_law_take" 1 F_law_take [])
    (C_law_some_edge : CallOk P w K mg base (cfT K T) "_law_some_edge" 2 F_law_some_edge [])
    (C_law_ends : CallOk P w K mg base (cfT K T) "_law_ends" 3 F_law_ends []) :
    FnOk P w K mg base (L2N.CX P w) 4 f fd ["box", "ins", "mem", "top", "ends"] (spOf (cfT K T) F_law_net) :=
  fn_ok (k := 3) F sc_law_net fun cdv A outer s H E hr =>
  (ss_cons (s_asg (e_callC C_law_frame hr (by decide) (by rfl) (L2N.takes_of rfl rfl rfl rfl) (a_cons (e_var (pv 0)) (a_cons (e_var (pv 1)) (a_cons (e_var (pv 2)) a_nil)))) (g_tup rfl rfl (gs_cons (g_name (pg_name (i := 5) sc_law_net.nd rfl (by first | exact Or.inl rfl | exact Or.inr rfl))) (gs_cons (g_name (pg_name (i := 6) sc_law_net.nd rfl (by first | exact Or.inl rfl | exact Or.inr rfl))) (gs_cons (g_name (pg_name (i := 7) sc_law_net.nd rfl (by first | exact Or.inl rfl | exact Or.inr rfl))) gs_nil)))))
  (ss_cons (s_set (i := 8) sc_law_net.nd rfl (by first | exact Or.inl rfl | exact Or.inr rfl) (b_add (m := false) (b_add (m := false) (e_int pe_int) (e_cb rLen_ok fLen_ok (by rfl) m_len (by decide +kernel) (a_cons (e_var (pv 6)) a_nil))) (e_cb rLen_ok fLen_ok (by rfl) m_len (by decide +kernel) (a_cons (e_var (pv 7)) a_nil))))
  (ss_cons (s_set (i := 9) sc_law_net.nd rfl (by first | exact Or.inl rfl | exact Or.inr rfl) (e_lst (m := true) a_nil))
  (ss_cons (s_for (passes_of rfl) rfl (i_range1 (by rfl) m_range (a_cons (e_callC C_law_take hr (by decide) (by rfl) (L2N.takes_of rfl rfl rfl rfl) (a_cons (e_var (pv 0)) (a_cons (b_add (m := false) (e_var (pv 3)) (e_int pe_int)) a_nil))) a_nil)) (g_name (pg_name (i := 10) sc_law_net.nd rfl (by first | exact Or.inl rfl | exact Or.inr rfl))) (ss_cons (s_par (ps_par (i := 11) (j := 12) rfl sc_law_net.nd rfl rfl (by decide) rfl rfl (a_cons (e_callC C_law_some_edge hr (by decide) (by rfl) (L2N.takes_of rfl rfl rfl rfl) (a_cons (e_var (pv 0)) (a_cons (b_add (m := false) (e_var (pv 8)) (e_var (pv 10))) a_nil))) (a_cons (e_callC C_law_some_edge hr (by decide) (by rfl) (L2N.takes_of rfl rfl rfl rfl) (a_cons (e_var (pv 0)) (a_cons (b_add (m := false) (e_var (pv 8)) (e_var (pv 10))) a_nil))) a_nil)) (by rfl)))
  (ss_one (s_expr (e_m rfl (by decide) PySem.F.plainAttrs_list PySem.F.slot_list_append PySem.F.type_list_append mt_append mAppend_ok (e_var (pv 9)) (a_cons (e_tup (a_cons (e_cb (call_min2 rfl) fMin2_ok (by rfl) m_min (by decide +kernel) (a_cons (e_var (pv 11)) (a_cons (e_var (pv 12)) a_nil))) (a_cons (e_cb (call_max2 rfl) fMax2_ok (by rfl) m_max (by decide +kernel) (a_cons (e_var (pv 11)) (a_cons (e_var (pv 12)) a_nil))) a_nil))) a_nil))))))
  (ss_cons (s_frz 9 (s_asg (e_callC C_law_ends hr (by decide) (by rfl) (L2N.takes_of rfl rfl rfl rfl) (a_cons (e_var (pv 0)) (a_cons (e_rev (m := false) rfl (e_var (pv 5))) (a_cons (e_var (pv 7)) (a_cons (b_add (m := false) (e_var (pv 8)) (e_cb rLen_ok fLen_ok (by rfl) m_len (by decide +kernel) (a_cons (e_var (pv 9)) a_nil))) (a_cons (e_var (pv 4)) a_nil)))))) (g_tup rfl rfl (gs_cons (g_name (pg_name (i := 13) sc_law_net.nd rfl (by first | exact Or.inl rfl | exact Or.inr rfl))) (gs_cons (g_name (pg_name (i := 14) sc_law_net.nd rfl (by first | exact Or.inl rfl | exact Or.inr rfl))) gs_nil)))))
  (ss_one (s_ret (e_lst (m := false) (a_cons (e_var (pv 6)) (a_cons (e_var (pv 7)) (a_cons (e_var (pv 9)) (a_cons (e_var (pv 13)) (a_cons (e_var (pv 14)) a_nil)))))))))))))
/-! is_name -/
theorem sc_is_name : FnScope ["text", "sign"] ["text"] (defScope s_is_name) := ⟨rfl, rfl, rfl, by decide +kernel, rfl, by decide +kernel, by decide +kernel⟩
theorem ok_is_name {P : Program} {w : World} {K : PySem.W.Frag} {T : List (Addr × Str)} {mg : Str → Option Value} {base : Heap} {f : Addr} {fd : FuncData} {kws : List (Str × V)} (F : FnP K "is_name" s_is_name kws f fd)
    (m_len : mg "len" = none)
    (m_all : mg "all" = none)
    (g_LONGEST : ∃ t, mg "LONGEST" = some (.int 8 t))
    (g_LETTERS : ∃ t, mg "LETTERS" = some (.str (PySem.Str.ofString "abcdefghijklmnopqrstuvwxyz") t)) :
    FnOk P w K mg base (L2N.CX P w) 1 f fd ["text"] (spOf (cfT K T) F_is_name) :=
  fn_ok (k := 0) F sc_is_name fun cdv A outer s H E hr =>
  (ss_one (s_ret (e_and (e_lt_le (e_int pe_int) (e_cb rLen_ok fLen_ok (by rfl) m_len (by decide +kernel) (a_cons (e_var (pv 0)) a_nil)) (e_int (pe_glob (by rfl) g_LONGEST.choose_spec ⟨_, rfl⟩))) (e_one (e_cb (cr_all rfl) fAll_ok (by rfl) m_all (by decide +kernel) (a_cons (e_lc (m := false) (own := [("sign", 1)]) (gt := (gName 1)) rfl sc_is_name.nd (i_seq rfl (e_var (pv 0))) (blkOk_by (by show blkC ["text", "sign"] (defScope s_is_name) _ _ = true; decide +kernel)) (fun _ _ _ _ _ => pg_name (i := 1) sc_is_name.nd rfl (by first | exact Or.inl rfl | exact Or.inr rfl)) (tg_name (by decide)) (fun _ _ _ _ _ => ts_nil) (fun _ _ _ _ _ => (e_in rfl (e_var (pv 1)) (e_str (pe_glob (by rfl) g_LETTERS.choose_spec ⟨_, rfl⟩))))) a_nil))))))
/-! need_name -/
theorem sc_need_name : FnScope ["text"] ["text"] (defScope s_need_name) := ⟨rfl, rfl, rfl, by decide +kernel, rfl, by decide +kernel, by decide +kernel⟩
theorem ok_need_name {P : Program} {w : World} {K : PySem.W.Frag} {T : List (Addr × Str)} {mg : Str → Option Value} {base : Heap} {f : Addr} {fd : FuncData} {kws : List (Str × V)} (F : FnP K "need_name" s_need_name kws f fd)
    (X_BadName : ExOwn K mg "BadName")
    (C_is_name : CallOk P w K mg base (cfT K T) "is_name" 1 F_is_name []) :
    FnOk P w K mg base (L2N.CX P w) 2 f fd ["text"] (spOf (cfT K T) F_need_name) :=
  fn_ok (k := 1) F sc_need_name fun cdv A outer s H E hr =>
  (ss_one (s_if (t_not (t_val (e_callC C_is_name hr (by decide) (by rfl) (L2N.takes_of rfl rfl rfl rfl) (a_cons (e_var (pv 0)) a_nil)))) (ss_one (s_raise rfl (L2N.takes_of rfl rfl rfl rfl) rfl X_BadName (by rfl)))
  ss_nil))
/-! need_names -/
theorem sc_need_names : FnScope ["names", "outs", "name"] ["names", "outs"] (defScope s_need_names) := ⟨rfl, rfl, rfl, by decide +kernel, rfl, by decide +kernel, by decide +kernel⟩
theorem ok_need_names {P : Program} {w : World} {K : PySem.W.Frag} {T : List (Addr × Str)} {mg : Str → Option Value} {base : Heap} {f : Addr} {fd : FuncData} {kws : List (Str × V)} (F : FnP K "need_names" s_need_names kws f fd)
    (m_len : mg "len" = none)
    (m_set : mg "set" = none)
    (X_Taken : ExOwn K mg "Taken")
    (C_need_name : CallOk P w K mg base (cfT K T) "need_name" 2 F_need_name []) :
    FnOk P w K mg base (L2N.CX P w) 3 f fd ["names", "outs"] (spOf (cfT K T) F_need_names) :=
  fn_ok (k := 2) F sc_need_names fun cdv A outer s H E hr =>
  (ss_cons (s_for (passes_of rfl) rfl (i_seq rfl (b_add (m := false) (e_var (pv 0)) (e_var (pv 1)))) (g_name (pg_name (i := 2) sc_need_names.nd rfl (by first | exact Or.inl rfl | exact Or.inr rfl))) (ss_one (s_expr (e_callC C_need_name hr (by decide) (by rfl) (L2N.takes_of rfl rfl rfl rfl) (a_cons (e_var (pv 2)) a_nil)))))
  (ss_one (s_if (PW.pt (w_or (t_lt (e_lenSet rfl rfl (by rfl) m_len (by rfl) m_set (e_var (pv 0))) (e_cb rLen_ok fLen_ok (by rfl) m_len (by decide +kernel) (a_cons (e_var (pv 0)) a_nil))) (w_or1 (t_lt (e_lenSet rfl rfl (by rfl) m_len (by rfl) m_set (e_var (pv 1))) (e_cb rLen_ok fLen_ok (by rfl) m_len (by decide +kernel) (a_cons (e_var (pv 1)) a_nil)))))) (ss_one (s_raise rfl (L2N.takes_of rfl rfl rfl rfl) rfl X_Taken (by rfl)))
  ss_nil)))
/-! Net.__init__ -/
theorem sc_Net___init__ : FnScope ["self", "inputs", "latches", "gates", "outs", "nexts", "sizes", "first", "at", "low", "high", "most", "told", "begun", "edge", "name", "some"] ["self", "inputs", "latches", "gates", "outs", "nexts"] (defScope s_Net___init__) := ⟨rfl, rfl, rfl, by decide +kernel, rfl, by decide +kernel, by decide +kernel⟩
theorem ok_Net___init__ {P : Program} {w : World} {K : PySem.W.Frag} {T : List (Addr × Str)} {mg : Str → Option Value} {base : Heap} {f : Addr} {fd : FuncData} {dvs : List V} {kws : List (Str × V)} (F : FunD K "__init__" "Net.__init__" (defArgs s_Net___init__) (defBody s_Net___init__) (defScope s_Net___init__) dvs kws f fd)
    (m_list : mg "list" = none)
    (m_len : mg "len" = none)
    (m_any : mg "any" = none)
    (m_enumerate : mg "enumerate" = none)
    (m_all : mg "all" = none)
    (g_MOST_INPUTS : ∃ t, mg "MOST_INPUTS" = some (.int 6 t))
    (g_MOST_LATCHES : ∃ t, mg "MOST_LATCHES" = some (.int 4 t))
    (g_MOST_GATES : ∃ t, mg "MOST_GATES" = some (.int 60 t))
    (g_MOST_OUTS : ∃ t, mg "MOST_OUTS" = some (.int 8 t))
    (I1_BadGate : ExIni P w K mg base (cfT K T) "BadGate" "at" 1 [])
    (X_Full : ExOwn K mg "Full")
    (X_BadStart : ExOwn K mg "BadStart")
    (X_BadEdge : ExOwn K mg "BadEdge")
    (C_need_names : CallOk P w K mg base (cfT K T) "need_names" 3 F_need_names [])
    (CC_Net : Cls K (He.ga K "Net"))
    (NA_Net_ins : NoAttr K (He.ga K "Net") "ins")
    (NA_Net_memory : NoAttr K (He.ga K "Net") "memory")
    (NA_Net_pairs : NoAttr K (He.ga K "Net") "pairs")
    (NA_Net_tells : NoAttr K (He.ga K "Net") "tells")
    (NA_Net_later : NoAttr K (He.ga K "Net") "later") :
    FnOk P w K mg base (L2N.CX P w) 4 f fd ["self", "inputs", "latches", "gates", "outs", "nexts"] (spOf (cfT K T) F_Net___init__) :=
  fn_ok (k := 3) F sc_Net___init__ fun cdv A outer s H E hr =>
  (ss_cons (s_expr (e_callC C_need_names hr (by decide) (by rfl) (L2N.takes_of rfl rfl rfl rfl) (a_cons (b_add (m := false) (e_ct call_list_of (fList_ok (m := false)) (by rfl) m_list (by decide +kernel) (a_cons (e_var (pv 1)) a_nil)) (e_lc (m := false) (own := [("name", 15), ("begun", 13)]) (gt := (gTup K 2 (gNs [15, 13]))) rfl sc_Net___init__.nd (i_seq rfl (e_var (pv 2))) (blkOk_by (by show blkC ["self", "inputs", "latches", "gates", "outs", "nexts", "sizes", "first", "at", "low", "high", "most", "told", "begun", "edge", "name", "some"] (defScope s_Net___init__) _ _ = true; decide +kernel)) (fun _ _ _ _ _ => pg_tup rfl (pgs_cons (pg_name (i := 15) sc_Net___init__.nd rfl (by first | exact Or.inl rfl | exact Or.inr rfl)) (pgs_cons (pg_name (i := 13) sc_Net___init__.nd rfl (by first | exact Or.inl rfl | exact Or.inr rfl)) pgs_nil))) (tg_tup (vs := [15, 13]) (is := [15, 13]) (by decide)) (fun _ _ _ _ _ => ts_nil) (fun _ _ _ _ _ => (e_var (pv 15))))) (a_cons (e_lc (m := false) (own := [("name", 15), ("edge", 14)]) (gt := (gTup K 2 (gNs [15, 14]))) rfl sc_Net___init__.nd (i_seq rfl (e_var (pv 4))) (blkOk_by (by show blkC ["self", "inputs", "latches", "gates", "outs", "nexts", "sizes", "first", "at", "low", "high", "most", "told", "begun", "edge", "name", "some"] (defScope s_Net___init__) _ _ = true; decide +kernel)) (fun _ _ _ _ _ => pg_tup rfl (pgs_cons (pg_name (i := 15) sc_Net___init__.nd rfl (by first | exact Or.inl rfl | exact Or.inr rfl)) (pgs_cons (pg_name (i := 14) sc_Net___init__.nd rfl (by first | exact Or.inl rfl | exact Or.inr rfl)) pgs_nil))) (tg_tup (vs := [15, 14]) (is := [15, 14]) (by decide)) (fun _ _ _ _ _ => ts_nil) (fun _ _ _ _ _ => (e_var (pv 15)))) a_nil))))
  (ss_cons (s_set (i := 6) sc_Net___init__.nd rfl (by first | exact Or.inl rfl | exact Or.inr rfl) (e_lst (m := false) (a_cons (e_tup (a_cons (e_var (pv 1)) (a_cons (e_int (pe_glob (by rfl) g_MOST_INPUTS.choose_spec ⟨_, rfl⟩)) a_nil))) (a_cons (e_tup (a_cons (e_var (pv 2)) (a_cons (e_int (pe_glob (by rfl) g_MOST_LATCHES.choose_spec ⟨_, rfl⟩)) a_nil))) (a_cons (e_tup (a_cons (e_var (pv 3)) (a_cons (e_int (pe_glob (by rfl) g_MOST_GATES.choose_spec ⟨_, rfl⟩)) a_nil))) (a_cons (e_tup (a_cons (e_var (pv 4)) (a_cons (e_int (pe_glob (by rfl) g_MOST_OUTS.choose_spec ⟨_, rfl⟩)) a_nil))) a_nil))))))
  (ss_cons (s_if (t_val (e_cb (cr_any rfl) fAny_ok (by rfl) m_any (by decide +kernel) (a_cons (e_lc (m := false) (own := [("some", 16), ("most", 11)]) (gt := (gTup K 2 (gNs [16, 11]))) rfl sc_Net___init__.nd (i_seq rfl (e_var (pv 6))) (blkOk_by (by show blkC ["self", "inputs", "latches", "gates", "outs", "nexts", "sizes", "first", "at", "low", "high", "most", "told", "begun", "edge", "name", "some"] (defScope s_Net___init__) _ _ = true; decide +kernel)) (fun _ _ _ _ _ => pg_tup rfl (pgs_cons (pg_name (i := 16) sc_Net___init__.nd rfl (by first | exact Or.inl rfl | exact Or.inr rfl)) (pgs_cons (pg_name (i := 11) sc_Net___init__.nd rfl (by first | exact Or.inl rfl | exact Or.inr rfl)) pgs_nil))) (tg_tup (vs := [16, 11]) (is := [16, 11]) (by decide)) (fun _ _ _ _ _ => ts_nil) (fun _ _ _ _ _ => (e_gt (e_cb rLen_ok fLen_ok (by rfl) m_len (by decide +kernel) (a_cons (e_var (pv 16)) a_nil)) (e_var (pv 11))))) a_nil))) (ss_one (s_raise rfl (L2N.takes_of rfl rfl rfl rfl) rfl X_Full (by rfl)))
  ss_nil)
  (ss_cons (s_if (t_val (e_cb (cr_any rfl) fAny_ok (by rfl) m_any (by decide +kernel) (a_cons (e_lc (m := false) (own := [("name", 15), ("begun", 13)]) (gt := (gTup K 2 (gNs [15, 13]))) rfl sc_Net___init__.nd (i_seq rfl (e_var (pv 2))) (blkOk_by (by show blkC ["self", "inputs", "latches", "gates", "outs", "nexts", "sizes", "first", "at", "low", "high", "most", "told", "begun", "edge", "name", "some"] (defScope s_Net___init__) _ _ = true; decide +kernel)) (fun _ _ _ _ _ => pg_tup rfl (pgs_cons (pg_name (i := 15) sc_Net___init__.nd rfl (by first | exact Or.inl rfl | exact Or.inr rfl)) (pgs_cons (pg_name (i := 13) sc_Net___init__.nd rfl (by first | exact Or.inl rfl | exact Or.inr rfl)) pgs_nil))) (tg_tup (vs := [15, 13]) (is := [15, 13]) (by decide)) (fun _ _ _ _ _ => ts_nil) (fun _ _ _ _ _ => (e_notIn rfl (e_var (pv 13)) (e_tup (a_cons (e_int pe_int) (a_cons (e_int pe_int) a_nil)))))) a_nil))) (ss_one (s_raise rfl (L2N.takes_of rfl rfl rfl rfl) rfl X_BadStart (by rfl)))
  ss_nil)
  (ss_cons (s_fld (n := "Net") rfl rfl CC_Net NA_Net_ins (e_var (pv 0)) (e_ct call_list_of (fList_ok (m := false)) (by rfl) m_list (by decide +kernel) (a_cons (e_var (pv 1)) a_nil)))
  (ss_cons (s_fld (n := "Net") rfl rfl CC_Net NA_Net_memory (e_var (pv 0)) (e_ct call_list_of (fList_ok (m := false)) (by rfl) m_list (by decide +kernel) (a_cons (e_var (pv 2)) a_nil)))
  (ss_cons (s_fld (n := "Net") rfl rfl CC_Net NA_Net_pairs (e_var (pv 0)) (e_ct call_list_of (fList_ok (m := false)) (by rfl) m_list (by decide +kernel) (a_cons (e_var (pv 3)) a_nil)))
  (ss_cons (s_fld (n := "Net") rfl rfl CC_Net NA_Net_tells (e_var (pv 0)) (e_ct call_list_of (fList_ok (m := false)) (by rfl) m_list (by decide +kernel) (a_cons (e_var (pv 4)) a_nil)))
  (ss_cons (s_fld (n := "Net") rfl rfl CC_Net NA_Net_later (e_var (pv 0)) (e_ct call_list_of (fList_ok (m := false)) (by rfl) m_list (by decide +kernel) (a_cons (e_var (pv 5)) a_nil)))
  (ss_cons (s_set (i := 7) sc_Net___init__.nd rfl (by first | exact Or.inl rfl | exact Or.inr rfl) (b_add (m := false) (b_add (m := false) (e_int pe_int) (e_cb rLen_ok fLen_ok (by rfl) m_len (by decide +kernel) (a_cons (e_fld (n := "Net") rfl rfl CC_Net NA_Net_ins (e_var (pv 0))) a_nil))) (e_cb rLen_ok fLen_ok (by rfl) m_len (by decide +kernel) (a_cons (e_fld (n := "Net") rfl rfl CC_Net NA_Net_memory (e_var (pv 0))) a_nil))))
  (ss_cons (s_for (passes_of rfl) rfl (i_enum rfl (by rfl) m_enumerate (a_cons (e_fld (n := "Net") rfl rfl CC_Net NA_Net_pairs (e_var (pv 0))) a_nil)) (g_tup rfl rfl (gs_cons (g_name (pg_name (i := 8) sc_Net___init__.nd rfl (by first | exact Or.inl rfl | exact Or.inr rfl))) (gs_cons (g_tup rfl rfl (gs_cons (g_name (pg_name (i := 9) sc_Net___init__.nd rfl (by first | exact Or.inl rfl | exact Or.inr rfl))) (gs_cons (g_name (pg_name (i := 10) sc_Net___init__.nd rfl (by first | exact Or.inl rfl | exact Or.inr rfl))) gs_nil))) gs_nil))) (ss_one (s_if (t_not (t_le_le_lt (e_int pe_int) (e_var (pv 9)) (e_var (pv 10)) (b_mul (e_int pe_int) (b_add (m := false) (e_var (pv 7)) (e_var (pv 8)))))) (ss_one (s_raiseF1 (k := 0) (fun _ => rfl) rfl (L2N.takes_of rfl rfl rfl rfl) I1_BadGate (hr.mono (by decide)) (by rfl) (a_cons (e_var (pv 8)) a_nil)))
  ss_nil)))
  (ss_cons (s_set (i := 11) sc_Net___init__.nd rfl (by first | exact Or.inl rfl | exact Or.inr rfl) (b_mul (e_int pe_int) (b_add (m := false) (e_var (pv 7)) (e_cb rLen_ok fLen_ok (by rfl) m_len (by decide +kernel) (a_cons (e_fld (n := "Net") rfl rfl CC_Net NA_Net_pairs (e_var (pv 0))) a_nil)))))
  (ss_cons (s_set (i := 12) sc_Net___init__.nd rfl (by first | exact Or.inl rfl | exact Or.inr rfl) (b_add (m := false) (e_lc (m := false) (own := [("name", 15), ("edge", 14)]) (gt := (gTup K 2 (gNs [15, 14]))) rfl sc_Net___init__.nd (i_seq rfl (e_fld (n := "Net") rfl rfl CC_Net NA_Net_tells (e_var (pv 0)))) (blkOk_by (by show blkC ["self", "inputs", "latches", "gates", "outs", "nexts", "sizes", "first", "at", "low", "high", "most", "told", "begun", "edge", "name", "some"] (defScope s_Net___init__) _ _ = true; decide +kernel)) (fun _ _ _ _ _ => pg_tup rfl (pgs_cons (pg_name (i := 15) sc_Net___init__.nd rfl (by first | exact Or.inl rfl | exact Or.inr rfl)) (pgs_cons (pg_name (i := 14) sc_Net___init__.nd rfl (by first | exact Or.inl rfl | exact Or.inr rfl)) pgs_nil))) (tg_tup (vs := [15, 14]) (is := [15, 14]) (by decide)) (fun _ _ _ _ _ => ts_nil) (fun _ _ _ _ _ => (e_var (pv 14)))) (e_fld (n := "Net") rfl rfl CC_Net NA_Net_later (e_var (pv 0)))))
  (ss_one (s_if (PW.pt (w_or (t_ne rfl hr.units (e_cb rLen_ok fLen_ok (by rfl) m_len (by decide +kernel) (a_cons (e_fld (n := "Net") rfl rfl CC_Net NA_Net_later (e_var (pv 0))) a_nil)) (e_cb rLen_ok fLen_ok (by rfl) m_len (by decide +kernel) (a_cons (e_fld (n := "Net") rfl rfl CC_Net NA_Net_memory (e_var (pv 0))) a_nil))) (w_or1 (t_not (t_val (e_cb (cr_all rfl) fAll_ok (by rfl) m_all (by decide +kernel) (a_cons (e_lc (m := false) (own := [("edge", 14)]) (gt := (gName 14)) rfl sc_Net___init__.nd (i_seq rfl (e_var (pv 12))) (blkOk_by (by show blkC ["self", "inputs", "latches", "gates", "outs", "nexts", "sizes", "first", "at", "low", "high", "most", "told", "begun", "edge", "name", "some"] (defScope s_Net___init__) _ _ = true; decide +kernel)) (fun _ _ _ _ _ => pg_name (i := 14) sc_Net___init__.nd rfl (by first | exact Or.inl rfl | exact Or.inr rfl)) (tg_name (by decide)) (fun _ _ _ _ _ => ts_nil) (fun _ _ _ _ _ => (e_le_lt (e_int pe_int) (e_var (pv 14)) (e_var (pv 11))))) a_nil))))))) (ss_one (s_raise rfl (L2N.takes_of rfl rfl rfl rfl) rfl X_BadEdge (by rfl)))
  ss_nil)))))))))))))))
/-! _law_made -/
theorem sc_law_made : FnScope ["m"] ["m"] (defScope s_law_made) := ⟨rfl, rfl, rfl, by decide +kernel, rfl, by decide +kernel, by decide +kernel⟩
theorem ok_law_made {P : Program} {w : World} {K : PySem.W.Frag} {T : List (Addr × Str)} {mg : Str → Option Value} {base : Heap} {f : Addr} {fd : FuncData} {kws : List (Str × V)} (F : FnP K "_law_made" s_law_made kws f fd)
    (m_list : mg "list" = none)
    (MK_Net : MakeOk P w K mg base (cfT K T) "Net" 4 F_Net___init__ []) :
    FnOk P w K mg base (L2N.CX P w) 6 f fd ["m"] (spOf (cfT K T) F_law_made) :=
  fn_ok (k := 5) F sc_law_made fun cdv A outer s H E hr =>
  (ss_one (s_ret (e_make (j := 5) (E := E) MK_Net hr (by decide) (L2N.passes_call (L2N.takes_of rfl rfl rfl rfl) fun _ _ _ _ h => h) (fun _ _ _ _ h => h) (by rfl) (a_cons (e_ct call_list_of (fList_ok (m := false)) (by rfl) m_list (by decide +kernel) (a_cons (e_item rfl (e_var (pv 0)) (e_int pe_int)) a_nil)) (a_cons (e_ct call_list_of (fList_ok (m := false)) (by rfl) m_list (by decide +kernel) (a_cons (e_item rfl (e_var (pv 0)) (e_int pe_int)) a_nil)) (a_cons (e_ct call_list_of (fList_ok (m := false)) (by rfl) m_list (by decide +kernel) (a_cons (e_item rfl (e_var (pv 0)) (e_int pe_int)) a_nil)) (a_cons (e_ct call_list_of (fList_ok (m := false)) (by rfl) m_list (by decide +kernel) (a_cons (e_item rfl (e_var (pv 0)) (e_int pe_int)) a_nil)) (a_cons (e_ct call_list_of (fList_ok (m := false)) (by rfl) m_list (by decide +kernel) (a_cons (e_item rfl (e_var (pv 0)) (e_int pe_int)) a_nil)) a_nil))))))))
/-! _law_bit -/
theorem sc_law_bit : FnScope ["number", "at"] ["number", "at"] (defScope s_law_bit) := ⟨rfl, rfl, rfl, by decide +kernel, rfl, by decide +kernel, by decide +kernel⟩
theorem ok_law_bit {P : Program} {w : World} {K : PySem.W.Frag} {T : List (Addr × Str)} {mg : Str → Option Value} {base : Heap} {f : Addr} {fd : FuncData} {kws : List (Str × V)} (F : FnP K "_law_bit" s_law_bit kws f fd) :
    FnOk P w K mg base (L2N.CX P w) 1 f fd ["number", "at"] (spOf (cfT K T) F_law_bit) :=
  fn_ok (k := 0) F sc_law_bit fun cdv A outer s H E hr =>
  (ss_one (s_ret (b_mod (b_div (e_var (pv 0)) (b_shl (e_int pe_int) (e_var (pv 1)))) (e_int pe_int))))
/-! _law_told -/
theorem sc_law_told : FnScope ["rows", "edge"] ["rows", "edge"] (defScope s_law_told) := ⟨rfl, rfl, rfl, by decide +kernel, rfl, by decide +kernel, by decide +kernel⟩
theorem ok_law_told {P : Program} {w : World} {K : PySem.W.Frag} {T : List (Addr × Str)} {mg : Str → Option Value} {base : Heap} {f : Addr} {fd : FuncData} {kws : List (Str × V)} (F : FnP K "_law_told" s_law_told kws f fd) :
    FnOk P w K mg base (L2N.CX P w) 1 f fd ["rows", "edge"] (spOf (cfT K T) F_law_told) :=
  fn_ok (k := 0) F sc_law_told fun cdv A outer s H E hr =>
  (ss_one (s_ret (e_if (t_eq rfl hr.units (b_mod (e_var (pv 1)) (e_int pe_int)) (e_int pe_int)) (e_item rfl (e_var (pv 0)) (b_div (e_var (pv 1)) (e_int pe_int))) (b_sub (e_int pe_int) (e_item rfl (e_var (pv 0)) (b_div (e_var (pv 1)) (e_int pe_int)))))))
/-! _law_values -/
theorem sc_law_values : FnScope ["m", "row", "rows", "at", "low", "high"] ["m", "row"] (defScope s_law_values) := ⟨rfl, rfl, rfl, by decide +kernel, rfl, by decide +kernel, by decide +kernel⟩
theorem ok_law_values {P : Program} {w : World} {K : PySem.W.Frag} {T : List (Addr × Str)} {mg : Str → Option Value} {base : Heap} {f : Addr} {fd : FuncData} {kws : List (Str × V)} (F : FnP K "_law_values" s_law_values kws f fd)
    (m_len : mg "len" = none)
    (m_range : mg "range" = none)
    (C_law_bit : CallOk P w K mg base (cfT K T) "_law_bit" 1 F_law_bit [])
    (C_law_told : CallOk P w K mg base (cfT K T) "_law_told" 1 F_law_told []) :
    FnOk P w K mg base (L2N.CX P w) 2 f fd ["m", "row"] (spOf (cfT K T) F_law_values) :=
  fn_ok (k := 1) F sc_law_values fun cdv A outer s H E hr =>
  (ss_cons (s_set (i := 2) sc_law_values.nd rfl (by first | exact Or.inl rfl | exact Or.inr rfl) (e_lst (m := true) (a_cons (e_int pe_int) a_nil)))
  (ss_cons (s_for (passes_of rfl) rfl (i_range1 (by rfl) m_range (a_cons (b_add (m := false) (e_cb rLen_ok fLen_ok (by rfl) m_len (by decide +kernel) (a_cons (e_item rfl (e_var (pv 0)) (e_int pe_int)) a_nil)) (e_cb rLen_ok fLen_ok (by rfl) m_len (by decide +kernel) (a_cons (e_item rfl (e_var (pv 0)) (e_int pe_int)) a_nil))) a_nil)) (g_name (pg_name (i := 3) sc_law_values.nd rfl (by first | exact Or.inl rfl | exact Or.inr rfl))) (ss_one (s_expr (e_m rfl (by decide) PySem.F.plainAttrs_list PySem.F.slot_list_append PySem.F.type_list_append mt_append mAppend_ok (e_var (pv 2)) (a_cons (e_callC C_law_bit hr (by decide) (by rfl) (L2N.takes_of rfl rfl rfl rfl) (a_cons (e_var (pv 1)) (a_cons (e_var (pv 3)) a_nil))) a_nil)))))
  (ss_cons (s_for (passes_of rfl) rfl (i_seq rfl (e_item rfl (e_var (pv 0)) (e_int pe_int))) (g_tup rfl rfl (gs_cons (g_name (pg_name (i := 4) sc_law_values.nd rfl (by first | exact Or.inl rfl | exact Or.inr rfl))) (gs_cons (g_name (pg_name (i := 5) sc_law_values.nd rfl (by first | exact Or.inl rfl | exact Or.inr rfl))) gs_nil))) (ss_one (s_expr (e_m rfl (by decide) PySem.F.plainAttrs_list PySem.F.slot_list_append PySem.F.type_list_append mt_append mAppend_ok (e_var (pv 2)) (a_cons (b_mul (e_pure C_law_told hr (by decide) (by rfl) (L2N.takes_of rfl rfl rfl rfl) (a_cons (e_var (pv 2)) (a_cons (e_var (pv 4)) a_nil))) (e_pure C_law_told hr (by decide) (by rfl) (L2N.takes_of rfl rfl rfl rfl) (a_cons (e_var (pv 2)) (a_cons (e_var (pv 5)) a_nil)))) a_nil)))))
  (ss_one (s_ret (e_var (pv 2)))))))
/-! _law_things -/
theorem sc_law_things : FnScope ["m"] ["m"] (defScope s_law_things) := ⟨rfl, rfl, rfl, by decide +kernel, rfl, by decide +kernel, by decide +kernel⟩
theorem ok_law_things {P : Program} {w : World} {K : PySem.W.Frag} {T : List (Addr × Str)} {mg : Str → Option Value} {base : Heap} {f : Addr} {fd : FuncData} {kws : List (Str × V)} (F : FnP K "_law_things" s_law_things kws f fd)
    (m_len : mg "len" = none) :
    FnOk P w K mg base (L2N.CX P w) 1 f fd ["m"] (spOf (cfT K T) F_law_things) :=
  fn_ok (k := 0) F sc_law_things fun cdv A outer s H E hr =>
  (ss_one (s_ret (b_add (m := false) (e_cb rLen_ok fLen_ok (by rfl) m_len (by decide +kernel) (a_cons (e_item rfl (e_var (pv 0)) (e_int pe_int)) a_nil)) (e_cb rLen_ok fLen_ok (by rfl) m_len (by decide +kernel) (a_cons (e_item rfl (e_var (pv 0)) (e_int pe_int)) a_nil)))))
/-! _law_tables -/
theorem sc_law_tables : FnScope ["m", "found", "row", "rows", "at"] ["m"] (defScope s_law_tables) := ⟨rfl, rfl, rfl, by decide +kernel, rfl, by decide +kernel, by decide +kernel⟩
theorem ok_law_tables {P : Program} {w : World} {K : PySem.W.Frag} {T : List (Addr × Str)} {mg : Str → Option Value} {base : Heap} {f : Addr} {fd : FuncData} {kws : List (Str × V)} (F : FnP K "_law_tables" s_law_tables kws f fd)
    (m_len : mg "len" = none)
    (m_range : mg "range" = none)
    (C_law_things : CallOk P w K mg base (cfT K T) "_law_things" 1 F_law_things [])
    (C_law_values : CallOk P w K mg base (cfT K T) "_law_values" 2 F_law_values []) :
    FnOk P w K mg base (L2N.CX P w) 3 f fd ["m"] (spOf (cfT K T) F_law_tables) :=
  fn_ok (k := 2) F sc_law_tables fun cdv A outer s H E hr =>
  (ss_cons (s_set (i := 1) sc_law_tables.nd rfl (by first | exact Or.inl rfl | exact Or.inr rfl) (b_rep (m := false) (e_lst (m := false) (a_cons (e_int pe_int) a_nil)) (b_add (m := false) (b_add (m := false) (e_int pe_int) (e_callC C_law_things hr (by decide) (by rfl) (L2N.takes_of rfl rfl rfl rfl) (a_cons (e_var (pv 0)) a_nil))) (e_cb rLen_ok fLen_ok (by rfl) m_len (by decide +kernel) (a_cons (e_item rfl (e_var (pv 0)) (e_int pe_int)) a_nil)))))
  (ss_cons (s_for (passes_of rfl) rfl (i_range1 (by rfl) m_range (a_cons (b_shl (e_int pe_int) (e_callC C_law_things hr (by decide) (by rfl) (L2N.takes_of rfl rfl rfl rfl) (a_cons (e_var (pv 0)) a_nil))) a_nil)) (g_name (pg_name (i := 2) sc_law_tables.nd rfl (by first | exact Or.inl rfl | exact Or.inr rfl))) (ss_cons (s_set (i := 3) sc_law_tables.nd rfl (by first | exact Or.inl rfl | exact Or.inr rfl) (e_fz (e_callC C_law_values hr (by decide) (by rfl) (L2N.takes_of rfl rfl rfl rfl) (a_cons (e_var (pv 0)) (a_cons (e_var (pv 2)) a_nil)))))
  (ss_one (s_set (i := 1) sc_law_tables.nd rfl (by first | exact Or.inl rfl | exact Or.inr rfl) (e_lc (m := false) (own := [("at", 4)]) (gt := (gName 4)) rfl sc_law_tables.nd (i_range1 (by rfl) m_range (a_cons (e_cb rLen_ok fLen_ok (by rfl) m_len (by decide +kernel) (a_cons (e_var (pv 1)) a_nil)) a_nil)) (blkOk_by (by show blkC ["m", "found", "row", "rows", "at"] (defScope s_law_tables) _ _ = true; decide +kernel)) (fun _ _ _ _ _ => pg_name (i := 4) sc_law_tables.nd rfl (by first | exact Or.inl rfl | exact Or.inr rfl)) (tg_name (by decide)) (fun _ _ _ _ _ => ts_nil) (fun _ _ _ _ _ => (b_add (m := false) (e_item rfl (e_var (pv 1)) (e_var (pv 4))) (b_mul (e_item rfl (e_var (pv 3)) (e_var (pv 4))) (b_shl (e_int pe_int) (e_var (pv 2)))))))))))
  (ss_one (s_ret (e_var (pv 1))))))
/-! _law_far -/
theorem sc_law_far : FnScope ["box", "least", "far"] ["box", "least"] (defScope s_law_far) := ⟨rfl, rfl, rfl, by decide +kernel, rfl, by decide +kernel, by decide +kernel⟩
theorem ok_law_far {P : Program} {w : World} {K : PySem.W.Frag} {T : List (Addr × Str)} {mg : Str → Option Value} {base : Heap} {f : Addr} {fd : FuncData} {kws : List (Str × V)} (F : FnP K "_law_far" s_law_far kws f fd)
    (C_law_take : CallOk P w K mg base (cfT K T) "_law_take" 1 F_law_take []) :
    FnOk P w K mg base (L2N.CX P w) 2 f fd ["box", "least"] (spOf (cfT K T) F_law_far) :=
  fn_ok (k := 1) F sc_law_far fun cdv A outer s H E hr =>
  (ss_cons (s_set (i := 2) sc_law_far.nd rfl (by first | exact Or.inl rfl | exact Or.inr rfl) (b_add (m := false) (b_pow (e_int pe_int) (e_int pe_int)) (e_callC C_law_take hr (by decide) (by rfl) (L2N.takes_of rfl rfl rfl rfl) (a_cons (e_var (pv 0)) (a_cons (e_int pe_int) a_nil)))))
  (ss_one (s_ret (e_item rfl (e_lst (m := false) (a_cons (e_var (pv 1)) (a_cons (b_add (m := false) (e_var (pv 1)) (e_int pe_int)) (a_cons (b_add (m := false) (e_var (pv 1)) (e_callC C_law_take hr (by decide) (by rfl) (L2N.takes_of rfl rfl rfl rfl) (a_cons (e_var (pv 0)) (a_cons (e_int pe_int) a_nil)))) (a_cons (e_var (pv 2)) (a_cons (e_neg (e_int pe_int)) (a_cons (e_neg (e_var (pv 2))) a_nil))))))) (e_callC C_law_take hr (by decide) (by rfl) (L2N.takes_of rfl rfl rfl rfl) (a_cons (e_var (pv 0)) (a_cons (e_int pe_int) a_nil)))))))
/-! Net.things -/
theorem sc_Net_things : FnScope ["self"] ["self"] (defScope s_Net_things) := ⟨rfl, rfl, rfl, by decide +kernel, rfl, by decide +kernel, by decide +kernel⟩
theorem ok_Net_things {P : Program} {w : World} {K : PySem.W.Frag} {T : List (Addr × Str)} {mg : Str → Option Value} {base : Heap} {f : Addr} {fd : FuncData} {dvs : List V} {kws : List (Str × V)} (F : FunD K "things" "Net.things" (defArgs s_Net_things) (defBody s_Net_things) (defScope s_Net_things) dvs kws f fd)
    (m_len : mg "len" = none)
    (CC_Net : Cls K (He.ga K "Net"))
    (NA_Net_ins : NoAttr K (He.ga K "Net") "ins")
    (NA_Net_memory : NoAttr K (He.ga K "Net") "memory") :
    FnOk P w K mg base (L2N.CX P w) 1 f fd ["self"] (spOf (cfT K T) F_Net_things) :=
  fn_ok (k := 0) F sc_Net_things fun cdv A outer s H E hr =>
  (ss_one (s_ret (b_add (m := false) (e_cb rLen_ok fLen_ok (by rfl) m_len (by decide +kernel) (a_cons (e_fld (n := "Net") rfl rfl CC_Net NA_Net_ins (e_var (pv 0))) a_nil)) (e_cb rLen_ok fLen_ok (by rfl) m_len (by decide +kernel) (a_cons (e_fld (n := "Net") rfl rfl CC_Net NA_Net_memory (e_var (pv 0))) a_nil)))))
/-! full_of -/
theorem sc_full_of : FnScope ["things"] ["things"] (defScope s_full_of) := ⟨rfl, rfl, rfl, by decide +kernel, rfl, by decide +kernel, by decide +kernel⟩
theorem ok_full_of {P : Program} {w : World} {K : PySem.W.Frag} {T : List (Addr × Str)} {mg : Str → Option Value} {base : Heap} {f : Addr} {fd : FuncData} {kws : List (Str × V)} (F : FnP K "full_of" s_full_of kws f fd) :
    FnOk P w K mg base (L2N.CX P w) 1 f fd ["things"] (spOf (cfT K T) F_full_of) :=
  fn_ok (k := 0) F sc_full_of fun cdv A outer s H E hr =>
  (ss_one (s_ret (b_sub (b_shl (e_int pe_int) (b_shl (e_int pe_int) (e_var (pv 0)))) (e_int pe_int))))
/-! Net.gates -/
theorem sc_Net_gates : FnScope ["self"] ["self"] (defScope s_Net_gates) := ⟨rfl, rfl, rfl, by decide +kernel, rfl, by decide +kernel, by decide +kernel⟩
theorem ok_Net_gates {P : Program} {w : World} {K : PySem.W.Frag} {T : List (Addr × Str)} {mg : Str → Option Value} {base : Heap} {f : Addr} {fd : FuncData} {dvs : List V} {kws : List (Str × V)} (F : FunD K "gates" "Net.gates" (defArgs s_Net_gates) (defBody s_Net_gates) (defScope s_Net_gates) dvs kws f fd)
    (m_list : mg "list" = none)
    (CC_Net : Cls K (He.ga K "Net"))
    (NA_Net_pairs : NoAttr K (He.ga K "Net") "pairs") :
    FnOk P w K mg base (L2N.CX P w) 1 f fd ["self"] (spOf (cfT K T) F_Net_gates) :=
  fn_ok (k := 0) F sc_Net_gates fun cdv A outer s H E hr =>
  (ss_one (s_ret (e_ct call_list_of (fList_ok (m := true)) (by rfl) m_list (by decide +kernel) (a_cons (e_fld (n := "Net") rfl rfl CC_Net NA_Net_pairs (e_var (pv 0))) a_nil))))
/-! column_of -/
theorem sc_column_of : FnScope ["things", "at", "wide", "found", "size"] ["things", "at"] (defScope s_column_of) := ⟨rfl, rfl, rfl, by decide +kernel, rfl, by decide +kernel, by decide +kernel⟩
theorem ok_column_of {P : Program} {w : World} {K : PySem.W.Frag} {T : List (Addr × Str)} {mg : Str → Option Value} {base : Heap} {f : Addr} {fd : FuncData} {kws : List (Str × V)} (F : FnP K "column_of" s_column_of kws f fd) :
    FnOk P w K mg base (L2N.CX P w) 1 f fd ["things", "at"] (spOf (cfT K T) F_column_of) :=
  fn_ok (k := 0) F sc_column_of fun cdv A outer s H E hr =>
  (ss_cons (s_set (i := 2) sc_column_of.nd rfl (by first | exact Or.inl rfl | exact Or.inr rfl) (b_shl (e_int pe_int) (e_var (pv 1))))
  (ss_cons (s_set (i := 3) sc_column_of.nd rfl (by first | exact Or.inl rfl | exact Or.inr rfl) (b_shl (b_sub (b_shl (e_int pe_int) (e_var (pv 2))) (e_int pe_int)) (e_var (pv 2))))
  (ss_cons (s_set (i := 4) sc_column_of.nd rfl (by first | exact Or.inl rfl | exact Or.inr rfl) (b_mul (e_int pe_int) (e_var (pv 2))))
  (ss_cons (s_while fuel (passes_of rfl) (t_lt (e_var (pv 4)) (b_shl (e_int pe_int) (e_var (pv 0)))) (ss_cons (s_aug (i := 3) sc_column_of.nd rfl (by first | exact Or.inl rfl | exact Or.inr rfl) iop_or iop0_ok (b_shl (e_var (pv 3)) (e_var (pv 4))))
  (ss_one (s_aug (i := 4) sc_column_of.nd rfl (by first | exact Or.inl rfl | exact Or.inr rfl) iop_shlW (iop_ok gShl_ok) (e_int pe_int)))))
  (ss_one (s_ret (e_var (pv 3))))))))
/-! signed -/
theorem sc_signed : FnScope ["rows", "edge", "whole"] ["rows", "edge", "whole"] (defScope s_signed) := ⟨rfl, rfl, rfl, by decide +kernel, rfl, by decide +kernel, by decide +kernel⟩
theorem ok_signed {P : Program} {w : World} {K : PySem.W.Frag} {T : List (Addr × Str)} {mg : Str → Option Value} {base : Heap} {f : Addr} {fd : FuncData} {kws : List (Str × V)} (F : FnP K "signed" s_signed kws f fd) :
    FnOk P w K mg base (L2N.CX P w) 1 f fd ["rows", "edge", "whole"] (spOf (cfT K T) F_signed) :=
  fn_ok (k := 0) F sc_signed fun cdv A outer s H E hr =>
  (ss_one (s_ret (b_xor (e_item rfl (e_var (pv 0)) (b_shr (e_var (pv 1)) (e_int pe_int))) (e_if (t_tru (b_and (e_var (pv 1)) (e_int pe_int))) (e_var (pv 2)) (e_int pe_int)))))
/-! tables_of -/
theorem sc_tables_of : FnScope ["net", "things", "whole", "found", "low", "high", "at"] ["net"] (defScope s_tables_of) := ⟨rfl, rfl, rfl, by decide +kernel, rfl, by decide +kernel, by decide +kernel⟩
theorem ok_tables_of {P : Program} {w : World} {K : PySem.W.Frag} {T : List (Addr × Str)} {mg : Str → Option Value} {base : Heap} {f : Addr} {fd : FuncData} {kws : List (Str × V)} (F : FnP K "tables_of" s_tables_of kws f fd)
    (m_range : mg "range" = none)
    (C_full_of : CallOk P w K mg base (cfT K T) "full_of" 1 F_full_of [])
    (C_column_of : CallOk P w K mg base (cfT K T) "column_of" 1 F_column_of [])
    (C_signed : CallOk P w K mg base (cfT K T) "signed" 1 F_signed [])
    (M_Net_things : MethOk P w K mg base (cfT K T) "Net" "things" 1 F_Net_things [])
    (M_Net_gates : MethOk P w K mg base (cfT K T) "Net" "gates" 1 F_Net_gates []) :
    FnOk P w K mg base (L2N.CX P w) 2 f fd ["net"] (spOf (cfT K T) F_tables_of) :=
  fn_ok (k := 1) F sc_tables_of fun cdv A outer s H E hr =>
  (ss_cons (s_set (i := 1) sc_tables_of.nd rfl (by first | exact Or.inl rfl | exact Or.inr rfl) (e_meth0 (j := 1) (E := E) M_Net_things hr (by decide) (L2N.passes_call (L2N.takes_of rfl rfl rfl rfl) fun _ _ _ _ h => h) (fun _ _ _ _ h => h) (e_var (pv 0))))
  (ss_cons (s_set (i := 2) sc_tables_of.nd rfl (by first | exact Or.inl rfl | exact Or.inr rfl) (e_callC C_full_of hr (by decide) (by rfl) (L2N.takes_of rfl rfl rfl rfl) (a_cons (e_var (pv 1)) a_nil)))
  (ss_cons (s_set (i := 3) sc_tables_of.nd rfl (by first | exact Or.inl rfl | exact Or.inr rfl) (b_add (m := true) (e_lst (m := false) (a_cons (e_int pe_int) a_nil)) (e_lc (m := false) (own := [("at", 6)]) (gt := (gName 6)) rfl sc_tables_of.nd (i_range1 (by rfl) m_range (a_cons (e_var (pv 1)) a_nil)) (blkOk_by (by show blkC ["net", "things", "whole", "found", "low", "high", "at"] (defScope s_tables_of) _ _ = true; decide +kernel)) (fun _ _ _ _ _ => pg_name (i := 6) sc_tables_of.nd rfl (by first | exact Or.inl rfl | exact Or.inr rfl)) (tg_name (by decide)) (fun _ _ _ _ _ => ts_nil) (fun _ _ _ _ _ => (e_callC C_column_of hr (by decide) (by rfl) no_tk (a_cons (e_var (pv 1)) (a_cons (e_var (pv 6)) a_nil)))))))
  (ss_cons (s_for (passes_of rfl) rfl (i_seq rfl (e_fz (e_meth0 (j := 1) (E := E) M_Net_gates hr (by decide) (L2N.passes_call (L2N.takes_of rfl rfl rfl rfl) fun _ _ _ _ h => h) (fun _ _ _ _ h => h) (e_var (pv 0))))) (g_tup rfl rfl (gs_cons (g_name (pg_name (i := 4) sc_tables_of.nd rfl (by first | exact Or.inl rfl | exact Or.inr rfl))) (gs_cons (g_name (pg_name (i := 5) sc_tables_of.nd rfl (by first | exact Or.inl rfl | exact Or.inr rfl))) gs_nil))) (ss_one (s_expr (e_m rfl (by decide) PySem.F.plainAttrs_list PySem.F.slot_list_append PySem.F.type_list_append mt_append mAppend_ok (e_var (pv 3)) (a_cons (b_and (e_pure C_signed hr (by decide) (by rfl) (L2N.takes_of rfl rfl rfl rfl) (a_cons (e_var (pv 3)) (a_cons (e_var (pv 4)) (a_cons (e_var (pv 2)) a_nil)))) (e_pure C_signed hr (by decide) (by rfl) (L2N.takes_of rfl rfl rfl rfl) (a_cons (e_var (pv 3)) (a_cons (e_var (pv 5)) (a_cons (e_var (pv 2)) a_nil))))) a_nil)))))
  (ss_one (s_ret (e_var (pv 3))))))))
/-! tables -/
theorem sc_tables : FnScope ["net"] ["net"] (defScope s_tables) := ⟨rfl, rfl, rfl, by decide +kernel, rfl, by decide +kernel, by decide +kernel⟩
theorem ok_tables {P : Program} {w : World} {K : PySem.W.Frag} {T : List (Addr × Str)} {mg : Str → Option Value} {base : Heap} {f : Addr} {fd : FuncData} {kws : List (Str × V)} (F : FnP K "tables" s_tables kws f fd)
    (C_tables_of : CallOk P w K mg base (cfT K T) "tables_of" 2 F_tables_of []) :
    FnOk P w K mg base (L2N.CX P w) 3 f fd ["net"] (spOf (cfT K T) F_tables) :=
  fn_ok (k := 2) F sc_tables fun cdv A outer s H E hr =>
  (ss_one (s_ret (e_callC C_tables_of hr (by decide) (by rfl) (L2N.takes_of rfl rfl rfl rfl) (a_cons (e_var (pv 0)) a_nil))))
/-! _law_same -/
theorem sc_law_same : FnScope ["found", "due", "one", "other"] ["found", "due"] (defScope s_law_same) := ⟨rfl, rfl, rfl, by decide +kernel, rfl, by decide +kernel, by decide +kernel⟩
theorem ok_law_same {P : Program} {w : World} {K : PySem.W.Frag} {T : List (Addr × Str)} {mg : Str → Option Value} {base : Heap} {f : Addr} {fd : FuncData} {kws : List (Str × V)} (F : FnP K "_law_same" s_law_same kws f fd)
    (m_list : mg "list" = none)
    (m_tuple : mg "tuple" = none)
    (m_isinstance : mg "isinstance" = none)
    (m_len : mg "len" = none)
    (m_zip : mg "zip" = none)
    (m_all : mg "all" = none)
    (m_bool : mg "bool" = none)
    (m_int : mg "int" = none)
    (m_str : mg "str" = none)
    (gl : mg "_law_same" = some (.ref f)) :
    ∀ n : Nat, FnOk P w K mg base (L2N.CX P w) (0 + n) f fd ["found", "due"] (spOf (cfT K T) (F_law_same n))
  | 0 => fnOk_no
  | n + 1 => fn_ok (k := 0 + n) F sc_law_same fun cdv A outer s H E hr =>
    have C_law_same : CallOk P w K mg base (cfT K T) "_law_same" (0 + n) (F_law_same n) [] := callOk_of F gl (ok_law_same F m_list m_tuple m_isinstance m_len m_zip m_all m_bool m_int m_str gl n) fun _ _ _ _ _ _ us hl => match us, hl with | [_, _], _ => rfl
    (ss_cons (s_if (PW.pt (w_or (t_isN (e_var (pv 1)) (e_non pe_non)) (w_or1 (t_isN (e_var (pv 0)) (e_non pe_non))))) (ss_one (s_ret (e_and (e_isN (e_var (pv 0)) (e_non pe_non)) (e_one (e_isN (e_var (pv 1)) (e_non pe_non))))))
  ss_nil)
  (ss_cons (s_if (PW.pt (w_or (t_val (e_is2 rfl (by rfl) m_isinstance (by decide +kernel) (e_var (pv 1)) (pe_bltn (v := .ty "list") (by rfl) m_list (by decide +kernel) rfl) (pe_bltn (v := .ty "tuple") (by rfl) m_tuple (by decide +kernel) rfl))) (w_or1 (t_val (e_is2 rfl (by rfl) m_isinstance (by decide +kernel) (e_var (pv 0)) (pe_bltn (v := .ty "list") (by rfl) m_list (by decide +kernel) rfl) (pe_bltn (v := .ty "tuple") (by rfl) m_tuple (by decide +kernel) rfl)))))) (ss_cons (s_if (t_ne rfl hr.units (e_cb call_isi fIsi_ok (by rfl) m_isinstance (by decide +kernel) (a_cons (e_var (pv 0)) (a_cons (e_bty (by rfl) m_list (by decide +kernel)) a_nil))) (e_cb call_isi fIsi_ok (by rfl) m_isinstance (by decide +kernel) (a_cons (e_var (pv 1)) (a_cons (e_bty (by rfl) m_list (by decide +kernel)) a_nil)))) (ss_one (s_ret (e_bl pe_bl)))
  ss_nil)
  (ss_cons (s_if (PW.pt (w_or (t_ne rfl hr.units (e_cb call_isi fIsi_ok (by rfl) m_isinstance (by decide +kernel) (a_cons (e_var (pv 0)) (a_cons (e_bty (by rfl) m_tuple (by decide +kernel)) a_nil))) (e_cb call_isi fIsi_ok (by rfl) m_isinstance (by decide +kernel) (a_cons (e_var (pv 1)) (a_cons (e_bty (by rfl) m_tuple (by decide +kernel)) a_nil)))) (w_or1 (t_ne rfl hr.units (e_cb rLen_ok fLen_ok (by rfl) m_len (by decide +kernel) (a_cons (e_var (pv 0)) a_nil)) (e_cb rLen_ok fLen_ok (by rfl) m_len (by decide +kernel) (a_cons (e_var (pv 1)) a_nil)))))) (ss_one (s_ret (e_bl pe_bl)))
  ss_nil)
  (ss_one (s_ret (e_cb (cr_all rfl) fAll_ok (by rfl) m_all (by decide +kernel) (a_cons (e_lc (m := false) (own := [("one", 2), ("other", 3)]) (gt := (gTup K 2 (gNs [2, 3]))) rfl sc_law_same.nd (i_zipA rfl (RZ.pi_zipA (by rfl) m_zip) (a_cons (e_var (pv 0)) (a_cons (e_var (pv 1)) a_nil))) (blkOk_by (by show blkC ["found", "due", "one", "other"] (defScope s_law_same) _ _ = true; decide +kernel)) (fun _ _ _ _ _ => pg_tup rfl (pgs_cons (pg_name (i := 2) sc_law_same.nd rfl (by first | exact Or.inl rfl | exact Or.inr rfl)) (pgs_cons (pg_name (i := 3) sc_law_same.nd rfl (by first | exact Or.inl rfl | exact Or.inr rfl)) pgs_nil))) (tg_tup (vs := [2, 3]) (is := [2, 3]) (by decide)) (fun _ _ _ _ _ => ts_nil) (fun _ _ _ _ _ => (e_callC C_law_same hr (by omega) (by rfl) no_tk (a_cons (e_var (pv 2)) (a_cons (e_var (pv 3)) a_nil))))) a_nil))))))
  ss_nil)
  (ss_cons (s_if (t_ne rfl hr.units (e_cb call_isi fIsi_ok (by rfl) m_isinstance (by decide +kernel) (a_cons (e_var (pv 1)) (a_cons (e_bty (by rfl) m_bool (by decide +kernel)) a_nil))) (e_cb call_isi fIsi_ok (by rfl) m_isinstance (by decide +kernel) (a_cons (e_var (pv 0)) (a_cons (e_bty (by rfl) m_bool (by decide +kernel)) a_nil)))) (ss_one (s_ret (e_bl pe_bl)))
  ss_nil)
  (ss_cons (s_if (t_ne rfl hr.units (e_cb call_isi fIsi_ok (by rfl) m_isinstance (by decide +kernel) (a_cons (e_var (pv 1)) (a_cons (e_bty (by rfl) m_int (by decide +kernel)) a_nil))) (e_cb call_isi fIsi_ok (by rfl) m_isinstance (by decide +kernel) (a_cons (e_var (pv 0)) (a_cons (e_bty (by rfl) m_int (by decide +kernel)) a_nil)))) (ss_one (s_ret (e_bl pe_bl)))
  ss_nil)
  (ss_one (s_ret (e_and (e_eq rfl hr.units (e_cb call_isi fIsi_ok (by rfl) m_isinstance (by decide +kernel) (a_cons (e_var (pv 1)) (a_cons (e_bty (by rfl) m_str (by decide +kernel)) a_nil))) (e_cb call_isi fIsi_ok (by rfl) m_isinstance (by decide +kernel) (a_cons (e_var (pv 0)) (a_cons (e_bty (by rfl) m_str (by decide +kernel)) a_nil)))) (e_one (e_eq rfl hr.units (e_var (pv 0)) (e_var (pv 1)))))))))))
/-! Net.many -/
theorem sc_Net_many : FnScope ["self"] ["self"] (defScope s_Net_many) := ⟨rfl, rfl, rfl, by decide +kernel, rfl, by decide +kernel, by decide +kernel⟩
theorem ok_Net_many {P : Program} {w : World} {K : PySem.W.Frag} {T : List (Addr × Str)} {mg : Str → Option Value} {base : Heap} {f : Addr} {fd : FuncData} {dvs : List V} {kws : List (Str × V)} (F : FunD K "many" "Net.many" (defArgs s_Net_many) (defBody s_Net_many) (defScope s_Net_many) dvs kws f fd)
    (m_len : mg "len" = none)
    (CC_Net : Cls K (He.ga K "Net"))
    (NA_Net_pairs : NoAttr K (He.ga K "Net") "pairs")
    (M_Net_things : MethOk P w K mg base (cfT K T) "Net" "things" 1 F_Net_things []) :
    FnOk P w K mg base (L2N.CX P w) 2 f fd ["self"] (spOf (cfT K T) F_Net_many) :=
  fn_ok (k := 1) F sc_Net_many fun cdv A outer s H E hr =>
  (ss_one (s_ret (b_add (m := false) (b_add (m := false) (e_int pe_int) (e_meth0 (j := 1) (E := E) M_Net_things hr (by decide) (L2N.passes_call (L2N.takes_of rfl rfl rfl rfl) fun _ _ _ _ h => h) (fun _ _ _ _ h => h) (e_var (pv 0)))) (e_cb rLen_ok fLen_ok (by rfl) m_len (by decide +kernel) (a_cons (e_fld (n := "Net") rfl rfl CC_Net NA_Net_pairs (e_var (pv 0))) a_nil)))))
/-! need_edge -/
theorem sc_need_edge : FnScope ["net", "edge"] ["net", "edge"] (defScope s_need_edge) := ⟨rfl, rfl, rfl, by decide +kernel, rfl, by decide +kernel, by decide +kernel⟩
theorem ok_need_edge {P : Program} {w : World} {K : PySem.W.Frag} {T : List (Addr × Str)} {mg : Str → Option Value} {base : Heap} {f : Addr} {fd : FuncData} {kws : List (Str × V)} (F : FnP K "need_edge" s_need_edge kws f fd)
    (X_BadEdge : ExOwn K mg "BadEdge")
    (M_Net_many : MethOk P w K mg base (cfT K T) "Net" "many" 2 F_Net_many []) :
    FnOk P w K mg base (L2N.CX P w) 3 f fd ["net", "edge"] (spOf (cfT K T) F_need_edge) :=
  fn_ok (k := 2) F sc_need_edge fun cdv A outer s H E hr =>
  (ss_one (s_if (t_not (t_le_lt (e_int pe_int) (e_var (pv 1)) (b_mul (e_int pe_int) (e_meth0 (j := 2) (E := E) M_Net_many hr (by decide) (L2N.passes_call (L2N.takes_of rfl rfl rfl rfl) fun _ _ _ _ h => h) (fun _ _ _ _ h => h) (e_var (pv 0)))))) (ss_one (s_raise rfl (L2N.takes_of rfl rfl rfl rfl) rfl X_BadEdge (by rfl)))
  ss_nil))
/-! edge_table -/
theorem sc_edge_table : FnScope ["net", "edge"] ["net", "edge"] (defScope s_edge_table) := ⟨rfl, rfl, rfl, by decide +kernel, rfl, by decide +kernel, by decide +kernel⟩
theorem ok_edge_table {P : Program} {w : World} {K : PySem.W.Frag} {T : List (Addr × Str)} {mg : Str → Option Value} {base : Heap} {f : Addr} {fd : FuncData} {kws : List (Str × V)} (F : FnP K "edge_table" s_edge_table kws f fd)
    (C_need_edge : CallOk P w K mg base (cfT K T) "need_edge" 3 F_need_edge [])
    (C_tables_of : CallOk P w K mg base (cfT K T) "tables_of" 2 F_tables_of [])
    (C_full_of : CallOk P w K mg base (cfT K T) "full_of" 1 F_full_of [])
    (C_signed : CallOk P w K mg base (cfT K T) "signed" 1 F_signed [])
    (M_Net_things : MethOk P w K mg base (cfT K T) "Net" "things" 1 F_Net_things []) :
    FnOk P w K mg base (L2N.CX P w) 4 f fd ["net", "edge"] (spOf (cfT K T) F_edge_table) :=
  fn_ok (k := 3) F sc_edge_table fun cdv A outer s H E hr =>
  (ss_cons (s_expr (e_callC C_need_edge hr (by decide) (by rfl) (L2N.takes_of rfl rfl rfl rfl) (a_cons (e_var (pv 0)) (a_cons (e_var (pv 1)) a_nil))))
  (ss_one (s_ret (e_callC C_signed hr (by decide) (by rfl) (L2N.takes_of rfl rfl rfl rfl) (a_cons (e_fz (e_callC C_tables_of hr (by decide) (by rfl) (L2N.takes_of rfl rfl rfl rfl) (a_cons (e_var (pv 0)) a_nil))) (a_cons (e_var (pv 1)) (a_cons (e_callC C_full_of hr (by decide) (by rfl) (L2N.takes_of rfl rfl rfl rfl) (a_cons (e_meth0 (j := 3) (E := E) M_Net_things hr (by decide) (L2N.passes_call (L2N.takes_of rfl rfl rfl rfl) fun _ _ _ _ h => h) (fun _ _ _ _ h => h) (e_var (pv 0))) a_nil)) a_nil)))))))
/-! _law_kin -/
theorem sc_law_kin : FnScope ["e", "words", "some", "found", "so", "word"] ["e"] (defScope s_law_kin) := ⟨rfl, rfl, rfl, by decide +kernel, rfl, by decide +kernel, by decide +kernel⟩
theorem okX_law_kin {P : Program} {w : World} {K : PySem.W.Frag} {T : List (Addr × Str)} {mg : Str → Option Value} {base : Heap} {f : Addr} {fd : FuncData} {kws : List (Str × V)} (F : FnP K "_law_kin" s_law_kin kws f fd)
    (m_isinstance : mg "isinstance" = none)
    (m_zip : mg "zip" = none)
    (m_ValueError : mg "ValueError" = none)
    (m_LookupError : mg "LookupError" = none)
    (ho : ExcOk ET K)
    (GC_BadThings : mg "BadThings" = some (.ref (He.ga K "BadThings")))
    (GC_BadTable : mg "BadTable" = some (.ref (He.ga K "BadTable")))
    (GC_NoThing : mg "NoThing" = some (.ref (He.ga K "NoThing")))
    (GC_BadName : mg "BadName" = some (.ref (He.ga K "BadName")))
    (GC_Taken : mg "Taken" = some (.ref (He.ga K "Taken")))
    (GC_Full : mg "Full" = some (.ref (He.ga K "Full")))
    (GC_BadStart : mg "BadStart" = some (.ref (He.ga K "BadStart")))
    (GC_BadEdge : mg "BadEdge" = some (.ref (He.ga K "BadEdge")))
    (GC_NoNode : mg "NoNode" = some (.ref (He.ga K "NoNode")))
    (GC_NoName : mg "NoName" = some (.ref (He.ga K "NoName")))
    (GC_BadRow : mg "BadRow" = some (.ref (He.ga K "BadRow")))
    (GC_NothingLeft : mg "NothingLeft" = some (.ref (He.ga K "NothingLeft")))
    (GC_NotFolded : mg "NotFolded" = some (.ref (He.ga K "NotFolded")))
    (GC_BadLeaves : mg "BadLeaves" = some (.ref (He.ga K "BadLeaves")))
    (GC_Unlike : mg "Unlike" = some (.ref (He.ga K "Unlike")))
    (GC_BadState : mg "BadState" = some (.ref (He.ga K "BadState")))
    (GC_NotClosed : mg "NotClosed" = some (.ref (He.ga K "NotClosed")))
    (GC_NotMovable : mg "NotMovable" = some (.ref (He.ga K "NotMovable")))
    (GC_BadDelay : mg "BadDelay" = some (.ref (He.ga K "BadDelay")))
    (GC_BadCost : mg "BadCost" = some (.ref (He.ga K "BadCost")))
    (GC_TooMany : mg "TooMany" = some (.ref (He.ga K "TooMany")))
    (GC_BadDeed : mg "BadDeed" = some (.ref (He.ga K "BadDeed")))
    (GC_BadRounds : mg "BadRounds" = some (.ref (He.ga K "BadRounds")))
    (GC_BadGate : mg "BadGate" = some (.ref (He.ga K "BadGate")))
    (GC_BadText : mg "BadText" = some (.ref (He.ga K "BadText")))
    (GC_Loop : mg "Loop" = some (.ref (He.ga K "Loop")))
    (GC_NoCell : mg "NoCell" = some (.ref (He.ga K "NoCell")))
    (GC_NoDesign : mg "NoDesign" = some (.ref (He.ga K "NoDesign")))
    (GC_NoWire : mg "NoWire" = some (.ref (He.ga K "NoWire"))) (x : Option (Addr × Str × Option Addr)) :
    FnX P w K mg base 1 f fd ["e"] (PinE ((cfT K T).exc x)) (spOf0 ((cfT K T).exc x) F_law_kin) :=
  fnX_ok (k := 0) F sc_law_kin fun cdv A outer s H E p ht hrH =>
  (ss_cons (s_set (i := 1) sc_law_kin.nd rfl (by first | exact Or.inl rfl | exact Or.inr rfl) (e_str pe_str))
  (ss_cons (s_set (i := 1) sc_law_kin.nd rfl (by first | exact Or.inl rfl | exact Or.inr rfl) (b_add (m := false) (e_var (pv 1)) (e_str pe_str)))
  (ss_cons (s_set (i := 1) sc_law_kin.nd rfl (by first | exact Or.inl rfl | exact Or.inr rfl) (b_add (m := false) (e_var (pv 1)) (e_str pe_str)))
  (ss_cons (s_set (i := 1) sc_law_kin.nd rfl (by first | exact Or.inl rfl | exact Or.inr rfl) (b_add (m := false) (e_var (pv 1)) (e_str pe_str)))
  (ss_cons (s_set (i := 2) sc_law_kin.nd rfl (by first | exact Or.inl rfl | exact Or.inr rfl) (e_lst (m := false) a_nil))
  (ss_cons (s_set (i := 2) sc_law_kin.nd rfl (by first | exact Or.inl rfl | exact Or.inr rfl) (b_add (m := false) (e_var (pv 2)) (e_lst (m := false) (a_cons (e_isE (fun _ => rfl) ho ht (by rfl) m_isinstance (by decide +kernel) (e_var (pv 0)) (by rfl) GC_BadThings (by decide +kernel)) (a_cons (e_isE (fun _ => rfl) ho ht (by rfl) m_isinstance (by decide +kernel) (e_var (pv 0)) (by rfl) GC_BadTable (by decide +kernel)) (a_cons (e_isE (fun _ => rfl) ho ht (by rfl) m_isinstance (by decide +kernel) (e_var (pv 0)) (by rfl) GC_NoThing (by decide +kernel)) a_nil))))))
  (ss_cons (s_set (i := 2) sc_law_kin.nd rfl (by first | exact Or.inl rfl | exact Or.inr rfl) (b_add (m := false) (e_var (pv 2)) (e_lst (m := false) (a_cons (e_isE (fun _ => rfl) ho ht (by rfl) m_isinstance (by decide +kernel) (e_var (pv 0)) (by rfl) GC_BadName (by decide +kernel)) (a_cons (e_isE (fun _ => rfl) ho ht (by rfl) m_isinstance (by decide +kernel) (e_var (pv 0)) (by rfl) GC_Taken (by decide +kernel)) (a_cons (e_isE (fun _ => rfl) ho ht (by rfl) m_isinstance (by decide +kernel) (e_var (pv 0)) (by rfl) GC_Full (by decide +kernel)) a_nil))))))
  (ss_cons (s_set (i := 2) sc_law_kin.nd rfl (by first | exact Or.inl rfl | exact Or.inr rfl) (b_add (m := false) (e_var (pv 2)) (e_lst (m := false) (a_cons (e_isE (fun _ => rfl) ho ht (by rfl) m_isinstance (by decide +kernel) (e_var (pv 0)) (by rfl) GC_BadStart (by decide +kernel)) (a_cons (e_isE (fun _ => rfl) ho ht (by rfl) m_isinstance (by decide +kernel) (e_var (pv 0)) (by rfl) GC_BadEdge (by decide +kernel)) (a_cons (e_isE (fun _ => rfl) ho ht (by rfl) m_isinstance (by decide +kernel) (e_var (pv 0)) (by rfl) GC_NoNode (by decide +kernel)) a_nil))))))
  (ss_cons (s_set (i := 2) sc_law_kin.nd rfl (by first | exact Or.inl rfl | exact Or.inr rfl) (b_add (m := false) (e_var (pv 2)) (e_lst (m := false) (a_cons (e_isE (fun _ => rfl) ho ht (by rfl) m_isinstance (by decide +kernel) (e_var (pv 0)) (by rfl) GC_NoName (by decide +kernel)) (a_cons (e_isE (fun _ => rfl) ho ht (by rfl) m_isinstance (by decide +kernel) (e_var (pv 0)) (by rfl) GC_BadRow (by decide +kernel)) (a_cons (e_isE (fun _ => rfl) ho ht (by rfl) m_isinstance (by decide +kernel) (e_var (pv 0)) (by rfl) GC_NothingLeft (by decide +kernel)) a_nil))))))
  (ss_cons (s_set (i := 2) sc_law_kin.nd rfl (by first | exact Or.inl rfl | exact Or.inr rfl) (b_add (m := false) (e_var (pv 2)) (e_lst (m := false) (a_cons (e_isE (fun _ => rfl) ho ht (by rfl) m_isinstance (by decide +kernel) (e_var (pv 0)) (by rfl) GC_NotFolded (by decide +kernel)) (a_cons (e_isE (fun _ => rfl) ho ht (by rfl) m_isinstance (by decide +kernel) (e_var (pv 0)) (by rfl) GC_BadLeaves (by decide +kernel)) (a_cons (e_isE (fun _ => rfl) ho ht (by rfl) m_isinstance (by decide +kernel) (e_var (pv 0)) (by rfl) GC_Unlike (by decide +kernel)) a_nil))))))
  (ss_cons (s_set (i := 2) sc_law_kin.nd rfl (by first | exact Or.inl rfl | exact Or.inr rfl) (b_add (m := false) (e_var (pv 2)) (e_lst (m := false) (a_cons (e_isE (fun _ => rfl) ho ht (by rfl) m_isinstance (by decide +kernel) (e_var (pv 0)) (by rfl) GC_BadState (by decide +kernel)) (a_cons (e_isE (fun _ => rfl) ho ht (by rfl) m_isinstance (by decide +kernel) (e_var (pv 0)) (by rfl) GC_NotClosed (by decide +kernel)) (a_cons (e_isE (fun _ => rfl) ho ht (by rfl) m_isinstance (by decide +kernel) (e_var (pv 0)) (by rfl) GC_NotMovable (by decide +kernel)) a_nil))))))
  (ss_cons (s_set (i := 2) sc_law_kin.nd rfl (by first | exact Or.inl rfl | exact Or.inr rfl) (b_add (m := false) (e_var (pv 2)) (e_lst (m := false) (a_cons (e_isE (fun _ => rfl) ho ht (by rfl) m_isinstance (by decide +kernel) (e_var (pv 0)) (by rfl) GC_BadDelay (by decide +kernel)) (a_cons (e_isE (fun _ => rfl) ho ht (by rfl) m_isinstance (by decide +kernel) (e_var (pv 0)) (by rfl) GC_BadCost (by decide +kernel)) (a_cons (e_isE (fun _ => rfl) ho ht (by rfl) m_isinstance (by decide +kernel) (e_var (pv 0)) (by rfl) GC_TooMany (by decide +kernel)) a_nil))))))
  (ss_cons (s_set (i := 2) sc_law_kin.nd rfl (by first | exact Or.inl rfl | exact Or.inr rfl) (b_add (m := false) (e_var (pv 2)) (e_lst (m := false) (a_cons (e_isE (fun _ => rfl) ho ht (by rfl) m_isinstance (by decide +kernel) (e_var (pv 0)) (by rfl) GC_BadDeed (by decide +kernel)) (a_cons (e_isE (fun _ => rfl) ho ht (by rfl) m_isinstance (by decide +kernel) (e_var (pv 0)) (by rfl) GC_BadRounds (by decide +kernel)) (a_cons (e_isE (fun _ => rfl) ho ht (by rfl) m_isinstance (by decide +kernel) (e_var (pv 0)) (by rfl) GC_BadGate (by decide +kernel)) a_nil))))))
  (ss_cons (s_set (i := 2) sc_law_kin.nd rfl (by first | exact Or.inl rfl | exact Or.inr rfl) (b_add (m := false) (e_var (pv 2)) (e_lst (m := false) (a_cons (e_isE (fun _ => rfl) ho ht (by rfl) m_isinstance (by decide +kernel) (e_var (pv 0)) (by rfl) GC_BadText (by decide +kernel)) (a_cons (e_isE (fun _ => rfl) ho ht (by rfl) m_isinstance (by decide +kernel) (e_var (pv 0)) (by rfl) GC_Loop (by decide +kernel)) (a_cons (e_isE (fun _ => rfl) ho ht (by rfl) m_isinstance (by decide +kernel) (e_var (pv 0)) (by rfl) GC_NoCell (by decide +kernel)) a_nil))))))
  (ss_cons (s_set (i := 2) sc_law_kin.nd rfl (by first | exact Or.inl rfl | exact Or.inr rfl) (b_add (m := false) (e_var (pv 2)) (e_lst (m := false) (a_cons (e_isE (fun _ => rfl) ho ht (by rfl) m_isinstance (by decide +kernel) (e_var (pv 0)) (by rfl) GC_NoDesign (by decide +kernel)) (a_cons (e_isE (fun _ => rfl) ho ht (by rfl) m_isinstance (by decide +kernel) (e_var (pv 0)) (by rfl) GC_NoWire (by decide +kernel)) a_nil)))))
  (ss_cons (s_setLcHot (m := false) (own := [("word", 5), ("so", 4)]) (gt := (gTup K 2 (gNs [5, 4]))) (i := 3) rfl (HotE.hot ht) sc_law_kin.nd rfl rfl (sw_true rfl rfl rfl (by decide +kernel)) (by rfl) m_zip (a_cons (e_m rfl (by decide) PySem.F.plainAttrs_str PySem.F.slot_str_split PySem.F.type_str_split mt_split (mSplit_ok (m := false)) (e_var (pv 1)) (a_cons (e_str pe_str) a_nil)) (a_cons (e_var (pv 2)) a_nil)) (blkOk_by (by show blkC ["e", "words", "some", "found", "so", "word"] (defScope s_law_kin) _ _ = true; decide +kernel)) (fun _ _ _ _ _ => pgh_tup (pgs_cons (pg_name (i := 5) sc_law_kin.nd rfl (by first | exact Or.inl rfl | exact Or.inr rfl)) (pgs_cons (pg_name (i := 4) sc_law_kin.nd rfl (by first | exact Or.inl rfl | exact Or.inr rfl)) pgs_nil))) (tg_tup (vs := [5, 4]) (is := [5, 4]) (by decide)) (fun _ _ _ _ _ => (ts_one (t_val (e_var (pv 4))))) (fun _ _ _ _ _ => (e_var (pv 5))))
  (ss_cons (s_if (t_not (t_val (e_isE2 (fun _ => rfl) ho ht (by rfl) m_isinstance (by decide +kernel) (e_var (pv 0)) (pe_bltn (v := .ty "ValueError") (by rfl) m_ValueError (by decide +kernel) rfl) (pe_bltn (v := .ty "LookupError") (by rfl) m_LookupError (by decide +kernel) rfl) (by decide) (by decide)))) (ss_one (s_ret (e_str pe_str)))
  ss_nil)
  (ss_one (s_ret (e_m rfl (by decide) PySem.F.plainAttrs_str PySem.F.slot_str_join PySem.F.type_str_join mt_join mJoin_ok (e_str pe_str) (a_cons (e_var (pv 3)) a_nil)))))))))))))))))))))
/-! _law_tried -/
theorem sc_law_tried : FnScope ["ask", "found", "word", "e"] ["ask"] (defScope s_law_tried) := ⟨rfl, rfl, rfl, by decide +kernel, rfl, by decide +kernel, by decide +kernel⟩
theorem tr_law_tried {P : Program} {w : World} {K : PySem.W.Frag} {T : List (Addr × Str)} {mg : Str → Option Value} {base : Heap} {f : Addr} {fd : FuncData} (F : FnP K "_law_tried" s_law_tried [] f fd) (hm : mg "_law_tried" = some (.ref f))
    (ho : ExcOk ET K)
    (GC_GateError : mg "GateError" = some (.ref (He.ga K "GateError")))
    (GC_MissingError : mg "MissingError" = some (.ref (He.ga K "MissingError")))
    (CX_law_kin : ∀ x, CallOkX P w K mg base ((cfT K T).exc x) "_law_kin" 1 F_law_kin) (k : Nat) (hk : 1 ≤ k) : TriedOk P w K mg base (cfT K T) "_law_tried" k TF_law_tried :=
  tried_ok (c := cfT K T) (t := ET) (w0 := (PySem.Str.ofString "")) rfl F hm sc_law_tried (.inl rfl) (.inl rfl) (.inl rfl) rfl (by decide) (by decide) (by decide) (by decide) (by decide) (by decide) (fun _ _ _ _ _ _ us hl => match us, hl with | [_], _ => rfl) (fun _ => pe_non) (fun _ => pe_str) (mt_pair (fun _ => rfl) ho (by decide +kernel) (by decide +kernel)) (fun _ => rfl) (fun _ => rfl) (fun _ => rfl)
    (fun _ _ _ _ _ => (ht_pair ⟨by rfl, by decide, .inl GC_GateError⟩ ⟨by rfl, by decide, .inl GC_MissingError⟩)) fun cdv A outer s H hr a oe n dd pn ht => (e_callX (j := k) (CX_law_kin _) (roomH_suite hr) (by omega) ht (by rfl) (a_cons (e_var (pv 3)) a_nil))
/-! law -/
theorem sc_law : FnScope ["script", "box", "m", "net", "due", "turn", "found", "whole", "node", "odd"] ["script"] (defScope s_law) := ⟨rfl, rfl, rfl, by decide +kernel, rfl, by decide +kernel, by decide +kernel⟩
theorem ok_law {P : Program} {w : World} {K : PySem.W.Frag} {T : List (Addr × Str)} {mg : Str → Option Value} {base : Heap} {f : Addr} {fd : FuncData} {cd P1 : Addr} {kws : List (Str × V)} (F : FnP K "law" s_law kws f fd)
    (m_range : mg "range" = none)
    (m_len : mg "len" = none)
    (TR_law_tried : ∀ k, 1 ≤ k → TriedOk P w K mg base (cfT K T) "_law_tried" k TF_law_tried)
    (C_law_box : CallOk P w K mg base (cfT K T) "_law_box" 1 F_law_box [])
    (C_law_take : CallOk P w K mg base (cfT K T) "_law_take" 1 F_law_take [])
    (C_law_net : CallOk P w K mg base (cfT K T) "_law_net" 4 F_law_net [])
    (C_law_made : CallOk P w K mg base (cfT K T) "_law_made" 6 F_law_made [])
    (C_law_tables : CallOk P w K mg base (cfT K T) "_law_tables" 3 F_law_tables [])
    (C_tables : CallOk P w K mg base (cfT K T) "tables" 3 F_tables [])
    (C_law_same : CallOk P w K mg base (cfT K T) "_law_same" 6 (F_law_same 6) [])
    (C_law_things : CallOk P w K mg base (cfT K T) "_law_things" 1 F_law_things [])
    (C_edge_table : CallOk P w K mg base (cfT K T) "edge_table" 4 F_edge_table [])
    (C_law_far : CallOk P w K mg base (cfT K T) "_law_far" 2 F_law_far [])
    (MK_Net_d4 : MakeOk P w K mg base (cfT K T) "Net" 4 F_Net___init__ [.tup [], .tup [], .tup [], .tup []])
    (la : LamAt base mg T fd "law" cd P1) :
    FnOk P w K mg base (L2N.CX P w) 7 f fd ["script"] (spOf (cfT K T) F_law) :=
  fn_okL (k := 6) F sc_law la.code fun A outer s H E hr =>
  (ss_cons (s_set (i := 1) sc_law.nd rfl (by first | exact Or.inl rfl | exact Or.inr rfl) (e_callC C_law_box hr (by decide) (by rfl) (L2N.takes_of rfl rfl rfl rfl) (a_cons (e_var (pv 0)) a_nil)))
  (ss_cons (s_set (i := 2) sc_law.nd rfl (by first | exact Or.inl rfl | exact Or.inr rfl) (e_callC C_law_net hr (by decide) (by rfl) (L2N.takes_of rfl rfl rfl rfl) (a_cons (e_var (pv 1)) (a_cons (e_item rfl (e_lst (m := false) (a_cons (e_int pe_int) (a_cons (e_int pe_int) (a_cons (e_int pe_int) (a_cons (e_int pe_int) a_nil))))) (e_callC C_law_take hr (by decide) (by rfl) (L2N.takes_of rfl rfl rfl rfl) (a_cons (e_var (pv 1)) (a_cons (e_int pe_int) a_nil)))) (a_cons (e_item rfl (e_lst (m := false) (a_cons (e_int pe_int) (a_cons (e_int pe_int) (a_cons (e_int pe_int) a_nil)))) (e_callC C_law_take hr (by decide) (by rfl) (L2N.takes_of rfl rfl rfl rfl) (a_cons (e_var (pv 1)) (a_cons (e_int pe_int) a_nil)))) (a_cons (e_int pe_int) (a_cons (e_int pe_int) a_nil)))))))
  (ss_cons (s_set (i := 3) sc_law.nd rfl (by first | exact Or.inl rfl | exact Or.inr rfl) (e_callC C_law_made hr (by decide) (by rfl) (L2N.takes_of rfl rfl rfl rfl) (a_cons (e_var (pv 2)) a_nil)))
  (ss_cons (s_set (i := 4) sc_law.nd rfl (by first | exact Or.inl rfl | exact Or.inr rfl) (e_callC C_law_tables hr (by decide) (by rfl) (L2N.takes_of rfl rfl rfl rfl) (a_cons (e_var (pv 2)) a_nil)))
  (ss_cons (s_for (passes_of rfl) rfl (i_range1 (by rfl) m_range (a_cons (e_int pe_int) a_nil)) (g_name (pg_name (i := 5) sc_law.nd rfl (by first | exact Or.inl rfl | exact Or.inr rfl))) (ss_cons (s_set (i := 6) sc_law.nd rfl (by first | exact Or.inl rfl | exact Or.inr rfl) (e_callC C_tables hr (by decide) (by rfl) (L2N.takes_of rfl rfl rfl rfl) (a_cons (e_var (pv 3)) a_nil)))
  (ss_cons (s_if (t_not (t_val (e_pure C_law_same hr (by decide) (by rfl) (L2N.takes_of rfl rfl rfl rfl) (a_cons (e_var (pv 6)) (a_cons (e_var (pv 4)) a_nil))))) (ss_one (s_ret (e_bl pe_bl)))
  ss_nil)
  (ss_one (s_expr (e_m rfl (by decide) PySem.F.plainAttrs_list PySem.F.slot_list_append PySem.F.type_list_append mt_append mAppend_ok (e_var (pv 6)) (a_cons (e_int pe_int) a_nil)))))))
  (ss_cons (s_set (i := 7) sc_law.nd rfl (by first | exact Or.inl rfl | exact Or.inr rfl) (b_sub (b_shl (e_int pe_int) (b_shl (e_int pe_int) (e_callC C_law_things hr (by decide) (by rfl) (L2N.takes_of rfl rfl rfl rfl) (a_cons (e_var (pv 2)) a_nil)))) (e_int pe_int)))
  (ss_cons (s_for (passes_of rfl) rfl (i_range1 (by rfl) m_range (a_cons (e_cb rLen_ok fLen_ok (by rfl) m_len (by decide +kernel) (a_cons (e_var (pv 4)) a_nil)) a_nil)) (g_name (pg_name (i := 8) sc_law.nd rfl (by first | exact Or.inl rfl | exact Or.inr rfl))) (ss_cons (s_set (i := 6) sc_law.nd rfl (by first | exact Or.inl rfl | exact Or.inr rfl) (e_lst (m := true) (a_cons (e_callC C_edge_table hr (by decide) (by rfl) (L2N.takes_of rfl rfl rfl rfl) (a_cons (e_var (pv 3)) (a_cons (b_mul (e_int pe_int) (e_var (pv 8))) a_nil))) (a_cons (e_callC C_edge_table hr (by decide) (by rfl) (L2N.takes_of rfl rfl rfl rfl) (a_cons (e_var (pv 3)) (a_cons (b_add (m := false) (b_mul (e_int pe_int) (e_var (pv 8))) (e_int pe_int)) a_nil))) a_nil))))
  (ss_one (s_if (t_not (t_val (e_pure C_law_same hr (by decide) (by rfl) (L2N.takes_of rfl rfl rfl rfl) (a_cons (e_var (pv 6)) (a_cons (e_lst (m := false) (a_cons (e_item rfl (e_var (pv 4)) (e_var (pv 8))) (a_cons (b_sub (e_var (pv 7)) (e_item rfl (e_var (pv 4)) (e_var (pv 8)))) a_nil))) a_nil))))) (ss_one (s_ret (e_bl pe_bl)))
  ss_nil))))
  (ss_cons (s_set (i := 9) sc_law.nd rfl (by first | exact Or.inl rfl | exact Or.inr rfl) (e_callC C_law_far hr (by decide) (by rfl) (L2N.takes_of rfl rfl rfl rfl) (a_cons (e_var (pv 1)) (a_cons (b_mul (e_int pe_int) (e_cb rLen_ok fLen_ok (by rfl) m_len (by decide +kernel) (a_cons (e_var (pv 4)) a_nil))) a_nil))))
  (ss_one (s_ret (e_and (e_eq rfl hr.units (e_item rfl (e_tried (k := 4) (j := 6) (TR_law_tried 5 (by decide)) (by rfl) la.tab rfl la.mem la.uniq hr (by decide) (LamX.lamS_by (by kernel_rfl)) rfl (fun _ _ _ _ _ => rfl) (fun A outer s H E f c hr => (e_callC C_edge_table hr (by decide) (by rfl) (L2N.takes_of rfl rfl rfl rfl) (a_cons (e_var (pv 3)) (a_cons (e_var (pv 9)) a_nil))))) (e_int pe_int)) (e_str pe_str)) (e_one (e_callC C_law_same hr (by decide) (by rfl) (L2N.takes_of rfl rfl rfl rfl) (a_cons (e_fz (e_callC C_tables hr (by decide) (by rfl) (L2N.takes_of rfl rfl rfl rfl) (a_cons (e_make (j := 6) (E := E) MK_Net_d4 hr (by decide) (L2N.passes_call (L2N.takes_of rfl rfl rfl rfl) fun _ _ _ _ h => h) (fun _ _ _ _ h => h) (by rfl) (a_cons (e_lst (m := false) a_nil) a_nil)) a_nil))) (a_cons (e_lst (m := false) (a_cons (e_int pe_int) a_nil)) a_nil)))))))))))))))
end K07

namespace K07
open PySem PySem.Spec PyProof.Rows Gm Gt
open Gp
def T_Net___init___v (inputsV : (List Tx)) (latchesV : (Tup (Tx × Nat))) (gatesV : (Tup (Nat × Nat))) (outsV : (Tup (Tx × Nat))) (nextsV : (Tup Nat)) : Tz NetT :=
  ((((mapP (fun (x6 : (Tx × Nat)) => x6.1) latchesV.l).bind fun s7 => (catT inputsV s7)).bind fun s8 => ((mapP (fun (x9 : (Tx × Nat)) => x9.1) outsV.l).bind fun s10 => (T_need_names s8 s10))).bind fun u11 =>
  (Tz.lt (α := (List (D × Nat))) [((en (inputsV, 6).1), (inputsV, 6).2), ((en (latchesV, 4).1), (latchesV, 4).2), ((en (gatesV, 60).1), (gatesV, 60).2), ((en (outsV, 8).1), (outsV, 8).2)] fun sizes_12 =>
  (((mapT (fun (x15 : (D × Nat)) => ((lenD x15.1).bind fun s16 => (Tz.ok (decide (x15.2 < s16))))) sizes_12).bind fun s17 => (Tz.ok (s17.any id))).bind fun b18 => if b18 = true then
  (Tz.exc ⟨(PySem.Str.ofString "Full"), none⟩)
  else
  (((mapP (fun (x20 : (Tx × Nat)) => (!(decide (x20.2 ∈ [0, 1])))) latchesV.l).bind fun s21 => (Tz.ok (s21.any id))).bind fun b22 => if b22 = true then
  (Tz.exc ⟨(PySem.Str.ofString "BadStart"), none⟩)
  else
  ((Tz.ok inputsV).bind fun ins_23 =>
  ((Tz.ok latchesV.l).bind fun memory_24 =>
  ((Tz.ok gatesV.l).bind fun pairs_25 =>
  ((Tz.ok outsV.l).bind fun tells_26 =>
  ((Tz.ok nextsV.l).bind fun later_27 =>
  (Tz.lt (α := Nat) ((1 + ins_23.length) + memory_24.length) fun first_28 =>
  ((foldT (fun (g29 : Unit) (x30 : (Nat × (Nat × Nat))) =>
  (((if ((decide (0 ≤ x30.2.1)) && (decide (x30.2.1 ≤ x30.2.2))) = true then ((mulT 2 (first_28 + x30.1)).bind fun z => Tz.ok (decide (x30.2.2 < z))) else Tz.ok false).bind fun b => Tz.ok (!b)).bind fun b31 => if b31 = true then
  (Tz.exc ⟨(PySem.Str.ofString "BadGate"), some ((PySem.Str.ofString "at"), en x30.1)⟩)
  else
  (Tz.ok ()))) (enumT pairs_25) ()).bind fun g29 =>
  ((mulT 2 (first_28 + pairs_25.length)).bind fun most_32 =>
  (((mapP (fun (x34 : (Tx × Nat)) => x34.2) tells_26).bind fun s35 => (catT s35 later_27)).bind fun told_36 =>
  ((if (!decide (later_27.length = memory_24.length)) = true then Tz.ok true else (((mapP (fun (x38 : Nat) => ((decide (0 ≤ x38)) && (decide (x38 < most_32)))) told_36).bind fun s39 => (Tz.ok (s39.all id))).bind fun b => Tz.ok (!b))).bind fun b40 => if b40 = true then
  (Tz.exc ⟨(PySem.Str.ofString "BadEdge"), none⟩)
  else
  (Tz.ok (NetT.mk ins_23 memory_24 pairs_25 tells_26 later_27))))))))))))))))
theorem ag_Net___init___v (n_self : Nat) (inputsV : (List Tx)) (latchesV : (Tup (Tx × Nat))) (gatesV : (Tup (Nat × Nat))) (outsV : (Tup (Tx × Nat))) (nextsV : (Tup Nat)) : FoX F_Net___init__ [.ref n_self, en inputsV, en latchesV, en gatesV, en outsV, en nextsV] [(n_self, .obj "Net" [])] (T_Net___init___v inputsV latchesV gatesV outsV nextsV) (fun s => .ret .non [(n_self, .obj "Net" [("ins", en s.ins), ("memory", en s.lat), ("pairs", en s.gat), ("tells", en s.out), ("later", en s.nxt)])]) :=
  fn_foN (Q := fun (s : NetT) => [(n_self, .obj "Net" [("ins", en s.ins), ("memory", en s.lat), ("pairs", en s.gat), ("tells", en s.out), ("later", en s.nxt)])]) rfl rfl (by simp) fun h0 =>
  (as_seq (as_expr (ag_call (al_e (v1 := (fun (s8 : (List Tx)) => en s8)) (ag_bin (al_p (pu_cb (pu_cons (pu_var rfl) pu_nil) (fun h c => l_list inputsV h)) (al_e (v1 := (fun (s7 : (List Tx)) => en s7)) (ag_lcPP (e := fun (y : (Tx × Nat)) => en y) (v := fun (y : Tx) => en y) (pu_seq (pu_var rfl) rfl) fm_tup (fun _ => rfl) fun x6 => (pu_var rfl)) fun s7 => (al_nil (l_cat inputsV s7))))) fun s8 => (al_e (v1 := (fun (s10 : (List Tx)) => en s10)) (ag_lcPP (e := fun (y : (Tx × Nat)) => en y) (v := fun (y : Tx) => en y) (pu_seq (pu_var rfl) rfl) fm_tup (fun _ => rfl) fun x9 => (pu_var rfl)) fun s10 => (al_nil (fo0 (ag_need_names s8 s10))))))) fun u11 =>
  (as_setL (x := [((en (inputsV, 6).1), (inputsV, 6).2), ((en (latchesV, 4).1), (latchesV, 4).2), ((en (gatesV, 60).1), (gatesV, 60).2), ((en (outsV, 8).1), (outsV, 8).2)]) (pu_lst (pu_cons (pu_tup (pu_cons (pu_var rfl) (pu_cons pu_k pu_nil))) (pu_cons (pu_tup (pu_cons (pu_var rfl) (pu_cons pu_k pu_nil))) (pu_cons (pu_tup (pu_cons (pu_var rfl) (pu_cons pu_k pu_nil))) (pu_cons (pu_tup (pu_cons (pu_var rfl) (pu_cons pu_k pu_nil))) pu_nil))))) fun sizes_12 =>
  (as_ifE (ag_tv (ag_cb (al_e (v1 := (fun (s17 : (List Bool)) => en s17)) (ag_lcEP (e := fun (y : (D × Nat)) => en y) (v := fun (y : Bool) => en y) (pu_seq (pu_var rfl) rfl) fm_tup (fun _ => rfl) fun x15 => (ag_bin (al_e (v1 := (fun (s16 : Nat) => en s16)) (ag_cb (al_p (pu_var rfl) (al_nil (d_len x15.1)))) fun s16 => (al_p (pu_var rfl) (al_nil (gp (fun h c => nn_gt s16 x15.2 h))))))) fun s17 => (al_nil (gp (fun h c => l_any s17 h)))))) (fun b18 =>
  (as_ends ends_raise as_raise)) fun b18 =>
  (as_nilS (as_ifE (ag_tv (ag_cb (al_e (v1 := (fun (s21 : (List Bool)) => en s21)) (ag_lcPP (e := fun (y : (Tx × Nat)) => en y) (v := fun (y : Bool) => en y) (pu_seq (pu_var rfl) rfl) fm_tup (fun _ => rfl) fun x20 => (pu_bin (pu_var rfl) (pu_tup (pu_cons pu_k (pu_cons pu_k pu_nil))) (fun h c => t_notin x20.2 (Tup.mk [0, 1]) h))) fun s21 => (al_nil (gp (fun h c => l_any s21 h)))))) (fun b22 =>
  (as_ends ends_raise as_raise)) fun b22 =>
  (as_nilS (as_seq (as_fld (k := 0) (ce := fun (ins_23 : (List Tx)) => (.obj "Net" [("ins", en (ins_23 : (List Tx)))])) (ePu (x := inputsV) (pu_cb (pu_cons (pu_var rfl) pu_nil) (fun h c => l_list inputsV h))) rfl (pu_var rfl)) fun ins_23 =>
  (as_seq (as_fld (k := 0) (ce := fun (memory_24 : (List (Tx × Nat))) => (.obj "Net" [("ins", en (ins_23 : (List Tx))), ("memory", en (memory_24 : (List (Tx × Nat))))])) (ePu (x := latchesV.l) (pu_cb (pu_cons (pu_var rfl) pu_nil) (fun h c => t_list latchesV h))) rfl (pu_var rfl)) fun memory_24 =>
  (as_seq (as_fld (k := 0) (ce := fun (pairs_25 : (List (Nat × Nat))) => (.obj "Net" [("ins", en (ins_23 : (List Tx))), ("memory", en (memory_24 : (List (Tx × Nat)))), ("pairs", en (pairs_25 : (List (Nat × Nat))))])) (ePu (x := gatesV.l) (pu_cb (pu_cons (pu_var rfl) pu_nil) (fun h c => t_list gatesV h))) rfl (pu_var rfl)) fun pairs_25 =>
  (as_seq (as_fld (k := 0) (ce := fun (tells_26 : (List (Tx × Nat))) => (.obj "Net" [("ins", en (ins_23 : (List Tx))), ("memory", en (memory_24 : (List (Tx × Nat)))), ("pairs", en (pairs_25 : (List (Nat × Nat)))), ("tells", en (tells_26 : (List (Tx × Nat))))])) (ePu (x := outsV.l) (pu_cb (pu_cons (pu_var rfl) pu_nil) (fun h c => t_list outsV h))) rfl (pu_var rfl)) fun tells_26 =>
  (as_seq (as_fld (k := 0) (ce := fun (later_27 : (List Nat)) => (.obj "Net" [("ins", en (ins_23 : (List Tx))), ("memory", en (memory_24 : (List (Tx × Nat)))), ("pairs", en (pairs_25 : (List (Nat × Nat)))), ("tells", en (tells_26 : (List (Tx × Nat)))), ("later", en (later_27 : (List Nat)))])) (ePu (x := nextsV.l) (pu_cb (pu_cons (pu_var rfl) pu_nil) (fun h c => t_list nextsV h))) rfl (pu_var rfl)) fun later_27 =>
  (as_setL (x := ((1 + ins_23.length) + memory_24.length)) (pu_bin (pu_bin pu_k (pu_cb (pu_cons (pu_fldC (k := 0) rfl (pu_var rfl) rfl) pu_nil) (fun h c => l_len ins_23 h)) (fun h c => nn_add 1 ins_23.length false h)) (pu_cb (pu_cons (pu_fldC (k := 0) rfl (pu_var rfl) rfl) pu_nil) (fun h c => l_len memory_24 h)) (fun h c => nn_add (1 + ins_23.length) memory_24.length false h)) fun first_28 =>
  (as_seq (as_forP (S := fun (g29 : Unit) => [some (.ref n_self), some (en (inputsV : (List Tx))), some (en (latchesV : (Tup (Tx × Nat)))), some (en (gatesV : (Tup (Nat × Nat)))), some (en (outsV : (Tup (Tx × Nat)))), some (en (nextsV : (Tup Nat))), some (en (sizes_12 : (List (D × Nat)))), some (en (first_28 : Nat)), none, none, none, none, none, none, none, none, none]) (Q := fun g29 => [(n_self, (.obj "Net" [("ins", en (ins_23 : (List Tx))), ("memory", en (memory_24 : (List (Tx × Nat)))), ("pairs", en (pairs_25 : (List (Nat × Nat)))), ("tells", en (tells_26 : (List (Tx × Nat)))), ("later", en (later_27 : (List Nat)))]))]) (e := fun (y : (Nat × (Nat × Nat))) => en y) (pu_enum (pu_cons (pu_fldC (k := 0) rfl (pu_var rfl) rfl) pu_nil)) (tm_tup (tm_cons tm_name (tm_cons (tm_tup (tm_cons tm_name (tm_cons tm_name tm_nil))) tm_nil))) ⟨.inr rfl, ⟨.inr rfl, ⟨.inr rfl, ⟨.inr rfl, ⟨.inr rfl, ⟨.inr rfl, ⟨.inr rfl, ⟨.inr rfl, ⟨.inl rfl, ⟨.inl rfl, ⟨.inl rfl, ⟨.inl rfl, ⟨.inl rfl, ⟨.inl rfl, ⟨.inl rfl, ⟨.inl rfl, ⟨.inl rfl, trivial⟩⟩⟩⟩⟩⟩⟩⟩⟩⟩⟩⟩⟩⟩⟩⟩⟩ (.cons₂ _ .slnil) (fun _ _ _ => rfl) fun g29 x30 =>
  (as_last (as_ifE (ag_tnotB (ag_tv (ag_chain3 pu_k (pu_var rfl) (pu_var rfl) (ag_bin (al_p pu_k (al_p (pu_bin (pu_var rfl) (pu_var rfl) (fun h c => nn_add first_28 x30.1 false h)) (al_nil (nn_mul 2 (first_28 + x30.1)))))) (fun h => nn_le 0 x30.2.1 h) (fun h => nn_le x30.2.1 x30.2.2 h) fun z h => nn_lt x30.2.2 z h))) (fun b31 =>
  (as_ends ends_raiseF (as_raiseF (pu_cons (pu_var rfl) pu_nil)))) fun b31 =>
  (as_nilS (as_endL rfl ⟨.inr rfl, ⟨.inr rfl, ⟨.inr rfl, ⟨.inr rfl, ⟨.inr rfl, ⟨.inr rfl, ⟨.inr rfl, ⟨.inr rfl, ⟨.inl rfl, ⟨.inl rfl, ⟨.inl rfl, ⟨.inl rfl, ⟨.inl rfl, ⟨.inl rfl, ⟨.inl rfl, ⟨.inl rfl, ⟨.inl rfl, trivial⟩⟩⟩⟩⟩⟩⟩⟩⟩⟩⟩⟩⟩⟩⟩⟩⟩ (.cons₂ _ .slnil)))))) fun g29 =>
  (as_setS (ag_bin (al_p pu_k (al_p (pu_bin (pu_var rfl) (pu_cb (pu_cons (pu_fldC (k := 0) rfl (pu_var rfl) rfl) pu_nil) (fun h c => l_len pairs_25 h)) (fun h c => nn_add first_28 pairs_25.length false h)) (al_nil (nn_mul 2 (first_28 + pairs_25.length)))))) fun most_32 =>
  (as_setS (ag_bin (al_e (v1 := (fun (s35 : (List Nat)) => en s35)) (ag_lcPP (e := fun (y : (Tx × Nat)) => en y) (v := fun (y : Nat) => en y) (pu_seq (pu_fldC (k := 0) rfl (pu_var rfl) rfl) rfl) fm_tup (fun _ => rfl) fun x34 => (pu_var rfl)) fun s35 => (al_p (pu_fldC (k := 0) rfl (pu_var rfl) rfl) (al_nil (l_cat s35 later_27))))) fun told_36 =>
  (as_last (as_ifE (ag_torP (pu_tv (pu_bin (pu_cb (pu_cons (pu_fldC (k := 0) rfl (pu_var rfl) rfl) pu_nil) (fun h c => l_len later_27 h)) (pu_cb (pu_cons (pu_fldC (k := 0) rfl (pu_var rfl) rfl) pu_nil) (fun h c => l_len memory_24 h)) (fun h c => nn_ne later_27.length memory_24.length h))) (ag_tnotB (ag_tv (ag_cb (al_e (v1 := (fun (s39 : (List Bool)) => en s39)) (ag_lcPP (e := fun (y : Nat) => en y) (v := fun (y : Bool) => en y) (pu_seq (pu_var rfl) rfl) fm_name (fun _ => rfl) fun x38 => (pu_chain pu_k (pu_var rfl) (pu_var rfl) (fun h => nn_le 0 x38 h) (fun h => nn_lt x38 most_32 h))) fun s39 => (al_nil (gp (fun h c => l_all s39 h)))))))) (fun b40 =>
  (as_ends ends_raise as_raise)) fun b40 =>
  (as_nilS (as_fall rfl (.cons₂ _ .slnil))))))))))))))))))))
def T_law (scriptV : (Fro Int)) : Tz Bool :=
  ((T_law_box scriptV).bind fun box_1 =>
  ((((T_law_take box_1 4).bind fun s5 => ((ixT [4, 4, 4, 6] s5.1).bind fun x => Tz.ok (x, s5.2))).bind fun s6 => (((T_law_take s6.2 3).bind fun s7 => ((ixT [2, 2, 4] s7.1).bind fun x => Tz.ok (x, s7.2))).bind fun s8 => (T_law_net s8.2 s6.1 s8.1 9 2))).bind fun m_9 =>
  ((T_law_made m_9.1).bind fun net_10 =>
  ((T_law_tables m_9.1).bind fun due_11 =>
  (((rng 2).bind fun s => (forT (ρ := Bool)) (fun (g12 : Unit) (x13 : Nat) =>
  ((T_tables net_10).bind fun found_14 =>
  (((sameT found_14 due_11).bind fun b => Tz.ok (!b)).bind fun b16 => if b16 = true then
  (Tz.ok (.ret false))
  else
  ((appT found_14 1).bind fun l17 =>
  (Tz.ok (.go ())))))) s ()).bind fun o => o.on (fun (g12 : Unit) =>
  (((((T_law_things m_9.1).bind fun s22 => (shlT 1 s22)).bind fun s23 => (shlT 1 s23)).bind fun s24 => (subT s24 1)).bind fun whole_25 =>
  (((rng due_11.length).bind fun s => (forT (ρ := Bool)) (fun (g26 : Unit) (x27 : Nat) =>
  ((((mulT 2 x27).bind fun s34 => (T_edge_table net_10 (s34 : Int))).bind fun s35 => ((((mulT 2 x27).bind fun s37 => (Tz.ok (s37 + 1))).bind fun s38 => (T_edge_table net_10 (s38 : Int))).bind fun s39 => (Tz.ok [s35, s39]))).bind fun found_40 =>
  (((((ixT due_11 x27).bind fun s42 => (((ixT due_11 x27).bind fun s43 => (subT whole_25 s43)).bind fun s44 => (Tz.ok [s42, s44]))).bind fun s45 => (sameT found_40 s45)).bind fun b => Tz.ok (!b)).bind fun b46 => if b46 = true then
  (Tz.ok (.ret false))
  else
  (Tz.ok (.go ()))))) s ()).bind fun o => o.on (fun (g26 : Unit) =>
  (((mulT 2 due_11.length).bind fun s47 => (T_law_far m_9.2 s47)).bind fun odd_48 =>
  ((((triedT (kinT TF_law_tried) (T_edge_table net_10 odd_48.1)).bind fun s50 => (Tz.ok s50.2)).bind fun s51 => (Tz.ok (decide (s51 = (Tx.mk [66, 97, 100, 69, 100, 103, 101]))))).bind fun b => if b = true then (((T_Net___init___v ([] : (List Tx)) (Tup.mk ([] : List (Tx × Nat))) (Tup.mk ([] : List (Nat × Nat))) (Tup.mk ([] : List (Tx × Nat))) (Tup.mk ([] : List Nat))).bind fun s52 => (T_tables s52)).bind fun s53 => (sameT s53 [0])) else Tz.ok false))) (fun r => r)))) (fun r => r))))))
theorem ag_law  (scriptV : (Fro Int)) : FoX F_law [en scriptV] [] (T_law scriptV) (fun s => .ret (en s) []) :=
  fn_fo (v := en) (Q := fun _ => []) rfl rfl (by simp) fun h0 =>
  (as_new (agc_call (alc_p (pu_var rfl) (alc_nil (foC0 (ag_law_box scriptV))))) fun box_1 n2 hn2 =>
  (as_setS (ag_call (al_p (pu_var rfl) (al_e (v1 := (fun (s6 : (Nat × Bxs)) => en s6.1)) (ag_bin (al_p (pu_lst (pu_cons pu_k (pu_cons pu_k (pu_cons pu_k (pu_cons pu_k pu_nil))))) (al_e (v1 := (fun (s5 : (Nat × Bxs)) => en s5.1)) (ag_call (al_p (pu_var rfl) (al_p pu_k (al_nil (fo1 (k := 0) rfl (ag_law_take n2 box_1 4)))))) fun s5 => (al_nil (gs (Φ2 := (fun (r : Nat × Bxs) => [(n2, (boxc r.2))])) (b := s5.2) (l_ix [4, 4, 4, 6] s5.1)))))) fun s6 => (al_e (v1 := (fun (s8 : (Nat × Bxs)) => en s8.1)) (ag_bin (al_p (pu_lst (pu_cons pu_k (pu_cons pu_k (pu_cons pu_k pu_nil)))) (al_e (v1 := (fun (s7 : (Nat × Bxs)) => en s7.1)) (ag_call (al_p (pu_var rfl) (al_p pu_k (al_nil (fo1 (k := 0) rfl (ag_law_take n2 s6.2 3)))))) fun s7 => (al_nil (gs (Φ2 := (fun (r : Nat × Bxs) => [(n2, (boxc r.2))])) (b := s7.2) (l_ix [2, 2, 4] s7.1)))))) fun s8 => (al_p pu_k (al_p pu_k (al_nil (fo1 (k := 0) rfl (ag_law_net n2 s8.2 s6.1 s8.1 9 2))))))))) fun m_9 =>
  (as_setS (ag_call (al_p (pu_var rfl) (al_nil (fo0 (ag_law_made m_9.1))))) fun net_10 =>
  (as_setS (ag_call (al_p (pu_var rfl) (al_nil (fo0 (ag_law_tables m_9.1))))) fun due_11 =>
  (as_seqR (i := (fun r => r)) (fun _ => rfl) (fun _ => rfl) (as_forR (S := fun (g12 : Unit) => [some (en (scriptV : (Fro Int))), some (.ref n2), some (en (m_9.1 : (H5 (List Tx) (List (Tx × Nat)) (List (Nat × Nat)) (List (Tx × Nat)) (List Nat)))), some (en (net_10 : NetT)), some (en (due_11 : (List Nat))), none, none, none, none, none]) (Q := fun g12 => [(n2, (boxc m_9.2))]) (R := fun (r : Bool) => .ret (en r) [])  (e := fun (y : Nat) => en y) (xs := fun (s : (List Nat)) => s) (g0 := fun (s : (List Nat)) => ()) (ag_range1 (al_p pu_k (al_nil (bR1_ok 2)))) tm_name (fun _ => rfl) (fun _ => ⟨.inr rfl, ⟨.inr rfl, ⟨.inr rfl, ⟨.inr rfl, ⟨.inr rfl, ⟨.inl rfl, ⟨.inl rfl, ⟨.inl rfl, ⟨.inl rfl, ⟨.inl rfl, trivial⟩⟩⟩⟩⟩⟩⟩⟩⟩⟩) (fun _ => (.cons₂ _ .slnil)) (fun _ _ _ => rfl) fun g12 x13 =>
  (as_new (agc_call (alc_p (pu_var rfl) (alc_nil (foC0 (ag_tables net_10))))) fun found_14 n15 hn15 =>
  (as_ifE (ag_tnotB (ag_tv (ag_pure (al_p (pu_var rfl) (al_p (pu_var rfl) (al_nil (gv_sameP found_14 due_11 (th_c (k := 1) rfl (th_v due_11 th_nil))))))))) (fun b16 =>
  (as_ends ends_ret (as_retP pu_k rfl (.cons _ (.cons _ .slnil))))) fun b16 =>
  (as_nilS (as_last (as_seq (as_expr (ag_mt (pu_var rfl) (c_isL (k := 1) rfl) (al_p pu_k (al_nil (c_app (k := 1) rfl 1))))) fun l17 =>
  (as_endL rfl ⟨.inr rfl, ⟨.inr rfl, ⟨.inr rfl, ⟨.inr rfl, ⟨.inr rfl, ⟨.inl rfl, ⟨.inl rfl, ⟨.inl rfl, ⟨.inl rfl, ⟨.inl rfl, trivial⟩⟩⟩⟩⟩⟩⟩⟩⟩⟩ (.cons₂ _ (.cons _ .slnil))))))))) fun g12 =>
  (as_setS (ag_bin (al_e (v1 := (fun (s24 : Nat) => en s24)) (ag_bin (al_p pu_k (al_e (v1 := (fun (s23 : Nat) => en s23)) (ag_bin (al_p pu_k (al_e (v1 := (fun (s22 : Nat) => en s22)) (ag_call (al_p (pu_var rfl) (al_nil (fo0 (ag_law_things m_9.1))))) fun s22 => (al_nil (nn_shl 1 s22))))) fun s23 => (al_nil (nn_shl 1 s23))))) fun s24 => (al_p pu_k (al_nil (nn_sub s24 1))))) fun whole_25 =>
  (as_seqR (i := (fun r => r)) (fun _ => rfl) (fun _ => rfl) (as_forR (S := fun (g26 : Unit) => [some (en (scriptV : (Fro Int))), some (.ref n2), some (en (m_9.1 : (H5 (List Tx) (List (Tx × Nat)) (List (Nat × Nat)) (List (Tx × Nat)) (List Nat)))), some (en (net_10 : NetT)), some (en (due_11 : (List Nat))), none, none, some (en (whole_25 : Nat)), none, none]) (Q := fun g26 => [(n2, (boxc m_9.2))]) (R := fun (r : Bool) => .ret (en r) [])  (e := fun (y : Nat) => en y) (xs := fun (s : (List Nat)) => s) (g0 := fun (s : (List Nat)) => ()) (ag_range1 (al_p (pu_cb (pu_cons (pu_var rfl) pu_nil) (fun h c => l_len due_11 h)) (al_nil (bR1_ok due_11.length)))) tm_name (fun _ => rfl) (fun _ => ⟨.inr rfl, ⟨.inr rfl, ⟨.inr rfl, ⟨.inr rfl, ⟨.inr rfl, ⟨.inl rfl, ⟨.inl rfl, ⟨.inr rfl, ⟨.inl rfl, ⟨.inl rfl, trivial⟩⟩⟩⟩⟩⟩⟩⟩⟩⟩) (fun _ => (.cons₂ _ .slnil)) (fun _ _ _ => rfl) fun g26 x27 =>
  (as_new (agc_lst (l := fun (x : List Nat) => x.map en) (ag_lst (al_e (v1 := (fun (s35 : Nat) => en s35)) (ag_call (al_p (pu_var rfl) (al_e (v1 := (fun (s34 : Nat) => en s34)) (ag_bin (al_p pu_k (al_p (pu_var rfl) (al_nil (nn_mul 2 x27))))) fun s34 => (al_nil (fo0 (ag_edge_table net_10 (s34 : Int))))))) fun s35 => (al_e (v1 := (fun (s39 : Nat) => en s39)) (ag_call (al_p (pu_var rfl) (al_e (v1 := (fun (s38 : Nat) => en s38)) (ag_bin (al_e (v1 := (fun (s37 : Nat) => en s37)) (ag_bin (al_p pu_k (al_p (pu_var rfl) (al_nil (nn_mul 2 x27))))) fun s37 => (al_p pu_k (al_nil (gp (fun h c => nn_add s37 1 false h)))))) fun s38 => (al_nil (fo0 (ag_edge_table net_10 (s38 : Int))))))) fun s39 => (al_nil bL_ok))))) fun found_40 n41 hn41 =>
  (as_last (as_ifE (ag_tnotB (ag_tv (ag_pure (al_p (pu_var rfl) (al_e (v1 := (fun (s45 : (List Nat)) => en s45)) (ag_lst (al_e (v1 := (fun (s42 : Nat) => en s42)) (ag_bin (al_p (pu_var rfl) (al_p (pu_var rfl) (al_nil (l_ix due_11 x27))))) fun s42 => (al_e (v1 := (fun (s44 : Nat) => en s44)) (ag_bin (al_p (pu_var rfl) (al_e (v1 := (fun (s43 : Nat) => en s43)) (ag_bin (al_p (pu_var rfl) (al_p (pu_var rfl) (al_nil (l_ix due_11 x27))))) fun s43 => (al_nil (nn_sub whole_25 s43))))) fun s44 => (al_nil bL_ok)))) fun s45 => (al_nil (gv_sameP found_40 s45 (th_c (k := 1) rfl (th_v s45 th_nil))))))))) (fun b46 =>
  (as_ends ends_ret (as_retP pu_k rfl (.cons _ (.cons _ .slnil))))) fun b46 =>
  (as_nilS (as_endL rfl ⟨.inr rfl, ⟨.inr rfl, ⟨.inr rfl, ⟨.inr rfl, ⟨.inr rfl, ⟨.inl rfl, ⟨.inl rfl, ⟨.inr rfl, ⟨.inl rfl, ⟨.inl rfl, trivial⟩⟩⟩⟩⟩⟩⟩⟩⟩⟩ (.cons₂ _ (.cons _ .slnil)))))))) fun g26 =>
  (as_setS (ag_call (al_p (pu_var rfl) (al_e (v1 := (fun (s47 : Nat) => en s47)) (ag_bin (al_p pu_k (al_p (pu_cb (pu_cons (pu_var rfl) pu_nil) (fun h c => l_len due_11 h)) (al_nil (nn_mul 2 due_11.length))))) fun s47 => (al_nil (fo1 (k := 0) rfl (ag_law_far n2 m_9.2 s47)))))) fun odd_48 =>
  (as_last (as_ends ends_ret (as_retT (ag_and (ag_bin (al_e (v1 := (fun (s51 : Tx) => en s51)) (ag_bin (al_e (v1 := (fun (s50 : ((Option Nat) × Tx)) => en s50)) (ag_tried (by decide +kernel) fun h1 => (ag_call (al_p (pu_var rfl) (al_p (pu_var rfl) (al_nil (fo0 (ag_edge_table net_10 odd_48.1))))))) fun s50 => (al_p pu_k (al_nil (gp (fun h c => rfl)))))) fun s51 => (al_p (pu_x (Tx.mk [66, 97, 100, 69, 100, 103, 101]) (by decide +kernel)) (al_nil (gp (fun h c => xx_eq s51 (Tx.mk [66, 97, 100, 69, 100, 103, 101]) h)))))) fun _ => (ag_call (al_e (v1 := (fun (s53 : (List Nat)) => en s53)) (al_fzcall (al_e (v1 := (fun (s52 : NetT) => en s52)) (ag_make (al_p (pu_lst pu_nil) (al_nil (mk0 (fun _ => rfl) (fun n => ag_Net___init___v n ([] : (List Tx)) (Tup.mk ([] : List (Tx × Nat))) (Tup.mk ([] : List (Nat × Nat))) (Tup.mk ([] : List (Tx × Nat))) (Tup.mk ([] : List Nat))))))) fun s52 => (al_nil (fz0 (ag_tables s52))))) fun s53 => (al_p (pu_lst (pu_cons pu_k pu_nil)) (al_nil (gv_same s53 [0])))))) fun _ => ⟨_, rfl, (.cons _ .slnil)⟩)))))))))))
end K07

namespace K07
open PySem PySem.Spec PyProof.Rows Gm Gt Gp
theorem good_nats (l : List Nat) (h : l.length ≤ 1000000) : Same.good l = true := by
  show (decide (l.length ≤ 1000000) && l.all fun _ => true) = true
  rw [decide_eq_true h, Bool.true_and, List.all_eq_true]
  exact fun _ _ => rfl
theorem many_ok (N : NetT) : T_Net_many N = .ok (1 + N.things + N.gat.length) := rfl
theorem need_edge_in {N : NetT} {e : Nat} (he : e < 2 * (1 + N.things + N.gat.length)) (hl : 1 + N.things + N.gat.length ≤ 100000) : T_need_edge N (e : Int) = .ok () := by
  unfold T_need_edge
  rw [many_ok, if_pos (decide_eq_true (by omega)), Tz.bind_ok, mulT_ok (by decide) (by omega), Tz.bind_ok, decide_eq_true (by omega)]
  rfl
theorem need_edge_out {N : NetT} {e : Int} (he : ((2 * (1 + N.things + N.gat.length) : Nat) : Int) ≤ e ∨ e < 0) (hl : 1 + N.things + N.gat.length ≤ 100000) : T_need_edge N e = .exc ⟨PySem.Str.ofString "BadEdge", none⟩ := by
  unfold T_need_edge
  by_cases h0 : 0 ≤ e
  · rw [many_ok, if_pos (decide_eq_true h0), Tz.bind_ok, mulT_ok (by decide) (by omega), Tz.bind_ok, decide_eq_false (by omega)]
    rfl
  · rw [if_neg (by rw [decide_eq_false h0]; decide)]
    rfl
theorem edge_table_in {N : NetT} {e : Nat} (low : Low N.things N.gat) (ht : N.things ≤ 10) (hg : N.gat.length ≤ 1000) (he : e < 2 * (1 + N.things + N.gat.length)) : T_edge_table N (e : Int) = .ok (etab N.things N.gat e) := by
  unfold T_edge_table
  rw [need_edge_in he (by omega), Tz.bind_ok, tables_of_ok low ht hg, Tz.bind_ok, toN_ok (by omega), Tz.bind_ok]
  have : T_Net_things N = .ok N.things := rfl
  rw [this, Tz.bind_ok, full_of_ok ht, Tz.bind_ok, Int.toNat_natCast, signed_ok (tabs_at (by omega))]
  rfl
theorem edge_table_out {N : NetT} {e : Int} (he : ((2 * (1 + N.things + N.gat.length) : Nat) : Int) ≤ e ∨ e < 0) (hl : 1 + N.things + N.gat.length ≤ 100000) : T_edge_table N e = .exc ⟨PySem.Str.ofString "BadEdge", none⟩ := by
  unfold T_edge_table
  rw [need_edge_out he hl]
  rfl
theorem full_sub {n t : Nat} (h : t < 2 ^ n) : 2 ^ n - 1 - t = t ^^^ (2 ^ n - 1) := by
  apply bits_ext
  intro i
  rw [Nat.testBit_xor, Nat.testBit_two_pow_sub_one, Nat.sub_sub, Nat.add_comm 1 t, Nat.testBit_two_pow_sub_succ h]
  by_cases hi : i < n
  · simp [hi]
  · simp [hi, high_bit h (Nat.le_of_not_lt hi)]
theorem made_v (a : List Tx) (b : List (Tx × Nat)) (c : List (Nat × Nat)) (d : List (Tx × Nat)) (e : List Nat) : T_Net___init___v a ⟨b⟩ ⟨c⟩ ⟨d⟩ ⟨e⟩ = T_Net___init__ a b c d e := rfl
theorem kin_ok : kinT TF_law_tried ⟨PySem.Str.ofString "BadEdge", none⟩ = some (Tx.mk [66, 97, 100, 69, 100, 103, 101]) := by decide +kernel
theorem law_ok (s : Fro Int) : WP (T_law s) (· = true) := by
  unfold T_law
  refine WP.bind (box_wp s) fun b hb => ?_
  refine WP.bind (P := fun r : M5 × Bxs => OkM r.1 ∧ BxOk 1004 r.2) ?_ fun r ⟨hm, hb⟩ => ?_
  · refine WP.bind (P := fun r : Nat × Bxs => r.1 ≤ 6 ∧ BxOk 1 r.2) ?_ fun r ⟨a, hb⟩ => ?_
    · exact WP.bind (take_wp hb (by decide) (by decide) (by decide)) fun r ⟨l, h⟩ => WP.bind (P := fun x => x ≤ 6) (WP.ix l (by decide)) fun x hx => WP.ok ⟨hx, h⟩
    · refine WP.bind (P := fun r : Nat × Bxs => r.1 ≤ 4 ∧ BxOk 2 r.2) ?_ fun r2 ⟨a2, hb⟩ => ?_
      · exact WP.bind (take_wp hb (by decide) (by decide) (by decide)) fun r ⟨l, h⟩ => WP.bind (P := fun x => x ≤ 4) (WP.ix l (by decide)) fun x hx => WP.ok ⟨hx, h⟩
      · exact (net_wp hb (by decide) a a2 (by decide) (by decide)).mono fun r ⟨h, _, h3⟩ => ⟨h, h3.mono (by decide)⟩
  · obtain ⟨m, b⟩ := r
    dsimp only at hm hb ⊢
    have l1 := hm.l1; have l2 := hm.l2; have l3 := hm.l3
    have ht : m.things ≤ 10 := by unfold M5.things; omega
    have low : Low m.things m.c := hm.low
    have tl : (tabs m.things m.c).length = 1 + m.things + m.c.length := tabs_len _ _
    rw [law_made_ok hm, Tz.bind_ok, law_tables_ok low ht (by omega), Tz.bind_ok, rng_ok (by decide), Tz.bind_ok]
    have tb : T_tables (netOf m) = .ok (tabs m.things m.c) := tables_of_ok (N := netOf m) low ht (by show m.c.length ≤ 1000; omega)
    refine WP.forO (fun _ _ => True) trivial (fun i x g hx _ => ?_) fun g _ => ?_
    · rw [tb, Tz.bind_ok, sameT_ok rfl (good_nats _ (by omega)), Tz.bind_ok, Tz.bind_ok, if_neg (by decide), appT_ok (by omega), Tz.bind_ok]
      exact WP.ok ⟨(), rfl, trivial⟩
    · have w := two_le ht
      rw [law_things_ok, Tz.bind_ok, shlT_ok (by decide) (by omega), Tz.bind_ok, one_shl, shlT_ok (by decide) (by omega), Tz.bind_ok, one_shl, subT_ok Nat.one_le_two_pow, Tz.bind_ok, rng_ok (by omega), Tz.bind_ok]
      refine WP.forO (fun _ _ => True) trivial (fun i x g hx _ => ?_) fun g _ => ?_
      · have li : i < (tabs m.things m.c).length := by simpa using (List.getElem?_eq_some_iff.mp hx).1
        rw [List.getElem?_range li] at hx
        have hx : i = x := Option.some.inj hx
        subst hx
        rw [mulT_ok (by decide) (by omega), Tz.bind_ok, edge_table_in (N := netOf m) low ht (by show m.c.length ≤ 1000; omega) (by show 2 * i < 2 * (1 + m.things + m.c.length); omega), Tz.bind_ok]
        rw [Tz.bind_ok, Tz.bind_ok, edge_table_in (N := netOf m) low ht (by show m.c.length ≤ 1000; omega) (by show 2 * i + 1 < 2 * (1 + m.things + m.c.length); omega), Tz.bind_ok, Tz.bind_ok]
        have ia : ixT (tabs m.things m.c) i = .ok (tab m.things m.c i) := ixT_ok (tabs_at (by omega))
        have lt := tab_lt m.things m.c i
        rw [ia, Tz.bind_ok, Tz.bind_ok, subT_ok (by omega), Tz.bind_ok, Tz.bind_ok]
        have e1 : etab (netOf m).things (netOf m).gat (2 * i) = tab m.things m.c i := by
          show etab m.things m.c (2 * i) = _
          unfold etab
          rw [show 2 * i / 2 = i by omega, if_neg (by omega), Nat.xor_zero]
        have e2 : etab (netOf m).things (netOf m).gat (2 * i + 1) = 2 ^ 2 ^ m.things - 1 - tab m.things m.c i := by
          show etab m.things m.c (2 * i + 1) = _
          unfold etab
          rw [show (2 * i + 1) / 2 = i by omega, if_pos (by omega), full_sub lt]
          rfl
        rw [e1, e2, sameT_ok rfl (good_nats _ (Nat.le_of_ble_eq_true rfl)), Tz.bind_ok, Tz.bind_ok, if_neg (by decide)]
        exact WP.ok ⟨(), rfl, trivial⟩
      · rw [mulT_ok (by decide) (by omega), Tz.bind_ok]
        refine WP.bind (far_wp hb (by decide) (by omega)) fun r ⟨hf, _⟩ => ?_
        rw [edge_table_out (N := netOf m) (by rw [tl] at hf; exact hf) (by show 1 + m.things + m.c.length ≤ 100000; omega)]
        unfold triedT
        dsimp only
        rw [kin_ok]
        dsimp only
        rw [Tz.bind_ok, Tz.bind_ok, Tz.bind_ok, if_pos (by decide)]
        have nv : T_Net___init___v ([] : (List Tx)) (Tup.mk ([] : List (Tx × Nat))) (Tup.mk ([] : List (Nat × Nat))) (Tup.mk ([] : List (Tx × Nat))) (Tup.mk ([] : List Nat)) = .ok ⟨[], [], [], [], []⟩ := (made_v _ _ _ _ _).trans (made_ok (m := ⟨[], [], [], [], []⟩) ⟨by simp, by simp, by simp, by simp, by simp, by simp, by simp, by simp, rfl, by decide, by decide, by decide, by decide⟩)
        have t0 : T_tables ⟨[], [], [], [], []⟩ = .ok [0] := by
          have z := tables_of_ok (N := ⟨[], [], [], [], []⟩) (fun j p hp => by simp at hp) (by decide) (by decide)
          exact z
        rw [nv, Tz.bind_ok, t0, Tz.bind_ok, sameT_ok rfl (good_nats _ (by decide))]
        exact WP.ok rfl
theorem law_true : ∀ ns : List Int, ns.length ≤ 63 → ∃ h', F_law [.fro (ns.map .int)] [] = .ok (.bl true) h' := fun ns _ => law_end (s := ⟨ns⟩) (ag_law ⟨ns⟩) (law_ok ⟨ns⟩)
end K07

namespace K07
open PySem PySem.Spec PyProof.Rows L2 Gm
theorem facts {P : Program} {w : World} {K : PySem.W.Frag} {h : Heap} {mg : Str → Option Value} {f : Addr} (X : K.In h) (G : h.Ns mainGlobals mg) (hfa : mg "law" = some (.ref f)) (c : SaysN fas fns tqs exB h K) :
    ∃ fd : FuncData, (∀ (s : Shared) (u : Value), BindsTo s fd ⟨[u], []⟩ [("script", u)]) ∧ ∀ base : Heap, (∀ p ∈ tqs, LamX.TabB base mg (He.cT K p.1).1 (He.cT K p.1).2) → FnOk P w K mg base (L2N.CX P w) 7 f fd ["script"] (spOf (cfT K (tabsOf K tqs)) F_law) := by
  obtain ⟨fd_law_box, FD_law_box⟩ := c.d.def_ 0 (d := d_law_box) rfl
  obtain ⟨fd_law_take, FD_law_take⟩ := c.d.def_ 1 (d := d_law_take) rfl
  obtain ⟨fd_law_names, FD_law_names⟩ := c.d.def_ 2 (d := d_law_names) rfl
  obtain ⟨fd_law_frame, FD_law_frame⟩ := c.d.def_ 3 (d := d_law_frame) rfl
  obtain ⟨fd_law_some_edge, FD_law_some_edge⟩ := c.d.def_ 4 (d := d_law_some_edge) rfl
  obtain ⟨fd_law_ends, FD_law_ends⟩ := c.d.def_ 5 (d := d_law_ends) rfl
  obtain ⟨fd_law_net, FD_law_net⟩ := c.d.def_ 6 (d := d_law_net) rfl
  obtain ⟨fd_is_name, FD_is_name⟩ := c.d.def_ 7 (d := d_is_name) rfl
  obtain ⟨fd_need_name, FD_need_name⟩ := c.d.def_ 8 (d := d_need_name) rfl
  obtain ⟨fd_need_names, FD_need_names⟩ := c.d.def_ 9 (d := d_need_names) rfl
  obtain ⟨fd_Net___init__, FD_Net___init__⟩ := c.d.def_ 10 (d := d_Net___init__) rfl
  obtain ⟨fd_law_made, FD_law_made⟩ := c.d.def_ 11 (d := d_law_made) rfl
  obtain ⟨fd_law_bit, FD_law_bit⟩ := c.d.def_ 12 (d := d_law_bit) rfl
  obtain ⟨fd_law_told, FD_law_told⟩ := c.d.def_ 13 (d := d_law_told) rfl
  obtain ⟨fd_law_values, FD_law_values⟩ := c.d.def_ 14 (d := d_law_values) rfl
  obtain ⟨fd_law_things, FD_law_things⟩ := c.d.def_ 15 (d := d_law_things) rfl
  obtain ⟨fd_law_tables, FD_law_tables⟩ := c.d.def_ 16 (d := d_law_tables) rfl
  obtain ⟨fd_law_far, FD_law_far⟩ := c.d.def_ 17 (d := d_law_far) rfl
  obtain ⟨fd_Net_things, FD_Net_things⟩ := c.d.def_ 18 (d := d_Net_things) rfl
  obtain ⟨fd_full_of, FD_full_of⟩ := c.d.def_ 19 (d := d_full_of) rfl
  obtain ⟨fd_Net_gates, FD_Net_gates⟩ := c.d.def_ 20 (d := d_Net_gates) rfl
  obtain ⟨fd_column_of, FD_column_of⟩ := c.d.def_ 21 (d := d_column_of) rfl
  obtain ⟨fd_signed, FD_signed⟩ := c.d.def_ 22 (d := d_signed) rfl
  obtain ⟨fd_tables_of, FD_tables_of⟩ := c.d.def_ 23 (d := d_tables_of) rfl
  obtain ⟨fd_tables, FD_tables⟩ := c.d.def_ 24 (d := d_tables) rfl
  obtain ⟨fd_law_same, FD_law_same⟩ := c.d.def_ 25 (d := d_law_same) rfl
  obtain ⟨fd_Net_many, FD_Net_many⟩ := c.d.def_ 26 (d := d_Net_many) rfl
  obtain ⟨fd_need_edge, FD_need_edge⟩ := c.d.def_ 27 (d := d_need_edge) rfl
  obtain ⟨fd_edge_table, FD_edge_table⟩ := c.d.def_ 28 (d := d_edge_table) rfl
  obtain ⟨fd_law_kin, FD_law_kin⟩ := c.d.def_ 29 (d := d_law_kin) rfl
  obtain ⟨fd_law_tried, FD_law_tried⟩ := c.d.def_ 30 (d := d_law_tried) rfl
  obtain ⟨fd_law, FD_law⟩ := c.d.def_ 31 (d := d_law) rfl
  have m_LookupError : mg "LookupError" = none := He.free_ok X G (c.d.fact 38 (f := .free "LookupError") rfl)
  have m_ValueError : mg "ValueError" = none := He.free_ok X G (c.d.fact 39 (f := .free "ValueError") rfl)
  have m_all : mg "all" = none := He.free_ok X G (c.d.fact 40 (f := .free "all") rfl)
  have m_any : mg "any" = none := He.free_ok X G (c.d.fact 41 (f := .free "any") rfl)
  have m_bool : mg "bool" = none := He.free_ok X G (c.d.fact 42 (f := .free "bool") rfl)
  have m_enumerate : mg "enumerate" = none := He.free_ok X G (c.d.fact 43 (f := .free "enumerate") rfl)
  have m_int : mg "int" = none := He.free_ok X G (c.d.fact 44 (f := .free "int") rfl)
  have m_isinstance : mg "isinstance" = none := He.free_ok X G (c.d.fact 45 (f := .free "isinstance") rfl)
  have m_len : mg "len" = none := He.free_ok X G (c.d.fact 46 (f := .free "len") rfl)
  have m_list : mg "list" = none := He.free_ok X G (c.d.fact 47 (f := .free "list") rfl)
  have m_max : mg "max" = none := He.free_ok X G (c.d.fact 48 (f := .free "max") rfl)
  have m_min : mg "min" = none := He.free_ok X G (c.d.fact 49 (f := .free "min") rfl)
  have m_range : mg "range" = none := He.free_ok X G (c.d.fact 50 (f := .free "range") rfl)
  have m_set : mg "set" = none := He.free_ok X G (c.d.fact 51 (f := .free "set") rfl)
  have m_str : mg "str" = none := He.free_ok X G (c.d.fact 52 (f := .free "str") rfl)
  have m_tuple : mg "tuple" = none := He.free_ok X G (c.d.fact 53 (f := .free "tuple") rfl)
  have m_zip : mg "zip" = none := He.free_ok X G (c.d.fact 54 (f := .free "zip") rfl)
  have nd2 := c.nd
  have g_LONGEST := He.int_ok X G (c.d.fact 55 (f := .int "LONGEST" 8) rfl)
  have g_LETTERS := He.str_ok X G (c.d.fact 56 (f := .str "LETTERS" "abcdefghijklmnopqrstuvwxyz") rfl)
  have g_MOST_INPUTS := He.int_ok X G (c.d.fact 57 (f := .int "MOST_INPUTS" 6) rfl)
  have g_MOST_LATCHES := He.int_ok X G (c.d.fact 58 (f := .int "MOST_LATCHES" 4) rfl)
  have g_MOST_GATES := He.int_ok X G (c.d.fact 59 (f := .int "MOST_GATES" 60) rfl)
  have g_MOST_OUTS := He.int_ok X G (c.d.fact 60 (f := .int "MOST_OUTS" 8) rfl)
  have GC_BadCost := He.glo_ok X G (c.d.fact 61 (f := .glo "BadCost") rfl)
  have GC_BadDeed := He.glo_ok X G (c.d.fact 62 (f := .glo "BadDeed") rfl)
  have GC_BadDelay := He.glo_ok X G (c.d.fact 63 (f := .glo "BadDelay") rfl)
  have GC_BadEdge := He.glo_ok X G (c.d.fact 64 (f := .glo "BadEdge") rfl)
  have GC_BadGate := He.glo_ok X G (c.d.fact 65 (f := .glo "BadGate") rfl)
  have GC_BadLeaves := He.glo_ok X G (c.d.fact 66 (f := .glo "BadLeaves") rfl)
  have GC_BadName := He.glo_ok X G (c.d.fact 67 (f := .glo "BadName") rfl)
  have GC_BadRounds := He.glo_ok X G (c.d.fact 68 (f := .glo "BadRounds") rfl)
  have GC_BadRow := He.glo_ok X G (c.d.fact 69 (f := .glo "BadRow") rfl)
  have GC_BadStart := He.glo_ok X G (c.d.fact 70 (f := .glo "BadStart") rfl)
  have GC_BadState := He.glo_ok X G (c.d.fact 71 (f := .glo "BadState") rfl)
  have GC_BadTable := He.glo_ok X G (c.d.fact 72 (f := .glo "BadTable") rfl)
  have GC_BadText := He.glo_ok X G (c.d.fact 73 (f := .glo "BadText") rfl)
  have GC_BadThings := He.glo_ok X G (c.d.fact 74 (f := .glo "BadThings") rfl)
  have GC_Full := He.glo_ok X G (c.d.fact 75 (f := .glo "Full") rfl)
  have GC_GateError := He.glo_ok X G (c.d.fact 76 (f := .glo "GateError") rfl)
  have GC_Loop := He.glo_ok X G (c.d.fact 77 (f := .glo "Loop") rfl)
  have GC_MissingError := He.glo_ok X G (c.d.fact 78 (f := .glo "MissingError") rfl)
  have GC_Net := He.glo_ok X G (c.d.fact 79 (f := .glo "Net") rfl)
  have GC_NoCell := He.glo_ok X G (c.d.fact 80 (f := .glo "NoCell") rfl)
  have GC_NoDesign := He.glo_ok X G (c.d.fact 81 (f := .glo "NoDesign") rfl)
  have GC_NoName := He.glo_ok X G (c.d.fact 82 (f := .glo "NoName") rfl)
  have GC_NoNode := He.glo_ok X G (c.d.fact 83 (f := .glo "NoNode") rfl)
  have GC_NoThing := He.glo_ok X G (c.d.fact 84 (f := .glo "NoThing") rfl)
  have GC_NoWire := He.glo_ok X G (c.d.fact 85 (f := .glo "NoWire") rfl)
  have GC_NotClosed := He.glo_ok X G (c.d.fact 86 (f := .glo "NotClosed") rfl)
  have GC_NotFolded := He.glo_ok X G (c.d.fact 87 (f := .glo "NotFolded") rfl)
  have GC_NotMovable := He.glo_ok X G (c.d.fact 88 (f := .glo "NotMovable") rfl)
  have GC_NothingLeft := He.glo_ok X G (c.d.fact 89 (f := .glo "NothingLeft") rfl)
  have GC_Taken := He.glo_ok X G (c.d.fact 90 (f := .glo "Taken") rfl)
  have GC_TooMany := He.glo_ok X G (c.d.fact 91 (f := .glo "TooMany") rfl)
  have GC_Unlike := He.glo_ok X G (c.d.fact 92 (f := .glo "Unlike") rfl)
  have CC_Net := He.cls_ok (c.d.fact 28 (f := .cls "Net") rfl)
  have NA_Net_ins := He.noat_ok (c.d.fact 30 (f := .noat "Net" "ins") rfl)
  have NA_Net_later := He.noat_ok (c.d.fact 31 (f := .noat "Net" "later") rfl)
  have NA_Net_memory := He.noat_ok (c.d.fact 32 (f := .noat "Net" "memory") rfl)
  have NA_Net_pairs := He.noat_ok (c.d.fact 33 (f := .noat "Net" "pairs") rfl)
  have NA_Net_tells := He.noat_ok (c.d.fact 34 (f := .noat "Net" "tells") rfl)
  have X_BadEdge := exOwn_of (x := "BadEdge") X G (c.d.fact 93 (f := .glo "BadEdge") rfl) (c.d.fact 94 (f := .exc "BadEdge") rfl)
  have X_BadName := exOwn_of (x := "BadName") X G (c.d.fact 95 (f := .glo "BadName") rfl) (c.d.fact 96 (f := .exc "BadName") rfl)
  have X_BadStart := exOwn_of (x := "BadStart") X G (c.d.fact 97 (f := .glo "BadStart") rfl) (c.d.fact 98 (f := .exc "BadStart") rfl)
  have X_Full := exOwn_of (x := "Full") X G (c.d.fact 99 (f := .glo "Full") rfl) (c.d.fact 100 (f := .exc "Full") rfl)
  have X_Taken := exOwn_of (x := "Taken") X G (c.d.fact 101 (f := .glo "Taken") rfl) (c.d.fact 102 (f := .exc "Taken") rfl)
  have hmore := c.more
  unfold exB at hmore
  simp only [Bool.and_eq_true] at hmore
  obtain ⟨hini_BadGate, hET, hem_Net___init___0, hem_Net___init___1, hem_Net___init___2, hem_Net___init___3⟩ := hmore
  have ho := excOk_of hET
  have b := FunD.bindsA (ps := ["script"]) FD_law fun _ _ _ _ _ _ us hl => match us, hl with | [_], _ => rfl
  have e := hfa.symm.trans (He.glo_ok X G (c.d.fact 27 (f := .glo "law") rfl))
  cases e
  refine ⟨fd_law, fun s u => b s [u] rfl, fun base TB => ?_⟩
  obtain ⟨fd_ini_BadGate, FD_ini_BadGate⟩ := c.d.def_ 32 (d := d_ini_BadGate) rfl
  have F1_BadGate : FnOk P w K mg base (L2N.CX P w) 1 (He.ma K (He.ga K "BadGate") "__init__") fd_ini_BadGate ["self", "at"] (spIni K "at") := ini_ok FD_ini_BadGate sc_ini_BadGate (.inl rfl) (.inl rfl) (by decide) (by decide) (by decide) (by decide)
  have I1_BadGate : ExIni P w K mg base (cfT K (tabsOf K tqs)) "BadGate" "at" 1 [] := exIni_of (dvs := []) hini_BadGate GC_BadGate rfl F1_BadGate (FunD.binds1 (ps := ["self", "at"]) FD_ini_BadGate 2 1 (List.cons_ne_nil _ _) rfl fun _ _ _ _ _ _ _ us its h1 h2 => match us, its, h1, h2 with | [_, _], [_], _, _ => ⟨_, rfl, rfl⟩) rfl fun _ _ => .nil
  have C_law_box : CallOk P w K mg base (cfT K (tabsOf K tqs)) "_law_box" 1 F_law_box [] := callOk_of FD_law_box (He.glo_ok X G (c.d.fact 0 (f := .glo "_law_box") rfl)) (ok_law_box FD_law_box m_list) fun _ _ _ _ _ _ us hl => match us, hl with | [_], _ => rfl
  have C_law_take : CallOk P w K mg base (cfT K (tabsOf K tqs)) "_law_take" 1 F_law_take [] := callOk_of FD_law_take (He.glo_ok X G (c.d.fact 1 (f := .glo "_law_take") rfl)) (ok_law_take FD_law_take m_len) fun _ _ _ _ _ _ us hl => match us, hl with | [_, _], _ => rfl
  have C_law_names : CallOk P w K mg base (cfT K (tabsOf K tqs)) "_law_names" 2 F_law_names [] := callOk_of FD_law_names (He.glo_ok X G (c.d.fact 2 (f := .glo "_law_names") rfl)) (ok_law_names FD_law_names m_range m_len C_law_take) fun _ _ _ _ _ _ us hl => match us, hl with | [_, _], _ => rfl
  have C_law_frame : CallOk P w K mg base (cfT K (tabsOf K tqs)) "_law_frame" 3 F_law_frame [] := callOk_of FD_law_frame (He.glo_ok X G (c.d.fact 3 (f := .glo "_law_frame") rfl)) (ok_law_frame FD_law_frame C_law_names C_law_take) fun _ _ _ _ _ _ us hl => match us, hl with | [_, _, _], _ => rfl
  have C_law_some_edge : CallOk P w K mg base (cfT K (tabsOf K tqs)) "_law_some_edge" 2 F_law_some_edge [] := callOk_of FD_law_some_edge (He.glo_ok X G (c.d.fact 4 (f := .glo "_law_some_edge") rfl)) (ok_law_some_edge FD_law_some_edge m_min C_law_take) fun _ _ _ _ _ _ us hl => match us, hl with | [_, _], _ => rfl
  have C_law_ends : CallOk P w K mg base (cfT K (tabsOf K tqs)) "_law_ends" 3 F_law_ends [] := callOk_of FD_law_ends (He.glo_ok X G (c.d.fact 5 (f := .glo "_law_ends") rfl)) (ok_law_ends FD_law_ends C_law_take C_law_some_edge) fun _ _ _ _ _ _ us hl => match us, hl with | [_, _, _, _, _], _ => rfl
  have C_law_net : CallOk P w K mg base (cfT K (tabsOf K tqs)) "_law_net" 4 F_law_net [] := callOk_of FD_law_net (He.glo_ok X G (c.d.fact 6 (f := .glo "_law_net") rfl)) (ok_law_net FD_law_net m_len m_range m_min m_max C_law_frame C_law_take C_law_some_edge C_law_ends) fun _ _ _ _ _ _ us hl => match us, hl with | [_, _, _, _, _], _ => rfl
  have C_is_name : CallOk P w K mg base (cfT K (tabsOf K tqs)) "is_name" 1 F_is_name [] := callOk_of FD_is_name (He.glo_ok X G (c.d.fact 7 (f := .glo "is_name") rfl)) (ok_is_name FD_is_name m_len m_all g_LONGEST g_LETTERS) fun _ _ _ _ _ _ us hl => match us, hl with | [_], _ => rfl
  have C_need_name : CallOk P w K mg base (cfT K (tabsOf K tqs)) "need_name" 2 F_need_name [] := callOk_of FD_need_name (He.glo_ok X G (c.d.fact 8 (f := .glo "need_name") rfl)) (ok_need_name FD_need_name X_BadName C_is_name) fun _ _ _ _ _ _ us hl => match us, hl with | [_], _ => rfl
  have C_need_names : CallOk P w K mg base (cfT K (tabsOf K tqs)) "need_names" 3 F_need_names [] := callOk_of FD_need_names (He.glo_ok X G (c.d.fact 9 (f := .glo "need_names") rfl)) (ok_need_names FD_need_names m_len m_set X_Taken C_need_name) fun _ _ _ _ _ _ us hl => match us, hl with | [_, _], _ => rfl
  obtain ⟨ds_Net___init__, hv_Net___init__, hb_Net___init__⟩ := FunD.binds1 (ps := ["self", "inputs", "latches", "gates", "outs", "nexts"]) FD_Net___init__ 6 4 (List.cons_ne_nil _ _) rfl fun _ _ _ _ _ _ _ us its h1 h2 => match us, its, h1, h2 with | [_, _, _, _, _, _], [_, _, _, _], _, _ => ⟨_, rfl, rfl⟩
  obtain ⟨ds_Net___init___4, hv_Net___init___4, hb_Net___init___4⟩ := FunD.binds1 (ps := ["self", "inputs", "latches", "gates", "outs", "nexts"]) FD_Net___init__ 2 0 (List.cons_ne_nil _ _) rfl fun _ _ _ _ _ _ _ us its h1 h2 => match us, its, h1, h2 with | [_, _], [_, _, _, _], _, _ => ⟨_, rfl, rfl⟩
  have MK_Net_d4 : MakeOk P w K mg base (cfT K (tabsOf K tqs)) "Net" 4 F_Net___init__ [.tup [], .tup [], .tup [], .tup []] := ⟨_, _, fd_Net___init__, ["self", "inputs", "latches", "gates", "outs", "nexts"], _, _, GC_Net, rfl, He.mkr_ok (c.d.fact 29 (f := .mkr "Net") rfl), ok_Net___init__ FD_Net___init__ m_list m_len m_any m_enumerate m_all g_MOST_INPUTS g_MOST_LATCHES g_MOST_GATES g_MOST_OUTS I1_BadGate X_Full X_BadStart X_BadEdge C_need_names CC_Net NA_Net_ins NA_Net_memory NA_Net_pairs NA_Net_tells NA_Net_later, hb_Net___init___4, hv_Net___init___4, fun _ _ => .cons (emTup_ok (by exact hem_Net___init___0) _ _) (.cons (emTup_ok (by exact hem_Net___init___1) _ _) (.cons (emTup_ok (by exact hem_Net___init___2) _ _) (.cons (emTup_ok (by exact hem_Net___init___3) _ _) (.nil))))⟩
  have MK_Net : MakeOk P w K mg base (cfT K (tabsOf K tqs)) "Net" 4 F_Net___init__ [] := ⟨_, _, fd_Net___init__, ["self", "inputs", "latches", "gates", "outs", "nexts"], _, [], GC_Net, rfl, He.mkr_ok (c.d.fact 29 (f := .mkr "Net") rfl), ok_Net___init__ FD_Net___init__ m_list m_len m_any m_enumerate m_all g_MOST_INPUTS g_MOST_LATCHES g_MOST_GATES g_MOST_OUTS I1_BadGate X_Full X_BadStart X_BadEdge C_need_names CC_Net NA_Net_ins NA_Net_memory NA_Net_pairs NA_Net_tells NA_Net_later, hb_Net___init__, hv_Net___init__, fun _ _ => .nil⟩
  have C_law_made : CallOk P w K mg base (cfT K (tabsOf K tqs)) "_law_made" 6 F_law_made [] := callOk_of FD_law_made (He.glo_ok X G (c.d.fact 10 (f := .glo "_law_made") rfl)) (ok_law_made FD_law_made m_list MK_Net) fun _ _ _ _ _ _ us hl => match us, hl with | [_], _ => rfl
  have C_law_bit : CallOk P w K mg base (cfT K (tabsOf K tqs)) "_law_bit" 1 F_law_bit [] := callOk_of FD_law_bit (He.glo_ok X G (c.d.fact 11 (f := .glo "_law_bit") rfl)) (ok_law_bit FD_law_bit ) fun _ _ _ _ _ _ us hl => match us, hl with | [_, _], _ => rfl
  have C_law_told : CallOk P w K mg base (cfT K (tabsOf K tqs)) "_law_told" 1 F_law_told [] := callOk_of FD_law_told (He.glo_ok X G (c.d.fact 12 (f := .glo "_law_told") rfl)) (ok_law_told FD_law_told ) fun _ _ _ _ _ _ us hl => match us, hl with | [_, _], _ => rfl
  have C_law_values : CallOk P w K mg base (cfT K (tabsOf K tqs)) "_law_values" 2 F_law_values [] := callOk_of FD_law_values (He.glo_ok X G (c.d.fact 13 (f := .glo "_law_values") rfl)) (ok_law_values FD_law_values m_len m_range C_law_bit C_law_told) fun _ _ _ _ _ _ us hl => match us, hl with | [_, _], _ => rfl
  have C_law_things : CallOk P w K mg base (cfT K (tabsOf K tqs)) "_law_things" 1 F_law_things [] := callOk_of FD_law_things (He.glo_ok X G (c.d.fact 14 (f := .glo "_law_things") rfl)) (ok_law_things FD_law_things m_len) fun _ _ _ _ _ _ us hl => match us, hl with | [_], _ => rfl
  have C_law_tables : CallOk P w K mg base (cfT K (tabsOf K tqs)) "_law_tables" 3 F_law_tables [] := callOk_of FD_law_tables (He.glo_ok X G (c.d.fact 15 (f := .glo "_law_tables") rfl)) (ok_law_tables FD_law_tables m_len m_range C_law_things C_law_values) fun _ _ _ _ _ _ us hl => match us, hl with | [_], _ => rfl
  have C_law_far : CallOk P w K mg base (cfT K (tabsOf K tqs)) "_law_far" 2 F_law_far [] := callOk_of FD_law_far (He.glo_ok X G (c.d.fact 16 (f := .glo "_law_far") rfl)) (ok_law_far FD_law_far C_law_take) fun _ _ _ _ _ _ us hl => match us, hl with | [_, _], _ => rfl
  have M_Net_things : MethOk P w K mg base (cfT K (tabsOf K tqs)) "Net" "things" 1 F_Net_things [] := ⟨_, _, fd_Net_things, ["self"], _, [], rfl, CC_Net, He.meth_ok (c.d.fact 35 (f := .meth "Net" "things") rfl), ok_Net_things FD_Net_things m_len CC_Net NA_Net_ins NA_Net_memory, (FunD.bindsN (ps := ["self"]) FD_Net_things fun _ _ _ _ _ _ us hl => match us, hl with | [_], _ => rfl), .nil, fun _ _ => .nil⟩
  have C_full_of : CallOk P w K mg base (cfT K (tabsOf K tqs)) "full_of" 1 F_full_of [] := callOk_of FD_full_of (He.glo_ok X G (c.d.fact 17 (f := .glo "full_of") rfl)) (ok_full_of FD_full_of ) fun _ _ _ _ _ _ us hl => match us, hl with | [_], _ => rfl
  have M_Net_gates : MethOk P w K mg base (cfT K (tabsOf K tqs)) "Net" "gates" 1 F_Net_gates [] := ⟨_, _, fd_Net_gates, ["self"], _, [], rfl, CC_Net, He.meth_ok (c.d.fact 36 (f := .meth "Net" "gates") rfl), ok_Net_gates FD_Net_gates m_list CC_Net NA_Net_pairs, (FunD.bindsN (ps := ["self"]) FD_Net_gates fun _ _ _ _ _ _ us hl => match us, hl with | [_], _ => rfl), .nil, fun _ _ => .nil⟩
  have C_column_of : CallOk P w K mg base (cfT K (tabsOf K tqs)) "column_of" 1 F_column_of [] := callOk_of FD_column_of (He.glo_ok X G (c.d.fact 18 (f := .glo "column_of") rfl)) (ok_column_of FD_column_of ) fun _ _ _ _ _ _ us hl => match us, hl with | [_, _], _ => rfl
  have C_signed : CallOk P w K mg base (cfT K (tabsOf K tqs)) "signed" 1 F_signed [] := callOk_of FD_signed (He.glo_ok X G (c.d.fact 19 (f := .glo "signed") rfl)) (ok_signed FD_signed ) fun _ _ _ _ _ _ us hl => match us, hl with | [_, _, _], _ => rfl
  have C_tables_of : CallOk P w K mg base (cfT K (tabsOf K tqs)) "tables_of" 2 F_tables_of [] := callOk_of FD_tables_of (He.glo_ok X G (c.d.fact 20 (f := .glo "tables_of") rfl)) (ok_tables_of FD_tables_of m_range C_full_of C_column_of C_signed M_Net_things M_Net_gates) fun _ _ _ _ _ _ us hl => match us, hl with | [_], _ => rfl
  have C_tables : CallOk P w K mg base (cfT K (tabsOf K tqs)) "tables" 3 F_tables [] := callOk_of FD_tables (He.glo_ok X G (c.d.fact 21 (f := .glo "tables") rfl)) (ok_tables FD_tables C_tables_of) fun _ _ _ _ _ _ us hl => match us, hl with | [_], _ => rfl
  have C_law_same : CallOk P w K mg base (cfT K (tabsOf K tqs)) "_law_same" 6 (F_law_same 6) [] := callOk_of FD_law_same (He.glo_ok X G (c.d.fact 22 (f := .glo "_law_same") rfl)) (ok_law_same FD_law_same m_list m_tuple m_isinstance m_len m_zip m_all m_bool m_int m_str (He.glo_ok X G (c.d.fact 22 (f := .glo "_law_same") rfl)) 6) fun _ _ _ _ _ _ us hl => match us, hl with | [_, _], _ => rfl
  have M_Net_many : MethOk P w K mg base (cfT K (tabsOf K tqs)) "Net" "many" 2 F_Net_many [] := ⟨_, _, fd_Net_many, ["self"], _, [], rfl, CC_Net, He.meth_ok (c.d.fact 37 (f := .meth "Net" "many") rfl), ok_Net_many FD_Net_many m_len CC_Net NA_Net_pairs M_Net_things, (FunD.bindsN (ps := ["self"]) FD_Net_many fun _ _ _ _ _ _ us hl => match us, hl with | [_], _ => rfl), .nil, fun _ _ => .nil⟩
  have C_need_edge : CallOk P w K mg base (cfT K (tabsOf K tqs)) "need_edge" 3 F_need_edge [] := callOk_of FD_need_edge (He.glo_ok X G (c.d.fact 23 (f := .glo "need_edge") rfl)) (ok_need_edge FD_need_edge X_BadEdge M_Net_many) fun _ _ _ _ _ _ us hl => match us, hl with | [_, _], _ => rfl
  have C_edge_table : CallOk P w K mg base (cfT K (tabsOf K tqs)) "edge_table" 4 F_edge_table [] := callOk_of FD_edge_table (He.glo_ok X G (c.d.fact 24 (f := .glo "edge_table") rfl)) (ok_edge_table FD_edge_table C_need_edge C_tables_of C_full_of C_signed M_Net_things) fun _ _ _ _ _ _ us hl => match us, hl with | [_, _], _ => rfl
  have CX_law_kin : ∀ x, CallOkX P w K mg base ((cfT K (tabsOf K tqs)).exc x) "_law_kin" 1 F_law_kin := fun x => callOkX_of FD_law_kin (He.glo_ok X G (c.d.fact 25 (f := .glo "_law_kin") rfl)) (okX_law_kin FD_law_kin m_isinstance m_zip m_ValueError m_LookupError ho GC_BadThings GC_BadTable GC_NoThing GC_BadName GC_Taken GC_Full GC_BadStart GC_BadEdge GC_NoNode GC_NoName GC_BadRow GC_NothingLeft GC_NotFolded GC_BadLeaves GC_Unlike GC_BadState GC_NotClosed GC_NotMovable GC_BadDelay GC_BadCost GC_TooMany GC_BadDeed GC_BadRounds GC_BadGate GC_BadText GC_Loop GC_NoCell GC_NoDesign GC_NoWire x) fun _ _ _ _ _ _ us hl => match us, hl with | [_], _ => rfl
  have TR_law_tried : ∀ k, 1 ≤ k → TriedOk P w K mg base (cfT K (tabsOf K tqs)) "_law_tried" k TF_law_tried := fun k hk => tr_law_tried FD_law_tried (He.glo_ok X G (c.d.fact 26 (f := .glo "_law_tried") rfl)) ho GC_GateError GC_MissingError CX_law_kin k hk
  have mem_law : ((("law" : Str), (none : Option Str)), ("law" : Str)) ∈ tqs := by unfold tqs; repeat (first | exact List.Mem.head _ | apply List.Mem.tail)
  have la_law : LamAt base mg (tabsOf K tqs) fd_law "law" _ _ := lamAt_of (p := ("law", none)) FD_law mem_law c.dis (TB _ mem_law)
  exact ok_law FD_law m_range m_len TR_law_tried C_law_box C_law_take C_law_net C_law_made C_law_tables C_tables C_law_same C_law_things C_edge_table C_law_far MK_Net_d4 la_law
end K07
open PySem PySem.W PySem.Calls PyProof.Rows Gm K07
namespace K07
theorem holds_of (law : ∀ ns : List Int, ns.length ≤ 63 → ∃ h', F_law [.fro (ns.map .int)] [] = .ok (.bl true) h') : PySem.Challenge.rw_gatemill_k07_tables_of_nodes.Holds := by
  w_on; o_law
  refine HandSHeadRun.head_any (r := (PySem.W.OpenLaw.row PySem.Challenge.rw_gatemill_k07_tables_of_nodes)) (q := PySem.W.view (PySem.W.OpenLaw.row PySem.Challenge.rw_gatemill_k07_tables_of_nodes).prog [69]) (H := hookN 6 fas fns tqs exB) (ob := obN 6 fas fns tqs exB) (M := 20000) (loose := looseN) (d := HandSHeadRun.topDef (PySem.W.OpenLaw.row PySem.Challenge.rw_gatemill_k07_tables_of_nodes).prog 69) (kwd := []) obN_eq
    (by kernel_rfl) (fun s => by kernel_rfl) run (by kernel_rfl) (by kernel_rfl) (by kernel_rfl) (by rfl) (by first | assumption | decide +kernel) (by decide +kernel) ⟨rfl, rfl, rfl, rfl, rfl, by decide +kernel⟩ ?hw ?hc
  case hw => w_witness2
  case hc =>
    refine walk_gmT (l := PySem.Challenge.rw_gatemill_k07_tables_of_nodes) (n := 63) (k := 7) rfl (by decide) (by kernel_rfl) ⟨rfl, by decide, by decide⟩ (fun w K h mg f X G hm c => ?_) law
    have e : (HandSHeadRun.topDef (PySem.W.OpenLaw.row PySem.Challenge.rw_gatemill_k07_tables_of_nodes).prog 69).name = ("law" : Str) := by kernel_rfl
    rw [e] at hm
    exact facts X G hm c
end K07

theorem PySem.Challenge.cw_gatemill_k07_tables_of_nodes_holds : PySem.Challenge.rw_gatemill_k07_tables_of_nodes.Holds :=
  holds_of law_true
