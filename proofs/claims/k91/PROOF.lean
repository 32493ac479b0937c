import PyProof.Rows.All
import Wide.All
import OpenK.AllK
import Wide.FinOn
import HandS.ForMost
import HandS.Exc
import HandS.ExcOwn
import HandS.WordsExc
import HandS.TryOnly
import HandS.TryMany
import HandS.Walk
import HandS.Flow
import HandS.Deep
import HandS.Small
import HandS.TupAny
import HandS.TupMul
import HandS.WideBits
import HandS.SortOrd
import HandS.SortInts
import HandS.DictComp
import HandS.Conv
import HandS.IsInst
import HandS.Style
import HandS.Lambda
import KE.GoesMore
import KE.GoesEnum
import HandS.Zip
import HandS.NamedTupSort
import HandS.Sort
import HandS.TupSets
import HandS.ExcIs
import HandS.EndTab
import HandS.OwnEq
import KE.SortKeyHeap
import HandS.TupLen
import HandS.WordsDict
import KE.KDictSum
import KE.KDictCopyH
import KE.KDictLaws
import KE.KNestM
import PySem.Challenge.RW_clearhall_k91_whole_who_adds_last
set_option Elab.async false
set_option linter.all false
set_option maxRecDepth 100000
set_option maxHeartbeats 2000000
/-! A layer over the hand layer: values told by their content, code told as functions of them. -/
namespace Sim
open PySem PySem.Spec L2
open PyProof.Rows hiding St

/-- a value told by its content; a cell is a thing that may change -/
inductive AV where
  | non | bl (b : Bool) | int (i : Int) | str (x : Str) | ty (n : String)
  | tup (xs : List AV) | lst (xs : List AV)
  | dct (kvs : List (AV × AV))
  | obj (c : Str) (fs : List (Str × AV))
  | scr (ns : List Int)
  | ctp (ns : List Int)
  | cell (n : Nat)

inductive Cell where
  | lst (xs : List AV)
  | frz (v : AV)
  | dct (kvs : List (AV × AV))
  | ins (c : Str) (fs : List (Str × AV))

abbrev Hs := List Cell

inductive Res (α : Type) where
  | ok (a : α) (h : Hs)
  | exc (c : Str) (fs : List (Str × AV)) (h : Hs)
  | bad

abbrev M (α : Type) := Hs → Res α
def M.ret {α : Type} (a : α) : M α := fun h => .ok a h
def M.bnd {α β : Type} (m : M α) (f : α → M β) : M β := fun h => match m h with
  | .ok a h' => f a h'
  | .exc c fs h' => .exc c fs h'
  | .bad => .bad
def M.bad {α : Type} : M α := fun _ => .bad
def M.opt {α : Type} (o : Option α) : M α := fun h => match o with
  | some a => .ok a h
  | none => .bad

/-- what the ghost knows: what never changes (F), where the cells are (mu), what others hold (Z) -/
structure Gh where
  F : Hp
  mu : Nat → Option Addr
  Z : Hp
  T : List (Addr × Str)

section
variable (K : PySem.W.Frag) (mg : Str → Option Value) (G : Gh)
mutual
inductive R : AV → V → Prop
  | non : R .non .non
  | bl (b : Bool) : R (.bl b) (.bl b)
  | int (i : Int) : R (.int i) (.int i)
  | str (x : Str) : R (.str x) (.str x)
  | ty (n : String) : R (.ty n) (.ty n)
  | tup {xs : List AV} {a : Addr} {vs : List V} : G.F a = some (.tup vs) → Rs xs vs → R (.tup xs) (.ref a)
  | lst {xs : List AV} {a : Addr} {vs : List V} : G.F a = some (.lst vs) → Rs xs vs → R (.lst xs) (.ref a)
  | obj {c : Str} {C a dx : Addr} {fs : List (Str × AV)} {vfs : List (Str × V)} : mg c = some (.ref C) → G.F a = some (.ins C dx vfs) → Rf fs vfs → R (.obj c fs) (.ref a)
  | dctK {a : Addr} {kvs : List (AV × AV)} {o : Obj} {vks : List (Key × V)} : G.F a = some (.frz o (.dK vks)) → RkK kvs vks → R (.dct kvs) (.ref a)
  | dctT {a : Addr} {kvs : List (AV × AV)} {o : Obj} {vks : List (List Key × V)} : G.F a = some (.frz o (.dT vks)) → RkT kvs vks → R (.dct kvs) (.ref a)
  | scr {ns : List Int} {a : Addr} : SqL K G.F a (ns.map V.int) → R (.scr ns) (.ref a)
  | ctp {ns : List Int} {a : Addr} : (∀ H, SqT K H a (ns.map V.int)) → R (.ctp ns) (.ref a)
  | cell {n : Nat} {a : Addr} : G.mu n = some a → R (.cell n) (.ref a)
inductive Rs : List AV → List V → Prop
  | nil : Rs [] []
  | cons {x : AV} {xs : List AV} {v : V} {vs : List V} : R x v → Rs xs vs → Rs (x :: xs) (v :: vs)
inductive Rf : List (Str × AV) → List (Str × V) → Prop
  | nil : Rf [] []
  | cons {f : Str} {x : AV} {xs : List (Str × AV)} {v : V} {vs : List (Str × V)} : R x v → Rf xs vs → Rf ((f, x) :: xs) ((f, v) :: vs)
inductive RkK : List (AV × AV) → List (Key × V) → Prop
  | nil : RkK [] []
  | int {i : Int} {x : AV} {xs : List (AV × AV)} {v : V} {vs : List (Key × V)} : R x v → RkK xs vs → RkK ((.int i, x) :: xs) ((.inl i, v) :: vs)
  | str {i : Str} {x : AV} {xs : List (AV × AV)} {v : V} {vs : List (Key × V)} : R x v → RkK xs vs → RkK ((.str i, x) :: xs) ((.inr i, v) :: vs)
inductive RkT : List (AV × AV) → List (List Key × V) → Prop
  | nil : RkT [] []
  | cons {ks : List Key} {x : AV} {xs : List (AV × AV)} {v : V} {vs : List (List Key × V)} : R x v → RkT xs vs → RkT ((.tup (ks.map fun k => match k with | .inl i => .int i | .inr z => .str z), x) :: xs) ((ks, v) :: vs)
end
end

/-- G' knows more -/
structure Gh.le (G G' : Gh) : Prop where
  F : Same G.F G'.F
  mu : ∀ n a, G.mu n = some a → G'.mu n = some a
  Z : G'.Z = G.Z
  T : G'.T = G.T
/-- .. what others hold left aside -/
structure Gh.lt (G G' : Gh) : Prop where
  F : Same G.F G'.F
  mu : ∀ n a, G.mu n = some a → G'.mu n = some a
  T : G'.T = G.T
theorem Gh.le.refl (G : Gh) : G.le G := ⟨Same.refl _, fun _ _ h => h, rfl, rfl⟩
theorem Gh.le.trans {A B C : Gh} (h : A.le B) (k : B.le C) : A.le C := ⟨h.F.trans k.F, fun n a e => k.mu n a (h.mu n a e), k.Z.trans h.Z, k.T.trans h.T⟩
theorem Gh.le.lt {A B : Gh} (h : A.le B) : A.lt B := ⟨h.F, h.mu, h.T⟩
theorem sameT {K : PySem.W.Frag} {H H' : Hp} {a : Addr} {xs : List V} (e : Same H H') (h : SqT K H a xs) : SqT K H' a xs := by
  rcases h with (h | ⟨o, h⟩) | h
  · exact .inl (.inl (e _ _ h))
  · exact .inl (.inr ⟨o, e _ _ h⟩)
  · exact .inr h
section
variable {K : PySem.W.Frag} {mg : Str → Option Value} {G G' : Gh}
mutual
theorem R.monoL (l : G.lt G') : ∀ {x : AV} {v : V}, R K mg G x v → R K mg G' x v
  | _, _, .non => .non
  | _, _, .bl b => .bl b
  | _, _, .int b => .int b
  | _, _, .str b => .str b
  | _, _, .ty b => .ty b
  | _, _, .tup h t => .tup (l.F _ _ h) (Rs.monoL l t)
  | _, _, .lst h t => .lst (l.F _ _ h) (Rs.monoL l t)
  | _, _, .obj h e t => .obj h (l.F _ _ e) (Rf.monoL l t)
  | _, _, .dctK e t => .dctK (l.F _ _ e) (RkK.monoL l t)
  | _, _, .dctT e t => .dctT (l.F _ _ e) (RkT.monoL l t)
  | _, _, .scr h => .scr (l.F.seq h)
  | _, _, .ctp h => .ctp h
  | _, _, .cell h => .cell (l.mu _ _ h)
theorem Rs.monoL (l : G.lt G') : ∀ {x : List AV} {v : List V}, Rs K mg G x v → Rs K mg G' x v
  | _, _, .nil => .nil
  | _, _, .cons h t => .cons (R.monoL l h) (Rs.monoL l t)
theorem Rf.monoL (l : G.lt G') : ∀ {x : List (Str × AV)} {v : List (Str × V)}, Rf K mg G x v → Rf K mg G' x v
  | _, _, .nil => .nil
  | _, _, .cons h t => .cons (R.monoL l h) (Rf.monoL l t)
theorem RkK.monoL (l : G.lt G') : ∀ {x : List (AV × AV)} {v : List (Key × V)}, RkK K mg G x v → RkK K mg G' x v
  | _, _, .nil => .nil
  | _, _, .int h t => .int (R.monoL l h) (RkK.monoL l t)
  | _, _, .str h t => .str (R.monoL l h) (RkK.monoL l t)
theorem RkT.monoL (l : G.lt G') : ∀ {x : List (AV × AV)} {v : List (List Key × V)}, RkT K mg G x v → RkT K mg G' x v
  | _, _, .nil => .nil
  | _, _, .cons h t => .cons (R.monoL l h) (RkT.monoL l t)
end
theorem R.mono (l : G.le G') {x : AV} {v : V} (r : R K mg G x v) : R K mg G' x v := R.monoL l.lt r
theorem Rs.mono (l : G.le G') {x : List AV} {v : List V} (r : Rs K mg G x v) : Rs K mg G' x v := Rs.monoL l.lt r
theorem Rf.mono (l : G.le G') {x : List (Str × AV)} {v : List (Str × V)} (r : Rf K mg G x v) : Rf K mg G' x v := Rf.monoL l.lt r
theorem RkK.mono (l : G.le G') {x : List (AV × AV)} {v : List (Key × V)} (r : RkK K mg G x v) : RkK K mg G' x v := RkK.monoL l.lt r
theorem RkT.mono (l : G.le G') {x : List (AV × AV)} {v : List (List Key × V)} (r : RkT K mg G x v) : RkT K mg G' x v := RkT.monoL l.lt r
theorem Rs.length : ∀ {xs : List AV} {vs : List V}, Rs K mg G xs vs → xs.length = vs.length
  | _, _, .nil => rfl
  | _, _, .cons _ t => by rw [List.length_cons, List.length_cons, Rs.length t]
theorem Rs.append : ∀ {xs ys : List AV} {vs ws : List V}, Rs K mg G xs vs → Rs K mg G ys ws → Rs K mg G (xs ++ ys) (vs ++ ws)
  | _, _, _, _, .nil, s => s
  | _, _, _, _, .cons r t, s => .cons r (Rs.append t s)
theorem Rs.get : ∀ {xs : List AV} {vs : List V} {i : Nat} {x : AV}, Rs K mg G xs vs → xs[i]? = some x → ∃ v, vs[i]? = some v ∧ R K mg G x v
  | _, _, _, _, .nil, e => by simp at e
  | _, _, 0, _, .cons r _, e => by simp at e; subst e; exact ⟨_, rfl, r⟩
  | _, _, i + 1, x, .cons _ t, e => by
    obtain ⟨u, h1, h2⟩ := Rs.get (i := i) (x := x) t (by simpa using e)
    exact ⟨u, by simpa using h1, h2⟩
theorem Rs.getV : ∀ {xs : List AV} {vs : List V} {i : Nat} {v : V}, Rs K mg G xs vs → vs[i]? = some v → ∃ x, xs[i]? = some x ∧ R K mg G x v
  | _, _, _, _, .nil, e => by simp at e
  | _, _, 0, _, .cons r _, e => by simp at e; subst e; exact ⟨_, rfl, r⟩
  | _, _, i + 1, x, .cons _ t, e => by
    obtain ⟨u, h1, h2⟩ := Rs.getV (i := i) (v := x) t (by simpa using e)
    exact ⟨u, by simpa using h1, h2⟩
theorem Rs.set {x : AV} {v : V} (r : R K mg G x v) : ∀ {xs : List AV} {vs : List V} (i : Nat), Rs K mg G xs vs → Rs K mg G (xs.set i x) (vs.set i v)
  | _, _, _, .nil => .nil
  | _, _, 0, .cons _ t => .cons r t
  | _, _, i + 1, .cons q t => .cons q (Rs.set r i t)
theorem Rs.take : ∀ {xs : List AV} {vs : List V} (n : Nat), Rs K mg G xs vs → Rs K mg G (xs.take n) (vs.take n)
  | _, _, 0, _ => .nil
  | _, _, _ + 1, .nil => .nil
  | _, _, n + 1, .cons r t => .cons r (Rs.take n t)
theorem Rs.drop : ∀ {xs : List AV} {vs : List V} (n : Nat), Rs K mg G xs vs → Rs K mg G (xs.drop n) (vs.drop n)
  | _, _, 0, r => r
  | _, _, _ + 1, .nil => .nil
  | _, _, n + 1, .cons _ t => Rs.drop n t
theorem Rs.eraseIdx : ∀ {xs : List AV} {vs : List V} (i : Nat), Rs K mg G xs vs → Rs K mg G (xs.eraseIdx i) (vs.eraseIdx i)
  | _, _, _, .nil => .nil
  | _, _, 0, .cons _ t => t
  | _, _, i + 1, .cons r t => .cons r (Rs.eraseIdx i t)
theorem Rs.dropLast : ∀ {xs : List AV} {vs : List V}, Rs K mg G xs vs → Rs K mg G xs.dropLast vs.dropLast
  | _, _, .nil => .nil
  | _, _, .cons _ .nil => .nil
  | _, _, .cons r (.cons q t) => .cons r (Rs.dropLast (.cons q t))
theorem Rs.ints : ∀ {ns : List Int} {vs : List V}, Rs K mg G (ns.map AV.int) vs → vs = ns.map V.int
  | [], _, .nil => rfl
  | n :: ns, _, .cons r t => by cases r; rw [Rs.ints t]; rfl
theorem Rs.of_ints : ∀ (ns : List Int), Rs K mg G (ns.map AV.int) (ns.map V.int)
  | [] => .nil
  | n :: ns => .cons (.int n) (Rs.of_ints ns)
theorem Rs.strs : ∀ {ns : List Str} {vs : List V}, Rs K mg G (ns.map AV.str) vs → vs = ns.map V.str
  | [], _, .nil => rfl
  | n :: ns, _, .cons r t => by cases r; rw [Rs.strs t]; rfl
theorem Rs.bls : ∀ {ns : List Bool} {vs : List V}, Rs K mg G (ns.map AV.bl) vs → vs = ns.map V.bl
  | [], _, .nil => rfl
  | n :: ns, _, .cons r t => by cases r; rw [Rs.bls t]; rfl
theorem Rf.look : ∀ {fs : List (Str × AV)} {vfs : List (Str × V)} {f : Str} {x : AV}, Rf K mg G fs vfs → fs.lookup f = some x → ∃ v, vfs.lookup f = some v ∧ R K mg G x v
  | _, _, _, _, .nil, e => by simp at e
  | (g, y) :: fs, (_, w) :: vfs, f, x, .cons r t, e => by
    rw [List.lookup_cons] at e
    rw [List.lookup_cons]
    cases hb : f == g with
    | true => rw [hb] at e; exact ⟨w, rfl, by cases e; exact r⟩
    | false => rw [hb] at e; exact Rf.look t e
theorem Rf.lookN : ∀ {fs : List (Str × AV)} {vfs : List (Str × V)} {f : Str}, Rf K mg G fs vfs → fs.lookup f = none → vfs.lookup f = none
  | _, _, _, .nil, e => rfl
  | (g, y) :: fs, (_, w) :: vfs, f, .cons r t, e => by
    rw [List.lookup_cons] at e
    rw [List.lookup_cons]
    cases hb : f == g with
    | true => rw [hb] at e; cases e
    | false => rw [hb] at e; exact Rf.lookN t e
theorem Rf.length : ∀ {fs : List (Str × AV)} {vfs : List (Str × V)}, Rf K mg G fs vfs → fs.length = vfs.length
  | _, _, .nil => rfl
  | _, _, .cons _ t => by rw [List.length_cons, List.length_cons, Rf.length t]
/-- putF, told of contents -/
def putA (f : Str) (x : AV) : List (Str × AV) → List (Str × AV)
  | [] => [(f, x)]
  | (g, y) :: r => if g = f then (g, x) :: r else (g, y) :: putA f x r
end
end Sim

set_option Elab.async false
set_option linter.all false
set_option maxRecDepth 100000
set_option maxHeartbeats 2000000
namespace Sim
open PySem PySem.Spec L2
open PyProof.Rows hiding St

/-- which tables of code objects are known -/
class TabT where
  T : List (Addr × Str)
variable [TabT]
section
variable (K : PySem.W.Frag) (mg : Str → Option Value)
def CellOk (G : Gh) (H : Hp) (n : Nat) : Cell → Prop
  | .lst xs => ∃ a vs, G.mu n = some a ∧ G.F a = none ∧ G.Z a = none ∧ H a = some (.lst vs) ∧ Rs K mg G xs vs
  | .dct kvs => ∃ a, G.mu n = some a ∧ G.F a = none ∧ G.Z a = none ∧ ((∃ vks, H a = some (.dK vks) ∧ RkK K mg G kvs vks) ∨ (∃ vks, H a = some (.dT vks) ∧ RkT K mg G kvs vks))
  | .ins c fs => ∃ a C dx vfs, G.mu n = some a ∧ G.F a = none ∧ G.Z a = none ∧ mg c = some (.ref C) ∧ H a = some (.ins C dx vfs) ∧ Rf K mg G fs vfs
  | .frz v => ∃ a o, G.mu n = some a ∧ G.F a = some o ∧ R K mg G v (.ref a)
/-- what nobody holds aside -/
inductive FixO : HO → Prop
  | tbl (ps : Array Value) : FixO (.tbl ps)
  | tup (vs : List V) : FixO (.tup vs)
/-- the tables of code objects -/
structure TbOk (G : Gh) (H : Hp) : Prop where
  T : LamX.Tabs TabT.T H
  nF : ∀ a ps, G.F a ≠ some (.tbl ps)
  nZ : ∀ a o, FixO o → G.Z a ≠ some o
/-- tables and their code objects stay -/
theorem tabs_stay {T : List (Addr × Str)} {H H' : Hp} (t : LamX.Tabs T H) (e1 : ∀ b ps, H b = some (.tbl ps) → H' b = some (.tbl ps)) (e2 : ∀ b f, H b = some (.ext f) → H' b = some (.ext f)) : LamX.Tabs T H' := fun p hp => by
  obtain ⟨ps, h1, h2, h3⟩ := t p hp
  refine ⟨ps, e1 _ _ h1, h2, fun pos cv hc => ?_⟩
  obtain ⟨c, q1, q2⟩ := h3 pos cv hc
  exact ⟨c, q1, e2 _ _ q2⟩
theorem tabs_new {T : List (Addr × Str)} {H : Hp} {p : Addr} {o : HO} (t : LamX.Tabs T H) (e : H p = none) : LamX.Tabs T (upd H p o) :=
  tabs_stay t (fun b ps q => by rw [upd_ne (ne_of_none q e)]; exact q) (fun b ps q => by rw [upd_ne (ne_of_none q e)]; exact q)
theorem tabs_put {T : List (Addr × Str)} {H : Hp} {p : Addr} {o u : HO} (t : LamX.Tabs T H) (e : H p = some u) (h1 : ∀ ps, u ≠ .tbl ps) (h2 : ∀ f, u ≠ .ext f) : LamX.Tabs T (upd H p o) :=
  tabs_stay t (fun b ps q => by rw [upd_ne (fun z => h1 ps (by rw [z, e] at q; exact Option.some.inj q))]; exact q) (fun b ps q => by rw [upd_ne (fun z => h2 ps (by rw [z, e] at q; exact Option.some.inj q))]; exact q)
structure WI (G : Gh) (h : Hs) (H : Hp) : Prop where
  F : Same G.F H
  Z : Same G.Z H
  FZ : ∀ a o, G.Z a = some o → G.F a = none
  cells : ∀ n c, h[n]? = some c → CellOk K mg G H n c
  bnd : ∀ n a, G.mu n = some a → n < h.length
  inj : ∀ n m a, G.mu n = some a → G.mu m = some a → n = m
  tb : TbOk G H
end

section
variable {K : PySem.W.Frag} {mg : Str → Option Value} {G G' : Gh} {h h' : Hs} {H H' : Hp} {a p : Addr} {o : HO} {n : Nat} {c : Cell}
theorem CellOk.at (x : CellOk K mg G H n c) : ∃ a o, G.mu n = some a ∧ (H a = some o ∨ G.F a = some o) := by
  cases c with
  | lst xs => obtain ⟨a, vs, h1, _, _, h2, _⟩ := x; exact ⟨a, _, h1, .inl h2⟩
  | dct kvs => obtain ⟨a, h1, _, _, ⟨_, h2, _⟩ | ⟨_, h2, _⟩⟩ := x <;> exact ⟨a, _, h1, .inl h2⟩
  | ins c fs => obtain ⟨a, C, dx, vfs, h1, _, _, _, h2, _⟩ := x; exact ⟨a, _, h1, .inl h2⟩
  | frz v => obtain ⟨a, o, h1, h2, _⟩ := x; exact ⟨a, o, h1, .inr h2⟩
theorem WI.there (w : WI K mg G h H) (e : G.mu n = some a) : ∃ o, H a = some o := by
  have hl := w.bnd n a e
  obtain ⟨b, o, h1, h2⟩ := (w.cells n h[n] (List.getElem?_eq_getElem hl)).at
  rw [e] at h1
  cases h1
  rcases h2 with h2 | h2
  · exact ⟨o, h2⟩
  · exact ⟨o, w.F _ _ h2⟩
theorem WI.freeF (w : WI K mg G h H) (e : H p = none) : G.F p = none := w.F.free e
theorem WI.freeZ (w : WI K mg G h H) (e : H p = none) : G.Z p = none := w.Z.free e
theorem WI.freeM (w : WI K mg G h H) (e : H p = none) : ∀ n, G.mu n ≠ some p := fun n q => by
  obtain ⟨o, z⟩ := w.there q
  rw [e] at z
  cases z
/-- all that is tracked stays, and no cell is looked at anew -/
theorem CellOk.stay (x : CellOk K mg G H n c) (l : G.le G') (hF : ∀ a, G.mu n = some a → G.F a = none → G'.F a = none) (hH : ∀ a o, G.mu n = some a → H a = some o → H' a = some o) : CellOk K mg G' H' n c := by
  have hZ : ∀ a, G.Z a = none → G'.Z a = none := fun a e => by rw [l.Z]; exact e
  cases c with
  | lst xs => obtain ⟨a, vs, h1, h2, hz, h3, h4⟩ := x; exact ⟨a, vs, l.mu _ _ h1, hF a h1 h2, hZ a hz, hH a _ h1 h3, h4.mono l⟩
  | dct kvs =>
    obtain ⟨a, h1, h2, hz, ⟨vks, h3, h4⟩ | ⟨vks, h3, h4⟩⟩ := x
    · exact ⟨a, l.mu _ _ h1, hF a h1 h2, hZ a hz, .inl ⟨vks, hH a _ h1 h3, h4.mono l⟩⟩
    · exact ⟨a, l.mu _ _ h1, hF a h1 h2, hZ a hz, .inr ⟨vks, hH a _ h1 h3, h4.mono l⟩⟩
  | ins c fs => obtain ⟨a, C, dx, vfs, h1, h2, hz, hc, h3, h4⟩ := x; exact ⟨a, C, dx, vfs, l.mu _ _ h1, hF a h1 h2, hZ a hz, hc, hH a _ h1 h3, h4.mono l⟩
  | frz v => obtain ⟨a, o, h1, h2, h3⟩ := x; exact ⟨a, o, l.mu _ _ h1, l.F _ _ h2, h3.mono l⟩

def Gh.addF (G : Gh) (p : Addr) (o : HO) : Gh := { G with F := upd G.F p o }
theorem Gh.addF_le (e : G.F p = none) : G.le (G.addF p o) := ⟨fun b u q => by
  show upd G.F p o b = some u
  rw [upd_ne (ne_of_none q e)]
  exact q, fun _ _ q => q, rfl, rfl⟩
/-- a new thing that never changes -/
theorem WI.newF (w : WI K mg G h H) (e : H p = none) (ho : ∀ ps, o ≠ .tbl ps := by intro _ q; cases q) : WI K mg (G.addF p o) h (upd H p o) := by
  have hF := w.freeF e
  have hM := w.freeM e
  have hZ := w.freeZ e
  have l : G.le (G.addF p o) := Gh.addF_le hF
  refine ⟨fun b u q => ?_, fun b u q => ?_, fun b u q => ?_, fun n c hc => ?_, w.bnd, w.inj, tabs_new w.tb.T e, fun b ps q => ?_, w.tb.nZ⟩
  · by_cases hb : b = p
    · subst hb
      have q2 : upd G.F b o b = some u := q
      rw [upd_same] at q2
      rw [upd_same]; exact q2
    · have q2 : upd G.F p o b = some u := q
      rw [upd_ne hb] at q2
      rw [upd_ne hb]; exact w.F b u q2
  · have q2 : G.Z b = some u := q
    rw [upd_ne (ne_of_none q2 hZ)]
    exact w.Z b u q2
  · have q2 : G.Z b = some u := q
    show upd G.F p o b = none
    rw [upd_ne (ne_of_none q2 hZ)]
    exact w.FZ b u q2
  · refine (w.cells n c hc).stay l (fun b hb hn => ?_) (fun b u hb hu => ?_)
    · show upd G.F p o b = none
      rw [upd_ne (fun z => hM n (by rw [hb, z]))]
      exact hn
    · rw [upd_ne (fun z => hM n (by rw [hb, z]))]
      exact hu
  · have q2 : upd G.F p o b = some (.tbl ps) := q
    by_cases hb : b = p
    · rw [hb, upd_same] at q2; exact ho ps (Option.some.inj q2)
    · rw [upd_ne hb] at q2; exact w.tb.nF b ps q2
def Gh.addM (G : Gh) (n : Nat) (p : Addr) : Gh := { G with mu := fun m => if m = n then some p else G.mu m }
theorem Gh.addM_le (e : G.mu n = none) : G.le (G.addM n p) := ⟨fun _ _ q => q, fun m a q => by
  show (if m = n then some p else G.mu m) = some a
  rw [if_neg (fun z => by rw [z, e] at q; cases q)]
  exact q, rfl, rfl⟩
theorem WI.muN (w : WI K mg G h H) : G.mu h.length = none := by
  cases q : G.mu h.length with
  | none => rfl
  | some a => exact absurd (w.bnd _ _ q) (Nat.lt_irrefl _)
/-- a new cell -/
theorem WI.newC (w : WI K mg G h H) (e : H p = none) (x : CellOk K mg (G.addM h.length p) (upd H p o) h.length c) : WI K mg (G.addM h.length p) (h ++ [c]) (upd H p o) := by
  have hF := w.freeF e
  have hM := w.freeM e
  have hZ := w.freeZ e
  have l : G.le (G.addM h.length p) := Gh.addM_le w.muN
  refine ⟨fun b u q => ?_, fun b u q => ?_, w.FZ, fun n c' hc => ?_, fun n a q => ?_, fun n m a q r => ?_, tabs_new w.tb.T e, w.tb.nF, w.tb.nZ⟩
  · have q2 : G.F b = some u := q
    rw [upd_ne (ne_of_none q2 hF)]; exact w.F b u q2
  · have q2 : G.Z b = some u := q
    rw [upd_ne (ne_of_none q2 hZ)]; exact w.Z b u q2
  · by_cases hn : n < h.length
    · rw [List.getElem?_append_left hn] at hc
      refine (w.cells n c' hc).stay l (fun b hb hn => hn) (fun b u hb hu => ?_)
      rw [upd_ne (fun z => hM n (by rw [hb, z]))]
      exact hu
    · have e2 : n = h.length := by
        have := (List.getElem?_eq_some_iff.mp hc).1
        rw [List.length_append, List.length_singleton] at this
        omega
      subst e2
      rw [List.getElem?_append_right (Nat.le_refl _), Nat.sub_self] at hc
      cases hc
      exact x
  · have q2 : (if n = h.length then some p else G.mu n) = some a := q
    rw [List.length_append, List.length_singleton]
    split at q2
    · omega
    · have := w.bnd n a q2
      omega
  · have q2 : (if n = h.length then some p else G.mu n) = some a := q
    have r2 : (if m = h.length then some p else G.mu m) = some a := r
    split at q2 <;> split at r2
    · omega
    · cases q2; exact absurd r2 (hM m)
    · cases r2; exact absurd q2 (hM n)
    · exact w.inj n m a q2 r2
theorem WI.kind (w : WI K mg G h H) (hn : n < h.length) (e : G.mu n = some a) (hF : G.F a = none) : ∃ u, H a = some u ∧ (∀ ps, u ≠ .tbl ps) ∧ ∀ f, u ≠ .ext f := by
  have x := w.cells n h[n] (List.getElem?_eq_getElem hn)
  cases hc : h[n] with
  | lst xs =>
    rw [hc] at x
    obtain ⟨b, vs, h1, _, _, h2, _⟩ := x
    rw [e] at h1; cases h1
    exact ⟨_, h2, (fun _ q => by cases q), (fun _ q => by cases q)⟩
  | dct kvs =>
    rw [hc] at x
    obtain ⟨b, h1, _, _, ⟨_, h2, _⟩ | ⟨_, h2, _⟩⟩ := x <;> (rw [e] at h1; cases h1; exact ⟨_, h2, (fun _ q => by cases q), (fun _ q => by cases q)⟩)
  | ins c fs =>
    rw [hc] at x
    obtain ⟨b, C, dx, vfs, h1, _, _, _, h2, _⟩ := x
    rw [e] at h1; cases h1
    exact ⟨_, h2, (fun _ q => by cases q), (fun _ q => by cases q)⟩
  | frz v =>
    rw [hc] at x
    obtain ⟨b, o, h1, h2, _⟩ := x
    rw [e] at h1; cases h1
    rw [hF] at h2; cases h2
theorem WI.kind2 (w : WI K mg G h H) (hn : n < h.length) (e : G.mu n = some a) (hF : G.F a = none) : ∀ o, FixO o → H a ≠ some o := by
  intro o fx z
  have x := w.cells n h[n] (List.getElem?_eq_getElem hn)
  cases hc : h[n] with
  | lst xs =>
    rw [hc] at x
    obtain ⟨b, vs, h1, _, _, h2, _⟩ := x
    rw [e] at h1; cases h1
    rw [z] at h2; cases h2; cases fx
  | dct xs =>
    rw [hc] at x
    obtain ⟨b, h1, _, _, ⟨_, h2, _⟩ | ⟨_, h2, _⟩⟩ := x <;> (rw [e] at h1; cases h1; rw [z] at h2; cases h2; cases fx)
  | ins c fs =>
    rw [hc] at x
    obtain ⟨b, C, dx, vfs, h1, _, _, _, h2, _⟩ := x
    rw [e] at h1; cases h1
    rw [z] at h2; cases h2; cases fx
  | frz v =>
    rw [hc] at x
    obtain ⟨b, u, h1, h2, _⟩ := x
    rw [e] at h1; cases h1
    rw [hF] at h2; cases h2
/-- a cell is written -/
theorem WI.put (w : WI K mg G h H) (hn : n < h.length) (e : G.mu n = some a) (hF : G.F a = none) (hZ : G.Z a = none) (x : CellOk K mg G (upd H a o) n c) : WI K mg G (h.set n c) (upd H a o) := by
  obtain ⟨u0, k1, k2, k3⟩ := w.kind hn e hF
  refine ⟨fun b u q => ?_, fun b u q => ?_, w.FZ, fun m c' hc => ?_, fun m b q => ?_, w.inj, tabs_put w.tb.T k1 k2 k3, w.tb.nF, w.tb.nZ⟩
  · rw [upd_ne (ne_of_none q hF)]; exact w.F b u q
  · rw [upd_ne (ne_of_none q hZ)]; exact w.Z b u q
  · by_cases hm : m = n
    · subst hm
      rw [List.getElem?_set_self hn] at hc
      cases hc
      exact x
    · rw [List.getElem?_set_ne (Ne.symm hm)] at hc
      refine (w.cells m c' hc).stay (Gh.le.refl _) (fun b hb hn => hn) (fun b u hb hu => ?_)
      rw [upd_ne (fun z => hm (w.inj m n a (by rw [hb, z]) e))]
      exact hu
  · rw [List.length_set]
    exact w.bnd m b q
/-- a cell never changes again -/
theorem WI.freeze {v : AV} (w : WI K mg G h H) (hn : n < h.length) (e : G.mu n = some a) (hF : G.F a = none) (hZ : G.Z a = none) (hH : H a = some o) (x : R K mg (G.addF a o) v (.ref a)) : WI K mg (G.addF a o) (h.set n (.frz v)) H := by
  have l : G.le (G.addF a o) := Gh.addF_le hF
  obtain ⟨u0, k1, k2, k3⟩ := w.kind hn e hF
  refine ⟨fun b u q => ?_, w.Z, fun b u q => ?_, fun m c' hc => ?_, fun m b q => ?_, w.inj, w.tb.T, fun b ps q => ?_, w.tb.nZ⟩
  · have q2 : upd G.F a o b = some u := q
    by_cases hb : b = a
    · subst hb
      rw [upd_same] at q2
      rw [hH]; exact q2
    · rw [upd_ne hb] at q2
      exact w.F b u q2
  · have q2 : G.Z b = some u := q
    show upd G.F a o b = none
    rw [upd_ne (ne_of_none q2 hZ)]
    exact w.FZ b u q2
  · by_cases hm : m = n
    · subst hm
      rw [List.getElem?_set_self hn] at hc
      cases hc
      exact ⟨a, o, e, upd_same, x⟩
    · rw [List.getElem?_set_ne (Ne.symm hm)] at hc
      refine (w.cells m c' hc).stay l (fun b hb hn => ?_) (fun b u hb hu => hu)
      show upd G.F a o b = none
      rw [upd_ne (fun z => hm (w.inj m n a (by rw [hb, z]) e))]
      exact hn
  · rw [List.length_set]
    exact w.bnd m b q
  · have q2 : upd G.F a o b = some (.tbl ps) := q
    by_cases hb : b = a
    · rw [hb, upd_same] at q2
      rw [k1] at hH
      exact k2 ps ((Option.some.inj hH).trans (Option.some.inj q2))
    · rw [upd_ne hb] at q2; exact w.tb.nF b ps q2
end

/-! ### slots -/
abbrev AEnv := List (Option AV)
section
variable (K : PySem.W.Frag) (mg : Str → Option Value) (G : Gh)
inductive RE : AEnv → St → Prop
  | nil : RE [] []
  | no {x : Option V} {es : AEnv} {σ : St} : RE es σ → RE (none :: es) (x :: σ)
  | yes {a : AV} {v : V} {es : AEnv} {σ : St} : R K mg G a v → RE es σ → RE (some a :: es) (some v :: σ)
end
section
variable {K : PySem.W.Frag} {mg : Str → Option Value} {G G' : Gh}
theorem RE.mono (l : G.le G') : ∀ {es : AEnv} {σ : St}, RE K mg G es σ → RE K mg G' es σ
  | _, _, .nil => .nil
  | _, _, .no t => .no (RE.mono l t)
  | _, _, .yes r t => .yes (r.mono l) (RE.mono l t)
theorem RE.get : ∀ {es : AEnv} {σ : St} {i : Nat} {a : AV}, RE K mg G es σ → es[i]? = some (some a) → ∃ v, σ[i]? = some (some v) ∧ R K mg G a v
  | _, _, _, _, .nil, e => by simp at e
  | _, _, 0, _, .no t, e => by simp at e
  | _, _, 0, _, .yes r t, e => by simp at e; subst e; exact ⟨_, rfl, r⟩
  | _, _, i + 1, a, .no t, e => by
    obtain ⟨u, h1, h2⟩ := RE.get (i := i) (a := a) t (by simpa using e)
    exact ⟨u, by simpa using h1, h2⟩
  | _, _, i + 1, a, .yes _ t, e => by
    obtain ⟨u, h1, h2⟩ := RE.get (i := i) (a := a) t (by simpa using e)
    exact ⟨u, by simpa using h1, h2⟩
theorem RE.set {a : AV} {v : V} (r : R K mg G a v) : ∀ {es : AEnv} {σ : St} (i : Nat), RE K mg G es σ → RE K mg G (es.set i (some a)) (σ.set i (some v))
  | _, _, _, .nil => .nil
  | _, _, 0, .no t => .yes r t
  | _, _, 0, .yes _ t => .yes r t
  | _, _, i + 1, .no t => .no (RE.set r i t)
  | _, _, i + 1, .yes q t => .yes q (RE.set r i t)
theorem RE.forget {x : Option V} : ∀ {es : AEnv} {σ : St} (i : Nat), RE K mg G es σ → RE K mg G (es.set i none) (σ.set i x)
  | _, _, _, .nil => .nil
  | _, _, 0, .no t => .no t
  | _, _, 0, .yes _ t => .no t
  | _, _, i + 1, .no t => .no (RE.forget i t)
  | _, _, i + 1, .yes q t => .yes q (RE.forget i t)
theorem RE.length : ∀ {es : AEnv} {σ : St}, RE K mg G es σ → es.length = σ.length
  | _, _, .nil => rfl
  | _, _, .no t => by rw [List.length_cons, List.length_cons, RE.length t]
  | _, _, .yes _ t => by rw [List.length_cons, List.length_cons, RE.length t]
def wipeE (es : AEnv) : List Nat → AEnv
  | [] => es
  | v :: vs => (wipeE es vs).set v none
theorem RE.wipe {es : AEnv} {σ : St} (r : RE K mg G es σ) : ∀ vs : List Nat, RE K mg G (wipeE es vs) (wipe σ vs)
  | [] => r
  | v :: vs => RE.forget v (RE.wipe r vs)
theorem RE.blank : ∀ n : Nat, RE K mg G (List.replicate n none) (List.replicate n none)
  | 0 => .nil
  | n + 1 => .no (RE.blank n)
theorem RE.start : ∀ {avs : List AV} {vs : List V} (n : Nat), Rs K mg G avs vs → RE K mg G (avs.map some ++ List.replicate n none) (vs.map some ++ List.replicate n none)
  | _, _, n, .nil => RE.blank n
  | _, _, n, .cons r t => .yes r (RE.start n t)
end

/-! ### what code is worth -/
/-- an exception of an own class: its class, its own dict (where it has one) -/
def XR (K : PySem.W.Frag) (mg : Str → Option Value) (G : Gh) (c : Str) (fs : List (Str × AV)) (cls : Value) (d : Option Addr) : Prop :=
  ∃ C, mg c = some (.ref C) ∧ cls = .ref C ∧ ((fs = [] ∧ d = none) ∨ ∃ a vfs, d = some a ∧ G.F a = some (.xd vfs) ∧ Rf K mg G fs vfs ∧ fs ≠ [])
theorem XR.mono {K : PySem.W.Frag} {mg : Str → Option Value} {G G' : Gh} {c : Str} {fs : List (Str × AV)} {cls : Value} {d : Option Addr} (l : G.lt G') (x : XR K mg G c fs cls d) : XR K mg G' c fs cls d := by
  obtain ⟨C, h1, h2, h3⟩ := x
  refine ⟨C, h1, h2, ?_⟩
  rcases h3 with h3 | ⟨a, vfs, h4, h5, h6⟩
  · exact .inl h3
  · exact .inr ⟨a, vfs, h4, l.F _ _ h5, h6.1.monoL l, h6.2⟩

abbrev EM (α : Type) := AEnv → M α
section
variable (X : Cx) (W : WX)
/-- behind r: Q of each way on -/
def post {α β : Type} (RR : Gh → α → β → Prop) (G : Gh) (σ : St) (Q : β → Hp → Prop) : Res α → Prop
  | .ok a h' => ∀ G' H' z, G.le G' → WI X.K X.mg G' h' H' → RR G' a z → Q z H'
  | .exc c fs h' => ∀ G' H' cls d, G.le G' → WI X.K X.mg G' h' H' → XR X.K X.mg G' c fs cls d → W cls d σ H'
  | .bad => False
def tSE (m : EM AV) : TE := fun σ H Q => ∃ G h env, WI X.K X.mg G h H ∧ RE X.K X.mg G env σ ∧ post X W (R X.K X.mg) G σ Q (m env h)
def tSA (m : EM (List AV)) : TA := fun σ H Q => ∃ G h env, WI X.K X.mg G h H ∧ RE X.K X.mg G env σ ∧ post X W (Rs X.K X.mg) G σ Q (m env h)
def tST (m : EM Bool) : TT := fun σ H Q => ∃ G h env, WI X.K X.mg G h H ∧ RE X.K X.mg G env σ ∧ post X W (fun _ (a b : Bool) => a = b) G σ Q (m env h)
structure SE (e : Expr) (m : EM AV) : Prop where
  pe : PE X e (tSE X W m)
structure SA (es : List Expr) (m : EM (List AV)) : Prop where
  pa : PA X es (tSA X W m)
structure ST (e : Expr) (m : EM Bool) : Prop where
  pt : PT X e (tST X W m)
structure SW (e : Expr) (m : EM Bool) : Prop where
  pw : PW X e (tST X W m)

/-- what a statement comes to -/
inductive Out where
  | nx (e : AEnv) (h : Hs)
  | rt (v : AV) (h : Hs)
  | bk (e : AEnv) (h : Hs)
  | ct (e : AEnv) (h : Hs)
  | exc (c : Str) (fs : List (Str × AV)) (e : AEnv) (h : Hs)
  | bad
abbrev SM := AEnv → Hs → Out
def postS (G : Gh) (D : Ends) : Out → Prop
  | .nx e h' => ∀ G' H' σ', G.le G' → WI X.K X.mg G' h' H' → RE X.K X.mg G' e σ' → D.nx σ' H'
  | .rt v h' => ∀ G' H' z, G.le G' → WI X.K X.mg G' h' H' → R X.K X.mg G' v z → D.rt z H'
  | .bk e h' => ∀ G' H' σ', G.le G' → WI X.K X.mg G' h' H' → RE X.K X.mg G' e σ' → D.bk σ' H'
  | .ct e h' => ∀ G' H' σ', G.le G' → WI X.K X.mg G' h' H' → RE X.K X.mg G' e σ' → D.ct σ' H'
  | .exc c fs e h' => ∀ G' H' σ' cls d, G.le G' → WI X.K X.mg G' h' H' → RE X.K X.mg G' e σ' → XR X.K X.mg G' c fs cls d → W cls d σ' H'
  | .bad => False
def tSS (m : SM) : TS := fun D σ H => ∃ G h env, WI X.K X.mg G h H ∧ RE X.K X.mg G env σ ∧ postS X W G D (m env h)
structure SS (st : Stmt) (m : SM) : Prop where
  ps : PS X st (tSS X W m)
structure SSs (st : List Stmt) (m : SM) : Prop where
  pss : PSs X st (tSS X W m)
/-- what every rule may lean on -/
structure Ok (k : Nat) : Prop where
  nd : X.N.Nodup
  tk : Takes X W
  hr : Room k X.A
  calm : X.calm = true
  po : PassesOwn (model X.prog X.w) X.A X.env X.xe
end

section
variable {X : Cx} {W : WX}
theorem post.le {α β : Type} {RR : Gh → α → β → Prop} {G G1 : Gh} {σ : St} {Q : β → Hp → Prop} {r : Res α} (l : G.le G1) (p : post X W RR G σ Q r) : post X W RR G1 σ Q r := by
  cases r with
  | ok a h => exact fun G' H' z l' => p G' H' z (l.trans l')
  | exc c fs h => exact fun G' H' cls d l' => p G' H' cls d (l.trans l')
  | bad => exact p
theorem postS.le {G G1 : Gh} {D : Ends} {r : Out} (l : G.le G1) (p : postS X W G D r) : postS X W G1 D r := by
  cases r with
  | nx e h => exact fun G' H' z l' => p G' H' z (l.trans l')
  | rt v h => exact fun G' H' z l' => p G' H' z (l.trans l')
  | bk e h => exact fun G' H' z l' => p G' H' z (l.trans l')
  | ct e h => exact fun G' H' z l' => p G' H' z (l.trans l')
  | exc c fs e h => exact fun G' H' σ' cls d l' => p G' H' σ' cls d (l.trans l')
  | bad => exact p
theorem _root_.L2.PE.weak {e : Expr} {t t' : TE} (p : PE X e t) (h : ∀ σ H Q, t' σ H Q → t σ H Q) : PE X e t' := ⟨fun pins s σ H Q I q => p.run pins s σ H Q I (h σ H Q q)⟩
theorem _root_.L2.PT.weak {e : Expr} {t t' : TT} (p : PT X e t) (h : ∀ σ H Q, t' σ H Q → t σ H Q) : PT X e t' := ⟨fun pins s σ H Q I q => p.run pins s σ H Q I (h σ H Q q)⟩
theorem _root_.L2.PW.weak {e : Expr} {t t' : TT} (p : PW X e t) (h : ∀ σ H Q, t' σ H Q → t σ H Q) : PW X e t' := ⟨fun wh pins s σ H Q I q => p.run wh pins s σ H Q I (h σ H Q q)⟩
theorem _root_.L2.PA.weak {e : List Expr} {t t' : TA} (p : PA X e t) (h : ∀ σ H Q, t' σ H Q → t σ H Q) : PA X e t' := ⟨fun pos pins s σ H Q I q => p.run pos pins s σ H Q I (h σ H Q q)⟩
theorem _root_.L2.PS.weak {e : Stmt} {t t' : TS} (p : PS X e t) (h : ∀ D σ H, t' D σ H → t D σ H) : PS X e t' := ⟨fun pins s σ H D I q => p.run pins s σ H D I (h D σ H q)⟩
theorem _root_.L2.PSs.weak {e : List Stmt} {t t' : TS} (p : PSs X e t) (h : ∀ D σ H, t' D σ H → t D σ H) : PSs X e t' := ⟨fun pins s σ H D I q => p.run pins s σ H D I (h D σ H q)⟩
end
end Sim

set_option Elab.async false
set_option linter.all false
set_option maxRecDepth 100000
set_option maxHeartbeats 2000000
namespace Sim
open PySem PySem.Spec L2
open PyProof.Rows hiding St
variable [TabT]

theorem post_bnd {X : Cx} {W : WX} {α α' β β' : Type} {RA : Gh → α → α' → Prop} {RB : Gh → β → β' → Prop} {G : Gh} {σ : L2.St} {Q : β' → Hp → Prop} {Q' : α' → Hp → Prop} {m : M α} {f : α → M β} {h : Hs}
    (p : post X W RB G σ Q (M.bnd m f h))
    (k : ∀ a h' G' H' z, G.le G' → WI X.K X.mg G' h' H' → RA G' a z → post X W RB G' σ Q (f a h') → Q' z H') : post X W RA G σ Q' (m h) := by
  unfold M.bnd at p
  cases e : m h with
  | ok a h1 =>
    rw [e] at p
    exact fun G' H' z l w r => k a h1 G' H' z l w r (post.le l p)
  | exc c fs h1 =>
    rw [e] at p
    exact p
  | bad =>
    rw [e] at p
    exact p

/-! ### names and constants -/
def mV (i : Nat) : EM AV := fun env h => match env[i]? with
  | some (some a) => .ok a h
  | _ => .bad
def mC (v : AV) : EM AV := fun _ h => .ok v h
/-- from here on it never changes -/
def frzA (x : AV) (h : Hs) : Res AV := match x with
  | .cell n => (match h[n]? with
    | some (.lst xs) => .ok (.lst xs) (h.set n (.frz (.lst xs)))
    | some (.ins c fs) => .ok (.obj c fs) (h.set n (.frz (.obj c fs)))
    | some (.frz v) => .ok v h
    | _ => .bad)
  | a => .ok a h
def mF (m : EM AV) : EM AV := fun env => (m env).bnd frzA

section
variable {X : Cx} {W : WX} {k : Nat}
theorem se_v (i : Nat) {x : Str} {pos : Pos} (hN : X.N[i]? = some x := by rfl) (hv : Vis X.env.scope x := by first | exact Or.inl rfl | exact Or.inr (Or.inl rfl) | exact Or.inr (Or.inr rfl)) (hd : (x == ("__debug__" : Str)) = false := by decide)
    (hcd : (x == ("__classdict__" : Str)) = false := by decide) : SE X W (.Name x pos) (mV i) := by
  refine ⟨(pe_var hN hv hd hcd).weak fun σ H Q ⟨G, h, env, w, re, p⟩ => ?_⟩
  unfold mV at p
  split at p
  · rename_i a e
    obtain ⟨v, e1, r⟩ := re.get e
    exact ⟨v, e1, p G H v (.refl G) w r⟩
  · exact p.elim
theorem se_c {e : Expr} {v : V} {a : AV} (p : PE X e (tC v)) (r : ∀ G, R X.K X.mg G a v) : SE X W e (mC a) :=
  ⟨p.weak fun σ H Q ⟨G, h, env, w, re, q⟩ => q G H v (.refl G) w (r G)⟩
theorem se_int {i : Int} {j : Nat} {pos : Pos} : SE X W (.Constant (.int i) j pos) (mC (.int i)) := se_c pe_int fun _ => .int i
theorem se_bl {i : Bool} {j : Nat} {pos : Pos} : SE X W (.Constant (.bool i) j pos) (mC (.bl i)) := se_c pe_bl fun _ => .bl i
theorem se_str {i : Str} {j : Nat} {pos : Pos} : SE X W (.Constant (.str i) j pos) (mC (.str i)) := se_c pe_str fun _ => .str i
theorem se_non {j : Nat} {pos : Pos} : SE X W (.Constant .none j pos) (mC .non) := se_c pe_non fun _ => .non
theorem se_gint {x : Str} {i : Int} {t : Tok} {pos : Pos} (hm : X.mg x = some (.int i t)) (hg : Gl X x := by rfl) (hd : (x == ("__debug__" : Str)) = false := by decide) : SE X W (.Name x pos) (mC (.int i)) := se_c (pe_glob (v := .int i) hg hm ⟨t, rfl⟩ hd) fun _ => .int i

theorem R.frz {K : PySem.W.Frag} {mg : Str → Option Value} {G : Gh} {h : Hs} {H : Hp} {x a : AV} {v : V} {h' : Hs} (w : WI K mg G h H) (r : R K mg G x v) (e : frzA x h = .ok a h') :
    ∃ G', G.le G' ∧ WI K mg G' h' H ∧ R K mg G' a v := by
  unfold frzA at e
  split at e
  · rename_i n
    cases r with
    | cell hm =>
      rename_i ad
      split at e
      · rename_i xs hn
        injection e with e1 e2
        subst e1 e2
        obtain ⟨b, vs, h1, h2, hz, h3, h4⟩ := w.cells n _ hn
        rw [hm] at h1
        cases h1
        have hl : n < h.length := w.bnd n _ hm
        have le : G.le (G.addF ad (.lst vs)) := Gh.addF_le h2
        have rr : R K mg (G.addF ad (.lst vs)) (.lst xs) (.ref ad) := .lst upd_same (h4.mono le)
        exact ⟨_, le, w.freeze hl hm h2 hz h3 rr, rr⟩
      · rename_i c fs hn
        injection e with e1 e2
        subst e1 e2
        obtain ⟨b, C, dx, vfs, h1, h2, hz, hc, h3, h4⟩ := w.cells n _ hn
        rw [hm] at h1
        cases h1
        have hl : n < h.length := w.bnd n _ hm
        have le : G.le (G.addF ad (.ins C dx vfs)) := Gh.addF_le h2
        have rr : R K mg (G.addF ad (.ins C dx vfs)) (.obj c fs) (.ref ad) := .obj hc upd_same (h4.mono le)
        exact ⟨_, le, w.freeze hl hm h2 hz h3 rr, rr⟩
      · rename_i u hn
        injection e with e1 e2
        subst e1 e2
        obtain ⟨b, o, h1, h2, h3⟩ := w.cells n _ hn
        rw [hm] at h1
        cases h1
        exact ⟨G, .refl G, w, h3⟩
      · cases e
  · injection e with e1 e2
    subst e1 e2
    exact ⟨G, .refl G, w, r⟩
theorem frz_noexc {x : AV} {h : Hs} {c : Str} {fs : List (Str × AV)} {h' : Hs} : frzA x h ≠ .exc c fs h' := by
  unfold frzA
  split
  · split <;> intro q <;> cases q
  · intro q; cases q
theorem se_frz {e : Expr} {m : EM AV} (he : SE X W e m) : SE X W e (mF m) := by
  refine ⟨he.pe.weak fun σ H Q ⟨G, h, env, w, re, p⟩ => ⟨G, h, env, w, re, post_bnd p fun a h1 G1 H1 z l w1 r q => ?_⟩⟩
  cases e : frzA a h1 with
  | ok b h2 =>
    rw [e] at q
    obtain ⟨G2, l2, w2, r2⟩ := r.frz w1 e
    exact q G2 H1 z l2 w2 r2
  | exc c fs h2 => exact absurd e frz_noexc
  | bad => rw [e] at q; exact q.elim

/-! ### operators -/
def rd {α : Type} (g : Hs → Option α) : M α := fun h => match g h with
  | some a => .ok a h
  | none => .bad
/-- an operation that reads -/
def r2 (K : PySem.W.Frag) (mg : Str → Option Value) (g : Hs → AV → AV → Option AV) : R2 := fun x y H Q => ∃ G h a b c, WI K mg G h H ∧ R K mg G a x ∧ R K mg G b y ∧ g h a b = some c ∧
  ∀ G' H' z, G.le G' → WI K mg G' h H' → R K mg G' c z → Q z H'
def r1 (K : PySem.W.Frag) (mg : Str → Option Value) (g : Hs → AV → Option AV) : V → Hp → VK → Prop := fun x H Q => ∃ G h a c, WI K mg G h H ∧ R K mg G a x ∧ g h a = some c ∧
  ∀ G' H' z, G.le G' → WI K mg G' h H' → R K mg G' c z → Q z H'
def rN (K : PySem.W.Frag) (mg : Str → Option Value) (g : Hs → List AV → Option AV) : List V → Hp → VK → Prop := fun xs H Q => ∃ G h as c, WI K mg G h H ∧ Rs K mg G as xs ∧ g h as = some c ∧
  ∀ G' H' z, G.le G' → WI K mg G' h H' → R K mg G' c z → Q z H'
def m2 (g : Hs → AV → AV → Option AV) (a b : EM AV) : EM AV := fun env => (a env).bnd fun x => (b env).bnd fun y => rd fun h => g h x y
def m1 (g : Hs → AV → Option AV) (a : EM AV) : EM AV := fun env => (a env).bnd fun x => rd fun h => g h x
def mN (g : Hs → List AV → Option AV) (a : EM (List AV)) : EM AV := fun env => (a env).bnd fun x => rd fun h => g h x
theorem post_rd {α β : Type} {RR : Gh → α → β → Prop} {G : Gh} {σ : L2.St} {Q : β → Hp → Prop} {g : Hs → Option α} {h : Hs} (p : post X W RR G σ Q (rd g h)) : ∃ c, g h = some c ∧ ∀ G' H' z, G.le G' → WI X.K X.mg G' h H' → RR G' c z → Q z H' := by
  unfold rd at p
  cases e : g h with
  | some a => rw [e] at p; exact ⟨a, rfl, p⟩
  | none => rw [e] at p; exact p.elim
variable {a b c : Expr} {ma mb mc : EM AV} {pos : Pos}
/-- two in a row -/
theorem tt2 {g : Hs → AV → AV → Option AV} {σ : L2.St} {H : Hp} {Q : VK} (p : tSE X W (m2 g ma mb) σ H Q) : tSE X W ma σ H fun x H1 => tSE X W mb σ H1 fun y H2 => r2 X.K X.mg g x y H2 Q := by
  obtain ⟨G, h, env, w, re, p⟩ := p
  refine ⟨G, h, env, w, re, post_bnd p fun a h1 G1 H1 x l1 w1 ra p1 => ⟨G1, h1, env, w1, re.mono l1, post_bnd p1 fun b h2 G2 H2 y l2 w2 rb p2 => ?_⟩⟩
  obtain ⟨c, e, q⟩ := post_rd p2
  exact ⟨G2, h2, a, b, c, w2, ra.mono l2, rb, e, q⟩
theorem se_op {op : Operator} {g : Hs → AV → AV → Option AV} (ho : OpR X (binaryOp op) (r2 X.K X.mg g)) (ha : SE X W a ma) (hb : SE X W b mb) : SE X W (.BinOp a op b pos) (m2 g ma mb) :=
  ⟨(pe_op ho ha.pe hb.pe).weak fun σ H Q p => tt2 p⟩
theorem se_un {op : UnaryOp} {g : Hs → AV → Option AV} (ho : UnR X (unaryOp op) (r1 X.K X.mg g)) (ha : SE X W a ma) : SE X W (.UnaryOp op a pos) (m1 g ma) := by
  refine ⟨(pe_un ho ha.pe).weak fun σ H Q ⟨G, h, env, w, re, p⟩ => ⟨G, h, env, w, re, post_bnd p fun a h1 G1 H1 x l1 w1 ra p1 => ?_⟩⟩
  obtain ⟨c, e, q⟩ := post_rd p1
  exact ⟨G1, h1, a, c, w1, ra, e, q⟩
theorem se_cmp {op : CmpOp} {g : Hs → AV → AV → Option AV} (ho : OpR X (compareOp op) (r2 X.K X.mg g)) (ha : SE X W a ma) (hb : SE X W b mb) (hm : behindInMarks op b = false := by first | exact nobehind _ (by decide) (by decide) | rfl) : SE X W (.Compare a [op] [b] pos) (m2 g ma mb) :=
  ⟨(pe_cmpR ho ha.pe hb.pe hm).weak fun σ H Q p => tt2 p⟩
/-- a truth value behind it -/
def mT (m : EM AV) : EM Bool := fun env => (m env).bnd fun x => rd fun _ => match x with
  | .bl b => some b
  | _ => none
theorem st_cmp {op : CmpOp} {g : Hs → AV → AV → Option AV} (ho : OpR X (compareOp op) (r2 X.K X.mg g)) (ha : SE X W a ma) (hb : SE X W b mb) (hm : behindInMarks op b = false := by first | exact nobehind _ (by decide) (by decide) | rfl) : ST X W (.Compare a [op] [b] pos) (mT (m2 g ma mb)) := by
  refine ⟨(pt_cmpR ho ha.pe hb.pe hm).weak fun σ H Q p => ?_⟩
  refine tt2 (Q := fun x H' => ∃ k, x = .bl k ∧ Q k H') ?_
  obtain ⟨G, h, env, w, re, p⟩ := p
  refine ⟨G, h, env, w, re, post_bnd p fun a h1 G1 H1 x l1 w1 ra p1 => ?_⟩
  obtain ⟨c, e, q⟩ := post_rd p1
  cases a with
  | bl b0 => cases ra; exact ⟨b0, rfl, q G1 H1 b0 (.refl G1) w1 (Option.some.inj e).symm⟩
  | _ => cases e
/-- a chain of two comparisons -/
def mChain (g g' : Hs → AV → AV → Option AV) (a b c : EM AV) : EM AV := fun env => (a env).bnd fun x => (b env).bnd fun y => (rd fun h => g h x y : M AV).bnd fun k => match k with
  | .bl true => (c env).bnd fun z => rd fun h => g' h y z
  | .bl false => M.ret (.bl false)
  | _ => M.bad
theorem ttC {g g' : Hs → AV → AV → Option AV} {σ : L2.St} {H : Hp} {Q : VK} (p : tSE X W (mChain g g' ma mb mc) σ H Q) : tChain (r2 X.K X.mg g) (r2 X.K X.mg g') (tSE X W ma) (tSE X W mb) (tSE X W mc) σ H Q := by
  obtain ⟨G, h, env, w, re, p⟩ := p
  refine ⟨G, h, env, w, re, post_bnd p fun a h1 G1 H1 x l1 w1 ra p1 => ⟨G1, h1, env, w1, re.mono l1, post_bnd p1 fun b h2 G2 H2 y l2 w2 rb p2 => ?_⟩⟩
  have e0 : ∀ o, g h2 a b = o → (rd (fun h => g h a b) : M AV) h2 = (match o with | some k => .ok k h2 | none => .bad) := fun o eo => by
    unfold rd
    dsimp only
    rw [eo]
    cases o <;> rfl
  unfold M.bnd at p2
  cases e : g h2 a b with
  | none => rw [e0 _ e] at p2; exact p2.elim
  | some k =>
    rw [e0 _ e] at p2
    refine ⟨G2, h2, a, b, k, w2, ra.mono l2, rb, e, fun G3 H3 z l3 w3 r3 => ?_⟩
    cases k with
    | bl kk =>
      cases r3
      refine ⟨kk, rfl, ?_⟩
      cases kk with
      | true =>
        rw [if_pos rfl]
        refine ⟨G3, h2, env, w3, (((re.mono l1).mono l2).mono l3), post_bnd (post.le l3 p2) fun c h4 G4 H4 z l4 w4 rc p4 => ?_⟩
        obtain ⟨d, e4, q⟩ := post_rd p4
        exact ⟨G4, h4, b, c, d, w4, (rb.mono l3).mono l4, rc, e4, q⟩
      | false =>
        rw [if_neg (by simp)]
        exact p2 G3 H3 _ l3 w3 (.bl false)
    | _ => exact p2.elim
theorem se_chain {op op' : CmpOp} {g g' : Hs → AV → AV → Option AV} (ho : OpR X (compareOp op) (r2 X.K X.mg g)) (ho' : OpR X (compareOp op') (r2 X.K X.mg g')) (ha : SE X W a ma) (hb : SE X W b mb) (hc : SE X W c mc)
    (hm : lastMarks [op, op'] [b, c] = false := by with_unfolding_all rfl) : SE X W (.Compare a [op, op'] [b, c] pos) (mChain g g' ma mb mc) :=
  ⟨(pe_chain ho ho' ha.pe hb.pe hc.pe hm).weak fun σ H Q p => ttC p⟩
theorem st_chain {op op' : CmpOp} {g g' : Hs → AV → AV → Option AV} (ho : OpR X (compareOp op) (r2 X.K X.mg g)) (ho' : OpR X (compareOp op') (r2 X.K X.mg g')) (ha : SE X W a ma) (hb : SE X W b mb) (hc : SE X W c mc)
    (hm : lastMarks [op, op'] [b, c] = false := by with_unfolding_all rfl) : ST X W (.Compare a [op, op'] [b, c] pos) (mT (mChain g g' ma mb mc)) := by
  refine ⟨(pt_chain ho ho' ha.pe hb.pe hc.pe hm).weak fun σ H Q p => ?_⟩
  refine ttC (Q := fun x H' => ∃ k, x = .bl k ∧ Q k H') ?_
  obtain ⟨G, h, env, w, re, p⟩ := p
  refine ⟨G, h, env, w, re, post_bnd p fun a h1 G1 H1 x l1 w1 ra p1 => ?_⟩
  obtain ⟨c, e, q⟩ := post_rd p1
  cases a with
  | bl b0 => cases ra; exact ⟨b0, rfl, q G1 H1 b0 (.refl G1) w1 (Option.some.inj e).symm⟩
  | _ => cases e

/-! ### truth -/
/-- a test whose value is a bool -/
theorem st_val {e : Expr} {m : EM AV} (h : SE X W e m) (he : ∀ whole, isTrue e X.env whole = (do let v ← whole; standAt e.pos; holding [v] (truthy v)) := by intro _; rfl) : ST X W e (mT m) := by
  refine ⟨(pt_val h.pe he).weak fun σ H Q ⟨G, h, env, w, re, p⟩ => ⟨G, h, env, w, re, post_bnd p fun a h1 G1 H1 x l1 w1 ra p1 => ?_⟩⟩
  obtain ⟨c, e, q⟩ := post_rd p1
  cases a with
  | bl b0 => cases ra; exact ⟨b0, rfl, q G1 H1 b0 (.refl G1) w1 (Option.some.inj e).symm⟩
  | _ => cases e
def mAnd (a b : EM Bool) : EM Bool := fun env => (a env).bnd fun x => if x = true then b env else M.ret false
def mOr (a b : EM Bool) : EM Bool := fun env => (a env).bnd fun x => if x = true then M.ret true else b env
def mNot (a : EM Bool) : EM Bool := fun env => (a env).bnd fun x => M.ret (!x)
variable {rest : List Expr} {ba bb : EM Bool}
theorem sw_st {e : Expr} {m : EM Bool} (h : SW X W e m) : ST X W e m := ⟨h.pw.pt⟩
theorem sw_and1 (ha : ST X W a ba) : SW X W (.BoolOp .And [a] pos) ba := ⟨pw_and1 ha.pt⟩
theorem sw_or1 (ha : ST X W a ba) : SW X W (.BoolOp .Or [a] pos) ba := ⟨pw_or1 ha.pt⟩
theorem sw_and (ha : ST X W a ba) (hb : SW X W (.BoolOp .And (b :: rest) pos) bb) : SW X W (.BoolOp .And (a :: b :: rest) pos) (mAnd ba bb) := by
  refine ⟨(pw_and ha.pt hb.pw).weak fun σ H Q ⟨G, h, env, w, re, p⟩ => ⟨G, h, env, w, re, post_bnd p fun a h1 G1 H1 x l1 w1 ra p1 => ?_⟩⟩
  subst ra
  split at p1
  · rename_i e; subst e
    rw [if_pos rfl]
    exact ⟨G1, h1, env, w1, re.mono l1, p1⟩
  · rename_i e
    rw [if_neg e]
    exact p1 G1 H1 false (.refl G1) w1 rfl
theorem sw_or (ha : ST X W a ba) (hb : SW X W (.BoolOp .Or (b :: rest) pos) bb) : SW X W (.BoolOp .Or (a :: b :: rest) pos) (mOr ba bb) := by
  refine ⟨(pw_or ha.pt hb.pw).weak fun σ H Q ⟨G, h, env, w, re, p⟩ => ⟨G, h, env, w, re, post_bnd p fun a h1 G1 H1 x l1 w1 ra p1 => ?_⟩⟩
  subst ra
  split at p1
  · rename_i e; subst e
    rw [if_pos rfl]
    exact p1 G1 H1 true (.refl G1) w1 rfl
  · rename_i e
    rw [if_neg e]
    exact ⟨G1, h1, env, w1, re.mono l1, p1⟩
theorem st_not (ha : ST X W a ba) : ST X W (.UnaryOp .Not a pos) (mNot ba) := by
  refine ⟨(pt_not ha.pt).weak fun σ H Q ⟨G, h, env, w, re, p⟩ => ⟨G, h, env, w, re, post_bnd p fun a h1 G1 H1 x l1 w1 ra p1 => ?_⟩⟩
  subst ra
  exact p1 G1 H1 (!a) (.refl G1) w1 rfl
/-- and, or, not as values, of bools -/
def mB (m : EM Bool) : EM AV := fun env => (m env).bnd fun x => M.ret (.bl x)
def mAndV (a b : EM AV) : EM AV := fun env => (a env).bnd fun x => match x with
  | .bl true => b env
  | .bl false => M.ret (.bl false)
  | _ => M.bad
def mOrV (a b : EM AV) : EM AV := fun env => (a env).bnd fun x => match x with
  | .bl true => M.ret (.bl true)
  | .bl false => b env
  | _ => M.bad
def mNotV (a : EM AV) : EM AV := fun env => (a env).bnd fun x => match x with
  | .bl k => M.ret (.bl (!k))
  | _ => M.bad
theorem se_one {op : BoolOp} {m : EM AV} (ha : SE X W a m) : SE X W (.BoolOp op [a] pos) m := ⟨pe_one ha.pe⟩
theorem se_and (ha : SE X W a ma) (hb : SE X W (.BoolOp .And (b :: rest) pos) mb) : SE X W (.BoolOp .And (a :: b :: rest) pos) (mAndV ma mb) := by
  refine ⟨(pe_and ha.pe hb.pe).weak fun σ H Q ⟨G, h, env, w, re, p⟩ => ⟨G, h, env, w, re, post_bnd p fun a h1 G1 H1 x l1 w1 ra p1 => ?_⟩⟩
  split at p1
  · cases ra
    exact ⟨true, rfl, by rw [if_pos rfl]; exact ⟨G1, h1, env, w1, re.mono l1, p1⟩⟩
  · cases ra
    exact ⟨false, rfl, by rw [if_neg (by simp)]; exact p1 G1 H1 _ (.refl G1) w1 (.bl false)⟩
  · exact p1.elim
theorem se_or (ha : SE X W a ma) (hb : SE X W (.BoolOp .Or (b :: rest) pos) mb) : SE X W (.BoolOp .Or (a :: b :: rest) pos) (mOrV ma mb) := by
  refine ⟨(pe_or ha.pe hb.pe).weak fun σ H Q ⟨G, h, env, w, re, p⟩ => ⟨G, h, env, w, re, post_bnd p fun a h1 G1 H1 x l1 w1 ra p1 => ?_⟩⟩
  split at p1
  · cases ra
    exact ⟨true, rfl, by rw [if_pos rfl]; exact p1 G1 H1 _ (.refl G1) w1 (.bl true)⟩
  · cases ra
    exact ⟨false, rfl, by rw [if_neg (by simp)]; exact ⟨G1, h1, env, w1, re.mono l1, p1⟩⟩
  · exact p1.elim
theorem se_not (ha : SE X W a ma) : SE X W (.UnaryOp .Not a pos) (mNotV ma) := by
  refine ⟨(pe_not ha.pe).weak fun σ H Q ⟨G, h, env, w, re, p⟩ => ⟨G, h, env, w, re, post_bnd p fun a h1 G1 H1 x l1 w1 ra p1 => ?_⟩⟩
  split at p1
  · cases ra
    exact ⟨_, rfl, p1 G1 H1 _ (.refl G1) w1 (.bl _)⟩
  · exact p1.elim
def mIf (t : EM Bool) (a b : EM AV) : EM AV := fun env => (t env).bnd fun x => if x = true then a env else b env
theorem se_if (hc : ST X W c ba) (ha : SE X W a ma) (hb : SE X W b mb) : SE X W (.IfExp c a b pos) (mIf ba ma mb) := by
  refine ⟨(pe_ifExp hc.pt ha.pe hb.pe).weak fun σ H Q ⟨G, h, env, w, re, p⟩ => ⟨G, h, env, w, re, post_bnd p fun a h1 G1 H1 x l1 w1 ra p1 => ?_⟩⟩
  subst ra
  split at p1
  · rename_i e
    rw [if_pos e]; exact ⟨G1, h1, env, w1, re.mono l1, p1⟩
  · rename_i e
    rw [if_neg e]; exact ⟨G1, h1, env, w1, re.mono l1, p1⟩

/-! ### argument lists, displays -/
def aNil : EM (List AV) := fun _ => M.ret []
def aCons (a : EM AV) (r : EM (List AV)) : EM (List AV) := fun env => (a env).bnd fun x => (r env).bnd fun xs => M.ret (x :: xs)
variable {es : List Expr} {as : EM (List AV)}
theorem sa_nil : SA X W [] aNil := ⟨pa_nil.weak fun σ H Q ⟨G, h, env, w, re, p⟩ => p G H [] (.refl G) w .nil⟩
theorem sa_cons (ha : SE X W a ma) (hr : SA X W es as) (hs : starEach (a :: es) X.env = (false, eval a X.env) :: starEach es X.env := by rfl) : SA X W (a :: es) (aCons ma as) := by
  refine ⟨(pa_cons ha.pe hr.pa hs).weak fun σ H Q ⟨G, h, env, w, re, p⟩ => ⟨G, h, env, w, re, post_bnd p fun a h1 G1 H1 x l1 w1 ra p1 => ⟨G1, h1, env, w1, re.mono l1, post_bnd p1 fun xs h2 G2 H2 vs l2 w2 rs p2 => ?_⟩⟩⟩
  exact p2 G2 H2 (x :: vs) (.refl G2) w2 (.cons (ra.mono l2) rs)
def small (xs : List AV) : Bool := decide (xs.length ≤ sizeLine)
def mTup (m : EM (List AV)) : EM AV := fun env => (m env).bnd fun xs => rd fun _ => if small xs then some (.tup xs) else none
def mLst (m : EM (List AV)) : EM AV := fun env => (m env).bnd fun xs => rd fun _ => if small xs then some (.lst xs) else none
theorem se_tup {x1 : Nat} (ha : SA X W es as) : SE X W (.Tuple es x1 pos) (mTup as) := by
  refine ⟨(pe_tup ha.pa).weak fun σ H Q ⟨G, h, env, w, re, p⟩ => ⟨G, h, env, w, re, post_bnd p fun xs h1 G1 H1 vs l1 w1 rs p1 => ?_⟩⟩
  obtain ⟨c, e, q⟩ := post_rd p1
  split at e
  · rename_i hs
    cases e
    refine ⟨by rw [← rs.length]; exact of_decide_eq_true hs, fun a ha => ?_⟩
    have le : G1.le (G1.addF a (.tup vs)) := Gh.addF_le (w1.freeF ha)
    exact q _ _ _ le (w1.newF ha) (.tup upd_same (rs.mono le))
  · cases e
theorem se_lst (ha : SA X W es as) : SE X W (.List es pos) (mLst as) := by
  refine ⟨(pe_lst ha.pa).weak fun σ H Q ⟨G, h, env, w, re, p⟩ => ⟨G, h, env, w, re, post_bnd p fun xs h1 G1 H1 vs l1 w1 rs p1 => ?_⟩⟩
  obtain ⟨c, e, q⟩ := post_rd p1
  split at e
  · rename_i hs
    cases e
    refine ⟨by rw [← rs.length]; exact of_decide_eq_true hs, fun a ha => ?_⟩
    have le : G1.le (G1.addF a (.lst vs)) := Gh.addF_le (w1.freeF ha)
    exact q _ _ _ le (w1.newF ha) (.lst upd_same (rs.mono le))
  · cases e
/-- a list that may change: a new cell -/
def newC (xs : List AV) : M AV := fun h => .ok (.cell h.length) (h ++ [.lst xs])
def mLstC (m : EM (List AV)) : EM AV := fun env => (m env).bnd fun xs => if small xs then newC xs else M.bad
theorem WI.newL {K : PySem.W.Frag} {mg : Str → Option Value} {G : Gh} {h : Hs} {H : Hp} {p : Addr} {xs : List AV} {vs : List V} (w : WI K mg G h H) (e : H p = none) (r : Rs K mg G xs vs) :
    G.le (G.addM h.length p) ∧ WI K mg (G.addM h.length p) (h ++ [.lst xs]) (upd H p (.lst vs)) ∧ R K mg (G.addM h.length p) (.cell h.length) (.ref p) := by
  have le : G.le (G.addM h.length p) := Gh.addM_le w.muN
  have e1 : (G.addM h.length p).mu h.length = some p := by show (if h.length = h.length then some p else _) = _; rw [if_pos rfl]
  exact ⟨le, w.newC e ⟨p, vs, e1, w.freeF e, w.freeZ e, upd_same, r.mono le⟩, .cell e1⟩
theorem se_lstC (ha : SA X W es as) : SE X W (.List es pos) (mLstC as) := by
  refine ⟨(pe_lst ha.pa).weak fun σ H Q ⟨G, h, env, w, re, p⟩ => ⟨G, h, env, w, re, post_bnd p fun xs h1 G1 H1 vs l1 w1 rs p1 => ?_⟩⟩
  split at p1
  · rename_i hs
    refine ⟨by rw [← rs.length]; exact of_decide_eq_true hs, fun a ha => ?_⟩
    obtain ⟨le, w2, r2⟩ := w1.newL ha rs
    exact p1 _ _ _ le w2 r2
  · exact p1.elim
end
end Sim

set_option Elab.async false
set_option linter.all false
set_option maxRecDepth 100000
set_option maxHeartbeats 2000000
namespace Sim
open PySem PySem.Spec L2
open PyProof.Rows hiding St
variable [TabT]

/-! ### statements -/
def sNext : SM := fun env h => .nx env h
def sSeq (a b : SM) : SM := fun env h => match a env h with
  | .nx e h' => b e h'
  | r => r
/-- behind a value -/
def sThen {α : Type} (m : EM α) (f : α → SM) : SM := fun env h => match m env h with
  | .ok v h' => f v env h'
  | .exc c fs h' => .exc c fs env h'
  | .bad => .bad
def sSet (i : Nat) (m : EM AV) : SM := sThen m fun v env h => .nx (env.set i (some v)) h
def sExpr (m : EM AV) : SM := sThen m fun _ env h => .nx env h
def sRet (m : EM AV) : SM := sThen m fun v _ h => .rt v h
def sRetN : SM := fun _ h => .rt .non h
def sIf (t : EM Bool) (a b : SM) : SM := sThen t fun c => if c = true then a else b
def sBreak : SM := fun env h => .bk env h
def sCont : SM := fun env h => .ct env h
def sWhile : Nat → EM Bool → SM → SM
  | 0, _, _ => fun _ _ => .bad
  | n + 1, t, b => sThen t fun c => if c = true then (fun env h => match b env h with
      | .nx e h' => sWhile n t b e h'
      | .ct e h' => sWhile n t b e h'
      | .bk e h' => .nx e h'
      | r => r) else sNext
/-- a target -/
abbrev GT := AV → AEnv → Option AEnv
def gN (i : Nat) : GT := fun a env => some (env.set i (some a))
def gSeq : List GT → List AV → AEnv → Option AEnv
  | [], [], env => some env
  | g :: gs, a :: as, env => (g a env).bind fun e => gSeq gs as e
  | _, _, _ => none
def gT (gs : List GT) : GT := fun a env => match a with
  | .tup xs => gSeq gs xs env
  | _ => none
def sForL (g : GT) (b : SM) : List AV → SM
  | [] => sNext
  | x :: xs => fun env h => match g x env with
    | none => .bad
    | some e => match b e h with
      | .nx e' h' => sForL g b xs e' h'
      | .ct e' h' => sForL g b xs e' h'
      | .bk e' h' => .nx e' h'
      | r => r
def sFor (mi : EM (List AV)) (g : GT) (b : SM) : SM := sThen mi fun xs => sForL g b xs
def sAsg (m : EM AV) (g : GT) : SM := sThen m fun v env h => match g v env with
  | some e => .nx e h
  | none => .bad

section
variable {X : Cx} {W : WX} {k : Nat}
theorem postS_then {α β : Type} {RA : Gh → α → β → Prop} {G : Gh} {σ : L2.St} {D : Ends} {Q' : β → Hp → Prop} {m : EM α} {f : α → SM} {env : AEnv} {h : Hs} (re : RE X.K X.mg G env σ)
    (p : postS X W G D (sThen m f env h))
    (k : ∀ a h' G' H' z, G.le G' → WI X.K X.mg G' h' H' → RA G' a z → RE X.K X.mg G' env σ → postS X W G' D (f a env h') → Q' z H') : post X W RA G σ Q' (m env h) := by
  unfold sThen at p
  cases e : m env h with
  | ok a h1 =>
    rw [e] at p
    exact fun G' H' z l w r => k a h1 G' H' z l w r (re.mono l) (postS.le l p)
  | exc c fs h1 =>
    rw [e] at p
    exact fun G' H' cls d l w x => p G' H' σ cls d l w (re.mono l) x
  | bad =>
    rw [e] at p
    exact p
variable {st : Stmt} {sts rest : List Stmt} {a b c e : Expr} {m ma mb : EM AV} {bt : EM Bool} {s u : SM} {pos : Pos}
theorem ss_pass : SS X W (.Pass pos) sNext := ⟨ps_pass.weak fun D σ H ⟨G, h, env, w, re, p⟩ => p G H σ (.refl G) w re⟩
theorem ss_break : SS X W (.Break pos) sBreak := ⟨ps_break.weak fun D σ H ⟨G, h, env, w, re, p⟩ => p G H σ (.refl G) w re⟩
theorem ss_cont : SS X W (.Continue pos) sCont := ⟨ps_continue.weak fun D σ H ⟨G, h, env, w, re, p⟩ => p G H σ (.refl G) w re⟩
theorem ss_doc {x : Str} {j : Nat} {pos' : Pos} : SS X W (.Expr (.Constant (.str x) j pos) pos') sNext := ⟨ps_doc.weak fun D σ H ⟨G, h, env, w, re, p⟩ => p G H σ (.refl G) w re⟩
theorem sss_nil : SSs X W [] sNext := ⟨pss_nil.weak fun D σ H ⟨G, h, env, w, re, p⟩ => p G H σ (.refl G) w re⟩
theorem sss_one (h : SS X W st s) : SSs X W [st] s := ⟨pss_one h.ps⟩
theorem sss_cons (h1 : SS X W st s) (h2 : SSs X W sts u) : SSs X W (st :: sts) (sSeq s u) := by
  refine ⟨(pss_cons h1.ps h2.pss).weak fun D σ H ⟨G, h, env, w, re, p⟩ => ⟨G, h, env, w, re, ?_⟩⟩
  unfold sSeq at p
  cases e : s env h with
  | nx e1 h1 =>
    rw [e] at p
    exact fun G' H' σ' l w' re' => ⟨G', h1, e1, w', re', postS.le l p⟩
  | rt v h1 => rw [e] at p; exact p
  | bk e1 h1 => rw [e] at p; exact p
  | ct e1 h1 => rw [e] at p; exact p
  | exc c fs e1 h1 => rw [e] at p; exact p
  | bad => rw [e] at p; exact p
theorem ss_set {i : Nat} {x : Str} {pos' : Pos} (hN : X.N.Nodup) (hi : X.N[i]? = some x) (hx : Loc X.env.scope x) (he : SE X W e m) (hs : swapsWith e (some (.Name x pos')) pos.line X.env = pure false := by rfl)
    (hf : X.fn x = true ∨ X.env.scope.names.lookup x = some .local := by first | exact .inl rfl | exact .inr rfl | assumption) : SS X W (.Assign [.Name x pos'] e pos) (sSet i m) := by
  refine ⟨(ps_set hN hi hx he.pe hs hf).weak fun D σ H ⟨G, h, env, w, re, p⟩ => ⟨G, h, env, w, re, postS_then re p fun a h1 G1 H1 z l1 w1 r1 re1 p1 => ?_⟩⟩
  exact p1 G1 H1 _ (.refl G1) w1 (re1.set r1 i)
theorem ss_expr (he : SE X W e m) (hs : swapsWith e none pos.line X.env = pure false := by rfl) : SS X W (.Expr e pos) (sExpr m) := by
  refine ⟨(ps_expr he.pe hs).weak fun D σ H ⟨G, h, env, w, re, p⟩ => ⟨G, h, env, w, re, postS_then re p fun a h1 G1 H1 z l1 w1 r1 re1 p1 => ?_⟩⟩
  exact p1 G1 H1 _ (.refl G1) w1 re1
theorem ss_ret (he : SE X W e m) : SS X W (.Return (some e) pos) (sRet m) := by
  refine ⟨(ps_ret he.pe).weak fun D σ H ⟨G, h, env, w, re, p⟩ => ⟨G, h, env, w, re, postS_then re p fun a h1 G1 H1 z l1 w1 r1 re1 p1 => ?_⟩⟩
  exact p1 G1 H1 _ (.refl G1) w1 r1
theorem ss_retN : SS X W (.Return none pos) sRetN := ⟨ps_retN.weak fun D σ H ⟨G, h, env, w, re, p⟩ => p G H _ (.refl G) w .non⟩
theorem ss_if (hc : ST X W c bt) (ha : SSs X W sts s) (hb : SSs X W rest u) : SS X W (.If c sts rest pos) (sIf bt s u) := by
  refine ⟨(ps_if hc.pt ha.pss hb.pss).weak fun D σ H ⟨G, h, env, w, re, p⟩ => ⟨G, h, env, w, re, postS_then re p fun a h1 G1 H1 z l1 w1 r1 re1 p1 => ?_⟩⟩
  subst r1
  cases a with
  | true => rw [if_pos rfl] at p1 ⊢; exact ⟨G1, h1, env, w1, re1, p1⟩
  | false => rw [if_neg (by simp)] at p1 ⊢; exact ⟨G1, h1, env, w1, re1, p1⟩
theorem postS_ends {G : Gh} {D : Ends} {N : L2.St → Hp → Prop} {r : Out} {f : AEnv → Hs → Out}
    (p : postS X W G D (match r with | .nx e h' => f e h' | .ct e h' => f e h' | .bk e h' => .nx e h' | r => r))
    (hN : ∀ e h' G' H' σ', (r = .nx e h' ∨ r = .ct e h') → G.le G' → WI X.K X.mg G' h' H' → RE X.K X.mg G' e σ' → postS X W G' D (f e h') → N σ' H') : postS X W G { D with nx := N, ct := N, bk := D.nx } r := by
  cases r with
  | nx e h' => exact fun G' H' σ' l w re => hN e h' G' H' σ' (.inl rfl) l w re (postS.le l p)
  | ct e h' => exact fun G' H' σ' l w re => hN e h' G' H' σ' (.inr rfl) l w re (postS.le l p)
  | bk e h' => exact p
  | rt v h' => exact p
  | exc c fs e h' => exact p
  | bad => exact p
theorem ss_while {n : Nat} (O : Ok X W k) (hc : ST X W c bt) (hb : SSs X W sts s) : SS X W (.While c sts [] pos) (sWhile n bt s) := by
  refine ⟨(ps_while O.po hc.pt hb.pss).weak fun D σ H ⟨G, h, env, w, re, p⟩ => ?_⟩
  refine ⟨fun m σ H => ∃ G h env, WI X.K X.mg G h H ∧ RE X.K X.mg G env σ ∧ postS X W G D (sWhile m bt s env h), ⟨n, G, h, env, w, re, p⟩, ?_⟩
  rintro m σ H ⟨G, h, env, w, re, p⟩
  cases m with
  | zero => exact p.elim
  | succ m =>
    unfold sWhile at p
    refine ⟨G, h, env, w, re, postS_then re p fun a h1 G1 H1 z l1 w1 r1 re1 p1 => ?_⟩
    subst r1
    cases a with
    | false => rw [if_neg (by simp)] at p1 ⊢; exact p1 G1 H1 _ (.refl G1) w1 re1
    | true =>
      rw [if_pos rfl] at p1 ⊢
      refine ⟨fun σ' H' => ∃ G h env, WI X.K X.mg G h H' ∧ RE X.K X.mg G env σ' ∧ postS X W G D (sWhile m bt s env h), fun σ' H' q => ⟨m, Nat.lt_succ_self m, q⟩, G1, h1, env, w1, re1, ?_⟩
      exact postS_ends p1 fun e h' G' H' σ' _ l w' re' p' => ⟨G', h', e, w', re', p'⟩

/-! ### targets and loops -/
theorem wipe_set {σ : L2.St} {i : Nat} {x : Option V} : ∀ {vs : List Nat}, i ∈ vs → wipe (σ.set i x) vs = wipe σ vs
  | [], h => by cases h
  | v :: vs, h => by
    unfold wipe
    by_cases hv : i ∈ vs
    · rw [wipe_set hv]
    · have e : i = v := by
        rcases List.mem_cons.mp h with e | e
        · exact e
        · exact absurd e hv
      subst e
      have q : ∀ (vs : List Nat) (σ : L2.St), i ∉ vs → wipe (σ.set i x) vs = (wipe σ vs).set i x := by
        intro vs
        induction vs with
        | nil => intro σ _; rfl
        | cons u us ih =>
          intro σ hn
          unfold wipe
          rw [ih σ (fun z => hn (List.mem_cons_of_mem _ z)), List.set_comm _ _ (fun z => hn (by rw [z]; exact List.mem_cons_self))]
      rw [q vs σ hv, List.set_set]
/-- σ' is σ but at these places -/
def But (ow : List Nat) (σ σ' : L2.St) : Prop := ∀ vs : List Nat, (∀ i ∈ ow, i ∈ vs) → wipe σ' vs = wipe σ vs
def tSG (X : Cx) (ow : List Nat) (g : GT) : TG := fun v σ H Q => ∃ G h env a e', WI X.K X.mg G h H ∧ RE X.K X.mg G env σ ∧ R X.K X.mg G a v ∧ g a env = some e' ∧ ∀ G' H' σ', G.le G' → WI X.K X.mg G' h H' → RE X.K X.mg G' e' σ' → But ow σ σ' → Q σ' H'
def tSGs (X : Cx) (ow : List Nat) (gs : List GT) : TGs := fun vs σ H Q => ∃ G h env as e', WI X.K X.mg G h H ∧ RE X.K X.mg G env σ ∧ Rs X.K X.mg G as vs ∧ gSeq gs as env = some e' ∧ ∀ G' H' σ', G.le G' → WI X.K X.mg G' h H' → RE X.K X.mg G' e' σ' → But ow σ σ' → Q σ' H'
structure SG (X : Cx) (tg : Expr) (ow : List Nat) (g : GT) : Prop where
  pg : PG X tg (tSG X ow g)
structure SGs (X : Cx) (tgs : List Expr) (ow : List Nat) (g : List GT) : Prop where
  pgs : PGs X tgs (tSGs X ow g)
theorem _root_.L2.PG.weak {tg : Expr} {t t' : TG} (p : PG X tg t) (h : ∀ v σ H Q, t' v σ H Q → t v σ H Q) : PG X tg t' := ⟨fun pins s σ H v u Q I r q => p.run pins s σ H v u Q I r (h v σ H Q q)⟩
theorem _root_.L2.PGs.weak {tg : List Expr} {t t' : TGs} (p : PGs X tg t) (h : ∀ v σ H Q, t' v σ H Q → t v σ H Q) : PGs X tg t' := ⟨fun pins s σ H v u Q I r q => p.run pins s σ H v u Q I r (h v σ H Q q)⟩
theorem sg_n {i : Nat} {x : Str} (hN : X.N.Nodup) (hi : X.N[i]? = some x) (hx : Loc X.env.scope x) (hf : X.fn x = true ∨ X.env.scope.names.lookup x = some .local := by first | exact .inl rfl | exact .inr rfl | assumption) : SG X (.Name x pos) [i] (gN i) := by
  refine ⟨(pg_name hN hi hx hf).weak fun v σ H Q ⟨G, h, env, a, e', w, re, r, ge, q⟩ => ?_⟩
  unfold gN at ge
  cases ge
  exact q G H _ (.refl G) w (re.set r i) fun vs hv => wipe_set (hv i List.mem_cons_self)
theorem sgs_nil : SGs X [] [] [] := by
  refine ⟨pgs_nil.weak fun v σ H Q ⟨G, h, env, as, e', w, re, r, ge, q⟩ => ?_⟩
  cases r with
  | nil =>
    unfold gSeq at ge
    cases ge
    exact ⟨rfl, q G H _ (.refl G) w re fun _ _ => rfl⟩
  | cons _ _ => unfold gSeq at ge; cases ge
end
end Sim

set_option Elab.async false
set_option linter.all false
set_option maxRecDepth 100000
set_option maxHeartbeats 2000000
namespace Sim
open PySem PySem.Spec L2
open PyProof.Rows hiding St
variable [TabT]

section
variable {X : Cx} {W : WX} {k : Nat}
variable {st : Stmt} {sts rest : List Stmt} {a b c e tg iter : Expr} {tgs : List Expr} {m ma mb : EM AV} {bt : EM Bool} {s u : SM} {pos : Pos} {g : GT} {gs : List GT} {ow ow2 : List Nat}
theorem sgs_cons (h1 : SG X tg ow g) (h2 : SGs X tgs ow2 gs) (hs : (assignEach (tg :: tgs) X.env).map (·.2) = assign tg X.env :: (assignEach tgs X.env).map (·.2) := by rfl) : SGs X (tg :: tgs) (ow ++ ow2) (g :: gs) := by
  refine ⟨(pgs_cons h1.pg h2.pgs hs).weak fun v σ H Q ⟨G, h, env, as, e', w, re, r, ge, q⟩ => ?_⟩
  cases r with
  | nil => unfold gSeq at ge; cases ge
  | @cons a as v vs ra rt =>
    unfold gSeq at ge
    cases e1 : g a env with
    | none => rw [e1] at ge; cases ge
    | some e2 =>
      rw [e1] at ge
      exact ⟨_, _, rfl, G, h, env, a, e2, w, re, ra, e1, fun G' H' σ' l w' re' bu => ⟨G', h, e2, as, e', w', re', rt.mono l, ge, fun G2 H2 σ2 l2 w2 re2 bu2 => q G2 H2 σ2 (l.trans l2) w2 re2 fun vs hv => (bu2 vs fun i hi => hv i (List.mem_append_right _ hi)).trans (bu vs fun i hi => hv i (List.mem_append_left _ hi))⟩⟩
theorem sg_tup {k0 : Nat} (O : Ok X W k) (h : SGs X tgs ow gs) (hn : (assignEach tgs X.env).length = gs.length := by rfl) (hst : (assignEach tgs X.env).findIdx? (·.1) = none := by rfl) : SG X (.Tuple tgs k0 pos) ow (gT gs) := by
  refine ⟨(pg_tup O.calm h.pgs hn hst).weak fun v σ H Q ⟨G, h, env, a, e', w, re, r, ge, q⟩ => ?_⟩
  unfold gT at ge
  split at ge
  · rename_i xs
    have hl : ∀ (gs : List GT) (xs : List AV) (env e' : AEnv), gSeq gs xs env = some e' → xs.length = gs.length := by
      intro gs
      induction gs with
      | nil => intro xs env e' h; cases xs with
        | nil => rfl
        | cons _ _ => unfold gSeq at h; cases h
      | cons g gs ih => intro xs env e' h; cases xs with
        | nil => unfold gSeq at h; cases h
        | cons x xs =>
          unfold gSeq at h
          cases e1 : g x env with
          | none => rw [e1] at h; cases h
          | some e2 => rw [e1] at h; rw [List.length_cons, List.length_cons, ih xs e2 e' h]
    cases r with
    | tup hS rs =>
      exact ⟨_, _, rfl, sameT w.F (SqT.of hS), by rw [← rs.length]; exact hl _ _ _ _ ge, G, _, env, xs, e', w, re, rs, ge, q⟩
  · cases ge
theorem ss_asg (he : SE X W e m) (hg : SG X tg ow g) (hs : swapsWithSole [tg] e pos.line X.env = pure false := by rfl) (hw : swappedStores [tg] e X.env = pure none := by rfl) (h1 : (assignEach [tg] X.env).map (·.2) = [assign tg X.env] := by rfl) : SS X W (.Assign [tg] e pos) (sAsg m g) := by
  refine ⟨(ps_asg he.pe hg.pg hs hw h1).weak fun D σ H ⟨G, h, env, w, re, p⟩ => ⟨G, h, env, w, re, postS_then re p fun a h1 G1 H1 z l1 w1 r1 re1 p1 => ?_⟩⟩
  cases e1 : g a env with
  | none => rw [e1] at p1; exact p1.elim
  | some e2 => rw [e1] at p1; exact ⟨G1, h1, env, a, e2, w1, re1, r1, e1, fun G' H' σ' l w re _ => p1 G' H' σ' l w re⟩

/-! ### what a for walks -/
def IOk (X : Cx) (G : Gh) (J : It) (xs : List AV) : Prop := ∀ G1 h1 H1, G.lt G1 → WI X.K X.mg G1 h1 H1 → J.stop xs.length H1 ∧
  ∀ i, i < xs.length → J.go i H1 ∧ ∀ x H2, J.yld i H1 x H2 → ∃ G2 a, G1.le G2 ∧ WI X.K X.mg G2 h1 H2 ∧ xs[i]? = some a ∧ R X.K X.mg G2 a x
def tSI (X : Cx) (W : WX) (m : EM (List AV)) : TI := fun σ H R => ∃ G h env, WI X.K X.mg G h H ∧ RE X.K X.mg G env σ ∧ match m env h with
  | .ok xs h' => ∀ G' H' J, G.le G' → WI X.K X.mg G' h' H' → IOk X G' J xs → R J H'
  | .exc c fs h' => ∀ G' H' cls d, G.le G' → WI X.K X.mg G' h' H' → XR X.K X.mg G' c fs cls d → W cls d σ H'
  | .bad => False
structure SI (X : Cx) (W : WX) (tg iter : Expr) (m : EM (List AV)) : Prop where
  pi : PI X tg iter (tSI X W m)
theorem _root_.L2.PI.weak {t t' : TI} (p : PI X tg iter t) (h : ∀ σ H R, t' σ H R → t σ H R) : PI X tg iter t' := ⟨fun pins s σ H R I q => p.run pins s σ H R I (h σ H R q)⟩
theorem ss_for {mi : EM (List AV)} (O : Ok X W k) (hi : SI X W tg iter mi) (hg : SG X tg ow g) (hb : SSs X W sts s) (hs : ∀ x, foldedSetIterable iter X.env x = pure x := by intro _; rfl) : SS X W (.For tg iter sts [] pos) (sFor mi g s) := by
  refine ⟨(ps_for O.po O.calm hi.pi hg.pg hb.pss hs).weak fun D σ H ⟨G, h, env, w, re, p⟩ => ⟨G, h, env, w, re, ?_⟩⟩
  unfold sFor sThen at p
  cases e : mi env h with
  | bad => rw [e] at p; exact p
  | exc c fs h1 => rw [e] at p; exact fun G' H' cls d l w x => p G' H' σ cls d l w (re.mono l) x
  | ok xs h1 =>
    rw [e] at p
    intro G' H' J l w' ik
    refine ⟨fun i m σ H => ∃ G1 h1 env1, G'.le G1 ∧ WI X.K X.mg G1 h1 H ∧ RE X.K X.mg G1 env1 σ ∧ m = xs.length - i ∧ i ≤ xs.length ∧ postS X W G1 D (sForL g s (xs.drop i) env1 h1), ⟨xs.length, G', h1, env, .refl _, w', re.mono l, by simp, Nat.zero_le _, postS.le l p⟩, ?_⟩
    rintro i m σ H ⟨G1, h1, env1, l1, w1, re1, rfl, hi, p1⟩
    obtain ⟨stop, go⟩ := ik G1 h1 H l1.lt w1
    by_cases hlt : i < xs.length
    · obtain ⟨go1, yld⟩ := go i hlt
      refine .inr ⟨go1, fun σ' H' => ∃ G1 h1 env1, G'.le G1 ∧ WI X.K X.mg G1 h1 H' ∧ RE X.K X.mg G1 env1 σ' ∧ postS X W G1 D (sForL g s (xs.drop (i + 1)) env1 h1), ?_, ?_⟩
      · rintro σ' H' ⟨G2, h2, env2, q1, q2, q3, q4⟩
        exact ⟨xs.length - (i + 1), by omega, G2, h2, env2, q1, q2, q3, rfl, hlt, q4⟩
      · intro x H2 y
        obtain ⟨G2, a, l2, w2, ea, ra⟩ := yld x H2 y
        have ed : xs.drop i = a :: xs.drop (i + 1) := by
          rw [List.drop_eq_getElem_cons hlt]
          rw [List.getElem?_eq_getElem hlt] at ea
          rw [Option.some.inj ea]
        rw [ed] at p1
        unfold sForL at p1
        cases eg : g a env1 with
        | none => rw [eg] at p1; exact p1.elim
        | some e2 =>
          rw [eg] at p1
          refine ⟨G2, h1, env1, a, e2, w2, re1.mono l2, ra, eg, fun G3 H3 σ3 l3 w3 re3 _ => ⟨G3, h1, e2, w3, re3, ?_⟩⟩
          exact postS_ends (postS.le (l2.trans l3) p1) fun e' h' G4 H4 σ4 _ l4 w4 re4 p4 => ⟨G4, h', e', l1.trans (l2.trans (l3.trans l4)), w4, re4, p4⟩
    · have ei : i = xs.length := by omega
      subst ei
      refine .inl ⟨stop, ?_⟩
      rw [List.drop_length] at p1
      exact p1 G1 H σ (.refl _) w1 re1
/-- a list or a tuple that never changes -/
def mItL (m : EM AV) : EM (List AV) := fun env => (m env).bnd fun x => rd fun _ => match x with
  | .lst xs => some xs
  | _ => none
def mItT (m : EM AV) : EM (List AV) := fun env => (m env).bnd fun x => rd fun _ => match x with
  | .tup xs => some xs
  | _ => none
theorem walk_iok {G : Gh} {J : It} {vs : List V} {xs : List AV} {P : Hp → Prop} (wk : Walk J vs.length P (YAt vs)) (hP : ∀ G1 h1 H1, G.lt G1 → WI X.K X.mg G1 h1 H1 → P H1) (r : Rs X.K X.mg G xs vs) : IOk X G J xs := by
  intro G1 h1 H1 l w
  have hl := r.length
  have p := hP G1 h1 H1 l w
  refine ⟨by rw [hl]; exact wk.stops H1 p, fun i hi => ⟨wk.goes i H1 (by omega) p, fun x H2 y => ?_⟩⟩
  obtain ⟨rfl, e⟩ := wk.yields i H1 x H2 (by omega) p y
  obtain ⟨a, e2, ra⟩ := r.getV e
  exact ⟨G1, a, .refl _, w, e2, ra.monoL l⟩
theorem si_lst (h : SE X W iter m) : SI X W tg iter (mItL m) := by
  refine ⟨(pi_list h.pe).weak fun σ H Q ⟨G, h, env, w, re, p⟩ => ⟨G, h, env, w, re, ?_⟩⟩
  unfold mItL M.bnd rd at p
  cases e : m env h with
  | bad => rw [e] at p; exact p
  | exc c fs h1 => rw [e] at p; exact p
  | ok x h1 =>
    rw [e] at p
    intro G' H' z l w' r
    cases x with
    | lst xs =>
      cases r with
      | @lst _ a vs hF rs =>
        have hS : SqL X.K H' a vs := .inl (.inl (w'.F _ _ hF))
        exact ⟨a, rfl, ⟨vs, hS⟩, p G' H' _ l w' (walk_iok walk_list (fun G1 h1 H1 l1 w1 => .inl (.inl (w1.F _ _ (l1.F _ _ hF)))) rs)⟩
    | _ => exact p.elim
theorem si_tup (h : SE X W iter m) : SI X W tg iter (mItT m) := by
  refine ⟨(pi_tup h.pe).weak fun σ H Q ⟨G, h, env, w, re, p⟩ => ⟨G, h, env, w, re, ?_⟩⟩
  unfold mItT M.bnd rd at p
  cases e : m env h with
  | bad => rw [e] at p; exact p
  | exc c fs h1 => rw [e] at p; exact p
  | ok x h1 =>
    rw [e] at p
    intro G' H' z l w' r
    cases x with
    | tup xs =>
      cases r with
      | @tup _ a vs hF rs =>
        exact ⟨a, rfl, ⟨vs, sameT w'.F (SqT.of hF)⟩, p G' H' _ l w' (walk_iok walk_tup (fun G1 h1 H1 l1 w1 => sameT w1.F (sameT l1.F (SqT.of hF))) rs)⟩
    | _ => exact p.elim
/-- either, as it comes -/
def mItS (m : EM AV) : EM (List AV) := fun env => (m env).bnd fun x => rd fun _ => match x with
  | .lst xs => some xs
  | .tup xs => some xs
  | _ => none
theorem _root_.L2.PI.orS {t u : TI} (p : PI X tg iter t) (q : PI X tg iter u) : PI X tg iter (fun σ H R => t σ H R ∨ u σ H R) := ⟨fun pins s σ H R I h => h.elim (p.run pins s σ H R I) (q.run pins s σ H R I)⟩
theorem si_seq (h : SE X W iter m) : SI X W tg iter (mItS m) := by
  refine ⟨(L2.PI.orS (pi_list h.pe) (pi_tup h.pe)).weak fun σ H Q ⟨G, h1, env, w, re, p⟩ => ?_⟩
  have pl := (si_lst (tg := tg) h).pi
  unfold mItS M.bnd rd at p
  cases e : m env h1 with
  | bad => rw [e] at p; exact p.elim
  | exc c fs h2 =>
    rw [e] at p
    refine .inl ⟨G, h1, env, w, re, ?_⟩
    rw [e]; exact p
  | ok x h2 =>
    rw [e] at p
    cases x with
    | lst xs =>
      refine .inl ⟨G, h1, env, w, re, ?_⟩
      rw [e]
      intro G' H' z l w' r
      cases r with
      | @lst _ a vs hF rs =>
        have hS : SqL X.K H' a vs := .inl (.inl (w'.F _ _ hF))
        exact ⟨a, rfl, ⟨vs, hS⟩, p G' H' _ l w' (walk_iok walk_list (fun G1 h1 H1 l1 w1 => .inl (.inl (w1.F _ _ (l1.F _ _ hF)))) rs)⟩
    | tup xs =>
      refine .inr ⟨G, h1, env, w, re, ?_⟩
      rw [e]
      intro G' H' z l w' r
      cases r with
      | @tup _ a vs hF rs => exact ⟨a, rfl, ⟨vs, sameT w'.F (SqT.of hF)⟩, p G' H' _ l w' (walk_iok walk_tup (fun G1 h1 H1 l1 w1 => sameT w1.F (sameT l1.F (SqT.of hF))) rs)⟩
    | _ => exact p.elim
end
end Sim

set_option Elab.async false
set_option linter.all false
set_option maxRecDepth 100000
set_option maxHeartbeats 2000000
namespace Sim
open PySem PySem.Spec L2
open PyProof.Rows hiding St
variable [TabT]

/-! ### new lists -/
def tSF (X : Cx) (W : WX) (m : EM (List AV)) : TE := fun σ H Q => ∃ G h env, WI X.K X.mg G h H ∧ RE X.K X.mg G env σ ∧ match m env h with
  | .ok xs h' => ∀ G' H' p vs, G.le G' → WI X.K X.mg G' h' H' → H' p = none → Rs X.K X.mg G' xs vs → Q (.ref p) (upd H' p (.lst vs))
  | .exc c fs h' => ∀ G' H' cls d, G.le G' → WI X.K X.mg G' h' H' → XR X.K X.mg G' c fs cls d → W cls d σ H'
  | .bad => False
/-- an expression that makes a new list -/
structure SF (X : Cx) (W : WX) (e : Expr) (m : EM (List AV)) : Prop where
  pe : PE X e (tSF X W m)
def mLs (m : EM (List AV)) : EM AV := fun env => (m env).bnd fun xs => M.ret (.lst xs)
def mLC (m : EM (List AV)) : EM AV := fun env => (m env).bnd newC
def noexc {α : Type} (m : M α) : M α := fun h => match m h with
  | .exc _ _ _ => .bad
  | r => r
abbrev noW : WX := fun _ _ _ _ => False

section
variable {X : Cx} {W : WX} {k : Nat} {e : Expr} {m : EM (List AV)}
/-- .. that does not change -/
theorem se_ls (h : SF X W e m) : SE X W e (mLs m) := by
  refine ⟨h.pe.weak fun σ H Q ⟨G, h, env, w, re, p⟩ => ⟨G, h, env, w, re, ?_⟩⟩
  unfold mLs M.bnd at p
  cases e : m env h with
  | bad => rw [e] at p; exact p
  | exc c fs h1 => rw [e] at p; exact p
  | ok xs h1 =>
    rw [e] at p
    intro G' H' a vs l w' ha rs
    have le : G'.le (G'.addF a (.lst vs)) := Gh.addF_le (w'.freeF ha)
    exact p _ _ _ (l.trans le) (w'.newF ha) (.lst upd_same (rs.mono le))
/-- .. that may change -/
theorem se_lc (h : SF X W e m) : SE X W e (mLC m) := by
  refine ⟨h.pe.weak fun σ H Q ⟨G, h, env, w, re, p⟩ => ⟨G, h, env, w, re, ?_⟩⟩
  unfold mLC M.bnd at p
  cases e : m env h with
  | bad => rw [e] at p; exact p
  | exc c fs h1 => rw [e] at p; exact p
  | ok xs h1 =>
    rw [e] at p
    intro G' H' a vs l w' ha rs
    obtain ⟨le, w2, r2⟩ := w'.newL ha rs
    exact p _ _ _ (l.trans le) w2 r2
variable {es : List Expr} {as : EM (List AV)} {pos : Pos}
def mDisp (m : EM (List AV)) : EM (List AV) := fun env => (m env).bnd fun xs => rd fun _ => if small xs then some xs else none
theorem sf_disp (ha : SA X W es as) : SF X W (.List es pos) (mDisp as) := by
  refine ⟨(pe_lst ha.pa).weak fun σ H Q ⟨G, h, env, w, re, p⟩ => ⟨G, h, env, w, re, ?_⟩⟩
  unfold mDisp M.bnd rd at p
  cases e : as env h with
  | bad => rw [e] at p; exact p
  | exc c fs h1 => rw [e] at p; exact p
  | ok xs h1 =>
    rw [e] at p
    intro G1 H1 vs l1 w1 rs
    dsimp only at p
    by_cases hs : small xs = true
    · rw [if_pos hs] at p
      exact ⟨by rw [← rs.length]; exact of_decide_eq_true hs, fun a ha => p G1 H1 a vs l1 w1 ha rs⟩
    · rw [if_neg hs] at p; exact p.elim

/-! ### comprehensions -/
def lcL (g : GT) (t : EM Bool) (e : EM AV) (env : AEnv) : List AV → M (List AV)
  | [] => M.ret []
  | x :: xs => match g x env with
    | none => M.bad
    | some e' => (noexc (t e')).bnd fun b => if b = true then (noexc (e e')).bnd fun y => (lcL g t e env xs).bnd fun ys => M.ret (y :: ys) else lcL g t e env xs
def mLc (vs : List Nat) (mi : EM (List AV)) (g : GT) (t : EM Bool) (e : EM AV) : EM (List AV) := fun env => (mi env).bnd fun xs => if small xs then lcL g t e (wipeE env vs) xs else M.bad
theorem noexc_ne {α : Type} (m : M α) (h : Hs) (c : Str) (fs : List (Str × AV)) (h' : Hs) : noexc m h ≠ .exc c fs h' := by
  intro q
  unfold noexc at q
  cases e : m h with
  | ok a h1 => rw [e] at q; cases q
  | exc c fs h1 => rw [e] at q; cases q
  | bad => rw [e] at q; cases q
theorem bnd_ne {α β : Type} {m : M α} {f : α → M β} (hm : ∀ h c fs h', m h ≠ .exc c fs h') (hf : ∀ a h c fs h', f a h ≠ .exc c fs h') (h : Hs) (c : Str) (fs : List (Str × AV)) (h' : Hs) : M.bnd m f h ≠ .exc c fs h' := by
  intro q
  unfold M.bnd at q
  cases e : m h with
  | ok a h1 => rw [e] at q; exact hf _ _ _ _ _ q
  | exc c fs h1 => exact hm _ _ _ _ e
  | bad => rw [e] at q; cases q
theorem lcL_ne {g : GT} {t : EM Bool} {e : EM AV} {env : AEnv} : ∀ (xs : List AV) (h : Hs) (c : Str) (fs : List (Str × AV)) (h' : Hs), lcL g t e env xs h ≠ .exc c fs h'
  | [], h, c, fs, h' => fun q => by cases q
  | x :: xs, h, c, fs, h' => by
    unfold lcL
    cases g x env with
    | none => intro q; cases q
    | some e' =>
      refine bnd_ne (noexc_ne _) (fun b h c fs h' => ?_) h c fs h'
      by_cases hb : b = true
      · rw [if_pos hb]
        exact bnd_ne (noexc_ne _) (fun y h c fs h' => bnd_ne (lcL_ne xs) (fun ys h c fs h' q => by cases q) h c fs h') h c fs h'
      · rw [if_neg hb]
        exact lcL_ne xs h c fs h'
theorem post_noexc {α β : Type} {RR : Gh → α → β → Prop} {G : Gh} {σ : L2.St} {Q : β → Hp → Prop} {W' : WX} {mm : M α} {h : Hs} (p : post X W RR G σ Q (noexc mm h)) : post X W' RR G σ Q (mm h) := by
  unfold noexc at p
  cases e : mm h with
  | ok a h1 => rw [e] at p; exact p
  | exc c fs h1 => rw [e] at p; exact p.elim
  | bad => rw [e] at p; exact p
end
/-- the block's context -/
abbrev blkX (X : Cx) (scope : Scope) (s : Shared) (H : Hp) (C : Addr) (cl : List (Str × Addr)) (fp : List Addr) : Cx := X.blk s H scope (compEnvC scope cl C X.env) fp
section
variable {X : Cx} {W : WX} {k : Nat}
theorem Ok.blk (O : Ok X W k) (scope : Scope) (s : Shared) (H : Hp) (C : Addr) (cl : List (Str × Addr)) (fp : List Addr) : Ok (blkX X scope s H C cl fp) noW k where
  nd := O.nd
  tk := fun u s' ⟨_, _, _, _, _, _, _, _, _, _, _, _, _, _, _, _, z⟩ => z.elim
  hr := O.hr
  calm := O.calm
  po := PassesOwn.never
structure STs (X : Cx) (W : WX) (ifs : List Expr) (m : EM Bool) : Prop where
  pts : PTs X ifs (tST X W m)
def mYes : EM Bool := fun _ => M.ret true
theorem sts_nil : STs X W [] mYes := ⟨⟨fun pins s σ H Q I ⟨G, h, env, w, re, p⟩ => pts_nil.run pins s σ H Q I (p G H true (.refl G) w rfl)⟩⟩
theorem sts_one {c : Expr} {m : EM Bool} (h : ST X W c m) : STs X W [c] m := ⟨pts_one h.pt⟩
def Gh.hold (G : Gh) (D : Addr) (vs : List V) : Gh := { G with Z := upd G.Z D (.lst vs) }
theorem Gh.hold_lt (G : Gh) (D : Addr) (vs : List V) : G.lt (G.hold D vs) := ⟨Same.refl _, fun _ _ q => q, rfl⟩
theorem Gh.hold_gt (G : Gh) (D : Addr) (vs : List V) : (G.hold D vs).lt G := ⟨Same.refl _, fun _ _ q => q, rfl⟩
theorem CellOk.conv {K : PySem.W.Frag} {mg : Str → Option Value} {G G' : Gh} {H H' : Hp} {n : Nat} {c : Cell} (x : CellOk K mg G H n c) (l : G.lt G') (hF : ∀ a, G.mu n = some a → G.F a = none → G'.F a = none) (hZ : ∀ a, G.mu n = some a → G.Z a = none → G'.Z a = none) (hH : ∀ a o, G.mu n = some a → H a = some o → H' a = some o) : CellOk K mg G' H' n c := by
  cases c with
  | lst xs => obtain ⟨a, vs, h1, h2, hz, h3, h4⟩ := x; exact ⟨a, vs, l.mu _ _ h1, hF a h1 h2, hZ a h1 hz, hH a _ h1 h3, h4.monoL l⟩
  | dct kvs =>
    obtain ⟨a, h1, h2, hz, ⟨vks, h3, h4⟩ | ⟨vks, h3, h4⟩⟩ := x
    · exact ⟨a, l.mu _ _ h1, hF a h1 h2, hZ a h1 hz, .inl ⟨vks, hH a _ h1 h3, h4.monoL l⟩⟩
    · exact ⟨a, l.mu _ _ h1, hF a h1 h2, hZ a h1 hz, .inr ⟨vks, hH a _ h1 h3, h4.monoL l⟩⟩
  | ins c fs => obtain ⟨a, C, dx, vfs, h1, h2, hz, hc, h3, h4⟩ := x; exact ⟨a, C, dx, vfs, l.mu _ _ h1, hF a h1 h2, hZ a h1 hz, hc, hH a _ h1 h3, h4.monoL l⟩
  | frz v => obtain ⟨a, o, h1, h2, h3⟩ := x; exact ⟨a, o, l.mu _ _ h1, l.F _ _ h2, h3.monoL l⟩
/-- a new list is held aside -/
theorem WI.hold {K : PySem.W.Frag} {mg : Str → Option Value} {G : Gh} {h : Hs} {H : Hp} {D : Addr} {vs : List V} (w : WI K mg G h H) (e : H D = none) : WI K mg (G.hold D vs) h (upd H D (.lst vs)) := by
  have hF := w.freeF e
  have hZ := w.freeZ e
  have hM := w.freeM e
  refine ⟨fun b u q => ?_, fun b u q => ?_, fun b u q => ?_, fun n c hc => ?_, w.bnd, w.inj, tabs_new w.tb.T e, w.tb.nF, fun b u fx q => ?_⟩
  · have q2 : G.F b = some u := q
    rw [upd_ne (ne_of_none q2 hF)]; exact w.F b u q2
  · have q2 : upd G.Z D (.lst vs) b = some u := q
    by_cases hb : b = D
    · subst hb; rw [upd_same] at q2 ⊢; exact q2
    · rw [upd_ne hb] at q2 ⊢; exact w.Z b u q2
  · have q2 : upd G.Z D (.lst vs) b = some u := q
    by_cases hb : b = D
    · subst hb; exact hF
    · rw [upd_ne hb] at q2; exact w.FZ b u q2
  · refine (w.cells n c hc).conv (G.hold_lt D vs) (fun a _ q => q) (fun a ha q => ?_) (fun a o ha q => ?_)
    · show upd G.Z D (.lst vs) a = none
      rw [upd_ne (fun z => hM n (by rw [ha, z]))]; exact q
    · rw [upd_ne (fun z => hM n (by rw [ha, z]))]; exact q
  · have q2 : upd G.Z D (.lst vs) b = some u := q
    by_cases hb : b = D
    · subst hb; rw [upd_same] at q2; cases q2; cases fx
    · rw [upd_ne hb] at q2; exact w.tb.nZ b u fx q2
def offH (H : Hp) (D : Addr) : Hp := fun b => if b = D then none else H b
theorem offH_upd {H : Hp} {D : Addr} {o : HO} (e : H D = some o) : upd (offH H D) D o = H := by
  funext b
  by_cases hb : b = D
  · subst hb; rw [upd_same, e]
  · rw [upd_ne hb]; unfold offH; rw [if_neg hb]
theorem offH_at {H : Hp} {D : Addr} : offH H D D = none := by unfold offH; rw [if_pos rfl]
/-- what is held is let go -/
theorem WI.letgo {K : PySem.W.Frag} {mg : Str → Option Value} {G : Gh} {h : Hs} {H : Hp} {D : Addr} {vs : List V} (w : WI K mg (G.hold D vs) h H) (hZ : G.Z D = none) : H D = some (.lst vs) ∧ WI K mg G h (offH H D) := by
  have zD : (G.hold D vs).Z D = some (.lst vs) := by show upd G.Z D (.lst vs) D = _; rw [upd_same]
  have hF : G.F D = none := w.FZ D _ zD
  refine ⟨w.Z D _ zD, fun b u q => ?_, fun b u q => ?_, fun b u q => ?_, fun n c hc => ?_, w.bnd, w.inj, ?_, w.tb.nF, fun b u fx q => ?_⟩
  · unfold offH; rw [if_neg (ne_of_none q hF)]; exact w.F b u q
  · unfold offH; rw [if_neg (ne_of_none q hZ)]
    refine w.Z b u ?_
    show upd G.Z D (.lst vs) b = some u
    rw [upd_ne (ne_of_none q hZ)]; exact q
  · refine w.FZ b u ?_
    show upd G.Z D (.lst vs) b = some u
    rw [upd_ne (ne_of_none q hZ)]; exact q
  · have dZ : ∀ a, (G.hold D vs).Z a = none → a ≠ D ∧ G.Z a = none := fun a q => by
      have q2 : upd G.Z D (.lst vs) a = none := q
      by_cases ha : a = D
      · subst ha; rw [upd_same] at q2; cases q2
      · rw [upd_ne ha] at q2; exact ⟨ha, q2⟩
    have x := w.cells n c hc
    have key : ∀ a o, (G.hold D vs).mu n = some a → H a = some o → ((G.hold D vs).Z a = none ∨ ∃ u, (G.hold D vs).F a = some u) → offH H D a = some o := fun a o _ ho hh => by
      unfold offH
      rw [if_neg ?_]
      · exact ho
      · rcases hh with hh | ⟨u, hh⟩
        · exact (dZ a hh).1
        · exact ne_of_none (H := G.F) hh hF
    cases c with
    | lst xs => obtain ⟨a, ws, h1, h2, hz, h3, h4⟩ := x; exact ⟨a, ws, h1, h2, (dZ a hz).2, key a _ h1 h3 (.inl hz), h4.monoL (G.hold_gt D vs)⟩
    | dct kvs =>
      obtain ⟨a, h1, h2, hz, ⟨vks, h3, h4⟩ | ⟨vks, h3, h4⟩⟩ := x
      · exact ⟨a, h1, h2, (dZ a hz).2, .inl ⟨vks, key a _ h1 h3 (.inl hz), h4.monoL (G.hold_gt D vs)⟩⟩
      · exact ⟨a, h1, h2, (dZ a hz).2, .inr ⟨vks, key a _ h1 h3 (.inl hz), h4.monoL (G.hold_gt D vs)⟩⟩
    | ins c fs => obtain ⟨a, C, dx, vfs, h1, h2, hz, hc2, h3, h4⟩ := x; exact ⟨a, C, dx, vfs, h1, h2, (dZ a hz).2, hc2, key a _ h1 h3 (.inl hz), h4.monoL (G.hold_gt D vs)⟩
    | frz v => obtain ⟨a, o, h1, h2, h3⟩ := x; exact ⟨a, o, h1, h2, h3.monoL (G.hold_gt D vs)⟩
  · have hD := w.Z D _ zD
    refine tabs_stay w.tb.T (fun b ps q => ?_) (fun b f q => ?_) <;>
    · unfold offH
      rw [if_neg (fun z => by rw [z, hD] at q; cases q)]
      exact q
  · refine w.tb.nZ b u fx ?_
    show upd G.Z D (.lst vs) b = _
    rw [upd_ne (ne_of_none q hZ)]; exact q
theorem Gh.lt.trans {A B C : Gh} (h : A.lt B) (k : B.lt C) : A.lt C := ⟨h.F.trans k.F, fun n a e => k.mu n a (h.mu n a e), k.T.trans h.T⟩
theorem RE.monoL {K : PySem.W.Frag} {mg : Str → Option Value} {G G' : Gh} (l : G.lt G') : ∀ {es : AEnv} {σ : L2.St}, RE K mg G es σ → RE K mg G' es σ
  | _, _, .nil => .nil
  | _, _, .no t => .no (RE.monoL l t)
  | _, _, .yes r t => .yes (r.monoL l) (RE.monoL l t)
theorem unhold {G : Gh} {D : Addr} {vs : List V} {G2 : Gh} (l : (G.hold D vs).le G2) : G.le { G2 with Z := G.Z } ∧ G2 = ({ G2 with Z := G.Z } : Gh).hold D vs := by
  refine ⟨⟨l.F, l.mu, rfl, l.T⟩, ?_⟩
  have e : G2.Z = upd G.Z D (.lst vs) := l.Z
  obtain ⟨F, mu, Z, T⟩ := G2
  have e2 : Z = upd G.Z D (.lst vs) := e
  subst e2
  rfl
theorem wipe_idem : ∀ (vs : List Nat) (σ : L2.St), wipe (wipe σ vs) vs = wipe σ vs := by
  have q : ∀ (us vs : List Nat) (σ : L2.St), (∀ i ∈ us, i ∈ vs) → wipe (wipe σ us) vs = wipe σ vs := by
    intro us
    induction us with
    | nil => intro vs σ _; rfl
    | cons u us ih =>
      intro vs σ hs
      show wipe ((wipe σ us).set u none) vs = wipe σ vs
      rw [wipe_set (hs u List.mem_cons_self), ih vs σ fun i hi => hs i (List.mem_cons_of_mem _ hi)]
  exact fun vs σ => q vs vs σ fun _ hi => hi
theorem tLc_of {own : List (Str × Nat)} {mi : EM (List AV)} {ow : List Nat} {g : GT} {bt : EM Bool} {me : EM AV} (how : ∀ i ∈ ow, i ∈ own.map (·.2)) {σ : L2.St} {H : Hp} {Q : VK} (t : tSF X W (mLc (own.map (·.2)) mi g bt me) σ H Q) :
    tLc (tSI X W mi) (tSG X ow g) (tST X noW bt) (tSE X noW me) (own.map (·.2)) σ H Q := by
  obtain ⟨G, h, env, w, re, p⟩ := t
  refine ⟨G, h, env, w, re, ?_⟩
  unfold mLc M.bnd at p
  cases e : mi env h with
  | bad => rw [e] at p; exact p
  | exc c fs h1 => rw [e] at p; exact p
  | ok xs h1 =>
    rw [e] at p
    dsimp only at p
    by_cases hsm : small xs = true
    · rw [if_pos hsm] at p
      have hlen : xs.length ≤ sizeLine := of_decide_eq_true hsm
      intro G' H' J l w' ik D hD
      have hZD := w'.freeZ hD
      -- what is left: from as, xs' at store h2
      refine ⟨fun i m H2 => ∃ G1 h2 as vacc, G'.le G1 ∧ Rs X.K X.mg G1 as vacc ∧ WI X.K X.mg (G1.hold D vacc) h2 H2 ∧ as.length ≤ i ∧ m = xs.length - i ∧ i ≤ xs.length ∧
          (match ((lcL g bt me (wipeE env (own.map (·.2))) (xs.drop i)).bnd fun ys => M.ret (as ++ ys)) h2 with
            | .ok zs h' => ∀ G3 H3 p vs, G1.le G3 → WI X.K X.mg G3 h' H3 → H3 p = none → Rs X.K X.mg G3 zs vs → Q (.ref p) (upd H3 p (.lst vs))
            | _ => False), ⟨xs.length, G', h1, [], [], .refl _, .nil, w'.hold hD, Nat.le_refl _, by simp, Nat.zero_le _, ?_⟩, ?_⟩
      · rw [List.drop_zero]
        unfold M.bnd
        cases e2 : lcL g bt me (wipeE env (own.map (·.2))) xs h1 with
        | ok zs h3 => rw [e2] at p; exact fun G3 H3 q vs l3 => p G3 H3 q vs (l.trans l3)
        | exc c fs h3 =>
          exfalso
          exact lcL_ne xs h1 c fs h3 e2
        | bad => rw [e2] at p; exact p
      · rintro i m H2 ⟨G1, h2, as, vacc, l1, ra, w2, hal, rfl, hi2, p2⟩
        have hZ1 : G1.Z D = none := by rw [l1.Z]; exact hZD
        obtain ⟨stop, go⟩ := ik (G1.hold D vacc) h2 H2 (l1.lt.trans (G1.hold_lt D vacc)) w2
        by_cases hlt : i < xs.length
        · obtain ⟨go1, yld⟩ := go i hlt
          refine .inr ⟨go1, fun H3 => ∃ G1 h2 as vacc, G'.le G1 ∧ Rs X.K X.mg G1 as vacc ∧ WI X.K X.mg (G1.hold D vacc) h2 H3 ∧ as.length ≤ i + 1 ∧
              (match ((lcL g bt me (wipeE env (own.map (·.2))) (xs.drop (i + 1))).bnd fun ys => M.ret (as ++ ys)) h2 with
                | .ok zs h' => ∀ G3 H3 p vs, G1.le G3 → WI X.K X.mg G3 h' H3 → H3 p = none → Rs X.K X.mg G3 zs vs → Q (.ref p) (upd H3 p (.lst vs))
                | _ => False), ?_, ?_⟩
          · rintro H3 ⟨G2, h3, as2, vacc2, q1, q2, q3, q4, q5⟩
            exact ⟨xs.length - (i + 1), by omega, G2, h3, as2, vacc2, q1, q2, q3, q4, rfl, hlt, q5⟩
          · intro x H3 y
            obtain ⟨G2, a, l2, w3, ea, rx⟩ := yld x H3 y
            have ed : xs.drop i = a :: xs.drop (i + 1) := by
              rw [List.drop_eq_getElem_cons hlt]
              rw [List.getElem?_eq_getElem hlt] at ea
              rw [Option.some.inj ea]
            rw [ed] at p2
            unfold lcL at p2
            have rew : RE X.K X.mg G2 (wipeE env (own.map (·.2))) (wipe σ (own.map (·.2))) := (((re.mono (l.trans l1)).wipe _).monoL (G1.hold_lt D vacc)).mono l2
            cases eg : g a (wipeE env (own.map (·.2))) with
            | none => rw [eg] at p2; exact p2.elim
            | some e2 =>
              rw [eg] at p2
              dsimp only at p2
              refine ⟨G2, h2, _, a, e2, w3, rew, rx, eg, fun G3 H4 σ3 l3 w4 re3 bu => ⟨by rw [bu _ how]; exact wipe_idem _ _, ?_⟩⟩
              refine ⟨G3, h2, e2, w4, re3, ?_⟩
              -- the test
              unfold M.bnd at p2
              cases et : noexc (bt e2) h2 with
              | bad => rw [et] at p2; exact p2.elim
              | exc c fs h3 => rw [et] at p2; exact p2.elim
              | ok b h3 =>
                rw [et] at p2
                dsimp only at p2
                have et2 : bt e2 h2 = .ok b h3 := by
                  unfold noexc at et
                  split at et
                  · cases et
                  · exact et
                rw [et2]
                intro G4 H5 b' l4 w5 rb
                subst rb
                by_cases hb : b = true
                · rw [if_pos hb] at p2 ⊢
                  refine ⟨G4, h3, e2, w5, re3.mono l4, ?_⟩
                  cases ee : noexc (me e2) h3 with
                  | bad => rw [ee] at p2; exact p2.elim
                  | exc c fs h4 => rw [ee] at p2; exact p2.elim
                  | ok yv h4 =>
                    rw [ee] at p2
                    dsimp only at p2
                    have ee2 : me e2 h3 = .ok yv h4 := by
                      unfold noexc at ee
                      split at ee
                      · cases ee
                      · exact ee
                    rw [ee2]
                    intro G5 H6 yy l5 w6 ry
                    -- the list grows
                    obtain ⟨lu, eu⟩ := unhold (l2.trans (l3.trans (l4.trans l5)))
                    rw [eu] at w6
                    obtain ⟨hDD, w7⟩ := w6.letgo (by show G1.Z D = none; exact hZ1)
                    refine ⟨vacc, hDD, ?_, ({ G5 with Z := G1.Z } : Gh), h4, as ++ [yv], vacc ++ [yy], l1.trans lu, ?_, ?_, ?_, ?_⟩
                    · rw [← ra.length]; omega
                    · exact Rs.append (ra.mono lu) (.cons (R.monoL (G := G5) (G' := { G5 with Z := G1.Z }) ⟨Same.refl _, fun _ _ q => q, rfl⟩ ry) .nil)
                    · have w8 := w7.hold (D := D) (vs := vacc ++ [yy]) offH_at
                      have eqh : upd (offH H6 D) D (.lst (vacc ++ [yy])) = upd H6 D (.lst (vacc ++ [yy])) := by
                        funext b
                        by_cases hb2 : b = D
                        · subst hb2; rw [upd_same, upd_same]
                        · rw [upd_ne hb2, upd_ne hb2]; unfold offH; rw [if_neg hb2]
                      rw [eqh] at w8
                      exact w8
                    · rw [List.length_append, List.length_singleton]; omega
                    · cases er : lcL g bt me (wipeE env (own.map (·.2))) (xs.drop (i + 1)) h4 with
                      | bad => rw [er] at p2; exact p2.elim
                      | exc c fs h5 => rw [er] at p2; exact p2.elim
                      | ok zs h5 =>
                        rw [er] at p2
                        have p3 : ∀ G3 H3 p vs, G1.le G3 → WI X.K X.mg G3 h5 H3 → H3 p = none → Rs X.K X.mg G3 (as ++ yv :: zs) vs → Q (.ref p) (upd H3 p (.lst vs)) := p2
                        unfold M.bnd
                        rw [er]
                        intro G6 H7 pp vs l6 w9 hp rs
                        have rs' : Rs X.K X.mg G6 (as ++ yv :: zs) vs := by
                          have e1 : as ++ [yv] ++ zs = as ++ yv :: zs := by rw [List.append_assoc]; rfl
                          rw [← e1]; exact rs
                        exact p3 G6 H7 pp vs (lu.trans l6) w9 hp rs'
                · rw [if_neg hb] at p2 ⊢
                  obtain ⟨lu, eu⟩ := unhold (l2.trans (l3.trans l4))
                  rw [eu] at w5
                  refine ⟨({ G4 with Z := G1.Z } : Gh), h3, as, vacc, l1.trans lu, ra.mono lu, w5, by omega, ?_⟩
                  cases er : lcL g bt me (wipeE env (own.map (·.2))) (xs.drop (i + 1)) h3 with
                  | bad => rw [er] at p2; exact p2.elim
                  | exc c fs h5 => rw [er] at p2; exact p2.elim
                  | ok zs h5 =>
                    rw [er] at p2
                    have p3 : ∀ G3 H3 p vs, G1.le G3 → WI X.K X.mg G3 h5 H3 → H3 p = none → Rs X.K X.mg G3 (as ++ zs) vs → Q (.ref p) (upd H3 p (.lst vs)) := p2
                    unfold M.bnd
                    rw [er]
                    exact fun G6 H7 pp vs l6 => p3 G6 H7 pp vs (lu.trans l6)
        · have ei : i = xs.length := by omega
          subst ei
          rw [List.drop_length] at p2
          refine .inl ⟨stop, ?_⟩
          obtain ⟨hDD, w7⟩ := w2.letgo hZ1
          have p3 : ∀ G3 H3 p vs, G1.le G3 → WI X.K X.mg G3 h2 H3 → H3 p = none → Rs X.K X.mg G3 (as ++ []) vs → Q (.ref p) (upd H3 p (.lst vs)) := p2
          have q := p3 G1 (offH H2 D) D vacc (.refl _) w7 offH_at (by rw [List.append_nil]; exact ra)
          rw [offH_upd hDD] at q
          exact q
    · rw [if_neg hsm] at p; exact p.elim
theorem sf_lc {elt tg iter : Expr} {ifs : List Expr} {scope : Scope} {own : List (Str × Nat)} {pos : Pos} {mi : EM (List AV)} {ow : List Nat} {g : GT} {bt : EM Bool} {me : EM AV} (O : Ok X W k) (hi : SI X W tg iter mi) (ok : BlkOk X.N X.env.scope scope own) (how : ∀ i ∈ ow, i ∈ own.map (·.2))
    (hg : ∀ s H C cl fp, SG (blkX X scope s H C cl fp) tg ow g) (ht : ∀ s H C cl fp, STs (blkX X scope s H C cl fp) noW ifs bt) (he : ∀ s H C cl fp, SE (blkX X scope s H C cl fp) noW elt me) (hs : ∀ x, foldedSetIterable iter X.env x = pure x := by intro _; rfl) :
    SF X W (.ListComp elt [⟨tg, iter, ifs, 0⟩] scope pos) (mLc (own.map (·.2)) mi g bt me) :=
  ⟨(pe_lc (tt := tST X noW bt) (g := tSG X ow g) (te := tSE X noW me) O.calm O.nd hi.pi ok (fun s H C cl fp => (hg s H C cl fp).pg) (fun s H C cl fp => (ht s H C cl fp).pts) (fun s H C cl fp => (he s H C cl fp).pe) hs).weak fun σ H Q t => tLc_of how t⟩
end
end Sim

set_option Elab.async false
set_option linter.all false
set_option maxRecDepth 100000
set_option maxHeartbeats 2000000
namespace Sim
open PySem PySem.Spec L2
open PyProof.Rows hiding St
variable [TabT]

/-! ### values without cells -/
mutual
def noC : AV → Bool
  | .tup xs => noCs xs
  | .lst xs => noCs xs
  | .dct kvs => noCk kvs
  | .obj _ fs => noCf fs
  | .cell _ => false
  | _ => true
def noCs : List AV → Bool
  | [] => true
  | x :: xs => noC x && noCs xs
def noCk : List (AV × AV) → Bool
  | [] => true
  | (_, y) :: xs => noC y && noCk xs
def noCf : List (Str × AV) → Bool
  | [] => true
  | (_, y) :: xs => noC y && noCf xs
end
def noCC : Cell → Bool
  | .lst xs => noCs xs
  | .dct kvs => noCk kvs
  | .ins _ fs => noCf fs
  | .frz v => noC v
section
variable {K : PySem.W.Frag} {mg : Str → Option Value} {G G' : Gh}
mutual
theorem R.lower (l : Same G.F G'.F) : ∀ {x : AV} {v : V}, noC x = true → R K mg G x v → R K mg G' x v
  | _, _, _, .non => .non
  | _, _, _, .bl b => .bl b
  | _, _, _, .int b => .int b
  | _, _, _, .str b => .str b
  | _, _, _, .ty b => .ty b
  | _, _, e, .tup h t => .tup (l _ _ h) (Rs.lower l (by simpa [noC] using e) t)
  | _, _, e, .lst h t => .lst (l _ _ h) (Rs.lower l (by simpa [noC] using e) t)
  | _, _, e, .obj h e2 t => .obj h (l _ _ e2) (Rf.lower l (by simpa [noC] using e) t)
  | _, _, e, .dctK e2 t => .dctK (l _ _ e2) (RkK.lower l (by simpa [noC] using e) t)
  | _, _, e, .dctT e2 t => .dctT (l _ _ e2) (RkT.lower l (by simpa [noC] using e) t)
  | _, _, _, .scr h => .scr (l.seq h)
  | _, _, _, .ctp h => .ctp h
  | _, _, e, .cell h => by simp [noC] at e
theorem Rs.lower (l : Same G.F G'.F) : ∀ {x : List AV} {v : List V}, noCs x = true → Rs K mg G x v → Rs K mg G' x v
  | _, _, _, .nil => .nil
  | _, _, e, .cons h t => by
    rw [noCs, Bool.and_eq_true] at e
    exact .cons (R.lower l e.1 h) (Rs.lower l e.2 t)
theorem Rf.lower (l : Same G.F G'.F) : ∀ {x : List (Str × AV)} {v : List (Str × V)}, noCf x = true → Rf K mg G x v → Rf K mg G' x v
  | _, _, _, .nil => .nil
  | _, _, e, .cons h t => by
    rw [noCf, Bool.and_eq_true] at e
    exact .cons (R.lower l e.1 h) (Rf.lower l e.2 t)
theorem RkK.lower (l : Same G.F G'.F) : ∀ {x : List (AV × AV)} {v : List (Key × V)}, noCk x = true → RkK K mg G x v → RkK K mg G' x v
  | _, _, _, .nil => .nil
  | _, _, e, .int h t => by
    rw [noCk, Bool.and_eq_true] at e
    exact .int (R.lower l e.1 h) (RkK.lower l e.2 t)
  | _, _, e, .str h t => by
    rw [noCk, Bool.and_eq_true] at e
    exact .str (R.lower l e.1 h) (RkK.lower l e.2 t)
theorem RkT.lower (l : Same G.F G'.F) : ∀ {x : List (AV × AV)} {v : List (List Key × V)}, noCk x = true → RkT K mg G x v → RkT K mg G' x v
  | _, _, _, .nil => .nil
  | _, _, e, .cons h t => by
    rw [noCk, Bool.and_eq_true] at e
    exact .cons (R.lower l e.1 h) (RkT.lower l e.2 t)
end
end

/-! ### a def's promise -/
abbrev FM := List AV → M AV
def postF (K : PySem.W.Frag) (mg : Str → Option Value) (G : Gh) (Q : VK) (E : XK) : Res AV → Prop
  | .ok v h' => ∀ G' H' z, G.le G' → WI K mg G' h' H' → R K mg G' v z → Q z H'
  | .exc c fs h' => ∀ G' H' cls d, G.le G' → WI K mg G' h' H' → XR K mg G' c fs cls d → E cls d H'
  | .bad => False
def spM (K : PySem.W.Frag) (mg : Str → Option Value) (n : Nat) (m : FM) : Sp := fun vs H Q E => vs.length = n ∧ ∃ G h avs, WI K mg G h H ∧ Rs K mg G avs vs ∧ postF K mg G Q E (m avs h)
/-- a body's worth as a def's -/
def bodyM (n : Nat) (s : SM) : FM := fun avs h => match s (avs.map some ++ List.replicate n none) h with
  | .nx _ h' => .ok .non h'
  | .rt v h' => .ok v h'
  | .exc c fs _ h' => .exc c fs h'
  | _ => .bad
abbrev fnW (E : XK) : WX := fun cls d _ H => E cls d H
section
variable {P : Program} {w : World} {K : PySem.W.Frag} {mg : Str → Option Value} {base : Heap}
/-- THE RULE for a def -/
theorem fn_mk {x qual : Str} {st : Stmt} {f : Addr} {fd : FuncData} {N ps : List Str} {k : Nat} {s : SM} (F : L2.Fun K x qual st f fd) (S : FnScope N ps (defScope st))
    (hb : ∀ (cdv : Value) (A : Around) (outer : List Env) (sh : Shared) (H : Hp) (E : XK), Ok (cxOf (L2.CX P w) P w K mg base N qual (defScope st) f cdv A outer sh H E) (fnW E) k → SSs (cxOf (L2.CX P w) P w K mg base N qual (defScope st) f cdv A outer sh H E) (fnW E) (defBody st) s) :
    FnOk P w K mg base (L2.CX P w) (k + 1) f fd ps (spM K mg ps.length (bodyM (N.length - ps.length) s)) := by
  refine F.okX S (fun vs H Q E h => h.1) (fun cdv A outer sh H vs Q E hr h => ?_)
  obtain ⟨hl, G, h0, avs, w', rs, p⟩ := h
  refine ⟨_, (hb cdv A outer sh H E ⟨S.nd, takes_of rfl rfl rfl rfl, hr, rfl, passes_of rfl⟩).pss, ?_⟩
  have hl2 := rs.length
  refine ⟨G, h0, avs.map some ++ List.replicate (N.length - ps.length) none, w', ?_, ?_⟩
  · show RE K mg G _ (L2.start N vs)
    unfold L2.start
    rw [hl]
    exact RE.start _ rs
  · unfold bodyM at p
    cases e : s (avs.map some ++ List.replicate (N.length - ps.length) none) h0 with
    | nx e1 h1 => rw [e] at p; exact fun G' H' σ' l w re => p G' H' _ l w .non
    | rt v h1 => rw [e] at p; exact p
    | exc c fs e1 h1 => rw [e] at p; exact fun G' H' σ' cls d l w re => p G' H' cls d l w
    | bk e1 h1 => rw [e] at p; exact p.elim
    | ct e1 h1 => rw [e] at p; exact p.elim
    | bad => rw [e] at p; exact p.elim
end

/-! ### calls -/
/-- it works on the same cells -/
def callS (n : Nat) (m : FM) : FM := fun avs => if avs.length = n then m avs else M.bad
/-- it works on none -/
def callP (n : Nat) (m : FM) : FM := fun avs h => if avs.length = n ∧ noCs avs = true then (match m avs [] with
  | .ok v _ => if noC v then .ok v h else .bad
  | .exc c fs _ => if noCf fs then .exc c fs h else .bad
  | .bad => .bad) else .bad
/-- it works on the cell that is its first argument -/
def callH (n : Nat) (m : FM) : FM := fun avs h => match avs with
  | .cell i :: r => (match h[i]? with
    | some c => if avs.length = n ∧ noCs r = true ∧ noCC c = true then (match m (.cell 0 :: r) [c] with
      | .ok v (c' :: _) => if noC v && noCC c' then .ok v (h.set i c') else .bad
      | .exc x fs (c' :: _) => if noCf fs && noCC c' then .exc x fs (h.set i c') else .bad
      | _ => .bad) else .bad
    | none => .bad)
  | _ => .bad
/-- a way of calling is right where from it the promise follows -/
def CallOk (K : PySem.W.Frag) (mg : Str → Option Value) (n : Nat) (m mc : FM) : Prop := ∀ (G : Gh) (h : Hs) (H : Hp) (avs : List AV) (vs : List V) (Q : VK) (E : XK), WI K mg G h H → Rs K mg G avs vs → postF K mg G Q E (mc avs h) → spM K mg n m vs H Q E
section
variable {K : PySem.W.Frag} {mg : Str → Option Value} {n : Nat} {m : FM}
theorem call_s : CallOk K mg n m (callS n m) := fun G h H avs vs Q E w r p => by
  unfold callS at p
  split at p
  · rename_i hl
    exact ⟨by rw [← r.length]; exact hl, G, h, avs, w, r, p⟩
  · exact p.elim
open Classical in
/-- the cells that live, as others see them -/
noncomputable def aside (G : Gh) (H : Hp) (p : Nat → Prop) : Hp := fun b => if (∃ i, p i ∧ G.mu i = some b ∧ G.F b = none) then H b else G.Z b
theorem aside_live {G : Gh} {H : Hp} {p : Nat → Prop} {b : Addr} {i : Nat} (hp : p i) (h1 : G.mu i = some b) (h2 : G.F b = none) : aside G H p b = H b := by
  unfold aside
  rw [if_pos ⟨i, hp, h1, h2⟩]
theorem aside_not {G : Gh} {H : Hp} {p : Nat → Prop} {b : Addr} (h : ∀ i, p i → G.mu i = some b → G.F b ≠ none) : aside G H p b = G.Z b := by
  unfold aside
  rw [if_neg]
  rintro ⟨i, hp, h1, h2⟩
  exact h i hp h1 h2
theorem aside_cases (G : Gh) (H : Hp) (p : Nat → Prop) (b : Addr) : (aside G H p b = H b ∧ ∃ i, p i ∧ G.mu i = some b ∧ G.F b = none) ∨ (aside G H p b = G.Z b ∧ ∀ i, p i → G.mu i = some b → G.F b ≠ none) := by
  by_cases h : ∃ i, p i ∧ G.mu i = some b ∧ G.F b = none
  · obtain ⟨i, hp, h1, h2⟩ := h
    exact .inl ⟨aside_live hp h1 h2, i, hp, h1, h2⟩
  · have h' : ∀ i, p i → G.mu i = some b → G.F b ≠ none := fun i hp h1 h2 => h ⟨i, hp, h1, h2⟩
    exact .inr ⟨aside_not h', h'⟩
/-- a live cell is not held by others -/
theorem WI.liveZ {G : Gh} {h : Hs} {H : Hp} (w : WI K mg G h H) {i : Nat} {b : Addr} (h1 : G.mu i = some b) (h2 : G.F b = none) : G.Z b = none := by
  have hl := w.bnd i b h1
  have x := w.cells i h[i] (List.getElem?_eq_getElem hl)
  cases e : h[i] with
  | lst xs => rw [e] at x; obtain ⟨a, _, q, _, z, _⟩ := x; rw [h1] at q; cases q; exact z
  | dct xs => rw [e] at x; obtain ⟨a, q, _, z, _⟩ := x; rw [h1] at q; cases q; exact z
  | ins c xs => rw [e] at x; obtain ⟨a, _, _, _, q, _, z, _⟩ := x; rw [h1] at q; cases q; exact z
  | frz v => rw [e] at x; obtain ⟨a, o, q, z, _⟩ := x; rw [h1] at q; cases q; rw [h2] at z; cases z
/-- the caller's world, its cells put aside -/
theorem WI.aside {G : Gh} {h : Hs} {H : Hp} (w : WI K mg G h H) (p : Nat → Prop) : Same (aside G H p) H ∧ (∀ a o, Sim.aside G H p a = some o → G.F a = none) ∧ ∀ a o, FixO o → Sim.aside G H p a ≠ some o := by
  refine ⟨fun b o q => ?_, fun b o q => ?_, fun b o fx q => ?_⟩
  · rcases aside_cases G H p b with ⟨e, _⟩ | ⟨e, _⟩
    · rw [← e]; exact q
    · rw [e] at q; exact w.Z b o q
  · rcases aside_cases G H p b with ⟨e, i, _, _, h2⟩ | ⟨e, _⟩
    · exact h2
    · rw [e] at q; exact w.FZ b o q
  · rcases aside_cases G H p b with ⟨e, i, _, h1, h2⟩ | ⟨e, _⟩
    · rw [e] at q
      exact w.kind2 (w.bnd i b h1) h1 h2 o fx q
    · rw [e] at q; exact w.tb.nZ b o fx q
/-- .. and taken back -/
theorem WI.back {G G1 : Gh} {h h1 : Hs} {H H1 : Hp} {p : Nat → Prop} (w : WI K mg G h H) (w1 : WI K mg G1 h1 H1) (hF : Same G.F G1.F) (hZ : G1.Z = Sim.aside G H p) (hT : G1.T = G.T) :
    G.le { F := G1.F, mu := G.mu, Z := G.Z, T := G.T } ∧ Same G1.F H1 ∧ Same G.Z H1 ∧ (∀ a o, G.Z a = some o → G1.F a = none) ∧ (∀ i c, p i → h[i]? = some c → CellOk K mg { F := G1.F, mu := G.mu, Z := G.Z, T := G.T } H1 i c) ∧ TbOk { F := G1.F, mu := G.mu, Z := G.Z, T := G.T } H1 := by
  have le : G.le { F := G1.F, mu := G.mu, Z := G.Z, T := G.T } := ⟨hF, fun _ _ q => q, rfl, rfl⟩
  have notLive : ∀ b o, G.Z b = some o → Sim.aside G H p b = G.Z b := fun b o q => aside_not fun i _ h1 h2 => by
    have := w.liveZ h1 h2
    rw [q] at this; cases this
  refine ⟨le, w1.F, fun b o q => ?_, fun b o q => ?_, fun i c hp hc => ?_, w1.tb.T, w1.tb.nF, w.tb.nZ⟩
  · refine w1.Z b o ?_
    rw [hZ, notLive b o q]; exact q
  · refine w1.FZ b o ?_
    rw [hZ, notLive b o q]; exact q
  · refine (w.cells i c hc).stay le (fun a ha hn => ?_) (fun a o ha ho => ?_)
    · obtain ⟨u, hu⟩ := w.there ha
      refine w1.FZ a u ?_
      rw [hZ, aside_live hp ha hn]; exact hu
    · cases e : G.F a with
      | none =>
        refine w1.Z a o ?_
        rw [hZ, aside_live hp ha e]; exact ho
      | some u =>
        have q := w.F a u e
        rw [ho] at q
        cases q
        exact w1.F a o (hF a o e)
theorem call_p : CallOk K mg n m (callP n m) := fun G h H avs vs Q E w r p => by
  unfold callP at p
  split at p
  · rename_i hl
    have wz := w.aside fun _ => True
    refine ⟨by rw [← r.length]; exact hl.1, { F := G.F, mu := fun _ => none, Z := aside G H fun _ => True, T := G.T }, [], avs, ⟨w.F, wz.1, wz.2.1, fun _ _ q => by simp at q, fun _ _ q => (nomatch q), fun _ _ _ q => (nomatch q), w.tb.T, w.tb.nF, wz.2.2⟩, Rs.lower (G := G) (G' := { F := G.F, mu := fun _ => none, Z := Sim.aside G H fun _ => True, T := G.T }) (Same.refl G.F) hl.2 r, ?_⟩
    have fin : ∀ {G1 : Gh} {h1 : Hs} {H1 : Hp}, ({ F := G.F, mu := fun _ => none, Z := aside G H fun _ => True, T := G.T } : Gh).le G1 → WI K mg G1 h1 H1 → G.le { F := G1.F, mu := G.mu, Z := G.Z, T := G.T } ∧ WI K mg { F := G1.F, mu := G.mu, Z := G.Z, T := G.T } h H1 := fun {G1 h1 H1} l w1 => by
      obtain ⟨b1, b2, b3, b4, b5, b6⟩ := w.back w1 l.F l.Z l.T
      exact ⟨b1, b2, b3, b4, fun i c hc => b5 i c trivial hc, w.bnd, w.inj, b6⟩
    cases e : m avs [] with
    | bad => rw [e] at p; exact p
    | ok v h1 =>
      rw [e] at p
      dsimp only at p
      split at p
      · rename_i hv
        intro G1 H1 z l w1 rv
        obtain ⟨le, w2⟩ := fin l w1
        exact p _ H1 z le w2 (R.lower (G := G1) (G' := { F := G1.F, mu := G.mu, Z := G.Z, T := G.T }) (Same.refl G1.F) hv rv)
      · exact p.elim
    | exc c fs h1 =>
      rw [e] at p
      dsimp only at p
      split at p
      · rename_i hv
        intro G1 H1 cls d l w1 x
        obtain ⟨le, w2⟩ := fin l w1
        obtain ⟨C, x1, x2, x3⟩ := x
        refine p _ H1 cls d le w2 ⟨C, x1, x2, ?_⟩
        rcases x3 with x3 | ⟨a, vfs, x4, x5, x6⟩
        · exact .inl x3
        · exact .inr ⟨a, vfs, x4, x5, Rf.lower (G := G1) (G' := { F := G1.F, mu := G.mu, Z := G.Z, T := G.T }) (Same.refl G1.F) hv x6.1, x6.2⟩
      · exact p.elim
  · exact p.elim
theorem CellOk.lower {G G' : Gh} {H : Hp} {i j : Nat} {c : Cell} (x : CellOk K mg G H i c) (hc : noCC c = true) (hF : G'.F = G.F) (hm : ∀ a, G.mu i = some a → G'.mu j = some a) (hZ : ∀ a, G.mu i = some a → G.F a = none → G'.Z a = none) : CellOk K mg G' H j c := by
  have s : Same G.F G'.F := by rw [hF]; exact Same.refl _
  cases c with
  | lst xs => obtain ⟨a, vs, h1, h2, hz, h3, h4⟩ := x; exact ⟨a, vs, hm a h1, by rw [hF]; exact h2, hZ a h1 h2, h3, h4.lower s (by simpa [noCC] using hc)⟩
  | dct kvs =>
    obtain ⟨a, h1, h2, hz, ⟨vks, h3, h4⟩ | ⟨vks, h3, h4⟩⟩ := x
    · exact ⟨a, hm a h1, by rw [hF]; exact h2, hZ a h1 h2, .inl ⟨vks, h3, h4.lower s (by simpa [noCC] using hc)⟩⟩
    · exact ⟨a, hm a h1, by rw [hF]; exact h2, hZ a h1 h2, .inr ⟨vks, h3, h4.lower s (by simpa [noCC] using hc)⟩⟩
  | ins c fs => obtain ⟨a, C, dx, vfs, h1, h2, hz, hc2, h3, h4⟩ := x; exact ⟨a, C, dx, vfs, hm a h1, by rw [hF]; exact h2, hZ a h1 h2, hc2, h3, h4.lower s (by simpa [noCC] using hc)⟩
  | frz v => obtain ⟨a, o, h1, h2, h3⟩ := x; exact ⟨a, o, hm a h1, by rw [hF]; exact h2, h3.lower s (by simpa [noCC] using hc)⟩
theorem CellOk.mu0 {G : Gh} {H : Hp} {i : Nat} {c : Cell} (x : CellOk K mg G H i c) : ∃ a, G.mu i = some a := by
  obtain ⟨a, o, h, _⟩ := x.at
  exact ⟨a, h⟩
theorem call_h : CallOk K mg n m (callH n m) := fun G h H avs vs Q E w r p => by
  unfold callH at p
  split at p
  · rename_i i r0
    cases e0 : h[i]? with
    | none => rw [e0] at p; exact p.elim
    | some c =>
      rw [e0] at p
      dsimp only at p
      split at p
      · rename_i hl
        obtain ⟨hl1, hl2, hl3⟩ := hl
        cases r with
        | @cons _ _ v0 vs0 rc rt =>
          cases rc with
          | @cell _ a hm =>
            have wz := w.aside fun j => j ≠ i
            have nz : G.F a = none → aside G H (fun j => j ≠ i) a = none := fun hf => by
              rw [aside_not fun j hj h1 _ => hj (w.inj j i a h1 hm)]
              exact w.liveZ hm hf
            refine ⟨by rw [← hl1]; rw [List.length_cons, List.length_cons, rt.length], { F := G.F, mu := fun j => if j = 0 then some a else none, Z := aside G H fun j => j ≠ i, T := G.T }, [c], .cell 0 :: r0, ⟨w.F, wz.1, wz.2.1, fun j c' q => ?_, fun j b q => ?_, fun j k b q q2 => ?_, w.tb.T, w.tb.nF, wz.2.2⟩,
              .cons (.cell (by show (if 0 = 0 then some a else none) = some a; rw [if_pos rfl])) (Rs.lower (G := G) (G' := { F := G.F, mu := fun j => if j = 0 then some a else none, Z := Sim.aside G H fun j => j ≠ i, T := G.T }) (Same.refl G.F) hl2 rt), ?_⟩
            · cases j with
              | succ j => simp at q
              | zero =>
                cases q
                refine (w.cells i c e0).lower hl3 rfl (fun b hb => ?_) (fun b hb hf => ?_)
                · show (if 0 = 0 then some a else none) = some b
                  rw [if_pos rfl, ← hm]; exact hb
                · rw [hm] at hb; cases hb; exact nz hf
            · have q2 : (if j = 0 then some a else none) = some b := q
              split at q2
              · rename_i hj; subst hj; simp
              · cases q2
            · have q3 : (if j = 0 then some a else none) = some b := q
              have q4 : (if k = 0 then some a else none) = some b := q2
              split at q3 <;> split at q4
              · omega
              · cases q4
              · cases q3
              · cases q3
            · have fin : ∀ {G1 : Gh} {h1 : Hs} {H1 : Hp} {c' : Cell} {r1 : Hs}, h1 = c' :: r1 → noCC c' = true → ({ F := G.F, mu := fun j => if j = 0 then some a else none, Z := aside G H fun j => j ≠ i, T := G.T } : Gh).le G1 → WI K mg G1 h1 H1 → G.le { F := G1.F, mu := G.mu, Z := G.Z, T := G.T } ∧ WI K mg { F := G1.F, mu := G.mu, Z := G.Z, T := G.T } (h.set i c') H1 := fun {G1 h1 H1 c' r1} eh hc' l w1 => by
                obtain ⟨b1, b2, b3, b4, b5, b6⟩ := w.back w1 l.F l.Z l.T
                have hil : i < h.length := w.bnd i a hm
                refine ⟨b1, b2, b3, b4, fun j c2 hc2 => ?_, fun j b q => by rw [List.length_set]; exact w.bnd j b q, w.inj, b6⟩
                by_cases hj : j = i
                · subst hj
                  rw [List.getElem?_set_self hil] at hc2
                  cases hc2
                  have x := w1.cells 0 c' (by rw [eh]; rfl)
                  have m0 : G1.mu 0 = some a := l.mu 0 a (by show (if 0 = 0 then some a else none) = some a; rw [if_pos rfl])
                  refine x.lower hc' rfl (fun b hb => ?_) (fun b hb hf => ?_)
                  · rw [m0] at hb; cases hb; exact hm
                  · rw [m0] at hb; cases hb
                    show G.Z a = none
                    cases e : G.F a with
                    | none => exact w.liveZ hm e
                    | some u => rw [l.F a u e] at hf; cases hf
                · rw [List.getElem?_set_ne (Ne.symm hj)] at hc2
                  exact b5 j c2 hj hc2
              cases e : m (.cell 0 :: r0) [c] with
              | bad => rw [e] at p; exact p
              | ok v h1 =>
                rw [e] at p
                cases h1 with
                | nil => exact p.elim
                | cons c' r1 =>
                  dsimp only at p
                  split at p
                  · rename_i hv
                    rw [Bool.and_eq_true] at hv
                    intro G1 H1 z l w1 rv
                    obtain ⟨le, w2⟩ := fin rfl hv.2 l w1
                    exact p _ H1 z le w2 (R.lower (G := G1) (G' := { F := G1.F, mu := G.mu, Z := G.Z, T := G.T }) (Same.refl G1.F) hv.1 rv)
                  · exact p.elim
              | exc x fs h1 =>
                rw [e] at p
                cases h1 with
                | nil => exact p.elim
                | cons c' r1 =>
                  dsimp only at p
                  split at p
                  · rename_i hv
                    rw [Bool.and_eq_true] at hv
                    intro G1 H1 cls d l w1 x
                    obtain ⟨le, w2⟩ := fin rfl hv.2 l w1
                    obtain ⟨C, x1, x2, x3⟩ := x
                    refine p _ H1 cls d le w2 ⟨C, x1, x2, ?_⟩
                    rcases x3 with x3 | ⟨b, vfs, x4, x5, x6⟩
                    · exact .inl x3
                    · exact .inr ⟨b, vfs, x4, x5, Rf.lower (G := G1) (G' := { F := G1.F, mu := G.mu, Z := G.Z, T := G.T }) (Same.refl G1.F) hv.1 x6.1, x6.2⟩
                  · exact p.elim
      · exact p.elim
  · exact p.elim
end

section
variable {X : Cx} {W : WX} {k j : Nat}
def mCall (mc : FM) (as : EM (List AV)) : EM AV := fun env => (as env).bnd mc
theorem tSA_call {n : Nat} {m mc : FM} (hc : CallOk X.K X.mg n m mc) {as : EM (List AV)} {σ : L2.St} {H : Hp} {Q : VK} (p : tSE X W (mCall mc as) σ H Q) : tSA X W as σ H fun vs H1 => spM X.K X.mg n m vs H1 Q (WE W σ) := by
  obtain ⟨G, h, env, w, re, p⟩ := p
  refine ⟨G, h, env, w, re, post_bnd p fun avs h1 G1 H1 vs l1 w1 rs p1 => ?_⟩
  refine hc G1 h1 H1 avs vs Q (WE W σ) w1 rs ?_
  cases e : mc avs h1 with
  | ok v h2 => rw [e] at p1; exact p1
  | exc c fs h2 => rw [e] at p1; exact p1
  | bad => rw [e] at p1; exact p1
theorem se_call {f : Addr} {fd : FuncData} {ps : List Str} {x : Str} {p pos : Pos} {e : Expr} {es : List Expr} {as : EM (List AV)} {n : Nat} {m mc : FM} (O : Ok X W j) (hc : CallOk X.K X.mg n m mc) (F : FnOk X.prog X.w X.K X.mg X.base (L2.CX X.prog X.w) k f fd ps (spM X.K X.mg n m)) (hk : k ≤ j)
    (hm : X.mg x = some (.ref f)) (kp : PySem.W.keepIn X.K (.ref f) = true) (hb : Binds X.K fd ps []) (ha : SA X W (e :: es) as) (hg : Gl X x := by rfl)
    (hdb : (x == ("__debug__" : Str)) = false := by decide) (he : starEach (e :: es) X.env = (false, eval e X.env) :: starEach es X.env := by rfl) (hpl : (backTo pos (starEach es X.env)).any (·.1) = false := by rfl) : SE X W (.Call (.Name x p) (e :: es) [] pos) (mCall mc as) :=
  ⟨(pe_callS F (O.hr.mono hk) hg hm kp hb (fun σ => passAt O.tk σ) ha.pa hdb he hpl).weak fun σ H Q q => tSA_call hc q⟩
end
end Sim

set_option Elab.async false
set_option linter.all false
set_option maxRecDepth 100000
set_option maxHeartbeats 2000000
namespace Sim
open PySem PySem.Spec L2
open PyProof.Rows hiding St
variable [TabT]

/-! ### operators -/
def addA (_ : Hs) (x y : AV) : Option AV := match x, y with
  | .int i, .int j => some (.int (i + j))
  | .str a, .str b => if a.length + b.length ≤ sizeLine then some (.str (a ++ b)) else none
  | .tup a, .tup b => if small (a ++ b) then some (.tup (a ++ b)) else none
  | .lst a, .lst b => if small (a ++ b) then some (.lst (a ++ b)) else none
  | _, _ => none
def subA (_ : Hs) (x y : AV) : Option AV := match x, y with
  | .int i, .int j => some (.int (i - j))
  | _, _ => none
/-- |i| < 2 ^ k, told by small numbers (so that nothing is ever counted down from 2 ^ k) -/
def lg (i : Int) (k : Nat) : Bool := decide (i.natAbs.log2 < k)
omit [TabT] in
theorem lg_abs {i : Int} {k : Nat} (hk : 0 < k) : lg i k = true ↔ i.natAbs < 2 ^ k := by
  unfold lg
  rw [decide_eq_true_iff]
  by_cases h : i.natAbs = 0
  · rw [h]
    exact ⟨fun _ => Nat.two_pow_pos k, fun _ => by rw [Nat.log2_zero]; exact hk⟩
  · exact Nat.log2_lt h
omit [TabT] in
theorem lg_of {i : Int} {k : Nat} (hk : 0 < k) (h : lg i k = true) : -(2 ^ k) < i ∧ i < 2 ^ k := by
  have := (lg_abs hk).mp h
  have e : ((2 ^ k : Nat) : Int) = 2 ^ k := by rw [Int.natCast_pow]; rfl
  rw [← e]
  omega
omit [TabT] in
theorem lg_mk {i : Int} {k : Nat} (hk : 0 < k) (h1 : -(2 ^ k) < i) (h2 : i < 2 ^ k) : lg i k = true := by
  refine (lg_abs hk).mpr ?_
  have e : ((2 ^ k : Nat) : Int) = 2 ^ k := by rw [Int.natCast_pow]; rfl
  rw [← e] at h1 h2
  omega
def fits (i j : Int) : Bool := lg i 64 || lg j 64
omit [TabT] in
theorem fits_ok {i j : Int} (h : fits i j = true) : CMul i j := by
  unfold CMul
  unfold fits at h
  rcases Bool.or_eq_true _ _ |>.mp h with h | h
  · exact .inl (lg_of (by decide) h)
  · exact .inr (lg_of (by decide) h)
def mulA (_ : Hs) (x y : AV) : Option AV := match x, y with
  | .int i, .int j => if fits i j then some (.int (i * j)) else none
  | .tup xs, .int k => if xs ≠ [] ∧ 2 ≤ k ∧ k ≤ 1000 ∧ xs.length ≤ 1000 then some (.tup (List.replicate k.toNat xs).flatten) else none
  | .lst xs, .int k => if 0 ≤ k ∧ lg k 63 = true ∧ xs.length * k.toNat ≤ sizeLine then some (.lst (List.replicate k.toNat xs).flatten) else none
  | _, _ => none
def fdivA (_ : Hs) (x y : AV) : Option AV := match x, y with
  | .int i, .int j => if 0 < j ∧ lg j 9000 = true then some (.int (i / j)) else none
  | _, _ => none
def modA (_ : Hs) (x y : AV) : Option AV := match x, y with
  | .int i, .int j => if 0 < j then some (.int (i % j)) else none
  | _, _ => none
def powA (_ : Hs) (x y : AV) : Option AV := match x, y with
  | .int i, .int j => if 0 ≤ j ∧ lg j 19 = true ∧ lg i 64 = true then some (.int (i ^ j.toNat)) else none
  | _, _ => none
def shlA (_ : Hs) (x y : AV) : Option AV := match x, y with
  | .int i, .int j => if 0 ≤ j ∧ lg j 19 = true ∧ lg i 64 = true then some (.int (i * 2 ^ j.toNat)) else none
  | _, _ => none
def shrA (_ : Hs) (x y : AV) : Option AV := match x, y with
  | .int i, .int j => if 0 ≤ j then some (.int (i / 2 ^ j.toNat)) else none
  | _, _ => none
def andA (_ : Hs) (x y : AV) : Option AV := match x, y with
  | .int i, .int j => some (.int (Builtin.bitAnd i j))
  | _, _ => none
def orA (_ : Hs) (x y : AV) : Option AV := match x, y with
  | .int i, .int j => some (.int (Builtin.bitOr i j))
  | _, _ => none
def xorA (_ : Hs) (x y : AV) : Option AV := match x, y with
  | .int i, .int j => some (.int (Builtin.bitXor i j))
  | _, _ => none
def negA (_ : Hs) (x : AV) : Option AV := match x with
  | .int i => some (.int (-i))
  | _ => none
theorem Rs.rep {K : PySem.W.Frag} {mg : Str → Option Value} {G : Gh} {xs : List AV} {vs : List V} (h : Rs K mg G xs vs) : ∀ k : Nat, Rs K mg G (List.replicate k xs).flatten (List.replicate k vs).flatten
  | 0 => .nil
  | k + 1 => by
    rw [List.replicate_succ, List.replicate_succ, List.flatten_cons, List.flatten_cons]
    exact Rs.append h (Rs.rep h k)
theorem Rs.ne {K : PySem.W.Frag} {mg : Str → Option Value} {G : Gh} {xs : List AV} {vs : List V} (h : Rs K mg G xs vs) : xs = [] ↔ vs = [] := by
  cases h <;> simp
section
variable {X : Cx} {W : WX} {k : Nat}
theorem r2_int {f : Value → Value → Sem Value} {C : Int → Int → Prop} {r : Int → Int → Int} {g : Hs → AV → AV → Option AV} (ho : OpR X f (rI C fun i j => .int (r i j)))
    (hg : ∀ h x y c, g h x y = some c → ∃ i j, x = .int i ∧ y = .int j ∧ C i j ∧ c = .int (r i j)) : OpR X f (r2 X.K X.mg g) := by
  intro pins s σ H x y v u Q I rx ry ⟨G, h, a, b, c, w, ra, rb, e, q⟩
  obtain ⟨i, j, rfl, rfl, hC, rfl⟩ := hg h a b c e
  cases ra
  cases rb
  exact ho pins s σ H _ _ v u Q I rx ry ⟨i, j, rfl, rfl, hC, q G H _ (.refl G) w (.int _)⟩
theorem r2_int0 {f : Value → Value → Sem Value} {r : Int → Int → Int} {g : Hs → AV → AV → Option AV} (ho : OpR X f (rI0 fun i j => .int (r i j)))
    (hg : ∀ h x y c, g h x y = some c → ∃ i j, x = .int i ∧ y = .int j ∧ c = .int (r i j)) : OpR X f (r2 X.K X.mg g) := by
  intro pins s σ H x y v u Q I rx ry ⟨G, h, a, b, c, w, ra, rb, e, q⟩
  obtain ⟨i, j, rfl, rfl, rfl⟩ := hg h a b c e
  cases ra
  cases rb
  exact ho pins s σ H _ _ v u Q I rx ry ⟨i, j, rfl, rfl, q G H _ (.refl G) w (.int _)⟩
theorem op_addA : OpR X (binaryOp .Add) (r2 X.K X.mg addA) := by
  intro pins s σ H x y v u Q I rx ry ⟨G, h, a, b, c, w, ra, rb, e, q⟩
  unfold addA at e
  split at e
  · cases ra; cases rb; cases e
    exact op_add pins s σ H _ _ v u Q I rx ry ⟨_, _, rfl, rfl, q G H _ (.refl G) w (.int _)⟩
  · split at e
    · rename_i hl
      cases ra; cases rb; cases e
      exact op_add_str pins s σ H _ _ v u Q I rx ry ⟨_, _, rfl, rfl, hl, q G H _ (.refl G) w (.str _)⟩
    · cases e
  · split at e
    · rename_i hl
      cases e
      cases ra with
      | @tup xs pa vs ha rs =>
        cases rb with
        | @tup ys pb us hb ss =>
          have h1 := sameT (K := X.K) w.F (SqT.of ha)
          have h2 := sameT (K := X.K) w.F (SqT.of hb)
          refine op_catA pins s σ H _ _ v u Q I rx ry ⟨pa, pb, vs, us, rfl, rfl, h1, h2, ?_, fun e1 => ?_, fun e1 e2 => ?_, fun e1 e2 p hp => ?_⟩
          · have := of_decide_eq_true hl
            rw [List.length_append, rs.length, ss.length] at this
            exact this
          · have e3 := rs.ne.mpr e1
            refine q G H _ (.refl G) w ?_
            rw [e3]
            exact .tup hb ss
          · have e3 := ss.ne.mpr e2
            refine q G H _ (.refl G) w ?_
            rw [e3, List.append_nil]
            exact .tup ha rs
          · have le : G.le (G.addF p (.tup (vs ++ us))) := Gh.addF_le (w.freeF hp)
            exact q _ _ _ le (w.newF hp) (.tup upd_same ((Rs.append rs ss).mono le))
    · cases e
  · split at e
    · rename_i hl
      cases e
      cases ra with
      | @lst xs pa vs ha rs =>
        cases rb with
        | @lst ys pb us hb ss =>
          refine op_cat pins s σ H _ _ v u Q I rx ry ⟨pa, pb, vs, us, rfl, rfl, w.F _ _ ha, w.F _ _ hb, ?_, fun p hp => ?_⟩
          · have := of_decide_eq_true hl
            rw [List.length_append, rs.length, ss.length] at this
            exact this
          · have le : G.le (G.addF p (.lst (vs ++ us))) := Gh.addF_le (w.freeF hp)
            exact q _ _ _ le (w.newF hp) (.lst upd_same ((Rs.append rs ss).mono le))
    · cases e
  · cases e
theorem op_subA : OpR X (binaryOp .Sub) (r2 X.K X.mg subA) := r2_int0 op_sub fun h x y c e => by
  unfold subA at e; split at e
  · cases e; exact ⟨_, _, rfl, rfl, rfl⟩
  · cases e
theorem op_mulA : OpR X (binaryOp .Mult) (r2 X.K X.mg mulA) := by
  intro pins s σ H x y v u Q I rx ry ⟨G, h, a, b, c, w, ra, rb, e, q⟩
  unfold mulA at e
  split at e
  · split at e
    · rename_i hc
      cases ra; cases rb; cases e
      exact op_mul pins s σ H _ _ v u Q I rx ry ⟨_, _, rfl, rfl, fits_ok hc, q G H _ (.refl G) w (.int _)⟩
    · cases e
  · split at e
    · rename_i hc
      cases e
      cases rb
      cases ra with
      | @tup xs pa vs ha rs =>
        refine op_repT pins s σ H _ _ v u Q I rx ry ⟨pa, _, vs, rfl, rfl, sameT w.F (SqT.of ha), fun z => hc.1 (rs.ne.mpr z), hc.2.1, hc.2.2.1, by rw [← rs.length]; exact hc.2.2.2, fun p hp => ?_⟩
        exact q (G.addF p _) _ _ (Gh.addF_le (w.freeF hp)) (w.newF hp) (.tup upd_same ((Rs.rep rs _).mono (Gh.addF_le (w.freeF hp))))
    · cases e
  · split at e
    · rename_i hc
      cases e
      cases rb
      cases ra with
      | @lst xs pa vs ha rs =>
        refine op_rep pins s σ H _ _ v u Q I rx ry ⟨pa, _, vs, rfl, rfl, w.F _ _ ha, by omega, (lg_of (by decide) hc.2.1).2, by rw [← rs.length]; exact hc.2.2, fun p hp => ?_⟩
        exact q (G.addF p _) _ _ (Gh.addF_le (w.freeF hp)) (w.newF hp) (.lst upd_same ((Rs.rep rs _).mono (Gh.addF_le (w.freeF hp))))
    · cases e
  · cases e
theorem op_fdivA : OpR X (binaryOp .FloorDiv) (r2 X.K X.mg fdivA) := by
  intro pins s σ H x y v u Q I rx ry ⟨G, h, a, b, c, w, ra, rb, e, q⟩
  unfold fdivA at e
  split at e
  · split at e
    · rename_i hc
      cases ra; cases rb; cases e
      exact op_fdivW pins s σ H _ _ v u Q I rx ry ⟨_, _, rfl, rfl, ⟨hc.1, of_decide_eq_true hc.2⟩, q G H _ (.refl G) w (.int _)⟩
    · cases e
  · cases e
theorem op_modA : OpR X (binaryOp .Mod) (r2 X.K X.mg modA) := r2_int op_mod fun h x y c e => by
  unfold modA at e; split at e
  · split at e
    · rename_i hc; cases e; exact ⟨_, _, rfl, rfl, hc, rfl⟩
    · cases e
  · cases e
theorem op_powA : OpR X (binaryOp .Pow) (r2 X.K X.mg powA) := r2_int op_pow fun h x y c e => by
  unfold powA at e; split at e
  · split at e
    · rename_i hc; cases e; exact ⟨_, _, rfl, rfl, ⟨hc.1, by have := (lg_of (by decide) hc.2.1).2; omega, (lg_abs (by decide)).mp hc.2.2⟩, rfl⟩
    · cases e
  · cases e
theorem op_shlA : OpR X (binaryOp .LShift) (r2 X.K X.mg shlA) := r2_int op_shl fun h x y c e => by
  unfold shlA at e; split at e
  · split at e
    · rename_i hc; cases e; exact ⟨_, _, rfl, rfl, ⟨hc.1, by have := (lg_of (by decide) hc.2.1).2; omega, (lg_abs (by decide)).mp hc.2.2⟩, rfl⟩
    · cases e
  · cases e
theorem op_shrA : OpR X (binaryOp .RShift) (r2 X.K X.mg shrA) := r2_int op_shr fun h x y c e => by
  unfold shrA at e; split at e
  · split at e
    · rename_i hc; cases e; exact ⟨_, _, rfl, rfl, hc, rfl⟩
    · cases e
  · cases e
theorem op_andA : OpR X (binaryOp .BitAnd) (r2 X.K X.mg andA) := r2_int0 op_and fun h x y c e => by
  unfold andA at e; split at e
  · cases e; exact ⟨_, _, rfl, rfl, rfl⟩
  · cases e
theorem op_orA : OpR X (binaryOp .BitOr) (r2 X.K X.mg orA) := r2_int0 op_or fun h x y c e => by
  unfold orA at e; split at e
  · cases e; exact ⟨_, _, rfl, rfl, rfl⟩
  · cases e
theorem op_xorA : OpR X (binaryOp .BitXor) (r2 X.K X.mg xorA) := r2_int0 op_xor fun h x y c e => by
  unfold xorA at e; split at e
  · cases e; exact ⟨_, _, rfl, rfl, rfl⟩
  · cases e
theorem un_negA : UnR X (unaryOp .USub) (r1 X.K X.mg negA) := by
  intro pins s σ H x v Q I rx ⟨G, h, a, c, w, ra, e, q⟩
  unfold negA at e
  split at e
  · cases ra; cases e
    exact un_neg pins s σ H _ v Q I rx ⟨_, rfl, q G H _ (.refl G) w (.int _)⟩
  · cases e
end

/-! ### comparisons -/
mutual
def dat : AV → PyData
  | .non => .none
  | .bl b => .bool b
  | .int i => .int i
  | .str x => .str x
  | .ctp ns => .tuple (ns.map .int)
  | .tup xs => .tuple (dats xs)
  | .lst xs => .list (dats xs)
  | _ => .dict []
def dats : List AV → List PyData
  | [] => []
  | x :: xs => dat x :: dats xs
end
/-- a cell that holds a list, read -/
def der (h : Hs) : AV → AV
  | .cell n => (match h[n]? with
    | some (.lst xs) => .lst xs
    | some (.frz v) => v
    | _ => .cell n)
  | a => a
section
variable {K : PySem.W.Frag} {mg : Str → Option Value} {G : Gh} {H : Hp}
theorem dpAll_ints : ∀ ns : List Int, DpAll K H (ns.map V.int) (ns.map PyData.int)
  | [] => .nil
  | n :: ns => .cons (.int n) (dpAll_ints ns)
mutual
theorem R.dp (hF : Same G.F H) : ∀ {x : AV} {v : V}, R K mg G x v → (dat x).canLay0 = true → Dp K H v (dat x)
  | _, _, .non, _ => by rw [dat]; exact .non
  | _, _, .bl b, _ => by rw [dat]; exact .bl b
  | _, _, .int b, _ => by rw [dat]; exact .int b
  | _, _, .str b, _ => by rw [dat]; exact .str b
  | _, _, .ty b, e => by simp [dat, PyData.canLay0] at e
  | _, _, .tup h t, e => by
    rw [dat] at e ⊢
    rw [PyData.canLay0] at e
    exact .tup (sameT hF (SqT.of h)) (Rs.dp hF t e)
  | _, _, .lst h t, e => by
    rw [dat] at e ⊢
    rw [PyData.canLay0] at e
    exact .lst (.inl (.inl (hF _ _ h))) (Rs.dp hF t e)
  | _, _, .obj h e2 t, e => by simp [dat, PyData.canLay0] at e
  | _, _, .dctK e2 t, e => by simp [dat, PyData.canLay0] at e
  | _, _, .dctT e2 t, e => by simp [dat, PyData.canLay0] at e
  | _, _, .scr h, e => by simp [dat, PyData.canLay0] at e
  | _, _, .ctp h, e => by rw [dat]; exact .tup (h H) (dpAll_ints _)
  | _, _, .cell h, e => by simp [dat, PyData.canLay0] at e
theorem Rs.dp (hF : Same G.F H) : ∀ {x : List AV} {v : List V}, Rs K mg G x v → PyData.canLayAll0 (dats x) = true → DpAll K H v (dats x)
  | _, _, .nil, _ => by rw [dats]; exact .nil
  | _, _, .cons h t, e => by
    rw [dats] at e ⊢
    rw [PyData.canLayAll0, Bool.and_eq_true] at e
    exact .cons (R.dp hF h e.1) (Rs.dp hF t e.2)
end
theorem R.der {h : Hs} {x : AV} {v : V} (w : WI K mg G h H) (r : R K mg G x v) (e : (dat (Sim.der h x)).canLay0 = true) : Dp K H v (dat (Sim.der h x)) := by
  cases r with
  | @cell n a hm =>
    have eq : Sim.der h (.cell n) = (match h[n]? with | some (.lst xs) => .lst xs | some (.frz v) => v | _ => .cell n) := rfl
    rw [eq] at e ⊢
    cases hn : h[n]? with
    | none => rw [hn] at e; simp [dat, PyData.canLay0] at e
    | some c =>
      rw [hn] at e
      cases c with
      | lst xs =>
        obtain ⟨b, vs, h1, h2, hz, h3, h4⟩ := w.cells n _ hn
        rw [hm] at h1
        cases h1
        dsimp only at e ⊢
        rw [dat] at e ⊢
        rw [PyData.canLay0] at e
        exact .lst (.inl (.inl h3)) (Rs.dp w.F h4 e)
      | frz u =>
        obtain ⟨b, o, h1, h2, h3⟩ := w.cells n _ hn
        rw [hm] at h1
        cases h1
        exact h3.dp w.F e
      | dct kvs => simp [dat, PyData.canLay0] at e
      | ins c fs => simp [dat, PyData.canLay0] at e
  | tup h1 h2 => exact (R.tup h1 h2).dp w.F e
  | lst h1 h2 => exact (R.lst h1 h2).dp w.F e
  | non => exact R.dp (G := G) (mg := mg) w.F .non e
  | bl b => exact R.dp (G := G) (mg := mg) w.F (.bl b) e
  | int b => exact R.dp (G := G) (mg := mg) w.F (.int b) e
  | str b => exact R.dp (G := G) (mg := mg) w.F (.str b) e
  | ty b => exact R.dp (G := G) (mg := mg) w.F (.ty b) e
  | obj a b c => exact (R.obj a b c).dp w.F e
  | dctK a b => exact (R.dctK a b).dp w.F e
  | dctT a b => exact (R.dctT a b).dp w.F e
  | scr a => exact R.dp (G := G) (mg := mg) w.F (.scr a) e
  | ctp a => exact R.dp (G := G) (mg := mg) w.F (.ctp a) e
end
def eqA (h : Hs) (x y : AV) : Option AV := if SeqAt.shaped (dat (der h x)) = true ∧ SeqAt.shaped (dat (der h y)) = true then some (.bl (PyData.eqv (dat (der h x)) (dat (der h y)))) else none
def neA (h : Hs) (x y : AV) : Option AV := if SeqAt.shaped (dat (der h x)) = true ∧ SeqAt.shaped (dat (der h y)) = true then some (.bl (!PyData.eqv (dat (der h x)) (dat (der h y)))) else none
/-- the ints that a tuple of ints holds -/
def ints? : List AV → Option (List Int)
  | [] => some []
  | .int i :: xs => (ints? xs).map (i :: ·)
  | _ :: _ => none
theorem ints_of : ∀ {xs : List AV} {ns : List Int}, ints? xs = some ns → xs = ns.map AV.int
  | [], ns, e => by cases e; rfl
  | .int i :: xs, ns, e => by
    unfold ints? at e
    cases e2 : ints? xs with
    | none => rw [e2] at e; cases e
    | some ms => rw [e2] at e; cases e; rw [ints_of e2]; rfl
  | .non :: _, _, e => by cases e
  | .bl _ :: _, _, e => by cases e
  | .str _ :: _, _, e => by cases e
  | .ty _ :: _, _, e => by cases e
  | .tup _ :: _, _, e => by cases e
  | .lst _ :: _, _, e => by cases e
  | .dct _ :: _, _, e => by cases e
  | .obj _ _ :: _, _, e => by cases e
  | .scr _ :: _, _, e => by cases e
  | .ctp _ :: _, _, e => by cases e
  | .cell _ :: _, _, e => by cases e
theorem ints_map : ∀ (ns : List Int), ints? (ns.map AV.int) = some ns
  | [] => rfl
  | n :: ns => by rw [List.map_cons, ints?, ints_map ns]; rfl
def ltA (_ : Hs) (x y : AV) : Option AV := match x, y with
  | .int i, .int j => some (.bl (decide (i < j)))
  | .tup xs, .tup ys => (ints? xs).bind fun ns => (ints? ys).map fun ms => .bl (HT.lexLt ns ms)
  | _, _ => none
def leA (_ : Hs) (x y : AV) : Option AV := match x, y with
  | .int i, .int j => some (.bl (decide (i ≤ j)))
  | _, _ => none
def gtA (_ : Hs) (x y : AV) : Option AV := match x, y with
  | .int i, .int j => some (.bl (decide (j < i)))
  | _, _ => none
def geA (_ : Hs) (x y : AV) : Option AV := match x, y with
  | .int i, .int j => some (.bl (decide (j ≤ i)))
  | _, _ => none
def isNB : AV → Bool
  | .non => true
  | _ => false
def isNA (_ : Hs) (x y : AV) : Option AV := match y with
  | .non => some (.bl (isNB x))
  | .bl b => (match x with | .bl a => some (.bl (decide (a = b))) | _ => none)
  | _ => none
def notNA (_ : Hs) (x y : AV) : Option AV := match y with
  | .non => some (.bl (!isNB x))
  | .bl b => (match x with | .bl a => some (.bl (!decide (a = b))) | _ => none)
  | _ => none
/-- what a list or a tuple holds -/
def seqOf (h : Hs) (x : AV) : Option (List AV) := match der h x with
  | .tup xs => some xs
  | .lst xs => some xs
  | _ => none
def inB (h : Hs) (x y : AV) : Option Bool := match y with
  | .str b => (match x with | .str a => some (!(Builtin.Str.occurrences b a 0 b.length 1).isEmpty) | _ => none)
  | _ => if SeqAt.shaped (dat x) = true ∧ SeqAt.shaped (dat (der h y)) = true then (seqOf h y).map fun ys => (dats ys).any fun z => PyData.eqv z (dat x) else none
def inA (h : Hs) (x y : AV) : Option AV := (inB h x y).map .bl
def notInA (h : Hs) (x y : AV) : Option AV := (inB h x y).map fun b => .bl (!b)
section
variable {X : Cx} {W : WX} {k j : Nat}
theorem op_eqA (hu : X.A.units + 64 < cLine) : OpR X (compareOp .Eq) (r2 X.K X.mg eqA) := by
  intro pins s σ H x y v u Q I rx ry ⟨G, h, a, b, c, w, ra, rb, e, q⟩
  unfold eqA at e
  split at e
  · rename_i hc
    cases e
    exact op_eqD hu pins s σ H x y v u Q I rx ry ⟨_, _, ra.der w (SeqAt.canLay_of_shaped hc.1), rb.der w (SeqAt.canLay_of_shaped hc.2), hc.1, hc.2, q G H _ (.refl G) w (.bl _)⟩
  · cases e
theorem op_neA (hu : X.A.units + 64 < cLine) : OpR X (compareOp .NotEq) (r2 X.K X.mg neA) := by
  intro pins s σ H x y v u Q I rx ry ⟨G, h, a, b, c, w, ra, rb, e, q⟩
  unfold neA at e
  split at e
  · rename_i hc
    cases e
    exact op_neD hu pins s σ H x y v u Q I rx ry ⟨_, _, ra.der w (SeqAt.canLay_of_shaped hc.1), rb.der w (SeqAt.canLay_of_shaped hc.2), hc.1, hc.2, q G H _ (.refl G) w (.bl _)⟩
  · cases e
theorem op_ltA (hu : X.A.units < cLine) : OpR X (compareOp .Lt) (r2 X.K X.mg ltA) := by
  intro pins s σ H x y v u Q I rx ry ⟨G, h, a, b, c, w, ra, rb, e, q⟩
  unfold ltA at e
  split at e
  · cases ra; cases rb; cases e
    exact op_lt pins s σ H _ _ v u Q I rx ry ⟨_, _, rfl, rfl, q G H _ (.refl G) w (.bl _)⟩
  · rename_i xs ys
    cases e1 : ints? xs with
    | none => rw [e1] at e; cases e
    | some ns =>
      cases e2 : ints? ys with
      | none => rw [e1, e2] at e; cases e
      | some ms =>
        rw [e1, e2] at e
        have e3 : c = .bl (HT.lexLt ns ms) := (Option.some.inj e).symm
        subst e3
        have hx := ints_of e1
        have hy := ints_of e2
        subst hx hy
        cases ra with
        | @tup _ pa vs ha rs =>
          cases rb with
          | @tup _ pb us hb ss =>
            have i1 := rs.ints
            have i2 := ss.ints
            subst i1 i2
            exact op_ltT hu pins s σ H _ _ v u Q I rx ry ⟨pa, pb, ns, ms, rfl, rfl, sameT w.F (SqT.of ha), sameT w.F (SqT.of hb), q G H _ (.refl G) w (.bl _)⟩
  · cases e
theorem op_leA : OpR X (compareOp .LtE) (r2 X.K X.mg leA) := by
  intro pins s σ H x y v u Q I rx ry ⟨G, h, a, b, c, w, ra, rb, e, q⟩
  unfold leA at e
  split at e
  · cases ra; cases rb; cases e
    exact op_le pins s σ H _ _ v u Q I rx ry ⟨_, _, rfl, rfl, q G H _ (.refl G) w (.bl _)⟩
  · cases e
theorem op_gtA : OpR X (compareOp .Gt) (r2 X.K X.mg gtA) := by
  intro pins s σ H x y v u Q I rx ry ⟨G, h, a, b, c, w, ra, rb, e, q⟩
  unfold gtA at e
  split at e
  · cases ra; cases rb; cases e
    exact op_gt pins s σ H _ _ v u Q I rx ry ⟨_, _, rfl, rfl, q G H _ (.refl G) w (.bl _)⟩
  · cases e
theorem op_geA : OpR X (compareOp .GtE) (r2 X.K X.mg geA) := by
  intro pins s σ H x y v u Q I rx ry ⟨G, h, a, b, c, w, ra, rb, e, q⟩
  unfold geA at e
  split at e
  · cases ra; cases rb; cases e
    exact op_ge pins s σ H _ _ v u Q I rx ry ⟨_, _, rfl, rfl, q G H _ (.refl G) w (.bl _)⟩
  · cases e
theorem R.isN {K : PySem.W.Frag} {mg : Str → Option Value} {G : Gh} {a : AV} {x : V} (r : R K mg G a x) : decide (x = .non) = isNB a := by
  cases r <;> simp [isNB]
theorem op_isA : OpR X (compareOp .Is) (r2 X.K X.mg isNA) := by
  intro pins s σ H x y v u Q I rx ry ⟨G, h, a, b, c, w, ra, rb, e, q⟩
  unfold isNA at e
  split at e
  · cases rb; cases e
    refine op_isN pins s σ H _ _ v u Q I rx ry ⟨rfl, q G H _ (.refl G) w ?_⟩
    rw [ra.isN]
    exact .bl _
  · split at e
    · cases rb; cases ra; cases e
      exact op_isBl pins s σ H _ _ v u Q I rx ry ⟨_, _, rfl, rfl, q G H _ (.refl G) w (.bl _)⟩
    · cases e
  · cases e
theorem op_isnotA : OpR X (compareOp .IsNot) (r2 X.K X.mg notNA) := by
  intro pins s σ H x y v u Q I rx ry ⟨G, h, a, b, c, w, ra, rb, e, q⟩
  unfold notNA at e
  split at e
  · cases rb; cases e
    refine op_notN pins s σ H _ _ v u Q I rx ry ⟨rfl, q G H _ (.refl G) w ?_⟩
    rw [ra.isN]
    exact .bl _
  · split at e
    · cases rb; cases ra; cases e
      exact op_notBl pins s σ H _ _ v u Q I rx ry ⟨_, _, rfl, rfl, q G H _ (.refl G) w (.bl _)⟩
    · cases e
  · cases e
end
end Sim

set_option Elab.async false
set_option linter.all false
set_option maxRecDepth 100000
set_option maxHeartbeats 2000000
namespace Sim
open PySem PySem.Spec L2
open PyProof.Rows hiding St
variable [TabT]

theorem der_cases {h : Hs} {y : AV} {ys : List AV} (e : seqOf h y = some ys) : der h y = .lst ys ∨ der h y = .tup ys := by
  unfold seqOf at e
  split at e
  · rename_i xs q; cases e; exact .inr q
  · rename_i xs q; cases e; exact .inl q
  · cases e
section
variable {X : Cx} {W : WX} {k j : Nat}
theorem inB_seq {h : Hs} {x y : AV} {b : Bool} (e : inB h x y = some b) (hy : ∀ z, y ≠ .str z) : SeqAt.shaped (dat x) = true ∧ SeqAt.shaped (dat (der h y)) = true ∧ ∃ ys, seqOf h y = some ys ∧ b = (dats ys).any fun z => PyData.eqv z (dat x) := by
  unfold inB at e
  split at e
  · exact absurd rfl (hy _)
  · split at e
    · rename_i hc
      cases e1 : seqOf h y with
      | none => rw [e1] at e; cases e
      | some ys => rw [e1] at e; cases e; exact ⟨hc.1, hc.2, ys, rfl, rfl⟩
    · cases e
theorem op_inG (neg : Bool) (hu : X.A.units + 65 < cLine) : OpR X (compareOp (if neg then .NotIn else .In)) (r2 X.K X.mg fun h x y => (inB h x y).map fun b => .bl (if neg then !b else b)) := by
  intro pins s σ H x y v u Q I rx ry ⟨G, h, a, b, c, w, ra, rb, e, q⟩
  dsimp only at e
  cases e1 : inB h a b with
  | none => rw [e1] at e; cases e
  | some bb =>
    rw [e1] at e
    have ec : c = .bl (if neg then !bb else bb) := (Option.some.inj e).symm
    subst ec
    have q0 := q G H _ (.refl G) w (.bl _)
    by_cases hy : ∃ z, b = .str z
    · obtain ⟨z, rfl⟩ := hy
      cases a with
      | str a =>
        cases ra; cases rb
        unfold inB at e1
        cases e1
        cases neg with
        | true => exact op_notIn_str pins s σ H _ _ v u Q I rx ry ⟨_, _, rfl, rfl, q0⟩
        | false => exact op_in_str pins s σ H _ _ v u Q I rx ry ⟨_, _, rfl, rfl, q0⟩
      | _ => unfold inB at e1; cases e1
    · obtain ⟨s1, s2, ys, e3, e4⟩ := inB_seq e1 fun z q => hy ⟨z, q⟩
      subst e4
      have d1 := ra.dp w.F (SeqAt.canLay_of_shaped s1)
      have d2 := rb.der w (SeqAt.canLay_of_shaped s2)
      obtain ⟨as, r1⟩ := Dp.reads I _ x v d1 rx
      obtain ⟨bs, r2⟩ := Dp.reads I _ y u d2 ry
      rcases der_cases e3 with e5 | e5
      · rw [e5, dat] at r2 s2
        cases neg with
        | true => exact SeqAt.notIn_list_reads r2 r1 (SeqAt.canLay_of_shaped s2) (SeqAt.canLay_of_shaped s1) (room_in_shaped s1 hu) ⟨.bl _, H, I, rfl, q0⟩
        | false => exact SeqAt.in_list_reads r2 r1 (SeqAt.canLay_of_shaped s2) (SeqAt.canLay_of_shaped s1) (room_in_shaped s1 hu) ⟨.bl _, H, I, rfl, q0⟩
      · rw [e5, dat] at r2 s2
        cases neg with
        | true => exact SeqAt.notIn_tuple_reads r2 r1 (SeqAt.canLay_of_shaped s2) (SeqAt.canLay_of_shaped s1) (room_in_shaped s1 hu) ⟨.bl _, H, I, rfl, q0⟩
        | false => exact SeqAt.in_tuple_reads r2 r1 (SeqAt.canLay_of_shaped s2) (SeqAt.canLay_of_shaped s1) (room_in_shaped s1 hu) ⟨.bl _, H, I, rfl, q0⟩
theorem op_inA (hu : X.A.units + 65 < cLine) : OpR X (compareOp .In) (r2 X.K X.mg inA) := op_inG false hu
theorem op_notInA (hu : X.A.units + 65 < cLine) : OpR X (compareOp .NotIn) (r2 X.K X.mg notInA) := op_inG true hu

/-! ### what stands in a list or a tuple -/
theorem R.seq {K : PySem.W.Frag} {mg : Str → Option Value} {G : Gh} {h : Hs} {H : Hp} {x : AV} {v : V} {xs : List AV} (w : WI K mg G h H) (r : R K mg G x v) (e : seqOf h x = some xs) :
    ∃ a vs, v = .ref a ∧ Rs K mg G xs vs ∧ ((Sim.der h x = .lst xs ∧ H a = some (.lst vs)) ∨ (Sim.der h x = .tup xs ∧ G.F a = some (.tup vs))) := by
  cases r with
  | @tup ys a vs ha rs => cases e; exact ⟨a, vs, rfl, rs, .inr ⟨rfl, ha⟩⟩
  | @lst ys a vs ha rs => cases e; exact ⟨a, vs, rfl, rs, .inl ⟨rfl, w.F _ _ ha⟩⟩
  | @cell n a hm =>
    have eq : Sim.der h (.cell n) = (match h[n]? with | some (.lst xs) => .lst xs | some (.frz v) => v | _ => .cell n) := rfl
    unfold seqOf at e
    rw [eq] at e
    cases hn : h[n]? with
    | none => rw [hn] at e; cases e
    | some c =>
      rw [hn] at e
      cases c with
      | lst ys =>
        cases e
        obtain ⟨b, vs, h1, h2, hz, h3, h4⟩ := w.cells n _ hn
        rw [hm] at h1
        cases h1
        exact ⟨a, vs, rfl, h4, .inl ⟨by rw [eq, hn], h3⟩⟩
      | frz u =>
        obtain ⟨b, o, h1, h2, h3⟩ := w.cells n _ hn
        rw [hm] at h1
        cases h1
        dsimp only at e
        cases u with
        | tup ys => cases e; cases h3 with | @tup _ _ vs ha rs => exact ⟨a, vs, rfl, rs, .inr ⟨by rw [eq, hn], ha⟩⟩
        | lst ys => cases e; cases h3 with | @lst _ _ vs ha rs => exact ⟨a, vs, rfl, rs, .inl ⟨by rw [eq, hn], w.F _ _ ha⟩⟩
        | _ => cases e
      | dct kvs => cases e
      | ins c fs => cases e
  | _ => cases e
theorem Rs.atI {K : PySem.W.Frag} {mg : Str → Option Value} {G : Gh} {xs : List AV} {vs : List V} {i : Int} {c : AV} (r : Rs K mg G xs vs) (e : L2.atI xs i = some c) : ∃ v, L2.atI vs i = some v ∧ R K mg G c v := by
  unfold L2.atI at e ⊢
  rw [← r.length]
  cases h : ixN xs.length i with
  | none => rw [h] at e; cases e
  | some j => rw [h] at e; exact r.get e
def ixA (h : Hs) (x y : AV) : Option AV := match y with
  | .int i => (match x with
    | .str z => if z.length ≤ sizeLine then (atI z.cps.toList i).map fun c => .str ⟨#[c]⟩ else none
    | .ctp ns => atI (ns.map AV.int) i
    | _ => (seqOf h x).bind fun xs => atI xs i)
  | _ => none
theorem ix_A : IxR X (r2 X.K X.mg ixA) := by
  intro ve se pins s σ H x y v u Q I rx ry ⟨G, h, a, b, c, w, ra, rb, e, q⟩ hs
  unfold ixA at e
  split at e
  · rename_i i
    cases rb
    split at e
    · rename_i z
      cases ra
      split at e
      · rename_i hz
        cases e2 : L2.atI z.cps.toList i with
        | none => rw [e2] at e; cases e
        | some cc =>
          rw [e2] at e
          cases e
          exact ix_str ve se pins s σ H _ _ v u Q I rx ry ⟨z, i, cc, rfl, rfl, hz, e2, q G H _ (.refl G) w (.str _)⟩ hs
      · cases e
    · rename_i ns
      cases ra with
      | @ctp _ p hk =>
        obtain ⟨vv, e3, rc⟩ := (Rs.of_ints (K := X.K) (mg := X.mg) (G := G) ns).atI e
        exact ix_tup ve se pins s σ H _ _ v u Q I rx ry ⟨p, ns.map V.int, i, vv, rfl, rfl, hk H, e3, q G H _ (.refl G) w rc⟩ hs
    · cases e2 : seqOf h a with
      | none => rw [e2] at e; cases e
      | some xs =>
        rw [e2] at e
        obtain ⟨p, vs, rfl, rs, hq⟩ := ra.seq w e2
        obtain ⟨vv, e3, rc⟩ := rs.atI (show L2.atI xs i = some c from e)
        rcases hq with ⟨_, hq⟩ | ⟨_, hq⟩
        · exact ix_list ve se pins s σ H _ _ v u Q I rx ry ⟨p, vs, i, vv, rfl, rfl, .inl (.inl hq), e3, q G H _ (.refl G) w rc⟩ hs
        · exact ix_tup ve se pins s σ H _ _ v u Q I rx ry ⟨p, vs, i, vv, rfl, rfl, sameT w.F (SqT.of hq), e3, q G H _ (.refl G) w rc⟩ hs
  · cases e
variable {a b c e : Expr} {m ma mb : EM AV} {pos : Pos}
theorem se_ix (ha : SE X W a ma) (hb : SE X W b mb) (hs : PlainIx b := by exact fun _ _ => rfl) : SE X W (.Subscript a b pos) (m2 ixA ma mb) :=
  ⟨(pe_ix ix_A ha.pe hb.pe hs).weak fun σ H Q p => tt2 p⟩

/-! ### slices -/
abbrev EO := EM (Option Int)
def tSO (X : Cx) (W : WX) (m : EO) : TO := fun σ H Q => ∃ G h env, WI X.K X.mg G h H ∧ RE X.K X.mg G env σ ∧ post X W (fun _ (a b : Option Int) => a = b) G σ Q (m env h)
structure SO (X : Cx) (W : WX) (e : Option Expr) (m : EO) : Prop where
  po : PO X e (tSO X W m)
theorem _root_.L2.PO.weak {e : Option Expr} {t t' : TO} (p : PO X e t) (h : ∀ σ H Q, t' σ H Q → t σ H Q) : PO X e t' := ⟨fun pins s σ H Q I q => p.run pins s σ H Q I (h σ H Q q)⟩
def oNo : EO := fun _ => M.ret none
def oYes (m : EM AV) : EO := fun env => (m env).bnd fun x => rd fun _ => match x with
  | .int i => some (some i)
  | _ => none
theorem so_no : SO X W none oNo := ⟨po_none.weak fun σ H Q ⟨G, h, env, w, re, p⟩ => p G H none (.refl G) w rfl⟩
theorem so_yes (h : SE X W e m) : SO X W (some e) (oYes m) := by
  refine ⟨(po_some h.pe).weak fun σ H Q ⟨G, h, env, w, re, p⟩ => ⟨G, h, env, w, re, post_bnd p fun a h1 G1 H1 x l1 w1 ra p1 => ?_⟩⟩
  obtain ⟨c, e, q⟩ := post_rd p1
  cases a with
  | int i => cases ra; exact ⟨i, rfl, q G1 H1 (some i) (.refl G1) w1 (Option.some.inj e).symm⟩
  | _ => cases e
def cutA {α : Type} (xs : List α) (lo hi : Option Int) : List α := (xs.drop (HT.sIx xs.length 0 lo)).take (HT.sIx xs.length xs.length hi - HT.sIx xs.length 0 lo)
def slA (h : Hs) (x : AV) (lo hi : Option Int) : Option AV := match der h x with
  | .tup xs => some (.tup (cutA xs lo hi))
  | .lst xs => some (.lst (cutA xs lo hi))
  | .scr ns => some (.lst ((cutA ns lo hi).map .int))
  | _ => none
def mSl (a : EM AV) (lo hi : EO) : EM AV := fun env => (a env).bnd fun x => (lo env).bnd fun l => (hi env).bnd fun u => rd fun h => slA h x l u
theorem Rs.cut {K : PySem.W.Frag} {mg : Str → Option Value} {G : Gh} {xs : List AV} {vs : List V} (r : Rs K mg G xs vs) (lo hi : Option Int) : Rs K mg G (cutA xs lo hi) (cutV vs lo hi) := by
  unfold cutA cutV
  rw [r.length]
  exact (r.drop _).take _
theorem map_cut (ns : List Int) (lo hi : Option Int) : cutV (ns.map V.int) lo hi = (cutA ns lo hi).map V.int := by
  unfold cutA cutV
  rw [List.length_map, List.map_take, List.map_drop]
theorem se_sl {lo hi : Option Expr} {ml mh : EO} {p2 : Pos} (ha : SE X W a ma) (hl : SO X W lo ml) (hh : SO X W hi mh) : SE X W (.Subscript a (.Slice lo hi none p2) pos) (mSl ma ml mh) := by
  refine ⟨(pe_slice (SlR.or sl_list sl_tupA) ha.pe hl.po hh.po).weak fun σ H Q ⟨G, h, env, w, re, p⟩ => ⟨G, h, env, w, re, post_bnd p fun a h1 G1 H1 x l1 w1 ra p1 => ⟨G1, h1, env, w1, re.mono l1, post_bnd p1 fun lo' h2 G2 H2 lv l2 w2 e2 p2 => ⟨G2, h2, env, w2, (re.mono l1).mono l2, post_bnd p2 fun hi' h3 G3 H3 hv l3 w3 e3 p3 => ?_⟩⟩⟩⟩
  subst e2 e3
  obtain ⟨c, e, q⟩ := post_rd p3
  have r3 : R X.K X.mg G3 a x := (ra.mono l2).mono l3
  have fL : ∀ {p : Addr} {xs : List AV} {vs : List V}, x = .ref p → Rs X.K X.mg G3 xs vs → H3 p = some (.lst vs) → c = .lst (cutA xs lo' hi') → rSlL X.K x lo' hi' H3 Q := fun {p xs vs} ex rs hp ec => by
    subst ec
    exact ⟨p, vs, ex, .inl (.inl hp), fun p2 hp2 => q (G3.addF p2 _) _ _ (Gh.addF_le (w3.freeF hp2)) (w3.newF hp2) (.lst upd_same ((rs.cut _ _).mono (Gh.addF_le (w3.freeF hp2))))⟩
  have fT : ∀ {p : Addr} {xs : List AV} {vs : List V}, x = .ref p → Rs X.K X.mg G3 xs vs → G3.F p = some (.tup vs) → c = .tup (cutA xs lo' hi') → rSlA X.K x lo' hi' H3 Q := fun {p xs vs} ex rs hp ec => by
    subst ec
    refine ⟨p, vs, ex, sameT w3.F (SqT.of hp), fun hw => ?_, fun _ p2 hp2 => q (G3.addF p2 _) _ _ (Gh.addF_le (w3.freeF hp2)) (w3.newF hp2) (.tup upd_same ((rs.cut _ _).mono (Gh.addF_le (w3.freeF hp2))))⟩
    have e4 : cutA xs lo' hi' = xs := by
      unfold cutA
      rw [rs.length, hw.1, hw.2, List.drop_zero, Nat.sub_zero, ← rs.length, List.take_length]
    refine q G3 H3 _ (.refl G3) w3 ?_
    rw [e4]
    exact .tup hp rs
  unfold slA at e
  cases r3 with
  | @tup ys p vs hp rs => exact .inr (fT rfl rs hp (Option.some.inj e).symm)
  | @lst ys p vs hp rs => exact .inl (fL rfl rs (w3.F _ _ hp) (Option.some.inj e).symm)
  | @scr ns p hp =>
    have ec : c = .lst ((cutA ns lo' hi').map .int) := (Option.some.inj e).symm
    subst ec
    refine .inl ⟨p, ns.map V.int, rfl, w3.F.seq hp, fun p2 hp2 => q (G3.addF p2 _) _ _ (Gh.addF_le (w3.freeF hp2)) (w3.newF hp2) (.lst upd_same ?_)⟩
    rw [map_cut]
    exact Rs.of_ints _
  | @cell n p hm =>
    have eq : Sim.der h3 (.cell n) = (match h3[n]? with | some (.lst xs) => .lst xs | some (.frz v) => v | _ => .cell n) := rfl
    rw [eq] at e
    cases hn : h3[n]? with
    | none => rw [hn] at e; cases e
    | some cc =>
      rw [hn] at e
      cases cc with
      | lst ys =>
        obtain ⟨b, vs, g1, g2, gz, g3, g4⟩ := w3.cells n _ hn
        rw [hm] at g1
        cases g1
        exact .inl (fL rfl g4 g3 (Option.some.inj e).symm)
      | frz u =>
        obtain ⟨b, o, g1, g2, g3⟩ := w3.cells n _ hn
        rw [hm] at g1
        cases g1
        dsimp only at e
        cases u with
        | tup ys => cases g3 with | @tup _ _ vs ha rs => exact .inr (fT rfl rs ha (Option.some.inj e).symm)
        | lst ys => cases g3 with | @lst _ _ vs ha rs => exact .inl (fL rfl rs (w3.F _ _ ha) (Option.some.inj e).symm)
        | scr ns => cases g3 with
          | @scr _ _ hp =>
            have ec : c = .lst ((cutA ns lo' hi').map .int) := (Option.some.inj e).symm
            subst ec
            refine .inl ⟨p, ns.map V.int, rfl, w3.F.seq hp, fun p2 hp2 => q (G3.addF p2 _) _ _ (Gh.addF_le (w3.freeF hp2)) (w3.newF hp2) (.lst upd_same ?_)⟩
            rw [map_cut]
            exact Rs.of_ints _
        | cell m => cases e
        | _ => cases e
      | dct kvs => cases e
      | ins c fs => cases e
  | _ => cases e

/-! ### built-in functions -/
theorem se_callB {x : Str} {p : Pos} {es : List Expr} {id : String} {g : Hs → List AV → Option AV} {as : EM (List AV)} (hc : CallR X (.builtin id) (rN X.K X.mg g)) (hm : X.mg x = none) (hv : bootBuiltins x = some (.builtin id)) (ha : SA X W (e :: es) as) (hg : Gl X x := by rfl)
    (hn : x ≠ "__name__" := by decide) (hdb : (x == ("__debug__" : Str)) = false := by decide) (he : starEach (e :: es) X.env = (false, eval e X.env) :: starEach es X.env := by rfl) (hpl : (backTo pos (starEach es X.env)).any (·.1) = false := by rfl) :
    SE X W (.Call (.Name x p) (e :: es) [] pos) (mN g as) := by
  refine ⟨(pe_callB hc hg hm hv ha.pa hn hdb he hpl).weak fun σ H Q ⟨G, h, env, w, re, p⟩ => ⟨G, h, env, w, re, post_bnd p fun xs h1 G1 H1 vs l1 w1 rs p1 => ?_⟩⟩
  obtain ⟨c, e, q⟩ := post_rd p1
  exact ⟨G1, h1, xs, c, w1, rs, e, q⟩
theorem se_callTy {x : Str} {p : Pos} {es : List Expr} {T : String} {g : Hs → List AV → Option AV} {as : EM (List AV)} (hc : CallR X (.type T) (rN X.K X.mg g)) (hm : X.mg x = none) (hv : bootBuiltins x = some (.type T)) (ha : SA X W (e :: es) as) (hg : Gl X x := by rfl)
    (hn : x ≠ "__name__" := by decide) (hdb : (x == ("__debug__" : Str)) = false := by decide) (he : starEach (e :: es) X.env = (false, eval e X.env) :: starEach es X.env := by rfl) (hpl : (backTo pos (starEach es X.env)).any (·.1) = false := by rfl) :
    SE X W (.Call (.Name x p) (e :: es) [] pos) (mN g as) := by
  refine ⟨(pe_callTy hc hg hm hv ha.pa hn hdb he hpl).weak fun σ H Q ⟨G, h, env, w, re, p⟩ => ⟨G, h, env, w, re, post_bnd p fun xs h1 G1 H1 vs l1 w1 rs p1 => ?_⟩⟩
  obtain ⟨c, e, q⟩ := post_rd p1
  exact ⟨G1, h1, xs, c, w1, rs, e, q⟩
def lenA (h : Hs) (xs : List AV) : Option AV := match xs with
  | [.str z] => if z.length ≤ sizeLine then some (.int z.length) else none
  | [x] => (seqOf h x).map fun ys => .int ys.length
  | _ => none
theorem call_lenA : CallR X (.builtin "len") (rN X.K X.mg lenA) := by
  intro pins s σ H xs us Q I r ⟨G, h, as, c, w, rs, e, q⟩
  unfold lenA at e
  split at e
  · rename_i z
    split at e
    · rename_i hz
      cases e
      cases rs with | cons r1 t => cases t; cases r1; exact call_len_str pins s σ H _ us Q I r ⟨z, rfl, hz, q G H _ (.refl G) w (.int _)⟩
    · cases e
  · rename_i x _
    cases e2 : seqOf h x with
    | none => rw [e2] at e; cases e
    | some ys =>
      rw [e2] at e
      cases e
      cases rs with
      | cons r1 t =>
        cases t
        obtain ⟨p, vs, rfl, rr, hq⟩ := r1.seq w e2
        refine call_len_seq pins s σ H _ us Q I r ⟨p, vs, rfl, hq.imp (fun z => .inl (.inl z.2)) (fun z => sameT w.F (SqT.of z.2)), q G H _ (.refl G) w ?_⟩
        dsimp only
        rw [rr.length]
        exact .int _
  · cases e
def absA (_ : Hs) (xs : List AV) : Option AV := match xs with
  | [.int i] => some (.int (if i < 0 then -i else i))
  | _ => none
theorem call_absA : CallR X (.builtin "abs") (rN X.K X.mg absA) := by
  intro pins s σ H xs us Q I r ⟨G, h, as, c, w, rs, e, q⟩
  unfold absA at e
  split at e
  · cases e
    cases rs with | cons r1 t => cases t; cases r1; exact call_abs pins s σ H _ us Q I r ⟨_, rfl, q G H _ (.refl G) w (.int _)⟩
  · cases e
def intA (_ : Hs) (xs : List AV) : Option AV := match xs with
  | [.int i] => some (.int i)
  | [.bl k] => some (.int (if k then 1 else 0))
  | _ => none
theorem call_intA : CallR X (.type "int") (rN X.K X.mg intA) := by
  intro pins s σ H xs us Q I r ⟨G, h, as, c, w, rs, e, q⟩
  unfold intA at e
  split at e
  · cases e
    cases rs with | cons r1 t => cases t; cases r1; exact call_int1 pins s σ H _ us Q I r (.inl ⟨_, rfl, q G H _ (.refl G) w (.int _)⟩)
  · cases e
    cases rs with | cons r1 t => cases t; cases r1; exact call_int1 pins s σ H _ us Q I r (.inr ⟨_, rfl, q G H _ (.refl G) w (.int _)⟩)
  · cases e
/-- max, min: of two ints, of a list of ints -/
def lmax : List Int → Int
  | [] => 0
  | [x] => x
  | x :: y :: r => let m := lmax (y :: r); if m > x then m else x
def lmin : List Int → Int
  | [] => 0
  | [x] => x
  | x :: y :: r => let m := lmin (y :: r); if m < x then m else x
theorem lmax_spec : ∀ (x : Int) (r : List Int), lmax (x :: r) ∈ x :: r ∧ ∀ y ∈ x :: r, y ≤ lmax (x :: r)
  | x, [] => by simp [lmax]
  | x, y :: r => by
    obtain ⟨h1, h2⟩ := lmax_spec y r
    have e : lmax (x :: y :: r) = if lmax (y :: r) > x then lmax (y :: r) else x := rfl
    rw [e]
    split
    · refine ⟨List.mem_cons_of_mem _ h1, fun z hz => ?_⟩
      rcases List.mem_cons.mp hz with rfl | hz
      · omega
      · exact h2 z hz
    · refine ⟨List.mem_cons_self, fun z hz => ?_⟩
      rcases List.mem_cons.mp hz with rfl | hz
      · omega
      · have := h2 z hz; omega
theorem lmin_spec : ∀ (x : Int) (r : List Int), lmin (x :: r) ∈ x :: r ∧ ∀ y ∈ x :: r, lmin (x :: r) ≤ y
  | x, [] => by simp [lmin]
  | x, y :: r => by
    obtain ⟨h1, h2⟩ := lmin_spec y r
    have e : lmin (x :: y :: r) = if lmin (y :: r) < x then lmin (y :: r) else x := rfl
    rw [e]
    split
    · refine ⟨List.mem_cons_of_mem _ h1, fun z hz => ?_⟩
      rcases List.mem_cons.mp hz with rfl | hz
      · omega
      · exact h2 z hz
    · refine ⟨List.mem_cons_self, fun z hz => ?_⟩
      rcases List.mem_cons.mp hz with rfl | hz
      · omega
      · have := h2 z hz; omega
def lstOf (h : Hs) (x : AV) : Option (List AV) := match der h x with
  | .lst xs => some xs
  | _ => none
theorem R.lstOf {K : PySem.W.Frag} {mg : Str → Option Value} {G : Gh} {h : Hs} {H : Hp} {x : AV} {v : V} {xs : List AV} (w : WI K mg G h H) (r : R K mg G x v) (e : Sim.lstOf h x = some xs) :
    ∃ a vs, v = .ref a ∧ Rs K mg G xs vs ∧ H a = some (.lst vs) := by
  cases r with
  | @lst ys a vs ha rs => cases e; exact ⟨a, vs, rfl, rs, w.F _ _ ha⟩
  | @cell n a hm =>
    have eq : Sim.der h (.cell n) = (match h[n]? with | some (.lst xs) => .lst xs | some (.frz v) => v | _ => .cell n) := rfl
    unfold Sim.lstOf at e
    rw [eq] at e
    cases hn : h[n]? with
    | none => rw [hn] at e; cases e
    | some c =>
      rw [hn] at e
      cases c with
      | lst ys =>
        cases e
        obtain ⟨b, vs, h1, h2, hz, h3, h4⟩ := w.cells n _ hn
        rw [hm] at h1
        cases h1
        exact ⟨a, vs, rfl, h4, h3⟩
      | frz u =>
        obtain ⟨b, o, h1, h2, h3⟩ := w.cells n _ hn
        rw [hm] at h1
        cases h1
        dsimp only at e
        cases u with
        | lst ys => cases e; cases h3 with | @lst _ _ vs ha rs => exact ⟨a, vs, rfl, rs, w.F _ _ ha⟩
        | _ => cases e
      | dct kvs => cases e
      | ins c fs => cases e
  | _ => cases e
def maxA (h : Hs) (xs : List AV) : Option AV := match xs with
  | [.int i, .int j] => some (.int (if j > i then j else i))
  | [x] => (lstOf h x).bind fun ys => (ints? ys).bind fun ns => if 0 < ns.length then some (.int (lmax ns)) else none
  | _ => none
def minA (h : Hs) (xs : List AV) : Option AV := match xs with
  | [.int i, .int j] => some (.int (if j < i then j else i))
  | [x] => (lstOf h x).bind fun ys => (ints? ys).bind fun ns => if 0 < ns.length then some (.int (lmin ns)) else none
  | _ => none
def sumA (h : Hs) (xs : List AV) : Option AV := match xs with
  | [x] => (lstOf h x).bind fun ys => (ints? ys).map fun ns => .int ns.sum
  | _ => none
theorem ints_args {h : Hs} {x : AV} {β : Type} {f : List Int → Option β} {c : β} (e : ((lstOf h x).bind fun ys => (ints? ys).bind f) = some c) : ∃ ns, lstOf h x = some (ns.map AV.int) ∧ f ns = some c := by
  cases e1 : lstOf h x with
  | none => rw [e1] at e; cases e
  | some ys =>
    rw [e1] at e
    cases e2 : ints? ys with
    | none =>
      have e' : ((ints? ys).bind f) = some c := e
      rw [e2] at e'; cases e'
    | some ns =>
      have e' : ((ints? ys).bind f) = some c := e
      rw [e2] at e'
      exact ⟨ns, by rw [ints_of e2], e'⟩
theorem call_maxA (hc : X.calm = true) : CallR X (.builtin "max") (rN X.K X.mg maxA) := by
  intro pins s σ H xs us Q I r ⟨G, h, as, c, w, rs, e, q⟩
  unfold maxA at e
  split at e
  · cases e
    cases rs with | cons r1 t => cases t with | cons r2 t => cases t; cases r1; cases r2; exact call_max2 hc pins s σ H _ us Q I r ⟨_, _, rfl, q G H _ (.refl G) w (.int _)⟩
  · obtain ⟨ns, e1, e2⟩ := ints_args e
    split at e2
    · rename_i hn
      cases e2
      cases rs with
      | cons r1 t =>
        cases t
        obtain ⟨p, vs, rfl, rr, hq⟩ := r1.lstOf w e1
        have iv := rr.ints
        subst iv
        refine cr_max hc pins s σ H _ us Q I r ⟨p, ns, rfl, .inl (.inl hq), hn, fun m hm hle => ?_⟩
        have em : m = lmax ns := by
          cases ns with
          | nil => simp at hn
          | cons x r =>
            obtain ⟨h1, h2⟩ := lmax_spec x r
            have a1 := hle _ h1
            have a2 := h2 _ hm
            omega
        subst em
        exact q G H _ (.refl G) w (.int _)
    · cases e2
  · cases e
theorem call_minA (hc : X.calm = true) : CallR X (.builtin "min") (rN X.K X.mg minA) := by
  intro pins s σ H xs us Q I r ⟨G, h, as, c, w, rs, e, q⟩
  unfold minA at e
  split at e
  · cases e
    cases rs with | cons r1 t => cases t with | cons r2 t => cases t; cases r1; cases r2; exact call_min2 hc pins s σ H _ us Q I r ⟨_, _, rfl, q G H _ (.refl G) w (.int _)⟩
  · obtain ⟨ns, e1, e2⟩ := ints_args e
    split at e2
    · rename_i hn
      cases e2
      cases rs with
      | cons r1 t =>
        cases t
        obtain ⟨p, vs, rfl, rr, hq⟩ := r1.lstOf w e1
        have iv := rr.ints
        subst iv
        refine cr_min hc pins s σ H _ us Q I r ⟨p, ns, rfl, .inl (.inl hq), hn, fun m hm hle => ?_⟩
        have em : m = lmin ns := by
          cases ns with
          | nil => simp at hn
          | cons x r =>
            obtain ⟨h1, h2⟩ := lmin_spec x r
            have a1 := hle _ h1
            have a2 := h2 _ hm
            omega
        subst em
        exact q G H _ (.refl G) w (.int _)
    · cases e2
  · cases e
theorem call_sumA (hc : X.calm = true) : CallR X (.builtin "sum") (rN X.K X.mg sumA) := by
  intro pins s σ H xs us Q I r ⟨G, h, as, c, w, rs, e, q⟩
  unfold sumA at e
  split at e
  · obtain ⟨ns, e1, e2⟩ := ints_args (f := fun ns => some (AV.int ns.sum)) (by rw [← e]; congr 1; funext ys; cases ints? ys <;> rfl)
    cases e2
    cases rs with
    | cons r1 t =>
      cases t
      obtain ⟨p, vs, rfl, rr, hq⟩ := r1.lstOf w e1
      have iv := rr.ints
      subst iv
      exact cr_sum hc pins s σ H _ us Q I r ⟨p, ns, rfl, .inl (.inl hq), q G H _ (.refl G) w (.int _)⟩
  · cases e
/-- the bools that a list holds -/
def bls? : List AV → Option (List Bool)
  | [] => some []
  | .bl i :: xs => (bls? xs).map (i :: ·)
  | _ :: _ => none
theorem bls_of : ∀ {xs : List AV} {ns : List Bool}, bls? xs = some ns → xs = ns.map AV.bl
  | [], ns, e => by cases e; rfl
  | .bl i :: xs, ns, e => by
    unfold bls? at e
    cases e2 : bls? xs with
    | none => rw [e2] at e; cases e
    | some ms => rw [e2] at e; cases e; rw [bls_of e2]; rfl
  | .non :: _, _, e => by cases e
  | .int _ :: _, _, e => by cases e
  | .str _ :: _, _, e => by cases e
  | .ty _ :: _, _, e => by cases e
  | .tup _ :: _, _, e => by cases e
  | .lst _ :: _, _, e => by cases e
  | .dct _ :: _, _, e => by cases e
  | .obj _ _ :: _, _, e => by cases e
  | .scr _ :: _, _, e => by cases e
  | .ctp _ :: _, _, e => by cases e
  | .cell _ :: _, _, e => by cases e
theorem bls_map : ∀ (ns : List Bool), bls? (ns.map AV.bl) = some ns
  | [] => rfl
  | n :: ns => by rw [List.map_cons, bls?, bls_map ns]; rfl
def anyA (h : Hs) (xs : List AV) : Option AV := match xs with
  | [x] => (lstOf h x).bind fun ys => (bls? ys).map fun ns => .bl (ns.any id)
  | _ => none
def allA (h : Hs) (xs : List AV) : Option AV := match xs with
  | [x] => (lstOf h x).bind fun ys => (bls? ys).map fun ns => .bl (ns.all id)
  | _ => none
theorem bls_args {h : Hs} {x : AV} {f : List Bool → AV} {c : AV} (e : ((lstOf h x).bind fun ys => (bls? ys).map f) = some c) : ∃ ns, lstOf h x = some (ns.map AV.bl) ∧ c = f ns := by
  cases e1 : lstOf h x with
  | none => rw [e1] at e; cases e
  | some ys =>
    rw [e1] at e
    cases e2 : bls? ys with
    | none =>
      have e' : ((bls? ys).map f) = some c := e
      rw [e2] at e'; cases e'
    | some ns =>
      have e' : ((bls? ys).map f) = some c := e
      rw [e2] at e'
      exact ⟨ns, by rw [bls_of e2], (Option.some.inj e').symm⟩
theorem call_anyA (hc : X.calm = true) : CallR X (.builtin "any") (rN X.K X.mg anyA) := by
  intro pins s σ H xs us Q I r ⟨G, h, as, c, w, rs, e, q⟩
  unfold anyA at e
  split at e
  · obtain ⟨ns, e1, rfl⟩ := bls_args e
    cases rs with
    | cons r1 t =>
      cases t
      obtain ⟨p, vs, rfl, rr, hq⟩ := r1.lstOf w e1
      have iv := rr.bls
      subst iv
      exact cr_any hc pins s σ H _ us Q I r ⟨p, ns, rfl, .inl (.inl hq), q G H _ (.refl G) w (.bl _)⟩
  · cases e
theorem call_allA (hc : X.calm = true) : CallR X (.builtin "all") (rN X.K X.mg allA) := by
  intro pins s σ H xs us Q I r ⟨G, h, as, c, w, rs, e, q⟩
  unfold allA at e
  split at e
  · obtain ⟨ns, e1, rfl⟩ := bls_args e
    cases rs with
    | cons r1 t =>
      cases t
      obtain ⟨p, vs, rfl, rr, hq⟩ := r1.lstOf w e1
      have iv := rr.bls
      subst iv
      exact cr_all hc pins s σ H _ us Q I r ⟨p, ns, rfl, .inl (.inl hq), q G H _ (.refl G) w (.bl _)⟩
  · cases e
/-- tuple(x) of a list or a tuple -/
def tupleA (h : Hs) (xs : List AV) : Option AV := match xs with
  | [x] => (seqOf h x).map .tup
  | _ => none
theorem call_tupleA : CallR X (.type "tuple") (rN X.K X.mg tupleA) := by
  intro pins s σ H xs us Q I r ⟨G, h, as, c, w, rs, e, q⟩
  unfold tupleA at e
  split at e
  · rename_i x
    cases e2 : seqOf h x with
    | none => rw [e2] at e; cases e
    | some ys =>
      rw [e2] at e
      cases e
      cases rs with
      | cons r1 t =>
        cases t
        obtain ⟨p, vs, rfl, rr, hq⟩ := r1.seq w e2
        refine call_tuple_of pins s σ H _ us Q I r ⟨p, vs, rfl, ?_⟩
        rcases hq with ⟨_, hq⟩ | ⟨_, hq⟩
        · exact .inl ⟨.inl (.inl hq), fun p2 hp2 => q (G.addF p2 _) _ _ (Gh.addF_le (w.freeF hp2)) (w.newF hp2) (.tup upd_same (rr.mono (Gh.addF_le (w.freeF hp2))))⟩
        · exact .inr ⟨sameT w.F (SqT.of hq), q G H _ (.refl G) w (.tup hq rr)⟩
  · cases e
end
end Sim

set_option Elab.async false
set_option linter.all false
set_option maxRecDepth 100000
set_option maxHeartbeats 2000000
namespace Sim
open PySem PySem.Spec L2
open PyProof.Rows hiding St
variable [TabT]

/-! ### methods of a list that may change -/
/-- what a method asks and does: the other arguments, what the list held -> the answer, what it holds -/
abbrev LM := Hs → List AV → List AV → Option (AV × List AV)
def rL (K : PySem.W.Frag) (mg : Str → Option Value) (g : LM) : V → List V → Hp → VK → Prop := fun x xs H Q => ∃ G h n ys as c zs, WI K mg G h H ∧ R K mg G (.cell n) x ∧ h[n]? = some (.lst ys) ∧ Rs K mg G as xs ∧ g h as ys = some (c, zs) ∧
  ∀ G' H' z, G.le G' → WI K mg G' (h.set n (.lst zs)) H' → R K mg G' c z → Q z H'
def updL (g : LM) (x : AV) (as : List AV) : M AV := fun h => match x with
  | .cell n => (match h[n]? with
    | some (.lst ys) => (match g h as ys with
      | some (c, zs) => .ok c (h.set n (.lst zs))
      | none => .bad)
    | _ => .bad)
  | _ => .bad
def chkL (x : AV) : M Unit := rd fun h => (lstOf h x).map fun _ => ()
def mLM (g : LM) (o : EM AV) (as : EM (List AV)) : EM AV := fun env => (o env).bnd fun x => (chkL x).bnd fun _ => (as env).bnd fun ys => updL g x ys
def mLM0 (g : LM) (o : EM AV) : EM AV := fun env => (o env).bnd fun x => updL g x []
theorem rd_bnd {X : Cx} {W : WX} {α β β' : Type} {RB : Gh → β → β' → Prop} {G : Gh} {σ : L2.St} {Q : β' → Hp → Prop} {g : Hs → Option α} {f : α → M β} {h : Hs} (p : post X W RB G σ Q (M.bnd (rd g) f h)) : ∃ c, g h = some c ∧ post X W RB G σ Q (f c h) := by
  have e : M.bnd (rd g) f h = (match g h with | some c => f c h | none => .bad) := by
    unfold M.bnd rd
    cases g h <;> rfl
  rw [e] at p
  cases e2 : g h with
  | none => rw [e2] at p; exact p.elim
  | some c => rw [e2] at p; exact ⟨c, rfl, p⟩
theorem updL_ok {g : LM} {x : AV} {as : List AV} {h : Hs} {X : Cx} {W : WX} {G : Gh} {σ : L2.St} {Q : VK} (p : post X W (R X.K X.mg) G σ Q (updL g x as h)) : ∃ n ys c zs, x = .cell n ∧ h[n]? = some (.lst ys) ∧ g h as ys = some (c, zs) ∧
    ∀ G' H' z, G.le G' → WI X.K X.mg G' (h.set n (.lst zs)) H' → R X.K X.mg G' c z → Q z H' := by
  unfold updL at p
  cases x with
  | cell n =>
    dsimp only at p
    cases e : h[n]? with
    | none => rw [e] at p; exact p.elim
    | some cc =>
      rw [e] at p
      cases cc with
      | lst ys =>
        dsimp only at p
        cases e2 : g h as ys with
        | none => rw [e2] at p; exact p.elim
        | some cz =>
          obtain ⟨c, zs⟩ := cz
          rw [e2] at p
          exact ⟨n, ys, c, zs, rfl, e, e2, p⟩
      | _ => exact p.elim
  | _ => exact p.elim
theorem R.cellL {K : PySem.W.Frag} {mg : Str → Option Value} {G : Gh} {h : Hs} {H : Hp} {n : Nat} {v : V} {ys : List AV} (w : WI K mg G h H) (r : R K mg G (.cell n) v) (e : h[n]? = some (.lst ys)) :
    ∃ a vs, v = .ref a ∧ G.mu n = some a ∧ G.F a = none ∧ G.Z a = none ∧ H a = some (.lst vs) ∧ Rs K mg G ys vs ∧ n < h.length := by
  cases r with
  | @cell _ a hm =>
    obtain ⟨b, vs, h1, h2, hz, h3, h4⟩ := w.cells n _ e
    rw [hm] at h1
    cases h1
    exact ⟨a, vs, rfl, hm, h2, hz, h3, h4, w.bnd n a hm⟩
/-- .. is written -/
theorem WI.putL {K : PySem.W.Frag} {mg : Str → Option Value} {G : Gh} {h : Hs} {H : Hp} {n : Nat} {a : Addr} {zs : List AV} {ws : List V} (w : WI K mg G h H) (hn : n < h.length) (e : G.mu n = some a) (hF : G.F a = none) (hZ : G.Z a = none) (r : Rs K mg G zs ws) : WI K mg G (h.set n (.lst zs)) (upd H a (.lst ws)) :=
  w.put hn e hF hZ ⟨a, ws, e, hF, hZ, upd_same, r⟩
section
variable {X : Cx} {W : WX} {k j : Nat}
variable {a b c e o : Expr} {m ma mb mo : EM AV} {pos apos cpos : Pos} {es : List Expr} {as : EM (List AV)}
theorem se_lm {name : Str} {nid : String} {g : LM} (pa : PlainAttrs "list") (slot : Slot "list" name nid) (hty : typeOf (.builtin nid) = pure (.type "method_descriptor")) (hm : MtR X nid (rL X.K X.mg g)) (ho : SE X W o mo) (ha : SA X W (e :: es) as)
    (hbase : attributeBase o name X.env (eval o X.env) = eval o X.env := by rfl)
    (hfew : ((backTo cpos (starEach (e :: es) X.env)).all (fun x => !x.1) && (backToKw cpos (keywordEach [] X.env)).all (fun x => x.1.isSome)
      && decide ((e :: es).length + ([] : List Keyword).length + (if ([] : List Keyword).isEmpty then 0 else 1) < 30)) = true := by rfl)
    (hline : (apos.endLine == cpos.line) = true := by rfl) (hs : starEach (e :: es) X.env = (false, eval e X.env) :: starEach es X.env := by rfl) (hplain : (backTo cpos (starEach es X.env)).any (·.1) = false := by rfl) :
    SE X W (.Call (.Attribute o name apos) (e :: es) [] cpos) (mLM g mo as) := by
  refine ⟨(pe_bm pa slot hty hm ho.pe ha.pa hbase hfew hline hs hplain).weak fun σ H Q ⟨G, h, env, w, re, p⟩ => ⟨G, h, env, w, re, post_bnd p fun x h1 G1 H1 xv l1 w1 rx p1 => ?_⟩⟩
  obtain ⟨u, e2, p1⟩ := rd_bnd p1
  cases e3 : lstOf h1 x with
  | none => rw [e3] at e2; cases e2
  | some ys =>
    obtain ⟨ad, vs, rfl, rs, hq⟩ := rx.lstOf w1 e3
    refine ⟨.inl ⟨rfl, vs, .inl (.inl hq)⟩, G1, h1, env, w1, re.mono l1, post_bnd p1 fun xs h3 G3 H3 ws l3 w3 rs3 p3 => ?_⟩
    obtain ⟨n, ys3, c, zs, rfl, e4, e5, q⟩ := updL_ok p3
    exact ⟨G3, h3, n, ys3, xs, c, zs, w3, rx.mono l3, e4, rs3, e5, q⟩
theorem se_lm0 {name : Str} {nid : String} {g : LM} (pa : PlainAttrs "list") (slot : Slot "list" name nid) (hty : typeOf (.builtin nid) = pure (.type "method_descriptor")) (hm : MtR X nid (rL X.K X.mg g)) (ho : SE X W o mo)
    (hbase : attributeBase o name X.env (eval o X.env) = eval o X.env := by rfl) (hline : (apos.endLine == cpos.line) = true := by rfl) :
    SE X W (.Call (.Attribute o name apos) [] [] cpos) (mLM0 g mo) := by
  refine ⟨(pe_bm0 pa slot hty hm ho.pe hbase hline).weak fun σ H Q ⟨G, h, env, w, re, p⟩ => ⟨G, h, env, w, re, post_bnd p fun x h1 G1 H1 xv l1 w1 rx p1 => ?_⟩⟩
  obtain ⟨n, ys, c, zs, rfl, e4, e5, q⟩ := updL_ok p1
  obtain ⟨ad, vs, rfl, hm2, hF, hZ, hq, rs, hn⟩ := R.cellL w1 rx e4
  exact ⟨.inl ⟨rfl, vs, .inl (.inl hq)⟩, G1, h1, n, ys, [], c, zs, w1, rx, e4, .nil, e5, q⟩
def appendA : LM := fun _ as ys => match as with
  | [y] => if ys.length < sizeLine then some (.non, ys ++ [y]) else none
  | _ => none
theorem mt_appendA : MtR X "list.append" (rL X.K X.mg appendA) := by
  intro pins s σ H x xs v us Q I rx rxs ⟨G, h, n, ys, as, c, zs, w, ra, e, rs, ge, q⟩
  unfold appendA at ge
  split at ge
  · rename_i y
    split at ge
    · rename_i hl
      cases ge
      obtain ⟨a, vs, rfl, hm, hF, hZ, hq, rr, hn⟩ := R.cellL w ra e
      cases rs with
      | cons r1 t =>
        cases t
        refine mt_append pins s σ H _ _ v us Q I rx rxs ⟨a, vs, _, rfl, rfl, hq, by rw [← rr.length]; exact hl, ?_⟩
        exact q G _ _ (.refl G) (w.putL hn hm hF hZ (Rs.append rr (.cons r1 .nil))) .non
    · cases ge
  · cases ge
def extendA : LM := fun h as ys => match as with
  | [y] => (lstOf h y).bind fun zs => if ys.length + zs.length ≤ sizeLine then some (.non, ys ++ zs) else none
  | _ => none
theorem mt_extendA : MtR X "list.extend" (rL X.K X.mg extendA) := by
  intro pins s σ H x xs v us Q I rx rxs ⟨G, h, n, ys, as, c, zs, w, ra, e, rs, ge, q⟩
  unfold extendA at ge
  split at ge
  · rename_i y
    cases e2 : lstOf h y with
    | none => rw [e2] at ge; cases ge
    | some ts =>
      rw [e2] at ge
      have ge' : (if ys.length + ts.length ≤ sizeLine then some (AV.non, ys ++ ts) else none) = some (c, zs) := ge
      split at ge'
      · rename_i hl
        cases ge'
        obtain ⟨a, vs, rfl, hm, hF, hZ, hq, rr, hn⟩ := R.cellL w ra e
        cases rs with
        | cons r1 t =>
          cases t
          obtain ⟨b, ws, rfl, rb, hqb⟩ := r1.lstOf w e2
          refine mt_extend pins s σ H _ _ v us Q I rx rxs ⟨a, b, vs, ws, rfl, rfl, hq, hqb, by rw [← rr.length, ← rb.length]; exact hl, ?_⟩
          exact q G _ _ (.refl G) (w.putL hn hm hF hZ (Rs.append rr rb)) .non
      · cases ge'
  · cases ge
def popA : LM := fun _ as ys => match as with
  | [] => (ys[ys.length - 1]?).map fun y => (y, ys.dropLast)
  | [.int i] => (ixN ys.length i).bind fun k => (ys[k]?).map fun y => (y, ys.eraseIdx k)
  | _ => none
theorem mt_popA : MtR X "list.pop" (rL X.K X.mg popA) := by
  intro pins s σ H x xs v us Q I rx rxs ⟨G, h, n, ys, as, c, zs, w, ra, e, rs, ge, q⟩
  obtain ⟨a, vs, rfl, hm, hF, hZ, hq, rr, hn⟩ := R.cellL w ra e
  unfold popA at ge
  split at ge
  · cases e2 : ys[ys.length - 1]? with
    | none => rw [e2] at ge; cases ge
    | some y =>
      rw [e2] at ge
      cases ge
      cases rs
      obtain ⟨yv, e3, ry⟩ := rr.get e2
      rw [rr.length] at e3
      refine mt_pop pins s σ H _ _ v us Q I rx rxs ⟨a, vs, yv, rfl, rfl, hq, e3, ?_⟩
      exact q G _ _ (.refl G) (w.putL hn hm hF hZ rr.dropLast) ry
  · rename_i i
    cases e1 : ixN ys.length i with
    | none => rw [e1] at ge; cases ge
    | some k =>
      rw [e1] at ge
      cases e2 : ys[k]? with
      | none =>
        have ge' : (ys[k]?).map (fun y => (y, ys.eraseIdx k)) = some (c, zs) := ge
        rw [e2] at ge'; cases ge'
      | some y =>
        have ge' : (ys[k]?).map (fun y => (y, ys.eraseIdx k)) = some (c, zs) := ge
        rw [e2] at ge'
        cases ge'
        cases rs with
        | cons r1 t =>
          cases t
          cases r1
          obtain ⟨yv, e3, ry⟩ := rr.get e2
          obtain ⟨g1, g2, g3, g4⟩ := ixN_seq e1
          have hz := (I.lstM hq).1
          have hlen := rr.length
          have hsl := sizeLine_eq
          refine mt_popAt pins s σ H _ _ v us Q I rx rxs ⟨a, vs, i, k, yv, rfl, rfl, hq, by omega, by omega, by rw [← rr.length]; exact g1, e3, ?_⟩
          exact q G _ _ (.refl G) (w.putL hn hm hF hZ (rr.eraseIdx k)) ry
  · cases ge
/-- xs[i] = v -/
def putIx (x i v : AV) (h : Hs) : Option Hs := match x, i with
  | .cell n, .int j => (match h[n]? with
    | some (.lst ys) => (ixN ys.length j).map fun k => h.set n (.lst (ys.set k v))
    | _ => none)
  | _, _ => none
def sPutIx (m mo mi : EM AV) : SM := sThen m fun v => sThen mo fun x => sThen mi fun i env h => match putIx x i v h with
  | some h' => .nx env h'
  | none => .bad
theorem ss_putIx {i : Expr} {mi : EM AV} (he : SE X W e m) (ho : SE X W o mo) (hi : SE X W i mi)
    (hs : swapsWithSole [.Subscript o i apos] e pos.line X.env = pure false := by rfl) (hw : swappedStores [.Subscript o i apos] e X.env = pure none := by rfl) (h1 : (assignEach [.Subscript o i apos] X.env).map (·.2) = [assign (.Subscript o i apos) X.env] := by rfl)
    (hp : ∀ (T : TSet) (to ti : TE), PE X o to → PE X i ti → PSet X T → PG X (.Subscript o i apos) (gSub to ti T) := by exact fun _ _ _ h1 h2 h3 => pg_sub h1 h2 h3) : SS X W (.Assign [.Subscript o i apos] e pos) (sPutIx m mo mi) := by
  refine ⟨(ps_asg he.pe (hp rSetL _ _ ho.pe hi.pe set_list) hs hw h1).weak fun D σ H ⟨G, h, env, w, re, p⟩ => ⟨G, h, env, w, re, postS_then re p fun a h1 G1 H1 z l1 w1 r1 re1 p1 => ?_⟩⟩
  refine ⟨G1, h1, env, w1, re1, postS_then re1 p1 fun x h2 G2 H2 xv l2 w2 rx re2 p2 => ?_⟩
  refine ⟨G2, h2, env, w2, re2, postS_then re2 p2 fun ix h3 G3 H3 iv l3 w3 ri re3 p3 => ?_⟩
  cases e4 : putIx x ix a h3 with
  | none => rw [e4] at p3; exact p3.elim
  | some h4 =>
    rw [e4] at p3
    unfold putIx at e4
    split at e4
    · rename_i n jj
      cases e5 : h3[n]? with
      | none => rw [e5] at e4; cases e4
      | some cc =>
        rw [e5] at e4
        cases cc with
        | lst ys =>
          dsimp only at e4
          cases e6 : ixN ys.length jj with
          | none => rw [e6] at e4; cases e4
          | some kk =>
            rw [e6] at e4
            cases e4
            obtain ⟨ad, vs, rfl, hm, hF, hZ, hq, rr, hn⟩ := R.cellL w3 (rx.mono l3) e5
            cases ri
            refine ⟨ad, vs, jj, kk, rfl, rfl, hq, by rw [← rr.length]; exact e6, ?_⟩
            exact p3 G3 _ _ (.refl G3) (w3.putL hn hm hF hZ (rr.set (r1.mono (l2.trans l3)) kk)) re3
        | _ => cases e4
    · cases e4
/-- x += e, ints -/
def sAug (i : Nat) (f : Int → Int → Int) (m : EM AV) : SM := fun env h => match env[i]? with
  | some (some (.int a)) => sThen m (fun v env h => match v with
    | .int b => .nx (env.set i (some (.int (f a b)))) h
    | _ => .bad) env h
  | _ => .bad
theorem ss_aug {i : Nat} {x : Str} {op : Operator} {f : Int → Int → Int} {pos' : Pos} (hN : X.N.Nodup) (hi : X.N[i]? = some x) (hx : Loc X.env.scope x) (he : SE X W e m) (ho : PIp X op (ipI f))
    (hf : X.fn x = true ∨ X.env.scope.names.lookup x = some .local := by first | exact .inl rfl | exact .inr rfl | assumption) : SS X W (.AugAssign (.Name x pos') op e pos) (sAug i f m) := by
  refine ⟨(ps_aug hN hi hx he.pe ho hf).weak fun D σ H ⟨G, h, env, w, re, p⟩ => ?_⟩
  unfold sAug at p
  split at p
  · rename_i av e1
    obtain ⟨v, e2, rv⟩ := re.get e1
    cases rv
    refine ⟨_, e2, G, h, env, w, re, postS_then re p fun b h1 G1 H1 z l1 w1 r1 re1 p1 => ?_⟩
    cases b with
    | int b =>
      cases r1
      exact ⟨_, _, rfl, rfl, p1 G1 H1 _ (.refl G1) w1 (re1.set (.int _) i)⟩
    | _ => exact p1.elim
  · exact p.elim

/-! ### what a for walks, further -/
def rngL (lo hi : Int) : List AV := (List.range (hi - lo).toNat).map fun (i : Nat) => .int (lo + i)
def inR (i : Int) : Bool := lg i 62
omit [TabT] in
theorem inR_of {i : Int} (h : inR i = true) : -(2 ^ 62) ≤ i ∧ i < 2 ^ 62 := ⟨Int.le_of_lt (lg_of (by decide) h).1, (lg_of (by decide) h).2⟩
def int? : AV → Option Int
  | .int j => some j
  | _ => none
def mRng1 (m : EM AV) : EM (List AV) := fun env => (m env).bnd fun x => rd fun _ => (int? x).bind fun j => if inR j = true then some (rngL 0 j) else none
def mRng2 (m m2 : EM AV) : EM (List AV) := fun env => (m env).bnd fun x => (m2 env).bnd fun y => rd fun _ => (int? x).bind fun i => (int? y).bind fun j => if inR i = true ∧ inR j = true then some (rngL i j) else none
theorem int_of {x : AV} {j : Int} (e : int? x = some j) : x = .int j := by
  unfold int? at e
  split at e
  · cases e; rfl
  · cases e
theorem rngL_length (lo hi : Int) : (rngL lo hi).length = (hi - lo).toNat := by
  unfold rngL
  rw [List.length_map, List.length_range]
theorem rng_iok {G : Gh} {lo hi : Int} : IOk X G (Itr lo (hi - lo).toNat) (rngL lo hi) := by
  intro G1 h1 H1 l w
  rw [rngL_length]
  refine ⟨Nat.le_refl _, fun i hi2 => ⟨hi2, fun x H2 y => ?_⟩⟩
  obtain ⟨rfl, rfl⟩ := y
  refine ⟨G1, .int (lo + i), .refl _, w, ?_, .int _⟩
  unfold rngL
  rw [List.getElem?_map, List.getElem?_range hi2]
  rfl
theorem postI {m : EM (List AV)} {σ : L2.St} {RR : It → Hp → Prop} {G : Gh} {h : Hs} {env : AEnv} (p : match m env h with
  | .ok xs h' => ∀ G' H' J, G.le G' → WI X.K X.mg G' h' H' → IOk X G' J xs → RR J H'
  | .exc c fs h' => ∀ G' H' cls d, G.le G' → WI X.K X.mg G' h' H' → XR X.K X.mg G' c fs cls d → W cls d σ H'
  | .bad => False) : post X W (fun G xs J => IOk X G J xs) G σ (fun J H => RR J H) (m env h) := by
  cases e : m env h with
  | ok xs h' => rw [e] at p; exact p
  | exc c fs h' => rw [e] at p; exact p
  | bad => rw [e] at p; exact p
theorem si_rng1 {tg : Expr} {p : Pos} (hm : X.mg "range" = none) (ha : SE X W a ma) (hg : Gl X "range" := by rfl) (hs : starEach [a] X.env = [(false, eval a X.env)] := by rfl) (hs2 : starEach [a] X.env = (false, eval a X.env) :: starEach [] X.env := by rfl) : SI X W tg (.Call (.Name "range" p) [a] [] pos) (mRng1 ma) := by
  refine ⟨(pi_range1 hg hm (pa_cons ha.pe pa_nil hs2) hs).weak fun σ H Q ⟨G, h, env, w, re, p⟩ => ⟨G, h, env, w, re, post_bnd (postI p) fun x h1 G1 H1 v l1 w1 rx p1 => ?_⟩⟩
  obtain ⟨c, e, q⟩ := post_rd p1
  cases e1 : int? x with
  | none => rw [e1] at e; cases e
  | some j =>
    rw [e1] at e
    have e' : (if inR j = true then some (rngL 0 j) else none) = some c := e
    split at e'
    · rename_i hj
      cases e'
      have := int_of e1
      subst this
      cases rx
      obtain ⟨b1, b2⟩ := inR_of hj
      refine ⟨j, rfl, b1, b2, q G1 H1 _ (.refl G1) w1 ?_⟩
      have q := rng_iok (X := X) (G := G1) (lo := 0) (hi := j)
      rw [Int.sub_zero] at q
      exact q
    · cases e'
theorem si_rng2 {tg : Expr} {p : Pos} (hm : X.mg "range" = none) (ha : SE X W a ma) (hb : SE X W b mb) (hg : Gl X "range" := by rfl) (hs : starEach [a, b] X.env = [(false, eval a X.env), (false, eval b X.env)] := by rfl) (hs2 : starEach [b] X.env = [(false, eval b X.env)] := by rfl)
    (h1 : starEach [a, b] X.env = (false, eval a X.env) :: starEach [b] X.env := by rfl) (h2 : starEach [b] X.env = (false, eval b X.env) :: starEach [] X.env := by rfl) : SI X W tg (.Call (.Name "range" p) [a, b] [] pos) (mRng2 ma mb) := by
  refine ⟨(pi_range2 hg hm (pa_cons ha.pe (pa_cons hb.pe pa_nil h2) h1) hs hs2).weak fun σ H Q ⟨G, h, env, w, re, p⟩ => ⟨G, h, env, w, re, post_bnd (postI p) fun x h1 G1 H1 v l1 w1 rx p1 => ⟨G1, h1, env, w1, re.mono l1, post_bnd p1 fun y h2 G2 H2 u l2 w2 ry p2 => ?_⟩⟩⟩
  obtain ⟨c, e, q⟩ := post_rd p2
  cases e1 : int? x with
  | none => rw [e1] at e; cases e
  | some i =>
    cases e2 : int? y with
    | none => rw [e1, e2] at e; cases e
    | some j =>
      rw [e1, e2] at e
      have e' : (if inR i = true ∧ inR j = true then some (rngL i j) else none) = some c := e
      split at e'
      · rename_i hj
        cases e'
        have := int_of e1
        subst this
        have := int_of e2
        subst this
        cases rx
        cases ry
        obtain ⟨b1, b2⟩ := inR_of hj.1
        obtain ⟨b3, b4⟩ := inR_of hj.2
        exact ⟨i, j, rfl, ⟨b1, b2, b3, b4⟩, q G2 H2 _ (.refl G2) w2 rng_iok⟩
      · cases e'
end
end Sim

set_option Elab.async false
set_option linter.all false
set_option maxRecDepth 100000
set_option maxHeartbeats 2000000
namespace L2
open PySem PySem.Spec PyProof.Rows
/-- the tuple at a as it stands at each turn, the items in new pairs -/
def IteT (K : PySem.W.Frag) (a : Addr) : It :=
  ⟨fun i H => ∃ (xs : List V) (x : V), SqT K H a xs ∧ xs[i]? = some x, fun i H v H' => ∃ T x, v = .ref T ∧ H T = none ∧ H' = upd H T (.tup [.int (i : Nat), x]) ∧ ∀ xs, SqT K H a xs → xs[i]? = some x, fun i H => ∃ xs : List V, SqT K H a xs ∧ xs.length ≤ i⟩
theorem isTup_isTuple {h : Heap} {a : Addr} {its : Array Value} (x : IsTup h a its) : h.IsTuple a its := by
  obtain ⟨o, e, c, n, d⟩ := x
  exact ⟨o, e, c, n, d⟩
theorem turn_enumT {P : Program} {w : World} {K : PySem.W.Frag} {elts : List Expr} {kk : Nat} {tpos : Pos} (a e it : Addr) :
    Turn P w K (.Tuple elts kk tpos) (IteT K a) [e, it] e (fun i h => (∃ old, IsEnum h e it ((i : Nat) : Int) old) ∧ h.IsTupleIter it a i ∧ e ≠ it ∧ a ≠ it ∧ a ≠ e) where
  mem := by simp
  obj := fun i h st b hb => by
    obtain ⟨⟨old, he⟩, ⟨o, ho, hc, hd⟩, _⟩ := st
    have e' : b = e ∨ b = it := by simpa using hb
    rcases e' with z | z
    · rw [z]; exact ⟨_, he, fun v q => nomatch q⟩
    · rw [z]; exact ⟨o, ho, fun v q => by rw [hd] at q; cases q⟩
  keep := fun i h h' st k => let ⟨⟨old, he⟩, hi, hne⟩ := st; ⟨⟨old, k e (by simp) _ he⟩, hi.at fun o q => k it (by simp) o q, hne⟩
  item := by
    intro X hP hw hK hc i pins s σ H E I hf st hg
    subst hP hw hK
    obtain ⟨⟨old, he⟩, hit, hne, hai, hae⟩ := st
    obtain ⟨xs, x, hq, hx⟩ := hg
    obtain ⟨its, rv, p, hz⟩ := I.tuple hq
    obtain ⟨u, hu, ru⟩ := rv.get hx
    have hel : e < s.heap.objs.size := Heap.lt_size he
    have hil : it < s.heap.objs.size := by obtain ⟨_, q, _⟩ := hit; exact Heap.lt_size q
    have hlt : i < its.toArray.size := by
      have := (List.getElem?_eq_some_iff.mp hu).1
      simpa using this
    have D : Draws X.prog X.w X.A.in1 it [it, a] its.toArray.size (fun i v => its.toArray[i]? = some v) (fun i h => h.IsTupleIter it a i ∧ h.IsTuple a its.toArray) := Draws.tuple (show X.A.in1.handled = none from I.ok.hd hc) it a hai its.toArray
    refine wpAny_pyNext_enum_itemD D he ⟨hit, isTup_isTuple p⟩ hlt hne (by simp only [List.mem_cons, List.not_mem_nil, or_false, not_or]; exact ⟨hne, Ne.symm hae⟩) fun x' h' tk hP ho hst hT hsz hk => ?_
    have hxu : x' = u := by
      have hP' : its[i]? = some x' := by simpa using hP
      rw [hu] at hP'
      exact (Option.some.inj hP').symm
    subst hxu
    refine ⟨_, rfl, wpAny_letOwnedTupleGo_enum (s := { s with heap := h', toks := tk + 1 }) ho fun h'' he' sb => ?_⟩
    have hT2 : h''.get? s.heap.objs.size = some { cls := .type "tuple", data := .seq #[.int i tk, x'] } := (sb.2 _ (Nat.ne_of_gt hel)).trans hT
    have new : ObjOk X.prog X.w (upd H s.heap.objs.size (.tup [.int (i : Nat), x])) h'' s.heap.objs.size (.tup [.int (i : Nat), x]) :=
      ⟨by show 2 ≤ sizeLine; decide, [.int i tk, x'], .cons ⟨_, rfl⟩ (.cons ru .nil), ⟨_, hT2, rfl, _, rfl⟩⟩
    have I1 : Inv X pins σ (upd H s.heap.objs.size (.tup [.int (i : Nat), x])) { s with heap := h'', toks := tk + 1 } :=
      I.turnedNew (ch := [e, it]) (fun b ob hb q => (sb.2 b (fun z => hb (by simp [z]))).trans (hk b ob (fun z => hb (by simp [z])) (fun z => hb (by simp [z])) q)) hf (Nat.le_refl _) new
    refine ⟨.ref s.heap.objs.size, _, I1, rfl, ⟨_, x, rfl, I.hok.fresh (Nat.le_refl _), rfl, fun ys hy => by rw [I.tuple_inj hy hq]; exact hx⟩, ⟨⟨x', ?_⟩, hst.1.at fun o q => (sb.2 it (Ne.symm hne)).trans q, hne, hai, hae⟩, fun b hb => ?_⟩
    · have e1 : ((i + 1 : Nat) : Int) = (i : Int) + 1 := by omega
      rw [e1]; exact he'
    · have hb' : b < s.heap.objs.size := by
        have e' : b = e ∨ b = it := by simpa using hb
        rcases e' with z | z
        · rw [z]; exact hel
        · rw [z]; exact hil
      rw [upd_ne (Nat.ne_of_lt hb')]
      exact (hf b hb).1
  done := by
    intro X hP hw hK hc i pins s σ H E I hf st hg
    subst hP hw hK
    obtain ⟨⟨old, he⟩, hit, hne, hai, hae⟩ := st
    obtain ⟨xs, hq, hx⟩ := hg
    obtain ⟨its, rv, p, hz⟩ := I.tuple hq
    obtain ⟨f0, f1, f2, f3, f4, f5⟩ := hf it (by simp)
    have hl := rv.length
    have hend : its.toArray[i]? = none := by simp; omega
    have hT : s.TypeIs (.ref e) "enumerate" := ⟨_, he, rfl⟩
    unfold pyNext
    refine wpAny_bind (wpAny_attempt (wpAny_callSpecial?_slot (name := Str.ofString "__next__") hT F.slot_enumerate_next
      (wpAny_call_entry F.slot_enumerate_next hT F.entry_enumerate_next ?_ (F.args_enumerate_next_1 _))))
    show wpAny _ _ (field (.ref e) 2 >>= _) _ _ _
    refine wpAny_bind (wpAny_field he rfl (x := .ref it) rfl ?_)
    refine wpAny_bind (wpAny_nextOf_tuple_end (show X.A.in1.handled = none from I.ok.hd hc) hit (isTup_isTuple p) hend fun h' x he' hx' => ?_)
    obtain ⟨o, ho, hc'⟩ := hx'
    refine wpAny_bind (wpAny_isInstance (T := "StopIteration") (b := true) ⟨o, ho, hc'⟩ isSubtype_stop ?_)
    exact wpAny_pure ⟨rfl, I.turned (t' := s.toks) (fun b o hb q => he' b o hb q) f0 f1 f3 f4 f5⟩
  self := fun A i s Q E st h => let ⟨⟨_, he⟩, _⟩ := st; wpAny_pyIter_enum he h
theorem meets_enumerate_newT (l : Addr) (items : Array Value) (n : Nat) (dct : Option Addr) (sl : Array (Option Value)) :
    Meets (Builtin.«enumerate.__new__» ⟨[.type "enumerate", .ref l], []⟩) (fun _ R s => s.heap.get? l = some { cls := .type "tuple", dict := dct, data := .seq items n, slots := sl } ∧
      R (.ok (.ret (.ref (s.heap.push { cls := .type "tuple_iterator", data := .fields #[.ref l, .int 0 0] }).objs.size)))
        { s with heap := (s.heap.push { cls := .type "tuple_iterator", data := .fields #[.ref l, .int 0 0] }).push { cls := .type "enumerate", data := .fields #[.none, .bool false, .ref s.heap.objs.size, rawInt 0, .none, .none] } }) :=
  .of_wp fun prog w A R s h => by
    obtain ⟨hp, g, d, tk, os⟩ := s; obtain ⟨hl, h⟩ := h
    have hsub := sub_enumerate
    have hL : Heap.IsTuple (Shared.heap ⟨hp, g, d, tk, os⟩) l items := ⟨_, hl, rfl, n, rfl⟩
    wp_walk using AutoSeq1.wpAny_loadPart' hl
    refine wpAny_stack_any fun st => wpAny_pure ?_
    split
    · rename_i c _ _ _ _ _
      cases (c == Value.type "enumerate")
      · wp_walk using AutoSeq1.wpAny_loadPart' hl, wpAny_pyIter_tuple hL
        exact ⟨_, rfl, h⟩
      · wp_walk using AutoSeq1.wpAny_loadPart' hl, wpAny_pyIter_tuple hL
        exact ⟨_, rfl, h⟩
    · wp_walk using AutoSeq1.wpAny_loadPart' hl, wpAny_pyIter_tuple hL
      exact ⟨_, rfl, h⟩
theorem call_enumerate_tuple {prog : Program} {w : World} {A : Around} {E : Value → Shared → Prop} {s : Shared} {l : Addr} {items : Array Value} {Q : Value → Shared → Prop} (hL : s.heap.IsTuple l items)
    (h : ∀ h', IsEnum h' (s.heap.objs.size + 1) s.heap.objs.size 0 .none → h'.IsTupleIter s.heap.objs.size l 0 → h'.objs.size = s.heap.objs.size + 2 →
      (∀ b o, s.heap.get? b = some o → h'.get? b = some o) → Q (.ref (s.heap.objs.size + 1)) { s with heap := h' }) :
    wpAny (model prog w) A (call (.type "enumerate") [.ref l]) Q E s := by
  obtain ⟨⟨c, dct, dt, sl⟩, hl, hc, n, hd⟩ := hL
  replace hc : c = .type "tuple" := hc
  replace hd : dt = .seq items n := hd
  subst hc hd
  refine callType_new F.called_enumerate (by decide) (F.typeCall_enumerate_1 _) (F.newCall_enumerate_1 _) (fun obj => F.args_object_init_2 obj _) F.entry_enumerate_new
    (meets_enumerate_newT l items n dct sl) ⟨hl, ?_⟩
  have hz : (s.heap.push { cls := .type "tuple_iterator", data := .fields #[.ref l, .int 0 0] }).objs.size = s.heap.objs.size + 1 := Heap.size_push ..
  show _ ∧ _
  rw [hz]
  have he : IsEnum ((s.heap.push { cls := .type "tuple_iterator", data := .fields #[.ref l, .int 0 0] }).push
      { cls := .type "enumerate", data := .fields #[.none, .bool false, .ref s.heap.objs.size, rawInt 0, .none, .none] }) (s.heap.objs.size + 1) s.heap.objs.size 0 .none := by
    have := Heap.get?_push_size (s.heap.push { cls := .type "tuple_iterator", data := .fields #[.ref l, .int 0 0] })
      (o := { cls := .type "enumerate", data := .fields #[.none, .bool false, .ref s.heap.objs.size, rawInt 0, .none, .none] }) rfl
    rw [hz] at this; exact this
  refine ⟨⟨_, he, rfl⟩, h _ he ⟨_, Heap.get?_push_of_some _ (Heap.get?_push_size _ rfl), rfl, rfl⟩ (by rw [Heap.size_push, hz]) fun b o x => Heap.get?_push_of_some _ (Heap.get?_push_of_some _ x)⟩
def iEnumT (K : PySem.W.Frag) (ta : TA) : TI := fun σ H R => ta σ H fun vs H1 => ∃ a xs, vs = [.ref a] ∧ SqT K H1 a xs ∧ R (IteT K a) H1
theorem pi_enumT {X : Cx} {e : Expr} {ta : TA} {p pos tpos : Pos} {elts : List Expr} {kk : Nat} (hg : Gl X "enumerate") (hm : X.mg "enumerate" = none) (ha : PA X [e] ta) (hs : starEach [e] X.env = [(false, eval e X.env)] := by rfl) :
    PI X (.Tuple elts kk tpos) (.Call (.Name "enumerate" p) [e] [] pos) (iEnumT X.K ta) := by
  refine ⟨fun pins s σ H R I h => ?_⟩
  refine Call_ (ld_blt I hg hm boot_enumerate (PyProof.Rows.callWith_type1 (thn (ha.run pos pins s σ H _ I h) fun us s1 ⟨vs, H1, I1, r1, q1⟩ => ?_) hs rfl))
  obtain ⟨a, xs, ex, hq, q⟩ := q1
  subst ex
  cases r1 with
  | cons r rr =>
    cases rr
    cases r
    obtain ⟨its, rv, p', hz⟩ := I1.tuple hq
    have hal : a < s1.heap.objs.size := p'.lt
    refine call_enumerate_tuple (isTup_isTuple p') fun h' he hit hsz hk => wpAny_pyIter_enum he ?_
    have I2 : L2.Inv X pins σ H1 { s1 with heap := h' } := I1.kept (t' := s1.toks) hk
    refine ⟨s1.heap.objs.size + 1, [s1.heap.objs.size + 1, s1.heap.objs.size], _, _, H1, rfl, I2, turn_enumT a (s1.heap.objs.size + 1) s1.heap.objs.size, ⟨⟨.none, he⟩, hit, Nat.succ_ne_self _, Nat.ne_of_lt hal, Nat.ne_of_lt (Nat.lt_succ_of_lt hal)⟩, fun b hb => ?_, q⟩
    have e' : b = s1.heap.objs.size + 1 ∨ b = s1.heap.objs.size := by simpa using hb
    have hle : s1.heap.objs.size ≤ b := by
      rcases e' with z | z
      · rw [z]; exact Nat.le_add_right _ _
      · rw [z]; exact Nat.le_refl _
    exact I1.fpOk hle (I1.hok.fresh hle)
end L2
namespace Sim
open PySem PySem.Spec L2
open PyProof.Rows hiding St
variable [TabT]
/-! ### enumerate, zip -/
def enumL (i : Nat) : List AV → List AV
  | [] => []
  | x :: xs => .tup [.int (i : Nat), x] :: enumL (i + 1) xs
theorem enumL_length : ∀ (xs : List AV) (i : Nat), (enumL i xs).length = xs.length
  | [], _ => rfl
  | _ :: xs, i => by unfold enumL; rw [List.length_cons, List.length_cons, enumL_length xs]
theorem enumL_get : ∀ (xs : List AV) (i j : Nat) (x : AV), xs[j]? = some x → (enumL i xs)[j]? = some (.tup [.int ((i + j : Nat) : Int), x])
  | [], _, _, _, e => by simp at e
  | y :: xs, i, 0, x, e => by simp at e; subst e; rfl
  | y :: xs, i, j + 1, x, e => by
    have e2 : xs[j]? = some x := by simpa using e
    have h := enumL_get xs (i + 1) j x e2
    unfold enumL
    rw [List.getElem?_cons_succ, h]
    have : i + 1 + j = i + (j + 1) := by omega
    rw [this]
/-- a list or a tuple that never changes -/
def seqF : AV → Option (List AV)
  | .lst xs => some xs
  | .tup xs => some xs
  | _ => none
def mEnum (m : EM AV) : EM (List AV) := fun env => (m env).bnd fun x => rd fun _ => (seqF x).map (enumL 0)
section
variable {X : Cx} {W : WX} {k j : Nat}
variable {a b c e : Expr} {m ma mb : EM AV} {pos : Pos}
theorem pair_new {G : Gh} {h : Hs} {H : Hp} {T : Addr} {x y : V} {ax ay : AV} (w : WI X.K X.mg G h H) (e : H T = none) (rx : R X.K X.mg G ax x) (ry : R X.K X.mg G ay y) : ∃ G2, G.le G2 ∧ WI X.K X.mg G2 h (upd H T (.tup [x, y])) ∧ R X.K X.mg G2 (.tup [ax, ay]) (.ref T) :=
  ⟨G.addF T (.tup [x, y]), Gh.addF_le (w.freeF e), w.newF e, .tup upd_same (.cons (rx.mono (Gh.addF_le (w.freeF e))) (.cons (ry.mono (Gh.addF_le (w.freeF e))) .nil))⟩
theorem enum_iokL {G : Gh} {a : Addr} {vs : List V} {xs : List AV} (hF : G.F a = some (.lst vs)) (r : Rs X.K X.mg G xs vs) : IOk X G (Ite X.K a) (enumL 0 xs) := by
  intro G1 h1 H1 l w
  have hq : SqL X.K H1 a vs := .inl (.inl (w.F _ _ (l.F _ _ hF)))
  have hl := r.length
  rw [enumL_length]
  refine ⟨⟨vs, hq, by omega⟩, fun i hi => ⟨⟨vs, vs[i]'(by omega), hq, by simp [show i < vs.length by omega]⟩, fun x H2 y => ?_⟩⟩
  obtain ⟨T, u, rfl, nT, rfl, hu⟩ := y
  obtain ⟨av, e2, ra⟩ := r.getV (hu vs hq)
  obtain ⟨G2, l2, w2, r2⟩ := pair_new w nT (.int (i : Nat)) (ra.monoL l)
  refine ⟨G2, _, l2, w2, ?_, r2⟩
  rw [enumL_get xs 0 i av e2, Nat.zero_add]
theorem enum_iokT {G : Gh} {a : Addr} {vs : List V} {xs : List AV} (hF : SqT X.K G.F a vs) (r : Rs X.K X.mg G xs vs) : IOk X G (IteT X.K a) (enumL 0 xs) := by
  intro G1 h1 H1 l w
  have hq : SqT X.K H1 a vs := sameT w.F (sameT l.F hF)
  have hl := r.length
  rw [enumL_length]
  refine ⟨⟨vs, hq, by omega⟩, fun i hi => ⟨⟨vs, vs[i]'(by omega), hq, by simp [show i < vs.length by omega]⟩, fun x H2 y => ?_⟩⟩
  obtain ⟨T, u, rfl, nT, rfl, hu⟩ := y
  obtain ⟨av, e2, ra⟩ := r.getV (hu vs hq)
  obtain ⟨G2, l2, w2, r2⟩ := pair_new w nT (.int (i : Nat)) (ra.monoL l)
  refine ⟨G2, _, l2, w2, ?_, r2⟩
  rw [enumL_get xs 0 i av e2, Nat.zero_add]
/-- the first value decides: one of two walks -/
theorem si_enum {elts : List Expr} {kk : Nat} {tpos p : Pos} (hm : X.mg "enumerate" = none) (he : SE X W e m) (hg : Gl X "enumerate" := by rfl) (hs : starEach [e] X.env = [(false, eval e X.env)] := by rfl) (hs2 : starEach [e] X.env = (false, eval e X.env) :: starEach [] X.env := by rfl) :
    SI X W (.Tuple elts kk tpos) (.Call (.Name "enumerate" p) [e] [] pos) (mEnum m) := by
  refine ⟨(L2.PI.orS (pi_enum hg hm (pa_cons he.pe pa_nil hs2) hs) (pi_enumT hg hm (pa_cons he.pe pa_nil hs2) hs)).weak fun σ H Q ⟨G, h, env, w, re, p⟩ => ?_⟩
  have key : ∀ {x : AV} {h1 : Hs}, m env h = .ok x h1 → ∃ xs, seqF x = some xs ∧ ∀ G' H' J, G.le G' → WI X.K X.mg G' h1 H' → IOk X G' J (enumL 0 xs) → Q J H' := fun {x h1} e1 => by
    have p2 := postI p
    unfold mEnum M.bnd at p2
    rw [e1] at p2
    obtain ⟨c, e2, q⟩ := post_rd p2
    cases e3 : seqF x with
    | none => rw [e3] at e2; cases e2
    | some xs => rw [e3] at e2; cases e2; exact ⟨xs, rfl, q⟩
  have gen : ∀ (Q' : V → Hp → Prop), (∀ x h1 G1 H1 v, m env h = .ok x h1 → G.le G1 → WI X.K X.mg G1 h1 H1 → R X.K X.mg G1 x v → Q' v H1) → tSE X W m σ H Q' := fun Q' hq => by
    refine ⟨G, h, env, w, re, ?_⟩
    have p2 := postI p
    unfold mEnum M.bnd at p2
    cases e1 : m env h with
    | bad => rw [e1] at p2; exact p2
    | exc c fs h1 => rw [e1] at p2; exact p2
    | ok x h1 => exact fun G1 H1 v l1 w1 r1 => hq x h1 G1 H1 v e1 l1 w1 r1
  by_cases ht : ∃ xs h1, m env h = .ok (.tup xs) h1
  · obtain ⟨xs0, h0, e0⟩ := ht
    refine .inr (gen _ fun x h1 G1 H1 v e1 l1 w1 r1 => ?_)
    obtain ⟨xs, e2, q⟩ := key e1
    rw [e0] at e1
    cases e1
    cases e2
    cases r1 with
    | @tup _ a vs ha rs => exact ⟨a, vs, rfl, sameT w1.F (SqT.of ha), q G1 H1 _ l1 w1 (enum_iokT (SqT.of ha) rs)⟩
  · refine .inl (gen _ fun x h1 G1 H1 v e1 l1 w1 r1 => ?_)
    obtain ⟨xs, e2, q⟩ := key e1
    cases x with
    | tup ys => exact absurd ⟨ys, h1, e1⟩ ht
    | lst ys =>
      cases e2
      cases r1 with
      | @lst _ a vs ha rs => exact ⟨a, vs, rfl, .inl (.inl (w1.F _ _ ha)), q G1 H1 _ l1 w1 (enum_iokL ha rs)⟩
    | _ => cases e2

/-! ### isinstance of built-in types -/
def tyOf (h : Hs) (x : AV) : Option String := match der h x with
  | .non => some "NoneType"
  | .bl _ => some "bool"
  | .int _ => some "int"
  | .str _ => some "str"
  | .tup _ => some "tuple"
  | .lst _ => some "list"
  | _ => none
def isTy (a b : String) : Bool := a == b || (a == "bool" && b == "int")
def known (b : String) : Bool := b == "int" || b == "bool" || b == "tuple" || b == "list" || b == "str" || b == "dict"
def tys? : List AV → Option (List String)
  | [] => some []
  | .ty n :: r => if known n then (tys? r).map (n :: ·) else none
  | _ => none
def isiA (h : Hs) (xs : List AV) : Option AV := match xs with
  | [x, .ty b] => (tyOf h x).bind fun a => if known b then some (.bl (isTy a b)) else none
  | [x, .tup cs] => (tyOf h x).bind fun a => (tys? cs).map fun bs => .bl (bs.any (isTy a))
  | _ => none
theorem kitT (a b : String) (ha : a ∈ ["NoneType", "bool", "int", "str", "tuple", "list", "dict"]) (hb : known b = true) : kitB a b = some (isTy a b) := by
  have hb2 : b ∈ ["int", "bool", "tuple", "list", "str", "dict"] := by
    unfold known at hb
    simp only [Bool.or_eq_true, beq_iff_eq] at hb
    simp only [List.mem_cons, List.not_mem_nil, or_false]
    rcases hb with ((((h | h) | h) | h) | h) | h <;> simp [h]
  revert a b
  have : ∀ a ∈ ["NoneType", "bool", "int", "str", "tuple", "list", "dict"], ∀ b ∈ ["int", "bool", "tuple", "list", "str", "dict"], kitB a b = some (isTy a b) := by decide +kernel
  exact fun a b ha _ hb2 => this a ha b hb2
theorem R.tyx {G : Gh} {h : Hs} {H : Hp} {x : AV} {v : V} {t : String} (w : WI X.K X.mg G h H) (r : R X.K X.mg G x v) (e : tyOf h x = some t) : TyX X.K H v (.type t) ∧ t ∈ ["NoneType", "bool", "int", "str", "tuple", "list", "dict"] := by
  have tupX : ∀ {a : Addr} {vs : List V}, SqT X.K G.F a vs → TyX X.K H (.ref a) (.type "tuple") := fun {a vs} hq => by
    rcases sameT w.F hq with (q | ⟨o, q⟩) | ⟨o, its, n, q, c, _⟩
    · exact .base (.tup q)
    · exact .fTuple q
    · exact .kTuple q c
  have dK : ∀ {a : Addr} {o : Obj} {kvs : List (Key × V)}, G.F a = some (.frz o (.dK kvs)) → TyX X.K H (.ref a) (.type "dict") := fun {a o kvs} hq => .fDict (w.F _ _ hq)
  unfold tyOf at e
  cases r with
  | non => cases e; exact ⟨.base .non, by simp⟩
  | bl b => cases e; exact ⟨.base (.bl b), by simp⟩
  | int b => cases e; exact ⟨.base (.int b), by simp⟩
  | str b => cases e; exact ⟨.base (.str b), by simp⟩
  | ty b => cases e
  | @tup xs a vs ha rs => cases e; exact ⟨tupX (SqT.of ha), by simp⟩
  | @lst xs a vs ha rs => cases e; exact ⟨.base (.lst (w.F _ _ ha)), by simp⟩
  | obj _ _ _ => cases e
  | dctK _ _ => cases e
  | dctT _ _ => cases e
  | scr _ => cases e
  | ctp _ => cases e
  | @cell n a hm =>
    have eq : Sim.der h (.cell n) = (match h[n]? with | some (.lst xs) => .lst xs | some (.frz v) => v | _ => .cell n) := rfl
    rw [eq] at e
    cases hn : h[n]? with
    | none => rw [hn] at e; cases e
    | some c =>
      rw [hn] at e
      cases c with
      | lst ys =>
        cases e
        obtain ⟨b, vs, h1, h2, hz, h3, h4⟩ := w.cells n _ hn
        rw [hm] at h1
        cases h1
        exact ⟨.base (.lst h3), by simp⟩
      | frz u =>
        obtain ⟨b, o, h1, h2, h3⟩ := w.cells n _ hn
        rw [hm] at h1
        cases h1
        dsimp only at e
        cases u with
        | tup ys => cases e; cases h3 with | @tup _ _ vs ha rs => exact ⟨tupX (SqT.of ha), by simp⟩
        | lst ys => cases e; cases h3 with | @lst _ _ vs ha rs => exact ⟨.base (.lst (w.F _ _ ha)), by simp⟩
        | non => cases h3
        | bl _ => cases h3
        | int _ => cases h3
        | str _ => cases h3
        | ty _ => cases h3
        | _ => cases e
      | dct kvs => cases e
      | ins c fs => cases e
theorem kitAny_of {K : PySem.W.Frag} {a : String} (ha : a ∈ ["NoneType", "bool", "int", "str", "tuple", "list", "dict"]) : ∀ {cs : List AV} {bs : List String}, tys? cs = some bs → PySem.W.kitAny K (.type a) (bs.map Value.type) = some (bs.any (isTy a))
  | [], bs, e => by cases e; rfl
  | .ty n :: r, bs, e => by
    unfold tys? at e
    split at e
    · rename_i hk
      cases e2 : tys? r with
      | none => rw [e2] at e; cases e
      | some b2 =>
        rw [e2] at e
        cases e
        have h1 : PySem.W.kitOne K (.type a) (.type n) = some (isTy a n) := kit_ty (kitT a n ha hk)
        exact kitAny_cons h1 (fun hf => by rw [kitAny_of ha e2, List.any_cons, hf, Bool.false_or]) (fun ht => by rw [List.any_cons, ht, Bool.true_or])
    · cases e
  | .non :: _, _, e => by cases e
  | .bl _ :: _, _, e => by cases e
  | .str _ :: _, _, e => by cases e
  | .int _ :: _, _, e => by cases e
  | .tup _ :: _, _, e => by cases e
  | .lst _ :: _, _, e => by cases e
  | .dct _ :: _, _, e => by cases e
  | .obj _ _ :: _, _, e => by cases e
  | .scr _ :: _, _, e => by cases e
  | .ctp _ :: _, _, e => by cases e
  | .cell _ :: _, _, e => by cases e
theorem Rs.tys {G : Gh} : ∀ {cs : List AV} {bs : List String} {vs : List V}, tys? cs = some bs → Rs X.K X.mg G cs vs → vs = bs.map V.ty ∧ Paired ClsV vs (bs.map Value.type)
  | [], bs, _, e, .nil => by cases e; exact ⟨rfl, .nil⟩
  | .ty n :: r, bs, _, e, .cons r1 t => by
    unfold tys? at e
    split at e
    · cases e2 : tys? r with
      | none => rw [e2] at e; cases e
      | some b2 =>
        rw [e2] at e
        cases e
        obtain ⟨h1, h2⟩ := Rs.tys e2 t
        cases r1
        exact ⟨by rw [h1]; rfl, .cons (.ty n) h2⟩
    · cases e
  | .non :: _, _, _, e, _ => by cases e
  | .bl _ :: _, _, _, e, _ => by cases e
  | .str _ :: _, _, _, e, _ => by cases e
  | .int _ :: _, _, _, e, _ => by cases e
  | .tup _ :: _, _, _, e, _ => by cases e
  | .lst _ :: _, _, _, e, _ => by cases e
  | .dct _ :: _, _, _, e, _ => by cases e
  | .obj _ _ :: _, _, _, e, _ => by cases e
  | .scr _ :: _, _, _, e, _ => by cases e
  | .ctp _ :: _, _, _, e, _ => by cases e
  | .cell _ :: _, _, _, e, _ => by cases e
/-- a tuple just made, not of the written part -/
theorem call_isiTG : CallR X (.builtin "isinstance") (fun xs H Q => ∃ (x : V) (tp : Addr) (cs : List V) (t : Value) (us : List Value) (b : Bool), xs = [x, .ref tp] ∧ SqT X.K H tp cs ∧ Paired ClsV cs us ∧ TyX X.K H x t ∧ PySem.W.kitAny X.K t us = some b ∧ Q (.bl b) H) := by
  intro pins s σ H xs us Q I r ⟨x, tp, cs, t, ws, b, ex, hS, k, ty, e, q⟩
  subst ex
  obtain ⟨u1, u2, rfl, r1, r2⟩ := vals2 r
  cases (show u2 = Value.ref tp from r2)
  obtain ⟨P, Z, p, hx⟩ := kit_of I r1 ty
  obtain ⟨its, rv, ⟨o, h1, h2, n, h3⟩, _⟩ := I.tuple hS
  have e3 := ClsV.all k rv
  subst e3
  obtain ⟨oc, od, dt, sl⟩ := o
  simp only at h2 h3
  subst h2 h3
  exact PySem.W.kia_tup Z I.kIn p h1 e hx fun tk => ⟨.bl b, H, I.tok tk, rfl, q⟩
theorem call_isiA : CallR X (.builtin "isinstance") (rN X.K X.mg isiA) := by
  intro pins s σ H xs us Q I r ⟨G, h, as, c, w, rs, e, q⟩
  unfold isiA at e
  split at e
  · rename_i x b
    cases rs with
    | cons rx t =>
      cases t with
      | cons rb t =>
        cases t
        cases rb
        cases e1 : tyOf h x with
        | none => rw [e1] at e; cases e
        | some a =>
          rw [e1] at e
          have e' : (if known b = true then some (AV.bl (isTy a b)) else none) = some c := e
          split at e'
          · rename_i hk
            cases e'
            obtain ⟨t1, t2⟩ := rx.tyx w e1
            exact call_isi pins s σ H _ us Q I r ⟨_, _, _, _, _, rfl, .ty b, t1, kit_ty (kitT a b t2 hk), q G H _ (.refl G) w (.bl _)⟩
          · cases e'
  · rename_i x cs
    cases rs with
    | cons rx t =>
      cases t with
      | cons rb t =>
        cases t
        cases rb with
        | @tup _ tp vs ha rr =>
          cases e1 : tyOf h x with
          | none => rw [e1] at e; cases e
          | some a =>
            rw [e1] at e
            cases e2 : tys? cs with
            | none => rw [e2] at e; cases e
            | some bs =>
              rw [e2] at e
              have e' : c = .bl (bs.any (isTy a)) := (Option.some.inj e).symm
              subst e'
              obtain ⟨t1, t2⟩ := rx.tyx w e1
              obtain ⟨v1, v2⟩ := Rs.tys e2 rr
              exact call_isiTG pins s σ H _ us Q I r ⟨_, tp, vs, _, _, _, rfl, sameT w.F (SqT.of ha), v2, t1, kitAny_of t2 e2, q G H _ (.refl G) w (.bl _)⟩
  · cases e
/-- a built-in type's name -/
theorem se_tyn {x : Str} {T : String} (hm : X.mg x = none) (hv : bootBuiltins x = some (.type T)) (hg : Gl X x := by rfl) (hn : x ≠ "__name__" := by decide) (hd : (x == ("__debug__" : Str)) = false := by decide) : SE X W (.Name x pos) (mC (.ty T)) :=
  se_c (pe_bltn (v := .ty T) hg hm hv rfl hn hd) fun _ => .ty T

/-! ### x.bit_length() -/
def bitsA (_ : Hs) (x : AV) : Option AV := (int? x).map fun i => .int (Builtin.Int.intBits i : Nat)
theorem se_bits {o : Expr} {apos : Pos} (ho : SE X W o m) (hbase : attributeBase o "bit_length" X.env (eval o X.env) = eval o X.env := by rfl) (hline : (apos.endLine == pos.line) = true := by rfl) : SE X W (.Call (.Attribute o "bit_length" apos) [] [] pos) (m1 bitsA m) := by
  refine ⟨(pe_bits ho.pe hbase hline).weak fun σ H Q ⟨G, h, env, w, re, p⟩ => ⟨G, h, env, w, re, post_bnd p fun a h1 G1 H1 x l1 w1 ra p1 => ?_⟩⟩
  obtain ⟨c, e, q⟩ := post_rd p1
  unfold bitsA at e
  cases e1 : int? a with
  | none => rw [e1] at e; cases e
  | some i =>
    rw [e1] at e
    cases e
    have := int_of e1
    subst this
    cases ra
    exact ⟨i, rfl, q G1 H1 _ (.refl G1) w1 (.int _)⟩

/-! ### functions that make a new list -/
def rF (K : PySem.W.Frag) (mg : Str → Option Value) (g : Hs → List AV → Option (List AV)) : List V → Hp → VK → Prop := fun vs H Q => ∃ G h as xs, WI K mg G h H ∧ Rs K mg G as vs ∧ g h as = some xs ∧
  ∀ G' H' p ws, G.le G' → WI K mg G' h H' → H' p = none → Rs K mg G' xs ws → Q (.ref p) (upd H' p (.lst ws))
def mNL (g : Hs → List AV → Option (List AV)) (as : EM (List AV)) : EM (List AV) := fun env => (as env).bnd fun x => rd fun h => g h x
variable {es : List Expr} {as : EM (List AV)}
theorem postSF {m : EM (List AV)} {σ : L2.St} {Q : VK} {G : Gh} {h : Hs} {env : AEnv} (p : match m env h with
  | .ok xs h' => ∀ G' H' p vs, G.le G' → WI X.K X.mg G' h' H' → H' p = none → Rs X.K X.mg G' xs vs → Q (.ref p) (upd H' p (.lst vs))
  | .exc c fs h' => ∀ G' H' cls d, G.le G' → WI X.K X.mg G' h' H' → XR X.K X.mg G' c fs cls d → W cls d σ H'
  | .bad => False) : post X W (Rs X.K X.mg) G σ (fun vs H => ∀ p, H p = none → Q (.ref p) (upd H p (.lst vs))) (m env h) := by
  cases e : m env h with
  | ok xs h' => rw [e] at p; exact fun G' H' vs l w r a ha => p G' H' a vs l w ha r
  | exc c fs h' => rw [e] at p; exact p
  | bad => rw [e] at p; exact p
theorem sf_callB {x : Str} {p : Pos} {id : String} {g : Hs → List AV → Option (List AV)} (hc : CallR X (.builtin id) (rF X.K X.mg g)) (hm : X.mg x = none) (hv : bootBuiltins x = some (.builtin id)) (ha : SA X W (e :: es) as) (hg : Gl X x := by rfl)
    (hn : x ≠ "__name__" := by decide) (hdb : (x == ("__debug__" : Str)) = false := by decide) (he : starEach (e :: es) X.env = (false, eval e X.env) :: starEach es X.env := by rfl) (hpl : (backTo pos (starEach es X.env)).any (·.1) = false := by rfl) :
    SF X W (.Call (.Name x p) (e :: es) [] pos) (mNL g as) := by
  refine ⟨(pe_callB hc hg hm hv ha.pa hn hdb he hpl).weak fun σ H Q ⟨G, h, env, w, re, p⟩ => ⟨G, h, env, w, re, post_bnd (postSF p) fun xs h1 G1 H1 vs l1 w1 rs p1 => ?_⟩⟩
  obtain ⟨c, e, q⟩ := post_rd p1
  exact ⟨G1, h1, xs, c, w1, rs, e, fun G' H' p ws l w ha r => q G' H' ws l w r p ha⟩
theorem sf_callTy {x : Str} {p : Pos} {T : String} {g : Hs → List AV → Option (List AV)} (hc : CallR X (.type T) (rF X.K X.mg g)) (hm : X.mg x = none) (hv : bootBuiltins x = some (.type T)) (ha : SA X W (e :: es) as) (hg : Gl X x := by rfl)
    (hn : x ≠ "__name__" := by decide) (hdb : (x == ("__debug__" : Str)) = false := by decide) (he : starEach (e :: es) X.env = (false, eval e X.env) :: starEach es X.env := by rfl) (hpl : (backTo pos (starEach es X.env)).any (·.1) = false := by rfl) :
    SF X W (.Call (.Name x p) (e :: es) [] pos) (mNL g as) := by
  refine ⟨(pe_callTy hc hg hm hv ha.pa hn hdb he hpl).weak fun σ H Q ⟨G, h, env, w, re, p⟩ => ⟨G, h, env, w, re, post_bnd (postSF p) fun xs h1 G1 H1 vs l1 w1 rs p1 => ?_⟩⟩
  obtain ⟨c, e, q⟩ := post_rd p1
  exact ⟨G1, h1, xs, c, w1, rs, e, fun G' H' p ws l w ha r => q G' H' ws l w r p ha⟩
def listA (h : Hs) (xs : List AV) : Option (List AV) := match xs with
  | [x] => seqOf h x
  | _ => none
theorem call_listA : CallR X (.type "list") (rF X.K X.mg listA) := by
  intro pins s σ H xs us Q I r ⟨G, h, as, c, w, rs, e, q⟩
  unfold listA at e
  split at e
  · cases rs with
    | cons r1 t =>
      cases t
      obtain ⟨p, vs, rfl, rr, hq⟩ := r1.seq w e
      exact call_list_of pins s σ H _ us Q I r ⟨p, vs, rfl, hq.imp (fun z => .inl (.inl z.2)) (fun z => sameT w.F (SqT.of z.2)), fun l hl => q G H l vs (.refl G) w hl rr⟩
  · cases e
def rgOk (a b : Int) : Bool := inR a && inR b && decide ((b - a).toNat ≤ 2 ^ 24)
def mListRg1 (m : EM AV) : EM (List AV) := fun env => (m env).bnd fun x => rd fun _ => (int? x).bind fun j => if rgOk 0 j = true then some (rngL 0 j) else none
def mListRg2 (m m2 : EM AV) : EM (List AV) := fun env => (m env).bnd fun x => (m2 env).bnd fun y => rd fun _ => (int? x).bind fun i => (int? y).bind fun j => if rgOk i j = true then some (rngL i j) else none
theorem rgOk_of {a b : Int} (h : rgOk a b = true) : RgOk a b := by
  unfold rgOk at h
  rw [Bool.and_eq_true, Bool.and_eq_true] at h
  obtain ⟨⟨h1, h2⟩, h3⟩ := h
  obtain ⟨a1, a2⟩ := inR_of h1
  obtain ⟨b1, b2⟩ := inR_of h2
  exact ⟨a1, a2, b1, b2, of_decide_eq_true h3⟩
end
end Sim

set_option Elab.async false
set_option linter.all false
set_option maxRecDepth 100000
set_option maxHeartbeats 2000000
namespace SrtT
open PySem PyProof.Rows SrtO L2
/-- v is a tuple of these ints -/
def TI (h : Heap) (v : Value) (ns : List Int) : Prop := ∃ a items, v = .ref a ∧ IsTup h a items ∧ IntsAre items.toList ns
theorem TI.keeps {h h' : Heap} {v : Value} {ns : List Int} (x : TI h v ns) (k : ∀ b o, h.get? b = some o → o.cls = .type "tuple" → h'.get? b = some o) : TI h' v ns := by
  obtain ⟨a, items, e, ⟨o, h1, h2, n, h3⟩, i⟩ := x
  exact ⟨a, items, e, ⟨o, k a o h1 h2, h2, n, h3⟩, i⟩
section
variable {prog : Program} {w : World} {A : Around} {E : Value → Shared → Prop} {s : Shared}
theorem lex_walk {b : Bool} {xs ys : List Value} {ns ms : List Int} (i : Nat) (hx : IntsAre xs ns) (hy : IntsAre ys ms) {Q : Bool → Shared → Prop} {fin : Bool} (hf : ∀ k, ns.take k = ms.take k → (k = ns.length ∨ k = ms.length) → fin = HT.lexLt (ns.drop k) (ms.drop k))
    (h : Q (HT.lexLt ns ms) s) : PySem.W.KatLex prog w A b fin Q (xs.zip ys) i s := by
  induction hx generalizing ys ms i with
  | nil =>
    rw [List.zip_nil_left]
    have e := hf 0 rfl (.inl rfl)
    refine PySem.W.kat_nil ?_
    rw [e]
    exact h
  | @cons n t vs ns' hv ih =>
    cases hy with
    | nil =>
      rw [List.zip_nil_right]
      have e := hf 0 rfl (.inr rfl)
      refine PySem.W.kat_nil ?_
      rw [e]
      exact h
    | @cons m u ws ms' hw =>
      rw [List.zip_cons_cons]
      refine PySem.W.kat_cons (SeqAt.EqAt.int_int n t m u prog w _ _ ?_)
      refine PySem.W.kat_go (fun e1 => ?_) (fun e1 => ?_)
      · have ex : n = m := by simpa using e1
        subst ex
        refine PySem.W.kat_yes (ih (i + 1) hw (fun k hk hl => ?_) ?_)
        · have q := hf (k + 1) (by rw [List.take_succ_cons, List.take_succ_cons, hk]) (by simpa using hl)
          rw [q, List.drop_succ_cons, List.drop_succ_cons]
        · rw [HT.lexLt_cons, if_pos rfl] at h
          exact h
      · have ex : ¬ n = m := by simpa using e1
        rw [HT.lexLt_cons, if_neg ex] at h
        exact PySem.W.kat_no (TS.oneLt_ints _ h)
theorem fin_ok {ns ms : List Int} {a b : Nat} (ha : a = ns.length) (hb : b = ms.length) : ∀ k, ns.take k = ms.take k → (k = ns.length ∨ k = ms.length) → decide (a < b) = HT.lexLt (ns.drop k) (ms.drop k) := by
  intro k hk hl
  subst ha hb
  have h1 : (ns.take k).length = (ms.take k).length := by rw [hk]
  rw [List.length_take, List.length_take] at h1
  rcases hl with hl | hl
  · have e1 : ns.drop k = [] := List.drop_eq_nil_of_le (by omega)
    rw [e1]
    cases e2 : ms.drop k with
    | nil =>
      have : ms.length ≤ k := List.drop_eq_nil_iff.mp e2
      rw [HT.lexLt_nil_nil]
      exact decide_eq_false (by omega)
    | cons m r =>
      have : ¬ ms.length ≤ k := fun q => by rw [List.drop_eq_nil_of_le q] at e2; cases e2
      rw [HT.lexLt_nil_cons]
      exact decide_eq_true (by omega)
  · have e1 : ms.drop k = [] := List.drop_eq_nil_of_le (by omega)
    rw [e1]
    cases e2 : ns.drop k with
    | nil =>
      have : ns.length ≤ k := List.drop_eq_nil_iff.mp e2
      rw [HT.lexLt_nil_nil]
      exact decide_eq_false (by omega)
    | cons m r =>
      have : ¬ ns.length ≤ k := fun q => by rw [List.drop_eq_nil_of_le q] at e2; cases e2
      rw [HT.lexLt_cons_nil]
      exact decide_eq_false (by omega)
theorem lt_tuples {b : Bool} {v u : Value} {ns ms : List Int} {Q : Bool → Shared → Prop} (hv : TI s.heap v ns) (hu : TI s.heap u ms) (h : Q (HT.lexLt ns ms) s) : wpAny (model prog w) A (keyLt' (tuples' b) v u) Q E s := by
  obtain ⟨a, xs, rfl, ⟨o, h1, h2, n, h3⟩, i1⟩ := hv
  obtain ⟨c, ys, rfl, ⟨o', h1', h2', n', h3'⟩, i2⟩ := hu
  refine PySem.W.kat_lt h1 h3 h1' h3' ?_
  exact lex_walk 0 i1 i2 (fin_ok (by rw [← i1.length]; simp) (by rw [← i2.length]; simp)) h
theorem lt_general {v u : Value} {ns ms : List Int} {Q : Bool → Shared → Prop} (hc : A.units < cLine) (hv : TI s.heap v ns) (hu : TI s.heap u ms) (h : Q (HT.lexLt ns ms) s) : wpAny (model prog w) A (keyLt' general' v u) Q E s := by
  obtain ⟨a, xs, rfl, t1, i1⟩ := hv
  obtain ⟨c, ys, rfl, t2, i2⟩ := hu
  exact PySem.W.kat_one _ _ (HT.lt_tupInts (Q := PySem.W.BoolBack Q) t1 t2 i1 i2 hc h)
theorem lt_oneType {v u : Value} {ns ms : List Int} {Q : Bool → Shared → Prop} (hc : A.units < cLine) (hv : TI s.heap v ns) (hu : TI s.heap u ms) (h : Q (HT.lexLt ns ms) s) : wpAny (model prog w) A (keyLt' oneType' v u) Q E s := by
  obtain ⟨a, xs, rfl, t1, i1⟩ := hv
  obtain ⟨c, ys, rfl, t2, i2⟩ := hu
  obtain ⟨⟨cls, dd, data, sl⟩, ho, hc1, n, hd⟩ := id t1
  obtain ⟨⟨cls2, dd2, data2, sl2⟩, ho2, hc2, n2, hd2⟩ := id t2
  simp only at hc1 hd hc2 hd2
  subst hc1 hd hc2 hd2
  rw [keyLt'_oneType, oneLt'_eq]
  simp only [if_true]
  refine wpAny_bind (wpAny_cRoomFor hc ?_)
  refine wpAny_bind (wpAny_callSpecialIfBound?_slot (T := "tuple") (name := "__lt__") ⟨_, ho, rfl⟩ PySem.F.slot_tuple_lt (call_meets PySem.F.slot_tuple_lt ⟨_, ho, rfl⟩ PySem.F.entry_tuple_lt (PySem.F.args_tuple_lt_2 _ _) (HT.tuple_lt_ints a c xs ys n n2 dd dd2 sl sl2 ns ms i1 i2) ⟨ho, ho2, ?_⟩))
  exact wpAny_truthy_bool h
/-- the firsts of tuples of ints -/
theorem firsts_tup : ∀ (vs : List Value) (k : Value → List Int) {M : Model} {Q : List (Option Value) → Shared → Prop}, (∀ v ∈ vs, TI s.heap v (k v)) →
    (∀ fs : List (Option Value), fs.length = vs.length → (∀ (i : Nat) (v : Value), vs[i]? = some v → ∃ f, fs[i]? = some f ∧ ((k v = [] ∧ f = none) ∨ ∃ x t, f = some (.int x t) ∧ k v ≠ [])) → Q fs s) → wpAny M A (vs.mapM firstOfTuple') Q E s
  | [], k, M, Q, _, h => by rw [List.mapM_nil]; exact wpAny_pure (h [] rfl fun i v e => by simp at e)
  | v :: vs, k, M, Q, hv, h => by
    obtain ⟨a, items, e, ⟨o, h1, h2, n, h3⟩, hi⟩ := hv v List.mem_cons_self
    rw [List.mapM_cons]
    refine wpAny_bind ?_
    rw [PySem.W.kas_first_eq, e]
    refine wpAny_bind (PySem.W.Looks.here (show PySem.W.Looks M s.heap (typeOf (.ref a)) o.cls from (PySem.W.Looks.ld h1).andThen .now) ?_)
    rw [h2, if_neg (by first | decide | simp)]
    refine wpAny_bind (listItems_at h1 h3 (wpAny_pure ?_))
    refine wpAny_bind (firsts_tup vs k (fun u hu => hv u (List.mem_cons_of_mem _ hu)) fun fs hl hf => wpAny_pure (h _ (by simp [hl]) fun i u eu => ?_))
    cases i with
    | zero =>
      simp at eu
      subst eu
      refine ⟨_, rfl, ?_⟩
      obtain ⟨l⟩ := items
      generalize k v = ns at hi
      cases hi with
      | nil => exact .inl ⟨rfl, rfl⟩
      | @cons x t _ _ _ => exact .inr ⟨x, t, rfl, by simp⟩
    | succ i =>
      obtain ⟨f, h4, h5⟩ := hf i u (by simpa using eu)
      exact ⟨f, by simpa using h4, h5⟩
open Classical in
/-- the kind that a run over such keys finds -/
noncomputable def kindT (k : Value → List Int) (vs : List Value) : SortKind := if ∀ v ∈ vs, k v ≠ [] then tuples' true else match vs with
  | v :: _ => if k v = [] then oneType' else general'
  | [] => general'
theorem tup_kind {vs : List Value} {k : Value → List Int} {M : Model} {Q : SortKind → Shared → Prop} (h2 : 2 ≤ vs.length) (hv : ∀ v ∈ vs, TI s.heap v (k v)) (hQ : Q (kindT k vs) s) : wpAny M A (keyKind' vs.toArray) Q E s := by
  rw [keyKind'_eq, List.mapM_toArray, map_eq_pure_bind]
  refine wpAny_bind (wpAny_bind (firsts_tup vs k hv fun fs hl hf => wpAny_pure ?_))
  by_cases hne : ∀ v ∈ vs, k v ≠ []
  · have hfi : ∀ f ∈ fs, ∃ x t, f = some (Value.int x t) := fun f hm => by
      obtain ⟨i, hi, he⟩ := List.getElem_of_mem hm
      have hvi : i < vs.length := by omega
      obtain ⟨f', h4, h5⟩ := hf i vs[i] (List.getElem?_eq_getElem hvi)
      rw [List.getElem?_eq_getElem hi] at h4
      have e4 : f = f' := by rw [← he]; exact Option.some.inj h4
      subst e4
      rcases h5 with ⟨h5, _⟩ | ⟨x, t, h5, _⟩
      · exact absurd h5 (hne _ (List.getElem_mem hvi))
      · exact ⟨x, t, h5⟩
    obtain ⟨ts, hts, hk⟩ : ∃ ts : List Value, fs = ts.map some ∧ ∀ f ∈ ts, ∃ x t, f = Value.int x t := by
      clear hf hl
      induction fs with
      | nil => exact ⟨[], rfl, fun f hm => by cases hm⟩
      | cons f fs ih =>
        obtain ⟨ts, h6, h7⟩ := ih fun f hm => hfi f (List.mem_cons_of_mem _ hm)
        obtain ⟨x, t, h8⟩ := hfi f List.mem_cons_self
        refine ⟨.int x t :: ts, by rw [h6, h8]; rfl, fun g hg => ?_⟩
        rcases List.mem_cons.mp hg with rfl | hg
        · exact ⟨x, t, rfl⟩
        · exact h7 g hg
    subst hts
    have hall : (((ts.map some).toArray.all (·.isSome))) = true := by simp
    rw [if_pos hall]
    refine wpAny_bind (wpAny_rule ?_)
    have hfm : ((ts.map some).toArray.filterMap id) = ts.toArray := by simp
    rw [hfm, oneTypeOnly'_eq, List.mapM_toArray, map_eq_pure_bind]
    refine wpAny_bind (wpAny_bind (wpAny_bind (PySem.W.kas_mapM (r := Value.type "int") _ (fun f hm Q' hq => ?_) (wpAny_pure ?_))))
    · obtain ⟨x, t, rfl⟩ := hk f hm
      exact (PySem.W.Looks.now (M := M) (h := s.heap)).here hq
    · cases ts with
      | nil =>
        rw [List.length_map] at hl
        simp at hl
        omega
      | cons f ts =>
        have h0 : (List.map (fun _ => Value.type "int") (f :: ts)).toArray[0]? = some (Value.type "int") := by simp
        have hall2 : ((List.map (fun _ => Value.type "int") (f :: ts)).toArray.all fun x => x == Value.type "int") = true := by
          simp only [List.all_toArray, List.all_map, List.all_eq_true]
          intro _ _
          rfl
        rw [h0]
        dsimp only
        rw [if_pos hall2]
        have e : kindT k vs = tuples' true := by unfold kindT; rw [if_pos hne]
        rw [e] at hQ
        exact wpAny_pure (wpAny_pure hQ)
  · have hall : ¬ (fs.toArray.all (·.isSome)) = true := fun hall => hne fun v hm => by
      have hall' : ∀ f ∈ fs, f.isSome = true := by simpa using hall
      obtain ⟨i, hi, he⟩ := List.getElem_of_mem hm
      obtain ⟨f', h4, h5⟩ := hf i v (by rw [List.getElem?_eq_getElem hi, he])
      rcases h5 with ⟨_, h5⟩ | ⟨x, t, _, h6⟩
      · have := hall' f' (List.mem_of_getElem? h4)
        rw [h5] at this; cases this
      · exact h6
    rw [if_neg hall]
    cases vs with
    | nil => simp at h2
    | cons v0 rest =>
      obtain ⟨f0, h4, h5⟩ := hf 0 v0 rfl
      have hz : fs.toArray[0]? = some f0 := by simpa using h4
      rw [hz]
      rcases h5 with ⟨h5, h6⟩ | ⟨x, t, h5, h6⟩
      · subst h6
        rw [if_neg (by simp)]
        rw [oneTypeOnly'_eq, List.mapM_toArray, map_eq_pure_bind]
        refine wpAny_bind (wpAny_bind (wpAny_bind (PySem.W.kas_mapM (r := Value.type "tuple") _ (fun f hm Q' hq => ?_) (wpAny_pure ?_))))
        · obtain ⟨a, items, rfl, ⟨o, g1, g2, n, g3⟩, hi⟩ := hv f hm
          exact (show PySem.W.Looks M s.heap (typeOf (.ref a)) (.type "tuple") from by rw [← g2]; exact (PySem.W.Looks.ld g1).andThen .now).here hq
        · have h0 : (List.map (fun _ => Value.type "tuple") (v0 :: rest)).toArray[0]? = some (Value.type "tuple") := by simp
          have hall2 : ((List.map (fun _ => Value.type "tuple") (v0 :: rest)).toArray.all fun x => x == Value.type "tuple") = true := by
            simp only [List.all_toArray, List.all_map, List.all_eq_true]
            intro _ _
            rfl
          rw [h0]
          dsimp only
          rw [if_pos hall2]
          have e : kindT k (v0 :: rest) = oneType' := by unfold kindT; rw [if_neg hne]; dsimp only; rw [if_pos h5]
          rw [e] at hQ
          exact wpAny_pure (wpAny_pure hQ)
      · subst h5
        rw [if_pos (by simp)]
        have e : kindT k (v0 :: rest) = general' := by unfold kindT; rw [if_neg hne]; dsimp only; rw [if_neg h6]
        rw [e] at hQ
        exact wpAny_pure hQ
theorem lt_kind {v u : Value} {ns ms : List Int} {Q : Bool → Shared → Prop} {k : Value → List Int} {vs : List Value} (hc : A.units < cLine) (hv : TI s.heap v ns) (hu : TI s.heap u ms) (h : Q (HT.lexLt ns ms) s) : wpAny (model prog w) A (keyLt' (kindT k vs) v u) Q E s := by
  unfold kindT
  split
  · exact lt_tuples hv hu h
  · split
    · split
      · exact lt_oneType hc hv hu h
      · exact lt_general hc hv hu h
    · exact lt_general hc hv hu h
theorem tups_sortable {a : Addr} {vs : List Value} {k : Value → List Int} (h2 : 2 ≤ vs.length) (hu : A.units < cLine) (hv : ∀ v ∈ vs, TI s.heap v (k v)) (ha : ∀ o, s.heap.get? a = some o → o.cls ≠ .type "tuple") : SortableO prog w A s a vs fun v u => HT.lexLt (k v) (k u) := by
  intro h' keep
  have hv' : ∀ v ∈ vs, TI h' v (k v) := fun v hm => (hv v hm).keeps fun b o e c => keep b o (fun z => by subst z; exact ha o e c) e
  refine ⟨kindT k vs, fun Q E hq => tup_kind (s := { s with heap := h' }) h2 hv' hq, fun p q hp hq => ?_⟩
  exact lt_kind (s := { s with heap := h' }) (Q := fun r s' => s' = { s with heap := h' } ∧ r = HT.lexLt (k p.1) (k q.1)) hu (hv' p.1 hp) (hv' q.1 hq) ⟨rfl, rfl⟩
end
end SrtT

set_option Elab.async false
set_option linter.all false
set_option maxRecDepth 100000
set_option maxHeartbeats 2000000
namespace Sim
open PySem PySem.Spec L2
open PyProof.Rows hiding St
variable [TabT]

/-! ### insertion sort, and that a sorted rearrangement is the only one -/
def ins {α : Type} (lt : α → α → Bool) (x : α) : List α → List α
  | [] => [x]
  | y :: r => if lt y x then y :: ins lt x r else x :: y :: r
def isort {α : Type} (lt : α → α → Bool) : List α → List α
  | [] => []
  | x :: r => ins lt x (isort lt r)
theorem ins_perm {α : Type} {lt : α → α → Bool} (x : α) : ∀ l : List α, (ins lt x l).Perm (x :: l)
  | [] => .refl _
  | y :: r => by
    unfold ins
    split
    · exact ((ins_perm x r).cons y).trans (.swap x y r)
    · exact .refl _
theorem isort_perm {α : Type} {lt : α → α → Bool} : ∀ l : List α, (isort lt l).Perm l
  | [] => .refl _
  | x :: r => (ins_perm x _).trans ((isort_perm r).cons x)
/-- a total order: who is neither below nor above is the same -/
structure Tot {α : Type} (lt : α → α → Bool) : Prop where
  asym : ∀ x y, lt x y = true → lt y x = false
  tr : ∀ x y z, lt y x = false → lt z y = false → lt z x = false
  eq : ∀ x y, lt x y = false → lt y x = false → x = y
abbrev Sd {α : Type} (lt : α → α → Bool) (l : List α) : Prop := l.Pairwise fun x y => lt y x = false
theorem ins_sd {α : Type} {lt : α → α → Bool} (O : Tot lt) (x : α) : ∀ l : List α, Sd lt l → Sd lt (ins lt x l)
  | [], _ => List.pairwise_singleton _ _
  | y :: r, h => by
    unfold ins
    obtain ⟨h1, h2⟩ := List.pairwise_cons.mp h
    split
    · rename_i hl
      refine List.pairwise_cons.mpr ⟨fun z hz => ?_, ins_sd O x r h2⟩
      rcases List.mem_cons.mp ((ins_perm x r).mem_iff.mp hz) with e | hz
      · rw [e]; exact O.asym _ _ hl
      · exact h1 z hz
    · rename_i hl
      have hl' : lt y x = false := by simpa using hl
      refine List.pairwise_cons.mpr ⟨fun z hz => ?_, h⟩
      rcases List.mem_cons.mp hz with e | hz
      · rw [e]; exact hl'
      · exact O.tr x y z hl' (h1 z hz)
theorem isort_sd {α : Type} {lt : α → α → Bool} (O : Tot lt) : ∀ l : List α, Sd lt (isort lt l)
  | [] => List.Pairwise.nil
  | x :: r => ins_sd O x _ (isort_sd O r)
theorem sd_unique {α : Type} {lt : α → α → Bool} (O : Tot lt) : ∀ {l m : List α}, l.Perm m → Sd lt l → Sd lt m → l = m
  | [], m, p, _, _ => by rw [p.nil_eq]
  | x :: l, m, p, h1, h2 => by
    cases m with
    | nil => exact absurd p.symm.nil_eq (by simp)
    | cons y m =>
      obtain ⟨a1, a2⟩ := List.pairwise_cons.mp h1
      obtain ⟨b1, b2⟩ := List.pairwise_cons.mp h2
      have e : x = y := by
        have hx : x ∈ y :: m := p.mem_iff.mp List.mem_cons_self
        have hy : y ∈ x :: l := p.mem_iff.mpr List.mem_cons_self
        rcases List.mem_cons.mp hx with e | hx
        · exact e
        · rcases List.mem_cons.mp hy with e | hy
          · exact e.symm
          · exact O.eq x y (b1 x hx) (a1 y hy)
      subst e
      rw [sd_unique O (List.Perm.cons_inv p) a2 b2]
theorem lexTot : Tot HT.lexLt := ⟨NtL.lex_asym, NtL.lex_tr, fun xs => by
  induction xs with
  | nil =>
    intro ys h1 h2
    cases ys with
    | nil => rfl
    | cons y ys => rw [HT.lexLt_nil_cons] at h1; cases h1
  | cons x xs ih =>
    intro ys h1 h2
    cases ys with
    | nil => rw [HT.lexLt_nil_cons] at h2; cases h2
    | cons y ys =>
      rw [HT.lexLt_cons] at h1 h2
      by_cases e : x = y
      · subst e
        rw [if_pos rfl] at h1 h2
        rw [ih ys h1 h2]
      · rw [if_neg e] at h1
        rw [if_neg (Ne.symm e)] at h2
        have a := of_decide_eq_false h1
        have b := of_decide_eq_false h2
        exact absurd (show x = y by omega) e⟩
def ltI (a b : Int) : Bool := decide (a < b)
theorem intTot : Tot ltI := ⟨fun x y h => by have := of_decide_eq_true h; exact decide_eq_false (by omega), fun x y z h1 h2 => by
  have a := of_decide_eq_false h1
  have b := of_decide_eq_false h2
  exact decide_eq_false (by omega), fun x y h1 h2 => by
  have a := of_decide_eq_false h1
  have b := of_decide_eq_false h2
  omega⟩

/-! ### sorted -/
/-- the tuples of ints that a list holds -/
def tups? : List AV → Option (List (List Int))
  | [] => some []
  | .tup xs :: r => (ints? xs).bind fun ns => (tups? r).map (ns :: ·)
  | _ :: _ => none
def tupA (ns : List Int) : AV := .tup (ns.map .int)
theorem tups_of : ∀ {xs : List AV} {nss : List (List Int)}, tups? xs = some nss → xs = nss.map tupA
  | [], nss, e => by cases e; rfl
  | .tup ys :: r, nss, e => by
    unfold tups? at e
    cases e1 : ints? ys with
    | none => rw [e1] at e; cases e
    | some ns =>
      rw [e1] at e
      have e' : ((tups? r).map (ns :: ·)) = some nss := e
      cases e2 : tups? r with
      | none => rw [e2] at e'; cases e'
      | some ms => rw [e2] at e'; cases e'; rw [tups_of e2, ints_of e1]; rfl
  | .non :: _, _, e => by cases e
  | .bl _ :: _, _, e => by cases e
  | .int _ :: _, _, e => by cases e
  | .str _ :: _, _, e => by cases e
  | .ty _ :: _, _, e => by cases e
  | .lst _ :: _, _, e => by cases e
  | .dct _ :: _, _, e => by cases e
  | .obj _ _ :: _, _, e => by cases e
  | .scr _ :: _, _, e => by cases e
  | .ctp _ :: _, _, e => by cases e
  | .cell _ :: _, _, e => by cases e
theorem tups_map : ∀ (nss : List (List Int)), tups? (nss.map tupA) = some nss
  | [] => rfl
  | n :: ns => by
    rw [List.map_cons]
    show ((ints? (n.map AV.int)).bind fun a => (tups? (ns.map tupA)).map (a :: ·)) = _
    rw [ints_map, tups_map ns] <;> rfl
def sortA (h : Hs) (xs : List AV) : Option (List AV) := match xs with
  | [x] => (lstOf h x).bind fun ys => match ints? ys with
    | some ns => some ((isort ltI ns).map .int)
    | none => (tups? ys).map fun nss => (isort HT.lexLt nss).map tupA
  | _ => none
section
variable {X : Cx} {W : WX} {k j : Nat}
open Classical in
noncomputable def keyOf (h : Heap) (v : Value) : List Int := if hh : ∃ ns, SrtT.TI h v ns then Classical.choose hh else []
theorem ti_inj {h : Heap} {v : Value} {ns ms : List Int} (a : SrtT.TI h v ns) (b : SrtT.TI h v ms) : ns = ms := by
  obtain ⟨p, xs, rfl, ⟨o, h1, h2, n, h3⟩, i1⟩ := a
  obtain ⟨q, ys, e, ⟨o', h1', h2', n', h3'⟩, i2⟩ := b
  cases e
  rw [h1] at h1'
  cases h1'
  rw [h3] at h3'
  cases h3'
  have : ∀ {us : List Value} {ns ms : List Int}, IntsAre us ns → IntsAre us ms → ns = ms := by
    intro us ns ms a
    induction a generalizing ms with
    | nil => intro b; cases b; rfl
    | cons n t _ ih => intro b; cases b with | cons _ _ b => rw [ih b]
  exact this i1 i2
theorem keyOf_eq {h : Heap} {v : Value} {ns : List Int} (a : SrtT.TI h v ns) : keyOf h v = ns := by
  unfold keyOf
  have hh : ∃ ns, SrtT.TI h v ns := ⟨ns, a⟩
  rw [dif_pos hh]
  exact ti_inj (Classical.choose_spec hh) a
/-- what is known of each of some tuples -/
theorem tups_raw {pins : List (Addr × Obj)} {s : Shared} {σ : L2.St} {H : Hp} {G : Gh} {h : Hs} (I : L2.Inv X pins σ H s) (w : WI X.K X.mg G h H) : ∀ {nss : List (List Int)} {vs : List V} {us : List Value}, Rs X.K X.mg G (nss.map tupA) vs → Vals vs us →
    us.map (keyOf s.heap) = nss ∧ (∀ u ∈ us, SrtT.TI s.heap u (keyOf s.heap u) ∧ ∃ a, u = .ref a ∧ R X.K X.mg G (tupA (keyOf s.heap u)) (.ref a))
  | [], _, _, .nil, .nil => ⟨rfl, fun u hu => by cases hu⟩
  | ns :: nss, _, _, .cons r t, .cons ru rt => by
    rename_i v vs u us
    obtain ⟨h1, h2⟩ := tups_raw I w t rt
    have r' := r
    unfold tupA at r
    cases r with
    | @tup _ a ws ha rs =>
      have iv := rs.ints
      subst iv
      cases ru
      obtain ⟨its, rv, it, hz⟩ := I.tuple (sameT w.F (SqT.of ha))
      have ti : SrtT.TI s.heap (.ref a) ns := ⟨a, its.toArray, rfl, it, by simpa using rv.ints⟩
      have ek := keyOf_eq ti
      refine ⟨by rw [List.map_cons, h1, ek], fun u hu => ?_⟩
      rcases List.mem_cons.mp hu with e | hu
      · subst e
        rw [ek]
        exact ⟨ti, a, rfl, r'⟩
      · exact h2 u hu
theorem rs_of_keys {G : Gh} {hp : Heap} : ∀ {us : List Value}, (∀ u ∈ us, ∃ a, u = .ref a ∧ R X.K X.mg G (tupA (keyOf hp u)) (.ref a)) → Rs X.K X.mg G ((us.map (keyOf hp)).map tupA) (us.map bkV)
  | [], _ => .nil
  | u :: us, h => by
    obtain ⟨a, e, r⟩ := h u List.mem_cons_self
    refine .cons ?_ (rs_of_keys fun u hu => h u (List.mem_cons_of_mem _ hu))
    rw [e] at r ⊢
    exact r
theorem call_sortT (hu : X.A.units + 64 < cLine) : CallR X (.builtin "sorted") (fun vs H Q => ∃ (G : Gh) (h : Hs) (nss : List (List Int)) (a : Addr) (ws : List V), WI X.K X.mg G h H ∧ Rs X.K X.mg G (nss.map tupA) ws ∧ vs = [.ref a] ∧ SqL X.K H a ws ∧
    ∀ G' H' p ws', G.le G' → WI X.K X.mg G' h H' → H' p = none → Rs X.K X.mg G' ((isort HT.lexLt nss).map tupA) ws' → Q (.ref p) (upd H' p (.lst ws'))) := by
  intro pins s σ H vs us Q I r ⟨G, h, nss, a, ws, w, rs, e, hs, q⟩
  subst e
  rw [Vals.ref1 r]
  obtain ⟨its, rv, hl, hz⟩ := I.list hs
  obtain ⟨t1, t2⟩ := tups_raw I w rs rv
  refine SrtO.sorted_ord (NtL.swo_lexL (keyOf s.heap)) hl.isList (by rw [← rv.length]; exact hz) (fun h2 h₁ a' ha' kk => ?_) fun out g1 g2 => ?_
  · refine SrtT.tups_sortable (s := { s with heap := h₁ }) h2 (by show X.A.units + 1 + 1 < cLine; omega) (fun v hv => (t2 v hv).1.keeps fun b o e _ => (kk b o e).2) fun o e => ?_
    have e' : some o = some (seqObj "list" its.toArray 0) := e.symm.trans ha'
    cases e'
    intro c
    exact absurd (Value.type.inj c) (by decide)
  · obtain ⟨ep, he'⟩ := PyProof.Rows.sortedAll_at s.heap its out.toArray
    have hmem : ∀ u ∈ out, ∃ a, u = Value.ref a ∧ R X.K X.mg G (tupA (keyOf s.heap u)) (.ref a) := fun u hu => (t2 u (g2.perm.mem_iff.mp hu)).2
    have hk : out.map (keyOf s.heap) = isort HT.lexLt nss := by
      refine sd_unique lexTot ?_ ?_ (isort_sd lexTot _)
      · refine (g2.perm.map _).trans ?_
        rw [t1]
        exact (isort_perm nss).symm
      · exact List.pairwise_map.mpr g1
    have rs' := rs_of_keys (X := X) (G := G) (hp := s.heap) hmem
    rw [hk] at rs'
    have hlen : (out.map bkV).length ≤ sizeLine := by
      rw [List.length_map, g2.perm.length_eq, ← rv.length]
      exact hz
    exact ⟨.ref _, upd H (s.heap.objs.size + 1) (.lst (out.map bkV)), I.laid (t' := s.toks) (fun _ _ => PyProof.Rows.sortedAll_old) (Nat.le_succ _) ⟨hlen, out, ep, bkV_vals (fun u hu => by obtain ⟨a, e, _⟩ := hmem u hu; exact ⟨a, e⟩), by exact he'⟩, rfl,
      q G H _ _ (.refl G) w (I.hok.fresh (Nat.le_succ _)) rs'⟩
theorem ints_tups {ns : List Int} {nss : List (List Int)} : ints? (nss.map tupA) = some ns → nss = [] := by
  cases nss with
  | nil => intro _; rfl
  | cons n r => intro e; rw [List.map_cons] at e; cases e
/-- sorted(x) of a list of ints, or of tuples of ints -/
theorem call_sortA (hu : X.A.units + 64 < cLine) : CallR X (.builtin "sorted") (rF X.K X.mg sortA) := by
  intro pins s σ H xs us Q I r ⟨G, h, as, c, w, rs, e, q⟩
  unfold sortA at e
  split at e
  · rename_i x
    cases e1 : lstOf h x with
    | none => rw [e1] at e; cases e
    | some ys =>
      rw [e1] at e
      cases rs with
      | cons r1 t =>
        cases t
        obtain ⟨p, vs, rfl, rr, hq⟩ := r1.lstOf w e1
        · have hq' : SqL X.K H p vs := .inl (.inl hq)
          cases e2 : ints? ys with
          | some ns =>
            have e' : some ((isort ltI ns).map AV.int) = some c := by
              have q2 : (match ints? ys with | some ns => some ((isort ltI ns).map AV.int) | none => (tups? ys).map fun nss => (isort HT.lexLt nss).map tupA) = some c := e
              rw [e2] at q2
              exact q2
            cases e'
            have ey := ints_of e2
            subst ey
            have iv := rr.ints
            subst iv
            refine cr_sortedI pins s σ H _ us Q I r ⟨p, ns, rfl, hq', fun ns' p2 g1 g2 g3 => ?_⟩
            have ek : ns' = isort ltI ns := sd_unique intTot (g1.trans (isort_perm ns).symm) (g2.imp fun h => decide_eq_false (by omega)) (isort_sd intTot _)
            rw [ek]
            exact q G H p2 _ (.refl G) w g3 (Rs.of_ints _)
          | none =>
            have e' : (tups? ys).map (fun nss => (isort HT.lexLt nss).map tupA) = some c := by
              have q2 : (match ints? ys with | some ns => some ((isort ltI ns).map AV.int) | none => (tups? ys).map fun nss => (isort HT.lexLt nss).map tupA) = some c := e
              rw [e2] at q2
              exact q2
            cases e3 : tups? ys with
            | none => rw [e3] at e'; cases e'
            | some nss =>
              rw [e3] at e'
              cases e'
              have ey := tups_of e3
              subst ey
              exact call_sortT hu pins s σ H _ us Q I r ⟨G, h, nss, p, vs, w, rr, rfl, hq', q⟩
  · cases e
end
end Sim

set_option Elab.async false
set_option linter.all false
set_option maxRecDepth 100000
set_option maxHeartbeats 2000000
namespace Sim
open PySem PySem.Spec L2
open PyProof.Rows hiding St
variable [TabT]
/-! ### raise X() -/
abbrev veIn (K : PySem.W.Frag) (C : Addr) : Bool := PySem.W.excIn K C [.type "ValueError", .type "Exception", .type "BaseException", .type "object"] "ValueError.__new__"
structure ExF (K : PySem.W.Frag) (mg : Str → Option Value) (x : Str) (C : Addr) : Prop where
  g : mg x = some (.ref C)
  q : veIn K C = true
  k : PySem.W.keepIn K (.ref C) = true
  s : PySem.W.subIn K (.ref C) (.type "BaseException") = some true
  t : PySem.W.typeIn K (.ref C) = some (.type "type")
def sExc (c : Str) : SM := fun env h => .exc c [] env h
section
variable {X : Cx} {W : WX} {k : Nat}
theorem pmk_own0 {C : Addr} {x : Str} {p pos : Pos} (f : ExF X.K X.mg x C) (hg : Gl X x) (hdb : (x == ("__debug__" : Str)) = false := by decide) :
    PMk X (.Call (.Name x p) [] [] pos) (fun σ H Q => Q (.ref C) none H) := by
  intro pins s σ H Q I h
  refine wpAny_Call_Name_kw (ld_glob I hg f.g ?_ hdb)
  refine PySem.W.callWith_K0 I.kIn f.k ?_
  show wpAny _ _ (call (.ref C) []) _ _ _
  obtain ⟨bm, N, nm, qn, bs, hdct, sn, sub, ab, col, dd, k0, k1, k2, k3, k5, mN, hC, hN, hni, T⟩ := exc_obj I.kIn f.q
  refine wpAny_call_exc_subT PySem.F.excBase_ValueError T hC hN hni (fun h' e hm => ?_) (by simp)
  exact mk_of I hm (raises_own f.s f.t) h (I.hok.gone hm.new)
theorem ss_raise0 {C : Addr} {x : Str} {p pos pos2 : Pos} (O : Ok X W k) (f : ExF X.K X.mg x C) (hg : Gl X x := by rfl) (hdb : (x == ("__debug__" : Str)) = false := by decide) :
    SS X W (.Raise (some (.Call (.Name x p) [] [] pos)) none pos2) (sExc x) := ⟨(ps_raise O.calm O.tk (pmk_own0 f hg hdb)).weak fun D σ H ⟨G, h, env, w, re, p⟩ => p G H σ (.ref C) none (.refl G) w re ⟨C, f.g, rfl, .inl ⟨rfl, rfl⟩⟩⟩
end
/-! ### try: .. except X as e: .. except Y as e: .. -/
def endD (D : Ends) (i : Nat) : Ends := { nx := fun σ' H' => D.nx (σ'.set i none) H', rt := D.rt, bk := fun σ' H' => D.bk (σ'.set i none) H', ct := fun σ' H' => D.ct (σ'.set i none) H' }
/-- what the clauses wish of an exception of the body, one after the other -/
def wManyN (K : PySem.W.Frag) (Wout : WX) (D : Ends) (i : Nat) : List (Value × (Addr → Value → Option Addr → TS)) → WX
  | [] => Wout
  | (c, ts) :: r => fun cls d σ H => ∃ b, PySem.W.exmOne K cls c = some b ∧ (b = true → ∀ a, H a = none → ts a cls d (endD D i) (σ.set i (some (.ref a))) H) ∧ (b = false → wManyN K Wout D i r cls d σ H)
inductive HdsN (X : Cx) (n : Str) : List ExceptHandler → List (Value × (Addr → Value → Option Addr → TS)) → Prop
  | nil : HdsN X n [] []
  | cons {x : Str} {c : Value} {ts : Addr → Value → Option Addr → TS} {b₀ : Stmt} {suite : List Stmt} {np pos' : Pos} {hds : List ExceptHandler} {l : List (Value × (Addr → Value → Option Addr → TS))} (hc : Names X x c)
      (hsu : ∀ (a : Addr) (oe : Obj) (cls : Value) (d : Option Addr) (pn : List (Addr × Obj)), Zc cls d oe → (∃ vs, oe.data = .fields vs) → PSs (X.suite a ((a, oe) :: pn)) (b₀ :: suite) (ts a cls d)) (r : HdsN X n hds l) :
      HdsN X n (.ExceptHandler (some (.Name x np)) (some n) (b₀ :: suite) pos' :: hds) ((c, ts) :: l)
section
variable {X : Cx} {n : Str} {i : Nat} {body : List Stmt} {h₀ : ExceptHandler} {hds : List ExceptHandler} {l : List (Value × (Addr → Value → Option Addr → TS))} {pos : Pos} {tb : WX → TS} {Wout : WX}
theorem ps_tryN (hs : X.stack = X.env :: X.outer) (hf : X.env.frame = some X.env.locals) (hN : X.N.Nodup) (hi : X.N[i]? = some n) (hln : X.env.kindOf n = some .local) (tk : Takes X Wout)
    (hb : ∀ (W : WX) (pn : List (Addr × Obj)) (xe : Value → Shared → Prop), Takes (X.tr pn xe) W → PassesOwn (model X.prog X.w) X.A X.env xe → PSs (X.tr pn xe) body (tb W))
    (hh : HdsN X n (h₀ :: hds) l) : PS X (.Try body (h₀ :: hds) [] [] pos) (fun D σ H => tb (wManyN X.K Wout D i l) D σ H) := by
  refine ⟨fun pins s σ H D I h => ?_⟩
  have ok := I.ok
  have hloc : Loc X.env.scope n := .inl hln
  have hfr : X.A.frames = some (X.env :: X.outer) := by rw [ok.frames, hs]
  refine wpAny_Try_except ?_
  refine wpAny_mono ((hb (wManyN X.K Wout D i l) (X.pn ++ pins) (fun e s₁ => wpAny (model X.prog X.w) X.A (noteFrame e X.env) (fun _ s₂ => wpAny (model X.prog X.w) X.A (setFlight e none) (fun _ s₃ =>
    wpAny (model X.prog X.w) X.A (handleBy e X.env (h₀ :: hds)) (SP X pins D) X.xe s₃) X.xe s₂) X.xe s₁) (fun u s' xx => ?_) PassesOwn.looking).run [] s σ H D (I.toTry _) h) (fun f s1 hsp => ?_) (fun e s1 he => he)
  · -- the catch
    obtain ⟨a, B, sI, pins', σ', H', cls, d, rfl, J', nb, up, sky, na, os, ag, w⟩ := xx
    have J : L2.Inv X pins σ' H' sI := J'.ofTry ok
    have sky' : Sky B (X.env :: X.outer) a (Zc cls d) X.env.locals s'.heap := by rw [← hs]; exact sky
    show wpAny (model X.prog X.w) X.A (noteFrame (.ref a) X.env) _ _ _
    refine Sky.land Zc.steady hfr hf sky' fun h3 fl3 up3 => ?_
    have J3 : L2.Inv X pins σ' H' { s' with heap := h3 } := J.landed nb fl3.1 (up.trans up3) os ag
    obtain ⟨oe3, vs3, he3, hz3, hd3⟩ := fl3.there
    have notFr : ∀ {h : Heap} {o : Obj} {vs : Array Value}, h.FunFrames B (X.env :: X.outer) → h.get? a = some o → o.data = .fields vs → a ∉ frs (X.env :: X.outer) := fun {h o vs} ff e dd hm => by
      obtain ⟨_, o', e', hnf⟩ := ff.mem hm
      rw [e] at e'; cases e'
      exact hnf _ dd
    have nfr := notFr fl3.2.2.1 he3 hd3
    have nL : a ≠ X.env.locals := fun z => nfr (List.mem_filterMap.mpr ⟨X.env, List.mem_cons_self, by rw [hf, z]⟩)
    have nF : a ∉ X.fs := fun hm => by
      obtain ⟨e, he, q⟩ := List.mem_filterMap.mp hm
      exact nfr (List.mem_filterMap.mpr ⟨e, List.mem_cons_of_mem _ he, q⟩)
    have S3 := J3.suite he3 hd3 na nL nF
    have go : ∀ {hds' : List ExceptHandler} {l' : List (Value × (Addr → Value → Option Addr → TS))}, HdsN X n hds' l' → wManyN X.K Wout D i l' cls d σ' H' →
        wpAny (model X.prog X.w) X.A (handleBy (.ref a) X.env hds') (SP X pins D) X.xe { s' with heap := h3 } := by
      intro hds' l' hk
      induction hk with
      | nil =>
        intro w
        refine wpAny_handleBy_nil ?_
        obtain ⟨k1, k2, k3, oe, vs, T, oT, ts', he, hz, hd, h1, hr⟩ := id fl3
        unfold PySem.passOn
        refine wpAny_bind (wpAny_field he hd h1 ?_)
        rw [if_neg (show ¬ ((Value.ref T == Value.none) = true) from by simp)]
        have fin : wpAny (model X.prog X.w) X.A (setFlight (.ref a) X.env.frame) (fun _ s4 => wpAny (model X.prog X.w) X.A (throw (.ref a) : Sem Flow) (SP X pins D) X.xe s4) X.xe { s' with heap := h3 } := by
          rw [hf]
          refine HandSPX.setFlight_upZ fl3 fun h4 hh4 up4 => wpAny_throw (tk _ _ ?_)
          exact ⟨a, B, sI, pins, σ', H', cls, d, rfl, J, nb, (up.trans up3).trans up4, .inr (.inr (by rw [hs]; exact hh4)), na, os, ag, w⟩
        first
          | exact wpAny_bind (wpAny_pure (wpAny_bind fin))
          | exact wpAny_bind fin
      | @cons x c ts b₀ suite np pos' hds2 l2 hc hsu r ih =>
        intro w
        obtain ⟨b, hb1, hyes, hno⟩ := w
        refine wpAny_handleBy_cons (codeAny_handlers_test ?_) (by intro q; cases q)
        have LT : PySem.W.Looks (model X.prog X.w) h3 (typeOf (.ref a)) cls := fun A Q E s k q => wpAny_typeOf_ref (k _ _ he3) (by rw [hz3.1]; exact q)
        have LM := PySem.W.exm_one (M := model X.prog X.w) (J3.kIn) LT hb1
        have test : ∀ {Q : Value → Shared → Prop} {E : Value → Shared → Prop}, Q c { s' with heap := h3 } → wpAny (model X.prog X.w) (X.A.mark (some (.ref a))) (eval (.Name x np) X.env) Q E { s' with heap := h3 } := fun {Q E} q => by
          obtain ⟨hg, hdbg, hm | ⟨hm, hv, hnn⟩⟩ := hc
          · exact ld_glob (X := X.suite a ((a, oe3) :: (X.pn ++ pins))) S3 hg hm q hdbg
          · exact ld_blt (X := X.suite a ((a, oe3) :: (X.pn ++ pins))) S3 hg hm hv q hnn hdbg
        refine test (LM.here ?_)
        cases b with
        | true =>
          refine codeAny_handlers_suite_as ?_
          refine HandSPX.lands_againZ fl3 fun h4 fl4 up4 => ?_
          have J4 : L2.Inv X pins σ' H' { s' with heap := h4 } := J.landed nb fl4.1 ((up.trans up3).trans up4) os ag
          obtain ⟨oe4, vs4, he4, hz4, hd4⟩ := fl4.there
          have S4 := J4.suite he4 hd4 na nL nF
          refine store_ok (X := X.suite a ((a, oe4) :: (X.pn ++ pins))) (v := .ref a) S4 hN hi hloc rfl (fun s5 S5 => ?_) (.inr hln)
          refine wpAny_mono ((hsu a oe4 cls d (X.pn ++ pins) hz4 ⟨_, hd4⟩).run [] s5 _ H' _ S5 (hyes rfl a na)) (fun f s6 hsp => ?_) (fun _ _ z => False.elim z)
          have end_ : ∀ {σ6 : L2.St} {H6 : Hp} {Q : Shared → Prop}, L2.Inv (X.suite a ((a, oe4) :: (X.pn ++ pins))) [] σ6 H6 s6 → (∀ s7, L2.Inv X pins (σ6.set i none) H6 s7 → Q s7) →
              wpAny (model X.prog X.w) X.A (do bindName X.env n .none; unbindBehindTheSuite X.env n pos') (fun _ s7 => Q s7) X.xe s6 := fun {σ6 H6 Q} S6 hq => gone_ok (S6.unsuite ok) hN hi hln hq
          cases f with
          | next =>
            obtain ⟨σ6, H6, S6, q6⟩ := hsp
            exact end_ S6 fun s7 J7 => ⟨_, _, J7, q6⟩
          | brk =>
            obtain ⟨σ6, H6, S6, q6⟩ := hsp
            exact end_ S6 fun s7 J7 => ⟨_, _, J7, q6⟩
          | cont =>
            obtain ⟨σ6, H6, S6, q6⟩ := hsp
            exact end_ S6 fun s7 J7 => ⟨_, _, J7, q6⟩
          | ret u =>
            obtain ⟨v6, σ6, H6, S6, r6, q6⟩ := hsp
            exact end_ S6 fun s7 J7 => ⟨_, _, _, J7, r6, q6⟩
        | false =>
          show wpAny _ X.A (handleBy (.ref a) X.env hds2) _ _ _
          exact ih (hno rfl)
    exact go hh w
  · cases f with
    | next =>
      obtain ⟨σ', H', J', q⟩ := hsp
      exact wpAny_execs_nil ⟨σ', H', J'.ofTry ok, q⟩
    | brk =>
      obtain ⟨σ', H', J', q⟩ := hsp
      exact ⟨σ', H', J'.ofTry ok, q⟩
    | cont =>
      obtain ⟨σ', H', J', q⟩ := hsp
      exact ⟨σ', H', J'.ofTry ok, q⟩
    | ret u =>
      obtain ⟨v, σ', H', J', r, q⟩ := hsp
      exact ⟨v, σ', H', J'.ofTry ok, r, q⟩
end

/-! ### word = '..' if isinstance(e, X) else '..' -/
/-- what is asked of the raised class -/
structure IsE (K : PySem.W.Frag) (CL : Addr) (cls : Value) (d : Option Addr) : Prop where
  ex : ∃ Dc, cls = .ref Dc ∧ d = none ∧ ExcC K Dc ∧ PySem.W.kitOne K (.ref Dc) (.ref CL) = some true
def tsA (K : PySem.W.Frag) (CL : Addr) (i j : Nat) (w : Str) : Addr → Value → Option Addr → TS := fun a cls d D σ H => σ[i]? = some (some (.ref a)) ∧ IsE K CL cls d ∧ D.nx (σ.set j (some (.str w))) H
theorem suiteA {X : Cx} {a CL : Addr} {oe : Obj} {cls : Value} {d : Option Addr} {pn : List (Addr × Obj)} {i j j1 j2 : Nat} {e word lot w w2 : Str} {p1 p2 p3 p4 p5 p6 p7 p8 p9 : Pos} (hz : Zc cls d oe) (hf : ∃ vs, oe.data = .fields vs)
    (hN : X.N.Nodup) (hi : X.N[i]? = some e) (hj : X.N[j]? = some word) (hje : X.env.scope.names.lookup word = some .local) (hve : X.env.scope.names.lookup e = some .local)
    (gL : Gl X lot) (mL : X.mg lot = some (.ref CL)) (gi : Gl X "isinstance") (mi : X.mg "isinstance" = none) (d1 : (e == ("__debug__" : Str)) = false) (d2 : (e == ("__classdict__" : Str)) = false) (d3 : (lot == ("__debug__" : Str)) = false) :
    PSs (X.suite a ((a, oe) :: pn)) [.Assign [.Name word p1] (.IfExp (.Call (.Name "isinstance" p2) [.Name e p3, .Name lot p4] [] p5) (.Constant (.str w) j1 p6) (.Constant (.str w2) j2 p7) p8) p9] (tsA X.K CL i j w a cls d) := by
  refine ⟨fun pins s σ H D I h => ?_⟩
  obtain ⟨h1, ⟨Dc, rfl, rfl, h2, h3⟩, h4⟩ := h
  have c := pss_one (ps_set (X := X.suite a ((a, oe) :: pn)) (pos := p9) (pos' := p1) hN hj (.inl hje) (pe_ifExp (pos := p8) (pt_val (pe_callB (pos := p5) (p := p2) (call_isE (X := X) (pn := pn) h2 hz hf) gi mi (by rfl)
    (pa_cons (pe_var (pos := p3) hi (.inl hve) d1 d2) (pa_cons (pe_glob (v := .ref CL) (pos := p4) gL mL rfl d3) pa_nil)))) (pe_str (j := j1) (pos := p6) (x := w)) (pe_str (j := j2) (pos := p7) (x := w2))) (by rfl) (.inr hje))
  refine c.run pins s σ H D I ?_
  exact ⟨.ref a, h1, .ref CL, .ref CL, true, rfl, fun u hu => hu, h3, true, rfl, h4⟩

def pickA (K : PySem.W.Frag) (CL : Addr) (cls : Value) (d : Option Addr) (P : Str → Prop) : List (Addr × Str) → Prop
  | [] => False
  | (C, w) :: r => ∃ b, PySem.W.exmOne K cls (.ref C) = some b ∧ (b = true → IsE K CL cls d ∧ P w) ∧ (b = false → pickA K CL cls d P r)
theorem pickA.mono {K : PySem.W.Frag} {CL : Addr} {cls : Value} {d : Option Addr} {P Q : Str → Prop} (h : ∀ w, P w → Q w) : ∀ {l : List (Addr × Str)}, pickA K CL cls d P l → pickA K CL cls d Q l
  | [], x => x
  | (C, w) :: r, ⟨b, h1, h2, h3⟩ => ⟨b, h1, fun e => ⟨(h2 e).1, h _ (h2 e).2⟩, fun e => pickA.mono h (h3 e)⟩
def ttA (K : PySem.W.Frag) (CL : Addr) (hs : List (Addr × Str)) (dn : Str) : (XK → Hp → VK → Prop) → Hp → VK → Prop := fun tl H Q =>
  tl (fun cls d H' => pickA K CL cls d (fun w => Q (.str w) H') hs) H fun _ H' => ∃ v : V, some (some (V.str dn)) = some (some v) ∧ Q v H'
abbrev nA : List Str := ["call", "word", "e"]
theorem wMany_pick {K : PySem.W.Frag} {CL : Addr} {Wout : WX} {D : Ends} {cls : Value} {d : Option Addr} {y0 y1 y2 : Option V} {H : Hp} : ∀ {hs : List (Addr × Str)}, pickA K CL cls d (fun w => D.nx [y0, some (.str w), none] H) hs →
    wManyN K Wout D 2 (hs.map fun p => (.ref p.1, tsA K CL 2 1 p.2)) cls d [y0, y1, y2] H
  | [], h => h.elim
  | (C, w) :: r, ⟨b, h1, h2, h3⟩ => ⟨b, h1, fun e a _ => ⟨rfl, (h2 e).1, (h2 e).2⟩, fun e => wMany_pick (h3 e)⟩
theorem takes_len {X : Cx} {W : WX} (tk : Takes X W) : Takes X (fun cls d σ H => σ.length = X.N.length → W cls d σ H) := fun e s' x => by
  obtain ⟨a, B, sI, pins', σ', H', cls, d, r, J', nb, up, sky, na, os, ag, w⟩ := x
  exact tk e s' ⟨a, B, sI, pins', σ', H', cls, d, r, J', nb, up, sky, na, os, ag, w J'.len⟩
theorem givesA {X : Cx} {x q dn w0 : Str} {sg : Scope} {g CL : Addr} {cdg : Value} {hs : List (Addr × Str)} {h₀ : ExceptHandler} {hds : List ExceptHandler} {j1 j2 : Nat} {p1 p2 p3 p4 p5 p6 p7 p8 p9 p10 p11 p12 : Pos}
    (S : FnScope nA ["call"] sg) (l1 : sg.names.lookup ("word" : Str) = some .local) (l2 : sg.names.lookup ("e" : Str) = some .local)
    (hh : ∀ (A : Around) (outer : List Env) (s : Shared) (H : Hp), HdsN (cxOf C8.CX0 X.prog X.w X.K X.mg X.base nA x sg g cdg A outer s H C8.E0).nox "e" (h₀ :: hds) (hs.map fun p => (.ref p.1, tsA X.K CL 2 1 p.2))) :
    LamX.GivesTo X nA x sg g cdg [.Assign [.Name "word" p1] (.Constant (.str w0) j1 p2) p3, .Try [.Expr (.Call (.Name "call" p4) [] [] p5) p6, .Assign [.Name "word" p7] (.Constant (.str dn) j2 p8) p9] (h₀ :: hds) [] [] p10, .Return (some (.Name "word" p11)) p12] "call" q (ttA X.K CL hs dn) := by
  intro f c' s H Q tl act hc h
  refine ⟨_, pss_cons (ps_set (i := 1) S.nd rfl (.inl l1) pe_str (by rfl) (.inr l1)) (pss_cons (ps_tryN (X := (cxOf C8.CX0 X.prog X.w X.K X.mg X.base nA x sg g cdg X.A X.stack s H C8.E0).nox) (i := 2)
      (tb := fun W D σ H => ∃ Ech : XK, (∀ cls d σ' H', Ech cls d H' → σ'.length = 3 → W cls d σ' H') ∧ σ[0]? = some (some (.ref f)) ∧ H c' = some (LamX.CodeO c' q) ∧ tl Ech H fun _ H' => D.nx (σ.set 1 (some (.str dn))) H')
      rfl rfl S.nd rfl l2 LamX.takes0 (fun W pn xe tk _ => ?_) (hh _ _ _ _)) (pss_one (ps_ret (pe_var (i := 1) rfl (.inl l1) (by decide) (by decide))))), ?_⟩
  · refine ⟨fun pins s' σ H' D I h' => ?_⟩
    obtain ⟨Ech, hW, h1, h2, h3⟩ := h'
    have hp := act _ pn xe Ech p4 p5 (takes_len tk) hW
    have hq := pss_cons (ps_expr (pos := p6) hp (by rfl)) (pss_one (ps_set (i := 1) (pos := p9) (pos' := p7) S.nd rfl (.inl l1) (pe_str (j := j2) (pos := p8) (x := dn)) (by rfl) (.inr l1)))
    exact hq.run pins s' σ H' D I ⟨h1, h2, h3⟩
  · refine ⟨fun cls d H' => pickA X.K CL cls d (fun w => Q (.str w) H') hs, fun cls d σ' H' hp hl => ?_, rfl, hc, ?_⟩
    · match σ', hl with
      | [y0, y1, y2], _ => exact wMany_pick (hp.mono fun w hw => ⟨_, rfl, hw⟩)
    · exact h

/-! ### x(lambda: ..) -/
def mLamA (hit : Str → Option Str) (dn : Str) (m : EM AV) : EM AV := fun env h => match m env h with
  | .ok _ h' => .ok (.str dn) h'
  | .exc c [] h' => (match hit c with | some w => .ok (.str w) h' | none => .bad)
  | _ => .bad
def HitOk (K : PySem.W.Frag) (mg : Str → Option Value) (CL : Addr) (hs : List (Addr × Str)) (hit : Str → Option Str) : Prop := ∀ c w D, hit c = some w → mg c = some (.ref D) → pickA K CL (.ref D) none (· = w) hs
theorem WI.extN {K : PySem.W.Frag} {mg : Str → Option Value} {G : Gh} {h : Hs} {H H1 : Hp} (w : WI K mg G h H) (e : LamX.ExtN H H1) (t : LamX.Tabs TabT.T H1) : WI K mg G h H1 := by
  refine ⟨fun b o q => e _ _ (w.F b o q) fun ps z => w.tb.nF b ps (by rw [q, z]), fun b o q => e _ _ (w.Z b o q) fun ps z => w.tb.nZ b _ (.tbl ps) (by rw [q, z]), w.FZ, fun n c hc => ?_, w.bnd, w.inj, t, w.tb.nF, w.tb.nZ⟩
  refine (w.cells n c hc).stay (Gh.le.refl _) (fun _ _ q => q) (fun a o ha ho => e _ _ ho fun ps z => ?_)
  cases hF : G.F a with
  | none =>
    obtain ⟨u, k1, k2, _⟩ := w.kind (w.bnd n a ha) ha hF
    rw [ho] at k1
    cases k1
    exact k2 ps z
  | some u =>
    have q := w.F a u hF
    rw [ho] at q
    cases q
    exact w.tb.nF a ps (by rw [hF, z])
theorem se_lamA {X : Cx} {W : WX} {j k : Nat} {hs : List (Addr × Str)} {hit : Str → Option Str} {dn : Str} {m : EM AV} {CL : Addr} {x a : Str} {g c P : Addr} {pg : Arguments} {bg : List Stmt} {sg : Scope} {dV kV doc pm cdv ct oc : Value} {an od : Option Addr} {osl : Array (Option Value)} {Ng : List Str}
    {params : Arguments} {body : Expr} {scope : Scope} {p lpos pos : Pos} (O : Ok X W j) (hj : k + 2 ≤ j) (hg : Gl X x) (hm : X.mg x = some (.ref g)) (hk : PySem.W.keepIn X.K (.ref g) = true)
    (lk : X.K.lookup g = some ⟨oc, od, .func (PySem.W.fnOf x x pg bg sg dV kV doc pm an cdv ct), osl⟩) (hcg : PySem.W.codeIn X.K cdv x = true) (hb : L2.Binds X.K (PySem.W.fnOf x x pg bg sg dV kV doc pm an cdv ct) [a] []) (Sg : FnScope Ng [a] sg) (hNg : Ng[0]? = some a) (hva : Vis sg a)
    (hG : LamX.GivesTo X Ng x sg g cdv bg a (X.env.qual ++ "<lambda>") (ttA X.K CL hs dn))
    (TB : LamX.TabB X.base X.mg c P) (hcode : X.env.code = .ref c) (hmT : (P, X.env.qual ++ "<lambda>") ∈ TabT.T) (hu : ∀ p ∈ TabT.T, p.1 = P → p.2 = X.env.qual ++ "<lambda>") (L : LamX.LamS X.env.scope scope) (hdef : defaultsOf params X.env = ([], []))
    (hbind : ∀ (q : Str) (cl : List (Str × Addr)) (pm cv ctv : Value), bindArgs (PySem.W.kla_fn "<lambda>" q params body scope cl pm cv ctv) ⟨[], []⟩ = pure [])
    (hH : HitOk X.K X.mg CL hs hit)
    (hbody : ∀ (A : Around) (outer : List Env) (s : Shared) (H : Hp) (E : XK) (f c' : Addr), Ok (LamX.lamCx X A outer s H E scope f c') (fnW E) k → SE (LamX.lamCx X A outer s H E scope f c') (fnW E) body m)
    (hdb : (x == ("__debug__" : Str)) = false := by decide) (hd : (a == ("__debug__" : Str)) = false := by decide) (hcd : (a == ("__classdict__" : Str)) = false := by decide) :
    SE X W (.Call (.Name x p) [.Lambda params body scope lpos] [] pos) (mLamA hit dn m) := by
  refine ⟨(LamX.pe_lamcall (T := TabT.T) (k := k) (t := fun E => tSE X (fnW E) m) hg hm hk lk hcg hb Sg hNg hva hG TB hcode hmT hu (O.hr.mono hj) L hdef hbind (fun A outer s H E f c' hr => ?_) hdb hd hcd).weak fun σ H Q ⟨G, h, env, w, re, p⟩ => ?_⟩
  · exact (hbody A outer s H E f c' ⟨O.nd, takes_of rfl rfl rfl rfl, hr, rfl, passes_of rfl⟩).pe
  · refine ⟨w.tb.T, fun H1 e t1 => ?_⟩
    refine ⟨G, h, env, w.extN e t1, re, ?_⟩
    unfold mLamA at p
    cases q : m env h with
    | bad => rw [q] at p; exact p.elim
    | ok v h1 =>
      rw [q] at p
      exact fun G' H' z l w' r => ⟨_, rfl, p G' H' (.str dn) l w' (.str dn)⟩
    | exc c fs h1 =>
      rw [q] at p
      cases fs with
      | cons f fs => exact p.elim
      | nil =>
        dsimp only at p
        cases hc : hit c with
        | none => rw [hc] at p; exact p.elim
        | some wd =>
          rw [hc] at p
          intro G' H' cls d l w' xr
          obtain ⟨D, x1, x2, x3⟩ := xr
          rcases x3 with ⟨_, rfl⟩ | ⟨_, _, _, _, _, z⟩
          · subst x2
            exact (hH c wd D hc x1).mono fun w0 e0 => by subst e0; exact p G' H' (.str _) l w' (.str _)
          · exact absurd rfl z
theorem se_lamF {X : Cx} {W : WX} {j k : Nat} {hs : List (Addr × Str)} {hit : Str → Option Str} {dn : Str} {m : EM AV} {CL : Addr} {x a q0 : Str} {g c P : Addr} {st : Stmt} {fd : FuncData} {Ng : List Str}
    {params : Arguments} {body : Expr} {scope : Scope} {p lpos pos : Pos} (O : Ok X W j) (hj : k + 2 ≤ j) (hm : X.mg x = some (.ref g)) (F : L2.Fun X.K x x st g fd) (hb : L2.Binds X.K fd [a] []) (Sg : FnScope Ng [a] (defScope st)) (hNg : Ng[0]? = some a) (hva : Vis (defScope st) a)
    (hG : ∀ cdv, LamX.GivesTo X Ng x (defScope st) g cdv (defBody st) a (X.env.qual ++ "<lambda>") (ttA X.K CL hs dn))
    (TB : LamX.TabB X.base X.mg c P) (hcode : X.env.code = .ref c) (hq : X.env.qual = q0) (hmT : (P, q0 ++ "<lambda>") ∈ TabT.T) (hu : ∀ p ∈ TabT.T, p.1 = P → p.2 = q0 ++ "<lambda>") (L : LamX.LamS X.env.scope scope) (hH : HitOk X.K X.mg CL hs hit)
    (hbody : ∀ (A : Around) (outer : List Env) (s : Shared) (H : Hp) (E : XK) (f c' : Addr), Ok (LamX.lamCx X A outer s H E scope f c') (fnW E) k → SE (LamX.lamCx X A outer s H E scope f c') (fnW E) body m)
    (hg : Gl X x := by rfl) (hdef : defaultsOf params X.env = ([], []) := by rfl)
    (hbind : ∀ (q : Str) (cl : List (Str × Addr)) (pm cv ctv : Value), bindArgs (PySem.W.kla_fn "<lambda>" q params body scope cl pm cv ctv) ⟨[], []⟩ = pure [] := by intros; rfl)
    (hdb : (x == ("__debug__" : Str)) = false := by decide) (hd : (a == ("__debug__" : Str)) = false := by decide) (hcd : (a == ("__classdict__" : Str)) = false := by decide) :
    SE X W (.Call (.Name x p) [.Lambda params body scope lpos] [] pos) (mLamA hit dn m) := by
  subst hq
  obtain ⟨oc, od, kV, doc, pm, an, cdv, ct, osl, rfl, lk, hcd'⟩ := F.ex
  exact se_lamA O hj hg hm F.kp lk hcd' hb Sg hNg hva (hG cdv) TB hcode hmT hu L hdef hbind hH hbody hdb hd hcd
theorem hit_of {K : PySem.W.Frag} {mg : Str → Option Value} {CL : Addr} {hs : List (Addr × Str)} {tab : List (Str × Str)} (h : ∀ p ∈ tab, ∀ D, mg p.1 = some (.ref D) → pickA K CL (.ref D) none (· = p.2) hs) : HitOk K mg CL hs fun c => tab.lookup c :=
  fun c w D e m => h (c, w) (PySem.mem_of_lookup e) D m
/-- THE RULE for a def, its code object told -/
theorem fn_mkC {P : Program} {w : World} {K : PySem.W.Frag} {mg : Str → Option Value} {base : Heap} {x qual : Str} {st : Stmt} {f : Addr} {fd : FuncData} {N ps : List Str} {k : Nat} {s : SM} (F : L2.Fun K x qual st f fd) (S : FnScope N ps (defScope st))
    (hb : ∀ (cdv : Value) (A : Around) (outer : List Env) (sh : Shared) (H : Hp) (E : XK), fd.code = cdv → Ok (cxOf (L2.CX P w) P w K mg base N qual (defScope st) f cdv A outer sh H E) (fnW E) k → SSs (cxOf (L2.CX P w) P w K mg base N qual (defScope st) f cdv A outer sh H E) (fnW E) (defBody st) s) :
    FnOk P w K mg base (L2.CX P w) (k + 1) f fd ps (spM K mg ps.length (bodyM (N.length - ps.length) s)) := by
  obtain ⟨oc, od, kV, doc, pm, an, cdv, ct, osl, rfl, lk, hcd⟩ := F.ex
  refine fn_of lk hcd S (fun vs H Q E h => h.1) fun A outer sh H vs Q E hr h => ?_
  obtain ⟨hl, G, h0, avs, w', rs, p⟩ := h
  refine ⟨_, (hb cdv A outer sh H E rfl ⟨S.nd, takes_of rfl rfl rfl rfl, hr, rfl, passes_of rfl⟩).pss, ?_⟩
  have hl2 := rs.length
  refine ⟨G, h0, avs.map some ++ List.replicate (N.length - ps.length) none, w', ?_, ?_⟩
  · show RE K mg G _ (L2.start N vs)
    unfold L2.start
    rw [hl]
    exact RE.start _ rs
  · unfold bodyM at p
    cases e : s (avs.map some ++ List.replicate (N.length - ps.length) none) h0 with
    | nx e1 h1 => rw [e] at p; exact fun G' H' σ' l w re => p G' H' _ l w .non
    | rt v h1 => rw [e] at p; exact p
    | exc c fs e1 h1 => rw [e] at p; exact fun G' H' σ' cls d l w re => p G' H' cls d l w
    | bk e1 h1 => rw [e] at p; exact p.elim
    | ct e1 h1 => rw [e] at p; exact p.elim
    | bad => rw [e] at p; exact p.elim
theorem qual_cx {CX : CXT} {P : Program} {w : World} {K : PySem.W.Frag} {mg : Str → Option Value} {base : Heap} {N : List Str} {q : Str} {sc : Scope} {f : Addr} {cd : Value} {A : Around} {outer : List Env} {sh : Shared} {H : Hp} {E : XK} : (cxOf CX P w K mg base N q sc f cd A outer sh H E).env.qual = q ++ ".<locals>." := rfl
end Sim

set_option Elab.async false
set_option linter.all false
set_option maxRecDepth 100000
set_option maxHeartbeats 2000000
namespace Sim
open PySem PySem.Spec L2
open PyProof.Rows hiding St
variable [TabT]
def setAll : AEnv → List Nat → List AV → AEnv
  | env, i :: is, x :: xs => setAll (env.set i (some x)) is xs
  | env, _, _ => env
def sPar (as : EM (List AV)) (is : List Nat) : SM := sThen as fun xs env h => if xs.length = is.length then .nx (setAll env is xs) h else .bad
section
variable {X : Cx} {W : WX} {k : Nat}
theorem tLs_of {m : EM (List AV)} {i : Nat} {D : Ends} {σ : L2.St} {H : Hp} (t : tSS X W (sSet i (mLs m)) D σ H) : tSF X W m σ H fun x H1 => D.nx (σ.set i (some x)) H1 := by
  obtain ⟨G, h, env, w, re, p⟩ := t
  refine ⟨G, h, env, w, re, ?_⟩
  unfold sSet sThen mLs M.bnd at p
  cases e : m env h with
  | bad => rw [e] at p; exact p
  | exc c fs h1 => rw [e] at p; exact fun G' H' cls d l w' x => p G' H' σ cls d l w' (re.mono l) x
  | ok xs h1 =>
    rw [e] at p
    intro G' H' a vs l w' ha rs
    have le : G'.le (G'.addF a (.lst vs)) := Gh.addF_le (w'.freeF ha)
    exact p _ _ _ (l.trans le) (w'.newF ha) ((re.mono (l.trans le)).set (.lst upd_same (rs.mono le)) i)
theorem tLC_of {m : EM (List AV)} {i : Nat} {D : Ends} {σ : L2.St} {H : Hp} (t : tSS X W (sSet i (mLC m)) D σ H) : tSF X W m σ H fun x H1 => D.nx (σ.set i (some x)) H1 := by
  obtain ⟨G, h, env, w, re, p⟩ := t
  refine ⟨G, h, env, w, re, ?_⟩
  unfold sSet sThen mLC M.bnd at p
  cases e : m env h with
  | bad => rw [e] at p; exact p
  | exc c fs h1 => rw [e] at p; exact fun G' H' cls d l w' x => p G' H' σ cls d l w' (re.mono l) x
  | ok xs h1 =>
    rw [e] at p
    intro G' H' a vs l w' ha rs
    obtain ⟨le, w2, r2⟩ := w'.newL ha rs
    exact p _ _ _ (l.trans le) w2 ((re.mono (l.trans le)).set r2 i)
section
variable {elt tg iter : Expr} {ifs : List Expr} {scope : Scope} {own : List (Str × Nat)} {pos py spos : Pos} {mi : EM (List AV)} {ow : List Nat} {g : GT} {bt : EM Bool} {me : EM AV} {i : Nat} {y : Str}
theorem ss_setLs (O : Ok X W k) (hy : X.N[i]? = some y) (hyl : X.env.scope.names.lookup y = some .local) (hsw : swapsWith (.ListComp elt [⟨tg, iter, ifs, 0⟩] scope pos) (some (.Name y py)) spos.line X.env = pure true)
    (hi : SI X W tg iter mi) (ok : BlkOk X.N X.env.scope scope own) (how : ∀ i ∈ ow, i ∈ own.map (·.2))
    (hg : ∀ s H C cl fp, SG (blkX X scope s H C cl fp) tg ow g) (ht : ∀ s H C cl fp, STs (blkX X scope s H C cl fp) noW ifs bt) (he : ∀ s H C cl fp, SE (blkX X scope s H C cl fp) noW elt me) (hs : ∀ x, foldedSetIterable iter X.env x = pure x := by intro _; rfl) :
    SS X W (.Assign [.Name y py] (.ListComp elt [⟨tg, iter, ifs, 0⟩] scope pos) spos) (sSet i (mLs (mLc (own.map (·.2)) mi g bt me))) :=
  ⟨(ps_setLc (tt := tST X noW bt) (g := tSG X ow g) (te := tSE X noW me) O.calm O.nd hy hyl hsw hi.pi ok (fun s H C cl fp => (hg s H C cl fp).pg) (fun s H C cl fp => (ht s H C cl fp).pts) (fun s H C cl fp => (he s H C cl fp).pe) hs).weak fun D σ H t => tLc_of how (tLs_of t)⟩
theorem ss_setLC (O : Ok X W k) (hy : X.N[i]? = some y) (hyl : X.env.scope.names.lookup y = some .local) (hsw : swapsWith (.ListComp elt [⟨tg, iter, ifs, 0⟩] scope pos) (some (.Name y py)) spos.line X.env = pure true)
    (hi : SI X W tg iter mi) (ok : BlkOk X.N X.env.scope scope own) (how : ∀ i ∈ ow, i ∈ own.map (·.2))
    (hg : ∀ s H C cl fp, SG (blkX X scope s H C cl fp) tg ow g) (ht : ∀ s H C cl fp, STs (blkX X scope s H C cl fp) noW ifs bt) (he : ∀ s H C cl fp, SE (blkX X scope s H C cl fp) noW elt me) (hs : ∀ x, foldedSetIterable iter X.env x = pure x := by intro _; rfl) :
    SS X W (.Assign [.Name y py] (.ListComp elt [⟨tg, iter, ifs, 0⟩] scope pos) spos) (sSet i (mLC (mLc (own.map (·.2)) mi g bt me))) :=
  ⟨(ps_setLc (tt := tST X noW bt) (g := tSG X ow g) (te := tSE X noW me) O.calm O.nd hy hyl hsw hi.pi ok (fun s H C cl fp => (hg s H C cl fp).pg) (fun s H C cl fp => (ht s H C cl fp).pts) (fun s H C cl fp => (he s H C cl fp).pe) hs).weak fun D σ H t => tLc_of how (tLC_of t)⟩
end
theorem ss_par2 {i j : Nat} {x y : Str} {a b : Expr} {as : EM (List AV)} {px py pt pos : Pos} {kt k2 pt2} (O : Ok X W k) (hi : X.N[i]? = some x) (hj : X.N[j]? = some y) (hij : i ≠ j) (hx : X.env.scope.names.lookup x = some .local) (hy : X.env.scope.names.lookup y = some .local)
    (ha : SA X W [a, b] as) (hw : swappedStores [.Tuple [.Name x px, .Name y py] kt pt] (.Tuple [a, b] k2 pt2) X.env = pure (some [x, y])) (hs : swapsWithSole [.Tuple [.Name x px, .Name y py] kt pt] (.Tuple [a, b] k2 pt2) pos.line X.env = pure false := by rfl) :
    SS X W (.Assign [.Tuple [.Name x px, .Name y py] kt pt] (.Tuple [a, b] k2 pt2) pos) (sPar as [i, j]) := by
  refine ⟨(ps_par O.calm O.nd hi hj hij hx hy ha.pa hw hs).weak fun D σ H ⟨G, h, env, w, re, p⟩ => ⟨G, h, env, w, re, postS_then re p fun xs h1 G1 H1 zs l1 w1 r1 re1 p1 => ?_⟩⟩
  split at p1
  · rename_i hl
    match xs, zs, r1, hl with
    | [a, b], [v, w'], .cons ra (.cons rb .nil), _ => exact ⟨v, w', rfl, p1 G1 H1 _ (.refl G1) w1 ((re1.set ra i).set rb j)⟩
  · exact p1.elim
theorem ss_par3 {i j l : Nat} {x y z : Str} {a b c : Expr} {as : EM (List AV)} {px py pz pt pos : Pos} {kt k2 pt2} (O : Ok X W k) (hi : X.N[i]? = some x) (hj : X.N[j]? = some y) (hl : X.N[l]? = some z) (hij : i ≠ j) (hil : i ≠ l) (hjl : j ≠ l)
    (hx : X.env.scope.names.lookup x = some .local) (hy : X.env.scope.names.lookup y = some .local) (hz : X.env.scope.names.lookup z = some .local)
    (ha : SA X W [a, b, c] as) (hw : swappedStores [.Tuple [.Name x px, .Name y py, .Name z pz] kt pt] (.Tuple [a, b, c] k2 pt2) X.env = pure (some [x, y, z])) (hs : swapsWithSole [.Tuple [.Name x px, .Name y py, .Name z pz] kt pt] (.Tuple [a, b, c] k2 pt2) pos.line X.env = pure false := by rfl) :
    SS X W (.Assign [.Tuple [.Name x px, .Name y py, .Name z pz] kt pt] (.Tuple [a, b, c] k2 pt2) pos) (sPar as [i, j, l]) := by
  refine ⟨(ps_par3 O.calm O.nd hi hj hl hij hil hjl hx hy hz ha.pa hw hs).weak fun D σ H ⟨G, h, env, w, re, p⟩ => ⟨G, h, env, w, re, postS_then re p fun xs h1 G1 H1 zs l1 w1 r1 re1 p1 => ?_⟩⟩
  split at p1
  · rename_i hl
    match xs, zs, r1, hl with
    | [a, b, c], [u, v, w'], .cons ra (.cons rb (.cons rc .nil)), _ => exact ⟨u, v, w', rfl, p1 G1 H1 _ (.refl G1) w1 (((re1.set ra i).set rb j).set rc l)⟩
  · exact p1.elim
end
end Sim

set_option Elab.async false
set_option linter.all false
set_option maxRecDepth 100000
set_option maxHeartbeats 2000000
namespace Sim
open PySem PySem.Spec L2
open PyProof.Rows hiding St
variable [TabT]
/-! ### a list that may change, walked -/
def contL (h : Hs) (n : Nat) : Option (List AV) := match h[n]? with
  | some (.lst ys) => some ys
  | some (.frz (.lst ys)) => some ys
  | _ => none
def lcC (g : GT) (t : EM Bool) (e : EM AV) (env : AEnv) (n : Nat) : Nat → Nat → M (List AV)
  | 0, i => fun h => match contL h n with
    | none => .bad
    | some ys => if i = ys.length then .ok [] h else .bad
  | f + 1, i => fun h => match contL h n with
    | none => .bad
    | some ys => match ys[i]? with
      | none => if i = ys.length then .ok [] h else .bad
      | some x => match g x env with
        | none => .bad
        | some e' => ((noexc (t e')).bnd fun b => if b = true then (noexc (e e')).bnd fun y => (lcC g t e env n f (i + 1)).bnd fun ys => M.ret (y :: ys) else lcC g t e env n f (i + 1)) h
def mLcC (vs : List Nat) (mi : EM AV) (g : GT) (t : EM Bool) (e : EM AV) : EM (List AV) := fun env => (mi env).bnd fun x => match x with
  | .cell n => fun h => match contL h n with
    | none => .bad
    | some ys => if small ys then lcC g t e (wipeE env vs) n ys.length 0 h else .bad
  | _ => M.bad
section
variable {X : Cx} {W : WX} {k : Nat}
theorem lcC_ne {g : GT} {t : EM Bool} {e : EM AV} {env : AEnv} {n : Nat} : ∀ (f i : Nat) (h : Hs) (c : Str) (fs : List (Str × AV)) (h' : Hs), lcC g t e env n f i h ≠ .exc c fs h'
  | 0, i, h, c, fs, h' => by
    unfold lcC
    cases contL h n with
    | none => intro q; cases q
    | some ys =>
      dsimp only
      split <;> (intro q; cases q)
  | f + 1, i, h, c, fs, h' => by
    unfold lcC
    cases contL h n with
    | none => intro q; cases q
    | some ys =>
      dsimp only
      cases ys[i]? with
      | none => dsimp only; split <;> (intro q; cases q)
      | some x =>
        dsimp only
        cases g x env with
        | none => intro q; cases q
        | some e' =>
          dsimp only
          refine bnd_ne (noexc_ne _) (fun b h c fs h' => ?_) h c fs h'
          by_cases hb : b = true
          · rw [if_pos hb]
            exact bnd_ne (noexc_ne _) (fun y h c fs h' => bnd_ne (lcC_ne f (i + 1)) (fun ys h c fs h' q => by cases q) h c fs h') h c fs h'
          · rw [if_neg hb]
            exact lcC_ne f (i + 1) h c fs h'
def IOc (X : Cx) (G : Gh) (J : It) (n : Nat) : Prop := ∀ G1 h1 H1, G.lt G1 → WI X.K X.mg G1 h1 H1 → ∀ ys, contL h1 n = some ys → J.stop ys.length H1 ∧
  ∀ i, i < ys.length → J.go i H1 ∧ ∀ x H2, J.yld i H1 x H2 → ∃ G2 a, G1.le G2 ∧ WI X.K X.mg G2 h1 H2 ∧ ys[i]? = some a ∧ R X.K X.mg G2 a x
def tSIc (X : Cx) (W : WX) (m : EM AV) : TI := fun σ H R => ∃ G h env, WI X.K X.mg G h H ∧ RE X.K X.mg G env σ ∧ match m env h with
  | .ok (.cell n) h' => (contL h' n).isSome = true ∧ ∀ G' H' J, G.le G' → WI X.K X.mg G' h' H' → IOc X G' J n → R J H'
  | .ok _ _ => False
  | .exc c fs h' => ∀ G' H' cls d, G.le G' → WI X.K X.mg G' h' H' → XR X.K X.mg G' c fs cls d → W cls d σ H'
  | .bad => False
structure SIc (X : Cx) (W : WX) (tg iter : Expr) (m : EM AV) : Prop where
  pi : PI X tg iter (tSIc X W m)
variable {tg iter : Expr}
theorem contL_at {K : PySem.W.Frag} {mg : Str → Option Value} {G : Gh} {h : Hs} {H : Hp} {n : Nat} {a : Addr} {ys : List AV} (w : WI K mg G h H) (e : G.mu n = some a) (c : contL h n = some ys) : ∃ vs, H a = some (.lst vs) ∧ Rs K mg G ys vs := by
  unfold contL at c
  cases q : h[n]? with
  | none => rw [q] at c; cases c
  | some cc =>
    rw [q] at c
    have x := w.cells n cc q
    cases cc with
    | lst zs =>
      cases c
      obtain ⟨b, vs, h1, _, _, h2, h3⟩ := x
      rw [e] at h1; cases h1
      exact ⟨vs, h2, h3⟩
    | frz v =>
      cases v with
      | lst zs =>
        cases c
        obtain ⟨b, o, h1, h2, h3⟩ := x
        rw [e] at h1; cases h1
        cases h3 with
        | @lst _ _ vs hF rs => exact ⟨vs, w.F _ _ hF, rs⟩
      | _ => cases c
    | dct _ => cases c
    | ins _ _ => cases c
theorem sic_cell {m : EM AV} (h : SE X W iter m) : SIc X W tg iter m := by
  refine ⟨(pi_list h.pe).weak fun σ H Q ⟨G, h0, env, w, re, p⟩ => ⟨G, h0, env, w, re, ?_⟩⟩
  cases e : m env h0 with
  | bad => rw [e] at p; exact p
  | exc c fs h1 => rw [e] at p; exact p
  | ok x h1 =>
    rw [e] at p
    intro G' H' z l w' r
    cases x with
    | cell n =>
      cases r with
      | @cell _ a hm =>
        have p' : (contL h1 n).isSome = true ∧ ∀ G' H' J, G.le G' → WI X.K X.mg G' h1 H' → IOc X G' J n → Q J H' := p
        obtain ⟨ys0, e0⟩ := Option.isSome_iff_exists.mp p'.1
        obtain ⟨vs0, q0, _⟩ := contL_at w' hm e0
        refine ⟨a, rfl, ⟨vs0, .inl (.inl q0)⟩, p'.2 G' H' _ l w' fun G1 h2 H1 l1 w1 ys ec => ?_⟩
        obtain ⟨vs, q1, rs⟩ := contL_at w1 (l1.mu _ _ hm) ec
        have hS : SqL X.K H1 a vs := .inl (.inl q1)
        have hl := rs.length
        refine ⟨by rw [hl]; exact walk_list.stops H1 hS, fun i hi => ⟨walk_list.goes i H1 (by omega) hS, fun x H2 y => ?_⟩⟩
        obtain ⟨rfl, e⟩ := walk_list.yields i H1 x H2 (by omega) hS y
        obtain ⟨b, e2, rb⟩ := rs.getV e
        exact ⟨G1, b, .refl _, w1, e2, rb⟩
    | _ => exact p.elim
theorem tLcC_of {own : List (Str × Nat)} {mi : EM AV} {ow : List Nat} {g : GT} {bt : EM Bool} {me : EM AV} (how : ∀ i ∈ ow, i ∈ own.map (·.2)) {σ : L2.St} {H : Hp} {Q : VK} (t : tSF X W (mLcC (own.map (·.2)) mi g bt me) σ H Q) :
    tLc (tSIc X W mi) (tSG X ow g) (tST X noW bt) (tSE X noW me) (own.map (·.2)) σ H Q := by
  obtain ⟨G, h, env, w, re, p⟩ := t
  refine ⟨G, h, env, w, re, ?_⟩
  unfold mLcC M.bnd at p
  cases e : mi env h with
  | bad => rw [e] at p; exact p
  | exc c fs h1 => rw [e] at p; exact p
  | ok x h1 =>
    rw [e] at p
    cases x with
    | cell n =>
      dsimp only at p
      cases ec : contL h1 n with
      | none => rw [ec] at p; exact p.elim
      | some xs0 =>
      rw [ec] at p
      dsimp only at p
      by_cases hsm : small xs0 = true
      · rw [if_pos hsm] at p
        have hlen : xs0.length ≤ sizeLine := of_decide_eq_true hsm
        refine ⟨by rw [ec]; rfl, ?_⟩
        intro G' H' J l w' ik D hD
        have hZD := w'.freeZ hD
        -- what is left: from as, xs' at store h2
        refine ⟨fun i m H2 => ∃ G1 h2 as vacc, G'.le G1 ∧ Rs X.K X.mg G1 as vacc ∧ WI X.K X.mg (G1.hold D vacc) h2 H2 ∧ as.length ≤ i ∧ m = xs0.length - i ∧ i ≤ xs0.length ∧
            (match ((lcC g bt me (wipeE env (own.map (·.2))) n (xs0.length - i) i).bnd fun ys => M.ret (as ++ ys)) h2 with
              | .ok zs h' => ∀ G3 H3 p vs, G1.le G3 → WI X.K X.mg G3 h' H3 → H3 p = none → Rs X.K X.mg G3 zs vs → Q (.ref p) (upd H3 p (.lst vs))
              | _ => False), ⟨xs0.length, G', h1, [], [], .refl _, .nil, w'.hold hD, Nat.le_refl _, by simp, Nat.zero_le _, ?_⟩, ?_⟩
        · rw [Nat.sub_zero]
          unfold M.bnd
          cases e2 : lcC g bt me (wipeE env (own.map (·.2))) n xs0.length 0 h1 with
          | ok zs h3 => rw [e2] at p; exact fun G3 H3 q vs l3 => p G3 H3 q vs (l.trans l3)
          | exc c fs h3 =>
            exfalso
            exact lcC_ne _ _ h1 c fs h3 e2
          | bad => rw [e2] at p; exact p
        · rintro i m H2 ⟨G1, h2, as, vacc, l1, ra, w2, hal, rfl, hi2, p2⟩
          have hZ1 : G1.Z D = none := by rw [l1.Z]; exact hZD
          cases ey : contL h2 n with
          | none =>
            have z : lcC g bt me (wipeE env (own.map (·.2))) n (xs0.length - i) i h2 = .bad := by
              cases xs0.length - i <;> (unfold lcC; rw [ey])
            unfold M.bnd at p2
            rw [z] at p2
            exact p2.elim
          | some ys =>
          obtain ⟨stop, go⟩ := ik (G1.hold D vacc) h2 H2 (l1.lt.trans (G1.hold_lt D vacc)) w2 ys ey
          cases ex : ys[i]? with
          | some x0 =>
            have hlt : i < ys.length := (List.getElem?_eq_some_iff.mp ex).1
            have hlt2 : i < xs0.length := by
              refine Nat.lt_of_not_le fun hh => ?_
              have z : lcC g bt me (wipeE env (own.map (·.2))) n (xs0.length - i) i h2 = .bad := by
                rw [show xs0.length - i = 0 by omega]
                unfold lcC
                rw [ey]
                dsimp only
                rw [if_neg (by omega)]
              unfold M.bnd at p2
              rw [z] at p2
              exact p2.elim
            obtain ⟨go1, yld⟩ := go i hlt
            refine .inr ⟨go1, fun H3 => ∃ G1 h2 as vacc, G'.le G1 ∧ Rs X.K X.mg G1 as vacc ∧ WI X.K X.mg (G1.hold D vacc) h2 H3 ∧ as.length ≤ i + 1 ∧
                (match ((lcC g bt me (wipeE env (own.map (·.2))) n (xs0.length - (i + 1)) (i + 1)).bnd fun ys => M.ret (as ++ ys)) h2 with
                  | .ok zs h' => ∀ G3 H3 p vs, G1.le G3 → WI X.K X.mg G3 h' H3 → H3 p = none → Rs X.K X.mg G3 zs vs → Q (.ref p) (upd H3 p (.lst vs))
                  | _ => False), ?_, ?_⟩
            · rintro H3 ⟨G2, h3, as2, vacc2, q1, q2, q3, q4, q5⟩
              exact ⟨xs0.length - (i + 1), by omega, G2, h3, as2, vacc2, q1, q2, q3, q4, rfl, hlt2, q5⟩
            · intro x H3 y
              obtain ⟨G2, a, l2, w3, ea, rx⟩ := yld x H3 y
              have ex2 : x0 = a := by rw [ex] at ea; exact Option.some.inj ea
              subst ex2
              rw [show xs0.length - i = (xs0.length - (i + 1)) + 1 by omega] at p2
              unfold M.bnd at p2
              unfold lcC at p2
              rw [ey] at p2
              dsimp only at p2
              rw [ex] at p2
              dsimp only at p2
              have rew : RE X.K X.mg G2 (wipeE env (own.map (·.2))) (wipe σ (own.map (·.2))) := (((re.mono (l.trans l1)).wipe _).monoL (G1.hold_lt D vacc)).mono l2
              cases eg : g x0 (wipeE env (own.map (·.2))) with
              | none => rw [eg] at p2; exact p2.elim
              | some e2 =>
                rw [eg] at p2
                dsimp only at p2
                refine ⟨G2, h2, _, x0, e2, w3, rew, rx, eg, fun G3 H4 σ3 l3 w4 re3 bu => ⟨by rw [bu _ how]; exact wipe_idem _ _, ?_⟩⟩
                refine ⟨G3, h2, e2, w4, re3, ?_⟩
                -- the test
                unfold M.bnd at p2
                cases et : noexc (bt e2) h2 with
                | bad => rw [et] at p2; exact p2.elim
                | exc c fs h3 => rw [et] at p2; exact p2.elim
                | ok b h3 =>
                  rw [et] at p2
                  dsimp only at p2
                  have et2 : bt e2 h2 = .ok b h3 := by
                    unfold noexc at et
                    split at et
                    · cases et
                    · exact et
                  rw [et2]
                  intro G4 H5 b' l4 w5 rb
                  subst rb
                  by_cases hb : b = true
                  · rw [if_pos hb] at p2 ⊢
                    refine ⟨G4, h3, e2, w5, re3.mono l4, ?_⟩
                    cases ee : noexc (me e2) h3 with
                    | bad => rw [ee] at p2; exact p2.elim
                    | exc c fs h4 => rw [ee] at p2; exact p2.elim
                    | ok yv h4 =>
                      rw [ee] at p2
                      dsimp only at p2
                      have ee2 : me e2 h3 = .ok yv h4 := by
                        unfold noexc at ee
                        split at ee
                        · cases ee
                        · exact ee
                      rw [ee2]
                      intro G5 H6 yy l5 w6 ry
                      -- the list grows
                      obtain ⟨lu, eu⟩ := unhold (l2.trans (l3.trans (l4.trans l5)))
                      rw [eu] at w6
                      obtain ⟨hDD, w7⟩ := w6.letgo (by show G1.Z D = none; exact hZ1)
                      refine ⟨vacc, hDD, ?_, ({ G5 with Z := G1.Z } : Gh), h4, as ++ [yv], vacc ++ [yy], l1.trans lu, ?_, ?_, ?_, ?_⟩
                      · rw [← ra.length]; omega
                      · exact Rs.append (ra.mono lu) (.cons (R.monoL (G := G5) (G' := { G5 with Z := G1.Z }) ⟨Same.refl _, fun _ _ q => q, rfl⟩ ry) .nil)
                      · have w8 := w7.hold (D := D) (vs := vacc ++ [yy]) offH_at
                        have eqh : upd (offH H6 D) D (.lst (vacc ++ [yy])) = upd H6 D (.lst (vacc ++ [yy])) := by
                          funext b
                          by_cases hb2 : b = D
                          · subst hb2; rw [upd_same, upd_same]
                          · rw [upd_ne hb2, upd_ne hb2]; unfold offH; rw [if_neg hb2]
                        rw [eqh] at w8
                        exact w8
                      · rw [List.length_append, List.length_singleton]; omega
                      · cases er : lcC g bt me (wipeE env (own.map (·.2))) n (xs0.length - (i + 1)) (i + 1) h4 with
                        | bad => rw [er] at p2; exact p2.elim
                        | exc c fs h5 => rw [er] at p2; exact p2.elim
                        | ok zs h5 =>
                          rw [er] at p2
                          have p3 : ∀ G3 H3 p vs, G1.le G3 → WI X.K X.mg G3 h5 H3 → H3 p = none → Rs X.K X.mg G3 (as ++ yv :: zs) vs → Q (.ref p) (upd H3 p (.lst vs)) := p2
                          unfold M.bnd
                          rw [er]
                          intro G6 H7 pp vs l6 w9 hp rs
                          have rs' : Rs X.K X.mg G6 (as ++ yv :: zs) vs := by
                            have e1 : as ++ [yv] ++ zs = as ++ yv :: zs := by rw [List.append_assoc]; rfl
                            rw [← e1]; exact rs
                          exact p3 G6 H7 pp vs (lu.trans l6) w9 hp rs'
                  · rw [if_neg hb] at p2 ⊢
                    obtain ⟨lu, eu⟩ := unhold (l2.trans (l3.trans l4))
                    rw [eu] at w5
                    refine ⟨({ G4 with Z := G1.Z } : Gh), h3, as, vacc, l1.trans lu, ra.mono lu, w5, by omega, ?_⟩
                    cases er : lcC g bt me (wipeE env (own.map (·.2))) n (xs0.length - (i + 1)) (i + 1) h3 with
                    | bad => rw [er] at p2; exact p2.elim
                    | exc c fs h5 => rw [er] at p2; exact p2.elim
                    | ok zs h5 =>
                      rw [er] at p2
                      have p3 : ∀ G3 H3 p vs, G1.le G3 → WI X.K X.mg G3 h5 H3 → H3 p = none → Rs X.K X.mg G3 (as ++ zs) vs → Q (.ref p) (upd H3 p (.lst vs)) := p2
                      unfold M.bnd
                      rw [er]
                      exact fun G6 H7 pp vs l6 => p3 G6 H7 pp vs (lu.trans l6)
          | none =>
            have ei : i = ys.length := by
              refine Classical.byContradiction fun hh => ?_
              have z : lcC g bt me (wipeE env (own.map (·.2))) n (xs0.length - i) i h2 = .bad := by
                cases xs0.length - i with
                | zero => unfold lcC; rw [ey]; dsimp only; rw [if_neg hh]
                | succ f => unfold lcC; rw [ey]; dsimp only; rw [ex]; dsimp only; rw [if_neg hh]
              unfold M.bnd at p2
              rw [z] at p2
              exact p2.elim
            have z : lcC g bt me (wipeE env (own.map (·.2))) n (xs0.length - i) i h2 = .ok [] h2 := by
              cases xs0.length - i with
              | zero => unfold lcC; rw [ey]; dsimp only; rw [if_pos ei]
              | succ f => unfold lcC; rw [ey]; dsimp only; rw [ex]; dsimp only; rw [if_pos ei]
            unfold M.bnd at p2
            rw [z] at p2
            rw [ei]
            refine .inl ⟨stop, ?_⟩
            obtain ⟨hDD, w7⟩ := w2.letgo hZ1
            have p3 : ∀ G3 H3 p vs, G1.le G3 → WI X.K X.mg G3 h2 H3 → H3 p = none → Rs X.K X.mg G3 (as ++ []) vs → Q (.ref p) (upd H3 p (.lst vs)) := p2
            have q := p3 G1 (offH H2 D) D vacc (.refl _) w7 offH_at (by rw [List.append_nil]; exact ra)
            rw [offH_upd hDD] at q
            exact q
      · rw [if_neg hsm] at p; exact p.elim
    | _ => exact p.elim

theorem sf_lcC {elt : Expr} {ifs : List Expr} {scope : Scope} {own : List (Str × Nat)} {pos : Pos} {mi : EM AV} {ow : List Nat} {g : GT} {bt : EM Bool} {me : EM AV} (O : Ok X W k) (hi : SIc X W tg iter mi) (ok : BlkOk X.N X.env.scope scope own) (how : ∀ i ∈ ow, i ∈ own.map (·.2))
    (hg : ∀ s H C cl fp, SG (blkX X scope s H C cl fp) tg ow g) (ht : ∀ s H C cl fp, STs (blkX X scope s H C cl fp) noW ifs bt) (he : ∀ s H C cl fp, SE (blkX X scope s H C cl fp) noW elt me) (hs : ∀ x, foldedSetIterable iter X.env x = pure x := by intro _; rfl) :
    SF X W (.ListComp elt [⟨tg, iter, ifs, 0⟩] scope pos) (mLcC (own.map (·.2)) mi g bt me) :=
  ⟨(pe_lc (tt := tST X noW bt) (g := tSG X ow g) (te := tSE X noW me) O.calm O.nd hi.pi ok (fun s H C cl fp => (hg s H C cl fp).pg) (fun s H C cl fp => (ht s H C cl fp).pts) (fun s H C cl fp => (he s H C cl fp).pe) hs).weak fun σ H Q t => tLcC_of how t⟩
end
theorem Ok.u64 {X : Cx} {W : WX} {k : Nat} (O : Ok X W k) : X.A.units + 64 < cLine := O.hr.units
theorem Ok.u65 {X : Cx} {W : WX} {k : Nat} (O : Ok X W k) : X.A.units + 65 < cLine := by have := O.hr.un; omega
theorem Ok.u0 {X : Cx} {W : WX} {k : Nat} (O : Ok X W k) : X.A.units < cLine := O.hr.units0
end Sim

set_option Elab.async false
set_option linter.all false
set_option maxRecDepth 100000
set_option maxHeartbeats 2000000
namespace Sim
open PySem PySem.Spec L2
open PyProof.Rows hiding St
variable [TabT]
/-! SimQ: own classes: attributes, stores, making, methods, own ==. -/
/-- each of these classes is plain and has no f of its own -/
def FldOk (K : PySem.W.Frag) (mg : Str → Option Value) (cs : List Str) (f : Str) : Prop := ∀ c ∈ cs, ∃ C, mg c = some (.ref C) ∧ Cls K C ∧ NoAttr K C f
theorem FldOk.nil {K : PySem.W.Frag} {mg : Str → Option Value} {f : Str} : FldOk K mg [] f := fun _ h => nomatch h
theorem FldOk.cons {K : PySem.W.Frag} {mg : Str → Option Value} {f c : Str} {C : Addr} {cs : List Str} (g : mg c = some (.ref C)) (cl : Cls K C) (na : NoAttr K C f) (r : FldOk K mg cs f) : FldOk K mg (c :: cs) f := fun d hd => by
  rcases List.mem_cons.mp hd with e | e
  · subst e; exact ⟨C, g, cl, na⟩
  · exact r d e
/-- an instance: its class, its attributes -/
def insOf (h : Hs) : AV → Option (Str × List (Str × AV))
  | .obj c fs => some (c, fs)
  | .cell n => match h[n]? with
    | some (.ins c fs) => some (c, fs)
    | some (.frz (.obj c fs)) => some (c, fs)
    | _ => none
  | _ => none
def fldA (cs : List Str) (f : Str) (h : Hs) (x : AV) : Option AV := match insOf h x with
  | some (c, fs) => if c ∈ cs then fs.lookup f else none
  | none => none
section
variable {K : PySem.W.Frag} {mg : Str → Option Value} {G G' : Gh} {h : Hs} {H : Hp}
theorem R.ins {x : AV} {v : V} {c : Str} {fs : List (Str × AV)} (w : WI K mg G h H) (r : R K mg G x v) (e : insOf h x = some (c, fs)) :
    ∃ a C dx vfs, v = .ref a ∧ mg c = some (.ref C) ∧ H a = some (.ins C dx vfs) ∧ Rf K mg G fs vfs := by
  cases r with
  | @obj c0 C a dx fs0 vfs hc he t => cases e; exact ⟨a, C, dx, vfs, rfl, hc, w.F _ _ he, t⟩
  | @cell n a hm =>
    have eq : insOf h (.cell n) = (match h[n]? with | some (.ins c fs) => some (c, fs) | some (.frz (.obj c fs)) => some (c, fs) | _ => none) := rfl
    rw [eq] at e
    cases hn : h[n]? with
    | none => rw [hn] at e; cases e
    | some c1 =>
      rw [hn] at e
      cases c1 with
      | lst ys => cases e
      | dct ys => cases e
      | ins c2 fs2 =>
        cases e
        obtain ⟨b, C, dx, vfs, h1, h2, hz, hc, h3, h4⟩ := w.cells n _ hn
        rw [hm] at h1; cases h1
        exact ⟨a, C, dx, vfs, rfl, hc, h3, h4⟩
      | frz u =>
        obtain ⟨b, o, h1, h2, h3⟩ := w.cells n _ hn
        rw [hm] at h1; cases h1
        cases u with
        | obj c2 fs2 =>
          cases e
          cases h3 with | @obj _ C _ dx _ vfs hc he t => exact ⟨a, C, dx, vfs, rfl, hc, w.F _ _ he, t⟩
        | _ => cases e
  | _ => cases e
theorem Rf.put {f : Str} {x : AV} {v : V} (r : R K mg G x v) : ∀ {fs : List (Str × AV)} {vfs : List (Str × V)}, Rf K mg G fs vfs → Rf K mg G (putA f x fs) (putF f v vfs)
  | _, _, .nil => .cons r .nil
  | (g, y) :: fs, (_, w) :: vfs, .cons q t => by
    show Rf K mg G (if g = f then (g, x) :: fs else (g, y) :: putA f x fs) (if g = f then (g, v) :: vfs else (g, w) :: putF f v vfs)
    by_cases e : g = f
    · rw [if_pos e, if_pos e]; exact .cons r t
    · rw [if_neg e, if_neg e]; exact .cons q (Rf.put r t)
end
section
variable {X : Cx} {W : WX} {k : Nat} {e o : Expr} {m mo : EM AV} {pos pos' : Pos}
theorem se_fld {cs : List Str} {f : Str} (ok : FldOk X.K X.mg cs f) (he : SE X W e m) (hb : attributeBase e f X.env (eval e X.env) = eval e X.env := by rfl) : SE X W (.Attribute e f pos) (m1 (fldA cs f) m) := by
  refine ⟨(pe_fld he.pe hb).weak fun σ H Q ⟨G, h, env, w, re, p⟩ => ⟨G, h, env, w, re, post_bnd p fun a h1 G1 H1 x l1 w1 ra p1 => ?_⟩⟩
  obtain ⟨c, e1, q⟩ := post_rd p1
  unfold fldA at e1
  cases e2 : insOf h1 a with
  | none => rw [e2] at e1; cases e1
  | some cf =>
    obtain ⟨cn, fs⟩ := cf
    rw [e2] at e1
    dsimp only at e1
    split at e1
    · rename_i hc
      obtain ⟨ad, C, dx, vfs, rfl, g, hH, rf⟩ := ra.ins w1 e2
      obtain ⟨C2, g2, cl, na⟩ := ok cn hc
      rw [g] at g2
      cases g2
      obtain ⟨v, l, rv⟩ := rf.look e1
      exact ⟨ad, C, dx, vfs, v, rfl, hH, cl, na, l, q G1 H1 v (.refl G1) w1 rv⟩
    · cases e1
/-- o.f = e, o a cell -/
def sFldS (cs : List Str) (f : Str) (mv mo : EM AV) : SM := sThen mv fun v => sThen mo fun o env h => match o with
  | .cell n => (match h[n]? with
    | some (.ins c fs) => if c ∈ cs ∧ fs.length < 1000 then .nx env (h.set n (.ins c (putA f v fs))) else .bad
    | _ => .bad)
  | _ => .bad
theorem ss_fld {cs : List Str} {f : Str} {p2 : Pos} (ok : FldOk X.K X.mg cs f) (hv : SE X W e m) (ho : SE X W o mo) (hs : swapsWith e (some (.Attribute o f p2)) pos.line X.env = pure false := by rfl) : SS X W (.Assign [.Attribute o f p2] e pos) (sFldS cs f m mo) := by
  refine ⟨(ps_fld ho.pe hv.pe hs).weak fun D σ H ⟨G, h, env, w, re, p⟩ => ?_⟩
  unfold sFldS at p
  refine ⟨G, h, env, w, re, postS_then re p fun v h1 G1 H1 y l1 w1 rv re1 p1 => ⟨G1, h1, env, w1, re1, postS_then re1 p1 fun ov h2 G2 H2 x l2 w2 ro re2 p2 => ?_⟩⟩
  cases ov with
  | cell n =>
    dsimp only at p2
    cases hn : h2[n]? with
    | none => rw [hn] at p2; exact p2.elim
    | some c1 =>
      rw [hn] at p2
      cases c1 with
      | ins cn fs =>
        dsimp only at p2
        split at p2
        · rename_i hc
          cases ro with
          | @cell _ a hm =>
            obtain ⟨b, C, dx, vfs, h1', h2', hz, g, h3, h4⟩ := w2.cells n _ hn
            rw [hm] at h1'; cases h1'
            obtain ⟨C2, g2, cl, na⟩ := ok cn hc.1
            rw [g] at g2; cases g2
            refine ⟨a, C, dx, vfs, rfl, h3, cl, na, by rw [← h4.length]; exact hc.2, ?_⟩
            have hl : n < h2.length := w2.bnd n _ hm
            refine p2 G2 _ σ (.refl G2) (w2.put hl hm h2' hz ⟨a, C, dx, _, hm, h2', hz, g, upd_same, Rf.put (rv.mono l2) h4⟩) re2
        · exact p2.elim
      | lst _ => exact p2.elim
      | dct _ => exact p2.elim
      | frz _ => exact p2.elim
  | _ => exact p2.elim
end
/-! ### an instance is made -/
/-- C(..): __init__ fills it, from then on it does not change -/
def mMake (n : Nat) (c : Str) (m : FM) (as : EM (List AV)) : EM AV := fun env => (as env).bnd fun avs h =>
  if avs.length + 1 = n ∧ noCs avs = true then (match m (.cell 0 :: avs) [.ins c []] with
    | .ok .non (.ins c' fs :: _) => if c' = c ∧ noCf fs = true then .ok (.obj c fs) h else .bad
    | .exc x fs _ => if noCf fs then .exc x fs h else .bad
    | _ => .bad) else .bad
def tMakeS (C : Addr) (sp : Sp) (E : L2.St → XK) (t : TA) : TE := fun σ H Q => t σ H fun vs H1 => ∀ x dx, H1 x = none → H1 dx = none → dx ≠ x →
  sp (.ref x :: vs) (upd (upd H1 dx (.own x)) x (.ins C dx [])) (fun v H2 => v = .non ∧ Q (.ref x) H2) (E σ)
section
variable {X : Cx} {W : WX} {j k : Nat} {f C : Addr} {fd : FuncData} {ps : List Str} {sp : Sp} {E : L2.St → XK} {x : Str} {p pos apos : Pos} {e o : Expr} {es : List Expr} {t : TA} {ta : TE}
theorem run_makeS {pins : List (Addr × Obj)} {σ : L2.St} {H : Hp} {s : Shared} {Q : VK} {us : List Value} {vs : List V} (M : Mk X.K C f) (F : FnOk X.prog X.w X.K X.mg X.base (L2.CX X.prog X.w) k f fd ps sp) (hr : Room (k + 1) X.A) (hb : Binds X.K fd ps [])
    (hx : PassesAt (L2.CX X.prog X.w) X σ (E σ)) (I : Inv X pins σ H s) (r : Vals vs us)
    (h : ∀ x dx, H x = none → H dx = none → dx ≠ x → sp (.ref x :: vs) (upd (upd H dx (.own x)) x (.ins C dx [])) (fun v H2 => v = .non ∧ Q (.ref x) H2) (E σ)) :
    wpAny (model X.prog X.w) X.A (call (.ref C) us) (EP X pins σ Q) X.xe s := by
  have hq := h (s.heap.objs.size + 1) s.heap.objs.size (I.hok.fresh (Nat.le_succ _)) (I.hok.fresh (Nat.le_refl _)) (Nat.ne_of_lt (Nat.lt_succ_self _))
  have I2 := Inv.made (C := C) I
  have r2 : Vals (V.ref (s.heap.objs.size + 1) :: vs) (Value.ref (s.heap.objs.size + 1) :: us) := .cons rfl r
  have hl : (Value.ref (s.heap.objs.size + 1) :: us).length = ps.length := by
    have e := r2.length
    rw [F.len _ _ _ _ hq] at e
    exact e.symm
  have b := hb _ (Value.ref (s.heap.objs.size + 1) :: us) I2.kIn (by rw [List.append_nil]; exact hl)
  rw [List.append_nil] at b
  refine wpAny_call (make_map (f := f) I.kIn M.makes M.init (beq_iff_eq.mp M.fn) (codeAny_mono (F.run _ X.stack _ _ ⟨Value.ref (s.heap.objs.size + 1) :: us, []⟩ (Value.ref (s.heap.objs.size + 1) :: us) _ _ (E σ) (hr.make C us [])
    (I2.env0.make C us []) b r2 hq) fun r s' hq' => ?_))
  cases r with
  | error e => exact hx pins _ _ e s' I2 hq'
  | ok fl =>
    cases fl with
    | ret u =>
      obtain ⟨v, H', I3, rv, ev, q3⟩ := I2.after hq'
      subst ev
      exact ⟨rv, ⟨V.ref (s.heap.objs.size + 1), H', I3, rfl, q3⟩⟩
    | next => exact False.elim hq'
    | brk => exact False.elim hq'
    | cont => exact False.elim hq'
theorem pe_makeS (M : Mk X.K C f) (F : FnOk X.prog X.w X.K X.mg X.base (L2.CX X.prog X.w) k f fd ps sp) (hr : Room (k + 1) X.A) (hg : Gl X x) (hm : X.mg x = some (.ref C)) (hb : Binds X.K fd ps []) (hx : ∀ σ, PassesAt (L2.CX X.prog X.w) X σ (E σ))
    (ha : PA X (e :: es) t) (hdb : (x == ("__debug__" : Str)) = false := by decide) (he : starEach (e :: es) X.env = (false, eval e X.env) :: starEach es X.env := by rfl) (hpl : (backTo pos (starEach es X.env)).any (·.1) = false := by rfl) :
    PE X (.Call (.Name x p) (e :: es) [] pos) (tMakeS C sp E t) := by
  refine ⟨fun pins s σ H Q I h => ?_⟩
  refine wpAny_Call_Name_kw (ld_glob I hg hm ?_ hdb)
  refine PySem.W.callWith_K (h₀ := X.base) I.ok.mod.kin M.kp (thn (ha.run pos pins s σ H _ I h) fun us s1 ⟨vs, H1, I1, r, q⟩ => ⟨I1.kIn, ?_⟩) he hpl
  exact run_makeS M F hr hb (hx σ) I1 r q
variable {n : Nat} {c : Str} {m : FM} {as : EM (List AV)}
theorem tMake_of (hm : X.mg c = some (.ref C)) {σ : L2.St} {H : Hp} {Q : VK} (t : tSE X W (mMake n c m as) σ H Q) : tMakeS C (spM X.K X.mg n m) (WE W) (tSA X W as) σ H Q := by
  obtain ⟨G, h, env, w, re, p⟩ := t
  refine ⟨G, h, env, w, re, post_bnd p fun avs h1 G1 H1 vs l1 w1 rs p1 a dx ha hdx hne => ?_⟩
  by_cases hl : avs.length + 1 = n ∧ noCs avs = true
  · rw [if_pos hl] at p1
    have wa := w1.newF (o := .own a) hdx (fun ps z => by cases z)
    have la : G1.le (G1.addF dx (.own a)) := Gh.addF_le (w1.freeF hdx)
    have hax : upd H1 dx (.own a) a = none := by rw [upd_ne (Ne.symm hne)]; exact ha
    generalize upd H1 dx (.own a) = Ha at wa hax ⊢
    generalize G1.addF dx (.own a) = Ga at wa la ⊢
    have wz := wa.aside fun _ => True
    have w0 : WI X.K X.mg { F := Ga.F, mu := fun _ => none, Z := Sim.aside Ga Ha fun _ => True, T := Ga.T } [] Ha :=
      ⟨wa.F, wz.1, wz.2.1, fun _ _ q => by simp at q, fun _ _ q => (nomatch q), fun _ _ _ q => (nomatch q), wa.tb.T, wa.tb.nF, wz.2.2⟩
    have hF0 : Ga.F a = none := wa.freeF hax
    have hZ0 : Sim.aside Ga Ha (fun _ => True) a = none := wz.1.free hax
    have w2 := w0.newC (p := a) (o := .ins C dx []) (c := .ins c []) hax ⟨a, C, dx, [], by show (if (0 : Nat) = 0 then some a else none) = some a; rw [if_pos rfl], hF0, hZ0, hm, upd_same, .nil⟩
    refine ⟨by rw [List.length_cons, ← rs.length]; exact hl.1, _, _, .cell 0 :: avs, w2, .cons (.cell (by show (if (0 : Nat) = 0 then some a else none) = some a; rw [if_pos rfl])) (Rs.lower (by exact la.F) hl.2 rs), ?_⟩
    show postF X.K X.mg _ _ _ (m (.cell 0 :: avs) [.ins c []])
    have fin : ∀ {Gz : Gh} {hz : Hs} {Hz : Hp}, Same Ga.F Gz.F → Gz.Z = Sim.aside Ga Ha (fun _ => True) → Gz.T = Ga.T → WI X.K X.mg Gz hz Hz → G1.le { F := Gz.F, mu := Ga.mu, Z := Ga.Z, T := Ga.T } ∧ WI X.K X.mg { F := Gz.F, mu := Ga.mu, Z := Ga.Z, T := Ga.T } h1 Hz := fun {Gz hz Hz} e1 e2 e3 wq => by
      obtain ⟨b1, b2, b3, b4, b5, b6⟩ := wa.back wq e1 e2 e3
      exact ⟨la.trans b1, b2, b3, b4, fun i c hc => b5 i c trivial hc, wa.bnd, wa.inj, b6⟩
    cases e : m (.cell 0 :: avs) [.ins c []] with
    | bad => rw [e] at p1; exact p1
    | exc x fs h2 =>
      rw [e] at p1
      dsimp only at p1
      split at p1
      · rename_i hv
        intro G2 H2 cls d l wq xr
        obtain ⟨le, w3⟩ := fin l.F l.Z l.T wq
        obtain ⟨C2, x1, x2, x3⟩ := xr
        refine p1 _ H2 cls d le w3 ⟨C2, x1, x2, ?_⟩
        rcases x3 with x3 | ⟨b, vfs, x4, x5, x6⟩
        · exact .inl x3
        · exact .inr ⟨b, vfs, x4, x5, Rf.lower (G := G2) (G' := { F := G2.F, mu := Ga.mu, Z := Ga.Z, T := Ga.T }) (Same.refl G2.F) hv x6.1, x6.2⟩
      · exact p1.elim
    | ok v h2 =>
      rw [e] at p1
      cases v with
      | non =>
        cases h2 with
        | nil => exact p1.elim
        | cons c1 r =>
          cases c1 with
          | ins c' fs =>
            dsimp only at p1
            split at p1
            · rename_i hv
              obtain ⟨rfl, hv⟩ := hv
              intro G2 H2 z l wq rz
              cases rz
              refine ⟨rfl, ?_⟩
              have m0 : G2.mu 0 = some a := l.mu 0 a (by show (if (0 : Nat) = 0 then some a else none) = some a; rw [if_pos rfl])
              obtain ⟨G3, l3, w3, r3⟩ := R.frz (x := .cell 0) (a := .obj c' fs) (h' := .frz (.obj c' fs) :: r) wq (.cell m0) rfl
              obtain ⟨le, w4⟩ := fin (l.trans l3).F (l.trans l3).Z (l.trans l3).T w3
              exact p1 _ H2 _ le w4 (R.lower (G := G3) (G' := { F := G3.F, mu := Ga.mu, Z := Ga.Z, T := Ga.T }) (Same.refl G3.F) (by rw [noC]; exact hv) r3)
            · exact p1.elim
          | lst _ => exact p1.elim
          | dct _ => exact p1.elim
          | frz _ => exact p1.elim
      | _ => exact p1.elim
  · rw [if_neg hl] at p1; exact p1.elim
theorem se_make (O : Ok X W j) (M : Mk X.K C f) (F : FnOk X.prog X.w X.K X.mg X.base (L2.CX X.prog X.w) k f fd ps (spM X.K X.mg n m)) (hk : k + 1 ≤ j) (hm : X.mg c = some (.ref C)) (hb : Binds X.K fd ps []) (ha : SA X W (e :: es) as) (hg : Gl X c := by rfl)
    (hdb : (c == ("__debug__" : Str)) = false := by decide) (he : starEach (e :: es) X.env = (false, eval e X.env) :: starEach es X.env := by rfl) (hpl : (backTo pos (starEach es X.env)).any (·.1) = false := by rfl) :
    SE X W (.Call (.Name c p) (e :: es) [] pos) (mMake n c m as) :=
  ⟨(pe_makeS M F (O.hr.mono hk) hg hm hb (fun σ => passAt O.tk σ) ha.pa hdb he hpl).weak fun σ H Q q => tMake_of hm q⟩
/-! ### methods -/
def tMethS (C : Addr) (m : Str) (sp : Sp) (E : L2.St → XK) (ta : TE) (t : TA) : TE := fun σ H Q => ta σ H fun x H1 => ∃ a dx fs, x = .ref a ∧ H1 a = some (.ins C dx fs) ∧ fs.lookup m = none ∧
  t σ H1 fun vs H2 => sp (x :: vs) H2 Q (E σ)
theorem pe_methSS {m : Str} {pl : Sem Bool} (he : PE X o ta) (c : Cls X.K C) (hm : Meth X.K C m f) (F : FnOk X.prog X.w X.K X.mg X.base (L2.CX X.prog X.w) k f fd ps sp) (hr : Room k X.A) (hb : Binds X.K fd ps []) (hx : ∀ σ, PassesAt (L2.CX X.prog X.w) X σ (E σ)) (ha : PA X (e :: es) t)
    (hst : starEach (e :: es) X.env = (false, eval e X.env) :: starEach es X.env := by rfl) (hpl : (backTo pos (starEach es X.env)).any (·.1) = false := by rfl)
    (ht : eval (.Call (.Attribute o m apos) (e :: es) [] pos) X.env = (do
      let ov ← eval o X.env
      standAt apos.atName
      let (f, first) ← holding [ov] (getMethod ov m pl)
      callWith pos f first (backTo pos (starEach (e :: es) X.env)) (backToKw pos (keywordEach [] X.env))) := by rfl) :
    PE X (.Call (.Attribute o m apos) (e :: es) [] pos) (tMethS C m sp E ta t) := by
  refine ⟨fun pins s σ H Q I h => ?_⟩
  refine PySem.W.methodCall_KW (pl := pl) (thn (he.run pins s σ H _ I h) fun u s1 ⟨x, H1, I1, rx, a, dx, fs, ex, ea, l, q⟩ => ?_) ht
  subst ex
  obtain rfl : u = Value.ref a := rx
  refine getmeth_ok I1 ea c hm l ?_
  refine PySem.W.callWith_K (first := [.ref a]) (h₀ := X.base) I.ok.mod.kin hm.kp (thn (ha.run pos pins s1 σ H1 _ I1 q) fun us s2 ⟨vs, H2, I2, r, q2⟩ => ⟨I2.kIn, ?_⟩) hst hpl
  exact run_fnS (us := .ref a :: us) (vs := .ref a :: vs) F hr hb (hx σ) I2 (.cons rfl r) q2
theorem pe_methSS0 {m : Str} {pl : Sem Bool} (he : PE X o ta) (c : Cls X.K C) (hm : Meth X.K C m f) (F : FnOk X.prog X.w X.K X.mg X.base (L2.CX X.prog X.w) k f fd ps sp) (hr : Room k X.A) (hb : Binds X.K fd ps []) (hx : ∀ σ, PassesAt (L2.CX X.prog X.w) X σ (E σ))
    (ht : eval (.Call (.Attribute o m apos) [] [] pos) X.env = (do
      let ov ← eval o X.env
      standAt apos.atName
      let (f, first) ← holding [ov] (getMethod ov m pl)
      callWith pos f first (backTo pos (starEach [] X.env)) (backToKw pos (keywordEach [] X.env))) := by rfl) :
    PE X (.Call (.Attribute o m apos) [] [] pos) (tMethS C m sp E ta tNil) := by
  refine ⟨fun pins s σ H Q I h => ?_⟩
  refine PySem.W.methodCall_KW (pl := pl) (thn (he.run pins s σ H _ I h) fun u s1 ⟨x, H1, I1, rx, a, dx, fs, ex, ea, l, q⟩ => ?_) ht
  subst ex
  obtain rfl : u = Value.ref a := rx
  refine getmeth_ok I1 ea c hm l ?_
  exact PySem.W.callWith_K0 (first := [.ref a]) I1.kIn hm.kp (run_fnS (us := [.ref a]) (vs := [.ref a]) F hr hb (hx σ) I1 (.cons rfl .nil) q)
/-- o.m(..), o of the class c: mc the way of calling -/
def mMeth (c mn : Str) (mc : FM) (mo : EM AV) (as : EM (List AV)) : EM AV := fun env => (mo env).bnd fun o h => match insOf h o with
  | some (c', fs) => if c' = c ∧ fs.lookup mn = none then ((as env).bnd fun avs => mc (o :: avs)) h else .bad
  | none => .bad
theorem Rf.none {K : PySem.W.Frag} {mg : Str → Option Value} {G : Gh} {fs : List (Str × AV)} {vfs : List (Str × V)} {f : Str} (r : Rf K mg G fs vfs) (e : fs.lookup f = none) : vfs.lookup f = none := r.lookN e
theorem tMeth_of {mn : Str} {mc : FM} {mo : EM AV} (hC : X.mg c = some (.ref C)) (hc : CallOk X.K X.mg n m mc) {σ : L2.St} {H : Hp} {Q : VK} (t : tSE X W (mMeth c mn mc mo as) σ H Q) : tMethS C mn (spM X.K X.mg n m) (WE W) (tSE X W mo) (tSA X W as) σ H Q := by
  obtain ⟨G, h, env, w, re, p⟩ := t
  refine ⟨G, h, env, w, re, post_bnd p fun ov h1 G1 H1 v l1 w1 ro p1 => ?_⟩
  cases e : insOf h1 ov with
  | none => rw [e] at p1; exact p1.elim
  | some cf =>
    obtain ⟨c', fs⟩ := cf
    rw [e] at p1
    dsimp only at p1
    split at p1
    · rename_i hcc
      obtain ⟨rfl, hn⟩ := hcc
      obtain ⟨a, C2, dx, vfs, rfl, g, hH, rf⟩ := ro.ins w1 e
      rw [hC] at g
      cases g
      refine ⟨a, dx, vfs, rfl, hH, rf.none hn, G1, h1, env, w1, re.mono l1, post_bnd p1 fun avs h2 G2 H2 vs l2 w2 rs p2 => ?_⟩
      refine hc G2 h2 H2 (ov :: avs) (.ref a :: vs) Q (WE W σ) w2 (.cons (ro.mono l2) rs) ?_
      cases e2 : mc (ov :: avs) h2 with
      | ok v h3 => rw [e2] at p2; exact p2
      | exc c fs h3 => rw [e2] at p2; exact p2
      | bad => rw [e2] at p2; exact p2
    · exact p1.elim
theorem se_meth {mn : Str} {mc : FM} {mo : EM AV} (O : Ok X W j) (hc : CallOk X.K X.mg n m mc) (hC : X.mg c = some (.ref C)) (cl : Cls X.K C) (hm : Meth X.K C mn f) (F : FnOk X.prog X.w X.K X.mg X.base (L2.CX X.prog X.w) k f fd ps (spM X.K X.mg n m)) (hk : k ≤ j) (hb : Binds X.K fd ps [])
    (ho : SE X W o mo) (ha : SA X W (e :: es) as) (hst : starEach (e :: es) X.env = (false, eval e X.env) :: starEach es X.env := by rfl) (hpl : (backTo pos (starEach es X.env)).any (·.1) = false := by rfl)
    {pl : Sem Bool} (ht : eval (.Call (.Attribute o mn apos) (e :: es) [] pos) X.env = (do
      let ov ← eval o X.env
      standAt apos.atName
      let (f, first) ← holding [ov] (getMethod ov mn pl)
      callWith pos f first (backTo pos (starEach (e :: es) X.env)) (backToKw pos (keywordEach [] X.env))) := by rfl) :
    SE X W (.Call (.Attribute o mn apos) (e :: es) [] pos) (mMeth c mn mc mo as) :=
  ⟨(pe_methSS (pl := pl) ho.pe cl hm F (O.hr.mono hk) hb (fun σ => passAt O.tk σ) ha.pa hst hpl ht).weak fun σ H Q q => tMeth_of hC hc q⟩
theorem se_meth0 {mn : Str} {mc : FM} {mo : EM AV} (O : Ok X W j) (hc : CallOk X.K X.mg n m mc) (hC : X.mg c = some (.ref C)) (cl : Cls X.K C) (hm : Meth X.K C mn f) (F : FnOk X.prog X.w X.K X.mg X.base (L2.CX X.prog X.w) k f fd ps (spM X.K X.mg n m)) (hk : k ≤ j) (hb : Binds X.K fd ps [])
    (ho : SE X W o mo)
    {pl : Sem Bool} (ht : eval (.Call (.Attribute o mn apos) [] [] pos) X.env = (do
      let ov ← eval o X.env
      standAt apos.atName
      let (f, first) ← holding [ov] (getMethod ov mn pl)
      callWith pos f first (backTo pos (starEach [] X.env)) (backToKw pos (keywordEach [] X.env))) := by rfl) :
    SE X W (.Call (.Attribute o mn apos) [] [] pos) (mMeth c mn mc mo aNil) :=
  ⟨(pe_methSS0 (pl := pl) ho.pe cl hm F (O.hr.mono hk) hb (fun σ => passAt O.tk σ) ht).weak fun σ H Q q => by
    obtain ⟨G, h, env, w, re, p⟩ := tMeth_of (as := aNil) hC hc q
    refine ⟨G, h, env, w, re, ?_⟩
    cases e : mo env h with
    | ok v h' =>
      rw [e] at p
      intro G' H' z l w' r
      obtain ⟨a, dx, fs, h1, h2, h3, G2, h4, env2, w2, re2, p2⟩ := p G' H' z l w' r
      exact ⟨a, dx, fs, h1, h2, h3, p2 G2 H' [] (.refl _) w2 .nil⟩
    | exc x fs h' => rw [e] at p; exact p
    | bad => rw [e] at p; exact p⟩
/-! ### own == -/
/-- a == b by the class's own __eq__ -/
def mEqO (c : Str) (mc : FM) (ma mb : EM AV) : EM AV := fun env => (ma env).bnd fun x => (mb env).bnd fun y h => match insOf h x, insOf h y with
  | some (c1, _), some (c2, _) => if c1 = c ∧ c2 = c then (match mc [x, y] h with
    | .ok (.bl k) h' => .ok (.bl k) h'
    | _ => .bad) else .bad
  | _, _ => .bad
def rEqO (X : Cx) (c : Str) (n : Nat) (m mc : FM) : R2 := fun x y H Q => ∃ G h a b c1 f1 c2 f2, WI X.K X.mg G h H ∧ R X.K X.mg G a x ∧ R X.K X.mg G b y ∧ insOf h a = some (c1, f1) ∧ insOf h b = some (c2, f2) ∧ c1 = c ∧ c2 = c ∧
  ∃ k h', mc [a, b] h = .ok (.bl k) h' ∧ ∀ G' H', G.le G' → WI X.K X.mg G' h' H' → Q (.bl k) H'
theorem op_eqO {mc : FM} (O : Ok X W j) (hc : CallOk X.K X.mg n m mc) (hC : X.mg c = some (.ref C)) (F : FnOk X.prog X.w X.K X.mg X.base (L2.CX X.prog X.w) k f fd ps (spM X.K X.mg n m)) (hk : k ≤ j) (hb : Binds X.K fd ps [])
    (hs : PySem.W.findIn X.K (.ref C) "__eq__" = some (some (.ref f))) (hf : PySem.W.isFn X.K (.ref f) = true) : OpR X (compareOp .Eq) (rEqO X c n m mc) := by
  intro pins s σ H x y v u Q I rx ry hq
  obtain ⟨G, h, a, b, c1, f1, c2, f2, w, ra, rb, e1, e2, rfl, rfl, kk, h', em, q⟩ := hq
  obtain ⟨xa, C1, dx, vfs, rfl, g1, hA, _⟩ := ra.ins w e1
  obtain ⟨xb, C2, dy, vgs, rfl, g2, hB, _⟩ := rb.ins w e2
  rw [hC] at g1 g2
  cases g1
  cases g2
  cases rx
  cases ry
  obtain ⟨mA, J, _⟩ := ins_get I.hok hA
  obtain ⟨mB, J', _⟩ := ins_get I.hok hB
  obtain ⟨od, J, _⟩ := J.look
  obtain ⟨od', J', _⟩ := J'.look
  obtain ⟨mm, hF⟩ := I.fr
  show wpAny (model X.prog X.w) X.A (richCompare .Eq (.ref xa) (.ref xb)) (EP X pins σ Q) X.xe s
  refine PySem.W.cmp_K (op := .Eq) (tb := .ref C) (O.hr.mono hk).units0 hF I.ok.mod.kin J J'.type (by simp [PySem.W.notFirst]) hs hf ?_
  have hsp : spM X.K X.mg n m [.ref xa, .ref xb] H (fun v H' => v = .bl kk ∧ Q v H') (WE (fun _ _ _ _ => False) σ) := by
    refine hc G h H [a, b] [.ref xa, .ref xb] _ _ w (.cons ra (.cons rb .nil)) ?_
    rw [em]
    intro G' H' z l w' r
    cases r
    exact ⟨rfl, q G' H' l w'⟩
  have hl := F.len _ _ _ _ hsp
  have r2 : Vals [V.ref xa, V.ref xb] [Value.ref xa, Value.ref xb] := .cons rfl (.cons rfl .nil)
  have hb2 := hb s [.ref xa, .ref xb] I.kIn (by simpa using hl)
  rw [List.append_nil] at hb2
  refine wpAny_call (codeAny_mono (F.run X.A X.stack s H ⟨[.ref xa, .ref xb], []⟩ [.ref xa, .ref xb] [.ref xa, .ref xb] _ (WE (fun _ _ _ _ => False) σ) (O.hr.mono hk) I.env0 hb2 r2 hsp) fun r s' hq => ?_)
  cases r with
  | error e => exact passAt LamX.takes0 σ pins H s e s' I hq
  | ok fl =>
    cases fl with
    | ret w =>
      obtain ⟨z, H', I', rz, ez, ex⟩ := I.after hq
      subst ez
      cases rz
      exact ⟨.bl kk, H', I', rfl, ex⟩
    | next => exact False.elim hq
    | brk => exact False.elim hq
    | cont => exact False.elim hq
variable {a b : Expr} {ma mb : EM AV}
theorem tEqO {mc : FM} {σ : L2.St} {H : Hp} {Q : VK} (p : tSE X W (mEqO c mc ma mb) σ H Q) : tSE X W ma σ H fun x H1 => tSE X W mb σ H1 fun y H2 => rEqO X c n m mc x y H2 Q := by
  obtain ⟨G, h, env, w, re, p⟩ := p
  refine ⟨G, h, env, w, re, post_bnd p fun a h1 G1 H1 x l1 w1 ra p1 => ⟨G1, h1, env, w1, re.mono l1, post_bnd p1 fun b h2 G2 H2 y l2 w2 rb p2 => ?_⟩⟩
  cases e1 : insOf h2 a with
  | none => rw [e1] at p2; exact p2.elim
  | some cf1 =>
    cases e2 : insOf h2 b with
    | none => rw [e1, e2] at p2; exact p2.elim
    | some cf2 =>
      rw [e1, e2] at p2
      obtain ⟨c1, f1⟩ := cf1
      obtain ⟨c2, f2⟩ := cf2
      dsimp only at p2
      split at p2
      · rename_i hcc
        cases e3 : mc [a, b] h2 with
        | bad => rw [e3] at p2; exact p2.elim
        | exc x fs h3 => rw [e3] at p2; exact p2.elim
        | ok v h3 =>
          rw [e3] at p2
          cases v with
          | bl kk => exact ⟨G2, h2, a, b, c1, f1, c2, f2, w2, ra.mono l2, rb, e1, e2, hcc.1, hcc.2, kk, h3, e3, fun G' H' l w' => p2 G' H' (.bl kk) l w' (.bl kk)⟩
          | _ => exact p2.elim
      · exact p2.elim
theorem se_eqO {mc : FM} (O : Ok X W j) (hc : CallOk X.K X.mg n m mc) (hC : X.mg c = some (.ref C)) (F : FnOk X.prog X.w X.K X.mg X.base (L2.CX X.prog X.w) k f fd ps (spM X.K X.mg n m)) (hk : k ≤ j) (hb : Binds X.K fd ps [])
    (hs : PySem.W.findIn X.K (.ref C) "__eq__" = some (some (.ref f))) (hf : PySem.W.isFn X.K (.ref f) = true) (ha : SE X W a ma) (hb' : SE X W b mb) (hm : behindInMarks .Eq b = false := by first | exact nobehind _ (by decide) (by decide) | rfl) :
    SE X W (.Compare a [.Eq] [b] pos) (mEqO c mc ma mb) := ⟨(pe_cmpR (op_eqO O hc hC F hk hb hs hf) ha.pe hb'.pe hm).weak fun σ H Q p => tEqO p⟩
theorem st_eqO {mc : FM} (O : Ok X W j) (hc : CallOk X.K X.mg n m mc) (hC : X.mg c = some (.ref C)) (F : FnOk X.prog X.w X.K X.mg X.base (L2.CX X.prog X.w) k f fd ps (spM X.K X.mg n m)) (hk : k ≤ j) (hb : Binds X.K fd ps [])
    (hs : PySem.W.findIn X.K (.ref C) "__eq__" = some (some (.ref f))) (hf : PySem.W.isFn X.K (.ref f) = true) (ha : SE X W a ma) (hb' : SE X W b mb) (hm : behindInMarks .Eq b = false := by first | exact nobehind _ (by decide) (by decide) | rfl) :
    ST X W (.Compare a [.Eq] [b] pos) (mT (mEqO c mc ma mb)) := by
  refine ⟨(pt_cmpR (op_eqO O hc hC F hk hb hs hf) ha.pe hb'.pe hm).weak fun σ H Q p => ?_⟩
  refine tEqO (Q := fun x H' => ∃ k, x = .bl k ∧ Q k H') ?_
  obtain ⟨G, h, env, w, re, p⟩ := p
  refine ⟨G, h, env, w, re, post_bnd p fun a h1 G1 H1 x l1 w1 ra p1 => ?_⟩
  obtain ⟨c, e, q⟩ := post_rd p1
  cases a with
  | bl b0 => cases ra; exact ⟨b0, rfl, q G1 H1 b0 (.refl G1) w1 (Option.some.inj e).symm⟩
  | _ => cases e
end
end Sim

set_option Elab.async false
set_option linter.all false
set_option maxRecDepth 100000
set_option maxHeartbeats 2000000
namespace Sim
open PySem PySem.Spec L2
open PyProof.Rows hiding St
variable [TabT]
/-! SimR: dict comprehensions over keys that are ints or texts; dicts as cells. -/
def kA : Key → AV
  | .inl i => .int i
  | .inr z => .str z
def keyA? : AV → Option Key
  | .int i => some (.inl i)
  | .str z => some (.inr z)
  | _ => none
theorem keyA_of {x : AV} {k : Key} (e : keyA? x = some k) : x = kA k := by
  cases x <;> first | (cases e; done) | (cases e; rfl)
def putG {κ β : Type} [DecidableEq κ] (kvs : List (κ × β)) (k : κ) (v : β) : List (κ × β) :=
  if (kvs.any fun kv => decide (kv.1 = k)) = true then kvs.map (fun kv => if kv.1 = k then (kv.1, v) else kv) else kvs ++ [(k, v)]
def avK (kvs : List (Key × AV)) : List (AV × AV) := kvs.map fun p => (kA p.1, p.2)
section
variable {K : PySem.W.Frag} {mg : Str → Option Value} {G G' : Gh}
theorem R.key {k : Key} {v : V} (r : R K mg G (kA k) v) : v = kV k := by
  cases k <;> (cases r; rfl)
theorem R.ofKey (k : Key) : R K mg G (kA k) (kV k) := by
  cases k
  · exact .int _
  · exact .str _
theorem RkK.consK {k : Key} {x : AV} {v : V} {xs : List (AV × AV)} {vs : List (Key × V)} (r : R K mg G x v) (t : RkK K mg G xs vs) : RkK K mg G ((kA k, x) :: xs) ((k, v) :: vs) := by
  cases k
  · exact .int r t
  · exact .str r t
theorem RkK.unK {k : Key} {x : AV} {kvs : List (Key × AV)} {vs : List (Key × V)} (t : RkK K mg G (avK ((k, x) :: kvs)) vs) : ∃ v ws, vs = (k, v) :: ws ∧ R K mg G x v ∧ RkK K mg G (avK kvs) ws := by
  cases k with
  | inl i => cases t with | int r t => exact ⟨_, _, rfl, r, t⟩
  | inr i => cases t with | str r t => exact ⟨_, _, rfl, r, t⟩
theorem RkK.len : ∀ {kvs : List (Key × AV)} {vs : List (Key × V)}, RkK K mg G (avK kvs) vs → kvs.length = vs.length
  | [], _, .nil => rfl
  | (k, x) :: kvs, vs, t => by
    obtain ⟨v, ws, rfl, r, t⟩ := t.unK
    rw [List.length_cons, List.length_cons, RkK.len t]
theorem RkK.keys : ∀ {kvs : List (Key × AV)} {vs : List (Key × V)}, RkK K mg G (avK kvs) vs → vs.map (·.1) = kvs.map (·.1)
  | [], _, .nil => rfl
  | (k, x) :: kvs, vs, t => by
    obtain ⟨v, ws, rfl, r, t⟩ := t.unK
    rw [List.map_cons, List.map_cons, RkK.keys t]
theorem any_key {κ β : Type} [DecidableEq κ] (k : κ) (kvs : List (κ × β)) : (kvs.any fun kv => decide (kv.1 = k)) = (kvs.map (·.1)).any fun j => decide (j = k) := by
  rw [List.any_map]; rfl
theorem RkK.snoc {k : Key} {x : AV} {v : V} (r : R K mg G x v) : ∀ {kvs : List (Key × AV)} {vs : List (Key × V)}, RkK K mg G (avK kvs) vs → RkK K mg G (avK (kvs ++ [(k, x)])) (vs ++ [(k, v)])
  | [], _, .nil => .consK r .nil
  | (j, y) :: kvs, vs, t => by
    obtain ⟨w, ws, rfl, q, t⟩ := t.unK
    exact .consK q (RkK.snoc r t)
theorem RkK.repl {k : Key} {x : AV} {v : V} (r : R K mg G x v) : ∀ {kvs : List (Key × AV)} {vs : List (Key × V)}, RkK K mg G (avK kvs) vs → RkK K mg G (avK (kvs.map fun kv => if kv.1 = k then (kv.1, x) else kv)) (vs.map fun kv => if kv.1 = k then (kv.1, v) else kv)
  | [], _, .nil => .nil
  | (j, y) :: kvs, vs, t => by
    obtain ⟨w, ws, rfl, q, t⟩ := t.unK
    rw [List.map_cons, List.map_cons]
    by_cases e : j = k
    · rw [if_pos e, if_pos e]; exact .consK r (RkK.repl r t)
    · rw [if_neg e, if_neg e]; exact .consK q (RkK.repl r t)
theorem RkK.put {k : Key} {x : AV} {v : V} (r : R K mg G x v) {kvs : List (Key × AV)} {vs : List (Key × V)} (t : RkK K mg G (avK kvs) vs) : RkK K mg G (avK (putG kvs k x)) (putK vs k v) := by
  unfold putG putK
  have e : (vs.any fun kv => decide (kv.1 = k)) = (kvs.any fun kv => decide (kv.1 = k)) := by rw [any_key, any_key, t.keys]
  rw [e]
  split
  · exact t.repl r
  · exact t.snoc r
end
theorem putG_len {κ β : Type} [DecidableEq κ] (kvs : List (κ × β)) (k : κ) (v : β) : (putG kvs k v).length ≤ kvs.length + 1 := by
  unfold putG
  split
  · rw [List.length_map]; omega
  · rw [List.length_append, List.length_singleton]; omega
/-! ### a new dict -/
def tSD (X : Cx) (W : WX) (m : EM (List (Key × AV))) : TE := fun σ H Q => ∃ G h env, WI X.K X.mg G h H ∧ RE X.K X.mg G env σ ∧ match m env h with
  | .ok kvs h' => ∀ G' H' p vs, G.le G' → WI X.K X.mg G' h' H' → H' p = none → RkK X.K X.mg G' (avK kvs) vs → Q (.ref p) (upd H' p (.dK vs))
  | .exc c fs h' => ∀ G' H' cls d, G.le G' → WI X.K X.mg G' h' H' → XR X.K X.mg G' c fs cls d → W cls d σ H'
  | .bad => False
structure SD (X : Cx) (W : WX) (e : Expr) (m : EM (List (Key × AV))) : Prop where
  pe : PE X e (tSD X W m)
def newD (kvs : List (Key × AV)) : M AV := fun h => .ok (.cell h.length) (h ++ [.dct (avK kvs)])
def mDC (m : EM (List (Key × AV))) : EM AV := fun env => (m env).bnd newD
theorem WI.newD {K : PySem.W.Frag} {mg : Str → Option Value} {G : Gh} {h : Hs} {H : Hp} {p : Addr} {xs : List (Key × AV)} {vs : List (Key × V)} (w : WI K mg G h H) (e : H p = none) (r : RkK K mg G (avK xs) vs) :
    G.le (G.addM h.length p) ∧ WI K mg (G.addM h.length p) (h ++ [.dct (avK xs)]) (upd H p (.dK vs)) ∧ R K mg (G.addM h.length p) (.cell h.length) (.ref p) := by
  have l : G.le (G.addM h.length p) := Gh.addM_le w.muN
  have m0 : (G.addM h.length p).mu h.length = some p := by show (if h.length = h.length then some p else G.mu h.length) = some p; rw [if_pos rfl]
  exact ⟨l, w.newC e ⟨p, m0, w.freeF e, w.freeZ e, .inl ⟨vs, upd_same, r.mono l⟩⟩, .cell m0⟩
section
variable {X : Cx} {W : WX} {k : Nat} {e : Expr}
theorem se_dC {m : EM (List (Key × AV))} (h : SD X W e m) : SE X W e (mDC m) := by
  refine ⟨h.pe.weak fun σ H Q ⟨G, h, env, w, re, p⟩ => ⟨G, h, env, w, re, ?_⟩⟩
  unfold mDC M.bnd at p
  cases e : m env h with
  | bad => rw [e] at p; exact p
  | exc c fs h1 => rw [e] at p; exact p
  | ok xs h1 =>
    rw [e] at p
    intro G' H' a vs l w' ha rs
    obtain ⟨le, w2, r2⟩ := w'.newD ha rs
    exact p _ _ _ (l.trans le) w2 r2
/-- {} -/
def mD0 : EM (List (Key × AV)) := fun _ => M.ret []
theorem sd_nil {pos : Pos} : SD X W (.Dict [] [] pos) mD0 := ⟨pe_dnewK.weak fun σ H Q ⟨G, h, env, w, re, p⟩ => fun d hd => p G H d [] (.refl G) w hd .nil⟩
/-! ### {k: v for ..} -/
def dcL (g : GT) (t : EM Bool) (ek ev : EM AV) (env : AEnv) : List (Key × AV) → List AV → M (List (Key × AV))
  | acc, [] => M.ret acc
  | acc, x :: xs => match g x env with
    | none => M.bad
    | some e' => (noexc (t e')).bnd fun b => if b = true then (noexc (ek e')).bnd fun y => (noexc (ev e')).bnd fun z => (match keyA? y with
      | some kk => dcL g t ek ev env (putG acc kk z) xs
      | none => M.bad) else dcL g t ek ev env acc xs
def mDc (vs : List Nat) (mi : EM (List AV)) (g : GT) (t : EM Bool) (ek ev : EM AV) : EM (List (Key × AV)) := fun env => (mi env).bnd fun xs => if small xs then dcL g t ek ev (wipeE env vs) [] xs else M.bad
theorem dcL_ne {g : GT} {t : EM Bool} {ek ev : EM AV} {env : AEnv} : ∀ (xs : List AV) (acc : List (Key × AV)) (h : Hs) (c : Str) (fs : List (Str × AV)) (h' : Hs), dcL g t ek ev env acc xs h ≠ .exc c fs h'
  | [], acc, h, c, fs, h' => fun q => by cases q
  | x :: xs, acc, h, c, fs, h' => by
    unfold dcL
    cases g x env with
    | none => intro q; cases q
    | some e' =>
      refine bnd_ne (noexc_ne _) (fun b h c fs h' => ?_) h c fs h'
      by_cases hb : b = true
      · rw [if_pos hb]
        refine bnd_ne (noexc_ne _) (fun y h c fs h' => bnd_ne (noexc_ne _) (fun z h c fs h' => ?_) h c fs h') h c fs h'
        cases keyA? y with
        | none => intro q; cases q
        | some kk => exact dcL_ne xs _ h c fs h'
      · rw [if_neg hb]
        exact dcL_ne xs acc h c fs h'
theorem noexc_inv {α : Type} {m : M α} {h : Hs} {a : α} {h' : Hs} (e : noexc m h = .ok a h') : m h = .ok a h' := by
  unfold noexc at e
  split at e
  · cases e
  · exact e
def Gh.holdD (G : Gh) (D : Addr) (vs : List (Key × V)) : Gh := { G with Z := upd G.Z D (.dK vs) }
theorem Gh.holdD_lt (G : Gh) (D : Addr) (vs : List (Key × V)) : G.lt (G.holdD D vs) := ⟨Same.refl _, fun _ _ q => q, rfl⟩
theorem Gh.holdD_gt (G : Gh) (D : Addr) (vs : List (Key × V)) : (G.holdD D vs).lt G := ⟨Same.refl _, fun _ _ q => q, rfl⟩
theorem WI.holdD {K : PySem.W.Frag} {mg : Str → Option Value} {G : Gh} {h : Hs} {H : Hp} {D : Addr} {vs : List (Key × V)} (w : WI K mg G h H) (e : H D = none) : WI K mg (G.holdD D vs) h (upd H D (.dK vs)) := by
  have hF := w.freeF e
  have hZ := w.freeZ e
  have hM := w.freeM e
  refine ⟨fun b u q => ?_, fun b u q => ?_, fun b u q => ?_, fun n c hc => ?_, w.bnd, w.inj, tabs_new w.tb.T e, w.tb.nF, fun b u fx q => ?_⟩
  · have q2 : G.F b = some u := q
    rw [upd_ne (ne_of_none q2 hF)]; exact w.F b u q2
  · have q2 : upd G.Z D (.dK vs) b = some u := q
    by_cases hb : b = D
    · subst hb; rw [upd_same] at q2 ⊢; exact q2
    · rw [upd_ne hb] at q2 ⊢; exact w.Z b u q2
  · have q2 : upd G.Z D (.dK vs) b = some u := q
    by_cases hb : b = D
    · subst hb; exact hF
    · rw [upd_ne hb] at q2; exact w.FZ b u q2
  · refine (w.cells n c hc).conv (G.holdD_lt D vs) (fun a _ q => q) (fun a ha q => ?_) (fun a o ha q => ?_)
    · show upd G.Z D (.dK vs) a = none
      rw [upd_ne (fun z => hM n (by rw [ha, z]))]; exact q
    · rw [upd_ne (fun z => hM n (by rw [ha, z]))]; exact q
  · have q2 : upd G.Z D (.dK vs) b = some u := q
    by_cases hb : b = D
    · subst hb; rw [upd_same] at q2; cases q2; cases fx
    · rw [upd_ne hb] at q2; exact w.tb.nZ b u fx q2
theorem WI.letgoD {K : PySem.W.Frag} {mg : Str → Option Value} {G : Gh} {h : Hs} {H : Hp} {D : Addr} {vs : List (Key × V)} (w : WI K mg (G.holdD D vs) h H) (hZ : G.Z D = none) : H D = some (.dK vs) ∧ WI K mg G h (offH H D) := by
  have zD : (G.holdD D vs).Z D = some (.dK vs) := by show upd G.Z D (.dK vs) D = _; rw [upd_same]
  have hF : G.F D = none := w.FZ D _ zD
  refine ⟨w.Z D _ zD, fun b u q => ?_, fun b u q => ?_, fun b u q => ?_, fun n c hc => ?_, w.bnd, w.inj, ?_, w.tb.nF, fun b u fx q => ?_⟩
  · unfold offH; rw [if_neg (ne_of_none q hF)]; exact w.F b u q
  · unfold offH; rw [if_neg (ne_of_none q hZ)]
    refine w.Z b u ?_
    show upd G.Z D (.dK vs) b = some u
    rw [upd_ne (ne_of_none q hZ)]; exact q
  · refine w.FZ b u ?_
    show upd G.Z D (.dK vs) b = some u
    rw [upd_ne (ne_of_none q hZ)]; exact q
  · have dZ : ∀ a, (G.holdD D vs).Z a = none → a ≠ D ∧ G.Z a = none := fun a q => by
      have q2 : upd G.Z D (.dK vs) a = none := q
      by_cases ha : a = D
      · subst ha; rw [upd_same] at q2; cases q2
      · rw [upd_ne ha] at q2; exact ⟨ha, q2⟩
    have x := w.cells n c hc
    have key : ∀ a o, (G.holdD D vs).mu n = some a → H a = some o → ((G.holdD D vs).Z a = none ∨ ∃ u, (G.holdD D vs).F a = some u) → offH H D a = some o := fun a o _ ho hh => by
      unfold offH
      rw [if_neg ?_]
      · exact ho
      · rcases hh with hh | ⟨u, hh⟩
        · exact (dZ a hh).1
        · exact ne_of_none (H := G.F) hh hF
    cases c with
    | lst xs => obtain ⟨a, ws, h1, h2, hz, h3, h4⟩ := x; exact ⟨a, ws, h1, h2, (dZ a hz).2, key a _ h1 h3 (.inl hz), h4.monoL (G.holdD_gt D vs)⟩
    | dct kvs =>
      obtain ⟨a, h1, h2, hz, ⟨vks, h3, h4⟩ | ⟨vks, h3, h4⟩⟩ := x
      · exact ⟨a, h1, h2, (dZ a hz).2, .inl ⟨vks, key a _ h1 h3 (.inl hz), h4.monoL (G.holdD_gt D vs)⟩⟩
      · exact ⟨a, h1, h2, (dZ a hz).2, .inr ⟨vks, key a _ h1 h3 (.inl hz), h4.monoL (G.holdD_gt D vs)⟩⟩
    | ins c fs => obtain ⟨a, C, dx, vfs, h1, h2, hz, hc2, h3, h4⟩ := x; exact ⟨a, C, dx, vfs, h1, h2, (dZ a hz).2, hc2, key a _ h1 h3 (.inl hz), h4.monoL (G.holdD_gt D vs)⟩
    | frz v => obtain ⟨a, o, h1, h2, h3⟩ := x; exact ⟨a, o, h1, h2, h3.monoL (G.holdD_gt D vs)⟩
  · have hD := w.Z D _ zD
    refine tabs_stay w.tb.T (fun b ps q => ?_) (fun b f q => ?_) <;>
    · unfold offH
      rw [if_neg (fun z => by rw [z, hD] at q; cases q)]
      exact q
  · refine w.tb.nZ b u fx ?_
    show upd G.Z D (.dK vs) b = _
    rw [upd_ne (ne_of_none q hZ)]; exact q
theorem unholdD {G : Gh} {D : Addr} {vs : List (Key × V)} {G2 : Gh} (l : (G.holdD D vs).le G2) : G.le { G2 with Z := G.Z } ∧ G2 = ({ G2 with Z := G.Z } : Gh).holdD D vs := by
  refine ⟨⟨l.F, l.mu, rfl, l.T⟩, ?_⟩
  have e : G2.Z = upd G.Z D (.dK vs) := l.Z
  obtain ⟨F, mu, Z, T⟩ := G2
  have e2 : Z = upd G.Z D (.dK vs) := e
  subst e2
  rfl
theorem tDc_of {own : List (Str × Nat)} {mi : EM (List AV)} {ow : List Nat} {g : GT} {bt : EM Bool} {mk me : EM AV} (how : ∀ i ∈ ow, i ∈ own.map (·.2)) {σ : L2.St} {H : Hp} {Q : VK} (t : tSD X W (mDc (own.map (·.2)) mi g bt mk me) σ H Q) :
    tDc (tSI X W mi) (tSG X ow g) (tST X noW bt) (tSE X noW mk) (tSE X noW me) (own.map (·.2)) σ H Q := by
  obtain ⟨G, h, env, w, re, p⟩ := t
  refine ⟨G, h, env, w, re, ?_⟩
  unfold mDc M.bnd at p
  cases e : mi env h with
  | bad => rw [e] at p; exact p
  | exc c fs h1 => rw [e] at p; exact p
  | ok xs h1 =>
    rw [e] at p
    dsimp only at p
    by_cases hsm : small xs = true
    · rw [if_pos hsm] at p
      have hlen : xs.length ≤ sizeLine := of_decide_eq_true hsm
      intro G' H' J l w' ik D hD
      have hZD := w'.freeZ hD
      refine ⟨fun i m H2 => ∃ G1 h2 as vacc, G'.le G1 ∧ RkK X.K X.mg G1 (avK as) vacc ∧ WI X.K X.mg (G1.holdD D vacc) h2 H2 ∧ as.length ≤ i ∧ m = xs.length - i ∧ i ≤ xs.length ∧
          (match dcL g bt mk me (wipeE env (own.map (·.2))) as (xs.drop i) h2 with
            | .ok zs h' => ∀ G3 H3 p vs, G1.le G3 → WI X.K X.mg G3 h' H3 → H3 p = none → RkK X.K X.mg G3 (avK zs) vs → Q (.ref p) (upd H3 p (.dK vs))
            | _ => False), ⟨xs.length, G', h1, [], [], .refl _, .nil, w'.holdD hD, Nat.le_refl _, by simp, Nat.zero_le _, ?_⟩, ?_⟩
      · rw [List.drop_zero]
        cases e2 : dcL g bt mk me (wipeE env (own.map (·.2))) [] xs h1 with
        | ok zs h3 => rw [e2] at p; exact fun G3 H3 q vs l3 => p G3 H3 q vs (l.trans l3)
        | exc c fs h3 =>
          exfalso
          exact dcL_ne xs [] h1 c fs h3 e2
        | bad => rw [e2] at p; exact p
      · rintro i m H2 ⟨G1, h2, as, vacc, l1, ra, w2, hal, rfl, hi2, p2⟩
        have hZ1 : G1.Z D = none := by rw [l1.Z]; exact hZD
        obtain ⟨stop, go⟩ := ik (G1.holdD D vacc) h2 H2 (l1.lt.trans (G1.holdD_lt D vacc)) w2
        by_cases hlt : i < xs.length
        · obtain ⟨go1, yld⟩ := go i hlt
          refine .inr ⟨go1, fun H3 => ∃ G1 h2 as vacc, G'.le G1 ∧ RkK X.K X.mg G1 (avK as) vacc ∧ WI X.K X.mg (G1.holdD D vacc) h2 H3 ∧ as.length ≤ i + 1 ∧
              (match dcL g bt mk me (wipeE env (own.map (·.2))) as (xs.drop (i + 1)) h2 with
                | .ok zs h' => ∀ G3 H3 p vs, G1.le G3 → WI X.K X.mg G3 h' H3 → H3 p = none → RkK X.K X.mg G3 (avK zs) vs → Q (.ref p) (upd H3 p (.dK vs))
                | _ => False), ?_, ?_⟩
          · rintro H3 ⟨G2, h3, as2, vacc2, q1, q2, q3, q4, q5⟩
            exact ⟨xs.length - (i + 1), by omega, G2, h3, as2, vacc2, q1, q2, q3, q4, rfl, hlt, q5⟩
          · intro x H3 y
            obtain ⟨G2, a, l2, w3, ea, rx⟩ := yld x H3 y
            have ed : xs.drop i = a :: xs.drop (i + 1) := by
              rw [List.drop_eq_getElem_cons hlt]
              rw [List.getElem?_eq_getElem hlt] at ea
              rw [Option.some.inj ea]
            rw [ed] at p2
            unfold dcL at p2
            have rew : RE X.K X.mg G2 (wipeE env (own.map (·.2))) (wipe σ (own.map (·.2))) := (((re.mono (l.trans l1)).wipe _).monoL (G1.holdD_lt D vacc)).mono l2
            cases eg : g a (wipeE env (own.map (·.2))) with
            | none => rw [eg] at p2; exact p2.elim
            | some e2 =>
              rw [eg] at p2
              dsimp only at p2
              refine ⟨G2, h2, _, a, e2, w3, rew, rx, eg, fun G3 H4 σ3 l3 w4 re3 bu => ⟨by rw [bu _ how]; exact wipe_idem _ _, ?_⟩⟩
              refine ⟨G3, h2, e2, w4, re3, ?_⟩
              unfold M.bnd at p2
              cases et : noexc (bt e2) h2 with
              | bad => rw [et] at p2; exact p2.elim
              | exc c fs h3 => rw [et] at p2; exact p2.elim
              | ok b h3 =>
                rw [et] at p2
                dsimp only at p2
                rw [noexc_inv et]
                intro G4 H5 b' l4 w5 rb
                subst rb
                by_cases hb : b = true
                · rw [if_pos hb] at p2 ⊢
                  refine ⟨G4, h3, e2, w5, re3.mono l4, ?_⟩
                  cases ek : noexc (mk e2) h3 with
                  | bad => rw [ek] at p2; exact p2.elim
                  | exc c fs h4 => rw [ek] at p2; exact p2.elim
                  | ok yk h4 =>
                    rw [ek] at p2
                    dsimp only at p2
                    rw [noexc_inv ek]
                    intro G5 H6 yy l5 w6 ry
                    refine ⟨G5, h4, e2, w6, (re3.mono l4).mono l5, ?_⟩
                    cases ee : noexc (me e2) h4 with
                    | bad => rw [ee] at p2; exact p2.elim
                    | exc c fs h5 => rw [ee] at p2; exact p2.elim
                    | ok yv h5 =>
                      rw [ee] at p2
                      dsimp only at p2
                      rw [noexc_inv ee]
                      intro G6 H7 zz l6 w7 rz
                      cases eka : keyA? yk with
                      | none => rw [eka] at p2; exact p2.elim
                      | some kk =>
                        rw [eka] at p2
                        dsimp only at p2
                        have ekk := keyA_of eka
                        subst ekk
                        have eyy := ry.key
                        subst eyy
                        obtain ⟨lu, eu⟩ := unholdD (l2.trans (l3.trans (l4.trans (l5.trans l6))))
                        rw [eu] at w7
                        obtain ⟨hDD, w8⟩ := w7.letgoD (by show G1.Z D = none; exact hZ1)
                        refine ⟨vacc, kk, rfl, hDD, ?_, ({ G6 with Z := G1.Z } : Gh), h5, putG as kk yv, putK vacc kk zz, l1.trans lu, ?_, ?_, ?_, ?_⟩
                        · rw [← ra.len]; omega
                        · exact RkK.put (R.monoL (G := G6) (G' := { G6 with Z := G1.Z }) ⟨Same.refl _, fun _ _ q => q, rfl⟩ rz) (ra.mono lu)
                        · have w9 := w8.holdD (D := D) (vs := putK vacc kk zz) offH_at
                          have eqh : upd (offH H7 D) D (.dK (putK vacc kk zz)) = upd H7 D (.dK (putK vacc kk zz)) := by
                            funext b
                            by_cases hb2 : b = D
                            · subst hb2; rw [upd_same, upd_same]
                            · rw [upd_ne hb2, upd_ne hb2]; unfold offH; rw [if_neg hb2]
                          rw [eqh] at w9
                          exact w9
                        · have := putG_len as kk yv; omega
                        · cases er : dcL g bt mk me (wipeE env (own.map (·.2))) (putG as kk yv) (xs.drop (i + 1)) h5 with
                          | bad => rw [er] at p2; exact p2.elim
                          | exc c fs h5 => rw [er] at p2; exact p2.elim
                          | ok zs h6 =>
                            rw [er] at p2
                            exact fun G7 H8 pp vs l7 w9 hp rs => p2 G7 H8 pp vs (lu.trans l7) w9 hp rs
                · rw [if_neg hb] at p2 ⊢
                  obtain ⟨lu, eu⟩ := unholdD (l2.trans (l3.trans l4))
                  rw [eu] at w5
                  refine ⟨({ G4 with Z := G1.Z } : Gh), h3, as, vacc, l1.trans lu, ra.mono lu, w5, by omega, ?_⟩
                  cases er : dcL g bt mk me (wipeE env (own.map (·.2))) as (xs.drop (i + 1)) h3 with
                  | bad => rw [er] at p2; exact p2.elim
                  | exc c fs h5 => rw [er] at p2; exact p2.elim
                  | ok zs h5 =>
                    rw [er] at p2
                    exact fun G6 H7 pp vs l6 => p2 G6 H7 pp vs (lu.trans l6)
        · have ei : i = xs.length := by omega
          subst ei
          rw [List.drop_length] at p2
          refine .inl ⟨stop, ?_⟩
          obtain ⟨hDD, w7⟩ := w2.letgoD hZ1
          have q := p2 G1 (offH H2 D) D vacc (.refl _) w7 offH_at ra
          rw [offH_upd hDD] at q
          exact q
    · rw [if_neg hsm] at p; exact p.elim
theorem sd_dc {kx vx tg iter : Expr} {ifs : List Expr} {scope : Scope} {own : List (Str × Nat)} {pos : Pos} {mi : EM (List AV)} {ow : List Nat} {g : GT} {bt : EM Bool} {mk me : EM AV} (O : Ok X W k) (hi : SI X W tg iter mi) (ok : BlkOk X.N X.env.scope scope own) (how : ∀ i ∈ ow, i ∈ own.map (·.2))
    (hg : ∀ s H C cl fp, SG (blkX X scope s H C cl fp) tg ow g) (ht : ∀ s H C cl fp, STs (blkX X scope s H C cl fp) noW ifs bt) (hk : ∀ s H C cl fp, SE (blkX X scope s H C cl fp) noW kx mk) (he : ∀ s H C cl fp, SE (blkX X scope s H C cl fp) noW vx me) (hs : ∀ x, foldedSetIterable iter X.env x = pure x := by intro _; rfl) :
    SD X W (.DictComp kx vx [⟨tg, iter, ifs, 0⟩] scope pos) (mDc (own.map (·.2)) mi g bt mk me) :=
  ⟨(pe_dc (tt := tST X noW bt) (g := tSG X ow g) (tk := tSE X noW mk) (tv := tSE X noW me) O.calm O.nd hi.pi ok (fun s H C cl fp => (hg s H C cl fp).pg) (fun s H C cl fp => (ht s H C cl fp).pts) (fun s H C cl fp => (hk s H C cl fp).pe) (fun s H C cl fp => (he s H C cl fp).pe) hs).weak fun σ H Q t => tDc_of how t⟩
/-! ### list(d) -/
/-- the dict that a cell holds -/
def dctOf (h : Hs) (x : AV) : Option (List (AV × AV)) := match x with
  | .cell n => (match h[n]? with
    | some (.dct kvs) => some kvs
    | _ => none)
  | _ => none
/-- all keys ints or texts -/
def allK (kvs : List (AV × AV)) : Bool := kvs.all fun p => (keyA? p.1).isSome
theorem RkK.vals {K : PySem.W.Frag} {mg : Str → Option Value} {G : Gh} : ∀ {kvs : List (AV × AV)} {vs : List (Key × V)}, RkK K mg G kvs vs → Rs K mg G (kvs.map (·.1)) (vs.map fun kv => kV kv.1)
  | _, _, .nil => .nil
  | _, _, .int r t => .cons (.int _) (RkK.vals t)
  | _, _, .str r t => .cons (.str _) (RkK.vals t)
theorem allK_T {K : PySem.W.Frag} {mg : Str → Option Value} {G : Gh} {kvs : List (AV × AV)} {vs : List (List Key × V)} (r : RkT K mg G kvs vs) (h : allK kvs = true) : kvs = [] := by
  cases r with
  | nil => rfl
  | cons r t => simp [allK, keyA?] at h
def listDA (h : Hs) (xs : List AV) : Option (List AV) := match xs with
  | [x] => (dctOf h x).bind fun kvs => if allK kvs = true then some (kvs.map (·.1)) else none
  | _ => none
theorem call_listDA (hc : X.calm = true) : CallR X (.type "list") (rF X.K X.mg listDA) := by
  intro pins s σ H xs us Q I r ⟨G, h, as, ys, w, rs, e, q⟩
  unfold listDA at e
  split at e
  · rename_i x
    cases e1 : dctOf h x with
    | none => rw [e1] at e; cases e
    | some kvs =>
      rw [e1] at e
      have e' : (if allK kvs = true then some (kvs.map (·.1)) else none) = some ys := e
      split at e'
      · rename_i hk
        cases e'
        cases rs with
        | cons r1 t =>
          cases t
          cases r1 with
          | @cell n a hm =>
            have e2 : (match h[n]? with | some (.dct kvs) => some kvs | _ => none) = some kvs := e1
            cases hn : h[n]? with
            | none => rw [hn] at e2; cases e2
            | some c =>
              rw [hn] at e2
              cases c with
              | dct kv2 =>
                cases e2
                obtain ⟨b, h1, h2, hz, ⟨vks, h3, h4⟩ | ⟨vks, h3, h4⟩⟩ := w.cells n _ hn
                · rw [hm] at h1; cases h1
                  refine call_list_dK hc pins s σ H _ us Q I r ⟨a, vks, rfl, h3, fun p hp => ?_⟩
                  exact q G H p _ (.refl G) w hp h4.vals
                · rw [hm] at h1; cases h1
                  have e0 := allK_T h4 hk
                  subst e0
                  cases h4
                  refine call_list_dT hc pins s σ H _ us Q I r ⟨a, [], rfl, .inl h3, fun p bs hp hb => ?_⟩
                  cases hb
                  exact q G H p _ (.refl G) w hp .nil
              | lst _ => cases e2
              | ins _ _ => cases e2
              | frz _ => cases e2
          | _ => cases e1
      · cases e'
  · cases e
end
end Sim

set_option Elab.async false
set_option linter.all false
set_option maxRecDepth 100000
set_option maxHeartbeats 2000000
namespace Sim
open PySem PySem.Spec L2
open PyProof.Rows hiding St
variable [TabT]
/-! SimT: sorted(xs, key=lambda y: (len(y), y)) of tuples of ints. -/
def LamO (f : Addr) (q : Str) (params : Arguments) (body : Expr) (scope : Scope) (cl : List (Str × Addr)) (c' : Addr) : HO :=
  .ext fun h => ∃ pm ctv, h.get? f = some (PySem.W.kla_obj "<lambda>" q params body scope cl pm c' ctv)
section
variable {X : Cx} {pins : List (Addr × Obj)} {σ : L2.St} {H : Hp} {s : Shared}
/-- the lambda is made, and told of -/
theorem lam_make3 {T : List (Addr × Str)} {c P : Addr} {params : Arguments} {body : Expr} {scope : Scope} {pos : Pos} {E : Value → Shared → Prop} {Q : Value → Shared → Prop} (I : Inv X pins σ H s) (TB : LamX.TabB X.base X.mg c P) (hcode : X.env.code = .ref c)
    (hm : (P, X.env.qual ++ "<lambda>") ∈ T) (hu : ∀ p ∈ T, p.1 = P → p.2 = X.env.qual ++ "<lambda>") (hT : LamX.Tabs T H) (hdef : defaultsOf params X.env = ([], [])) (hfree : ∀ y ∈ scope.names, y.2 = .free → ∃ c, X.env.cells.lookup y.1 = some c)
    (h : ∀ (f c' : Addr) (H1 : Hp) (s' : Shared), Inv X pins σ H1 s' → LamX.ExtN H H1 → LamX.Tabs T H1 → H1 f = some (LamO f (X.env.qual ++ "<lambda>") params body scope (cloFrom X.env.cells scope.names []) c') → H1 c' = some (LamX.CodeO c' (X.env.qual ++ "<lambda>")) → Q (.ref f) s') :
    wpAny (model X.prog X.w) X.A (eval (.Lambda params body scope pos) X.env) Q E s := by
  obtain ⟨ps, hP, ht, ha⟩ := hT _ hm
  refine PySem.W.kla_eval hdef ?_
  have bP : s.heap.BuiltinsAt X.mg P := TB.bm.keeps I.bk
  have hP' : s.heap.get? P = some { cls := .none, data := .fields ps } := I.hok P _ hP
  have track : ∀ {H2 : Hp} {h2 : Heap} {tk tk2 : Nat} {pm ctv : Value} {c' : Addr}, Inv X pins σ H2 { s with heap := h2, toks := tk } → LamX.ExtN H H2 → LamX.Tabs T H2 → H2 c' = some (LamX.CodeO c' (X.env.qual ++ "<lambda>")) →
      Q (.ref h2.objs.size) { s with heap := h2.push (PySem.W.kla_obj "<lambda>" (X.env.qual ++ "<lambda>") params body scope (cloFrom X.env.cells scope.names []) pm c' ctv), toks := tk2 } := fun {H2 h2 tk tk2 pm ctv c'} I2 eN T2 hc => by
    have hn : H2 h2.objs.size = none := I2.hok.fresh (Nat.le_refl _)
    have I3 := I2.laid (a := h2.objs.size) (o := LamO h2.objs.size (X.env.qual ++ "<lambda>") params body scope (cloFrom X.env.cells scope.names []) c') (h' := h2.push (PySem.W.kla_obj "<lambda>" (X.env.qual ++ "<lambda>") params body scope (cloFrom X.env.cells scope.names []) pm c' ctv)) (t' := tk2)
      (fun b u e => Heap.get?_push_of_some _ e) (Nat.le_refl _) ⟨⟨pm, ctv, Heap.get?_push_size _ rfl⟩, ⟨_, Heap.get?_push_size _ rfl⟩, fun h1 h2 ⟨pm, ctv, a⟩ st => ⟨pm, ctv, st _ a⟩⟩
    refine h h2.objs.size c' _ _ I3 (fun b o e n => ?_) (fun p hp => (T2 p hp).ext fun b o e => ?_) upd_same ?_
    · have e2 := eN b o e n
      rw [upd_ne (ne_of_none e2 hn)]; exact e2
    · rw [upd_ne (ne_of_none e hn)]; exact e
    · rw [upd_ne (ne_of_none hc hn)]; exact hc
  cases hc : codeAmong pos ps.toList with
  | none =>
    refine PySem.W.kla_makeFunction (mg := X.mg) (c := c) (P := P) (ps := ps) (closure_ok hfree) I.ok.glob (I.mod.glob.keeps I.bk) hcode (TB.code.keeps I.bk) hP' ht hc TB.gP bP fun c' ctv h' tk hx hge hlt hrec htb => ?_
    obtain ⟨c2, oc, vs, t, e2, hoc, hd, hv⟩ := hrec
    cases e2
    have nC : H c' = none := I.hok.fresh hge
    have I1 := LamX.inv_table (t' := tk) (more := #[rawInt pos.line, rawInt pos.col, .ref c']) (h' := h') I hP (fun b o hb e => hx b o hb e) htb hge ⟨oc, vs, t, hoc, hd, hv⟩
    have hE : LamX.ExtN H (upd (upd H P (.tbl (ps ++ #[rawInt pos.line, rawInt pos.col, .ref c']))) c' (LamX.CodeO c' (X.env.qual ++ "<lambda>"))) := fun b o e n => by
      rw [upd_ne (ne_of_none e nC), upd_ne (fun z => n ps (Option.some.inj (e.symm.trans (by rw [z]; exact hP))))]
      exact e
    have eL : (ps ++ #[rawInt pos.line, rawInt pos.col, .ref c']).toList = ps.toList ++ [rawInt pos.line, rawInt pos.col, .ref c'] := by simp
    refine track I1 hE (fun p hp => ?_) upd_same
    by_cases hb : p.1 = P
    · rw [hu p hp hb, hb]
      refine ⟨_, by rw [upd_ne (ne_of_none hP nC), upd_same], by rw [eL]; exact PySem.TriplesOk_snoc _ _ _ _ ht, fun p' cv hcv => ?_⟩
      rw [eL] at hcv
      rcases LamX.among_app _ ht hcv with z | z
      · obtain ⟨c0, e1, e2⟩ := ha p' cv z
        exact ⟨c0, e1, hE _ _ e2 LamX.codeO_ne⟩
      · exact ⟨c', z, upd_same⟩
    · obtain ⟨ps', a1, a2, a3⟩ := hT p hp
      refine ⟨ps', by rw [upd_ne (ne_of_none a1 nC), upd_ne hb]; exact a1, a2, fun p' cv hcv => ?_⟩
      obtain ⟨c0, e1, e2⟩ := a3 p' cv hcv
      exact ⟨c0, e1, hE _ _ e2 LamX.codeO_ne⟩
  | some cv =>
    obtain ⟨c', e, hco⟩ := ha pos cv hc
    subst e
    refine PySem.W.kla_makeFunctionHit (mg := X.mg) (c := c) (P := P) (ps := ps) (closure_ok hfree) I.ok.glob (I.mod.glob.keeps I.bk) hcode (TB.code.keeps I.bk) hP' ht hc bP fun ctv h' tk hx hsz => ?_
    have I1 : Inv X pins σ H { s with heap := h', toks := tk } := I.kept fun b o e => hx b o e
    exact track I1 (LamX.ExtN.refl H) hT hco
end
/-! ### the key (len(y), y) -/
def kLen (ns : List Int) : PyData := .tuple [.int ns.length, .tuple (ns.map .int)]
/-- what the lambda's names are -/
structure KeyS (scope : Scope) (y : Str) : Prop where
  kind : scope.kind = .function
  co : scope.isCoroutine = false
  gen : scope.isGenerator = false
  nocell : ∀ z ∈ scope.names, z.2 ≠ .cell
  loc : scope.names.lookup y = some NameKind.local
  len : scope.names.lookup ("len" : Str) = some NameKind.globalImplicit
  nofree : ∀ z ∈ scope.names, z.2 ≠ .free
theorem reads_ints {h : Heap} {us : List Value} {ns : List Int} (i : IntsAre us ns) : ReadsAll h us (ns.map .int) [] := by
  induction i with
  | nil => exact .nil
  | cons n t _ ih => exact ReadsAll.cons (.int n t) ih
section
variable {P : Program} {w : World} {A : Around}
abbrev keyBody (y : Str) (k1 : Nat) (q1 q2 q3 q4 q5 : Pos) : Expr := .Tuple [.Call (.Name "len" q1) [.Name y q2] [] q3, .Name y q4] k1 q5
theorem key_body {s : Shared} {env : Env} {E : Value → Shared → Prop} {y : Str} {k1 : Nat} {q1 q2 q3 q4 q5 : Pos} {v : Value} {ns : List Int} {m mg : Str → Option Value} {mb : Str → Option Value} (hk : env.scope.kind = .function) (hkl : env.kindOf "len" = some .globalImplicit) (hky : env.kindOf y = some .local)
    (hm : s.heap.Ns env.locals m) (hv : m y = some v) (gl : s.heap.Ns env.globals mg) (bl : s.heap.Ns env.builtins mb) (ml : mg "len" = none) (mbl : mb "len" = bootBuiltins "len") (ti : SrtT.TI s.heap v ns) (hz : ns.length ≤ sizeLine)
    (hd : (y == ("__debug__" : Str)) = false) :
    wpAny (model P w) A (eval (keyBody y k1 q1 q2 q3 q4 q5) env) (PySem.W.KeyPure (kLen ns) s) E s := by
  obtain ⟨a, items, rfl, it, ia⟩ := ti
  have hlen : items.size = ns.length := by rw [← ia.length, Array.length_toList]
  have hz2 := hz
  rw [sizeLine_eq] at hz2
  have two : 2 ≤ sizeLine := by rw [sizeLine_eq]; decide
  refine wpAny_Tuple_spliced ?_
  show wpAny _ _ (spliced ((false, eval (.Call (.Name "len" q1) [.Name y q2] [] q3) env) :: backTo q5 (starEach [.Name y q4] env))) _ _ s
  refine Calls.spliced_cons (wpAny_Call_Name_kw (Calls.Name_function_global hk hkl (Calls.loadGlobal_builtin gl ml bl (mbl.trans PySem.boot_len) ?_) (by decide)))
  refine PyProof.Rows.callWith_builtin1 ?_
  show wpAny _ _ (spliced ((false, eval (.Name y q2) env) :: backTo q3 (starEach [] env))) _ _ s
  refine Calls.spliced_cons (wpAny_Name (wpAny_loadName_local hk hky hm hv ?_) hd)
  refine Calls.spliced_nil (len_tuple it (by rw [hlen]; omega) ?_)
  show wpAny _ _ (spliced ((false, eval (.Name y q4) env) :: backTo q5 (starEach [] env))) _ _ _
  refine Calls.spliced_cons (wpAny_Name (wpAny_loadName_local hk hky hm hv ?_) hd)
  refine Calls.spliced_nil ⟨two, ?_⟩
  refine ⟨_, _, rfl, fun b o e => Heap.get?_push_of_some _ e, ?_⟩
  obtain ⟨o, h1, h2, n, h3⟩ := it
  have q : Reads (s.heap.push { cls := .type "tuple", data := .seq [Value.int items.size (s.toks + 1), .ref a].toArray }) (.ref s.heap.objs.size) (.tuple [.int ns.length, .tuple (ns.map .int)]) [] := by
    refine Reads.tuple (Heap.get?_push_size _ rfl) rfl rfl ?_
    have r1 : Reads (s.heap.push { cls := .type "tuple", data := .seq [Value.int items.size (s.toks + 1), .ref a].toArray }) (.int items.size (s.toks + 1)) (.int ns.length) [] := by
      rw [hlen]; exact .int _ _
    have r2 : Reads (s.heap.push { cls := .type "tuple", data := .seq [Value.int items.size (s.toks + 1), .ref a].toArray }) (.ref a) (.tuple (ns.map .int)) [] := Reads.tuple (Heap.get?_push_of_some _ h1) h2 h3 (reads_ints ia)
    exact ReadsAll.cons r1 (ReadsAll.cons r2 .nil)
  exact q
end
/-! ### the order -/
def ltLen (a b : List Int) : Bool := decide (a.length < b.length) || (decide (a.length = b.length) && HT.lexLt a b)
theorem eqv_all_ints : ∀ a b : List Int, PyData.eqvAll (a.map .int) (b.map .int) = decide (a = b)
  | [], [] => rfl
  | [], _ :: _ => rfl
  | _ :: _, [] => rfl
  | x :: xs, y :: ys => by
    rw [List.map_cons, List.map_cons, PyData.eqvAll, eqv_all_ints xs ys]
    show ((x == y) && _) = _
    by_cases h : x = y
    · subst h; simp
    · simp [h]
theorem alike_ints : ∀ a b : List Int, PySem.W.alikeAll (a.map .int) (b.map .int) = true
  | [], _ => by cases ‹List Int› <;> rfl
  | _ :: _, [] => rfl
  | x :: xs, y :: ys => by rw [List.map_cons, List.map_cons, PySem.W.alikeAll, alike_ints xs ys]; rfl
theorem lex_ints : ∀ a b : List Int, PyProof.Rows.lexLt itemOrd (PySem.W.keyToksAll (a.map .int)) (PySem.W.keyToksAll (b.map .int)) = HT.lexLt a b
  | [], [] => by rfl
  | [], y :: ys => by rfl
  | x :: xs, [] => by rfl
  | x :: xs, y :: ys => by
    rw [List.map_cons, List.map_cons]
    by_cases h : x = y
    · subst h
      rw [PySem.W.dataLt_all_yes (x := .int x) (y := .int x) rfl (beq_self_eq_true x), lex_ints xs ys]
      simp [HT.lexLt]
    · rw [PySem.W.dataLt_all_no (x := .int x) (y := .int y) rfl (beq_eq_false_iff_ne.mpr h), PySem.W.dataLt_int]
      simp [HT.lexLt, h]
theorem tot_irr {α : Type} {lt : α → α → Bool} (O : Tot lt) (x : α) : lt x x = false := by
  cases h : lt x x with
  | false => rfl
  | true => rw [O.asym x x h] at h; cases h
theorem kLen_lt (a b : List Int) : PySem.W.dataLt (kLen a) (kLen b) = ltLen a b := by
  unfold kLen ltLen
  rw [PySem.W.dataLt_tuple]
  by_cases h : a.length = b.length
  · rw [PySem.W.dataLt_all_yes (x := .int a.length) (y := .int b.length) rfl (by rw [h]; exact beq_self_eq_true _)]
    have l1 : decide (a.length < b.length) = false := decide_eq_false (by omega)
    rw [l1, Bool.false_or, decide_eq_true h, Bool.true_and]
    by_cases e : a = b
    · subst e
      rw [PySem.W.dataLt_all_yes (x := .tuple (a.map .int)) (y := .tuple (a.map .int)) (alike_ints a a) (by show PyData.eqvAll _ _ = true; rw [eqv_all_ints, decide_eq_true rfl])]
      rw [tot_irr lexTot a]
      rfl
    · rw [PySem.W.dataLt_all_no (x := .tuple (a.map .int)) (y := .tuple (b.map .int)) (alike_ints a b) (by show PyData.eqvAll _ _ = false; rw [eqv_all_ints, decide_eq_false e])]
      rw [PySem.W.dataLt_tuple, lex_ints]
  · rw [PySem.W.dataLt_all_no (x := .int a.length) (y := .int b.length) rfl (beq_eq_false_iff_ne.mpr (by omega)), PySem.W.dataLt_int, decide_eq_false h, Bool.false_and, Bool.or_false]
    exact decide_eq_decide.mpr (by omega)
theorem lenTot : Tot ltLen := by
  refine ⟨fun x y h => ?_, fun x y z h1 h2 => ?_, fun x y h1 h2 => ?_⟩
  · unfold ltLen at h ⊢
    rcases Nat.lt_trichotomy x.length y.length with l | l | l
    · rw [decide_eq_false (by omega), decide_eq_false (by omega)]; rfl
    · rw [decide_eq_false (by omega), decide_eq_true l, Bool.false_or, Bool.true_and] at h
      rw [decide_eq_false (by omega), decide_eq_true l.symm, lexTot.asym _ _ h]; rfl
    · rw [decide_eq_false (by omega), decide_eq_false (by omega)] at h; cases h
  · unfold ltLen at h1 h2 ⊢
    rw [Bool.or_eq_false_iff, decide_eq_false_iff_not, Bool.and_eq_false_iff, decide_eq_false_iff_not] at h1 h2 ⊢
    refine ⟨by omega, ?_⟩
    rcases h1.2 with q1 | q1
    · exact .inl (by omega)
    · rcases h2.2 with q2 | q2
      · exact .inl (by omega)
      · exact .inr (lexTot.tr _ _ _ q1 q2)
  · unfold ltLen at h1 h2
    rw [Bool.or_eq_false_iff, decide_eq_false_iff_not, Bool.and_eq_false_iff, decide_eq_false_iff_not] at h1 h2
    have e : x.length = y.length := by omega
    rcases h1.2 with q1 | q1
    · exact absurd e q1
    · rcases h2.2 with q2 | q2
      · exact absurd e.symm q2
      · exact lexTot.eq _ _ q1 q2
theorem each_of {hp : Heap} (M : List Value) : ∀ {us : List Value} {nss : List (List Int)}, us.map (keyOf hp) = nss → (∀ u ∈ us, SrtT.TI hp u (keyOf hp u)) → (∀ u ∈ us, u ∈ M) → PySem.W.EachIs (fun u ns => SrtT.TI hp u ns ∧ u ∈ M) us nss
  | [], _, rfl, _, _ => .nil
  | u :: us, _, rfl, h, hm => .cons ⟨h u List.mem_cons_self, hm u List.mem_cons_self⟩ (each_of M rfl (fun v hv => h v (List.mem_cons_of_mem _ hv)) fun v hv => hm v (List.mem_cons_of_mem _ hv))
theorem each_keys {hp : Heap} {M : List Value} : ∀ {us : List Value} {nss : List (List Int)}, PySem.W.EachIs (fun u ns => SrtT.TI hp u ns ∧ u ∈ M) us nss → us.map (keyOf hp) = nss ∧ ∀ u ∈ us, u ∈ M
  | [], [], _ => ⟨rfl, fun _ h => nomatch h⟩
  | [], _ :: _, h => by cases h
  | _ :: _, [], h => by cases h
  | u :: us, n :: ns, h => by
    cases h with
    | cons h1 t =>
      obtain ⟨e1, e2⟩ := each_keys t
      refine ⟨by rw [List.map_cons, keyOf_eq h1.1, e1], fun v hv => ?_⟩
      rcases List.mem_cons.mp hv with e | e
      · rw [e]; exact h1.2
      · exact e2 v e
/-- what is asked of a key -/
structure KeyR (k : List Int → PyData) (lt : List Int → List Int → Bool) (okk : List Int → Bool) : Prop where
  tot : Tot lt
  dl : ∀ a b, PySem.W.dataLt (k a) (k b) = lt a b
  al : ∀ nss : List (List Int), PySem.W.AllAlike (nss.map k)
  so : ∀ nss : List (List Int), (∀ ns ∈ nss, okk ns = true) → PySem.W.Sortable (nss.map k)
  dep : ∀ a, (k a).depth ≤ 3
theorem depth_ints' : ∀ ns : List Int, PyData.depthAll (ns.map PyData.int) = 0
  | [] => rfl
  | n :: ns => by rw [List.map_cons, PyData.depthAll, depth_ints' ns]; rfl
theorem keyR_len : KeyR kLen ltLen (fun _ => true) where
  tot := lenTot
  dl := kLen_lt
  al := fun nss d hd d' hd' => by
    obtain ⟨a, _, rfl⟩ := List.mem_map.mp hd
    obtain ⟨b, _, rfl⟩ := List.mem_map.mp hd'
    show PySem.W.alikeAll _ _ = true
    rw [PySem.W.alikeAll, PySem.W.alikeAll]
    show (true && (PySem.W.alikeAll _ _ && true)) = true
    rw [alike_ints]
    rfl
  so := fun nss _ => .inl fun d hd => by
    obtain ⟨a, _, rfl⟩ := List.mem_map.mp hd
    exact ⟨_, _, rfl⟩
  dep := fun a => by
    unfold kLen
    simp only [PyData.depth, PyData.depthAll, depth_ints']
    decide
section
variable {X : Cx} {W : WX} {j k : Nat}
/-- what sorting by the key gives -/
def rSortL (X : Cx) (lt : List Int → List Int → Bool) (okk : List Int → Bool) : V → Hp → VK → Prop := fun v H Q => ∃ (G : Gh) (h : Hs) (nss : List (List Int)) (a : Addr) (ws : List V), WI X.K X.mg G h H ∧ Rs X.K X.mg G (nss.map tupA) ws ∧ v = .ref a ∧ SqL X.K H a ws ∧ (∀ ns ∈ nss, ns.length ≤ sizeLine ∧ okk ns = true) ∧
    ∀ G' H' p ws', G.le G' → WI X.K X.mg G' h H' → H' p = none → Rs X.K X.mg G' ((isort lt nss).map tupA) ws' → Q (.ref p) (upd H' p (.lst ws'))
theorem sort_run {pins : List (Addr × Obj)} {s : Shared} {σ : L2.St} {H : Hp} {v : V} {u : Value} {f : Addr} {key : List Int → PyData} {lt : List Int → List Int → Bool} {okk : List Int → Bool} {Q : VK} (kr : KeyR key lt okk) (hu : X.A.units + 64 < cLine) (I : Inv X pins σ H s) (ru : RelV v u) (h : rSortL X lt okk v H Q)
    (turn : ∀ (u : Value) (ns : List Int), ns.length ≤ sizeLine → SrtT.TI s.heap u ns → ∀ (hh : Heap) (tk : Nat), (∀ b o, s.heap.get? b = some o → hh.get? b = some o) →
      wpAny (model X.prog X.w) X.A.in1.in1 (call (.ref f) [u]) (PySem.W.KeyPure (key ns) { s with heap := hh, toks := tk }) (fun _ _ => False) { s with heap := hh, toks := tk }) :
    wpAny (model X.prog X.w) X.A (call (.builtin "sorted") [u] [(Str.ofString "key", .ref f)]) (EP X pins σ Q) X.xe s := by
  obtain ⟨G, hs, nss, a, ws, w, rs, rfl, hl, hsz, q⟩ := h
  obtain rfl : u = Value.ref a := ru
  obtain ⟨its, rv, hlst, hz⟩ := I.list hl
  obtain ⟨t1, t2⟩ := tups_raw I w rs rv
  have hlen : nss.length = its.length := by rw [← t1, List.length_map]
  refine PySem.W.sorted_key_data (β := List Int) (bs := nss) (R := fun u ns => SrtT.TI s.heap u ns ∧ u ∈ its) (b := false) key hlst.isList (each_of its t1 (fun u hu => (t2 u hu).1) fun u hu => hu) (kr.al nss) (kr.so nss fun ns hn => (hsz ns hn).2) (by rw [hlen, ← rv.length]; exact hz) (fun x _ => by have := kr.dep x; omega)
    (PyProof.Rows.ksk_s1 _ _) (fun _ => PyProof.Rows.ksk_l1 _ _) (fun x => PyProof.Rows.ksk_t1 f x) (fun u ns hR hx hh tk kp => turn u ns (hsz ns hx).1 hR.1 hh tk kp) fun out c h' tk kp hn hD ho hE => ?_
  obtain ⟨hk, hin⟩ := each_keys hE
  have hle : ∀ a b, PySem.W.dataLe false key a b = !lt b a := fun a b => by rw [← kr.dl b a]; rfl
  have hsort : nss.mergeSort (PySem.W.dataLe false key) = isort lt nss := by
    refine sd_unique kr.tot ((List.mergeSort_perm _ _).trans (isort_perm nss).symm) ?_ (isort_sd kr.tot _)
    have hp := List.pairwise_mergeSort (le := PySem.W.dataLe false key) (fun a b c h1 h2 => by
      rw [hle] at h1 h2 ⊢
      have e1 : lt b a = false := by simpa using h1
      have e2 : lt c b = false := by simpa using h2
      rw [kr.tot.tr _ _ _ e1 e2]; rfl) (fun a b => by
      rw [hle, hle]
      cases e : lt b a with
      | false => rfl
      | true => rw [kr.tot.asym _ _ e]; rfl) nss
    exact hp.imp fun {a b} h => by rw [hle] at h; simpa using h
  rw [hsort] at hk
  have hmem : ∀ u ∈ out, ∃ a, u = Value.ref a ∧ R X.K X.mg G (tupA (keyOf s.heap u)) (.ref a) := fun u hu => (t2 u (hin u hu)).2
  have rs' := rs_of_keys (X := X) (G := G) (hp := s.heap) hmem
  rw [hk] at rs'
  have hlen2 : (out.map bkV).length ≤ sizeLine := by
    rw [List.length_map, ho, hlen, ← rv.length]; exact hz
  exact ⟨.ref _, upd H (s.heap.objs.size + 1) (.lst (out.map bkV)), I.laid (t' := tk) kp (Nat.le_succ _) ⟨hlen2, out, c, bkV_vals (fun u hu => by obtain ⟨a, e, _⟩ := hmem u hu; exact ⟨a, e⟩), by exact hD⟩, rfl,
      q G H _ _ (.refl G) w (I.hok.fresh (Nat.le_succ _)) rs'⟩

theorem lam_key {pins : List (Addr × Obj)} {s : Shared} {σ : L2.St} {H : Hp} {f c' : Addr} {y : Str} {k1 : Nat} {q1 q2 q3 q4 q5 : Pos} {params : Arguments} {scope : Scope} {cl : List (Str × Addr)} (I : Inv X pins σ H s) (S : KeyS scope y) (ml : X.mg "len" = none) (hr : Room 1 X.A)
    (hf : H f = some (LamO f (X.env.qual ++ "<lambda>") params (keyBody y k1 q1 q2 q3 q4 q5) scope cl c')) (hc : H c' = some (LamX.CodeO c' (X.env.qual ++ "<lambda>")))
    (hbind : ∀ (q : Str) (cl : List (Str × Addr)) (pm cv ctv v : Value), bindArgs (PySem.W.kla_fn "<lambda>" q params (keyBody y k1 q1 q2 q3 q4 q5) scope cl pm cv ctv) ⟨[v], []⟩ = pure [(y, v)]) (hd : (y == ("__debug__" : Str)) = false) :
    ∀ (u : Value) (ns : List Int), ns.length ≤ sizeLine → SrtT.TI s.heap u ns → ∀ (hh : Heap) (tk : Nat), (∀ b o, s.heap.get? b = some o → hh.get? b = some o) →
      wpAny (model X.prog X.w) X.A.in1.in1 (call (.ref f) [u]) (PySem.W.KeyPure (kLen ns) { s with heap := hh, toks := tk }) (fun _ _ => False) { s with heap := hh, toks := tk } := by
  intro u ns hz ti hh tk kp
  have I3 : Inv X pins σ H { s with heap := hh, toks := tk } := I.kept kp
  obtain ⟨⟨pm, ctv, hfo⟩, _, _⟩ := (show ObjOk X.prog X.w H hh f (LamO f (X.env.qual ++ "<lambda>") params (keyBody y k1 q1 q2 q3 q4 q5) scope cl c') from I3.hok f _ hf)
  obtain ⟨⟨oc, vs, t, hoc, hdc, hvc⟩, _, _⟩ := (show ObjOk X.prog X.w H hh c' (LamX.CodeO c' (X.env.qual ++ "<lambda>")) from I3.hok c' _ hc)
  have hdep : X.A.in1.in1.depth < recursionLimit := hr.depth
  refine wpAny_call (PySem.W.kla_callFunE (s := { s with heap := hh, toks := tk }) hdep hfo rfl S.co S.gen rfl ⟨c', oc, vs, t, rfl, hoc, hdc, hvc⟩ ?_)
  rw [hbind]
  refine wpAny_pure (wpAny_newFunctionEnv (fun z hz' => S.nocell z hz') (fun z hz' => ?_) (fun h₁ hns hsb => ⟨I3.nolimit.fresh _ hsb, ?_⟩) S.kind)
  · rcases List.mem_singleton.mp hz' with rfl
    exact S.loc
  have kp1 : ∀ b o, hh.get? b = some o → h₁.get? b = some o := fun b o e => hsb.extBut b o (Nat.ne_of_lt (Heap.lt_size e)) (Heap.get?_push_of_some _ e)
  obtain ⟨mb, hb1, hb2⟩ := I3.mod.blt
  refine PySem.W.kla_codeExpr (wpAny_mono (key_body (s := { s with heap := h₁, toks := tk + [(y, u)].length }) (mg := X.mg) (mb := mb) (v := u) (ns := ns) S.kind S.len S.loc hns ?_ ((I3.mod.glob.keeps I3.bk).keeps kp1) ((hb1.keeps I3.bk).keeps kp1) ml (hb2 _ (by decide)) (ti.keeps fun b o e _ => kp1 b o (kp b o e)) hz hd) (fun v s' hq => ?_) fun e s' hq => hq)
  · show ([(y, u)] : List (Str × Value)).reverse.lookup y = some u
    simp
  · obtain ⟨h', tk', rfl, k2, r⟩ := hq
    exact ⟨h', tk', rfl, fun b o e => k2 b o (kp1 b o e), r⟩
/-- sorted(e, key=lambda y: (len(y), y)) -/
theorem pe_sortLam {c P : Addr} {q0 : Str} {e : Expr} {te : TE} {y : Str} {k1 : Nat} {q1 q2 q3 q4 q5 lpos kpos p pos : Pos} {params : Arguments} {scope : Scope} (hc : X.calm = true) (hu : X.A.units + 64 < cLine) (hr : Room 1 X.A) (TB : LamX.TabB X.base X.mg c P) (hcode : X.env.code = .ref c) (hq : X.env.qual = q0)
    (hmT : (P, q0 ++ "<lambda>") ∈ TabT.T) (huT : ∀ p ∈ TabT.T, p.1 = P → p.2 = q0 ++ "<lambda>") (S : KeyS scope y) (ms : X.mg "sorted" = none) (ml : X.mg "len" = none) (he : PE X e te) (hg : Gl X "sorted")
    (hdef : defaultsOf params X.env = ([], [])) (hbind : ∀ (q : Str) (cl : List (Str × Addr)) (pm cv ctv v : Value), bindArgs (PySem.W.kla_fn "<lambda>" q params (keyBody y k1 q1 q2 q3 q4 q5) scope cl pm cv ctv) ⟨[v], []⟩ = pure [(y, v)])
    (hd : (y == ("__debug__" : Str)) = false) (hst : starEach [e] X.env = (false, eval e X.env) :: starEach [] X.env) :
    PE X (.Call (.Name "sorted" p) [e] [⟨some "key", .Lambda params (keyBody y k1 q1 q2 q3 q4 q5) scope lpos, kpos⟩] pos) (fun σ H Q => te σ H fun v H1 => LamX.Tabs TabT.T H1 ∧ ∀ H2, LamX.ExtN H1 H2 → LamX.Tabs TabT.T H2 → rSortL X ltLen (fun _ => true) v H2 Q) := by
  subst hq
  refine ⟨fun pins s σ H Q I h => ?_⟩
  refine wpAny_Call_Name_kw (ld_blt I hg ms (show bootBuiltins ("sorted" : Str) = some (.builtin "sorted") by rfl) ?_)
  have ha : PA X [e] (tCons te tNil) := pa_cons he pa_nil hst
  let Q1 : List V → Hp → Prop := fun vs H1 => match vs with
    | [v] => LamX.Tabs TabT.T H1 ∧ ∀ H2, LamX.ExtN H1 H2 → LamX.Tabs TabT.T H2 → rSortL X ltLen (fun _ => true) v H2 Q
    | _ => False
  refine PyProof.Rows.callWith_kw (thn (ha.run pos pins s σ H Q1 I h) fun us s1 ⟨vs, H1, I1, r1, q⟩ => ?_) (by rw [hst]; rfl) (by rw [hst]; rfl) (by rfl) (by rfl)
  cases r1 with
  | nil => exact q.elim
  | @cons v u vs us ru rt =>
    cases rt with
    | cons _ _ => exact q.elim
    | nil =>
      obtain ⟨t1, q⟩ := q
      show wpAny _ _ (evalAll ((do let v ← eval (.Lambda params (keyBody y k1 q1 q2 q3 q4 q5) scope lpos) X.env; standAt pos; pure v) :: (backToKw pos (keywordEach [] X.env)).map (·.2))) _ _ s1
      refine wpAny_evalAll_cons (wpAny_bind (lam_make3 I1 TB hcode hmT huT t1 hdef (fun z hz e => absurd e (S.nofree z hz)) fun f c' H2 s2 I2 eN t2 hf hc' => wpAny_bind (wpAny_standAt (wpAny_pure ?_))))
      refine wpAny_evalAll_nil ?_
      show wpAny _ _ (call (.builtin "sorted") [u] [(Str.ofString "key", .ref f)]) _ _ _
      exact sort_run keyR_len hu I2 ru (q H2 eN t2) (lam_key I2 S ml hr hf hc' hbind hd)
/-- what sorting by the key gives, told of contents -/
def sortLenA (h : Hs) (x : AV) : Option (List AV) := (lstOf h x).bind fun ys => (tups? ys).bind fun nss => if nss.all (fun ns => decide (ns.length ≤ sizeLine)) then some ((isort ltLen nss).map tupA) else none
def mSortLen (m : EM AV) : EM (List AV) := fun env => (m env).bnd fun x => rd fun h => sortLenA h x
theorem sf_sortLen {c P : Addr} {q0 : Str} {e : Expr} {m : EM AV} {y : Str} {k1 : Nat} {q1 q2 q3 q4 q5 lpos kpos p pos : Pos} {params : Arguments} {scope : Scope} (O : Ok X W j) (hj : 1 ≤ j) (TB : LamX.TabB X.base X.mg c P) (hcode : X.env.code = .ref c) (hq : X.env.qual = q0)
    (hmT : (P, q0 ++ "<lambda>") ∈ TabT.T) (huT : ∀ p ∈ TabT.T, p.1 = P → p.2 = q0 ++ "<lambda>") (S : KeyS scope y) (ms : X.mg "sorted" = none) (ml : X.mg "len" = none) (he : SE X W e m) (hg : Gl X "sorted" := by rfl)
    (hdef : defaultsOf params X.env = ([], []) := by rfl) (hbind : ∀ (q : Str) (cl : List (Str × Addr)) (pm cv ctv v : Value), bindArgs (PySem.W.kla_fn "<lambda>" q params (keyBody y k1 q1 q2 q3 q4 q5) scope cl pm cv ctv) ⟨[v], []⟩ = pure [(y, v)] := by intros; rfl)
    (hd : (y == ("__debug__" : Str)) = false := by decide) (hst : starEach [e] X.env = (false, eval e X.env) :: starEach [] X.env := by rfl) :
    SF X W (.Call (.Name "sorted" p) [e] [⟨some "key", .Lambda params (keyBody y k1 q1 q2 q3 q4 q5) scope lpos, kpos⟩] pos) (mSortLen m) := by
  refine ⟨(pe_sortLam O.calm O.u64 (O.hr.mono hj) TB hcode hq hmT huT S ms ml he.pe hg hdef hbind hd hst).weak fun σ H Q ⟨G, h, env, w, re, p⟩ => ⟨G, h, env, w, re, post_bnd (postSF p) fun x h1 G1 H1 v l1 w1 rx p1 => ⟨w1.tb.T, fun H2 eN t2 => ?_⟩⟩⟩
  obtain ⟨ys, e1, q⟩ := post_rd p1
  unfold sortLenA at e1
  cases e2 : lstOf h1 x with
  | none => rw [e2] at e1; cases e1
  | some zs =>
    rw [e2] at e1
    have e1' : ((tups? zs).bind fun nss => if nss.all (fun ns => decide (ns.length ≤ sizeLine)) then some ((isort ltLen nss).map tupA) else none) = some ys := e1
    cases e3 : tups? zs with
    | none => rw [e3] at e1'; cases e1'
    | some nss =>
      rw [e3] at e1'
      have e1'' : (if nss.all (fun ns => decide (ns.length ≤ sizeLine)) then some ((isort ltLen nss).map tupA) else none) = some ys := e1'
      split at e1''
      · rename_i hs
        cases e1''
        have w2 := w1.extN eN t2
        obtain ⟨a, vs, rfl, rs, hH⟩ := rx.lstOf w2 e2
        rw [tups_of e3] at rs
        exact ⟨G1, h1, nss, a, vs, w2, rs, rfl, .inl (.inl hH), fun ns hn => ⟨of_decide_eq_true (List.all_eq_true.mp hs ns hn), rfl⟩, fun G' H' p ws' l w' hp rs' => q G' H' ws' l w' rs' p hp⟩
      · cases e1''
end
end Sim

set_option Elab.async false
set_option linter.all false
set_option maxRecDepth 100000
set_option maxHeartbeats 2000000
namespace Sim
open PySem PySem.Spec L2
open PyProof.Rows hiding St
variable [TabT]
/-! SimU: isinstance of own classes; statements that are never reached. -/
section
variable {X : Cx} {W : WX} {j k : Nat}
/-- what isinstance asks of an instance's class C1 and the class C -/
structure IsOk (K : PySem.W.Frag) (C1 C : Addr) (b : Bool) : Prop where
  cl : Cls K C1
  ha : PySem.W.findIn K (.ref C1) "__class__" = some (some (.builtin "object.__class__"))
  hn : PySem.W.specialIn K (.builtin "object.__class__") "__get__" = some (some (.builtin "getset_descriptor.__get__"))
  htk : PySem.W.takesIn K (.builtin "object.__class__") = some true
  hm : PySem.W.mroIn K C1 (.type "object") = some true
  me : PySem.W.kitOne K (.ref C1) (.ref C) = some b
/-- isinstance(x, C): told by a table of the own classes -/
def isoA (tab : List (Str × Bool)) (h : Hs) (x : AV) : Option AV := match insOf h x with
  | some (c, _) => (tab.lookup c).map .bl
  | none => none
def IsTab (K : PySem.W.Frag) (mg : Str → Option Value) (C : Addr) (tab : List (Str × Bool)) : Prop := ∀ p ∈ tab, ∃ C1, mg p.1 = some (.ref C1) ∧ IsOk K C1 C p.2
theorem IsTab.nil {K : PySem.W.Frag} {mg : Str → Option Value} {C : Addr} : IsTab K mg C [] := fun _ h => nomatch h
theorem IsTab.cons {K : PySem.W.Frag} {mg : Str → Option Value} {C C1 : Addr} {c : Str} {b : Bool} {tab : List (Str × Bool)} (g : mg c = some (.ref C1)) (o : IsOk K C1 C b) (r : IsTab K mg C tab) : IsTab K mg C ((c, b) :: tab) := fun p hp => by
  rcases List.mem_cons.mp hp with e | e
  · subst e; exact ⟨C1, g, o⟩
  · exact r p e
theorem se_isO {C : Addr} {c : Str} {tab : List (Str × Bool)} {a : Expr} {ma : EM AV} {p p2 pos : Pos} (it : IsTab X.K X.mg C tab) (gC : X.mg c = some (.ref C)) (hm : X.mg "isinstance" = none) (ha : SE X W a ma) (hg : Gl X "isinstance" := by rfl) (hgC : Gl X c := by rfl) (hdC : (c == ("__debug__" : Str)) = false := by decide)
    (he : starEach [a, .Name c p2] X.env = (false, eval a X.env) :: starEach [.Name c p2] X.env := by rfl) (he2 : starEach [.Name c p2] X.env = (false, eval (.Name c p2) X.env) :: starEach [] X.env := by rfl) (hpl : (backTo pos (starEach [.Name c p2] X.env)).any (·.1) = false := by rfl) :
    SE X W (.Call (.Name "isinstance" p) [a, .Name c p2] [] pos) (m1 (isoA tab) ma) := by
  refine ⟨(pe_callB call_isi hg hm (show bootBuiltins ("isinstance" : Str) = some (.builtin "isinstance") by rfl) (pa_cons ha.pe (pa_cons (pe_glob (v := .ref C) hgC gC rfl hdC) pa_nil he2) he) (by decide) (by decide) he hpl).weak fun σ H Q ⟨G, h, env, w, re, p⟩ => ⟨G, h, env, w, re, post_bnd p fun x h1 G1 H1 v l1 w1 rx p1 => ?_⟩⟩
  obtain ⟨c1, e1, q⟩ := post_rd p1
  unfold isoA at e1
  cases e2 : insOf h1 x with
  | none => rw [e2] at e1; cases e1
  | some cf =>
    obtain ⟨cn, fs⟩ := cf
    rw [e2] at e1
    dsimp only at e1
    cases e3 : tab.lookup cn with
    | none => rw [e3] at e1; cases e1
    | some b =>
      rw [e3] at e1
      cases e1
      obtain ⟨ad, C2, dx, vfs, rfl, g, hH, _⟩ := rx.ins w1 e2
      obtain ⟨C1, g1, ok⟩ := it _ (PySem.mem_of_lookup e3)
      rw [g] at g1
      cases g1
      exact ⟨.ref ad, .ref C, .ref C2, .ref C, b, rfl, .own C, .base (.ins hH ok.cl ok.ha ok.hn ok.htk ok.hm), ok.me, q G1 H1 _ (.refl G1) w1 (.bl b)⟩
/-- never reached -/
def sNever : SM := fun _ _ => .bad
theorem ss_never {st : Stmt} : SS X W st sNever := ⟨ps_never.weak fun D σ H ⟨G, h, env, w, re, p⟩ => p⟩

/-! ### list(range(..)), tuple(range(..)) -/
theorem Rs.rg {G : Gh} (a b : Int) : Rs X.K X.mg G (rngL a b) (rgV a b) := by
  unfold rngL rgV
  generalize List.range (b - a).toNat = l
  induction l with
  | nil => exact .nil
  | cons i l ih => exact .cons (.int _) ih
theorem sf_listRg1 {a : Expr} {ma : EM AV} {p p1 pos1 pos : Pos} (O : Ok X W k) (ml : X.mg "list" = none) (mr : X.mg "range" = none) (ha : SE X W a ma) (hgl : Gl X "list" := by rfl) (hgr : Gl X "range" := by rfl)
    (na : starEach [a] X.env = (false, eval a X.env) :: starEach [] X.env := by rfl) (nb : starEach [.Call (.Name "range" p1) [a] [] pos1] X.env = (false, eval (.Call (.Name "range" p1) [a] [] pos1) X.env) :: starEach [] X.env := by rfl) :
    SF X W (.Call (.Name "list" p) [.Call (.Name "range" p1) [a] [] pos1] [] pos) (mListRg1 ma) := by
  refine ⟨(pe_listRg O.calm hgl ml (prg_1 hgr mr ha.pe na) nb).weak fun σ H Q ⟨G, h, env, w, re, p⟩ => ⟨G, h, env, w, re, post_bnd (postSF p) fun x h1 G1 H1 v l1 w1 rx p1 => ?_⟩⟩
  obtain ⟨ys, e1, q⟩ := post_rd p1
  cases x with
  | int n =>
    cases rx
    have e2 : (if rgOk 0 n = true then some (rngL 0 n) else none) = some ys := e1
    split at e2
    · rename_i hk
      cases e2
      exact ⟨n, rfl, rgOk_of hk, fun p hp => q G1 H1 _ (.refl G1) w1 (Rs.rg 0 n) p hp⟩
    · cases e2
  | bl b =>
    cases b <;> (exfalso; revert e1; show ¬ (((int? _).bind _) = _); simp [int?])
  | _ => cases e1
theorem se_tupRg1 {a : Expr} {ma : EM AV} {p p1 pos1 pos : Pos} (O : Ok X W k) (ml : X.mg "tuple" = none) (mr : X.mg "range" = none) (ha : SE X W a ma) (hgl : Gl X "tuple" := by rfl) (hgr : Gl X "range" := by rfl)
    (na : starEach [a] X.env = (false, eval a X.env) :: starEach [] X.env := by rfl) (nb : starEach [.Call (.Name "range" p1) [a] [] pos1] X.env = (false, eval (.Call (.Name "range" p1) [a] [] pos1) X.env) :: starEach [] X.env := by rfl) :
    SE X W (.Call (.Name "tuple" p) [.Call (.Name "range" p1) [a] [] pos1] [] pos) (fun env => (mListRg1 ma env).bnd fun xs => M.ret (.tup xs)) := by
  refine ⟨(pe_tupRg O.calm hgl ml (prg_1 hgr mr ha.pe na) nb).weak fun σ H Q ⟨G, h, env, w, re, p⟩ => ?_⟩
  have p' : post X W (Rs X.K X.mg) G σ (fun vs H => ∀ p, H p = none → Q (.ref p) (upd H p (.tup vs))) (mListRg1 ma env h) := post_bnd p fun xs h1 G1 H1 vs l1 w1 rs p1 p hp => by
    exact p1 (G1.addF p (.tup vs)) _ (.ref p) (Gh.addF_le (w1.freeF hp)) (w1.newF hp) (.tup upd_same (rs.mono (Gh.addF_le (w1.freeF hp))))
  refine ⟨G, h, env, w, re, post_bnd p' fun x h1 G1 H1 v l1 w1 rx p1 => ?_⟩
  obtain ⟨ys, e1, q⟩ := post_rd p1
  cases x with
  | int n =>
    cases rx
    have e2 : (if rgOk 0 n = true then some (rngL 0 n) else none) = some ys := e1
    split at e2
    · rename_i hk
      cases e2
      exact ⟨n, rfl, rgOk_of hk, fun p hp => q G1 H1 _ (.refl G1) w1 (Rs.rg 0 n) p hp⟩
    · cases e2
  | bl b =>
    cases b <;> (exfalso; revert e1; show ¬ (((int? _).bind _) = _); simp [int?])
  | _ => cases e1
end
/-- an own class -/
structure ClsF (K : PySem.W.Frag) (mg : Str → Option Value) (c : Str) (C : Addr) : Prop where
  g : mg c = some (.ref C)
  cl : Cls K C
  mks : PySem.W.makesIn K C = true
  kp : PySem.W.keepIn K (.ref C) = true
  ha : PySem.W.findIn K (.ref C) "__class__" = some (some (.builtin "object.__class__"))
  hn : PySem.W.specialIn K (.builtin "object.__class__") "__get__" = some (some (.builtin "getset_descriptor.__get__"))
  htk : PySem.W.takesIn K (.builtin "object.__class__") = some true
  hm : PySem.W.mroIn K C (.type "object") = some true
theorem ClsF.isOk {K : PySem.W.Frag} {mg : Str → Option Value} {c : Str} {C1 C : Addr} {b : Bool} (x : ClsF K mg c C1) (me : PySem.W.kitOne K (.ref C1) (.ref C) = some b) : IsOk K C1 C b := ⟨x.cl, x.ha, x.hn, x.htk, x.hm, me⟩
theorem fn_bad {P : Program} {w : World} {K : PySem.W.Frag} {mg : Str → Option Value} {base : Heap} {CX : CXT} {k : Nat} {f : Addr} {fd : FuncData} {ps : List Str} {n : Nat} (hn : ps.length = n) : FnOk P w K mg base CX k f fd ps (spM K mg n (fun _ _ => .bad)) :=
  ⟨fun vs H Q E h => by rw [h.1, hn], fun A outer s H args us vs Q E hr he hb hv h => by
    obtain ⟨_, G, h0, avs, _, _, z⟩ := h
    exact z.elim⟩
theorem lvl_le {a b n : Nat} (h : a ≤ b) : a ≤ b + n := Nat.le_trans h (Nat.le_add_right b n)
end Sim

set_option Elab.async false
set_option linter.all false
set_option maxRecDepth 100000
set_option maxHeartbeats 2000000
namespace Sim
open PySem PySem.Spec L2
open PyProof.Rows hiding St
def KTup (K : PySem.W.Frag) (a : Addr) (ns : List Int) : Prop := ∃ (o : Obj) (its : Array Value) (n : Nat), K.lookup a = some o ∧ o.cls = .type "tuple" ∧ o.data = .seq its n ∧ its.size ≤ sizeLine ∧ Vals (ns.map V.int) its.toList
variable [TabT]
/-! SimV: dicts in cells, keys ints, texts or tuples of them; constants of the top that are tuples. -/
/-! ### a constant of the top -/
theorem se_gtup {X : Cx} {W : WX} {x : Str} {a : Addr} {ns : List Int} {pos : Pos} (hm : X.mg x = some (.ref a)) (hk : KTup X.K a ns) (hg : Gl X x := by rfl) (hd : (x == ("__debug__" : Str)) = false := by decide) : SE X W (.Name x pos) (mC (.ctp ns)) :=
  se_c (pe_glob (v := .ref a) hg hm rfl hd) fun _ => .ctp fun _ => .inr hk
/-! ### keys -/
def keysOf : List AV → Option (List Key)
  | [] => some []
  | x :: xs => (keyA? x).bind fun k => (keysOf xs).map (k :: ·)
def keyT? : AV → Option (List Key)
  | .tup xs => keysOf xs
  | _ => none
theorem keysOf_of : ∀ {xs : List AV} {ks : List Key}, keysOf xs = some ks → xs = ks.map kA
  | [], ks, e => by cases e; rfl
  | x :: xs, ks, e => by
    unfold keysOf at e
    cases e1 : keyA? x with
    | none => rw [e1] at e; cases e
    | some k =>
      rw [e1] at e
      cases e2 : keysOf xs with
      | none => rw [e2] at e; cases e
      | some r =>
        rw [e2] at e
        cases e
        rw [List.map_cons, ← keysOf_of e2, keyA_of e1]
theorem keyT_of {x : AV} {ks : List Key} (e : keyT? x = some ks) : x = .tup (ks.map kA) := by
  cases x with
  | tup xs => rw [keysOf_of e]
  | _ => cases e
theorem keyA_kA (k : Key) : keyA? (kA k) = some k := by cases k <;> rfl
theorem keysOf_map : ∀ ks : List Key, keysOf (ks.map kA) = some ks
  | [] => rfl
  | k :: ks => by
    rw [List.map_cons]
    unfold keysOf
    rw [keyA_kA, Option.bind_some, keysOf_map ks]
    rfl
def avT (kvs : List (List Key × AV)) : List (AV × AV) := kvs.map fun p => (.tup (p.1.map kA), p.2)
def unK : List (AV × AV) → Option (List (Key × AV))
  | [] => some []
  | (k, x) :: r => (keyA? k).bind fun kk => (unK r).map ((kk, x) :: ·)
def unT : List (AV × AV) → Option (List (List Key × AV))
  | [] => some []
  | (k, x) :: r => (keyT? k).bind fun kk => (unT r).map ((kk, x) :: ·)
theorem unK_of : ∀ {kvs : List (AV × AV)} {l : List (Key × AV)}, unK kvs = some l → kvs = avK l
  | [], l, e => by cases e; rfl
  | (k, x) :: r, l, e => by
    unfold unK at e
    cases e1 : keyA? k with
    | none => rw [e1] at e; cases e
    | some kk =>
      rw [e1] at e
      cases e2 : unK r with
      | none => rw [e2] at e; cases e
      | some m =>
        rw [e2] at e
        cases e
        show _ = (kA kk, x) :: avK m
        rw [← unK_of e2, keyA_of e1]
theorem unT_of : ∀ {kvs : List (AV × AV)} {l : List (List Key × AV)}, unT kvs = some l → kvs = avT l
  | [], l, e => by cases e; rfl
  | (k, x) :: r, l, e => by
    unfold unT at e
    cases e1 : keyT? k with
    | none => rw [e1] at e; cases e
    | some kk =>
      rw [e1] at e
      cases e2 : unT r with
      | none => rw [e2] at e; cases e
      | some m =>
        rw [e2] at e
        cases e
        show _ = (AV.tup (kk.map kA), x) :: avT m
        rw [← unT_of e2, keyT_of e1]
theorem unK_av : ∀ l : List (Key × AV), unK (avK l) = some l
  | [] => rfl
  | (k, x) :: l => by
    show (keyA? (kA k)).bind (fun kk => (unK (avK l)).map ((kk, x) :: ·)) = _
    rw [keyA_kA, Option.bind_some, unK_av l]
    rfl
theorem unT_av : ∀ l : List (List Key × AV), unT (avT l) = some l
  | [] => rfl
  | (k, x) :: l => by
    show (keyT? (.tup (k.map kA))).bind (fun kk => (unT (avT l)).map ((kk, x) :: ·)) = _
    show (keysOf (k.map kA)).bind (fun kk => (unT (avT l)).map ((kk, x) :: ·)) = _
    rw [keysOf_map, Option.bind_some, unT_av l]
    rfl
section
variable {K : PySem.W.Frag} {mg : Str → Option Value} {G G' : Gh}
theorem Rs.keys : ∀ {ks : List Key} {vs : List V}, Rs K mg G (ks.map kA) vs → vs = ks.map kV
  | [], _, .nil => rfl
  | k :: ks, _, .cons r t => by rw [List.map_cons, ← Rs.keys t, r.key]
theorem R.keyT {ks : List Key} {v : V} (r : R K mg G (.tup (ks.map kA)) v) : ∃ b, v = .ref b ∧ G.F b = some (.tup (ks.map kV)) := by
  cases r with
  | @tup _ a vs h rs => exact ⟨a, rfl, by rw [h, rs.keys]⟩
theorem RkT.consT {k : List Key} {x : AV} {v : V} {xs : List (AV × AV)} {vs : List (List Key × V)} (r : R K mg G x v) (t : RkT K mg G xs vs) : RkT K mg G ((.tup (k.map kA), x) :: xs) ((k, v) :: vs) := .cons r t
theorem RkT.unT {k : List Key} {x : AV} {kvs : List (List Key × AV)} {vs : List (List Key × V)} (t : RkT K mg G (avT ((k, x) :: kvs)) vs) : ∃ v ws, vs = (k, v) :: ws ∧ R K mg G x v ∧ RkT K mg G (avT kvs) ws := by
  have t' : RkT K mg G ((.tup (k.map kA), x) :: avT kvs) vs := t
  generalize hk : AV.tup (k.map kA) = kk at t'
  cases t' with
  | @cons ks _ _ v ws r t2 =>
    have e2 : k.map kA = ks.map kA := AV.tup.inj hk
    have e : k = ks := by
      have := congrArg keysOf e2
      rw [keysOf_map, keysOf_map] at this
      exact Option.some.inj this
    exact ⟨v, ws, by rw [e], r, t2⟩
theorem RkT.len : ∀ {kvs : List (List Key × AV)} {vs : List (List Key × V)}, RkT K mg G (avT kvs) vs → kvs.length = vs.length
  | [], _, .nil => rfl
  | (k, x) :: kvs, vs, t => by
    obtain ⟨v, ws, rfl, r, t⟩ := t.unT
    rw [List.length_cons, List.length_cons, RkT.len t]
theorem RkT.keys : ∀ {kvs : List (List Key × AV)} {vs : List (List Key × V)}, RkT K mg G (avT kvs) vs → vs.map (·.1) = kvs.map (·.1)
  | [], _, .nil => rfl
  | (k, x) :: kvs, vs, t => by
    obtain ⟨v, ws, rfl, r, t⟩ := t.unT
    rw [List.map_cons, List.map_cons, RkT.keys t]
theorem RkT.snoc {k : List Key} {x : AV} {v : V} (r : R K mg G x v) : ∀ {kvs : List (List Key × AV)} {vs : List (List Key × V)}, RkT K mg G (avT kvs) vs → RkT K mg G (avT (kvs ++ [(k, x)])) (vs ++ [(k, v)])
  | [], _, .nil => .consT r .nil
  | (j, y) :: kvs, vs, t => by
    obtain ⟨w, ws, rfl, q, t⟩ := t.unT
    exact .consT q (RkT.snoc r t)
theorem RkT.repl {k : List Key} {x : AV} {v : V} (r : R K mg G x v) : ∀ {kvs : List (List Key × AV)} {vs : List (List Key × V)}, RkT K mg G (avT kvs) vs → RkT K mg G (avT (kvs.map fun kv => if kv.1 = k then (kv.1, x) else kv)) (vs.map fun kv => if kv.1 = k then (kv.1, v) else kv)
  | [], _, .nil => .nil
  | (j, y) :: kvs, vs, t => by
    obtain ⟨w, ws, rfl, q, t⟩ := t.unT
    rw [List.map_cons, List.map_cons]
    by_cases e : j = k
    · rw [if_pos e, if_pos e]; exact .consT r (RkT.repl r t)
    · rw [if_neg e, if_neg e]; exact .consT q (RkT.repl r t)
theorem RkT.put {k : List Key} {x : AV} {v : V} (r : R K mg G x v) {kvs : List (List Key × AV)} {vs : List (List Key × V)} (t : RkT K mg G (avT kvs) vs) : RkT K mg G (avT (putG kvs k x)) (putK vs k v) := by
  unfold putG putK
  have e : (vs.any fun kv => decide (kv.1 = k)) = (kvs.any fun kv => decide (kv.1 = k)) := by rw [any_key, any_key, t.keys]
  rw [e]
  split
  · exact t.repl r
  · exact t.snoc r
/-- what is looked up -/
def valG {κ β : Type} [DecidableEq κ] (kvs : List (κ × β)) (k : κ) : Option β := (kvs.find? fun kv => decide (kv.1 = k)).map (·.2)
theorem RkK.val {k : Key} : ∀ {kvs : List (Key × AV)} {vs : List (Key × V)}, RkK K mg G (avK kvs) vs → (valG kvs k = none ∧ valV vs k = none) ∨ ∃ x v, valG kvs k = some x ∧ valV vs k = some v ∧ R K mg G x v
  | [], _, .nil => .inl ⟨rfl, rfl⟩
  | (j, y) :: kvs, vs, t => by
    obtain ⟨w, ws, rfl, q, t⟩ := t.unK
    by_cases e : j = k
    · refine .inr ⟨y, w, ?_, valV_pos e, q⟩
      simp [valG, List.find?_cons, e]
    · have e1 : valG ((j, y) :: kvs) k = valG kvs k := by simp [valG, List.find?_cons, e]
      rw [e1, valV_neg e]
      exact RkK.val t
theorem RkT.val {k : List Key} : ∀ {kvs : List (List Key × AV)} {vs : List (List Key × V)}, RkT K mg G (avT kvs) vs → (valG kvs k = none ∧ valV vs k = none) ∨ ∃ x v, valG kvs k = some x ∧ valV vs k = some v ∧ R K mg G x v
  | [], _, .nil => .inl ⟨rfl, rfl⟩
  | (j, y) :: kvs, vs, t => by
    obtain ⟨w, ws, rfl, q, t⟩ := t.unT
    by_cases e : j = k
    · refine .inr ⟨y, w, ?_, valV_pos e, q⟩
      simp [valG, List.find?_cons, e]
    · have e1 : valG ((j, y) :: kvs) k = valG kvs k := by simp [valG, List.find?_cons, e]
      rw [e1, valV_neg e]
      exact RkT.val t
theorem RkK.nilT {vs : List (Key × V)} (t : RkK K mg G [] vs) : vs = [] := by cases t; rfl
theorem RkT.nilT {vs : List (List Key × V)} (t : RkT K mg G [] vs) : vs = [] := by cases t; rfl
/-- the kinds of keys do not mix -/
theorem RkT.ofK {l : List (Key × AV)} {vs : List (List Key × V)} (t : RkT K mg G (avK l) vs) : l = [] := by
  cases l with
  | nil => rfl
  | cons p l =>
    exfalso
    have t' : RkT K mg G ((kA p.1, p.2) :: avK l) vs := t
    generalize hk : kA p.1 = kk at t'
    cases t'
    cases h : p.1 <;> (rw [h] at hk; cases hk)
theorem RkK.ofT {l : List (List Key × AV)} {vs : List (Key × V)} (t : RkK K mg G (avT l) vs) : l = [] := by
  cases l with
  | nil => rfl
  | cons p l =>
    exfalso
    have t' : RkK K mg G ((.tup (p.1.map kA), p.2) :: avT l) vs := t
    cases t'
end
/-! ### an empty dict is of either kind -/
section
variable {X : Cx} {pins : List (Addr × Obj)} {σ : L2.St} {H : Hp} {s : Shared} {a : Addr}
theorem inv_dT (I : Inv X pins σ H s) (e : H a = some (.dK [])) : Inv X pins σ (upd H a (.dT [])) s := by
  obtain ⟨z, hd, vs, rel, dd⟩ := dk_of I.hok e
  have ev : vs = [] := by cases rel; rfl
  subst ev
  obtain ⟨o, es, ep, h1, h2, h3, h4, h5, _⟩ := dd
  have e0 : es.toList = [] := by
    revert h5
    cases es.toList with
    | nil => intro _; rfl
    | cons x r => intro h; cases h
  exact d_write (t' := s.toks) I (by rw [e]; exact True.intro) (Heap.SameBut.refl _ _) ⟨o, h1⟩ ⟨Nat.zero_le _, hd, [], .nil, o, es, ep, h1, h2, h3, e0, List.nodup_nil⟩
theorem inv_dK (I : Inv X pins σ H s) (e : H a = some (.dT [])) : Inv X pins σ (upd H a (.dK [])) s := by
  obtain ⟨z, hd, xs, rel, dd⟩ := dt_of I.hok e
  have ev : xs = [] := by cases rel; rfl
  subst ev
  obtain ⟨o, es, ep, h1, h2, h3, h4, h5, h6⟩ := dd
  refine d_write (t' := s.toks) I (by rw [e]; exact True.intro) (Heap.SameBut.refl _ _) ⟨o, h1⟩ (dk_new (Nat.zero_le _) hd .nil ⟨o, es, ep, h1, h2, h3, ?_, ?_, List.nodup_nil⟩)
  · intro x hx
    have : x ∈ es.toList := by simpa using hx
    rw [h4] at this
    cases this
  · rw [h4]
    exact .nil
end
/-! ### what is done with a dict -/
def putDA (kvs : List (AV × AV)) (k x : AV) : Option (List (AV × AV)) := match keyA? k with
  | some kk => (unK kvs).bind fun l => if l.length < sizeLine then some (avK (putG l kk x)) else none
  | none => (keyT? k).bind fun kk => (unT kvs).bind fun l => if l.length < sizeLine then some (avT (putG l kk x)) else none
def lookDA (kvs : List (AV × AV)) (k : AV) : Option (Option AV) := match keyA? k with
  | some kk => (unK kvs).map fun l => valG l kk
  | none => (keyT? k).bind fun kk => (unT kvs).map fun l => valG l kk
theorem R.cellD {K : PySem.W.Frag} {mg : Str → Option Value} {G : Gh} {h : Hs} {H : Hp} {n : Nat} {v : V} {ys : List (AV × AV)} (w : WI K mg G h H) (r : R K mg G (.cell n) v) (e : h[n]? = some (.dct ys)) :
    ∃ a, v = .ref a ∧ G.mu n = some a ∧ G.F a = none ∧ G.Z a = none ∧ n < h.length ∧ ((∃ vks, H a = some (.dK vks) ∧ RkK K mg G ys vks) ∨ ∃ vks, H a = some (.dT vks) ∧ RkT K mg G ys vks) := by
  cases r with
  | @cell _ a hm =>
    obtain ⟨b, h1, h2, hz, h3⟩ := w.cells n _ e
    rw [hm] at h1
    cases h1
    exact ⟨a, rfl, hm, h2, hz, w.bnd n a hm, h3⟩
theorem WI.putK {K : PySem.W.Frag} {mg : Str → Option Value} {G : Gh} {h : Hs} {H : Hp} {n : Nat} {a : Addr} {zs : List (AV × AV)} {ws : List (Key × V)} (w : WI K mg G h H) (hn : n < h.length) (e : G.mu n = some a) (hF : G.F a = none) (hZ : G.Z a = none) (r : RkK K mg G zs ws) : WI K mg G (h.set n (.dct zs)) (upd H a (.dK ws)) :=
  w.put hn e hF hZ ⟨a, e, hF, hZ, .inl ⟨ws, upd_same, r⟩⟩
theorem WI.putT {K : PySem.W.Frag} {mg : Str → Option Value} {G : Gh} {h : Hs} {H : Hp} {n : Nat} {a : Addr} {zs : List (AV × AV)} {ws : List (List Key × V)} (w : WI K mg G h H) (hn : n < h.length) (e : G.mu n = some a) (hF : G.F a = none) (hZ : G.Z a = none) (r : RkT K mg G zs ws) : WI K mg G (h.set n (.dct zs)) (upd H a (.dT ws)) :=
  w.put hn e hF hZ ⟨a, e, hF, hZ, .inr ⟨ws, upd_same, r⟩⟩
theorem set_self {h : Hs} {n : Nat} {c : Cell} (e : h[n]? = some c) : h.set n c = h := by
  refine List.ext_getElem? fun m => ?_
  by_cases hm : m = n
  · subst hm
    have hl := (List.getElem?_eq_some_iff.mp e).1
    rw [List.getElem?_set_self hl, e]
  · rw [List.getElem?_set_ne (Ne.symm hm)]
/-- .. the other kind of an empty one -/
theorem WI.flipT {K : PySem.W.Frag} {mg : Str → Option Value} {G : Gh} {h : Hs} {H : Hp} {n : Nat} {a : Addr} (w : WI K mg G h H) (hn : n < h.length) (e : G.mu n = some a) (hF : G.F a = none) (hZ : G.Z a = none) (hc : h[n]? = some (.dct [])) : WI K mg G h (upd H a (.dT [])) := by
  have := w.putT (zs := []) (ws := []) hn e hF hZ .nil
  rwa [set_self hc] at this
theorem WI.flipK {K : PySem.W.Frag} {mg : Str → Option Value} {G : Gh} {h : Hs} {H : Hp} {n : Nat} {a : Addr} (w : WI K mg G h H) (hn : n < h.length) (e : G.mu n = some a) (hF : G.F a = none) (hZ : G.Z a = none) (hc : h[n]? = some (.dct [])) : WI K mg G h (upd H a (.dK [])) := by
  have := w.putK (zs := []) (ws := []) hn e hF hZ .nil
  rwa [set_self hc] at this
section
variable {X : Cx} {W : WX} {j k : Nat}
variable {a b c e o i : Expr} {m ma mb mo mi : EM AV} {pos apos cpos : Pos} {es : List Expr} {as : EM (List AV)}
/-- the dict's kind is the key's -/
theorem kind_of {pins : List (Addr × Obj)} {σ : L2.St} {H : Hp} {s : Shared} {G : Gh} {h : Hs} {n : Nat} {kvs : List (AV × AV)} {k : AV} {kv : V} {v : V} {r : Option AV} (I : Inv X pins σ H s) (w : WI X.K X.mg G h H) (ra : R X.K X.mg G (.cell n) v) (hc : h[n]? = some (.dct kvs)) (rk : R X.K X.mg G k kv) (e : lookDA kvs k = some r) :
    ∃ a H1 ov, v = .ref a ∧ Inv X pins σ H1 s ∧ WI X.K X.mg G h H1 ∧ DGet H1 a kv ov ∧ ((r = none ∧ ov = none) ∨ ∃ x y, r = some x ∧ ov = some y ∧ R X.K X.mg G x y) := by
  obtain ⟨a, rfl, hm, hF, hZ, hn, hd⟩ := ra.cellD w hc
  unfold lookDA at e
  cases e1 : keyA? k with
  | some kk =>
    rw [e1] at e
    cases e2 : unK kvs with
    | none => rw [e2] at e; cases e
    | some l =>
      rw [e2] at e
      cases e
      have ek := unK_of e2
      subst ek
      have ek2 := keyA_of e1
      subst ek2
      have ev := rk.key
      subst ev
      have key : ∀ {H1 : Hp} {vks}, Inv X pins σ H1 s → WI X.K X.mg G h H1 → H1 a = some (.dK vks) → RkK X.K X.mg G (avK l) vks → ∃ a' H1 ov, V.ref a = .ref a' ∧ Inv X pins σ H1 s ∧ WI X.K X.mg G h H1 ∧ DGet H1 a' (kV kk) ov ∧ ((valG l kk = none ∧ ov = none) ∨ ∃ x y, valG l kk = some x ∧ ov = some y ∧ R X.K X.mg G x y) := fun {H1 vks} I1 w1 h1 r1 =>
        ⟨a, H1, valV vks kk, rfl, I1, w1, .k h1, r1.val.imp id fun ⟨x, y, p, q, z⟩ => ⟨x, y, p, q, z⟩⟩
      rcases hd with ⟨vks, h1, r1⟩ | ⟨vks, h1, r1⟩
      · exact key I w h1 r1
      · have e0 := RkT.ofK r1
        subst e0
        have e3 := RkT.nilT r1
        subst e3
        exact key (inv_dK I h1) (w.flipK hn hm hF hZ hc) upd_same .nil
  | none =>
    rw [e1] at e
    cases e2 : keyT? k with
    | none => rw [e2] at e; cases e
    | some kk =>
      rw [e2] at e
      cases e3 : unT kvs with
      | none =>
        have e' : (unT kvs).map (fun l => valG l kk) = some r := e
        rw [e3] at e'; cases e'
      | some l =>
        have e' : (unT kvs).map (fun l => valG l kk) = some r := e
        rw [e3] at e'
        cases e'
        have ek := unT_of e3
        subst ek
        have ek2 := keyT_of e2
        subst ek2
        obtain ⟨b, rfl, hb⟩ := rk.keyT
        have key : ∀ {H1 : Hp} {vks}, Inv X pins σ H1 s → WI X.K X.mg G h H1 → H1 a = some (.dT vks) → RkT X.K X.mg G (avT l) vks → ∃ a' H1 ov, V.ref a = .ref a' ∧ Inv X pins σ H1 s ∧ WI X.K X.mg G h H1 ∧ DGet H1 a' (.ref b) ov ∧ ((valG l kk = none ∧ ov = none) ∨ ∃ x y, valG l kk = some x ∧ ov = some y ∧ R X.K X.mg G x y) := fun {H1 vks} I1 w1 h1 r1 =>
          ⟨a, H1, valV vks kk, rfl, I1, w1, .t h1 (w1.F _ _ hb), r1.val.imp id fun ⟨x, y, p, q, z⟩ => ⟨x, y, p, q, z⟩⟩
        rcases hd with ⟨vks, h1, r1⟩ | ⟨vks, h1, r1⟩
        · have e0 := RkK.ofT r1
          subst e0
          have e3 := RkK.nilT r1
          subst e3
          exact key (inv_dT I h1) (w.flipT hn hm hF hZ hc) upd_same .nil
        · exact key I w h1 r1
def ixDA (h : Hs) (x k : AV) : Option AV := (dctOf h x).bind fun kvs => (lookDA kvs k).bind id
theorem dctOf_cell {h : Hs} {x : AV} {kvs : List (AV × AV)} (e : dctOf h x = some kvs) : ∃ n, x = .cell n ∧ h[n]? = some (.dct kvs) := by
  unfold dctOf at e
  split at e
  · rename_i n
    split at e
    · rename_i kv2 hn; cases e; exact ⟨n, rfl, hn⟩
    · cases e
  · cases e
theorem ix_D (hu : X.A.units + 64 < cLine) : IxR X (r2 X.K X.mg ixDA) := by
  intro ve se pins s σ H x y v u Q I rx ry ⟨G, h, a, b, c, w, ra, rb, e, q⟩ hs
  unfold ixDA at e
  cases e1 : dctOf h a with
  | none => rw [e1] at e; cases e
  | some kvs =>
    rw [e1] at e
    obtain ⟨n, rfl, hn⟩ := dctOf_cell e1
    cases e2 : lookDA kvs b with
    | none => have e' : (lookDA kvs b).bind id = some c := e; rw [e2] at e'; cases e'
    | some r =>
      have e' : (lookDA kvs b).bind id = some c := e
      rw [e2] at e'
      have er : r = some c := e'
      subst er
      obtain ⟨p, H1, ov, rfl, I1, w1, g, hv⟩ := kind_of I w ra hn rb e2
      rcases hv with ⟨z, _⟩ | ⟨x', y', z1, z2, rr⟩
      · cases z
      · cases z1
        subst z2
        obtain rfl : v = Value.ref p := rx
        exact tail_any (dict_typeIs I1 g) PySem.F.slot_dict_getitem.lookup (d_getItem (by omega) I1 g ry fun w' s3 I3 rw' => ⟨y', H1, I3, rw', q G H1 _ (.refl G) w1 rr⟩) hs
theorem se_ixD (hu : X.A.units + 64 < cLine) (ha : SE X W a ma) (hb : SE X W b mb) (hs : PlainIx b := by exact fun _ _ => rfl) : SE X W (.Subscript a b pos) (m2 ixDA ma mb) :=
  ⟨(pe_ix (ix_D hu) ha.pe hb.pe hs).weak fun σ H Q p => tt2 p⟩
def hasDA (h : Hs) (k x : AV) : Option AV := (dctOf h x).bind fun kvs => (lookDA kvs k).map fun r => .bl r.isSome
def hasNotDA (h : Hs) (k x : AV) : Option AV := (dctOf h x).bind fun kvs => (lookDA kvs k).map fun r => .bl (!r.isSome)
theorem op_hasD (hu : X.A.units + 64 < cLine) : OpR X (compareOp .In) (r2 X.K X.mg hasDA) := by
  intro pins s σ H x y v u Q I rx ry ⟨G, h, k, d, c, w, rk, rd, e, q⟩
  unfold hasDA at e
  cases e1 : dctOf h d with
  | none => rw [e1] at e; cases e
  | some kvs =>
    rw [e1] at e
    obtain ⟨n, rfl, hn⟩ := dctOf_cell e1
    cases e2 : lookDA kvs k with
    | none => have e' : (lookDA kvs k).map (fun r => AV.bl r.isSome) = some c := e; rw [e2] at e'; cases e'
    | some r =>
      have e' : (lookDA kvs k).map (fun r => AV.bl r.isSome) = some c := e
      rw [e2] at e'
      cases e'
      obtain ⟨p, H1, ov, rfl, I1, w1, g, hv⟩ := kind_of I w rd hn rk e2
      obtain rfl : u = Value.ref p := ry
      have ei : ov.isSome = r.isSome := by
        rcases hv with ⟨rfl, rfl⟩ | ⟨_, _, rfl, rfl, _⟩ <;> rfl
      exact d_in (by omega) I1 g rx fun s3 I3 => ⟨.bl ov.isSome, H1, I3, rfl, by rw [ei]; exact q G H1 _ (.refl G) w1 (.bl _)⟩
theorem op_hasNotD (hu : X.A.units + 64 < cLine) : OpR X (compareOp .NotIn) (r2 X.K X.mg hasNotDA) := by
  intro pins s σ H x y v u Q I rx ry ⟨G, h, k, d, c, w, rk, rd, e, q⟩
  unfold hasNotDA at e
  cases e1 : dctOf h d with
  | none => rw [e1] at e; cases e
  | some kvs =>
    rw [e1] at e
    obtain ⟨n, rfl, hn⟩ := dctOf_cell e1
    cases e2 : lookDA kvs k with
    | none => have e' : (lookDA kvs k).map (fun r => AV.bl (!r.isSome)) = some c := e; rw [e2] at e'; cases e'
    | some r =>
      have e' : (lookDA kvs k).map (fun r => AV.bl (!r.isSome)) = some c := e
      rw [e2] at e'
      cases e'
      obtain ⟨p, H1, ov, rfl, I1, w1, g, hv⟩ := kind_of I w rd hn rk e2
      obtain rfl : u = Value.ref p := ry
      have ei : ov.isSome = r.isSome := by
        rcases hv with ⟨rfl, rfl⟩ | ⟨_, _, rfl, rfl, _⟩ <;> rfl
      exact d_notIn (by omega) I1 g rx fun s3 I3 => ⟨.bl (!ov.isSome), H1, I3, rfl, by rw [ei]; exact q G H1 _ (.refl G) w1 (.bl _)⟩
/-- len(d) -/
def lenDA (h : Hs) (xs : List AV) : Option AV := match xs with
  | [x] => (dctOf h x).map fun kvs => .int kvs.length
  | _ => none
theorem RkK.lenA {K : PySem.W.Frag} {mg : Str → Option Value} {G : Gh} : ∀ {kvs : List (AV × AV)} {vs : List (Key × V)}, RkK K mg G kvs vs → kvs.length = vs.length
  | _, _, .nil => rfl
  | _, _, .int _ t => by rw [List.length_cons, List.length_cons, RkK.lenA t]
  | _, _, .str _ t => by rw [List.length_cons, List.length_cons, RkK.lenA t]
theorem RkT.lenA {K : PySem.W.Frag} {mg : Str → Option Value} {G : Gh} : ∀ {kvs : List (AV × AV)} {vs : List (List Key × V)}, RkT K mg G kvs vs → kvs.length = vs.length
  | _, _, .nil => rfl
  | _, _, .cons _ t => by rw [List.length_cons, List.length_cons, RkT.lenA t]
theorem call_lenDA : CallR X (.builtin "len") (rN X.K X.mg lenDA) := by
  intro pins s σ H xs us Q I r ⟨G, h, as, c, w, rs, e, q⟩
  unfold lenDA at e
  split at e
  · rename_i x
    cases e1 : dctOf h x with
    | none => rw [e1] at e; cases e
    | some kvs =>
      rw [e1] at e
      cases e
      obtain ⟨n, rfl, hn⟩ := dctOf_cell e1
      cases rs with
      | cons r1 t =>
        cases t
        obtain ⟨p, rfl, hm, hF, hZ, hl, hd⟩ := r1.cellD w hn
        rcases hd with ⟨vks, h1, rr⟩ | ⟨vks, h1, rr⟩
        · exact call_lenD pins s σ H _ us Q I r ⟨p, vks, rfl, h1, by rw [← rr.lenA]; exact q G H _ (.refl G) w (.int _)⟩
        · exact call_len_dT pins s σ H _ us Q I r ⟨p, vks, rfl, h1, by rw [← rr.lenA]; exact q G H _ (.refl G) w (.int _)⟩
  · cases e
/-- d[k] = v -/
def putD (x k v : AV) (h : Hs) : Option Hs := match x with
  | .cell n => (match h[n]? with
    | some (.dct kvs) => (putDA kvs k v).map fun l => h.set n (.dct l)
    | _ => none)
  | _ => none
def rPutD (X : Cx) : TSet := fun o i v H Q => ∃ G h x k z h', WI X.K X.mg G h H ∧ R X.K X.mg G x o ∧ R X.K X.mg G k i ∧ R X.K X.mg G z v ∧ putD x k z h = some h' ∧ ∀ H', WI X.K X.mg G h' H' → Q H'
theorem set_D (hu : X.A.units + 64 < cLine) : PSet X (rPutD X) := by
  intro pins s σ H o i v ov iv u Q I ro ri rv ⟨G, h, x, k, z, h', w, rx, rk, rz, e, q⟩
  unfold putD at e
  split at e
  · rename_i n
    split at e
    · rename_i kvs hc
      obtain ⟨a, rfl, hm, hF, hZ, hn, hd⟩ := rx.cellD w hc
      unfold putDA at e
      cases e1 : keyA? k with
      | some kk =>
        rw [e1] at e
        cases e2 : unK kvs with
        | none => rw [e2] at e; cases e
        | some l =>
          rw [e2] at e
          dsimp only [Option.bind_some] at e
          split at e
          · rename_i hl
            cases e
            have ek := unK_of e2
            subst ek
            have ek2 := keyA_of e1
            subst ek2
            have ev := rk.key
            subst ev
            have key : ∀ {H1 : Hp} {vks}, Inv X pins σ H1 s → WI X.K X.mg G h H1 → H1 a = some (.dK vks) → RkK X.K X.mg G (avK l) vks → _ := fun {H1 vks} I1 w1 h1 r1 =>
              set_dict (X := X) (by omega) pins s σ H1 (.ref a) (kV kk) v ov iv u Q I1 ro ri rv ⟨a, _, rfl, .k h1 (by rw [← r1.len]; exact hl), q _ (w1.putK hn hm hF hZ (r1.put rz))⟩
            rcases hd with ⟨vks, h1, r1⟩ | ⟨vks, h1, r1⟩
            · exact key I w h1 r1
            · have e0 := RkT.ofK r1
              subst e0
              have e3 := RkT.nilT r1
              subst e3
              exact key (inv_dK I h1) (w.flipK hn hm hF hZ hc) upd_same .nil
          · cases e
      | none =>
        rw [e1] at e
        cases e2 : keyT? k with
        | none => rw [e2] at e; cases e
        | some kk =>
          rw [e2] at e
          cases e3 : unT kvs with
          | none => rw [e3] at e; cases e
          | some l =>
            rw [e3] at e
            dsimp only [Option.bind_some] at e
            split at e
            · rename_i hl
              cases e
              have ek := unT_of e3
              subst ek
              have ek2 := keyT_of e2
              subst ek2
              obtain ⟨b, rfl, hb⟩ := rk.keyT
              have key : ∀ {H1 : Hp} {vks}, Inv X pins σ H1 s → WI X.K X.mg G h H1 → H1 a = some (.dT vks) → RkT X.K X.mg G (avT l) vks → _ := fun {H1 vks} I1 w1 h1 r1 =>
                set_dict (X := X) (by omega) pins s σ H1 (.ref a) (.ref b) v ov iv u Q I1 ro ri rv ⟨a, _, rfl, .t h1 (w1.F _ _ hb) (by rw [← r1.len]; exact hl), q _ (w1.putT hn hm hF hZ (r1.put rz))⟩
              rcases hd with ⟨vks, h1, r1⟩ | ⟨vks, h1, r1⟩
              · have e0 := RkK.ofT r1
                subst e0
                have e4 := RkK.nilT r1
                subst e4
                exact key (inv_dT I h1) (w.flipT hn hm hF hZ hc) upd_same .nil
              · exact key I w h1 r1
            · cases e
    · cases e
  · cases e
def sPutD (m mo mi : EM AV) : SM := sThen m fun v => sThen mo fun x => sThen mi fun i env h => match putD x i v h with
  | some h' => .nx env h'
  | none => .bad
theorem ss_putD (hu : X.A.units + 64 < cLine) (he : SE X W e m) (ho : SE X W o mo) (hi : SE X W i mi)
    (hs : swapsWithSole [.Subscript o i apos] e pos.line X.env = pure false := by rfl) (hw : swappedStores [.Subscript o i apos] e X.env = pure none := by rfl) (h1 : (assignEach [.Subscript o i apos] X.env).map (·.2) = [assign (.Subscript o i apos) X.env] := by rfl)
    (hp : ∀ (T : TSet) (to ti : TE), PE X o to → PE X i ti → PSet X T → PG X (.Subscript o i apos) (gSub to ti T) := by exact fun _ _ _ h1 h2 h3 => pg_sub h1 h2 h3) : SS X W (.Assign [.Subscript o i apos] e pos) (sPutD m mo mi) := by
  refine ⟨(ps_asg he.pe (hp (rPutD X) _ _ ho.pe hi.pe (set_D hu)) hs hw h1).weak fun D σ H ⟨G, h, env, w, re, p⟩ => ⟨G, h, env, w, re, postS_then re p fun a h1 G1 H1 z l1 w1 r1 re1 p1 => ?_⟩⟩
  refine ⟨G1, h1, env, w1, re1, postS_then re1 p1 fun x h2 G2 H2 xv l2 w2 rx re2 p2 => ?_⟩
  refine ⟨G2, h2, env, w2, re2, postS_then re2 p2 fun ix h3 G3 H3 iv l3 w3 ri re3 p3 => ?_⟩
  cases e4 : putD x ix a h3 with
  | none => rw [e4] at p3; exact p3.elim
  | some h4 =>
    rw [e4] at p3
    exact ⟨G3, h3, x, ix, a, h4, w3, rx.mono l3, ri, r1.mono (l2.trans l3), e4, fun H' w' => p3 G3 H' _ (.refl G3) w' re3⟩
end
end Sim

set_option Elab.async false
set_option linter.all false
set_option maxRecDepth 100000
set_option maxHeartbeats 2000000
namespace Sim
open PySem PySem.Spec L2
open PyProof.Rows hiding St
variable [TabT]
/-! SimV2: sorted(d), list(d), d.get, d.update, dict comprehensions with tuple keys. -/
section
variable {K : PySem.W.Frag} {mg : Str → Option Value} {G : Gh} {h : Hs} {H : Hp} {b : Addr} {vs : List V}
/-- a tuple that stands there may be told of -/
theorem WI.adopt (w : WI K mg G h H) (e : H b = some (.tup vs)) : ∃ G', G.le G' ∧ WI K mg G' h H ∧ G'.F b = some (.tup vs) := by
  cases q : G.F b with
  | some o =>
    have := w.F b o q
    rw [e] at this
    cases this
    exact ⟨G, .refl G, w, q⟩
  | none =>
    refine ⟨G.addF b (.tup vs), Gh.addF_le q, ⟨fun a u z => ?_, w.Z, fun a o z => ?_, fun n c hc => ?_, w.bnd, w.inj, w.tb.T, fun a ps z => ?_, w.tb.nZ⟩, upd_same⟩
    · have z2 : upd G.F b (.tup vs) a = some u := z
      by_cases hb : a = b
      · subst hb; rw [upd_same] at z2; rw [e]; exact z2
      · rw [upd_ne hb] at z2; exact w.F a u z2
    · show upd G.F b (.tup vs) a = none
      have z2 : G.Z a = some o := z
      have hb : a ≠ b := fun hb => by
        subst hb
        have := w.Z a o z2
        rw [e] at this
        cases this
        exact w.tb.nZ a _ (.tup vs) z2
      rw [upd_ne hb]
      exact w.FZ a o z2
    · refine (w.cells n c hc).stay (Gh.addF_le q) (fun a ha hn => ?_) (fun a o _ z => z)
      show upd G.F b (.tup vs) a = none
      rw [upd_ne (fun hb => by subst hb; exact w.kind2 (w.bnd n a ha) ha hn _ (.tup vs) e)]
      exact hn
    · have z2 : upd G.F b (.tup vs) a = some (.tbl ps) := z
      by_cases hb : a = b
      · subst hb; rw [upd_same] at z2; cases z2
      · rw [upd_ne hb] at z2; exact w.tb.nF a ps z2
theorem Rs.ofKeys : ∀ ks : List Key, Rs K mg G (ks.map kA) (ks.map kV)
  | [] => .nil
  | k :: ks => .cons (.ofKey k) (Rs.ofKeys ks)
theorem WI.adoptKeys : ∀ {vks : List (List Key × V)} {bs : List Addr} {G : Gh}, WI K mg G h H → IsKeys H vks bs → ∃ G', G.le G' ∧ WI K mg G' h H ∧ Rs K mg G' ((vks.map (·.1)).map fun k => AV.tup (k.map kA)) (bs.map V.ref)
  | [], _, G, w, .nil => ⟨G, .refl G, w, .nil⟩
  | p :: vks, _, G, w, .cons e t => by
    obtain ⟨G1, l1, w1, f1⟩ := w.adopt e
    obtain ⟨G2, l2, w2, r2⟩ := WI.adoptKeys w1 t
    exact ⟨G2, l1.trans l2, w2, .cons (.tup (l2.F _ _ f1) (Rs.ofKeys p.1)) r2⟩
end
theorem avT_keys (l : List (List Key × AV)) : (avT l).map (·.1) = (l.map (·.1)).map fun k => AV.tup (k.map kA) := by
  unfold avT
  rw [List.map_map, List.map_map]
  rfl
/-- the dict, told of by tuple keys -/
theorem dictT_of {X : Cx} {pins : List (Addr × Obj)} {σ : L2.St} {H : Hp} {s : Shared} {G : Gh} {h : Hs} {n : Nat} {l : List (List Key × AV)} {v : V} (I : Inv X pins σ H s) (w : WI X.K X.mg G h H) (ra : R X.K X.mg G (.cell n) v) (hc : h[n]? = some (.dct (avT l))) :
    ∃ a H1 vks, v = .ref a ∧ Inv X pins σ H1 s ∧ WI X.K X.mg G h H1 ∧ H1 a = some (.dT vks) ∧ RkT X.K X.mg G (avT l) vks ∧ G.mu n = some a ∧ G.F a = none ∧ G.Z a = none ∧ n < h.length ∧ ∀ b, b ≠ a → H1 b = H b := by
  obtain ⟨a, rfl, hm, hF, hZ, hn, hd⟩ := ra.cellD w hc
  rcases hd with ⟨vks, h1, r1⟩ | ⟨vks, h1, r1⟩
  · have e0 := RkK.ofT r1
    subst e0
    have e4 := RkK.nilT r1
    subst e4
    exact ⟨a, _, [], rfl, inv_dT I h1, w.flipT hn hm hF hZ hc, upd_same, .nil, hm, hF, hZ, hn, fun b hb => upd_ne hb⟩
  · exact ⟨a, H, vks, rfl, I, w, h1, r1, hm, hF, hZ, hn, fun _ _ => rfl⟩
theorem dictK_of {X : Cx} {pins : List (Addr × Obj)} {σ : L2.St} {H : Hp} {s : Shared} {G : Gh} {h : Hs} {n : Nat} {l : List (Key × AV)} {v : V} (I : Inv X pins σ H s) (w : WI X.K X.mg G h H) (ra : R X.K X.mg G (.cell n) v) (hc : h[n]? = some (.dct (avK l))) :
    ∃ a H1 vks, v = .ref a ∧ Inv X pins σ H1 s ∧ WI X.K X.mg G h H1 ∧ H1 a = some (.dK vks) ∧ RkK X.K X.mg G (avK l) vks ∧ G.mu n = some a ∧ G.F a = none ∧ G.Z a = none ∧ n < h.length ∧ ∀ b, b ≠ a → H1 b = H b := by
  obtain ⟨a, rfl, hm, hF, hZ, hn, hd⟩ := ra.cellD w hc
  rcases hd with ⟨vks, h1, r1⟩ | ⟨vks, h1, r1⟩
  · exact ⟨a, H, vks, rfl, I, w, h1, r1, hm, hF, hZ, hn, fun _ _ => rfl⟩
  · have e0 := RkT.ofK r1
    subst e0
    have e4 := RkT.nilT r1
    subst e4
    exact ⟨a, _, [], rfl, inv_dK I h1, w.flipK hn hm hF hZ hc, upd_same, .nil, hm, hF, hZ, hn, fun b hb => upd_ne hb⟩
section
variable {X : Cx} {W : WX} {j k : Nat}
/-- list(d), any keys -/
def listD2A (h : Hs) (xs : List AV) : Option (List AV) := match xs with
  | [x] => (dctOf h x).bind fun kvs => if allK kvs = true then some (kvs.map (·.1)) else (unT kvs).map fun _ => kvs.map (·.1)
  | _ => none
theorem call_listD2 (hc : X.calm = true) : CallR X (.type "list") (rF X.K X.mg listD2A) := by
  intro pins s σ H xs us Q I r ⟨G, h, as, ys, w, rs, e, q⟩
  unfold listD2A at e
  split at e
  · rename_i x
    cases e1 : dctOf h x with
    | none => rw [e1] at e; cases e
    | some kvs =>
      rw [e1] at e
      by_cases hk : allK kvs = true
      · refine call_listDA hc pins s σ H xs us Q I r ⟨G, h, [x], ys, w, rs, ?_, q⟩
        unfold listDA
        dsimp only
        rw [e1, Option.bind_some, if_pos hk]
        have e' : (if allK kvs = true then some (kvs.map (·.1)) else (unT kvs).map fun _ => kvs.map (·.1)) = some ys := e
        rw [if_pos hk] at e'
        exact e'
      · have e' : (if allK kvs = true then some (kvs.map (·.1)) else (unT kvs).map fun _ => kvs.map (·.1)) = some ys := e
        rw [if_neg hk] at e'
        cases e2 : unT kvs with
        | none => rw [e2] at e'; cases e'
        | some l =>
          rw [e2] at e'
          cases e'
          have ek := unT_of e2
          subst ek
          obtain ⟨n, rfl, hn⟩ := dctOf_cell e1
          cases rs with
          | cons r1 t =>
            cases t
            obtain ⟨a, H1, vks, rfl, I1, w1, h1, rr, _⟩ := dictT_of I w r1 hn
            refine call_list_dT hc pins s σ H1 _ us Q I1 r ⟨a, vks, rfl, .inl h1, fun p bs hp hb => ?_⟩
            obtain ⟨G', l', w', r'⟩ := w1.adoptKeys hb
            rw [rr.keys, ← avT_keys] at r'
            exact q G' H1 p _ l' w' hp r'
  · cases e
theorem ti_keep {h h' : Heap} {v : Value} {ns : List Int} (x : SrtT.TI h v ns) (k : ∀ b o, h.get? b = some o → h'.get? b = some o) : SrtT.TI h' v ns := x.keeps fun b o e _ => k b o e
/-- sorted(d), keys tuples of ints -/
def sortDA (h : Hs) (xs : List AV) : Option (List AV) := match xs with
  | [x] => (dctOf h x).bind fun kvs => (unT kvs).bind fun _ => (tups? (kvs.map (·.1))).map fun nss => (isort HT.lexLt nss).map tupA
  | _ => none
theorem call_sortDA (hcm : X.calm = true) (hu : X.A.units + 64 < cLine) : CallR X (.builtin "sorted") (rF X.K X.mg sortDA) := by
  intro pins s σ H xs us Q I r ⟨G, h, as, ys, w, rs, e, q⟩
  unfold sortDA at e
  split at e
  · rename_i x
    cases e1 : dctOf h x with
    | none => rw [e1] at e; cases e
    | some kvs =>
      rw [e1] at e
      cases e2 : unT kvs with
      | none =>
        have e' : ((unT kvs).bind fun _ => (tups? (kvs.map (·.1))).map fun nss => (isort HT.lexLt nss).map tupA) = some ys := e
        rw [e2] at e'; cases e'
      | some l =>
        have e' : ((unT kvs).bind fun _ => (tups? (kvs.map (·.1))).map fun nss => (isort HT.lexLt nss).map tupA) = some ys := e
        rw [e2] at e'
        cases e3 : tups? (kvs.map (·.1)) with
        | none =>
          have e4 : ((tups? (kvs.map (·.1))).map fun nss => (isort HT.lexLt nss).map tupA) = some ys := e'
          rw [e3] at e4; cases e4
        | some nss =>
          have e4 : ((tups? (kvs.map (·.1))).map fun nss => (isort HT.lexLt nss).map tupA) = some ys := e'
          rw [e3] at e4
          cases e4
          have ek := unT_of e2
          subst ek
          obtain ⟨n, rfl, hn⟩ := dctOf_cell e1
          cases rs with
          | cons r1 t =>
            cases t
            obtain ⟨a, H1, vks, rfl, I1, w1, h1, rr, _⟩ := dictT_of I w r1 hn
            rw [Vals.ref1 r]
            obtain ⟨z, hs, ks, pr, o, es, ep, ho, hx, hdt, he, hnd⟩ := (show ObjOk X.prog X.w H1 s.heap a (.dT vks) from I1.hok a _ h1)
            have l1 : es.size = ks.length := size_of_entries he
            have l2 : vks.length = ks.length := Paired.length pr
            obtain ⟨G', lG, w', r'⟩ := w1.adoptKeys (isKeys_of pr)
            rw [rr.keys, ← avT_keys, tups_of e3] at r'
            obtain ⟨t1, t2⟩ := tups_raw I1 w' r' (vals_refs (ks.map fun x => x.2.1))
            refine Calls.call_function_entry PyProof.Rows.kind_sorted PyProof.Rows.plain_sorted PyProof.Rows.entry_sorted (PyProof.Rows.args_sorted1 _) ?_
            unfold Builtin.«sorted»
            refine wpAny_bind (m := checkCount "sorted" 1 1 _) (wpAny_pure ?_)
            refine wpAny_bind (PySem.W.kdu_collect (A := X.A.in1) (kdl_raw hs hx hdt) (I1.ok.hd hcm) ho (by omega) fun h' tk acc kp hacc => ?_)
            have ea : acc.toList = (ks.map fun x => x.2.1).map Value.ref := by
              have hl : acc.toList.length = ks.length := by rw [Array.length_toList, hacc.1]; exact l1
              rw [List.map_map]
              refine List.ext_getElem? fun jj => ?_
              rw [List.getElem?_map]
              cases hj : acc.toList[jj]? with
              | none =>
                have := List.getElem?_eq_none_iff.mp hj
                rw [List.getElem?_eq_none (by omega)]
                rfl
              | some v =>
                obtain ⟨en, hen, hv⟩ := hacc.2 jj v (by rw [← Array.getElem?_toList]; exact hj)
                have qe := entry_at he jj
                rw [hen] at qe
                cases hb : ks[jj]? with
                | none => rw [hb] at qe; cases qe
                | some b =>
                  rw [hb] at qe
                  have e5 : en = entryOfKey (tupleKind (mixKind X.prog X.w)) b := Option.some.inj qe
                  rw [hv, e5]
                  rfl
            rw [ea]
            have hlen : ((ks.map fun x => x.2.1).map Value.ref).length = ks.length := by rw [List.length_map, List.length_map]
            refine wpAny_bind (wpAny_newList ?_ (by rw [hlen]; omega))
            have hoL : (h'.push (seqObj "list" ((ks.map fun x => x.2.1).map Value.ref).toArray 0)).get? h'.objs.size = some (seqObj "list" ((ks.map fun x => x.2.1).map Value.ref).toArray 0) := Heap.get?_push_size _ rfl
            show wpAny _ _ _ _ _ { s with heap := h'.push (seqObj "list" ((ks.map fun x => x.2.1).map Value.ref).toArray 0), toks := tk }
            refine wpAny_bind (wpAny_holding (wpAny_call_entry PyProof.Rows.slot_list_sort ⟨_, hoL, rfl⟩ PyProof.Rows.entry_list_sort
              (SrtO.list_sort_ord (NtL.swo_lexL (keyOf s.heap)) hoL (by rw [hlen]; omega) (fun hh2 => ?_) fun out g1 g2 => ⟨_, rfl, ?_⟩) (PyProof.Rows.args_list_sort _)))
            · refine SrtT.tups_sortable (s := { s with heap := h'.push (seqObj "list" ((ks.map fun x => x.2.1).map Value.ref).toArray 0), toks := tk }) hh2 (by show X.A.units + 1 + 1 < cLine; omega) (fun v hv => ?_) fun ob eo => ?_
              · exact ti_keep (t2 v hv).1 fun b o eb => Heap.get?_push_of_some _ (kp b o eb)
              · have e' : some ob = some (seqObj "list" ((ks.map fun x => x.2.1).map Value.ref).toArray 0) := eo.symm.trans hoL
                cases e'
                intro c
                exact absurd (Value.type.inj c) (by decide)
            · obtain ⟨ep2, he2⟩ := PyProof.Rows.sortedHeap_at (vs := (ks.map fun x => x.2.1).map Value.ref) (out := out.toArray) hoL
              have hmem : ∀ u ∈ out, ∃ a, u = Value.ref a ∧ R X.K X.mg G' (tupA (keyOf s.heap u)) (.ref a) := fun u hu => (t2 u (g2.perm.mem_iff.mp hu)).2
              have hk : out.map (keyOf s.heap) = isort HT.lexLt nss := by
                refine sd_unique lexTot ?_ ?_ (isort_sd lexTot _)
                · refine (g2.perm.map _).trans ?_
                  rw [t1]
                  exact (isort_perm nss).symm
                · exact List.pairwise_map.mpr g1
              have rs' := rs_of_keys (X := X) (G := G') (hp := s.heap) hmem
              rw [hk] at rs'
              have hlen2 : (out.map bkV).length ≤ sizeLine := by
                rw [List.length_map, g2.perm.length_eq, hlen]; omega
              have I2 : Inv X pins σ H1 { s with heap := h', toks := tk } := I1.kept kp
              refine wpAny_pure ⟨_, rfl, .ref h'.objs.size, upd H1 h'.objs.size (.lst (out.map bkV)), I2.laid (t' := tk) (fun b u eb => ?_) (Nat.le_refl _) ⟨hlen2, out, ep2, bkV_vals (fun u hu => by obtain ⟨a, e, _⟩ := hmem u hu; exact ⟨a, e⟩), by exact he2⟩, rfl,
                q G' H1 _ _ lG w' (I2.hok.fresh (Nat.le_refl _)) rs'⟩
              have hb : b < h'.objs.size := Heap.lt_size eb
              rw [PyProof.Rows.sortedHeap_old (Nat.ne_of_lt hb) (by rw [size_push']; exact Nat.lt_succ_of_lt hb)]
              exact Heap.get?_push_of_some _ eb
  · cases e
end
end Sim

set_option Elab.async false
set_option linter.all false
set_option maxRecDepth 100000
set_option maxHeartbeats 2000000
namespace Sim
open PySem PySem.Spec L2
open PyProof.Rows hiding St
variable [TabT]
/-! SimV3: methods of dicts. -/
abbrev DM := Hs → Nat → List AV → List (AV × AV) → Option (AV × List (AV × AV))
def rDM (K : PySem.W.Frag) (mg : Str → Option Value) (g : DM) : V → List V → Hp → VK → Prop := fun x xs H Q => ∃ G h n kvs as c zs, WI K mg G h H ∧ R K mg G (.cell n) x ∧ h[n]? = some (.dct kvs) ∧ Rs K mg G as xs ∧ g h n as kvs = some (c, zs) ∧
  ∀ G' H' z, G.le G' → WI K mg G' (h.set n (.dct zs)) H' → R K mg G' c z → Q z H'
def updD (g : DM) (x : AV) (as : List AV) : M AV := fun h => match x with
  | .cell n => (match h[n]? with
    | some (.dct ys) => (match g h n as ys with
      | some (c, zs) => .ok c (h.set n (.dct zs))
      | none => .bad)
    | _ => .bad)
  | _ => .bad
def chkD (x : AV) : M Unit := rd fun h => (dctOf h x).map fun _ => ()
def mDM (g : DM) (o : EM AV) (as : EM (List AV)) : EM AV := fun env => (o env).bnd fun x => (chkD x).bnd fun _ => (as env).bnd fun ys => updD g x ys
theorem updD_ok {g : DM} {x : AV} {as : List AV} {h : Hs} {X : Cx} {W : WX} {G : Gh} {σ : L2.St} {Q : VK} (p : post X W (R X.K X.mg) G σ Q (updD g x as h)) : ∃ n ys c zs, x = .cell n ∧ h[n]? = some (.dct ys) ∧ g h n as ys = some (c, zs) ∧
    ∀ G' H' z, G.le G' → WI X.K X.mg G' (h.set n (.dct zs)) H' → R X.K X.mg G' c z → Q z H' := by
  unfold updD at p
  cases x with
  | cell n =>
    dsimp only at p
    cases e : h[n]? with
    | none => rw [e] at p; exact p.elim
    | some c0 =>
      rw [e] at p
      cases c0 with
      | dct ys =>
        dsimp only at p
        cases e2 : g h n as ys with
        | none => rw [e2] at p; exact p.elim
        | some cz =>
          obtain ⟨c, zs⟩ := cz
          rw [e2] at p
          exact ⟨n, ys, c, zs, rfl, e, e2, p⟩
      | _ => exact p.elim
  | _ => exact p.elim
section
variable {X : Cx} {W : WX} {j k : Nat}
variable {a b c e o : Expr} {m ma mb mo : EM AV} {pos apos cpos : Pos} {es : List Expr} {as : EM (List AV)}
theorem se_dm {name : Str} {nid : String} {g : DM} (slot : Slot "dict" name nid) (hty : typeOf (.builtin nid) = pure (.type "method_descriptor")) (hm : MtR X nid (rDM X.K X.mg g)) (ho : SE X W o mo) (ha : SA X W (e :: es) as)
    (hbase : attributeBase o name X.env (eval o X.env) = eval o X.env := by rfl)
    (hfew : ((backTo cpos (starEach (e :: es) X.env)).all (fun x => !x.1) && (backToKw cpos (keywordEach [] X.env)).all (fun x => x.1.isSome)
      && decide ((e :: es).length + ([] : List Keyword).length + (if ([] : List Keyword).isEmpty then 0 else 1) < 30)) = true := by rfl)
    (hline : (apos.endLine == cpos.line) = true := by rfl) (hs : starEach (e :: es) X.env = (false, eval e X.env) :: starEach es X.env := by rfl) (hplain : (backTo cpos (starEach es X.env)).any (·.1) = false := by rfl) :
    SE X W (.Call (.Attribute o name apos) (e :: es) [] cpos) (mDM g mo as) := by
  refine ⟨(pe_bm PySem.F.plainAttrs_dict slot hty hm ho.pe ha.pa hbase hfew hline hs hplain).weak fun σ H Q ⟨G, h, env, w, re, p⟩ => ⟨G, h, env, w, re, post_bnd p fun x h1 G1 H1 xv l1 w1 rx p1 => ?_⟩⟩
  obtain ⟨u, e2, p1⟩ := rd_bnd p1
  cases e3 : dctOf h1 x with
  | none => rw [e3] at e2; cases e2
  | some ys =>
    obtain ⟨n, rfl, hn⟩ := dctOf_cell e3
    obtain ⟨ad, rfl, hm2, hF, hZ, hl, hd⟩ := rx.cellD w1 hn
    refine ⟨.inr (.inr (.inl ⟨rfl, hd.imp (fun ⟨v, q, _⟩ => ⟨v, q⟩) fun ⟨v, q, _⟩ => ⟨v, q⟩⟩)), G1, h1, env, w1, re.mono l1, post_bnd p1 fun xs h3 G3 H3 ws l3 w3 rs3 p3 => ?_⟩
    obtain ⟨n3, ys3, c, zs, e4, e5, e6, q⟩ := updD_ok p3
    cases e4
    exact ⟨G3, h3, n, ys3, xs, c, zs, w3, rx.mono l3, e5, rs3, e6, q⟩
/-- d.get(k), d.get(k, x) -/
def getDM : DM := fun _ _ as kvs => match as with
  | [k] => (lookDA kvs k).map fun r => (r.getD .non, kvs)
  | [k, x] => (lookDA kvs k).map fun r => (r.getD x, kvs)
  | _ => none
theorem mt_getDM (hu : X.A.units + 64 < cLine) : MtR X "dict.get" (rDM X.K X.mg getDM) := by
  intro pins s σ H x xs v us Q I rx rxs ⟨G, h, n, kvs, as, c, zs, w, ra, hn, rs, ge, q⟩
  unfold getDM at ge
  split at ge
  · rename_i k
    cases e2 : lookDA kvs k with
    | none => rw [e2] at ge; cases ge
    | some r =>
      rw [e2] at ge
      cases ge
      cases rs with
      | @cons _ _ kv _ rk t =>
        cases t
        obtain ⟨u, rfl, ru⟩ := vals1 rxs
        obtain ⟨p, H1, ov, rfl, I1, w1, g, hv⟩ := kind_of I w ra hn rk e2
        obtain rfl : v = Value.ref p := rx
        refine d_get1 (by omega) I1 g ru fun w' s3 I3 rw' => ⟨ov.getD .non, H1, I3, rw', ?_⟩
        refine q G H1 _ (.refl G) (by rw [set_self hn]; exact w1) ?_
        rcases hv with ⟨rfl, rfl⟩ | ⟨x', y', rfl, rfl, rr⟩
        · exact .non
        · exact rr
  · rename_i k d
    cases e2 : lookDA kvs k with
    | none => rw [e2] at ge; cases ge
    | some r =>
      rw [e2] at ge
      cases ge
      cases rs with
      | @cons _ _ kv _ rk t =>
        cases t with
        | @cons _ _ dv _ rd t2 =>
          cases t2
          cases rxs with
          | @cons _ u _ _ ru rt =>
            cases rt with
            | @cons _ ud _ _ rud rt2 =>
              cases rt2
              obtain ⟨p, H1, ov, rfl, I1, w1, g, hv⟩ := kind_of I w ra hn rk e2
              obtain rfl : v = Value.ref p := rx
              refine d_get2 (by omega) I1 g ru rud fun w' s3 I3 rw' => ⟨ov.getD dv, H1, I3, rw', ?_⟩
              refine q G H1 _ (.refl G) (by rw [set_self hn]; exact w1) ?_
              rcases hv with ⟨rfl, rfl⟩ | ⟨x', y', rfl, rfl, rr⟩
              · exact rd
              · exact rr
  · cases ge
/-! ### d.update(d2) -/
def mergeG {κ β : Type} [DecidableEq κ] (l l2 : List (κ × β)) : List (κ × β) := l2.foldl (fun acc p => putG acc p.1 p.2) l
def hashK : Key → Int
  | .inl i => hashInt i
  | .inr _ => 0
def hashT (ks : List Key) : Int := reduceHash (Builtin.Tuple.tupleHashOf (ks.map hashK))
def isInl : Key → Bool
  | .inl _ => true
  | .inr _ => false
def apartT (kss : List (List Key)) : Bool := kss.all (fun ks => ks.all isInl) && decide ((kss.map hashT).Nodup)
theorem hashT_eq (P : Program) (w : World) {ks : List Key} (h : ks.all isInl = true) : tupleKeyHash (mixKind P w) ks = hashT ks := by
  unfold tupleKeyHash hashT
  have : ks.map (mixKind P w).hash = ks.map hashK := by
    refine List.map_congr_left fun k hk => ?_
    have := List.all_eq_true.mp h k hk
    cases k with
    | inl i => rfl
    | inr z => cases this
  rw [this]
def updDA (kvs kvs2 : List (AV × AV)) : Option (List (AV × AV)) := match unK kvs, unK kvs2 with
  | some l, some l2 => if l.length + l2.length ≤ sizeLine then some (avK (mergeG l l2)) else none
  | _, _ => match unT kvs, unT kvs2 with
    | some l, some l2 => if l.length + l2.length ≤ sizeLine ∧ (l ≠ [] ∨ apartT (l2.map (·.1)) = true) then some (avT (mergeG l l2)) else none
    | _, _ => none
def mergeT (l l2 : List (List Key × V)) : List (List Key × V) := l2.foldl (fun acc p => putK acc p.1 p.2) l
theorem mergeT_len : ∀ (l2 l : List (List Key × V)), (mergeT l l2).length ≤ l.length + l2.length
  | [], l => Nat.le_refl _
  | p :: l2, l => by
    have h1 := mergeT_len l2 (putK l p.1 p.2)
    have h2 := length_putK l p.1 p.2
    show (mergeT (putK l p.1 p.2) l2).length ≤ _
    rw [List.length_cons]
    omega
theorem RkK.merge {K : PySem.W.Frag} {mg : Str → Option Value} {G : Gh} : ∀ {l2 : List (Key × AV)} {wks : List (Key × V)} {l : List (Key × AV)} {vks : List (Key × V)}, RkK K mg G (avK l2) wks → RkK K mg G (avK l) vks → RkK K mg G (avK (mergeG l l2)) (mergeK vks wks)
  | [], _, _, _, .nil, r => r
  | (k, x) :: l2, wks, l, vks, t, r => by
    obtain ⟨v, ws, rfl, rx, t⟩ := t.unK
    exact RkK.merge (l2 := l2) (wks := ws) (l := putG l k x) (vks := putK vks k v) t (r.put rx)
theorem RkT.merge {K : PySem.W.Frag} {mg : Str → Option Value} {G : Gh} : ∀ {l2 : List (List Key × AV)} {wks : List (List Key × V)} {l : List (List Key × AV)} {vks : List (List Key × V)}, RkT K mg G (avT l2) wks → RkT K mg G (avT l) vks → RkT K mg G (avT (mergeG l l2)) (mergeT vks wks)
  | [], _, _, _, .nil, r => r
  | (k, x) :: l2, wks, l, vks, t, r => by
    obtain ⟨v, ws, rfl, rx, t⟩ := t.unT
    exact RkT.merge (l2 := l2) (wks := ws) (l := putG l k x) (vks := putK vks k v) t (r.put rx)
theorem KT.mergeT {H : Hp} : ∀ {wks : List (List Key × V)} {ys : List (List Key × Addr × Value)} {vks : List (List Key × V)} {xs : List (List Key × Addr × Value)}, KT H wks ys → KT H vks xs → KT H (Sim.mergeT vks wks) (storedAllH xs ys)
  | [], _, _, _, .nil, r => r
  | p :: wks, _, vks, xs, .cons h t, r => by
    rename_i q ys
    obtain ⟨h1, h2, h3⟩ := h
    have r2 : KT H (putK vks p.1 p.2) (storedH xs p.1 q.2.1 q.2.2) := KT.put r p.1 h2 h3
    have := KT.mergeT t r2
    show KT H (Sim.mergeT (putK vks p.1 p.2) wks) (storedAllH (storedH xs q.1 q.2.1 q.2.2) ys)
    rw [← h1]
    exact this
def updDM : DM := fun h n as kvs => match as with
  | [.cell m] => if m = n then none else (match h[m]? with
    | some (.dct kvs2) => (updDA kvs kvs2).map fun l => (.non, l)
    | _ => none)
  | _ => none
theorem mt_updDM (hu : X.A.units + 64 < cLine) : MtR X "dict.update" (rDM X.K X.mg updDM) := by
  intro pins s σ H x xs v us Q I rx rxs ⟨G, h, n, kvs, as, c, zs, w, ra, hn, rs, ge, q⟩
  unfold updDM at ge
  split at ge
  · rename_i m
    split at ge
    · cases ge
    · rename_i hmn
      split at ge
      · rename_i kvs2 hm
        cases rs with
        | cons r1 t =>
          cases t
          obtain ⟨u, rfl, ru⟩ := vals1 rxs
          cases e : updDA kvs kvs2 with
          | none => rw [e] at ge; cases ge
          | some l' =>
            rw [e] at ge
            cases ge
            unfold updDA at e
            split at e
            · rename_i l l2 e1 e2
              split at e
              · rename_i hz
                cases e
                have ek := unK_of e1
                have ek2 := unK_of e2
                subst ek ek2
                obtain ⟨a, H1, vks, rfl, I1, w1, h1, rr1, m1', f1, z1, n1, _⟩ := dictK_of I w ra hn
                obtain ⟨b, H2, wks, rfl, I2, w2, h2, rr2, m2', f2, z2, n2, k2⟩ := dictK_of I1 w1 r1 hm
                have hab : a ≠ b := fun z => hmn (w2.inj _ _ a (by rw [m2', z]) m1')
                have h1' : H2 a = some (.dK vks) := by rw [k2 a hab]; exact h1
                obtain rfl : v = Value.ref a := rx
                obtain rfl : u = Value.ref b := ru
                obtain ⟨za, da, va, rela, dda⟩ := dk_of I2.hok h1'
                obtain ⟨zb, db, vb, relb, ddb⟩ := dk_of I2.hok h2
                have hzl : vks.length + wks.length ≤ sizeLine := by rw [← rr1.len, ← rr2.len]; exact hz
                refine call_meetsIn PySem.F.slot_dict_update dda.typeIs PySem.F.entry_dict_update (PySem.F.args_dict_update_2 _ _) (meets_dict_update (mixKind X.prog X.w) a b hab db) ⟨va, vb, dda, ddb, by rw [← rela.length, ← relb.length]; exact hzl, fun h' hd' _ hs => ?_⟩
                have he : ∃ q, h'.get? a = some q := let ⟨q, _, _, hq, _⟩ := hd'; ⟨q, hq⟩
                exact ⟨.non, _, d_write (t' := s.toks) I2 (by rw [h1']; exact True.intro) hs he (dk_new (Nat.le_trans (length_mergeK wks vks) hzl) da (relb.merge rela) hd'), rfl,
                  q G _ _ (.refl G) (w2.putK n1 m1' f1 z1 (rr2.merge rr1)) .non⟩
              · cases e
            · split at e
              · rename_i l l2 e1 e2
                split at e
                · rename_i hz
                  cases e
                  have ek := unT_of e1
                  have ek2 := unT_of e2
                  subst ek ek2
                  obtain ⟨a, H1, vks, rfl, I1, w1, h1, rr1, m1', f1, z1, n1, _⟩ := dictT_of I w ra hn
                  obtain ⟨b, H2, wks, rfl, I2, w2, h2, rr2, m2', f2, z2, n2, k2⟩ := dictT_of I1 w1 r1 hm
                  have hab : a ≠ b := fun z => hmn (w2.inj _ _ a (by rw [m2', z]) m1')
                  have h1' : H2 a = some (.dT vks) := by rw [k2 a hab]; exact h1
                  obtain rfl : v = Value.ref a := rx
                  obtain rfl : u = Value.ref b := ru
                  obtain ⟨za, da, xa, rela, dda⟩ := dt_of I2.hok h1'
                  obtain ⟨zb, db, xb, relb, ddb⟩ := dt_of I2.hok h2
                  have hzl : vks.length + wks.length ≤ sizeLine := by rw [← rr1.len, ← rr2.len]; exact hz.1
                  have lxa : xa.length = vks.length := (Paired.length rela).symm
                  have lxb : xb.length = wks.length := (Paired.length relb).symm
                  have kxb : ∀ {ws : List (List Key × V)} {ys : List (List Key × Addr × Value)}, KT H2 ws ys → ys.map (·.1) = ws.map (·.1) := by
                    intro ws ys r
                    induction r with
                    | nil => rfl
                    | cons hh _ ih => rw [List.map_cons, List.map_cons, ih, hh.1]
                  have hap : xa ≠ [] ∨ ((∀ x ∈ xb, s.TypeIs (.ref x.2.1) "tuple") ∧ (xb.map fun x => (tupleKind (mixKind X.prog X.w)).hash x.1).Nodup) := by
                    rcases hz.2 with q1 | q1
                    · refine .inl fun e0 => q1 ?_
                      have : vks.length = 0 := by rw [← lxa, e0]; rfl
                      rw [← rr1.len] at this
                      exact List.length_eq_zero_iff.mp this
                    · refine .inr ⟨?_, ?_⟩
                      · obtain ⟨_, _, _, _, _, _, _, his, _⟩ := ddb
                        exact fun x hx => (his x hx).typeIs
                      · unfold apartT at q1
                        rw [Bool.and_eq_true, decide_eq_true_iff] at q1
                        have ek : xb.map (·.1) = l2.map (·.1) := by rw [kxb relb, rr2.keys]
                        have e5 : (xb.map fun x => (tupleKind (mixKind X.prog X.w)).hash x.1) = (l2.map (·.1)).map hashT := by
                          rw [← ek, List.map_map]
                          refine List.map_congr_left fun x hx => ?_
                          refine hashT_eq X.prog X.w ?_
                          refine List.all_eq_true.mp q1.1 x.1 ?_
                          rw [← ek]
                          exact List.mem_map_of_mem hx
                        rw [e5]
                        exact q1.2
                  refine call_update_dictH (tupleKind_room_in1 (by omega)) hab db dda ddb hap (by rw [lxa, lxb]; exact hzl) fun h' hd' _ hs => ?_
                  obtain ⟨ob, es, ep, hq, h2', h3, h4, _, h5⟩ := hd'
                  exact ⟨.non, _, d_write (t' := s.toks) (ob := .dT (Sim.mergeT vks wks)) I2 (by rw [h1']; exact True.intro) hs ⟨ob, hq⟩ ⟨Nat.le_trans (mergeT_len wks vks) hzl, da, _, (KT.mergeT relb rela).keeps fun c ys ec => by rw [upd_ne (ne_of ec h1' (fun z => nomatch z))]; exact ec, ob, es, ep, hq, h2', h3, h4, h5⟩, rfl,
                    q G _ _ (.refl G) (w2.putT n1 m1' f1 z1 (rr2.merge rr1)) .non⟩
                · cases e
              · cases e
      · cases ge
  · cases ge
end
end Sim

set_option Elab.async false
set_option linter.all false
set_option maxRecDepth 100000
set_option maxHeartbeats 2000000
namespace Sim
open PySem PySem.Spec L2
open PyProof.Rows hiding St
variable [TabT]
/-! SimV4: dict comprehensions whose keys are tuples. -/
theorem put_compT {X : Cx} {ps : List (Addr × Obj)} {σ : L2.St} {H : Hp} {s : Shared} {E : Value → Shared → Prop} {D b : Addr} {l : List (List Key × V)} {k : List Key} {v : V} {r : Value} {Q : Unit → Shared → Prop} (hu : X.A.units + 64 < cLine) (I : Inv X ps σ H s) (hD : H D = some (.dT l))
    (hz : l.length < sizeLine) (hb : H b = some (.tup (k.map kV))) (rv : L2.RelV v r) (h : ∀ s', Inv X ps σ (upd H D (.dT (putK l k v))) s' → Q () s') : wpAny (model X.prog X.w) X.A (dictSet D (.ref b) r) Q E s := by
  obtain ⟨z, hd, xs, rel, dd⟩ := dt_of I.hok hD
  have lx : xs.length = l.length := (Paired.length rel).symm
  refine wpAny_dictSet_heap (hsz := by omega) (show (tupleKind (mixKind X.prog X.w)).room X.A from (by show X.A.units < cLine; omega)) (key_of I.hok hb) dd fun h' d2 sb => h _ ?_
  obtain ⟨q, es, ep, hq, q2, q3, q4, _, q5⟩ := d2
  have hl : (putK l k v).length ≤ sizeLine := by have := length_putK l k v; omega
  exact d_write (ob := .dT (putK l k v)) I (by rw [hD]; exact True.intro) sb ⟨q, hq⟩ ⟨hl, hd, _, (rel.put k hb rv).keeps fun c ys ec => by rw [upd_ne (ne_of ec hD (fun z => nomatch z))]; exact ec, q, es, ep, hq, q2, q3, q4, q5⟩
/-- how such a comprehension goes -/
def tDcT (wi : TI) (g : TG) (tt : TT) (tk tv : TE) (vs : List Nat) : TE := fun σ H Q => wi σ H fun J H1 => ∀ D, H1 D = none → ∃ Inw : Nat → Nat → Hp → Prop, (∃ m, Inw 0 m (upd H1 D (.dT []))) ∧ ∀ i m H2, Inw i m H2 →
  (J.stop i H2 ∧ Q (.ref D) H2) ∨ (J.go i H2 ∧ ∃ Nx : Hp → Prop, (∀ H3, Nx H3 → ∃ m', m' < m ∧ Inw (i + 1) m' H3) ∧ ∀ x H3, J.yld i H2 x H3 → g x (wipe σ vs) H3 fun σ2 H4 => wipe σ2 vs = wipe σ vs ∧ tt σ2 H4 fun b H5 =>
    if b = true then tk σ2 H5 fun y H6 => tv σ2 H6 fun z H7 => ∃ l k a, y = .ref a ∧ H7 a = some (.tup (k.map kV)) ∧ H7 D = some (.dT l) ∧ l.length < sizeLine ∧ Nx (upd H7 D (.dT (putK l k z))) else Nx H5)
abbrev Bx (X : Cx) (sc : Scope) (s : Shared) (H : Hp) (C : Addr) (cl : List (Str × Addr)) (fp : List Addr) : Cx := X.blk s H sc (compEnvC sc cl C X.env) fp
section
variable {X : Cx} {sc : Scope} {own : List (Str × Nat)} {tg it kx vx : Expr} {ifs : List Expr} {ps : Pos} {wi : TI} {g : TG} {tt : TT} {tk tv : TE}
theorem pe_dcT (hu : X.A.units + 64 < cLine) (calm : X.calm = true) (nd : X.N.Nodup) (hi : PI X tg it wi) (bo : BlkOk X.N X.env.scope sc own)
    (pg : ∀ s H C cl fp, PG (Bx X sc s H C cl fp) tg g) (pt : ∀ s H C cl fp, PTs (Bx X sc s H C cl fp) ifs tt) (pk : ∀ s H C cl fp, PE (Bx X sc s H C cl fp) kx tk) (pv : ∀ s H C cl fp, PE (Bx X sc s H C cl fp) vx tv)
    (nofold : ∀ x, foldedSetIterable it X.env x = pure x := by intro _; rfl) : PE X (.DictComp kx vx [⟨tg, it, ifs, 0⟩] sc ps) (tDcT wi g tt tk tv (own.map (·.2))) := by
  refine ⟨fun pn s σ H Q I hyp => ?_⟩
  rw [arm_eval_DictComp]
  have names_free : ∀ y ∈ sc.names, y.2 = .free → ∃ c, X.env.cells.lookup y.1 = some c := fun y hy e => (bo.free y hy e).elim (fun k => I.ok.has _ (.inl k)) fun k => I.ok.has _ (.inr k)
  refine wpAny_comprehension_free rfl nofold (closure_ok names_free) bo.kind (fun y hy e => by rw [bo.uniq y hy, e]) ?_
  refine thn (hi.run pn s σ H _ I hyp) fun xv s1 hx => thn hx fun _ s2 ⟨ia, fp, tn, J, H2, e, I2, T, at0, ff, next⟩ => ?_
  subst e
  refine wpAny_newObj_type (newEnv_comp ?_)
  -- the new dict
  have freshD : H2 s2.heap.objs.size = none := I2.hok.fresh (Nat.le_refl _)
  obtain ⟨Inw, ⟨m0, start⟩, turn⟩ := next _ freshD
  have fpLow : ∀ b ∈ fp, b < s2.heap.objs.size := fun b hb => (T.obj _ _ at0 b hb).elim fun _ z => Heap.lt_size z.1
  generalize hD : s2.heap.objs.size = D at freshD start turn fpLow ⊢
  have push_keeps : ∀ b o, s2.heap.get? b = some o → (s2.heap.push { cls := .type "dict", data := .dict #[] }).get? b = some o := fun _ _ z => Heap.get?_push_of_some _ z
  have ID : Inv X pn σ (upd H2 D (.dT [])) { s2 with heap := s2.heap.push { cls := .type "dict", data := .dict #[] } } :=
    I2.laid (t' := s2.toks) push_keeps (by omega) (by rw [← hD]; exact dt_empty s2.heap I2.big)
  have atD : tn 0 (s2.heap.push { cls := .type "dict", data := .dict #[] }) := T.keep _ _ _ at0 fun b _ o z => push_keeps b o z
  have szD : (s2.heap.push { cls := .type "dict", data := .dict #[] }).objs.size = D + 1 := by rw [Heap.size_push, hD]
  have fpD : ∀ b ∈ fp, FpOk X pn (upd H2 D (.dT [])) b ∧ b < D + 1 := fun b hb =>
    ⟨⟨by rw [upd_ne (Nat.ne_of_lt (fpLow b hb))]; exact (ff b hb).1, (ff b hb).2⟩, Nat.lt_succ_of_lt (fpLow b hb)⟩
  generalize hs3 : ({ s2 with heap := s2.heap.push { cls := .type "dict", data := .dict #[] } } : Shared) = s3 at ID ⊢
  have heap3 : s3.heap = s2.heap.push { cls := .type "dict", data := .dict #[] } := by rw [← hs3]
  rw [← heap3] at atD szD
  generalize hH3 : upd H2 D (.dT []) = H3 at ID start fpD ⊢
  have IB := block_start ID bo nd fun b hb => ⟨(fpD b hb).1, by rw [szD]; exact (fpD b hb).2⟩
  have pg' := pg s3 H3 s3.heap.objs.size (cellsFrom (s3.heap.objs.size + 1) sc.names (cloFrom X.env.cells sc.names [])) fp
  have pt' := pt s3 H3 s3.heap.objs.size (cellsFrom (s3.heap.objs.size + 1) sc.names (cloFrom X.env.cells sc.names [])) fp
  have pk' := pk s3 H3 s3.heap.objs.size (cellsFrom (s3.heap.objs.size + 1) sc.names (cloFrom X.env.cells sc.names [])) fp
  have pv' := pv s3 H3 s3.heap.objs.size (cellsFrom (s3.heap.objs.size + 1) sc.names (cloFrom X.env.cells sc.names [])) fp
  have nofp : ∀ b ∈ fp, H3 b = none := fun b hb => (fpD b hb).1.1
  have back : ∀ {Hz : Hp} {sz : Shared}, Hz s3.heap.objs.size = none → (∃ m, sz.heap.Ns s3.heap.objs.size m) → Inv X pn σ Hz sz → Q (.ref D) Hz → compPost (model X.prog X.w) X.A X.xe none (EP X pn σ Q) (.ref D) s3.heap.objs.size (.ok .next) sz := fun {Hz sz} hn ⟨m, hm⟩ Iz qz => by
    refine ⟨m, hm, fun h2 sb => ?_⟩
    obtain ⟨f0, f1, f2, f3, f4, f5⟩ := ID.fpOk (Nat.le_refl _) hn
    exact ⟨.ref D, Hz, Iz.turned (t' := sz.toks) (fun b o hb e => (sb.2 b hb).trans e) f0 f1 f3 f4 f5, rfl, qz⟩
  show codeAny _ _ (.compStart (.DictComp kx vx [⟨tg, it, ifs, 0⟩] sc ps) 0 (.ref ia) (.ref D) (compEnvC sc (cellsFrom (s3.heap.objs.size + 1) sc.names (cloFrom X.env.cells sc.names [])) s3.heap.objs.size X.env)) (compPost (model X.prog X.w) X.A X.xe none (EP X pn σ Q) (.ref D) s3.heap.objs.size) _
  unfold Bx at pg' pt' pk' pv'
  generalize hce : compEnvC sc (cellsFrom (s3.heap.objs.size + 1) sc.names (cloFrom X.env.cells sc.names [])) s3.heap.objs.size X.env = ce at IB pg' pt' pk' pv' ⊢
  have locals_at : ce.locals = s3.heap.objs.size := by rw [← hce]; rfl
  generalize hs4 : ({ s3 with heap := pushCells (s3.heap.push { cls := .type "dict", data := .dict #[] }) sc.names } : Shared) = s4 at IB ⊢
  have at4 : tn 0 s4.heap := T.keep _ _ _ atD fun b _ o z => by rw [← hs4]; exact pushCells_keeps _ _ _ _ (Heap.get?_push_of_some _ z)
  have stands : ∀ {σz : L2.St} {Hz : Hp} {sz : Shared}, Inv (X.blk s3 H3 sc ce fp) [] σz Hz sz → (∀ b ∈ fp, Hz b = none) → ∀ b ∈ fp, FpOk (X.blk s3 H3 sc ce fp) [] Hz b := fun {σz Hz sz} Iz hn b hb => by
    refine ⟨hn b hb, (Iz.ok.exf b hb).1, Iz.ok.exfs b hb, .inl hb, fun x c e => (Iz.ok.exf b hb).2 x c e, fun p hp => ?_⟩
    have hp' : p ∈ ([] : List (Addr × Obj)) ++ [] := hp
    simp at hp'
  let Loop : Nat → Shared → Prop := fun n sz => ∃ i Hz, Inv (X.blk s3 H3 sc ce fp) [] (wipe σ (own.map (·.2))) Hz sz ∧ tn i sz.heap ∧ (∀ b ∈ fp, Hz b = none) ∧ Inw i n Hz
  have loop : codeAny (model X.prog X.w) X.A (.compLoop (.DictComp kx vx [⟨tg, it, ifs, 0⟩] sc ps) 0 (.ref ia) (.ref D) ce) (compPost (model X.prog X.w) X.A X.xe none (EP X pn σ Q) (.ref D) s3.heap.objs.size) s4 := by
    refine compLoop_anyD Loop (fun n s5 ⟨i, H5, I5, at5, n5, w5⟩ => ?_) m0 ⟨0, H3, IB, at4, nofp, start⟩
    rcases turn i n H5 w5 with ⟨stop, fin⟩ | ⟨go, Nx, less, step⟩
    · refine thnF (T.done (X.blk s3 H3 sc ce fp) rfl rfl rfl calm i [] s5 _ H5 (fun _ _ => False) I5 (stands I5 n5) at5 stop) fun r s6 ⟨er, I6⟩ => ?_
      subst er
      have here : H5 s3.heap.objs.size = none := by rw [← locals_at]; exact I6.free
      have nsm : ∃ m, s6.heap.Ns s3.heap.objs.size m := by
        obtain ⟨m, hm, _⟩ := I6.loc
        exact ⟨m, by rw [← locals_at]; exact hm⟩
      refine back here nsm (ID.call' (ch := fp) I6.os I6.base I6.hok I6.bare fun b hb => ?_) fin
      obtain ⟨⟨_, z1, z2, z3, z4, z5⟩, _⟩ := fpD b hb
      exact ⟨z3, z1, z4, z5⟩
    · refine thnF (T.item (X.blk s3 H3 sc ce fp) rfl rfl rfl calm i [] s5 _ H5 (fun _ _ => False) I5 (stands I5 n5) at5 go) fun r s6 ⟨u, er, h6⟩ => ?_
      subst er
      refine thnF h6 fun _ s7 ⟨x, H7, I7, rx, yl, at7, n7⟩ => ?_
      have I7p := I7.pinned (stands I7 n7) (T.obj _ _ at7)
      refine thnF (pg'.run _ s7 _ H7 x u _ I7p rx (step x H7 yl)) fun _ s8 ⟨σ8, H8, I8, same8, t8⟩ => thnF (pt'.run _ s8 σ8 H8 _ I8 t8) fun b s9 ⟨H9, I9, t9⟩ => ?_
      have turned : ∀ {sz : Shared} {Hz : Hp}, Inv (X.blk s3 H3 sc ce fp) ([] ++ pinsAt fp s7.heap) σ8 Hz sz → Nx Hz → ∃ m, m < n ∧ Loop m sz := fun {sz Hz} Iz nx => by
        obtain ⟨m', lt, inw⟩ := less Hz nx
        have pinned : ∀ b ∈ fp, ∀ o, s7.heap.get? b = some o → sz.heap.get? b = some o ∧ Hz b = none := fun b hb o e => by
          have z := Iz.pin (b, o) (List.mem_append_right _ (List.mem_append_right _ (mem_pinsAt hb e)))
          exact ⟨z.1, z.2.1⟩
        refine ⟨m', lt, i + 1, Hz, (Iz.unpinned (pins := [])).weak (by rw [← same8, wipe_length]) (fun j v e => ?_), T.keep _ _ _ at7 fun b hb o e => (pinned b hb o e).1, fun b hb => ?_, inw⟩
        · rw [← same8] at e
          exact (wipe_some e).1
        · obtain ⟨o, e, _⟩ := T.obj _ _ at7 b hb
          exact (pinned b hb o e).2
      cases b with
      | false =>
        rw [if_neg (by decide)] at t9 ⊢
        exact turned I9 t9
      | true =>
        rw [if_pos rfl] at t9 ⊢
        refine thnF (pk'.run _ s9 σ8 H9 _ I9 t9) fun z s10 ⟨yk, H10, I10, rk, t10⟩ => thnF (pv'.run _ s10 σ8 H10 _ I10 t10) fun z2 s11 ⟨yv, H11, I11, rv, l, k, a, ek, ha, hDl, hz, nx⟩ => ?_
        subst ek
        obtain rfl : z = Value.ref a := rk
        exact put_compT (X := X.blk s3 H3 sc ce fp) hu I11 hDl hz ha rv fun s12 I12 => turned I12 nx
  exact codeAny_compStart_dict loop (T.self X.A 0 _ _ _ at4 loop)
end
/-! ### a new dict -/
def tSDT (X : Cx) (W : WX) (m : EM (List (List Key × AV))) : TE := fun σ H Q => ∃ G h env, WI X.K X.mg G h H ∧ RE X.K X.mg G env σ ∧ match m env h with
  | .ok kvs h' => ∀ G' H' p vs, G.le G' → WI X.K X.mg G' h' H' → H' p = none → RkT X.K X.mg G' (avT kvs) vs → Q (.ref p) (upd H' p (.dT vs))
  | .exc c fs h' => ∀ G' H' cls d, G.le G' → WI X.K X.mg G' h' H' → XR X.K X.mg G' c fs cls d → W cls d σ H'
  | .bad => False
structure SDT (X : Cx) (W : WX) (e : Expr) (m : EM (List (List Key × AV))) : Prop where
  pe : PE X e (tSDT X W m)
def newDT (kvs : List (List Key × AV)) : M AV := fun h => .ok (.cell h.length) (h ++ [.dct (avT kvs)])
def mDCT (m : EM (List (List Key × AV))) : EM AV := fun env => (m env).bnd newDT
theorem WI.newDT {K : PySem.W.Frag} {mg : Str → Option Value} {G : Gh} {h : Hs} {H : Hp} {p : Addr} {xs : List (List Key × AV)} {vs : List (List Key × V)} (w : WI K mg G h H) (e : H p = none) (r : RkT K mg G (avT xs) vs) :
    G.le (G.addM h.length p) ∧ WI K mg (G.addM h.length p) (h ++ [.dct (avT xs)]) (upd H p (.dT vs)) ∧ R K mg (G.addM h.length p) (.cell h.length) (.ref p) := by
  have l : G.le (G.addM h.length p) := Gh.addM_le w.muN
  have m0 : (G.addM h.length p).mu h.length = some p := by show (if h.length = h.length then some p else G.mu h.length) = some p; rw [if_pos rfl]
  exact ⟨l, w.newC e ⟨p, m0, w.freeF e, w.freeZ e, .inr ⟨vs, upd_same, r.mono l⟩⟩, .cell m0⟩
section
variable {X : Cx} {W : WX} {k : Nat} {e : Expr}
theorem se_dCT {m : EM (List (List Key × AV))} (h : SDT X W e m) : SE X W e (mDCT m) := by
  refine ⟨h.pe.weak fun σ H Q ⟨G, h, env, w, re, p⟩ => ⟨G, h, env, w, re, ?_⟩⟩
  unfold mDCT M.bnd at p
  cases e : m env h with
  | bad => rw [e] at p; exact p
  | exc c fs h1 => rw [e] at p; exact p
  | ok xs h1 =>
    rw [e] at p
    intro G' H' a vs l w' ha rs
    obtain ⟨le, w2, r2⟩ := w'.newDT ha rs
    exact p _ _ _ (l.trans le) w2 r2
/-- {} -/
def mD0T : EM (List (List Key × AV)) := fun _ => M.ret []
theorem sd_nilT {pos : Pos} : SDT X W (.Dict [] [] pos) mD0T := ⟨pe_dnewT.weak fun σ H Q ⟨G, h, env, w, re, p⟩ => fun d hd => p G H d [] (.refl G) w hd .nil⟩
/-! ### {k: v for ..} -/
def dcLT (g : GT) (t : EM Bool) (ek ev : EM AV) (env : AEnv) : List (List Key × AV) → List AV → M (List (List Key × AV))
  | acc, [] => M.ret acc
  | acc, x :: xs => match g x env with
    | none => M.bad
    | some e' => (noexc (t e')).bnd fun b => if b = true then (noexc (ek e')).bnd fun y => (noexc (ev e')).bnd fun z => (match keyT? y with
      | some kk => dcLT g t ek ev env (putG acc kk z) xs
      | none => M.bad) else dcLT g t ek ev env acc xs
def mDcT (vs : List Nat) (mi : EM (List AV)) (g : GT) (t : EM Bool) (ek ev : EM AV) : EM (List (List Key × AV)) := fun env => (mi env).bnd fun xs => if small xs then dcLT g t ek ev (wipeE env vs) [] xs else M.bad
theorem dcLT_ne {g : GT} {t : EM Bool} {ek ev : EM AV} {env : AEnv} : ∀ (xs : List AV) (acc : List (List Key × AV)) (h : Hs) (c : Str) (fs : List (Str × AV)) (h' : Hs), dcLT g t ek ev env acc xs h ≠ .exc c fs h'
  | [], acc, h, c, fs, h' => fun q => by cases q
  | x :: xs, acc, h, c, fs, h' => by
    unfold dcLT
    cases g x env with
    | none => intro q; cases q
    | some e' =>
      refine bnd_ne (noexc_ne _) (fun b h c fs h' => ?_) h c fs h'
      by_cases hb : b = true
      · rw [if_pos hb]
        refine bnd_ne (noexc_ne _) (fun y h c fs h' => bnd_ne (noexc_ne _) (fun z h c fs h' => ?_) h c fs h') h c fs h'
        cases keyT? y with
        | none => intro q; cases q
        | some kk => exact dcLT_ne xs _ h c fs h'
      · rw [if_neg hb]
        exact dcLT_ne xs acc h c fs h'
theorem noexc_invT {α : Type} {m : M α} {h : Hs} {a : α} {h' : Hs} (e : noexc m h = .ok a h') : m h = .ok a h' := by
  unfold noexc at e
  split at e
  · cases e
  · exact e
def Gh.holdDT (G : Gh) (D : Addr) (vs : List (List Key × V)) : Gh := { G with Z := upd G.Z D (.dT vs) }
theorem Gh.holdDT_lt (G : Gh) (D : Addr) (vs : List (List Key × V)) : G.lt (G.holdDT D vs) := ⟨Same.refl _, fun _ _ q => q, rfl⟩
theorem Gh.holdDT_gt (G : Gh) (D : Addr) (vs : List (List Key × V)) : (G.holdDT D vs).lt G := ⟨Same.refl _, fun _ _ q => q, rfl⟩
theorem WI.holdDT {K : PySem.W.Frag} {mg : Str → Option Value} {G : Gh} {h : Hs} {H : Hp} {D : Addr} {vs : List (List Key × V)} (w : WI K mg G h H) (e : H D = none) : WI K mg (G.holdDT D vs) h (upd H D (.dT vs)) := by
  have hF := w.freeF e
  have hZ := w.freeZ e
  have hM := w.freeM e
  refine ⟨fun b u q => ?_, fun b u q => ?_, fun b u q => ?_, fun n c hc => ?_, w.bnd, w.inj, tabs_new w.tb.T e, w.tb.nF, fun b u fx q => ?_⟩
  · have q2 : G.F b = some u := q
    rw [upd_ne (ne_of_none q2 hF)]; exact w.F b u q2
  · have q2 : upd G.Z D (.dT vs) b = some u := q
    by_cases hb : b = D
    · subst hb; rw [upd_same] at q2 ⊢; exact q2
    · rw [upd_ne hb] at q2 ⊢; exact w.Z b u q2
  · have q2 : upd G.Z D (.dT vs) b = some u := q
    by_cases hb : b = D
    · subst hb; exact hF
    · rw [upd_ne hb] at q2; exact w.FZ b u q2
  · refine (w.cells n c hc).conv (G.holdDT_lt D vs) (fun a _ q => q) (fun a ha q => ?_) (fun a o ha q => ?_)
    · show upd G.Z D (.dT vs) a = none
      rw [upd_ne (fun z => hM n (by rw [ha, z]))]; exact q
    · rw [upd_ne (fun z => hM n (by rw [ha, z]))]; exact q
  · have q2 : upd G.Z D (.dT vs) b = some u := q
    by_cases hb : b = D
    · subst hb; rw [upd_same] at q2; cases q2; cases fx
    · rw [upd_ne hb] at q2; exact w.tb.nZ b u fx q2
theorem WI.letgoDT {K : PySem.W.Frag} {mg : Str → Option Value} {G : Gh} {h : Hs} {H : Hp} {D : Addr} {vs : List (List Key × V)} (w : WI K mg (G.holdDT D vs) h H) (hZ : G.Z D = none) : H D = some (.dT vs) ∧ WI K mg G h (offH H D) := by
  have zD : (G.holdDT D vs).Z D = some (.dT vs) := by show upd G.Z D (.dT vs) D = _; rw [upd_same]
  have hF : G.F D = none := w.FZ D _ zD
  refine ⟨w.Z D _ zD, fun b u q => ?_, fun b u q => ?_, fun b u q => ?_, fun n c hc => ?_, w.bnd, w.inj, ?_, w.tb.nF, fun b u fx q => ?_⟩
  · unfold offH; rw [if_neg (ne_of_none q hF)]; exact w.F b u q
  · unfold offH; rw [if_neg (ne_of_none q hZ)]
    refine w.Z b u ?_
    show upd G.Z D (.dT vs) b = some u
    rw [upd_ne (ne_of_none q hZ)]; exact q
  · refine w.FZ b u ?_
    show upd G.Z D (.dT vs) b = some u
    rw [upd_ne (ne_of_none q hZ)]; exact q
  · have dZ : ∀ a, (G.holdDT D vs).Z a = none → a ≠ D ∧ G.Z a = none := fun a q => by
      have q2 : upd G.Z D (.dT vs) a = none := q
      by_cases ha : a = D
      · subst ha; rw [upd_same] at q2; cases q2
      · rw [upd_ne ha] at q2; exact ⟨ha, q2⟩
    have x := w.cells n c hc
    have key : ∀ a o, (G.holdDT D vs).mu n = some a → H a = some o → ((G.holdDT D vs).Z a = none ∨ ∃ u, (G.holdDT D vs).F a = some u) → offH H D a = some o := fun a o _ ho hh => by
      unfold offH
      rw [if_neg ?_]
      · exact ho
      · rcases hh with hh | ⟨u, hh⟩
        · exact (dZ a hh).1
        · exact ne_of_none (H := G.F) hh hF
    cases c with
    | lst xs => obtain ⟨a, ws, h1, h2, hz, h3, h4⟩ := x; exact ⟨a, ws, h1, h2, (dZ a hz).2, key a _ h1 h3 (.inl hz), h4.monoL (G.holdDT_gt D vs)⟩
    | dct kvs =>
      obtain ⟨a, h1, h2, hz, ⟨vks, h3, h4⟩ | ⟨vks, h3, h4⟩⟩ := x
      · exact ⟨a, h1, h2, (dZ a hz).2, .inl ⟨vks, key a _ h1 h3 (.inl hz), h4.monoL (G.holdDT_gt D vs)⟩⟩
      · exact ⟨a, h1, h2, (dZ a hz).2, .inr ⟨vks, key a _ h1 h3 (.inl hz), h4.monoL (G.holdDT_gt D vs)⟩⟩
    | ins c fs => obtain ⟨a, C, dx, vfs, h1, h2, hz, hc2, h3, h4⟩ := x; exact ⟨a, C, dx, vfs, h1, h2, (dZ a hz).2, hc2, key a _ h1 h3 (.inl hz), h4.monoL (G.holdDT_gt D vs)⟩
    | frz v => obtain ⟨a, o, h1, h2, h3⟩ := x; exact ⟨a, o, h1, h2, h3.monoL (G.holdDT_gt D vs)⟩
  · have hD := w.Z D _ zD
    refine tabs_stay w.tb.T (fun b ps q => ?_) (fun b f q => ?_) <;>
    · unfold offH
      rw [if_neg (fun z => by rw [z, hD] at q; cases q)]
      exact q
  · refine w.tb.nZ b u fx ?_
    show upd G.Z D (.dT vs) b = _
    rw [upd_ne (ne_of_none q hZ)]; exact q
theorem unholdDT {G : Gh} {D : Addr} {vs : List (List Key × V)} {G2 : Gh} (l : (G.holdDT D vs).le G2) : G.le { G2 with Z := G.Z } ∧ G2 = ({ G2 with Z := G.Z } : Gh).holdDT D vs := by
  refine ⟨⟨l.F, l.mu, rfl, l.T⟩, ?_⟩
  have e : G2.Z = upd G.Z D (.dT vs) := l.Z
  obtain ⟨F, mu, Z, T⟩ := G2
  have e2 : Z = upd G.Z D (.dT vs) := e
  subst e2
  rfl
theorem tDcT_of {own : List (Str × Nat)} {mi : EM (List AV)} {ow : List Nat} {g : GT} {bt : EM Bool} {mk me : EM AV} (how : ∀ i ∈ ow, i ∈ own.map (·.2)) {σ : L2.St} {H : Hp} {Q : VK} (t : tSDT X W (mDcT (own.map (·.2)) mi g bt mk me) σ H Q) :
    tDcT (tSI X W mi) (tSG X ow g) (tST X noW bt) (tSE X noW mk) (tSE X noW me) (own.map (·.2)) σ H Q := by
  obtain ⟨G, h, env, w, re, p⟩ := t
  refine ⟨G, h, env, w, re, ?_⟩
  unfold mDcT M.bnd at p
  cases e : mi env h with
  | bad => rw [e] at p; exact p
  | exc c fs h1 => rw [e] at p; exact p
  | ok xs h1 =>
    rw [e] at p
    dsimp only at p
    by_cases hsm : small xs = true
    · rw [if_pos hsm] at p
      have hlen : xs.length ≤ sizeLine := of_decide_eq_true hsm
      intro G' H' J l w' ik D hD
      have hZD := w'.freeZ hD
      refine ⟨fun i m H2 => ∃ G1 h2 as vacc, G'.le G1 ∧ RkT X.K X.mg G1 (avT as) vacc ∧ WI X.K X.mg (G1.holdDT D vacc) h2 H2 ∧ as.length ≤ i ∧ m = xs.length - i ∧ i ≤ xs.length ∧
          (match dcLT g bt mk me (wipeE env (own.map (·.2))) as (xs.drop i) h2 with
            | .ok zs h' => ∀ G3 H3 p vs, G1.le G3 → WI X.K X.mg G3 h' H3 → H3 p = none → RkT X.K X.mg G3 (avT zs) vs → Q (.ref p) (upd H3 p (.dT vs))
            | _ => False), ⟨xs.length, G', h1, [], [], .refl _, .nil, w'.holdDT hD, Nat.le_refl _, by simp, Nat.zero_le _, ?_⟩, ?_⟩
      · rw [List.drop_zero]
        cases e2 : dcLT g bt mk me (wipeE env (own.map (·.2))) [] xs h1 with
        | ok zs h3 => rw [e2] at p; exact fun G3 H3 q vs l3 => p G3 H3 q vs (l.trans l3)
        | exc c fs h3 =>
          exfalso
          exact dcLT_ne xs [] h1 c fs h3 e2
        | bad => rw [e2] at p; exact p
      · rintro i m H2 ⟨G1, h2, as, vacc, l1, ra, w2, hal, rfl, hi2, p2⟩
        have hZ1 : G1.Z D = none := by rw [l1.Z]; exact hZD
        obtain ⟨stop, go⟩ := ik (G1.holdDT D vacc) h2 H2 (l1.lt.trans (G1.holdDT_lt D vacc)) w2
        by_cases hlt : i < xs.length
        · obtain ⟨go1, yld⟩ := go i hlt
          refine .inr ⟨go1, fun H3 => ∃ G1 h2 as vacc, G'.le G1 ∧ RkT X.K X.mg G1 (avT as) vacc ∧ WI X.K X.mg (G1.holdDT D vacc) h2 H3 ∧ as.length ≤ i + 1 ∧
              (match dcLT g bt mk me (wipeE env (own.map (·.2))) as (xs.drop (i + 1)) h2 with
                | .ok zs h' => ∀ G3 H3 p vs, G1.le G3 → WI X.K X.mg G3 h' H3 → H3 p = none → RkT X.K X.mg G3 (avT zs) vs → Q (.ref p) (upd H3 p (.dT vs))
                | _ => False), ?_, ?_⟩
          · rintro H3 ⟨G2, h3, as2, vacc2, q1, q2, q3, q4, q5⟩
            exact ⟨xs.length - (i + 1), by omega, G2, h3, as2, vacc2, q1, q2, q3, q4, rfl, hlt, q5⟩
          · intro x H3 y
            obtain ⟨G2, a, l2, w3, ea, rx⟩ := yld x H3 y
            have ed : xs.drop i = a :: xs.drop (i + 1) := by
              rw [List.drop_eq_getElem_cons hlt]
              rw [List.getElem?_eq_getElem hlt] at ea
              rw [Option.some.inj ea]
            rw [ed] at p2
            unfold dcLT at p2
            have rew : RE X.K X.mg G2 (wipeE env (own.map (·.2))) (wipe σ (own.map (·.2))) := (((re.mono (l.trans l1)).wipe _).monoL (G1.holdDT_lt D vacc)).mono l2
            cases eg : g a (wipeE env (own.map (·.2))) with
            | none => rw [eg] at p2; exact p2.elim
            | some e2 =>
              rw [eg] at p2
              dsimp only at p2
              refine ⟨G2, h2, _, a, e2, w3, rew, rx, eg, fun G3 H4 σ3 l3 w4 re3 bu => ⟨by rw [bu _ how]; exact wipe_idem _ _, ?_⟩⟩
              refine ⟨G3, h2, e2, w4, re3, ?_⟩
              unfold M.bnd at p2
              cases et : noexc (bt e2) h2 with
              | bad => rw [et] at p2; exact p2.elim
              | exc c fs h3 => rw [et] at p2; exact p2.elim
              | ok b h3 =>
                rw [et] at p2
                dsimp only at p2
                rw [noexc_invT et]
                intro G4 H5 b' l4 w5 rb
                subst rb
                by_cases hb : b = true
                · rw [if_pos hb] at p2 ⊢
                  refine ⟨G4, h3, e2, w5, re3.mono l4, ?_⟩
                  cases ek : noexc (mk e2) h3 with
                  | bad => rw [ek] at p2; exact p2.elim
                  | exc c fs h4 => rw [ek] at p2; exact p2.elim
                  | ok yk h4 =>
                    rw [ek] at p2
                    dsimp only at p2
                    rw [noexc_invT ek]
                    intro G5 H6 yy l5 w6 ry
                    refine ⟨G5, h4, e2, w6, (re3.mono l4).mono l5, ?_⟩
                    cases ee : noexc (me e2) h4 with
                    | bad => rw [ee] at p2; exact p2.elim
                    | exc c fs h5 => rw [ee] at p2; exact p2.elim
                    | ok yv h5 =>
                      rw [ee] at p2
                      dsimp only at p2
                      rw [noexc_invT ee]
                      intro G6 H7 zz l6 w7 rz
                      cases eka : keyT? yk with
                      | none => rw [eka] at p2; exact p2.elim
                      | some kk =>
                        rw [eka] at p2
                        dsimp only at p2
                        have ekk := keyT_of eka
                        subst ekk
                        obtain ⟨bk, rfl, hbk⟩ := ry.keyT
                        have hb7 := w7.F _ _ (l6.F _ _ hbk)
                        obtain ⟨lu, eu⟩ := unholdDT (l2.trans (l3.trans (l4.trans (l5.trans l6))))
                        rw [eu] at w7
                        obtain ⟨hDD, w8⟩ := w7.letgoDT (by show G1.Z D = none; exact hZ1)
                        refine ⟨vacc, kk, bk, rfl, hb7, hDD, ?_, ({ G6 with Z := G1.Z } : Gh), h5, putG as kk yv, putK vacc kk zz, l1.trans lu, ?_, ?_, ?_, ?_⟩
                        · rw [← ra.len]; omega
                        · exact RkT.put (R.monoL (G := G6) (G' := { G6 with Z := G1.Z }) ⟨Same.refl _, fun _ _ q => q, rfl⟩ rz) (ra.mono lu)
                        · have w9 := w8.holdDT (D := D) (vs := putK vacc kk zz) offH_at
                          have eqh : upd (offH H7 D) D (.dT (putK vacc kk zz)) = upd H7 D (.dT (putK vacc kk zz)) := by
                            funext b
                            by_cases hb2 : b = D
                            · subst hb2; rw [upd_same, upd_same]
                            · rw [upd_ne hb2, upd_ne hb2]; unfold offH; rw [if_neg hb2]
                          rw [eqh] at w9
                          exact w9
                        · have := putG_len as kk yv; omega
                        · cases er : dcLT g bt mk me (wipeE env (own.map (·.2))) (putG as kk yv) (xs.drop (i + 1)) h5 with
                          | bad => rw [er] at p2; exact p2.elim
                          | exc c fs h5 => rw [er] at p2; exact p2.elim
                          | ok zs h6 =>
                            rw [er] at p2
                            exact fun G7 H8 pp vs l7 w9 hp rs => p2 G7 H8 pp vs (lu.trans l7) w9 hp rs
                · rw [if_neg hb] at p2 ⊢
                  obtain ⟨lu, eu⟩ := unholdDT (l2.trans (l3.trans l4))
                  rw [eu] at w5
                  refine ⟨({ G4 with Z := G1.Z } : Gh), h3, as, vacc, l1.trans lu, ra.mono lu, w5, by omega, ?_⟩
                  cases er : dcLT g bt mk me (wipeE env (own.map (·.2))) as (xs.drop (i + 1)) h3 with
                  | bad => rw [er] at p2; exact p2.elim
                  | exc c fs h5 => rw [er] at p2; exact p2.elim
                  | ok zs h5 =>
                    rw [er] at p2
                    exact fun G6 H7 pp vs l6 => p2 G6 H7 pp vs (lu.trans l6)
        · have ei : i = xs.length := by omega
          subst ei
          rw [List.drop_length] at p2
          refine .inl ⟨stop, ?_⟩
          obtain ⟨hDD, w7⟩ := w2.letgoDT hZ1
          have q := p2 G1 (offH H2 D) D vacc (.refl _) w7 offH_at ra
          rw [offH_upd hDD] at q
          exact q
    · rw [if_neg hsm] at p; exact p.elim
theorem sd_dcT {kx vx tg iter : Expr} {ifs : List Expr} {scope : Scope} {own : List (Str × Nat)} {pos : Pos} {mi : EM (List AV)} {ow : List Nat} {g : GT} {bt : EM Bool} {mk me : EM AV} (O : Ok X W k) (hi : SI X W tg iter mi) (ok : BlkOk X.N X.env.scope scope own) (how : ∀ i ∈ ow, i ∈ own.map (·.2))
    (hg : ∀ s H C cl fp, SG (blkX X scope s H C cl fp) tg ow g) (ht : ∀ s H C cl fp, STs (blkX X scope s H C cl fp) noW ifs bt) (hk : ∀ s H C cl fp, SE (blkX X scope s H C cl fp) noW kx mk) (he : ∀ s H C cl fp, SE (blkX X scope s H C cl fp) noW vx me) (hs : ∀ x, foldedSetIterable iter X.env x = pure x := by intro _; rfl) :
    SDT X W (.DictComp kx vx [⟨tg, iter, ifs, 0⟩] scope pos) (mDcT (own.map (·.2)) mi g bt mk me) :=
  ⟨(pe_dcT O.u64 (tt := tST X noW bt) (g := tSG X ow g) (tk := tSE X noW mk) (tv := tSE X noW me) O.calm O.nd hi.pi ok (fun s H C cl fp => (hg s H C cl fp).pg) (fun s H C cl fp => (ht s H C cl fp).pts) (fun s H C cl fp => (hk s H C cl fp).pe) (fun s H C cl fp => (he s H C cl fp).pe) hs).weak fun σ H Q t => tDcT_of how t⟩
end
end Sim

set_option Elab.async false
set_option linter.all false
set_option maxRecDepth 100000
set_option maxHeartbeats 2000000
namespace Sim
open PySem PySem.Spec L2
open PyProof.Rows hiding St
variable [TabT]
/-! SimW: instances that change: a made instance that stays a cell of the maker's. -/
/-- C(..): __init__ fills it; it stays a cell -/
def mMakeL (n : Nat) (c : Str) (m : FM) (as : EM (List AV)) : EM AV := fun env => (as env).bnd fun avs h =>
  if avs.length + 1 = n then (match m (.cell h.length :: avs) (h ++ [.ins c []]) with
    | .ok .non h' => .ok (.cell h.length) h'
    | .exc x fs h' => .exc x fs h'
    | _ => .bad) else .bad
section
variable {X : Cx} {W : WX} {j k : Nat} {f C : Addr} {fd : FuncData} {ps : List Str} {p pos : Pos} {e : Expr} {es : List Expr} {n : Nat} {c : Str} {m : FM} {as : EM (List AV)}
theorem tMakeL_of (hm : X.mg c = some (.ref C)) {σ : L2.St} {H : Hp} {Q : VK} (t : tSE X W (mMakeL n c m as) σ H Q) : tMakeS C (spM X.K X.mg n m) (WE W) (tSA X W as) σ H Q := by
  obtain ⟨G, h, env, w, re, p⟩ := t
  refine ⟨G, h, env, w, re, post_bnd p fun avs h1 G1 H1 vs l1 w1 rs p1 a dx ha hdx hne => ?_⟩
  by_cases hl : avs.length + 1 = n
  · rw [if_pos hl] at p1
    have wa := w1.newF (o := .own a) hdx (fun ps z => by cases z)
    have la : G1.le (G1.addF dx (.own a)) := Gh.addF_le (w1.freeF hdx)
    have hax : upd H1 dx (.own a) a = none := by rw [upd_ne (Ne.symm hne)]; exact ha
    generalize upd H1 dx (.own a) = Ha at wa hax ⊢
    generalize G1.addF dx (.own a) = Ga at wa la ⊢
    have hF0 : Ga.F a = none := wa.freeF hax
    have hZ0 : Ga.Z a = none := wa.freeZ hax
    have hmu : (Ga.addM h1.length a).mu h1.length = some a := by show (if h1.length = h1.length then some a else _) = some a; rw [if_pos rfl]
    have w2 := wa.newC (p := a) (o := .ins C dx []) (c := .ins c []) hax ⟨a, C, dx, [], hmu, hF0, hZ0, hm, upd_same, .nil⟩
    have l2 : Ga.le (Ga.addM h1.length a) := Gh.addM_le wa.muN
    refine ⟨by rw [List.length_cons, ← rs.length]; exact hl, _, _, .cell h1.length :: avs, w2, .cons (.cell hmu) (rs.mono (la.trans l2)), ?_⟩
    show postF X.K X.mg _ _ _ (m (.cell h1.length :: avs) (h1 ++ [.ins c []]))
    cases e : m (.cell h1.length :: avs) (h1 ++ [.ins c []]) with
    | bad => rw [e] at p1; exact p1
    | exc x fs h2 =>
      rw [e] at p1
      intro G2 H2 cls d l wq xr
      exact p1 G2 H2 cls d ((la.trans l2).trans l) wq xr
    | ok v h2 =>
      rw [e] at p1
      cases v with
      | non =>
        intro G2 H2 z l wq rz
        cases rz
        exact ⟨rfl, p1 G2 H2 _ ((la.trans l2).trans l) wq (.cell (l.mu _ _ hmu))⟩
      | _ => exact p1.elim
  · rw [if_neg hl] at p1; exact p1.elim
theorem se_makeL (O : Ok X W j) (M : Mk X.K C f) (F : FnOk X.prog X.w X.K X.mg X.base (L2.CX X.prog X.w) k f fd ps (spM X.K X.mg n m)) (hk : k + 1 ≤ j) (hm : X.mg c = some (.ref C)) (hb : Binds X.K fd ps []) (ha : SA X W (e :: es) as) (hg : Gl X c := by rfl)
    (hdb : (c == ("__debug__" : Str)) = false := by decide) (he : starEach (e :: es) X.env = (false, eval e X.env) :: starEach es X.env := by rfl) (hpl : (backTo pos (starEach es X.env)).any (·.1) = false := by rfl) :
    SE X W (.Call (.Name c p) (e :: es) [] pos) (mMakeL n c m as) :=
  ⟨(pe_makeS M F (O.hr.mono hk) hg hm hb (fun σ => passAt O.tk σ) ha.pa hdb he hpl).weak fun σ H Q q => tMakeL_of hm q⟩
end
end Sim

set_option Elab.async false
set_option linter.all false
set_option maxRecDepth 100000
set_option maxHeartbeats 2000000
namespace Sim
open PySem PySem.Spec L2
open PyProof.Rows hiding St
/-! SimX: sorted of a tuple of ints. -/
section
variable {prog : Program} {w : World} {A : Around} {E : Value → Shared → Prop} {s : Shared}
open SrtO in
/-- sorted(t) of a tuple: where the new list stands is not told -/
theorem sorted_tupO {l : Addr} {vs : List Value} {ltv : Value → Value → Bool} {Q : Value → Shared → Prop} (O : Swo ltv) (hl : IsTup s.heap l vs.toArray) (hz : vs.length ≤ sizeLine)
    (hS : 2 ≤ vs.length → ∀ (h1 : Heap) (a : Addr), SortableO prog w A.in1.in1 { s with heap := h1 } a vs ltv)
    (h : ∀ (h1 : Heap) (out : List Value) (h2 : Heap), (∀ b o, s.heap.get? b = some o → h1.get? b = some o) → Srtd ltv out → Stb ltv out vs → (∀ b o, h1.get? b = some o → h2.get? b = some o) → (∃ e, h2.get? h1.objs.size = some (seqObj "list" out.toArray e)) → Q (.ref h1.objs.size) { s with heap := h2 }) :
    wpAny (model prog w) A (call (.builtin "sorted") [.ref l]) Q E s := by
  obtain ⟨o, ho, hc, n, hd⟩ := hl
  refine Calls.call_function_entry kind_sorted plain_sorted entry_sorted (args_sorted1 _) ?_
  unfold Builtin.«sorted»
  refine wpAny_bind (m := checkCount "sorted" 1 1 _) (wpAny_pure ?_)
  refine wpAny_bind (wpAny_collect_seq l (.inr rfl) ho hc hd (fun h1 k1 => ?_) (by rw [List.size_toArray]; exact hz))
  refine wpAny_bind (wpAny_newList ?_ hz)
  have new : (h1.push (seqObj "list" vs.toArray 0)).get? h1.objs.size = some (seqObj "list" vs.toArray 0) := Heap.get?_push_size _ rfl
  refine wpAny_bind (wpAny_holding (wpAny_call_entry slot_list_sort ⟨_, new, rfl⟩ entry_list_sort (list_sort_ord O new hz (fun h2 => hS h2 _ _) fun out g1 g2 => ⟨_, rfl, ?_⟩) (args_list_sort _)))
  refine wpAny_pure ⟨_, rfl, h h1 out _ k1 g1 g2 (fun b u e1 => ?_) (sortedHeap_at new)⟩
  have lt := Heap.lt_size e1
  show (sortedHeap (h1.push (seqObj "list" vs.toArray 0)) h1.objs.size vs out.toArray).get? b = some u
  rw [sortedHeap_old (Nat.ne_of_lt lt) (by rw [size_push']; exact Nat.lt_succ_of_lt lt)]
  exact Heap.get?_push_of_some _ e1
end
variable [TabT]
def tupOf (h : Hs) (x : AV) : Option (List AV) := match der h x with
  | .tup xs => some xs
  | _ => none
/-- sorted(t), t a tuple of ints -/
def sortTA (h : Hs) (xs : List AV) : Option (List AV) := match xs with
  | [.tup ys] => (ints? ys).map fun ns => (isort ltI ns).map .int
  | _ => none
theorem call_sortTA {X : Cx} : CallR X (.builtin "sorted") (rF X.K X.mg sortTA) := by
  intro pins s σ H xs us Q I r ⟨G, h, as, c, w, rs, e, q⟩
  unfold sortTA at e
  split at e
  · rename_i ys
    cases rs with
    | cons r1 t =>
      cases t
      cases r1 with
      | @tup _ a vs ha rr =>
        cases e2 : ints? ys with
        | none => rw [e2] at e; cases e
        | some ns =>
          rw [e2] at e
          cases e
          have ey := ints_of e2
          subst ey
          have iv := rr.ints
          subst iv
          have hq : SqT X.K H a (ns.map V.int) := .inl (.inl (w.F _ _ ha))
          obtain ⟨its, rv, hl, hz⟩ := I.tuple hq
          rw [Vals.ref1 r]
          have hi := rv.ints
          refine sorted_tupO SrtO.swo_int hl (by rw [← rv.length]; exact hz) (fun h2 _ _ => SrtO.ints_sortable hi h2) fun h1 out h2 k0 g1 g2 kp ⟨ep, at1⟩ => ?_
          obtain ⟨k1, k2, k3⟩ := SrtO.ints_out hi g1 g2
          have ek : out.map SrtO.iv = isort ltI ns := sd_unique intTot (k2.trans (isort_perm ns).symm) (k3.imp fun h => decide_eq_false (by omega)) (isort_sd intTot _)
          have len : ((out.map SrtO.iv).map V.int).length ≤ sizeLine := by
            rw [List.length_map, k2.length_eq]
            rwa [List.length_map] at hz
          have J0 : Inv X pins σ H { s with heap := h1 } := I.kept (t' := s.toks) k0
          have J := J0.laid (t' := s.toks) kp (Nat.le_refl _) (o := .lst ((out.map SrtO.iv).map V.int)) ⟨len, out, ep, vals_of_ints k1, at1⟩
          rw [ek] at J
          exact ⟨.ref h1.objs.size, _, J, rfl, q G H _ _ (.refl G) w (J0.hok.fresh (Nat.le_refl _)) (Rs.of_ints _)⟩
  · cases e
end Sim

set_option Elab.async false
set_option linter.all false
set_option maxRecDepth 100000
set_option maxHeartbeats 2000000
namespace Sim
open PySem PySem.Spec L2
open PyProof.Rows hiding St
variable [TabT]
/-! SimT2: t[::-1], and sorted(xs, key=lambda y: y[::-1]) of tuples of ints. -/
theorem adjust_rev (n : Nat) : Builtin.Slice.sliceAdjust none none (-1) (n : Int) = ((n : Int) - 1, -1) := by
  unfold Builtin.Slice.sliceAdjust
  simp
theorem places_rev (n : Nat) : Builtin.Slice.slicePlaces ((n : Int) - 1) (-1) (-1) = n := by
  unfold Builtin.Slice.slicePlaces
  have h1 : ¬ ((-1 : Int) > 0) := by decide
  rw [if_neg h1]
  by_cases h : n = 0
  · subst h; rfl
  · rw [if_pos (by omega)]
    have h2 : (- -1 : Int) = 1 := rfl
    rw [h2, Int.ediv_one]
    omega
theorem pick_rev (xs : Array Value) : ((List.range xs.size).filterMap fun (m : Nat) => xs[((xs.size : Int) - 1 + (m : Int) * -1).toNat]?).toArray = xs.toList.reverse.toArray := by
  congr 1
  have e : ∀ m ∈ List.range xs.size, xs[((xs.size : Int) - 1 + (m : Int) * -1).toNat]? = some (xs.toList.reverse[m]?.getD .none) := fun m hm => by
    rw [List.mem_range] at hm
    have h1 : ((xs.size : Int) - 1 + (m : Int) * -1).toNat = xs.size - 1 - m := by omega
    have h2 : m < xs.toList.length := by rw [Array.length_toList]; exact hm
    rw [h1, List.getElem?_reverse h2, Array.length_toList]
    have h3 : xs.size - 1 - m < xs.size := by omega
    rw [Array.getElem?_eq_getElem h3, Array.getElem?_toList, Array.getElem?_eq_getElem h3]
    rfl
  have e2 : ∀ (l : List Nat), (∀ m ∈ l, m ∈ List.range xs.size) → l.filterMap (fun (m : Nat) => xs[((xs.size : Int) - 1 + (m : Int) * -1).toNat]?) = l.map fun m => xs.toList.reverse[m]?.getD .none := by
    intro l hl
    induction l with
    | nil => rfl
    | cons m l ih =>
      rw [List.filterMap_cons, e m (hl m List.mem_cons_self), List.map_cons, ih fun k hk => hl k (List.mem_cons_of_mem _ hk)]
  rw [e2 _ fun m h => h]
  refine List.ext_getElem? fun m => ?_
  rw [List.getElem?_map]
  by_cases h : m < xs.size
  · have hl : m < xs.toList.reverse.length := by rw [List.length_reverse, Array.length_toList]; exact h
    rw [List.getElem?_range h, List.getElem?_eq_getElem hl]
    show some (xs.toList.reverse[m]?.getD Value.none) = _
    rw [List.getElem?_eq_getElem hl]
    rfl
  · rw [List.getElem?_eq_none (by rw [List.length_range]; omega), List.getElem?_eq_none (by rw [List.length_reverse, Array.length_toList]; omega)]
    rfl
section
variable {P : Program} {w : World} {A : Around} {s : Shared} {E : Value → Shared → Prop}
theorem sliceApplied_rev {sl : Addr} {t : Tok} {n : Nat} {Q : Int × Int × Nat → Shared → Prop} (hs : s.heap.IsSliceOf sl .none .none (.int (-1) t)) (h : Q ((n : Int) - 1, -1, n) s) : wpAny (model P w) A (Builtin.Slice.sliceApplied (.ref sl) (pure (n : Int))) Q E s := by
  obtain ⟨os, hos, hcs, hds⟩ := id hs
  unfold Builtin.Slice.sliceApplied Builtin.Slice.sliceFields
  refine wpAny_bind (wpAny_bind (wpAny_field hos hds (x := .none) rfl (wpAny_bind (wpAny_field hos hds (x := .none) rfl (wpAny_bind (wpAny_field hos hds (x := .int (-1) t) rfl (wpAny_pure ?_)))))))
  refine wpAny_bind (HT.slicePart_ (.int (-1) t) ?_)
  show wpAny _ _ (if ((-1 : Int) == 0) = true then _ else _) _ _ s
  rw [if_neg (by decide)]
  refine wpAny_bind (HT.slicePart_ .none (wpAny_bind (HT.slicePart_ .none (wpAny_bind (wpAny_pure ?_)))))
  show wpAny _ _ (match Builtin.Slice.sliceAdjust none none (-1) (n : Int) with | (lo, hi) => pure (lo, (-1 : Int), Builtin.Slice.slicePlaces lo hi (-1))) _ _ s
  rw [adjust_rev]
  show wpAny _ _ (pure ((n : Int) - 1, (-1 : Int), Builtin.Slice.slicePlaces ((n : Int) - 1) (-1) (-1))) _ _ s
  rw [places_rev]
  exact wpAny_pure h
theorem getItem_tup_rev {a sl : Addr} {t : Tok} {xs : Array Value} {Q : Value → Shared → Prop} (ht : IsTup s.heap a xs) (hs : s.heap.IsSliceOf sl .none .none (.int (-1) t)) (hz : xs.size ≤ sizeLine)
    (h : Q (.ref s.heap.objs.size) { s with heap := s.heap.push { cls := .type "tuple", data := .seq xs.toList.reverse.toArray } }) : wpAny (model P w) A (getItem (.ref a) (.ref sl)) Q E s := by
  obtain ⟨os, hos, hcs, hds⟩ := id hs
  have hTs : s.TypeIs (.ref sl) "slice" := ⟨os, hos, hcs⟩
  have fits : sizeOk (.seq xs.toList.reverse.toArray) := by
    show xs.toList.reverse.toArray.size ≤ sizeLine
    rw [List.size_toArray, List.length_reverse, Array.length_toList]
    exact hz
  unfold getItem
  try with_reducible refine wpAny_holding ?_
  first | refine wpAny_bind (wpAny_pure ?_) | skip
  refine wpAny_bind (wpAny_sequenceKey ht.typeIs (by decide) ?_)
  refine wpAny_bind (wpAny_callSpecial?_slot (name := Str.ofString "__getitem__") ht.typeIs PyProof.Rows.slot_tuple_getitem (wpAny_call_entry PyProof.Rows.slot_tuple_getitem ht.typeIs entry_tuple_getitem ?_ (args_tuple_getitem _ _)))
  show wpAny _ _ (Builtin.Tuple.tupleItemsOf (.ref a) >>= _) _ _ s
  refine wpAny_bind (tupleItemsOf_ ht (wpAny_bind (wpAny_typeOf hTs ?_)))
  rw [if_pos (by decide)]
  refine wpAny_bind (sliceApplied_rev hs ?_)
  show wpAny _ _ (if ((xs.size : Int) - 1 == 0 && (-1 : Int) == 1 && xs.size == xs.size) = true then _ else _) _ _ s
  rw [if_neg (by simp), pick_rev]
  first
    | exact wpAny_bind (m := Builtin.Tuple.tupleExact _) (wpAny_newObj_type (wpAny_pure ⟨_, rfl, wpAny_pure h⟩) fits)
    | exact wpAny_bind (m := Builtin.Tuple.tupleExact _) (wpAny_newObj_type (wpAny_bind (wpAny_pure (wpAny_pure ⟨_, rfl, wpAny_pure h⟩))) fits)
    | exact wpAny_bind (wpAny_bind (m := Builtin.Tuple.tupleExact _) (wpAny_newObj_type (wpAny_pure (wpAny_pure ⟨_, rfl, wpAny_pure h⟩)) fits))
    | exact wpAny_bind (wpAny_bind (m := Builtin.Tuple.tupleExact _) (wpAny_newObj_type (wpAny_pure ⟨_, rfl, wpAny_pure h⟩) fits))
end
abbrev revBody (y : Str) (k1 : Nat) (q1 q2 q3 q4 q5 : Pos) : Expr := .Subscript (.Name y q1) (.Slice none none (some (.UnaryOp .USub (.Constant (.int 1) k1 q2) q3)) q4) q5
def kRev (ns : List Int) : PyData := .tuple (ns.reverse.map .int)
theorem ints_rev {us : List Value} {ns : List Int} (i : IntsAre us ns) : IntsAre us.reverse ns.reverse := by
  have app : ∀ {a b : List Value} {c d : List Int}, IntsAre a c → IntsAre b d → IntsAre (a ++ b) (c ++ d) := by
    intro a b c d h
    induction h with
    | nil => intro k; exact k
    | cons n t _ ih => intro k; exact .cons n t (ih k)
  induction i with
  | nil => exact .nil
  | cons n t _ ih =>
    rw [List.reverse_cons, List.reverse_cons]
    exact app ih (.cons n t .nil)
structure KeyS1 (scope : Scope) (y : Str) : Prop where
  kind : scope.kind = .function
  co : scope.isCoroutine = false
  gen : scope.isGenerator = false
  nocell : ∀ z ∈ scope.names, z.2 ≠ .cell
  loc : scope.names.lookup y = some NameKind.local
  nofree : ∀ z ∈ scope.names, z.2 ≠ .free
section
variable {P : Program} {w : World} {A : Around}
theorem rev_body {s : Shared} {env : Env} {E : Value → Shared → Prop} {y : Str} {k1 : Nat} {q1 q2 q3 q4 q5 : Pos} {v : Value} {ns : List Int} {m : Str → Option Value} (hk : env.scope.kind = .function) (hky : env.kindOf y = some .local)
    (hm : s.heap.Ns env.locals m) (hv : m y = some v) (ti : SrtT.TI s.heap v ns) (hz : ns.length ≤ sizeLine) (hd : (y == ("__debug__" : Str)) = false) :
    wpAny (model P w) A (eval (revBody y k1 q1 q2 q3 q4 q5) env) (PySem.W.KeyPure (kRev ns) s) E s := by
  obtain ⟨a, items, rfl, it, ia⟩ := ti
  have hlen : items.size = ns.length := by rw [← ia.length, Array.length_toList]
  refine Subscript_ (wpAny_Name (wpAny_loadName_local hk hky hm hv ?_) hd)
  refine wpAny_Slice ?_
  rw [evalPart_none]
  refine wpAny_pure (wpAny_pure ?_)
  rw [evalPart_some]
  refine UnaryOp_ (wpAny_Constant_int (neg_int ?_))
  have it2 : IsTup (s.heap.push { cls := .type "slice", data := .fields #[.none, .none, .int (-1) (s.toks + 1)] }) a items := by
    obtain ⟨o, h1, h2, n, h3⟩ := it
    exact ⟨o, Heap.get?_push_of_some _ h1, h2, n, h3⟩
  refine tail_any (ops := [.ref a, .ref s.heap.objs.size]) it2.typeIs PyProof.Rows.slot_tuple_getitem.lookup (getItem_tup_rev it2 (t := s.toks + 1) (Heap.IsSliceOf.new ..) (by rw [hlen]; exact hz) ?_) (by with_unfolding_all rfl)
  refine ⟨_, _, rfl, fun b o e => Heap.get?_push_of_some _ (Heap.get?_push_of_some _ e), ?_⟩
  exact Reads.tuple (Heap.get?_push_size _ rfl) rfl rfl (by
    have := reads_ints (h := (s.heap.push { cls := .type "slice", data := .fields #[.none, .none, .int (-1) (s.toks + 1)] }).push { cls := .type "tuple", data := .seq items.toList.reverse.toArray }) (ints_rev ia)
    simpa using this)
end
def ltRev (a b : List Int) : Bool := HT.lexLt a.reverse b.reverse
theorem keyR_rev : KeyR kRev ltRev (fun ns => !ns.isEmpty) where
  tot := ⟨fun x y h => lexTot.asym _ _ h, fun x y z h1 h2 => lexTot.tr _ _ _ h1 h2, fun x y h1 h2 => List.reverse_inj.mp (lexTot.eq _ _ h1 h2)⟩
  dl := fun a b => by
    unfold kRev ltRev
    rw [PySem.W.dataLt_tuple, lex_ints]
  al := fun nss d hd d' hd' => by
    obtain ⟨a, _, rfl⟩ := List.mem_map.mp hd
    obtain ⟨b, _, rfl⟩ := List.mem_map.mp hd'
    show PySem.W.alikeAll _ _ = true
    exact alike_ints _ _
  so := fun nss hn => .inl fun d hd => by
    obtain ⟨ns, h, rfl⟩ := List.mem_map.mp hd
    have := hn ns h
    unfold kRev
    cases hr : ns.reverse with
    | nil =>
      rw [List.reverse_eq_nil_iff] at hr
      rw [hr] at this
      cases this
    | cons x r => exact ⟨.int x, r.map .int, rfl⟩
  dep := fun a => by
    unfold kRev
    simp only [PyData.depth, depth_ints']
    decide
section
variable {X : Cx} {W : WX} {j k : Nat}
theorem lam_rev {pins : List (Addr × Obj)} {s : Shared} {σ : L2.St} {H : Hp} {f c' : Addr} {y : Str} {k1 : Nat} {q1 q2 q3 q4 q5 : Pos} {params : Arguments} {scope : Scope} {cl : List (Str × Addr)} (I : Inv X pins σ H s) (S : KeyS1 scope y) (hr : Room 1 X.A)
    (hf : H f = some (LamO f (X.env.qual ++ "<lambda>") params (revBody y k1 q1 q2 q3 q4 q5) scope cl c')) (hc : H c' = some (LamX.CodeO c' (X.env.qual ++ "<lambda>")))
    (hbind : ∀ (q : Str) (cl : List (Str × Addr)) (pm cv ctv v : Value), bindArgs (PySem.W.kla_fn "<lambda>" q params (revBody y k1 q1 q2 q3 q4 q5) scope cl pm cv ctv) ⟨[v], []⟩ = pure [(y, v)]) (hd : (y == ("__debug__" : Str)) = false) :
    ∀ (u : Value) (ns : List Int), ns.length ≤ sizeLine → SrtT.TI s.heap u ns → ∀ (hh : Heap) (tk : Nat), (∀ b o, s.heap.get? b = some o → hh.get? b = some o) →
      wpAny (model X.prog X.w) X.A.in1.in1 (call (.ref f) [u]) (PySem.W.KeyPure (kRev ns) { s with heap := hh, toks := tk }) (fun _ _ => False) { s with heap := hh, toks := tk } := by
  intro u ns hz ti hh tk kp
  have I3 : Inv X pins σ H { s with heap := hh, toks := tk } := I.kept kp
  obtain ⟨⟨pm, ctv, hfo⟩, _, _⟩ := (show ObjOk X.prog X.w H hh f (LamO f (X.env.qual ++ "<lambda>") params (revBody y k1 q1 q2 q3 q4 q5) scope cl c') from I3.hok f _ hf)
  obtain ⟨⟨oc, vs, t, hoc, hdc, hvc⟩, _, _⟩ := (show ObjOk X.prog X.w H hh c' (LamX.CodeO c' (X.env.qual ++ "<lambda>")) from I3.hok c' _ hc)
  have hdep : X.A.in1.in1.depth < recursionLimit := hr.depth
  refine wpAny_call (PySem.W.kla_callFunE (s := { s with heap := hh, toks := tk }) hdep hfo rfl S.co S.gen rfl ⟨c', oc, vs, t, rfl, hoc, hdc, hvc⟩ ?_)
  rw [hbind]
  refine wpAny_pure (wpAny_newFunctionEnv (fun z hz' => S.nocell z hz') (fun z hz' => ?_) (fun h₁ hns hsb => ⟨I3.nolimit.fresh _ hsb, ?_⟩) S.kind)
  · rcases List.mem_singleton.mp hz' with rfl
    exact S.loc
  have kp1 : ∀ b o, hh.get? b = some o → h₁.get? b = some o := fun b o e => hsb.extBut b o (Nat.ne_of_lt (Heap.lt_size e)) (Heap.get?_push_of_some _ e)
  refine PySem.W.kla_codeExpr (wpAny_mono (rev_body (s := { s with heap := h₁, toks := tk + [(y, u)].length }) (v := u) (ns := ns) S.kind S.loc hns ?_ (ti.keeps fun b o e _ => kp1 b o (kp b o e)) hz hd) (fun v s' hq => ?_) fun e s' hq => hq)
  · show ([(y, u)] : List (Str × Value)).reverse.lookup y = some u
    simp
  · obtain ⟨h', tk', rfl, k2, r⟩ := hq
    exact ⟨h', tk', rfl, fun b o e => k2 b o (kp1 b o e), r⟩
/-- sorted(e, key=lambda y: y[::-1]) -/
theorem pe_sortRev {c P : Addr} {q0 : Str} {e : Expr} {te : TE} {y : Str} {k1 : Nat} {q1 q2 q3 q4 q5 lpos kpos p pos : Pos} {params : Arguments} {scope : Scope} (hc : X.calm = true) (hu : X.A.units + 64 < cLine) (hr : Room 1 X.A) (TB : LamX.TabB X.base X.mg c P) (hcode : X.env.code = .ref c) (hq : X.env.qual = q0)
    (hmT : (P, q0 ++ "<lambda>") ∈ TabT.T) (huT : ∀ p ∈ TabT.T, p.1 = P → p.2 = q0 ++ "<lambda>") (S : KeyS1 scope y) (ms : X.mg "sorted" = none) (he : PE X e te) (hg : Gl X "sorted")
    (hdef : defaultsOf params X.env = ([], [])) (hbind : ∀ (q : Str) (cl : List (Str × Addr)) (pm cv ctv v : Value), bindArgs (PySem.W.kla_fn "<lambda>" q params (revBody y k1 q1 q2 q3 q4 q5) scope cl pm cv ctv) ⟨[v], []⟩ = pure [(y, v)])
    (hd : (y == ("__debug__" : Str)) = false) (hst : starEach [e] X.env = (false, eval e X.env) :: starEach [] X.env) :
    PE X (.Call (.Name "sorted" p) [e] [⟨some "key", .Lambda params (revBody y k1 q1 q2 q3 q4 q5) scope lpos, kpos⟩] pos) (fun σ H Q => te σ H fun v H1 => LamX.Tabs TabT.T H1 ∧ ∀ H2, LamX.ExtN H1 H2 → LamX.Tabs TabT.T H2 → rSortL X ltRev (fun ns => !ns.isEmpty) v H2 Q) := by
  subst hq
  refine ⟨fun pins s σ H Q I h => ?_⟩
  refine wpAny_Call_Name_kw (ld_blt I hg ms (show bootBuiltins ("sorted" : Str) = some (.builtin "sorted") by rfl) ?_)
  have ha : PA X [e] (tCons te tNil) := pa_cons he pa_nil hst
  let Q1 : List V → Hp → Prop := fun vs H1 => match vs with
    | [v] => LamX.Tabs TabT.T H1 ∧ ∀ H2, LamX.ExtN H1 H2 → LamX.Tabs TabT.T H2 → rSortL X ltRev (fun ns => !ns.isEmpty) v H2 Q
    | _ => False
  refine PyProof.Rows.callWith_kw (thn (ha.run pos pins s σ H Q1 I h) fun us s1 ⟨vs, H1, I1, r1, q⟩ => ?_) (by rw [hst]; rfl) (by rw [hst]; rfl) (by rfl) (by rfl)
  cases r1 with
  | nil => exact q.elim
  | @cons v u vs us ru rt =>
    cases rt with
    | cons _ _ => exact q.elim
    | nil =>
      obtain ⟨t1, q⟩ := q
      show wpAny _ _ (evalAll ((do let v ← eval (.Lambda params (revBody y k1 q1 q2 q3 q4 q5) scope lpos) X.env; standAt pos; pure v) :: (backToKw pos (keywordEach [] X.env)).map (·.2))) _ _ s1
      refine wpAny_evalAll_cons (wpAny_bind (lam_make3 I1 TB hcode hmT huT t1 hdef (fun z hz e => absurd e (S.nofree z hz)) fun f c' H2 s2 I2 eN t2 hf hc' => wpAny_bind (wpAny_standAt (wpAny_pure ?_))))
      refine wpAny_evalAll_nil ?_
      show wpAny _ _ (call (.builtin "sorted") [u] [(Str.ofString "key", .ref f)]) _ _ _
      exact sort_run keyR_rev hu I2 ru (q H2 eN t2) (lam_rev I2 S hr hf hc' hbind hd)
/-- what sorting by the key gives, told of contents -/
def sortRevA (h : Hs) (x : AV) : Option (List AV) := (lstOf h x).bind fun ys => (tups? ys).bind fun nss => if nss.all (fun ns => decide (ns.length ≤ sizeLine) && !ns.isEmpty) then some ((isort ltRev nss).map tupA) else none
def mSortRev (m : EM AV) : EM (List AV) := fun env => (m env).bnd fun x => rd fun h => sortRevA h x
theorem sf_sortRev {c P : Addr} {q0 : Str} {e : Expr} {m : EM AV} {y : Str} {k1 : Nat} {q1 q2 q3 q4 q5 lpos kpos p pos : Pos} {params : Arguments} {scope : Scope} (O : Ok X W j) (hj : 1 ≤ j) (TB : LamX.TabB X.base X.mg c P) (hcode : X.env.code = .ref c) (hq : X.env.qual = q0)
    (hmT : (P, q0 ++ "<lambda>") ∈ TabT.T) (huT : ∀ p ∈ TabT.T, p.1 = P → p.2 = q0 ++ "<lambda>") (S : KeyS1 scope y) (ms : X.mg "sorted" = none) (he : SE X W e m) (hg : Gl X "sorted" := by rfl)
    (hdef : defaultsOf params X.env = ([], []) := by rfl) (hbind : ∀ (q : Str) (cl : List (Str × Addr)) (pm cv ctv v : Value), bindArgs (PySem.W.kla_fn "<lambda>" q params (revBody y k1 q1 q2 q3 q4 q5) scope cl pm cv ctv) ⟨[v], []⟩ = pure [(y, v)] := by intros; rfl)
    (hd : (y == ("__debug__" : Str)) = false := by decide) (hst : starEach [e] X.env = (false, eval e X.env) :: starEach [] X.env := by rfl) :
    SF X W (.Call (.Name "sorted" p) [e] [⟨some "key", .Lambda params (revBody y k1 q1 q2 q3 q4 q5) scope lpos, kpos⟩] pos) (mSortRev m) := by
  refine ⟨(pe_sortRev O.calm O.u64 (O.hr.mono hj) TB hcode hq hmT huT S ms he.pe hg hdef hbind hd hst).weak fun σ H Q ⟨G, h, env, w, re, p⟩ => ⟨G, h, env, w, re, post_bnd (postSF p) fun x h1 G1 H1 v l1 w1 rx p1 => ⟨w1.tb.T, fun H2 eN t2 => ?_⟩⟩⟩
  obtain ⟨ys, e1, q⟩ := post_rd p1
  unfold sortRevA at e1
  cases e2 : lstOf h1 x with
  | none => rw [e2] at e1; cases e1
  | some zs =>
    rw [e2] at e1
    have e1' : ((tups? zs).bind fun nss => if nss.all (fun ns => decide (ns.length ≤ sizeLine) && !ns.isEmpty) then some ((isort ltRev nss).map tupA) else none) = some ys := e1
    cases e3 : tups? zs with
    | none => rw [e3] at e1'; cases e1'
    | some nss =>
      rw [e3] at e1'
      have e1'' : (if nss.all (fun ns => decide (ns.length ≤ sizeLine) && !ns.isEmpty) then some ((isort ltRev nss).map tupA) else none) = some ys := e1'
      split at e1''
      · rename_i hs
        cases e1''
        have w2 := w1.extN eN t2
        obtain ⟨a, vs, rfl, rs, hH⟩ := rx.lstOf w2 e2
        rw [tups_of e3] at rs
        exact ⟨G1, h1, nss, a, vs, w2, rs, rfl, .inl (.inl hH), fun ns hn => by
          have := List.all_eq_true.mp hs ns hn
          rw [Bool.and_eq_true, decide_eq_true_iff] at this
          exact this, fun G' H' p ws' l w' hp rs' => q G' H' ws' l w' rs' p hp⟩
      · cases e1''
end
end Sim

set_option Elab.async false
set_option linter.all false
set_option maxRecDepth 100000
set_option maxHeartbeats 2000000
/-! SimS: what the M-code computes, in plain Lean. -/
namespace Sim
open PySem L2
theorem eqA_int {h : Hs} {a b : Int} : eqA h (.int a) (.int b) = some (.bl (decide (a = b))) := rfl
theorem neA_int {h : Hs} {a b : Int} : neA h (.int a) (.int b) = some (.bl (!decide (a = b))) := rfl
theorem ltA_int {h : Hs} {a b : Int} : ltA h (.int a) (.int b) = some (.bl (decide (a < b))) := rfl
theorem leA_int {h : Hs} {a b : Int} : leA h (.int a) (.int b) = some (.bl (decide (a ≤ b))) := rfl
theorem gtA_int {h : Hs} {a b : Int} : gtA h (.int a) (.int b) = some (.bl (decide (b < a))) := rfl
theorem geA_int {h : Hs} {a b : Int} : geA h (.int a) (.int b) = some (.bl (decide (b ≤ a))) := rfl
theorem addA_int {h : Hs} {a b : Int} : addA h (.int a) (.int b) = some (.int (a + b)) := rfl
theorem subA_int {h : Hs} {a b : Int} : subA h (.int a) (.int b) = some (.int (a - b)) := rfl
theorem negA_int {h : Hs} {a : Int} : negA h (.int a) = some (.int (-a)) := rfl
theorem intA_int {h : Hs} {a : Int} : intA h [.int a] = some (.int a) := rfl
theorem isTrue {h : Hs} {b : Bool} : isNA h (.bl b) (.bl true) = some (.bl b) := by cases b <;> rfl
theorem isNotTrue {h : Hs} {b : Bool} : notNA h (.bl b) (.bl true) = some (.bl (!b)) := by cases b <;> rfl
theorem mulA_r {h : Hs} {a b : Int} (hb : -(2 ^ 64) < b ∧ b < 2 ^ 64) : mulA h (.int a) (.int b) = some (.int (a * b)) := by
  unfold mulA; dsimp only; rw [if_pos]; unfold fits; rw [lg_mk (k := 64) (by decide) hb.1 hb.2, Bool.or_true]
theorem mulA_l {h : Hs} {a b : Int} (hb : -(2 ^ 64) < a ∧ a < 2 ^ 64) : mulA h (.int a) (.int b) = some (.int (a * b)) := by
  unfold mulA; dsimp only; rw [if_pos]; unfold fits; rw [lg_mk (k := 64) (by decide) hb.1 hb.2, Bool.true_or]
theorem modA_int {h : Hs} {a b : Int} (hb : 0 < b) : modA h (.int a) (.int b) = some (.int (a % b)) := by unfold modA; dsimp only; rw [if_pos hb]
theorem lg_9000 {b : Int} (h : b.natAbs < 1073741824) : lg b 9000 = true := by
  refine (lg_abs (k := 9000) (by decide)).mpr (Nat.lt_of_lt_of_le (m := 2 ^ 30) h ?_)
  exact Nat.pow_le_pow_right (by decide) (by decide)
theorem fdivA_int {h : Hs} {a b : Int} (hb : 0 < b) (h2 : b < 1073741824) : fdivA h (.int a) (.int b) = some (.int (a / b)) := by unfold fdivA; dsimp only; rw [if_pos ⟨hb, lg_9000 (by omega)⟩]
theorem lenA_lst {h : Hs} {xs : List AV} : lenA h [.lst xs] = some (.int xs.length) := rfl
theorem lenA_tup {h : Hs} {xs : List AV} : lenA h [.tup xs] = some (.int xs.length) := rfl
theorem atI_pos {xs : List AV} {j : Int} {a : AV} (h0 : 0 ≤ j) (e : xs[j.toNat]? = some a) : L2.atI xs j = some a := by
  have hl := (List.getElem?_eq_some_iff.mp e).1
  unfold L2.atI L2.ixN
  rw [if_pos h0, if_pos (by omega)]
  exact e
theorem ixA_lst {h : Hs} {xs : List AV} {j : Int} {a : AV} (h0 : 0 ≤ j) (e : xs[j.toNat]? = some a) : ixA h (.lst xs) (.int j) = some a := atI_pos h0 e
theorem ixA_tup {h : Hs} {xs : List AV} {j : Int} {a : AV} (h0 : 0 ≤ j) (e : xs[j.toNat]? = some a) : ixA h (.tup xs) (.int j) = some a := atI_pos h0 e
theorem p18 {h : Hs} : powA h (.int 10) (.int 18) = some (.int (10 ^ 18)) := rfl
theorem p6 {h : Hs} : powA h (.int 10) (.int 6) = some (.int 1000000) := rfl
theorem maxA_int {h : Hs} {a b : Int} : maxA h [.int a, .int b] = some (.int (if a < b then b else a)) ∨ True := .inr trivial
/-! ### calls -/
theorem callP_ok {n : Nat} {m : FM} {avs : List AV} {v : AV} {h h' : Hs} (e : m avs [] = .ok v h') (hn : avs.length = n) (h1 : noCs avs = true) (h2 : noC v = true) : callP n m avs h = .ok v h := by
  unfold callP
  rw [if_pos ⟨hn, h1⟩, e]
  dsimp only
  rw [if_pos h2]
theorem callP_exc {n : Nat} {m : FM} {avs : List AV} {c : Str} {h h' : Hs} (e : m avs [] = .exc c [] h') (hn : avs.length = n) (h1 : noCs avs = true) : callP n m avs h = .exc c [] h := by
  unfold callP
  rw [if_pos ⟨hn, h1⟩, e]
  dsimp only
  rw [if_pos (by rfl)]
theorem callH_ok {n : Nat} {m : FM} {i : Nat} {avs : List AV} {c c' : Cell} {v : AV} {h r : Hs} (hc : h[i]? = some c) (e : m (.cell 0 :: avs) [c] = .ok v (c' :: r)) (hn : avs.length + 1 = n) (h1 : noCs avs = true) (h2 : noCC c = true) (h3 : noC v = true) (h4 : noCC c' = true) :
    callH n m (.cell i :: avs) h = .ok v (h.set i c') := by
  unfold callH
  dsimp only
  rw [hc]
  dsimp only
  rw [if_pos ⟨hn, h1, h2⟩, e]
  dsimp only
  rw [h3, h4]
  rfl
theorem noCs_map {α : Type} {f : α → AV} (hf : ∀ x, noC (f x) = true) : ∀ xs : List α, noCs (xs.map f) = true
  | [] => rfl
  | x :: xs => by rw [List.map_cons, noCs, hf, noCs_map hf xs]; rfl
theorem noCs_all {xs : List AV} (h : ∀ x ∈ xs, noC x = true) : noCs xs = true := by
  induction xs with
  | nil => rfl
  | cons x xs ih => rw [noCs, h x List.mem_cons_self, ih fun y hy => h y (List.mem_cons_of_mem _ hy)]; rfl
theorem noCs_mem {xs : List AV} (h : noCs xs = true) {x : AV} (hx : x ∈ xs) : noC x = true := by
  induction xs with
  | nil => cases hx
  | cons y ys ih =>
    rw [noCs, Bool.and_eq_true] at h
    rcases List.mem_cons.mp hx with e | e
    · rw [e]; exact h.1
    · exact ih h.2 e
/-! ### comprehensions -/
theorem noexc_ok {α : Type} {m : M α} {h : Hs} {a : α} {h' : Hs} (e : m h = .ok a h') : noexc m h = .ok a h' := by unfold noexc; rw [e]
theorem lcL_pure {g : GT} {t : EM Bool} {e : EM AV} {env : AEnv} {h : Hs} {p : AV → Bool} {f : AV → AV} : ∀ {xs : List AV}, (∀ x ∈ xs, ∃ e', g x env = some e' ∧ t e' h = .ok (p x) h ∧ (p x = true → e e' h = .ok (f x) h)) → lcL g t e env xs h = .ok ((xs.filter p).map f) h
  | [], _ => rfl
  | x :: xs, hx => by
    obtain ⟨e', h1, h2, h3⟩ := hx x List.mem_cons_self
    have ih := lcL_pure (xs := xs) fun y hy => hx y (List.mem_cons_of_mem _ hy)
    unfold lcL
    rw [h1]
    dsimp only [M.bnd]
    rw [noexc_ok h2]
    dsimp only
    cases hp : p x with
    | true =>
      rw [if_pos rfl]
      dsimp only [M.bnd]
      rw [noexc_ok (h3 hp)]
      dsimp only
      rw [ih]
      dsimp only [M.ret]
      rw [List.filter_cons_of_pos hp, List.map_cons]
    | false =>
      rw [if_neg (by decide), ih, List.filter_cons_of_neg (by rw [hp]; decide)]
theorem lcL_map {g : GT} {e : EM AV} {env : AEnv} {h : Hs} {f : AV → AV} {xs : List AV} (hx : ∀ x ∈ xs, ∃ e', g x env = some e' ∧ e e' h = .ok (f x) h) : lcL g mYes e env xs h = .ok (xs.map f) h := by
  have := lcL_pure (g := g) (t := mYes) (e := e) (env := env) (h := h) (p := fun _ => true) (f := f) (xs := xs) fun x hx' => by
    obtain ⟨e', h1, h2⟩ := hx x hx'
    exact ⟨e', h1, rfl, fun _ => h2⟩
  rw [this, List.filter_eq_self.mpr fun _ _ => rfl]
theorem mLc_ok {vs : List Nat} {mi : EM (List AV)} {g : GT} {t : EM Bool} {e : EM AV} {env : AEnv} {h h1 h2 : Hs} {xs ys : List AV} (hi : mi env h = .ok xs h1) (hs : xs.length ≤ sizeLine) (hl : lcL g t e (wipeE env vs) xs h1 = .ok ys h2) : mLc vs mi g t e env h = .ok ys h2 := by
  unfold mLc M.bnd
  rw [hi]
  dsimp only
  rw [if_pos (show small xs = true from decide_eq_true hs)]
  exact hl
theorem lcC_pure {g : GT} {t : EM Bool} {e : EM AV} {env : AEnv} {n : Nat} {h : Hs} {ys : List AV} (hc : contL h n = some ys) {p : AV → Bool} {f : AV → AV} (hx : ∀ x ∈ ys, ∃ e', g x env = some e' ∧ t e' h = .ok (p x) h ∧ (p x = true → e e' h = .ok (f x) h)) :
    ∀ (k i : Nat), i + k = ys.length → lcC g t e env n k i h = .ok (((ys.drop i).filter p).map f) h
  | 0, i, hi => by
    unfold lcC
    rw [hc]
    dsimp only
    rw [if_pos (by omega), List.drop_of_length_le (by omega)]
    rfl
  | k + 1, i, hi => by
    have hlt : i < ys.length := by omega
    obtain ⟨e', h1, h2, h3⟩ := hx ys[i] (List.getElem_mem hlt)
    have ih := lcC_pure (g := g) (t := t) (e := e) (env := env) hc hx k (i + 1) (by omega)
    unfold lcC
    rw [hc]
    dsimp only
    rw [List.getElem?_eq_getElem hlt]
    dsimp only
    rw [h1]
    dsimp only [M.bnd]
    rw [noexc_ok h2]
    dsimp only
    rw [List.drop_eq_getElem_cons hlt]
    cases hp : p ys[i] with
    | true =>
      rw [if_pos rfl]
      dsimp only [M.bnd]
      rw [noexc_ok (h3 hp)]
      dsimp only
      rw [ih]
      dsimp only [M.ret]
      rw [List.filter_cons_of_pos hp, List.map_cons]
    | false =>
      rw [if_neg (by decide), ih, List.filter_cons_of_neg (by rw [hp]; decide)]
theorem mLcC_ok {vs : List Nat} {mi : EM AV} {g : GT} {t : EM Bool} {e : EM AV} {env : AEnv} {n : Nat} {h h1 h2 : Hs} {ys zs : List AV} (hi : mi env h = .ok (.cell n) h1) (hc : contL h1 n = some ys) (hs : ys.length ≤ sizeLine) (hl : lcC g t e (wipeE env vs) n ys.length 0 h1 = .ok zs h2) : mLcC vs mi g t e env h = .ok zs h2 := by
  unfold mLcC M.bnd
  rw [hi]
  dsimp only
  rw [hc]
  dsimp only
  rw [if_pos (show small ys = true from decide_eq_true hs)]
  exact hl
/-- a comprehension whose elements change the store: what each makes is good -/
theorem lcL_inv {g : GT} {e : EM AV} {env : AEnv} (I : Hs → Prop) (P : AV → Prop) : ∀ {xs : List AV} {h : Hs}, (∀ x ∈ xs, ∀ h, I h → ∃ e' v h', g x env = some e' ∧ e e' h = .ok v h' ∧ P v ∧ I h') → I h → ∃ vs h', lcL g mYes e env xs h = .ok vs h' ∧ vs.length = xs.length ∧ (∀ v ∈ vs, P v) ∧ I h'
  | [], h, _, hi => ⟨[], h, rfl, rfl, (fun _ hv => nomatch hv), hi⟩
  | x :: xs, h, hx, hi => by
    obtain ⟨e', v, h1, q1, q2, q3, q4⟩ := hx x List.mem_cons_self h hi
    obtain ⟨vs, h2, r1, r2, r3, r4⟩ := lcL_inv I P (xs := xs) (h := h1) (fun y hy => hx y (List.mem_cons_of_mem _ hy)) q4
    refine ⟨v :: vs, h2, ?_, by rw [List.length_cons, List.length_cons, r2], fun u hu => ?_, r4⟩
    · unfold lcL
      rw [q1]
      dsimp only [M.bnd]
      rw [noexc_ok (show mYes e' h = .ok true h from rfl)]
      dsimp only
      rw [if_pos rfl]
      dsimp only [M.bnd]
      rw [noexc_ok q2]
      dsimp only
      rw [r1]
      rfl
    · rcases List.mem_cons.mp hu with z | z
      · rw [z]; exact q3
      · exact r3 u z
/-! ### loops -/
theorem sForL_inv {g : GT} {b : SM} (I : Nat → AEnv → Hs → Prop) (R : AV → Hs → Prop) : ∀ {xs : List AV} {i : Nat} {env : AEnv} {h : Hs},
    (∀ j x env h, xs[j]? = some x → I (i + j) env h → ∃ e', g x env = some e' ∧ ((∃ e2 h2, (b e' h = .nx e2 h2 ∨ b e' h = .ct e2 h2) ∧ I (i + j + 1) e2 h2) ∨ ∃ v h2, b e' h = .rt v h2 ∧ R v h2)) → I i env h →
    (∃ e2 h2, sForL g b xs env h = .nx e2 h2 ∧ I (i + xs.length) e2 h2) ∨ ∃ v h2, sForL g b xs env h = .rt v h2 ∧ R v h2
  | [], i, env, h, _, hi => .inl ⟨env, h, rfl, hi⟩
  | x :: xs, i, env, h, hx, hi => by
    obtain ⟨e', q1, q2⟩ := hx 0 x env h rfl hi
    rcases q2 with ⟨e2, h2, q3, q4⟩ | ⟨v, h2, q3, q4⟩
    · have ih := sForL_inv (g := g) (b := b) I R (xs := xs) (i := i + 1) (env := e2) (h := h2) (fun j y env h e hI => by
        have := hx (j + 1) y env h (by simpa using e) (by rw [show i + (j + 1) = i + 1 + j by omega]; exact hI)
        rw [show i + (j + 1) + 1 = i + 1 + j + 1 by omega] at this
        exact this) q4
      rw [show i + (x :: xs).length = i + 1 + xs.length by rw [List.length_cons]; omega]
      have st : sForL g b (x :: xs) env h = sForL g b xs e2 h2 := by
        rw [sForL]
        dsimp only
        rw [q1]
        dsimp only
        rcases q3 with q3 | q3 <;> rw [q3]
      rw [st]
      exact ih
    · refine .inr ⟨v, h2, ?_, q4⟩
      rw [sForL]
      dsimp only
      rw [q1]
      dsimp only
      rw [q3]
theorem sForL_all {g : GT} {b : SM} (I : Nat → AEnv → Hs → Prop) {xs : List AV} {env : AEnv} {h : Hs}
    (hx : ∀ j x env h, xs[j]? = some x → I j env h → ∃ e', g x env = some e' ∧ ∃ e2 h2, (b e' h = .nx e2 h2 ∨ b e' h = .ct e2 h2) ∧ I (j + 1) e2 h2) (hi : I 0 env h) :
    ∃ e2 h2, sForL g b xs env h = .nx e2 h2 ∧ I xs.length e2 h2 := by
  rcases sForL_inv (g := g) (b := b) I (fun _ _ => False) (xs := xs) (i := 0) (env := env) (h := h) (fun j x env h e hI => by
    rw [Nat.zero_add] at hI ⊢
    obtain ⟨e', q1, q2⟩ := hx j x env h e hI
    exact ⟨e', q1, .inl q2⟩) hi with q | ⟨_, _, _, z⟩
  · rw [Nat.zero_add] at q; exact q
  · exact z.elim
theorem sWhile_inv {t : EM Bool} {b : SM} (I : Nat → AEnv → Hs → Prop) (Q : AEnv → Hs → Prop) (step : ∀ m env h, I m env h → (∃ h', t env h = .ok false h' ∧ Q env h') ∨ (∃ h1, t env h = .ok true h1 ∧ ∃ e2 h2 m', (b env h1 = .nx e2 h2 ∨ b env h1 = .ct e2 h2) ∧ I m' e2 h2 ∧ m' < m)) :
    ∀ (n m : Nat) (env : AEnv) (h : Hs), I m env h → m < n → ∃ e2 h2, sWhile n t b env h = .nx e2 h2 ∧ Q e2 h2
  | 0, m, _, _, _, hn => absurd hn (Nat.not_lt_zero _)
  | n + 1, m, env, h, hi, hn => by
    rcases step m env h hi with ⟨h', e, q⟩ | ⟨h1, e, e2, h2, m', r, i2, l⟩
    · refine ⟨env, h', ?_, q⟩
      unfold sWhile sThen
      rw [e]
      rfl
    · obtain ⟨e3, h3, r3, q3⟩ := sWhile_inv I Q step n m' e2 h2 i2 (by omega)
      refine ⟨e3, h3, ?_, q3⟩
      unfold sWhile sThen
      rw [e]
      dsimp only
      rw [if_pos rfl]
      rcases r with r | r <;> (rw [r]; exact r3)
theorem rngL_len (a b : Int) : (rngL a b).length = (b - a).toNat := by unfold rngL; simp
theorem rngL_get {a b : Int} {j : Nat} {x : AV} (e : (rngL a b)[j]? = some x) : x = .int (a + j) ∧ a + j < b := by
  have hl := (List.getElem?_eq_some_iff.mp e).1
  rw [rngL_len] at hl
  unfold rngL at e
  rw [List.getElem?_map, List.getElem?_range hl] at e
  cases e
  exact ⟨rfl, by omega⟩
end Sim

set_option Elab.async false
set_option linter.all false
set_option maxRecDepth 100000
set_option maxHeartbeats 2000000
/-! SimS2: tuples of ints, in M-code. -/
namespace Sim
open PySem L2
abbrev intsA (ns : List Int) : List AV := ns.map .int
theorem dats_len : ∀ xs : List AV, (dats xs).length = xs.length
  | [] => rfl
  | x :: xs => by rw [dats, List.length_cons, List.length_cons, dats_len xs]
theorem lay_ints : ∀ ns : List Int, PyData.canLayAll0 (dats (ns.map .int)) = true
  | [] => rfl
  | n :: ns => by rw [List.map_cons, dats, PyData.canLayAll0, lay_ints ns]; rfl
theorem depth_ints : ∀ ns : List Int, PyData.depthAll (dats (ns.map .int)) = 0
  | [] => rfl
  | n :: ns => by rw [List.map_cons, dats, PyData.depthAll, depth_ints ns]; rfl
theorem dat_tup (ns : List Int) : dat (tupA ns) = .tuple (dats (ns.map .int)) := rfl
theorem shaped_int (i : Int) : SeqAt.shaped (dat (.int i)) = true := rfl
theorem shaped_tup (ns : List Int) : SeqAt.shaped (dat (tupA ns)) = true := by
  rw [dat_tup]
  unfold SeqAt.shaped
  rw [PyData.canLay0, lay_ints, PyData.depth, depth_ints]
  rfl
theorem lay_tups : ∀ nss : List (List Int), PyData.canLayAll0 (dats (nss.map tupA)) = true
  | [] => rfl
  | n :: ns => by rw [List.map_cons, dats, PyData.canLayAll0, lay_tups ns, dat_tup, PyData.canLay0, lay_ints]; rfl
theorem depth_tups : ∀ nss : List (List Int), PyData.depthAll (dats (nss.map tupA)) ≤ 1
  | [] => Nat.zero_le _
  | n :: ns => by
    rw [List.map_cons, dats, PyData.depthAll, dat_tup, PyData.depth, depth_ints]
    exact Nat.max_le.mpr ⟨Nat.le_refl _, depth_tups ns⟩
theorem shaped_lst_tups (nss : List (List Int)) : SeqAt.shaped (dat (.lst (nss.map tupA))) = true := by
  show SeqAt.shaped (.list (dats (nss.map tupA))) = true
  unfold SeqAt.shaped
  rw [PyData.canLay0, lay_tups, PyData.depth, Bool.true_and]
  have := depth_tups nss
  exact decide_eq_true (by omega)
theorem eqv_int (a b : Int) : PyData.eqv (dat (.int a)) (dat (.int b)) = decide (a = b) := by
  show (a == b) = _
  by_cases h : a = b
  · rw [h, decide_eq_true rfl]; exact beq_self_eq_true b
  · rw [decide_eq_false h]; exact beq_eq_false_iff_ne.mpr h
theorem eqvAll_ints : ∀ a b : List Int, PyData.eqvAll (dats (a.map .int)) (dats (b.map .int)) = decide (a = b)
  | [], [] => rfl
  | [], _ :: _ => rfl
  | _ :: _, [] => rfl
  | x :: xs, y :: ys => by
    rw [List.map_cons, List.map_cons, dats, dats, PyData.eqvAll, eqvAll_ints xs ys, eqv_int]
    by_cases h : x = y
    · subst h
      simp
    · simp [h]
theorem eqv_tup (a b : List Int) : PyData.eqv (dat (tupA a)) (dat (tupA b)) = decide (a = b) := by
  rw [dat_tup, dat_tup, PyData.eqv, eqvAll_ints]
theorem any_ints (p : Int) : ∀ d : List Int, ((dats (d.map .int)).any fun z => PyData.eqv z (dat (.int p))) = d.contains p
  | [] => rfl
  | x :: xs => by
    rw [List.map_cons, dats, List.any_cons, any_ints p xs, List.contains_cons, eqv_int]
    congr 1
    by_cases h : x = p
    · subst h; simp
    · rw [decide_eq_false h]; exact (beq_eq_false_iff_ne.mpr (Ne.symm h)).symm
theorem inA_tup {h : Hs} {p : Int} {d : List Int} : inA h (.int p) (tupA d) = some (.bl (d.contains p)) := by
  have e : inB h (.int p) (tupA d) = some (d.contains p) := by
    unfold inB tupA
    show (if SeqAt.shaped (dat (.int p)) = true ∧ SeqAt.shaped (dat (tupA d)) = true then (some (d.map AV.int)).map (fun ys => (dats ys).any fun z => PyData.eqv z (dat (.int p))) else none) = _
    rw [if_pos ⟨rfl, shaped_tup d⟩, Option.map_some, any_ints]
  unfold inA
  rw [e]
  rfl
theorem any_tups (p : List Int) : ∀ d : List (List Int), ((dats (d.map tupA)).any fun z => PyData.eqv z (dat (tupA p))) = d.contains p
  | [] => rfl
  | x :: xs => by
    rw [List.map_cons, dats, List.any_cons, any_tups p xs, List.contains_cons, eqv_tup]
    congr 1
    by_cases h : x = p
    · subst h; simp
    · rw [decide_eq_false h]; exact (beq_eq_false_iff_ne.mpr (Ne.symm h)).symm
/-- a tuple in a live list of tuples -/
theorem notInA_cell {h : Hs} {n : Nat} {p : List Int} {d : List (List Int)} (e : h[n]? = some (.lst (d.map tupA))) : notInA h (tupA p) (.cell n) = some (.bl (!d.contains p)) := by
  have ed : der h (.cell n) = .lst (d.map tupA) := by unfold der; dsimp only; rw [e]
  have e : inB h (tupA p) (.cell n) = some (d.contains p) := by
    unfold inB
    dsimp only
    rw [ed, if_pos ⟨shaped_tup p, shaped_lst_tups d⟩]
    unfold seqOf
    rw [ed]
    show some ((dats (d.map tupA)).any fun z => PyData.eqv z (dat (tupA p))) = _
    rw [any_tups]
  unfold notInA
  rw [e]
  rfl
theorem bls_map2 : ∀ (ns : List Bool), bls? (ns.map AV.bl) = some ns
  | [] => rfl
  | n :: ns => by rw [List.map_cons, bls?, bls_map2 ns]; rfl
theorem anyA_bls {h : Hs} {bs : List Bool} : anyA h [.lst (bs.map .bl)] = some (.bl (bs.any id)) := by
  unfold anyA
  show ((bls? (bs.map .bl)).map fun ns => AV.bl (ns.any id)) = _
  rw [bls_map2]
  rfl
theorem allA_bls {h : Hs} {bs : List Bool} : allA h [.lst (bs.map .bl)] = some (.bl (bs.all id)) := by
  unfold allA
  show ((bls? (bs.map .bl)).map fun ns => AV.bl (ns.all id)) = _
  rw [bls_map2]
  rfl
end Sim

set_option Elab.async false
set_option linter.all false
set_option maxRecDepth 100000
set_option maxHeartbeats 2000000
/-! SimS3: more of what the M-code computes. -/
namespace Sim
open PySem L2
theorem lcL_j {α : Type} {g : GT} {t : EM Bool} {e : EM AV} {env : AEnv} {h : Hs} (j : α → AV) (p : α → Bool) (f : α → AV) : ∀ (xs : List α), (∀ x ∈ xs, ∃ e', g (j x) env = some e' ∧ t e' h = .ok (p x) h ∧ (p x = true → e e' h = .ok (f x) h)) → lcL g t e env (xs.map j) h = .ok ((xs.filter p).map f) h
  | [], _ => rfl
  | x :: xs, hx => by
    obtain ⟨e', h1, h2, h3⟩ := hx x List.mem_cons_self
    have ih := lcL_j j p f xs fun y hy => hx y (List.mem_cons_of_mem _ hy)
    rw [List.map_cons]
    unfold lcL
    rw [h1]
    dsimp only [M.bnd]
    rw [noexc_ok h2]
    dsimp only
    cases hp : p x with
    | true =>
      rw [if_pos rfl]
      dsimp only [M.bnd]
      rw [noexc_ok (h3 hp)]
      dsimp only
      rw [ih]
      dsimp only [M.ret]
      rw [List.filter_cons_of_pos hp, List.map_cons]
    | false =>
      rw [if_neg (by decide), ih, List.filter_cons_of_neg (by rw [hp]; decide)]
theorem mLc_jf {α : Type} {vs : List Nat} {mi : EM (List AV)} {g : GT} {t : EM Bool} {e : EM AV} {env : AEnv} {h h' : Hs} {xs : List α} (j : α → AV) (p : α → Bool) (f : α → AV) (hi : mi env h = .ok (xs.map j) h') (hs : xs.length ≤ sizeLine)
    (hx : ∀ x ∈ xs, ∃ e', g (j x) (wipeE env vs) = some e' ∧ t e' h' = .ok (p x) h' ∧ (p x = true → e e' h' = .ok (f x) h')) : mLc vs mi g t e env h = .ok ((xs.filter p).map f) h' :=
  mLc_ok hi (by rw [List.length_map]; exact hs) (lcL_j j p f xs hx)
theorem mLc_jm {α : Type} {vs : List Nat} {mi : EM (List AV)} {g : GT} {e : EM AV} {env : AEnv} {h h' : Hs} {xs : List α} (j : α → AV) (f : α → AV) (hi : mi env h = .ok (xs.map j) h') (hs : xs.length ≤ sizeLine)
    (hx : ∀ x ∈ xs, ∃ e', g (j x) (wipeE env vs) = some e' ∧ e e' h' = .ok (f x) h') : mLc vs mi g mYes e env h = .ok (xs.map f) h' := by
  have q := mLc_jf (t := mYes) (e := e) j (fun _ => true) f hi hs fun x hx' => by
    obtain ⟨e', a, b⟩ := hx x hx'
    exact ⟨e', a, rfl, fun _ => b⟩
  rw [List.filter_eq_self.mpr fun _ _ => rfl] at q
  exact q
theorem dcL_j {α : Type} {g : GT} {ek ev : EM AV} {env : AEnv} {h : Hs} (j : α → AV) (k : α → Key) (v : α → AV) : ∀ (xs : List α) (acc : List (Key × AV)), (∀ x ∈ xs, ∃ e', g (j x) env = some e' ∧ ek e' h = .ok (kA (k x)) h ∧ ev e' h = .ok (v x) h) →
    dcL g mYes ek ev env acc (xs.map j) h = .ok (xs.foldl (fun a x => putG a (k x) (v x)) acc) h
  | [], acc, _ => rfl
  | x :: xs, acc, hx => by
    obtain ⟨e', h1, h2, h3⟩ := hx x List.mem_cons_self
    have ih := dcL_j j k v xs (putG acc (k x) (v x)) fun y hy => hx y (List.mem_cons_of_mem _ hy)
    rw [List.map_cons, List.foldl_cons]
    unfold dcL
    rw [h1]
    dsimp only [M.bnd]
    rw [noexc_ok (show mYes e' h = .ok true h from rfl)]
    dsimp only
    rw [if_pos rfl]
    dsimp only [M.bnd]
    rw [noexc_ok h2]
    dsimp only
    rw [noexc_ok h3]
    dsimp only
    have : keyA? (kA (k x)) = some (k x) := by cases k x <;> rfl
    rw [this]
    exact ih
theorem mDc_j {α : Type} {vs : List Nat} {mi : EM (List AV)} {g : GT} {ek ev : EM AV} {env : AEnv} {h h' : Hs} {xs : List α} (j : α → AV) (k : α → Key) (v : α → AV) (hi : mi env h = .ok (xs.map j) h') (hs : xs.length ≤ sizeLine)
    (hx : ∀ x ∈ xs, ∃ e', g (j x) (wipeE env vs) = some e' ∧ ek e' h' = .ok (kA (k x)) h' ∧ ev e' h' = .ok (v x) h') : mDc vs mi g mYes ek ev env h = .ok (xs.foldl (fun a x => putG a (k x) (v x)) []) h' := by
  unfold mDc M.bnd
  rw [hi]
  dsimp only
  rw [if_pos (show small (xs.map j) = true from decide_eq_true (by rw [List.length_map]; exact hs))]
  exact dcL_j j k v xs [] hx
theorem putG_keys {κ β : Type} [DecidableEq κ] (kvs : List (κ × β)) (k : κ) (v : β) : (putG kvs k v).map (·.1) = if k ∈ kvs.map (·.1) then kvs.map (·.1) else kvs.map (·.1) ++ [k] := by
  unfold putG
  have e : (kvs.any fun kv => decide (kv.1 = k)) = decide (k ∈ kvs.map (·.1)) := by
    rw [Bool.eq_iff_iff, List.any_eq_true, decide_eq_true_iff, List.mem_map]
    constructor
    · rintro ⟨x, h1, h2⟩; exact ⟨x, h1, of_decide_eq_true h2⟩
    · rintro ⟨x, h1, h2⟩; exact ⟨x, h1, decide_eq_true h2⟩
  rw [e]
  by_cases h : k ∈ kvs.map (·.1)
  · rw [if_pos (decide_eq_true h), if_pos h, List.map_map]
    refine List.map_congr_left fun x _ => ?_
    show (if x.1 = k then (x.1, v) else x).1 = x.1
    split <;> rfl
  · rw [if_neg (by rw [decide_eq_false h]; decide), if_neg h, List.map_append]
    rfl
theorem fold_keys {κ β α : Type} [DecidableEq κ] (k : α → κ) (v : α → β) : ∀ (xs : List α) (acc : List (κ × β)), (acc.map (·.1)).Nodup → ((xs.foldl (fun a x => putG a (k x) (v x)) acc).map (·.1)).Nodup ∧ ∀ y, y ∈ (xs.foldl (fun a x => putG a (k x) (v x)) acc).map (·.1) ↔ y ∈ acc.map (·.1) ∨ ∃ x ∈ xs, k x = y
  | [], acc, nd => ⟨nd, fun y => by simp⟩
  | x :: xs, acc, nd => by
    have nd2 : ((putG acc (k x) (v x)).map (·.1)).Nodup := by
      rw [putG_keys]
      split
      · exact nd
      · rename_i h
        rw [List.nodup_append]
        refine ⟨nd, by simp, fun a ha b hb e => ?_⟩
        rw [List.mem_singleton] at hb
        subst hb
        subst e
        exact h ha
    obtain ⟨h1, h2⟩ := fold_keys k v xs (putG acc (k x) (v x)) nd2
    refine ⟨h1, fun y => ?_⟩
    rw [List.foldl_cons, h2 y, putG_keys]
    constructor
    · rintro (h | ⟨z, hz, e⟩)
      · split at h
        · exact .inl h
        · rcases List.mem_append.mp h with h | h
          · exact .inl h
          · rw [List.mem_singleton] at h
            exact .inr ⟨x, List.mem_cons_self, h.symm⟩
      · exact .inr ⟨z, List.mem_cons_of_mem _ hz, e⟩
    · rintro (h | ⟨z, hz, e⟩)
      · refine .inl ?_
        split
        · exact h
        · exact List.mem_append_left _ h
      · rcases List.mem_cons.mp hz with r | hz
        · subst r
          refine .inl ?_
          subst e
          split
          · assumption
          · exact List.mem_append_right _ List.mem_cons_self
        · exact .inr ⟨z, hz, e⟩
/-! ### built-ins -/
theorem sumA_ints {h : Hs} {ns : List Int} : sumA h [.lst (ns.map .int)] = some (.int ns.sum) := by
  letI : TabT := ⟨[]⟩
  unfold sumA
  show ((ints? (ns.map .int)).map fun ns => AV.int ns.sum) = _
  rw [ints_map]
  rfl
theorem sortA_ints {h : Hs} {ns : List Int} : sortA h [.lst (ns.map .int)] = some ((isort ltI ns).map .int) := by
  letI : TabT := ⟨[]⟩
  unfold sortA
  show (match ints? (ns.map AV.int) with | some ns => some ((isort ltI ns).map AV.int) | none => (tups? (ns.map AV.int)).map fun nss => (isort HT.lexLt nss).map tupA) = _
  rw [ints_map]
theorem sortA_tups {h : Hs} {nss : List (List Int)} : sortA h [.lst (nss.map tupA)] = some ((isort HT.lexLt nss).map tupA) := by
  letI : TabT := ⟨[]⟩
  letI : TabT := ⟨[]⟩
  unfold sortA
  show (match ints? (nss.map tupA) with | some ns => some ((isort ltI ns).map AV.int) | none => (tups? (nss.map tupA)).map fun nss => (isort HT.lexLt nss).map tupA) = _
  cases nss with
  | nil => rfl
  | cons n r =>
    have : ints? ((n :: r).map tupA) = none := rfl
    rw [this, tups_map]
    rfl
theorem tupleA_lst {h : Hs} {xs : List AV} : tupleA h [.lst xs] = some (.tup xs) := rfl
theorem isort_map {α β : Type} (f : α → β) (lt : β → β → Bool) : ∀ l : List α, isort lt (l.map f) = (isort (fun a b => lt (f a) (f b)) l).map f
  | [] => rfl
  | x :: l => by
    rw [List.map_cons, isort, isort, isort_map f lt l]
    generalize isort (fun a b => lt (f a) (f b)) l = m
    induction m with
    | nil => rfl
    | cons y m ih =>
      rw [List.map_cons]
      unfold ins
      by_cases h : lt (f y) (f x) = true
      · rw [if_pos h, if_pos h, List.map_cons, ← ih]
      · rw [if_neg h, if_neg h]
        rfl
/-! ### bits -/
theorem andA_nat {h : Hs} {a b : Nat} : andA h (.int a) (.int b) = some (.int ((a &&& b : Nat) : Int)) := by
  unfold andA Builtin.bitAnd
  dsimp only
  rw [decide_eq_true (by omega : (0 : Int) ≤ a), decide_eq_true (by omega : (0 : Int) ≤ b)]
  rfl
theorem orA_nat {h : Hs} {a b : Nat} : orA h (.int a) (.int b) = some (.int ((a ||| b : Nat) : Int)) := by
  unfold orA Builtin.bitOr Builtin.bitAnd Builtin.bitNot
  dsimp only
  rw [decide_eq_false (by omega : ¬ (0 : Int) ≤ -(a : Int) - 1), decide_eq_false (by omega : ¬ (0 : Int) ≤ -(b : Int) - 1)]
  dsimp only
  rw [show (-(-(a : Int) - 1) - 1).toNat = a by omega, show (-(-(b : Int) - 1) - 1).toNat = b by omega]
  congr 2
  omega
theorem shlA_one {h : Hs} {p : Nat} (hp : p < 2 ^ 19) : shlA h (.int 1) (.int p) = some (.int ((2 ^ p : Nat) : Int)) := by
  unfold shlA
  dsimp only
  rw [if_pos ⟨by omega, lg_mk (k := 19) (by decide) (by omega) (by omega), by decide⟩]
  rw [Int.toNat_natCast, Int.one_mul, Int.natCast_pow]
  rfl
theorem shrA_nat {h : Hs} {a p : Nat} : shrA h (.int a) (.int p) = some (.int ((a / 2 ^ p : Nat) : Int)) := by
  unfold shrA
  dsimp only
  rw [if_pos (by omega), Int.toNat_natCast, Int.natCast_ediv, Int.natCast_pow]
  rfl
theorem bitsA_nat {h : Hs} {a : Nat} : bitsA h (.int a) = some (.int (Builtin.Int.intBits a : Nat)) := rfl
theorem lt_intBits (a : Nat) : a < 2 ^ Builtin.Int.intBits a := by
  unfold Builtin.Int.intBits
  by_cases h : a = 0
  · subst h; decide
  · have : ((a : Int) == 0) = false := beq_eq_false_iff_ne.mpr (by omega)
    rw [this, if_neg (by decide), Int.natAbs_natCast]
    exact Nat.lt_log2_self
theorem intBits_le (a : Nat) : Builtin.Int.intBits a ≤ a := by
  unfold Builtin.Int.intBits
  by_cases h : a = 0
  · subst h; decide
  · have : ((a : Int) == 0) = false := beq_eq_false_iff_ne.mpr (by omega)
    rw [this, if_neg (by decide), Int.natAbs_natCast]
    exact (Nat.log2_lt h).mpr Nat.lt_two_pow_self
theorem rngL_nat (n : Nat) : rngL 0 n = (List.range n).map fun i : Nat => AV.int i := by
  unfold rngL
  rw [show ((n : Int) - 0).toNat = n by omega]
  refine List.map_congr_left fun i _ => ?_
  rw [Int.zero_add]
end Sim

set_option Elab.async false
set_option linter.all false
set_option maxRecDepth 100000
set_option maxHeartbeats 2000000
/-! SimS4: comprehensions whose test has a state of its own. -/
namespace Sim
open PySem L2
/-- whatever the test tells, the answer is a part of what is gone over -/
theorem lcL_sub {g : GT} {t : EM Bool} {e : EM AV} {env : AEnv} (I : Hs → Prop) : ∀ {xs : List AV} {h : Hs}, (∀ x ∈ xs, ∀ h, I h → ∃ e' b h', g x env = some e' ∧ t e' h = .ok b h' ∧ e e' h' = .ok x h' ∧ I h') → I h → ∃ ys h', lcL g t e env xs h = .ok ys h' ∧ ys.Sublist xs ∧ I h'
  | [], h, _, hI => ⟨[], h, rfl, List.Sublist.refl _, hI⟩
  | x :: xs, h, hx, hI => by
    obtain ⟨e', b, h1, q1, q2, q3, q4⟩ := hx x List.mem_cons_self h hI
    obtain ⟨ys, h2, r1, r2, r3⟩ := lcL_sub (g := g) (t := t) (e := e) (env := env) I (xs := xs) (h := h1) (fun y hy => hx y (List.mem_cons_of_mem _ hy)) q4
    unfold lcL
    rw [q1]
    dsimp only [M.bnd]
    rw [noexc_ok q2]
    dsimp only
    cases b with
    | true =>
      rw [if_pos rfl]
      dsimp only [M.bnd]
      rw [noexc_ok q3]
      dsimp only
      rw [r1]
      exact ⟨x :: ys, h2, rfl, r2.cons_cons x, r3⟩
    | false =>
      rw [if_neg (by decide), r1]
      exact ⟨ys, h2, rfl, r2.cons x, r3⟩
end Sim

set_option Elab.async false
set_option linter.all false
set_option maxRecDepth 100000
set_option maxHeartbeats 2000000
namespace Sim
open PySem PySem.Spec L2
open PyProof.Rows hiding St
/-! ### the end of a row -/
def EndAt (l : PySem.W.OpenLaw) (w : World) (K : PySem.W.Frag) (mg : Str → Option Value) (h : Heap) (fa : Addr) (x : Str) (k : Nat) (f : FM) : Prop :=
  ∃ (fd : FuncData) (cs : List (Addr × Addr × Str)), (∀ p ∈ cs, h.get? p.2.1 = some { cls := .none, data := .fields #[] }) ∧ (∀ p ∈ cs, K.lookup p.2.1 = none) ∧ (∀ p ∈ cs, PySem.W.CodeHd h p.1 p.2.1) ∧ (∀ (s : Shared) (u : Value), BindsTo s fd ⟨[u], []⟩ [(x, u)]) ∧
    ∀ base : Heap, K.In base → base.Ns mainGlobals mg → (∀ p ∈ cs, LamX.TabB base mg p.1 p.2.1) → FnOk l.prog w K mg base (L2.CX l.prog w) k fa fd [x] (@spM ⟨cs.map (·.2)⟩ K mg 1 f)
theorem end_sp {K : PySem.W.Frag} {mg : Str → Option Value} {T : List (Addr × Str)} {f : FM} {H : Hp} {a : Addr} {ns : List Int} (hT : ∀ p ∈ T, H p.1 = some (.tbl #[])) (hS : SqL K H a (ns.map V.int)) (hf : ∃ h', f [.scr ns] [] = .ok (.bl true) h') :
    @spM ⟨T⟩ K mg 1 f [.ref a] H (fun v _ => v = .bl true) fun _ _ _ => False := by
  letI : TabT := ⟨T⟩
  obtain ⟨h', hf⟩ := hf
  let F : Hp := fun b => match H b with | some (.tbl _) => none | o => o
  have hF : ∀ b o, F b = some o → H b = some o ∧ ∀ ps, o ≠ .tbl ps := fun b o e => by
    have e2 : (match H b with | some (.tbl _) => none | o => o) = some o := e
    cases q : H b with
    | none => rw [q] at e2; cases e2
    | some u =>
      rw [q] at e2
      cases u <;> first | (cases e2; done) | (cases e2; exact ⟨rfl, fun _ z => by cases z⟩)
  have hF2 : ∀ b o, H b = some o → (∀ ps, o ≠ .tbl ps) → F b = some o := fun b o e n => by
    show (match H b with | some (.tbl _) => none | o => o) = some o
    rw [e]
    cases o <;> first | rfl | exact absurd rfl (n _)
  have N1 : ∀ {β : Type} {o : β}, (none : Option β) = some o → False := fun {β o} e => nomatch e
  have w : WI K mg { F := F, mu := fun _ => none, Z := fun _ => none, T := [] } [] H := by
    refine ⟨fun b o e => (hF b o e).1, fun b o e => (N1 e).elim, fun b o e => (N1 e).elim, fun n c e => ?_, fun n b e => (N1 e).elim, fun n m b e => (N1 e).elim, ⟨fun p hp => LamX.TabS.nil (hT p hp), fun b ps e => (hF b _ e).2 ps rfl, fun b u _ e => N1 e⟩⟩
    simp at e
  refine ⟨rfl, { F := F, mu := fun _ => none, Z := fun _ => none, T := [] }, [], [.scr ns], w, .cons (.scr ?_) .nil, ?_⟩
  · rcases hS with (h | ⟨o, h⟩) | h
    · exact .inl (.inl (hF2 _ _ h fun ps z => by cases z))
    · exact .inl (.inr ⟨o, hF2 _ _ h fun ps z => by cases z⟩)
    · exact .inr h
  · rw [hf]
    intro G' H' z l w' r
    cases r
    rfl
theorem walk_end {l : PySem.W.OpenLaw} {n k : Nat} {q : Program} {loose : List Str} {XP : (Str → Option Value) → Heap → Prop} {YP : World → Heap → Prop} {d : DefRec} {K : Params → PySem.W.Frag} {x : Str} {f : FM}
    (hn : l.most = some n) (hn2 : n ≤ sizeLine) (hdf : d.params.defaults = []) (hr : Room k callerA) (hY : ∀ (w : World) (h : Heap), YP w h → (K w.params).In h)
    (F : ∀ (w : World) (s₀ : Shared) (mg mb : Str → Option Value) (fa : Addr) (h : Heap), PySem.W.Ground q loose [] XP w s₀ mg mb h → YP w h → (K w.params).In h → h.Ns mainGlobals mg → mg d.name = some (.ref fa) → EndAt l w (K w.params) mg h fa x k f)
    (hf : ∀ ns : List Int, ns.length ≤ n → (∀ z ∈ ns, Builtin.Int.intBits z ≤ 1048576) → ∃ h', f [.scr ns] [] = .ok (.bl true) h') :
    PySem.W.WalkO q loose XP YP l.row.toRowW d [] (fun f vs => PySem.call f vs) := by
  refine Att.attach_callB hn hdf fun w s₀ s₁ mg mb fa o pm cd doc a vs ns G Y ho hd hcd hmg hobj hints hlen hbits hg => ?_
  have KX := hY w _ Y
  obtain ⟨fd, cs, hT, nT, C, hb, hF⟩ := F w s₀ mg mb fa _ G Y KX G.T.g hmg
  have m2 : ∀ p ∈ cs.map (fun p => (p.1, p.2.1)), ∃ p0 ∈ cs, p = (p0.1, p0.2.1) := fun p hp => by
    obtain ⟨p0, h1, h2⟩ := List.mem_map.mp hp
    exact ⟨p0, h1, h2.symm⟩
  refine LamX.law_callTs (cs := cs.map (fun p => (p.1, p.2.1))) KX G.T.g G.T.b G.T.builtins G.T.nolimit hg (fun p hp => ?_) (fun p hp => ?_) (fun p hp => ?_) G.T.bmain hobj hints (Nat.le_trans hlen hn2) hr (fun base b1 b2 b3 => hF base b1 b2 fun p hp => b3 (p.1, p.2.1) (List.mem_map.mpr ⟨p, hp, rfl⟩)) hb (fun H hH hS => end_sp (fun p hp => ?_) hS (hf ns hlen hbits)) fun H e s' h => ?_
  · obtain ⟨p0, h1, rfl⟩ := m2 p hp; exact hT p0 h1
  · obtain ⟨p0, h1, rfl⟩ := m2 p hp; exact nT p0 h1
  · obtain ⟨p0, h1, rfl⟩ := m2 p hp; exact C p0 h1
  · obtain ⟨p0, h1, rfl⟩ := List.mem_map.mp hp
    exact hH (p0.1, p0.2.1) (List.mem_map.mpr ⟨p0, h1, rfl⟩)
  · obtain ⟨_, _, _, _, _, _, _, _, _, _, _, _, z⟩ := h
    exact z

/-! ### what the top has written -/
structure FunF (K : PySem.W.Frag) (mg : Str → Option Value) (x : Str) (st : Stmt) (ps : List Str) where
  a : Addr
  d : FuncData
  F : L2.Fun K x x st a d
  b : Binds K d ps []
  g : mg x = some (.ref a)
  bs : ∀ (s : Shared) (us : List Value), us.length = ps.length → BindsTo s d ⟨us, []⟩ (ps.zip us)
section
variable {K : PySem.W.Frag} {mg : Str → Option Value} {h : Heap}
theorem funF_mk {x : Str} {st : Stmt} {ps : List Str} {f : Addr} {od an : Option Addr} {sl : Array (Option Value)} {oc kV dc pm cd ct : Value} (X : K.In h) (G : h.Ns mainGlobals mg)
    (hb : ∀ (kV doc pm : Value) (an : Option Addr) (cdv ct : Value) (us : List Value), us.length = ps.length → bindArgs (PySem.W.fnOf x x (defArgs st) (defBody st) (defScope st) .none kV doc pm an cdv ct) ⟨us, []⟩ = pure (ps.zip us))
    (a : PySem.W.nsIn K mainGlobals x = some (some (.ref f))) (l : K.lookup f = some ⟨oc, od, .func (PySem.W.fnOf x x (defArgs st) (defBody st) (defScope st) .none kV dc pm an cd ct), sl⟩) (c : PySem.W.codeIn K cd x = true) (k : PySem.W.keepIn K (.ref f) = true) : Nonempty (FunF K mg x st ps) :=
  ⟨⟨f, _, fun_mk l c k, (fun_mk l c k).binds hb, PySem.W.mg_of X G a, fun s us hl => .of_eq (hb _ _ _ _ _ _ us hl)⟩⟩
/-- .. of a def that makes lambdas -/
structure FunL (K : PySem.W.Frag) (mg : Str → Option Value) (h : Heap) (x : Str) (st : Stmt) (ps : List Str) extends FunF K mg x st ps where
  c : Addr
  P : Addr
  hc : d.code = .ref c
  C : PySem.W.CodeHd h c P
  e : h.get? P = some { cls := .none, data := .fields #[] }
  n : K.lookup P = none
theorem funL_mk {x : Str} {st : Stmt} {ps : List Str} {f c P : Addr} {od an : Option Addr} {sl : Array (Option Value)} {oc kV dc pm ct : Value} (X : K.In h) (G : h.Ns mainGlobals mg)
    (hb : ∀ (kV doc pm : Value) (an : Option Addr) (cdv ct : Value) (us : List Value), us.length = ps.length → bindArgs (PySem.W.fnOf x x (defArgs st) (defBody st) (defScope st) .none kV doc pm an cdv ct) ⟨us, []⟩ = pure (ps.zip us))
    (a : PySem.W.nsIn K mainGlobals x = some (some (.ref f))) (l : K.lookup f = some ⟨oc, od, .func (PySem.W.fnOf x x (defArgs st) (defBody st) (defScope st) .none kV dc pm an (.ref c) ct), sl⟩) (cc : PySem.W.codeIn K (.ref c) x = true) (k : PySem.W.keepIn K (.ref f) = true)
    (hT : h.get? P = some (PySem.W.tabObj #[])) (hC : PySem.W.codeHdIn K c P = true) (n : K.lookup P = none) : Nonempty (FunL K mg h x st ps) :=
  ⟨{ a := f, d := _, F := fun_mk l cc k, b := (fun_mk l cc k).binds hb, g := PySem.W.mg_of X G a, bs := fun s us hl => .of_eq (hb _ _ _ _ _ _ us hl), c := c, P := P, hc := rfl, C := PySem.W.codeHd_of_K X hC, e := hT, n := n }⟩
structure ExcF (K : PySem.W.Frag) (mg : Str → Option Value) (x : Str) where
  a : Addr
  e : ExF K mg x a
theorem excF_mk {x : Str} {C : Addr} (X : K.In h) (G : h.Ns mainGlobals mg) (a : PySem.W.nsIn K mainGlobals x = some (some (.ref C))) (q : veIn K C = true) (k : PySem.W.keepIn K (.ref C) = true) (s : PySem.W.subIn K (.ref C) (.type "BaseException") = some true) (t : PySem.W.typeIn K (.ref C) = some (.type "type")) :
    ∃ E : ExcF K mg x, E.a = C := ⟨⟨C, PySem.W.mg_of X G a, q, k, s, t⟩, rfl⟩
theorem loose_int {lv : List (Str × PySem.W.WData)} {p : Program} {x : Str} {i : Int} (X : PySem.W.XL p lv mg h) (m : (x, PySem.W.WData.int i) ∈ lv) : ∃ t, mg x = some (.int i t) := by
  obtain ⟨v, e, r⟩ := X.2.val _ m
  cases r
  exact ⟨_, e⟩
end
theorem end_mk {l : PySem.W.OpenLaw} {w : World} {K : PySem.W.Frag} {mg : Str → Option Value} {h : Heap} {fa : Addr} {n x : Str} {st : Stmt} {k : Nat} {f : FM} (Fl : FunF K mg n st [x]) (hfa : mg n = some (.ref fa)) (cs : List (Addr × Addr × Str))
    (h1 : ∀ p ∈ cs, h.get? p.2.1 = some { cls := .none, data := .fields #[] }) (h2 : ∀ p ∈ cs, K.lookup p.2.1 = none) (h3 : ∀ p ∈ cs, PySem.W.CodeHd h p.1 p.2.1)
    (hF : ∀ base : Heap, K.In base → base.Ns mainGlobals mg → (∀ p ∈ cs, LamX.TabB base mg p.1 p.2.1) → FnOk l.prog w K mg base (L2.CX l.prog w) k Fl.a Fl.d [x] (@spM ⟨cs.map (·.2)⟩ K mg 1 f)) : EndAt l w K mg h fa x k f := by
  cases hfa.symm.trans Fl.g
  exact ⟨Fl.d, cs, h1, h2, h3, fun s u => Fl.bs s [u] rfl, hF⟩
theorem with_K {K : PySem.W.Frag} {h : Heap} (X : K.In h) {p : PySem.W.Frag → Prop} (q : p K) : p K := q
theorem lit_int {K : PySem.W.Frag} {mg : Str → Option Value} {h : Heap} {x : Str} {i : Int} {t : Tok} (X : K.In h) (G : h.Ns mainGlobals mg) (a : PySem.W.nsIn K mainGlobals x = some (some (.int i t))) : ∃ t, mg x = some (.int i t) := ⟨t, PySem.W.mg_of X G a⟩
end Sim

set_option Elab.async false
set_option linter.all false
set_option maxRecDepth 100000
set_option maxHeartbeats 2000000
namespace Sim
open PySem PySem.Spec L2
open PyProof.Rows hiding St
/-! SimZ2: what the top has written: defs under another name, methods, makers of lambdas with their tables told. -/
/-- a def x, met under the module's name g -/
structure FunG (K : PySem.W.Frag) (mg : Str → Option Value) (g x : Str) (st : Stmt) (ps : List Str) where
  a : Addr
  d : FuncData
  F : L2.Fun K x x st a d
  b : Binds K d ps []
  g : mg g = some (.ref a)
/-- a method x of the qualified name q -/
structure FunM (K : PySem.W.Frag) (C : Addr) (x q : Str) (st : Stmt) (ps : List Str) where
  a : Addr
  d : FuncData
  F : L2.Fun K x q st a d
  b : Binds K d ps []
  at_ : PySem.W.findIn K (.ref C) x = some (some (.ref a))
  fn : PySem.W.isFn K (.ref a) = true
/-- a maker of lambdas, its table at P -/
structure FunLP (K : PySem.W.Frag) (mg : Str → Option Value) (h : Heap) (g x : Str) (st : Stmt) (ps : List Str) (P : Addr) where
  a : Addr
  d : FuncData
  F : L2.Fun K x x st a d
  b : Binds K d ps []
  g : mg g = some (.ref a)
  bs : ∀ (s : Shared) (us : List Value), us.length = ps.length → BindsTo s d ⟨us, []⟩ (ps.zip us)
  c : Addr
  hc : d.code = .ref c
  C : PySem.W.CodeHd h c P
  e : h.get? P = some { cls := .none, data := .fields #[] }
  n : K.lookup P = none
def FunLP.P {K : PySem.W.Frag} {mg : Str → Option Value} {h : Heap} {g x : Str} {st : Stmt} {ps : List Str} {P : Addr} (F : FunLP K mg h g x st ps P) : Addr := P
def FunLP.toFunF {K : PySem.W.Frag} {mg : Str → Option Value} {h : Heap} {x : Str} {st : Stmt} {ps : List Str} {P : Addr} (F : FunLP K mg h x x st ps P) : FunF K mg x st ps := ⟨F.a, F.d, F.F, F.b, F.g, F.bs⟩
section
variable {K : PySem.W.Frag} {mg : Str → Option Value} {h : Heap}
theorem funG_mk {g x : Str} {st : Stmt} {ps : List Str} {f : Addr} {od an : Option Addr} {sl : Array (Option Value)} {oc kV dc pm cd ct : Value} (X : K.In h) (G : h.Ns mainGlobals mg)
    (hb : ∀ (kV doc pm : Value) (an : Option Addr) (cdv ct : Value) (us : List Value), us.length = ps.length → bindArgs (PySem.W.fnOf x x (defArgs st) (defBody st) (defScope st) .none kV doc pm an cdv ct) ⟨us, []⟩ = pure (ps.zip us))
    (a : PySem.W.nsIn K mainGlobals g = some (some (.ref f))) (l : K.lookup f = some ⟨oc, od, .func (PySem.W.fnOf x x (defArgs st) (defBody st) (defScope st) .none kV dc pm an cd ct), sl⟩) (c : PySem.W.codeIn K cd x = true) (k : PySem.W.keepIn K (.ref f) = true) : Nonempty (FunG K mg g x st ps) :=
  ⟨⟨f, _, fun_mk l c k, (fun_mk l c k).binds hb, PySem.W.mg_of X G a⟩⟩
theorem funM_mk {C : Addr} {x q : Str} {st : Stmt} {ps : List Str} {f : Addr} {od an : Option Addr} {sl : Array (Option Value)} {oc kV dc pm cd ct : Value}
    (hb : ∀ (kV doc pm : Value) (an : Option Addr) (cdv ct : Value) (us : List Value), us.length = ps.length → bindArgs (PySem.W.fnOf x q (defArgs st) (defBody st) (defScope st) .none kV doc pm an cdv ct) ⟨us, []⟩ = pure (ps.zip us))
    (a : PySem.W.findIn K (.ref C) x = some (some (.ref f))) (i : PySem.W.isFn K (.ref f) = true) (l : K.lookup f = some ⟨oc, od, .func (PySem.W.fnOf x q (defArgs st) (defBody st) (defScope st) .none kV dc pm an cd ct), sl⟩) (c : PySem.W.codeIn K cd q = true) (k : PySem.W.keepIn K (.ref f) = true) : Nonempty (FunM K C x q st ps) :=
  ⟨⟨f, _, fun_mk l c k, (fun_mk l c k).binds hb, a, i⟩⟩
theorem funLP_mk {g x : Str} {st : Stmt} {ps : List Str} {f c P : Addr} {od an : Option Addr} {sl : Array (Option Value)} {oc kV dc pm ct : Value} (X : K.In h) (G : h.Ns mainGlobals mg)
    (hb : ∀ (kV doc pm : Value) (an : Option Addr) (cdv ct : Value) (us : List Value), us.length = ps.length → bindArgs (PySem.W.fnOf x x (defArgs st) (defBody st) (defScope st) .none kV doc pm an cdv ct) ⟨us, []⟩ = pure (ps.zip us))
    (a : PySem.W.nsIn K mainGlobals g = some (some (.ref f))) (l : K.lookup f = some ⟨oc, od, .func (PySem.W.fnOf x x (defArgs st) (defBody st) (defScope st) .none kV dc pm an (.ref c) ct), sl⟩) (cc : PySem.W.codeIn K (.ref c) x = true) (k : PySem.W.keepIn K (.ref f) = true)
    (hT : h.get? P = some (PySem.W.tabObj #[])) (hC : PySem.W.codeHdIn K c P = true) (n : K.lookup P = none) : Nonempty (FunLP K mg h g x st ps P) :=
  ⟨{ a := f, d := _, F := fun_mk l cc k, b := (fun_mk l cc k).binds hb, g := PySem.W.mg_of X G a, bs := fun s us hl => .of_eq (hb _ _ _ _ _ _ us hl), c := c, hc := rfl, C := PySem.W.codeHd_of_K X hC, e := hT, n := n }⟩
theorem clsF_mk {c : Str} {C : Addr} (X : K.In h) (G : h.Ns mainGlobals mg) (a : PySem.W.nsIn K mainGlobals c = some (some (.ref C))) (pg : PySem.W.plainGet K C Str.empty = true) (hd : PySem.W.hasDictIn K C = true) (po : PySem.W.plainOver K C = true)
    (sa : PySem.W.findIn K (.ref C) "__setattr__" = some (some (.builtin "object.__setattr__"))) (mk : PySem.W.makesIn K C = true) (kp : PySem.W.keepIn K (.ref C) = true) (ha : PySem.W.findIn K (.ref C) "__class__" = some (some (.builtin "object.__class__")))
    (hn : PySem.W.specialIn K (.builtin "object.__class__") "__get__" = some (some (.builtin "getset_descriptor.__get__"))) (htk : PySem.W.takesIn K (.builtin "object.__class__") = some true) (hm : PySem.W.mroIn K C (.type "object") = some true) : ∃ C, ClsF K mg c C :=
  ⟨C, PySem.W.mg_of X G a, ⟨pg, hd, po, sa⟩, mk, kp, ha, hn, htk, hm⟩
end
/-- a method's def at y -/
def FunY (K : PySem.W.Frag) (y : Addr) (x q : Str) (st : Stmt) (ps : List Str) : Prop := ∃ d : FuncData, L2.Fun K x q st y d ∧ Binds K d ps []
theorem funY_mk {K : PySem.W.Frag} {x q : Str} {st : Stmt} {ps : List Str} {f : Addr} {od an : Option Addr} {sl : Array (Option Value)} {oc kV dc pm cd ct : Value}
    (hb : ∀ (kV doc pm : Value) (an : Option Addr) (cdv ct : Value) (us : List Value), us.length = ps.length → bindArgs (PySem.W.fnOf x q (defArgs st) (defBody st) (defScope st) .none kV doc pm an cdv ct) ⟨us, []⟩ = pure (ps.zip us))
    (l : K.lookup f = some ⟨oc, od, .func (PySem.W.fnOf x q (defArgs st) (defBody st) (defScope st) .none kV dc pm an cd ct), sl⟩) (c : PySem.W.codeIn K cd q = true) (k : PySem.W.keepIn K (.ref f) = true) : FunY K f x q st ps :=
  ⟨_, fun_mk l c k, (fun_mk l c k).binds hb⟩
end Sim

set_option Elab.async false
set_option linter.all false
set_option maxRecDepth 100000
set_option maxHeartbeats 2000000
namespace Sim
open PySem PySem.Spec L2
open PyProof.Rows hiding St
theorem ktup2_mk {K : PySem.W.Frag} {mg : Str → Option Value} {h : Heap} {x : Str} {a : Addr} {i j : Int} {t u : Tok} {n : Nat} {od : Option Addr} {sl : Array (Option Value)} (X : K.In h) (G : h.Ns mainGlobals mg)
    (e : PySem.W.nsIn K mainGlobals x = some (some (.ref a))) (l : K.lookup a = some ⟨.type "tuple", od, .seq #[.int i t, .int j u] n, sl⟩) : ∃ a, mg x = some (.ref a) ∧ KTup K a [i, j] :=
  ⟨a, PySem.W.mg_of X G e, _, #[.int i t, .int j u], n, l, rfl, rfl, (by show 2 ≤ sizeLine; decide), .cons ⟨t, rfl⟩ (.cons ⟨u, rfl⟩ .nil)⟩
end Sim

set_option Elab.async false
set_option linter.all false
set_option maxRecDepth 100000
set_option maxHeartbeats 2000000
/-! MB: crowds as bits, in plain Lean. -/
namespace MB
open Sim
def crn (n b : Nat) : List Int := ((List.range n).filter fun i => b.testBit i).map fun i : Nat => (i : Int)
def cr (b : Nat) : List Int := crn b b
theorem crn_succ (n b : Nat) : crn (n + 1) b = crn n b ++ (if b.testBit n then [(n : Int)] else []) := by
  unfold crn
  rw [List.range_succ, List.filter_append, List.map_append]
  congr 1
  by_cases h : b.testBit n = true
  · rw [if_pos h, List.filter_cons_of_pos h]; rfl
  · rw [if_neg h, List.filter_cons_of_neg h]; rfl
theorem crn_ext {n a b : Nat} (h : ∀ i, i < n → a.testBit i = b.testBit i) : crn n a = crn n b := by
  induction n with
  | zero => rfl
  | succ n ih => rw [crn_succ, crn_succ, ih fun i hi => h i (by omega), h n (by omega)]
theorem crn_more {n b : Nat} (h : b < 2 ^ n) : ∀ k, crn (n + k) b = crn n b
  | 0 => rfl
  | k + 1 => by
    rw [← Nat.add_assoc, crn_succ, crn_more h k]
    have : b.testBit (n + k) = false := Nat.testBit_lt_two_pow (Nat.lt_of_lt_of_le h (Nat.pow_le_pow_right (by decide) (by omega)))
    rw [this]
    simp
theorem crn_cr {n b : Nat} (h : b < 2 ^ n) : crn n b = cr b := by
  have hb : b < 2 ^ b := Nat.lt_two_pow_self
  unfold cr
  rcases Nat.le_total n b with l | l
  · obtain ⟨k, rfl⟩ : ∃ k, b = n + k := ⟨b - n, by omega⟩
    rw [crn_more h k]
  · obtain ⟨k, rfl⟩ : ∃ k, n = b + k := ⟨n - b, by omega⟩
    rw [crn_more hb k]
theorem mem_crn {n b : Nat} {x : Int} : x ∈ crn n b ↔ ∃ i : Nat, i < n ∧ b.testBit i = true ∧ x = i := by
  unfold crn
  rw [List.mem_map]
  constructor
  · rintro ⟨i, hi, rfl⟩
    rw [List.mem_filter, List.mem_range] at hi
    exact ⟨i, hi.1, hi.2, rfl⟩
  · rintro ⟨i, h1, h2, rfl⟩
    exact ⟨i, List.mem_filter.mpr ⟨List.mem_range.mpr h1, h2⟩, rfl⟩
theorem mem_cr {b : Nat} {x : Int} : x ∈ cr b ↔ ∃ i : Nat, b.testBit i = true ∧ x = i := by
  unfold cr
  rw [mem_crn]
  constructor
  · rintro ⟨i, _, h2, rfl⟩; exact ⟨i, h2, rfl⟩
  · rintro ⟨i, h2, rfl⟩
    refine ⟨i, ?_, h2, rfl⟩
    have h3 := Nat.ge_two_pow_of_testBit h2
    exact Nat.lt_of_lt_of_le Nat.lt_two_pow_self h3
theorem cr_contains (b i : Nat) : (cr b).contains (i : Int) = b.testBit i := by
  cases h : b.testBit i with
  | true =>
    rw [List.contains_iff_mem]
    exact mem_cr.mpr ⟨i, h, rfl⟩
  | false =>
    rw [Bool.eq_false_iff]
    intro q
    rw [List.contains_iff_mem, mem_cr] at q
    obtain ⟨j, h1, h2⟩ := q
    have : i = j := by omega
    subst this
    rw [h] at h1; cases h1
theorem cr_inj {a b : Nat} (h : cr a = cr b) : a = b := by
  refine Nat.eq_of_testBit_eq fun i => ?_
  rw [← cr_contains, ← cr_contains, h]
theorem crn_sorted (n b : Nat) : (crn n b).Pairwise (· < ·) := by
  unfold crn
  refine List.pairwise_map.mpr ?_
  refine List.Pairwise.imp (R := fun (a b : Nat) => a < b) (fun h => by omega) ?_
  exact List.Pairwise.filter _ List.pairwise_lt_range
theorem cr_sorted (b : Nat) : (cr b).Pairwise (· < ·) := crn_sorted b b
theorem cr_range {n b : Nat} (h : b < 2 ^ n) {x : Int} (hx : x ∈ cr b) : 0 ≤ x ∧ x < n := by
  obtain ⟨i, h1, rfl⟩ := mem_cr.mp hx
  refine ⟨by omega, ?_⟩
  have h2 := Nat.ge_two_pow_of_testBit h1
  have : i < n := (Nat.pow_lt_pow_iff_right (by decide)).mp (Nat.lt_of_le_of_lt h2 h)
  omega
theorem cr_len (b : Nat) : (cr b).length ≤ b := by
  unfold cr crn
  rw [List.length_map]
  exact Nat.le_trans (List.length_filter_le _ _) (Nat.le_of_eq List.length_range)
theorem cr_len_n {n b : Nat} (h : b < 2 ^ n) : (cr b).length ≤ n := by
  rw [← crn_cr h]
  unfold crn
  rw [List.length_map]
  exact Nat.le_trans (List.length_filter_le _ _) (Nat.le_of_eq List.length_range)
/-- the sum of the bits -/
theorem crn_sum (n b : Nat) : ((crn n b).map fun p => (2 : Int) ^ p.toNat).sum = ((b % 2 ^ n : Nat) : Int) := by
  induction n with
  | zero => simp [crn, Nat.mod_one]
  | succ n ih =>
    rw [crn_succ, List.map_append, List.sum_append, ih, Nat.mod_pow_succ, Nat.testBit_eq_decide_div_mod_eq]
    have h2 : b / 2 ^ n % 2 < 2 := Nat.mod_lt _ (by decide)
    by_cases h : b / 2 ^ n % 2 = 1
    · rw [decide_eq_true h, if_pos rfl, h, Nat.mul_one]
      simp
    · rw [decide_eq_false h, if_neg (by decide), show b / 2 ^ n % 2 = 0 by omega]
      simp
theorem cr_sum (b : Nat) : ((cr b).map fun p => (2 : Int) ^ p.toNat).sum = (b : Int) := by
  unfold cr
  rw [crn_sum, Nat.mod_eq_of_lt Nat.lt_two_pow_self]
theorem cr_double {k b : Nat} (h : b < 2 ^ k) : cr (b + 2 ^ k) = cr b ++ [(k : Int)] := by
  have h2 : b + 2 ^ k < 2 ^ (k + 1) := by rw [Nat.pow_succ]; omega
  rw [← crn_cr h2, crn_succ, ← crn_cr h]
  have e1 : crn k (b + 2 ^ k) = crn k b := crn_ext fun i hi => by
    rw [Nat.add_comm, Nat.testBit_two_pow_add_gt hi]
  have e2 : (b + 2 ^ k).testBit k = true := by
    rw [Nat.add_comm, Nat.testBit_two_pow_add_eq, Nat.testBit_lt_two_pow h]; rfl
  rw [e1, e2, if_pos rfl]
/-- all crowds, as they are doubled -/
theorem crowds_double (k : Nat) : (List.range (2 ^ (k + 1))).map cr = (List.range (2 ^ k)).map cr ++ ((List.range (2 ^ k)).map cr).map (· ++ [(k : Int)]) := by
  rw [Nat.pow_succ, Nat.mul_two, List.range_add, List.map_append, List.map_map, List.map_map]
  congr 1
  refine List.map_congr_left fun b hb => ?_
  rw [List.mem_range] at hb
  show cr (2 ^ k + b) = cr b ++ [(k : Int)]
  rw [Nat.add_comm, cr_double hb]
/-- any part of the first n is a crowd -/
theorem sub_cr : ∀ (n : Nat) (l : List Int), l.Sublist ((List.range n).map fun i : Nat => (i : Int)) → ∃ b, b < 2 ^ n ∧ l = cr b
  | 0, l, h => by
    have : l = [] := by simpa using h
    exact ⟨0, by decide, this⟩
  | n + 1, l, h => by
    rw [List.range_succ, List.map_append, List.sublist_append_iff] at h
    obtain ⟨l1, l2, rfl, h1, h2⟩ := h
    obtain ⟨b, hb, rfl⟩ := sub_cr n l1 h1
    have h3 : l2 = [] ∨ l2 = [(n : Int)] := by
      have h2' : l2.Sublist [(n : Int)] := h2
      have hl := h2'.length_le
      rw [List.length_singleton] at hl
      cases l2 with
      | nil => exact .inl rfl
      | cons x r =>
        cases r with
        | nil => exact .inr (by have := h2'.subset List.mem_cons_self; rw [List.mem_singleton] at this; rw [this])
        | cons _ _ => simp at hl
    rcases h3 with rfl | rfl
    · exact ⟨b, by rw [Nat.pow_succ]; omega, by rw [List.append_nil]⟩
    · exact ⟨b + 2 ^ n, by rw [Nat.pow_succ]; omega, (cr_double hb).symm⟩
/-! ### within -/
def wi (m b : Nat) : Bool := (b &&& m) == m
theorem wi_iff {m b : Nat} : wi m b = true ↔ ∀ i, m.testBit i = true → b.testBit i = true := by
  unfold wi
  rw [beq_iff_eq]
  constructor
  · intro h i hi
    rw [← h, Nat.testBit_and, Bool.and_eq_true] at hi
    exact hi.1
  · intro h
    refine Nat.eq_of_testBit_eq fun i => ?_
    rw [Nat.testBit_and]
    cases hm : m.testBit i with
    | false => simp
    | true => rw [h i hm]; rfl
theorem wi_refl (b : Nat) : wi b b = true := wi_iff.mpr fun _ h => h
theorem wi_trans {a b c : Nat} (h : wi a b = true) (k : wi b c = true) : wi a c = true := wi_iff.mpr fun i hi => wi_iff.mp k i (wi_iff.mp h i hi)
theorem wi_le {m b : Nat} (h : wi m b = true) : m ≤ b := by
  unfold wi at h
  rw [beq_iff_eq] at h
  rw [← h]
  exact Nat.and_le_left
theorem wi_all (m b : Nat) : ((cr m).all fun p => (cr b).contains p) = wi m b := by
  rw [Bool.eq_iff_iff, List.all_eq_true, wi_iff]
  constructor
  · intro h i hi
    have := h i (mem_cr.mpr ⟨i, hi, rfl⟩)
    rwa [cr_contains] at this
  · intro h x hx
    obtain ⟨i, hi, rfl⟩ := mem_cr.mp hx
    rw [cr_contains]
    exact h i hi
/-! ### books -/
def clr (Ls : List Nat) (b : Nat) : Bool := !(Ls.any fun m => wi m b)
theorem clr_iff {Ls : List Nat} {b : Nat} : clr Ls b = true ↔ ∀ m ∈ Ls, wi m b = false := by
  unfold clr
  rw [Bool.not_eq_true', List.any_eq_false]
  constructor
  · intro h m hm; exact Bool.eq_false_iff.mpr (h m hm)
  · intro h m hm; rw [h m hm]; decide
theorem clr_false {Ls : List Nat} {b : Nat} : clr Ls b = false ↔ ∃ m ∈ Ls, wi m b = true := by
  unfold clr
  rw [Bool.not_eq_false', List.any_eq_true]
theorem clr_mono {Ls : List Nat} {a b : Nat} (h : wi a b = true) (k : clr Ls b = true) : clr Ls a = true := by
  rw [clr_iff] at k ⊢
  intro m hm
  have := k m hm
  rw [Bool.eq_false_iff] at this ⊢
  exact fun q => this (wi_trans q h)
/-- those within which no other one is -/
def mini (ms : List Nat) : List Nat := ms.filter fun b => !(ms.any fun o => !(o == b) && wi o b)
theorem mini_below {ms : List Nat} : ∀ (k b : Nat), b ≤ k → b ∈ ms → ∃ o ∈ mini ms, wi o b = true := by
  intro k
  induction k with
  | zero =>
    intro b hb hm
    have : b = 0 := by omega
    subst this
    refine ⟨0, ?_, wi_refl 0⟩
    refine List.mem_filter.mpr ⟨hm, ?_⟩
    rw [Bool.not_eq_true', List.any_eq_false]
    intro o ho q
    rw [Bool.and_eq_true, Bool.not_eq_true'] at q
    have := wi_le q.2
    have : o = 0 := by omega
    subst this
    simp at q
  | succ k ih =>
    intro b hb hm
    by_cases h : (ms.any fun o => !(o == b) && wi o b) = true
    · rw [List.any_eq_true] at h
      obtain ⟨o, ho, q⟩ := h
      rw [Bool.and_eq_true, Bool.not_eq_true', beq_eq_false_iff_ne] at q
      have := wi_le q.2
      obtain ⟨o2, h1, h2⟩ := ih o (by omega) ho
      exact ⟨o2, h1, wi_trans h2 q.2⟩
    · refine ⟨b, List.mem_filter.mpr ⟨hm, ?_⟩, wi_refl b⟩
      rw [Bool.not_eq_true']
      exact Bool.eq_false_iff.mpr h
theorem clr_mini (ms : List Nat) (b : Nat) : clr (mini ms) b = clr ms b := by
  cases h : clr ms b with
  | true =>
    rw [clr_iff] at h ⊢
    exact fun m hm => h m (List.mem_filter.mp hm).1
  | false =>
    rw [clr_false] at h ⊢
    obtain ⟨m, hm, w⟩ := h
    obtain ⟨o, h1, h2⟩ := mini_below m m (Nat.le_refl _) hm
    exact ⟨o, h1, wi_trans h2 w⟩
theorem clr_mem {Ls Ms : List Nat} (h : ∀ m, m ∈ Ls ↔ m ∈ Ms) (b : Nat) : clr Ls b = clr Ms b := by
  rw [Bool.eq_iff_iff, clr_iff, clr_iff]
  exact ⟨fun k m hm => k m ((h m).mpr hm), fun k m hm => k m ((h m).mp hm)⟩
/-- no lot is within another one -/
def Anti (Ls : List Nat) : Prop := ∀ m ∈ Ls, ∀ o ∈ Ls, wi o m = true → o = m
theorem anti_mini (ms : List Nat) : Anti (mini ms) := by
  intro m hm o ho w
  have h1 := (List.mem_filter.mp hm).2
  have h2 := (List.mem_filter.mp ho).1
  rw [Bool.not_eq_true', List.any_eq_false] at h1
  by_cases e : o = m
  · exact e
  · exact absurd (show (!(o == m) && wi o m) = true by rw [w, beq_eq_false_iff_ne.mpr e]; rfl) (h1 o h2)
/-- the lots are told by what is clear -/
theorem anti_mem {Ls Ms : List Nat} {n : Nat} (hL : Anti Ls) (hM : Anti Ms) (bL : ∀ m ∈ Ls, m < 2 ^ n) (h : ∀ b, b < 2 ^ n → clr Ls b = clr Ms b) (m : Nat) (hm : m ∈ Ls) : m ∈ Ms := by
  have h1 : clr Ls m = false := clr_false.mpr ⟨m, hm, wi_refl m⟩
  rw [h m (bL m hm), clr_false] at h1
  obtain ⟨o, ho, w⟩ := h1
  have h2 : clr Ms o = false := clr_false.mpr ⟨o, ho, wi_refl o⟩
  rw [← h o (Nat.lt_of_le_of_lt (wi_le w) (bL m hm)), clr_false] at h2
  obtain ⟨p, hp, w2⟩ := h2
  have e := hL m hm p hp (wi_trans w2 w)
  subst e
  have e2 : o = p := Nat.le_antisymm (wi_le w) (wi_le w2)
  rw [← e2]; exact ho
end MB

set_option Elab.async false
set_option linter.all false
set_option maxRecDepth 100000
set_option maxHeartbeats 2000000
/-! MB2: how many crowds: layers, shadows, crowds none of which is within another one. Plain Lean. -/
namespace MB
open Sim
/-- how many persons -/
def pc (m : Nat) : Nat := (cr m).length
def bitsL (m : Nat) : List Nat := (List.range m).filter fun i => m.testBit i
theorem cr_bits (m : Nat) : cr m = (bitsL m).map fun i : Nat => (i : Int) := rfl
theorem pc_bits (m : Nat) : pc m = (bitsL m).length := by unfold pc; rw [cr_bits, List.length_map]
theorem mem_bitsL {m i : Nat} : i ∈ bitsL m ↔ m.testBit i = true := by
  unfold bitsL
  rw [List.mem_filter, List.mem_range]
  refine ⟨fun h => h.2, fun h => ⟨?_, h⟩⟩
  exact Nat.lt_of_lt_of_le Nat.lt_two_pow_self (Nat.ge_two_pow_of_testBit h)
theorem nodup_bitsL (m : Nat) : (bitsL m).Nodup := List.nodup_range.filter _
theorem perm_of {α : Type} {l m : List α} (h : l.Nodup) (k : m.Nodup) (e : ∀ x, x ∈ l ↔ x ∈ m) : l.Perm m := (List.perm_ext_iff_of_nodup h k).mpr e
theorem pc_in {U : List Nat} {m : Nat} (hU : U.Nodup) (h : ∀ i, m.testBit i = true → i ∈ U) : (U.filter fun i => m.testBit i).length = pc m := by
  rw [pc_bits]
  refine (perm_of (hU.filter _) (nodup_bitsL m) fun x => ?_).length_eq
  rw [List.mem_filter, mem_bitsL]
  exact ⟨fun q => q.2, fun q => ⟨h x q, q⟩⟩
theorem len_sub {α : Type} [DecidableEq α] : ∀ {A B : List α}, A.Nodup → (∀ x ∈ A, x ∈ B) → A.length ≤ B.length
  | [], _, _, _ => Nat.zero_le _
  | a :: A, B, nd, h => by
    have ha := h a List.mem_cons_self
    have nd' := List.nodup_cons.mp nd
    have ih := len_sub (A := A) (B := B.erase a) nd'.2 fun x hx => (List.mem_erase_of_ne (fun e => nd'.1 (by rw [← e]; exact hx))).mpr (h x (List.mem_cons_of_mem _ hx))
    rw [List.length_erase_of_mem ha] at ih
    have : 0 < B.length := List.length_pos_of_mem ha
    rw [List.length_cons]
    omega
/-! ### without one person -/
def rm (m x : Nat) : Nat := m ^^^ 2 ^ x
theorem rm_bit {m x : Nat} (h : m.testBit x = true) (i : Nat) : (rm m x).testBit i = (m.testBit i && !decide (i = x)) := by
  unfold rm
  rw [Nat.testBit_xor, Nat.testBit_two_pow]
  by_cases e : i = x
  · subst e; rw [h]; simp
  · have e' : ¬ x = i := fun z => e z.symm
    rw [decide_eq_false e, decide_eq_false e']; simp
theorem rm_inj {m o x : Nat} (h : rm m x = rm o x) : m = o := by
  have : (m ^^^ 2 ^ x) ^^^ 2 ^ x = (o ^^^ 2 ^ x) ^^^ 2 ^ x := congrArg (· ^^^ 2 ^ x) h
  rw [Nat.xor_assoc, Nat.xor_assoc, Nat.xor_self, Nat.xor_zero, Nat.xor_zero] at this
  exact this
theorem rm_comm (m x y : Nat) : rm (rm m x) y = rm (rm m y) x := by
  unfold rm
  rw [Nat.xor_assoc, Nat.xor_assoc, Nat.xor_comm (2 ^ x)]
theorem cr_rm {m x : Nat} (h : m.testBit x = true) : cr (rm m x) = (cr m).filter fun p => !decide (p = (x : Int)) := by
  letI : TabT := ⟨[]⟩
  refine sd_unique intTot ?_ ?_ ?_
  · refine perm_of ?_ ?_ fun p => ?_
    · exact ((cr_sorted _).imp fun h => by omega)
    · exact List.Pairwise.filter _ ((cr_sorted _).imp fun h => by omega)
    · rw [mem_cr, List.mem_filter, mem_cr]
      constructor
      · rintro ⟨i, hi, rfl⟩
        rw [rm_bit h, Bool.and_eq_true] at hi
        refine ⟨⟨i, hi.1, rfl⟩, ?_⟩
        have := hi.2
        simp only [Bool.not_eq_true', decide_eq_false_iff_not] at this ⊢
        omega
      · rintro ⟨⟨i, hi, rfl⟩, hx⟩
        refine ⟨i, ?_, rfl⟩
        rw [rm_bit h, hi]
        simp only [Bool.not_eq_true', decide_eq_false_iff_not, Bool.true_and] at hx ⊢
        omega
  · exact (cr_sorted _).imp fun h => decide_eq_false (by omega)
  · exact List.Pairwise.filter _ ((cr_sorted _).imp fun h => decide_eq_false (by omega))
theorem bit_lt {n m x : Nat} (hm : m < 2 ^ n) (h : m.testBit x = true) : x < n := (Nat.pow_lt_pow_iff_right (by decide)).mp (Nat.lt_of_le_of_lt (Nat.ge_two_pow_of_testBit h) hm)
theorem rm_lt {n m x : Nat} (hm : m < 2 ^ n) (h : m.testBit x = true) : rm m x < 2 ^ n := Nat.xor_lt_two_pow hm ((Nat.pow_lt_pow_iff_right (by decide)).mpr (bit_lt hm h))
theorem pc_rm {m x : Nat} (h : m.testBit x = true) : pc (rm m x) + 1 = pc m := by
  have e : (bitsL m).Perm (x :: bitsL (rm m x)) := by
    refine perm_of (nodup_bitsL m) (List.nodup_cons.mpr ⟨fun q => ?_, nodup_bitsL _⟩) fun i => ?_
    · rw [mem_bitsL, rm_bit h] at q; simp at q
    · rw [List.mem_cons, mem_bitsL, mem_bitsL, rm_bit h]
      by_cases e : i = x
      · subst e; simp [h]
      · simp [e]
  rw [pc_bits, pc_bits, e.length_eq, List.length_cons]
/-! ### sums -/
theorem sum_le {α : Type} (f g : α → Nat) : ∀ l : List α, (∀ x ∈ l, f x ≤ g x) → (l.map f).sum ≤ (l.map g).sum
  | [], _ => Nat.le_refl _
  | x :: l, h => by
    rw [List.map_cons, List.map_cons, List.sum_cons, List.sum_cons]
    exact Nat.add_le_add (h x List.mem_cons_self) (sum_le f g l fun y hy => h y (List.mem_cons_of_mem _ hy))
theorem sum_eq {α : Type} (f g : α → Nat) (l : List α) (h : ∀ x ∈ l, f x = g x) : (l.map f).sum = (l.map g).sum := by rw [List.map_congr_left h]
theorem sum_const {α : Type} (c : Nat) : ∀ l : List α, (l.map fun _ => c).sum = l.length * c
  | [] => by simp
  | x :: l => by rw [List.map_cons, List.sum_cons, sum_const c l, List.length_cons, Nat.succ_mul, Nat.add_comm]
theorem sum_add {α : Type} (f g : α → Nat) : ∀ l : List α, (l.map fun x => f x + g x).sum = (l.map f).sum + (l.map g).sum
  | [] => rfl
  | x :: l => by rw [List.map_cons, List.map_cons, List.map_cons, List.sum_cons, List.sum_cons, List.sum_cons, sum_add f g l]; omega
theorem sum_swap {α β : Type} (f : α → β → Nat) : ∀ (l : List α) (m : List β), (l.map fun x => (m.map fun y => f x y).sum).sum = (m.map fun y => (l.map fun x => f x y).sum).sum
  | [], m => by
    have := sum_const 0 m
    simp only [List.map_nil, List.sum_nil]
    rw [this, Nat.mul_zero]
  | x :: l, m => by
    rw [List.map_cons, List.sum_cons, sum_swap f l m, ← sum_add]
    exact sum_eq _ _ _ fun y _ => by rw [List.map_cons, List.sum_cons]
theorem sum_if {α : Type} (p : α → Bool) (f : α → Nat) : ∀ l : List α, (l.map fun x => if p x = true then f x else 0).sum = ((l.filter p).map f).sum
  | [] => rfl
  | x :: l => by
    rw [List.map_cons, List.sum_cons, sum_if p f l]
    by_cases h : p x = true
    · rw [if_pos h, List.filter_cons_of_pos h, List.map_cons, List.sum_cons]
    · rw [if_neg h, List.filter_cons_of_neg h, Nat.zero_add]
theorem sum_mul {α : Type} (c : Nat) (f : α → Nat) : ∀ l : List α, (l.map fun x => c * f x).sum = c * (l.map f).sum
  | [] => by simp
  | x :: l => by rw [List.map_cons, List.map_cons, List.sum_cons, List.sum_cons, sum_mul c f l, Nat.mul_add]
/-- some one is above the mean -/
theorem above {α : Type} (f : α → Nat) : ∀ l : List α, l ≠ [] → ∃ x ∈ l, (l.map f).sum ≤ l.length * f x
  | [x], _ => ⟨x, List.mem_cons_self, by simp⟩
  | x :: y :: l, _ => by
    obtain ⟨z, hz, h⟩ := above f (y :: l) (by simp)
    rw [List.map_cons, List.sum_cons, List.length_cons]
    simp only [Nat.add_mul, Nat.one_mul]
    by_cases q : f x ≤ f z
    · exact ⟨z, List.mem_cons_of_mem _ hz, by omega⟩
    · refine ⟨x, List.mem_cons_self, ?_⟩
      have : (y :: l).length * f z ≤ (y :: l).length * f x := Nat.mul_le_mul_left _ (by omega)
      omega
/-! ### none within another one: the sum of 1 over the layers -/
def fac : Nat → Nat
  | 0 => 1
  | n + 1 => (n + 1) * fac n
theorem fac_pos : ∀ n, 0 < fac n
  | 0 => Nat.one_pos
  | n + 1 => Nat.mul_pos (Nat.succ_pos n) (fac_pos n)
theorem pc_le {U : List Nat} {m : Nat} (hU : U.Nodup) (h : ∀ i, m.testBit i = true → i ∈ U) : pc m ≤ U.length := by
  rw [← pc_in hU h]; exact List.length_filter_le _ _
theorem filter_not_len {α : Type} (p : α → Bool) : ∀ l : List α, (l.filter p).length + (l.filter fun x => !p x).length = l.length
  | [] => rfl
  | x :: l => by
    have ih := filter_not_len p l
    by_cases h : p x = true
    · rw [List.filter_cons_of_pos h, List.filter_cons_of_neg (by rw [h]; decide), List.length_cons, List.length_cons]; omega
    · rw [List.filter_cons_of_neg h, List.filter_cons_of_pos (by simpa using h), List.length_cons, List.length_cons]; omega
theorem lym : ∀ (u : Nat) (U F : List Nat), U.length = u → U.Nodup → F.Nodup → Anti F → (∀ m ∈ F, ∀ i, m.testBit i = true → i ∈ U) → (F.map fun m => fac (pc m) * fac (u - pc m)).sum ≤ fac u
  | 0, U, F, hu, hU, hF, _, h => by
    have e : U = [] := List.length_eq_zero_iff.mp hu
    subst e
    have z : ∀ m ∈ F, m = 0 := fun m hm => Nat.eq_of_testBit_eq fun i => by
      rw [Nat.zero_testBit, Bool.eq_false_iff]
      exact fun q => nomatch h m hm i q
    have l1 : F.length ≤ [0].length := len_sub hF fun x hx => by rw [z x hx]; exact List.mem_cons_self
    have : (F.map fun m => fac (pc m) * fac (0 - pc m)).sum = F.length * 1 := by
      rw [← sum_const]
      exact sum_eq _ _ _ fun m hm => by rw [z m hm]; rfl
    rw [this]
    have : F.length ≤ 1 := l1
    show _ ≤ 1
    omega
  | u + 1, U, F, hu, hU, hF, hA, h => by
    by_cases full : ∃ m ∈ F, pc m = u + 1
    · obtain ⟨m, hm, e⟩ := full
      -- m is all of U
      have all : ∀ i ∈ U, m.testBit i = true := fun i hi => by
        have h1 := pc_in hU (h m hm)
        have h2 := filter_not_len (fun i => m.testBit i) U
        have h3 : (U.filter fun i => !m.testBit i) = [] := List.length_eq_zero_iff.mp (by omega)
        rw [List.filter_eq_nil_iff] at h3
        simpa using h3 i hi
      have one : ∀ o ∈ F, o = m := fun o ho => hA m hm o ho (wi_iff.mpr fun i hi => all i (h o ho i hi))
      have l1 : F.length ≤ [m].length := len_sub hF fun x hx => by rw [one x hx]; exact List.mem_cons_self
      have : (F.map fun m => fac (pc m) * fac (u + 1 - pc m)).sum = F.length * fac (u + 1) := by
        rw [← sum_const]
        exact sum_eq _ _ _ fun o ho => by rw [one o ho, e, Nat.sub_self]; show fac (u + 1) * 1 = _; rw [Nat.mul_one]
      rw [this]
      have l2 : F.length ≤ 1 := l1
      calc F.length * fac (u + 1) ≤ 1 * fac (u + 1) := Nat.mul_le_mul_right _ l2
        _ = fac (u + 1) := Nat.one_mul _
    · have less : ∀ m ∈ F, pc m ≤ u := fun m hm => by
        have h1 := pc_le hU (h m hm)
        have h2 : pc m ≠ u + 1 := fun e => full ⟨m, hm, e⟩
        omega
      have step : ∀ m ∈ F, fac (pc m) * fac (u + 1 - pc m) = (U.map fun x => if (!m.testBit x) = true then fac (pc m) * fac (u - pc m) else 0).sum := fun m hm => by
        have h1 := pc_in hU (h m hm)
        have h2 := filter_not_len (fun i => m.testBit i) U
        have h3 := less m hm
        rw [sum_if (fun x => !m.testBit x) (fun _ => fac (pc m) * fac (u - pc m)), sum_const]
        have h4 : (U.filter fun x => !m.testBit x).length = u + 1 - pc m := by omega
        rw [h4, show u + 1 - pc m = (u - pc m) + 1 by omega]
        show fac (pc m) * ((u - pc m + 1) * fac (u - pc m)) = _
        rw [Nat.mul_left_comm]
      rw [sum_eq _ _ _ step, sum_swap]
      have each : ∀ x ∈ U, (F.map fun m => if (!m.testBit x) = true then fac (pc m) * fac (u - pc m) else 0).sum ≤ fac u := fun x hx => by
        rw [sum_if (fun m => !m.testBit x) (fun m => fac (pc m) * fac (u - pc m))]
        refine lym u (U.erase x) (F.filter fun m => !m.testBit x) ?_ (hU.erase x) (hF.filter _) (fun m hm o ho w => hA m (List.mem_filter.mp hm).1 o (List.mem_filter.mp ho).1 w) fun m hm i hi => ?_
        · rw [List.length_erase_of_mem hx]; omega
        · obtain ⟨h1, h2⟩ := List.mem_filter.mp hm
          refine (List.mem_erase_of_ne fun e => ?_).mpr (h m h1 i hi)
          subst e
          rw [hi] at h2
          cases h2
      refine Nat.le_trans (sum_le _ _ _ each) ?_
      rw [sum_const, hu]
      exact Nat.le_refl _
/-! ### shadows -/
def lsTab : List (List Nat) := [[0, 1, 1, 1, 1, 1, 1, 1, 1, 1, 1, 1, 1, 1, 1, 1, 1, 1, 1, 1, 1], [0, 2, 3, 3, 4, 4, 4, 5, 5, 5, 5, 6, 6, 6, 6, 6, 7, 7, 7, 7, 7], [0, 3, 5, 6, 6, 8, 9, 9, 10, 10, 10, 12, 13, 13, 14, 14, 14, 15, 15, 15, 15], [0, 4, 7, 9, 10, 10, 13, 15, 16, 16, 18, 19, 19, 20, 20, 20, 23, 25, 26, 26, 28], [0, 5, 9, 12, 14, 15, 15, 19, 22, 24, 25, 25, 28, 30, 31, 31, 33, 34, 34, 35, 35], [0, 6, 11, 15, 18, 20, 21, 21, 26, 30, 33, 35, 36, 36, 40, 43, 45, 46, 46, 49, 51]]
def ls (m k : Nat) : Nat := (((lsTab[k - 1]?).bind fun l => l[m]?)).getD 0
theorem ls_check : ((List.range 7).all fun k => (List.range 21).all fun m => (List.range (m + 1)).all fun d => decide (k < 2) || decide (6 * d < k * m) || decide (ls m k ≤ ls d (k - 1) + max d (ls (m - d) k))) = true := by decide +kernel
theorem ls_step {k m d : Nat} (hk : 2 ≤ k) (hk6 : k ≤ 6) (hm : m ≤ 20) (hd : d ≤ m) (h : k * m ≤ 6 * d) : ls m k ≤ ls d (k - 1) + max d (ls (m - d) k) := by
  have q := List.all_eq_true.mp (List.all_eq_true.mp (List.all_eq_true.mp ls_check k (List.mem_range.mpr (by omega))) m (List.mem_range.mpr (by omega))) d (List.mem_range.mpr (by omega))
  rw [Bool.or_eq_true, Bool.or_eq_true, decide_eq_true_iff, decide_eq_true_iff, decide_eq_true_iff] at q
  rcases q with (q | q) | q
  · omega
  · omega
  · exact q
theorem ls_one {m : Nat} (h : m ≤ 20) : ls m 1 ≤ 1 := by
  have : ((List.range 21).all fun m => decide (ls m 1 ≤ 1)) = true := by decide +kernel
  exact of_decide_eq_true (List.all_eq_true.mp this m (List.mem_range.mpr (by omega)))
theorem ls_zero {k : Nat} (h : k ≤ 6) : ls 0 k = 0 := by
  have : ((List.range 7).all fun k => decide (ls 0 k = 0)) = true := by decide +kernel
  exact of_decide_eq_true (List.all_eq_true.mp this k (List.mem_range.mpr (by omega)))
/-- Kruskal, Katona, for up to six people -/
theorem kk : ∀ (u : Nat) (U F S : List Nat) (k : Nat), U.length = u → u ≤ 6 → 1 ≤ k → k ≤ 6 → F.length ≤ 20 → U.Nodup → F.Nodup → S.Nodup → (∀ m ∈ F, pc m = k ∧ ∀ i, m.testBit i = true → i ∈ U) → (∀ m ∈ F, ∀ i, m.testBit i = true → rm m i ∈ S) → ls F.length k ≤ S.length
  | u, U, [], S, k, _, _, _, hk, _, _, _, _, _, _ => by
    show ls 0 k ≤ _
    rw [ls_zero hk]; exact Nat.zero_le _
  | 0, U, m :: F, S, k, hu, _, h1, _, _, _, _, _, h, _ => by
    have e : U = [] := List.length_eq_zero_iff.mp hu
    subst e
    obtain ⟨q1, q2⟩ := h m List.mem_cons_self
    have := pc_le (U := []) List.nodup_nil q2
    rw [q1] at this
    exact absurd this (by simp; omega)
  | u + 1, U, f :: F', S, k, hu, h6, h1, hk, h20, hU, hF, hS, h, hS2 => by
    generalize hFF : f :: F' = F at h20 hF h hS2 ⊢
    have hne : F ≠ [] := by rw [← hFF]; simp
    by_cases k1 : k = 1
    · subst k1
      refine Nat.le_trans (ls_one h20) ?_
      have hf : f ∈ F := by rw [← hFF]; exact List.mem_cons_self
      obtain ⟨q1, q2⟩ := h f hf
      rw [pc_bits] at q1
      obtain ⟨i, hi⟩ := List.exists_mem_of_length_pos (l := bitsL f) (by omega)
      exact List.length_pos_of_mem (hS2 f hf i (mem_bitsL.mp hi))
    · -- who is in most of them
      obtain ⟨x, hx, hab⟩ := above (fun x => (F.filter fun m => m.testBit x).length) U (by intro e; rw [e] at hu; cases hu)
      have tot : (U.map fun x => (F.filter fun m => m.testBit x).length).sum = F.length * k := by
        have e1 : ∀ x ∈ U, (F.filter fun m => m.testBit x).length = (F.map fun m => if m.testBit x = true then 1 else 0).sum := fun x _ => by
          rw [sum_if (fun m : Nat => m.testBit x) (fun _ => 1), sum_const, Nat.mul_one]
        rw [sum_eq _ _ _ e1, sum_swap]
        have e2 : ∀ m ∈ F, (U.map fun x => if m.testBit x = true then 1 else 0).sum = k := fun m hm => by
          rw [sum_if (fun x : Nat => m.testBit x) (fun _ => 1), sum_const, Nat.mul_one, pc_in hU (h m hm).2, (h m hm).1]
        rw [sum_eq _ _ _ e2, sum_const]
      rw [tot, hu] at hab
      have hsplit := filter_not_len (fun m : Nat => m.testBit x) F
      have hsplitS := filter_not_len (fun m : Nat => m.testBit x) S
      have lU : (U.erase x).length = u := by rw [List.length_erase_of_mem hx, hu]; rfl
      have nU : (U.erase x).Nodup := hU.erase x
      -- those with x, x left out
      have nd1 : ((F.filter fun m => m.testBit x).map fun m => rm m x).Nodup := by
        refine List.pairwise_map.mpr ((List.Pairwise.filter _ hF).imp fun hne e => hne (rm_inj e))
      have nd2 : ((S.filter fun m => m.testBit x).map fun m => rm m x).Nodup := by
        refine List.pairwise_map.mpr ((List.Pairwise.filter _ hS).imp fun hne e => hne (rm_inj e))
      have a1 := kk u (U.erase x) ((F.filter fun m => m.testBit x).map fun m => rm m x) ((S.filter fun m => m.testBit x).map fun m => rm m x) (k - 1) lU (by omega) (by omega) (by omega) (by rw [List.length_map]; omega) nU nd1 nd2 (fun o ho => by
        obtain ⟨m, hm, rfl⟩ := List.mem_map.mp ho
        obtain ⟨hm1, hm2⟩ := List.mem_filter.mp hm
        have hp := pc_rm hm2
        refine ⟨by have := (h m hm1).1; omega, fun i hi => ?_⟩
        rw [rm_bit hm2, Bool.and_eq_true] at hi
        refine (List.mem_erase_of_ne fun e => ?_).mpr ((h m hm1).2 i hi.1)
        rw [e] at hi
        simp at hi) (fun o ho i hi => by
        obtain ⟨m, hm, rfl⟩ := List.mem_map.mp ho
        obtain ⟨hm1, hm2⟩ := List.mem_filter.mp hm
        rw [rm_bit hm2, Bool.and_eq_true] at hi
        have hne : ¬ i = x := by simpa using hi.2
        refine List.mem_map.mpr ⟨rm m i, List.mem_filter.mpr ⟨hS2 m hm1 i hi.1, ?_⟩, rm_comm m i x⟩
        rw [rm_bit hi.1, hm2, decide_eq_false (fun e => hne e.symm)]
        rfl)
      rw [List.length_map, List.length_map] at a1
      -- those without x
      have a2 := kk u (U.erase x) (F.filter fun m => !m.testBit x) (S.filter fun m => !m.testBit x) k lU (by omega) h1 hk (by omega) nU (List.Pairwise.filter _ hF) (List.Pairwise.filter _ hS) (fun m hm => by
        obtain ⟨hm1, hm2⟩ := List.mem_filter.mp hm
        refine ⟨(h m hm1).1, fun i hi => (List.mem_erase_of_ne fun e => ?_).mpr ((h m hm1).2 i hi)⟩
        subst e
        rw [hi] at hm2
        cases hm2) (fun m hm i hi => by
        obtain ⟨hm1, hm2⟩ := List.mem_filter.mp hm
        refine List.mem_filter.mpr ⟨hS2 m hm1 i hi, ?_⟩
        rw [rm_bit hi]
        have : m.testBit x = false := by simpa using hm2
        rw [this]
        rfl)
      have a3 : (F.filter fun m => m.testBit x).length ≤ (S.filter fun m => !m.testBit x).length := by
        rw [← List.length_map (f := fun m => rm m x)]
        refine len_sub nd1 fun o ho => ?_
        obtain ⟨m, hm, rfl⟩ := List.mem_map.mp ho
        obtain ⟨hm1, hm2⟩ := List.mem_filter.mp hm
        refine List.mem_filter.mpr ⟨hS2 m hm1 x hm2, ?_⟩
        rw [rm_bit hm2]
        simp
      have hmul : k * F.length ≤ 6 * (F.filter fun m => m.testBit x).length := by
        rw [Nat.mul_comm]
        refine Nat.le_trans hab (Nat.mul_le_mul_right _ h6)
      have st := ls_step (m := F.length) (d := (F.filter fun m => m.testBit x).length) (by omega) hk h20 (by omega) hmul
      rw [show F.length - (F.filter fun m => m.testBit x).length = (F.filter fun m => !m.testBit x).length by omega] at st
      omega
/-! ### some persons, in order -/
theorem bits_exist {n : Nat} : ∀ l : List Int, (∀ x ∈ l, 0 ≤ x ∧ x < n) → ∃ b, b < 2 ^ n ∧ ∀ i : Nat, b.testBit i = true ↔ (i : Int) ∈ l
  | [], _ => ⟨0, Nat.pow_pos (by decide), fun i => by simp⟩
  | x :: l, h => by
    obtain ⟨b, hb, q⟩ := bits_exist l fun y hy => h y (List.mem_cons_of_mem _ hy)
    obtain ⟨h0, hn⟩ := h x List.mem_cons_self
    refine ⟨b ||| 2 ^ x.toNat, Nat.or_lt_two_pow hb ((Nat.pow_lt_pow_iff_right (by decide)).mpr (by omega)), fun i => ?_⟩
    rw [Nat.testBit_or, Nat.testBit_two_pow, Bool.or_eq_true, q i, List.mem_cons, decide_eq_true_iff]
    constructor
    · rintro (z | z)
      · exact .inr z
      · exact .inl (by omega)
    · rintro (z | z)
      · exact .inr (by omega)
      · exact .inl z
theorem sort_cr {n : Nat} {l : List Int} (nd : l.Nodup) (h : ∀ x ∈ l, 0 ≤ x ∧ x < n) : ∃ b, b < 2 ^ n ∧ isort ltI l = cr b ∧ (cr b).length = l.length := by
  letI : TabT := ⟨[]⟩
  obtain ⟨b, hb, q⟩ := bits_exist l h
  have p : l.Perm (cr b) := perm_of nd ((cr_sorted b).imp fun h => by omega) fun x => by
    rw [mem_cr]
    constructor
    · intro hx
      refine ⟨x.toNat, (q x.toNat).mpr ?_, ?_⟩
      · have := h x hx
        rw [show ((x.toNat : Nat) : Int) = x by omega]; exact hx
      · have := h x hx; omega
    · rintro ⟨i, hi, rfl⟩
      exact (q i).mp hi
  refine ⟨b, hb, ?_, p.length_eq.symm⟩
  exact sd_unique intTot ((isort_perm l).trans p) (isort_sd intTot _) ((cr_sorted b).imp fun h => decide_eq_false (by omega))
end MB

set_option Elab.async false
set_option linter.all false
set_option maxRecDepth 100000
set_option maxHeartbeats 2000000
namespace LW
open PySem PySem.Spec L2 Sim
open PyProof.Rows hiding St
def topS (i : Nat) : Stmt := PySem.Challenge.pw_clearhall_k91_whole_who_adds_last.main.body.getD i (.Pass ⟨0, 0, 0, 0⟩)
def fuel : Nat := 2097152
abbrev scp0 : Scope := { kind := PySem.ScopeKind.function, names := [(PySem.Str.ofString ".0", PySem.NameKind.local), (PySem.Str.ofString "bits", PySem.NameKind.cell), (PySem.Str.ofString "any", PySem.NameKind.globalImplicit), (PySem.Str.ofString "masks", PySem.NameKind.cell)], isGenerator := false, isCoroutine := false, more := [] }
abbrev scp1 : Scope := { kind := PySem.ScopeKind.function, names := [(PySem.Str.ofString ".0", PySem.NameKind.local), (PySem.Str.ofString "lot", PySem.NameKind.local), (PySem.Str.ofString "tuple", PySem.NameKind.globalImplicit), (PySem.Str.ofString "by", PySem.NameKind.cell)], isGenerator := false, isCoroutine := false, more := [] }
abbrev scp2 : Scope := { kind := PySem.ScopeKind.function, names := [(PySem.Str.ofString ".0", PySem.NameKind.local), (PySem.Str.ofString "lot", PySem.NameKind.local), (PySem.Str.ofString "all", PySem.NameKind.globalImplicit), (PySem.Str.ofString "crowd", PySem.NameKind.cell)], isGenerator := false, isCoroutine := false, more := [] }
structure Facts (K : PySem.W.Frag) (mg : Str → Option Value) where
  a_is_integer : Addr
  d_is_integer : FuncData
  F_is_integer : L2.Fun K "is_integer" "is_integer" (topS 12) a_is_integer d_is_integer
  b_is_integer : Binds K d_is_integer ["thing"] []
  g_is_integer : mg "is_integer" = some (.ref a_is_integer)
  k_is_integer : PySem.W.keepIn K (.ref a_is_integer) = true
  a_is_within : Addr
  d_is_within : FuncData
  F_is_within : L2.Fun K "is_within" "is_within" (topS 13) a_is_within d_is_within
  b_is_within : Binds K d_is_within ["thing", "least", "most"] []
  g_is_within : mg "is_within" = some (.ref a_is_within)
  k_is_within : PySem.W.keepIn K (.ref a_is_within) = true
  a_is_listed : Addr
  d_is_listed : FuncData
  F_is_listed : L2.Fun K "is_listed" "is_listed" (topS 14) a_is_listed d_is_listed
  b_is_listed : Binds K d_is_listed ["thing"] []
  g_is_listed : mg "is_listed" = some (.ref a_is_listed)
  k_is_listed : PySem.W.keepIn K (.ref a_is_listed) = true
  a_are_ascending : Addr
  d_are_ascending : FuncData
  F_are_ascending : L2.Fun K "are_ascending" "are_ascending" (topS 15) a_are_ascending d_are_ascending
  b_are_ascending : Binds K d_are_ascending ["things"] []
  g_are_ascending : mg "are_ascending" = some (.ref a_are_ascending)
  k_are_ascending : PySem.W.keepIn K (.ref a_are_ascending) = true
  a_are_persons : Addr
  d_are_persons : FuncData
  F_are_persons : L2.Fun K "are_persons" "are_persons" (topS 16) a_are_persons d_are_persons
  b_are_persons : Binds K d_are_persons ["people", "thing"] []
  g_are_persons : mg "are_persons" = some (.ref a_are_persons)
  k_are_persons : PySem.W.keepIn K (.ref a_are_persons) = true
  a_is_crowd : Addr
  d_is_crowd : FuncData
  F_is_crowd : L2.Fun K "is_crowd" "is_crowd" (topS 17) a_is_crowd d_is_crowd
  b_is_crowd : Binds K d_is_crowd ["people", "thing"] []
  g_is_crowd : mg "is_crowd" = some (.ref a_is_crowd)
  k_is_crowd : PySem.W.keepIn K (.ref a_is_crowd) = true
  a_is_lot : Addr
  d_is_lot : FuncData
  F_is_lot : L2.Fun K "is_lot" "is_lot" (topS 18) a_is_lot d_is_lot
  b_is_lot : Binds K d_is_lot ["people", "thing"] []
  g_is_lot : mg "is_lot" = some (.ref a_is_lot)
  k_is_lot : PySem.W.keepIn K (.ref a_is_lot) = true
  a_check_crowd : Addr
  d_check_crowd : FuncData
  F_check_crowd : L2.Fun K "check_crowd" "check_crowd" (topS 19) a_check_crowd d_check_crowd
  b_check_crowd : Binds K d_check_crowd ["people", "thing"] []
  g_check_crowd : mg "check_crowd" = some (.ref a_check_crowd)
  k_check_crowd : PySem.W.keepIn K (.ref a_check_crowd) = true
  a_check_people : Addr
  d_check_people : FuncData
  F_check_people : L2.Fun K "check_people" "check_people" (topS 20) a_check_people d_check_people
  b_check_people : Binds K d_check_people ["thing", "most"] []
  g_check_people : mg "check_people" = some (.ref a_check_people)
  k_check_people : PySem.W.keepIn K (.ref a_check_people) = true
  a_check_many : Addr
  d_check_many : FuncData
  F_check_many : L2.Fun K "check_many" "check_many" (topS 21) a_check_many d_check_many
  b_check_many : Binds K d_check_many ["number", "most"] []
  g_check_many : mg "check_many" = some (.ref a_check_many)
  k_check_many : PySem.W.keepIn K (.ref a_check_many) = true
  a_bits_of : Addr
  d_bits_of : FuncData
  F_bits_of : L2.Fun K "bits_of" "bits_of" (topS 22) a_bits_of d_bits_of
  b_bits_of : Binds K d_bits_of ["crowd"] []
  g_bits_of : mg "bits_of" = some (.ref a_bits_of)
  k_bits_of : PySem.W.keepIn K (.ref a_bits_of) = true
  a_crowd_of : Addr
  d_crowd_of : FuncData
  F_crowd_of : L2.Fun K "crowd_of" "crowd_of" (topS 23) a_crowd_of d_crowd_of
  b_crowd_of : Binds K d_crowd_of ["bits"] []
  g_crowd_of : mg "crowd_of" = some (.ref a_crowd_of)
  k_crowd_of : PySem.W.keepIn K (.ref a_crowd_of) = true
  a_holds : Addr
  d_holds : FuncData
  F_holds : L2.Fun K "holds" "holds" (topS 24) a_holds d_holds
  b_holds : Binds K d_holds ["bits", "some"] []
  g_holds : mg "holds" = some (.ref a_holds)
  k_holds : PySem.W.keepIn K (.ref a_holds) = true
  a_all_of : Addr
  d_all_of : FuncData
  F_all_of : L2.Fun K "all_of" "all_of" (topS 25) a_all_of d_all_of
  b_all_of : Binds K d_all_of ["people"] []
  g_all_of : mg "all_of" = some (.ref a_all_of)
  k_all_of : PySem.W.keepIn K (.ref a_all_of) = true
  a_first_wrong_lot : Addr
  d_first_wrong_lot : FuncData
  F_first_wrong_lot : L2.Fun K "first_wrong_lot" "first_wrong_lot" (topS 29) a_first_wrong_lot d_first_wrong_lot
  b_first_wrong_lot : Binds K d_first_wrong_lot ["people", "lots"] []
  g_first_wrong_lot : mg "first_wrong_lot" = some (.ref a_first_wrong_lot)
  k_first_wrong_lot : PySem.W.keepIn K (.ref a_first_wrong_lot) = true
  a_is_clear_bits : Addr
  d_is_clear_bits : FuncData
  F_is_clear_bits : L2.Fun K "is_clear_bits" "is_clear_bits" (topS 32) a_is_clear_bits d_is_clear_bits
  b_is_clear_bits : Binds K d_is_clear_bits ["book", "bits"] []
  g_is_clear_bits : mg "is_clear_bits" = some (.ref a_is_clear_bits)
  k_is_clear_bits : PySem.W.keepIn K (.ref a_is_clear_bits) = true
  a_is_clear : Addr
  d_is_clear : FuncData
  F_is_clear : L2.Fun K "is_clear" "is_clear" (topS 33) a_is_clear d_is_clear
  b_is_clear : Binds K d_is_clear ["book", "thing"] []
  g_is_clear : mg "is_clear" = some (.ref a_is_clear)
  k_is_clear : PySem.W.keepIn K (.ref a_is_clear) = true
  a_minimal : Addr
  d_minimal : FuncData
  F_minimal : L2.Fun K "minimal" "minimal" (topS 34) a_minimal d_minimal
  b_minimal : Binds K d_minimal ["heaps"] []
  g_minimal : mg "minimal" = some (.ref a_minimal)
  k_minimal : PySem.W.keepIn K (.ref a_minimal) = true
  a_Book_keep : Addr
  d_Book_keep : FuncData
  F_Book_keep : L2.Fun K "keep" "Book.keep" (inClass (topS 30) 1) a_Book_keep d_Book_keep
  b_Book_keep : Binds K d_Book_keep ["self", "people", "lots"] []
  fn_Book_keep : PySem.W.isFn K (.ref a_Book_keep) = true
  a_RawBook___init__ : Addr
  d_RawBook___init__ : FuncData
  F_RawBook___init__ : L2.Fun K "__init__" "RawBook.__init__" (inClass (topS 31) 0) a_RawBook___init__ d_RawBook___init__
  b_RawBook___init__ : Binds K d_RawBook___init__ ["self", "people", "lots"] []
  fn_RawBook___init__ : PySem.W.isFn K (.ref a_RawBook___init__) = true
  a_made_of : Addr
  d_made_of : FuncData
  F_made_of : L2.Fun K "made_of" "made_of" (topS 35) a_made_of d_made_of
  b_made_of : Binds K d_made_of ["people", "heaps"] []
  g_made_of : mg "made_of" = some (.ref a_made_of)
  k_made_of : PySem.W.keepIn K (.ref a_made_of) = true
  a_book_of : Addr
  d_book_of : FuncData
  F_book_of : L2.Fun K "book_of" "book_of" (topS 36) a_book_of d_book_of
  b_book_of : Binds K d_book_of ["people", "heaps"] []
  g_book_of : mg "book_of" = some (.ref a_book_of)
  k_book_of : PySem.W.keepIn K (.ref a_book_of) = true
  a_adds_from : Addr
  d_adds_from : FuncData
  F_adds_from : L2.Fun K "adds_from" "adds_from" (topS 40) a_adds_from d_adds_from
  b_adds_from : Binds K d_adds_from ["book", "bits"] []
  g_adds_from : mg "adds_from" = some (.ref a_adds_from)
  k_adds_from : PySem.W.keepIn K (.ref a_adds_from) = true
  a_least_not : Addr
  d_least_not : FuncData
  F_least_not : L2.Fun K "least_not" "least_not" (topS 41) a_least_not d_least_not
  b_least_not : Binds K d_least_not ["some"] []
  g_least_not : mg "least_not" = some (.ref a_least_not)
  k_least_not : PySem.W.keepIn K (.ref a_least_not) = true
  a_check_clear : Addr
  d_check_clear : FuncData
  F_check_clear : L2.Fun K "check_clear" "check_clear" (topS 43) a_check_clear d_check_clear
  b_check_clear : Binds K d_check_clear ["book", "crowd"] []
  g_check_clear : mg "check_clear" = some (.ref a_check_clear)
  k_check_clear : PySem.W.keepIn K (.ref a_check_clear) = true
  a_Ranks___init__ : Addr
  d_Ranks___init__ : FuncData
  F_Ranks___init__ : L2.Fun K "__init__" "Ranks.__init__" (inClass (topS 42) 0) a_Ranks___init__ d_Ranks___init__
  b_Ranks___init__ : Binds K d_Ranks___init__ ["self", "book"] []
  fn_Ranks___init__ : PySem.W.isFn K (.ref a_Ranks___init__) = true
  a_Ranks_rank : Addr
  d_Ranks_rank : FuncData
  F_Ranks_rank : L2.Fun K "rank" "Ranks.rank" (inClass (topS 42) 1) a_Ranks_rank d_Ranks_rank
  b_Ranks_rank : Binds K d_Ranks_rank ["self", "bits"] []
  fn_Ranks_rank : PySem.W.isFn K (.ref a_Ranks_rank) = true
  a_rank_of : Addr
  d_rank_of : FuncData
  F_rank_of : L2.Fun K "rank_of" "rank_of" (topS 44) a_rank_of d_rank_of
  b_rank_of : Binds K d_rank_of ["book", "crowd"] []
  g_rank_of : mg "rank_of" = some (.ref a_rank_of)
  k_rank_of : PySem.W.keepIn K (.ref a_rank_of) = true
  a_adders_win : Addr
  d_adders_win : FuncData
  F_adders_win : L2.Fun K "adders_win" "adders_win" (topS 45) a_adders_win d_adders_win
  b_adders_win : Binds K d_adders_win ["book"] []
  g_adders_win : mg "adders_win" = some (.ref a_adders_win)
  k_adders_win : PySem.W.keepIn K (.ref a_adders_win) = true
  a_good_adds : Addr
  d_good_adds : FuncData
  F_good_adds : L2.Fun K "good_adds" "good_adds" (topS 46) a_good_adds d_good_adds
  b_good_adds : Binds K d_good_adds ["book", "crowd"] []
  g_good_adds : mg "good_adds" = some (.ref a_good_adds)
  k_good_adds : PySem.W.keepIn K (.ref a_good_adds) = true
  a_sum_of_ranks : Addr
  d_sum_of_ranks : FuncData
  F_sum_of_ranks : L2.Fun K "sum_of_ranks" "sum_of_ranks" (topS 47) a_sum_of_ranks d_sum_of_ranks
  b_sum_of_ranks : Binds K d_sum_of_ranks ["numbers"] []
  g_sum_of_ranks : mg "sum_of_ranks" = some (.ref a_sum_of_ranks)
  k_sum_of_ranks : PySem.W.keepIn K (.ref a_sum_of_ranks) = true
  a_shifted : Addr
  d_shifted : FuncData
  F_shifted : L2.Fun K "shifted" "shifted" (topS 49) a_shifted d_shifted
  b_shifted : Binds K d_shifted ["book", "by"] []
  g_shifted : mg "shifted" = some (.ref a_shifted)
  k_shifted : PySem.W.keepIn K (.ref a_shifted) = true
  a_check_room : Addr
  d_check_room : FuncData
  F_check_room : L2.Fun K "check_room" "check_room" (topS 50) a_check_room d_check_room
  b_check_room : Binds K d_check_room ["one", "other"] []
  g_check_room : mg "check_room" = some (.ref a_check_room)
  k_check_room : PySem.W.keepIn K (.ref a_check_room) = true
  a_beside : Addr
  d_beside : FuncData
  F_beside : L2.Fun K "beside" "beside" (topS 51) a_beside d_beside
  b_beside : Binds K d_beside ["one", "other"] []
  g_beside : mg "beside" = some (.ref a_beside)
  k_beside : PySem.W.keepIn K (.ref a_beside) = true
  a__law_hand : Addr
  d__law_hand : FuncData
  F__law_hand : L2.Fun K "_law_hand" "_law_hand" (topS 53) a__law_hand d__law_hand
  b__law_hand : Binds K d__law_hand ["script"] []
  g__law_hand : mg "_law_hand" = some (.ref a__law_hand)
  k__law_hand : PySem.W.keepIn K (.ref a__law_hand) = true
  a__law_draw : Addr
  d__law_draw : FuncData
  F__law_draw : L2.Fun K "_law_draw" "_law_draw" (topS 54) a__law_draw d__law_draw
  b__law_draw : Binds K d__law_draw ["hand", "many"] []
  g__law_draw : mg "_law_draw" = some (.ref a__law_draw)
  k__law_draw : PySem.W.keepIn K (.ref a__law_draw) = true
  a__law_any : Addr
  d__law_any : FuncData
  F__law_any : L2.Fun K "_law_any" "_law_any" (topS 55) a__law_any d__law_any
  b__law_any : Binds K d__law_any ["hand", "some"] []
  g__law_any : mg "_law_any" = some (.ref a__law_any)
  k__law_any : PySem.W.keepIn K (.ref a__law_any) = true
  a__law_book : Addr
  d__law_book : FuncData
  F__law_book : L2.Fun K "_law_book" "_law_book" (topS 56) a__law_book d__law_book
  b__law_book : Binds K d__law_book ["hand", "most"] []
  g__law_book : mg "_law_book" = some (.ref a__law_book)
  k__law_book : PySem.W.keepIn K (.ref a__law_book) = true
  a__law_crowds : Addr
  d__law_crowds : FuncData
  F__law_crowds : L2.Fun K "_law_crowds" "_law_crowds" (topS 57) a__law_crowds d__law_crowds
  b__law_crowds : Binds K d__law_crowds ["people"] []
  g__law_crowds : mg "_law_crowds" = some (.ref a__law_crowds)
  k__law_crowds : PySem.W.keepIn K (.ref a__law_crowds) = true
  a__law_is_clear : Addr
  d__law_is_clear : FuncData
  F__law_is_clear : L2.Fun K "_law_is_clear" "_law_is_clear" (topS 58) a__law_is_clear d__law_is_clear
  b__law_is_clear : Binds K d__law_is_clear ["book", "crowd"] []
  g__law_is_clear : mg "_law_is_clear" = some (.ref a__law_is_clear)
  k__law_is_clear : PySem.W.keepIn K (.ref a__law_is_clear) = true
  a__law_next : Addr
  d__law_next : FuncData
  F__law_next : L2.Fun K "_law_next" "_law_next" (topS 59) a__law_next d__law_next
  b__law_next : Binds K d__law_next ["book", "crowd"] []
  g__law_next : mg "_law_next" = some (.ref a__law_next)
  k__law_next : PySem.W.keepIn K (.ref a__law_next) = true
  a__law_rank : Addr
  d__law_rank : FuncData
  F__law_rank : L2.Fun K "_law_rank" "_law_rank" (topS 60) a__law_rank d__law_rank
  b__law_rank : Binds K d__law_rank ["book", "crowd", "known"] []
  g__law_rank : mg "_law_rank" = some (.ref a__law_rank)
  k__law_rank : PySem.W.keepIn K (.ref a__law_rank) = true
  a__law_wins : Addr
  d__law_wins : FuncData
  F__law_wins : L2.Fun K "_law_wins" "_law_wins" (topS 61) a__law_wins d__law_wins
  b__law_wins : Binds K d__law_wins ["book", "crowd", "known"] []
  g__law_wins : mg "_law_wins" = some (.ref a__law_wins)
  k__law_wins : PySem.W.keepIn K (.ref a__law_wins) = true
  a__law_twos : Addr
  d__law_twos : FuncData
  F__law_twos : L2.Fun K "_law_twos" "_law_twos" (topS 62) a__law_twos d__law_twos
  b__law_twos : Binds K d__law_twos ["numbers"] []
  g__law_twos : mg "_law_twos" = some (.ref a__law_twos)
  k__law_twos : PySem.W.keepIn K (.ref a__law_twos) = true
  a__law_word : Addr
  d__law_word : FuncData
  F__law_word : L2.Fun K "_law_word" "_law_word" (topS 63) a__law_word d__law_word
  b__law_word : Binds K d__law_word ["call"] []
  g__law_word : mg "_law_word" = some (.ref a__law_word)
  k__law_word : PySem.W.keepIn K (.ref a__law_word) = true
  a_Book___init__ : Addr
  d_Book___init__ : FuncData
  F_Book___init__ : L2.Fun K "__init__" "Book.__init__" (inClass (topS 30) 0) a_Book___init__ d_Book___init__
  b_Book___init__ : Binds K d_Book___init__ ["self", "people", "lots"] []
  fn_Book___init__ : PySem.W.isFn K (.ref a_Book___init__) = true
  a_law : Addr
  d_law : FuncData
  F_law : L2.Fun K "law" "law" (topS 64) a_law d_law
  b_law : Binds K d_law ["script"] []
  g_law : mg "law" = some (.ref a_law)
  k_law : PySem.W.keepIn K (.ref a_law) = true
  z_abs : mg "abs" = none
  z_all : mg "all" = none
  z_any : mg "any" = none
  z_bool : mg "bool" = none
  z_enumerate : mg "enumerate" = none
  z_int : mg "int" = none
  z_isinstance : mg "isinstance" = none
  z_len : mg "len" = none
  z_list : mg "list" = none
  z_min : mg "min" = none
  z_range : mg "range" = none
  z_sorted : mg "sorted" = none
  z_sum : mg "sum" = none
  z_tuple : mg "tuple" = none
  t_MOST_HEAPS : Tok
  c_MOST_HEAPS : mg "MOST_HEAPS" = some (.int 200 t_MOST_HEAPS)
  t_MOST_LOTS : Tok
  c_MOST_LOTS : mg "MOST_LOTS" = some (.int 60 t_MOST_LOTS)
  t_MOST_NUMBERS : Tok
  c_MOST_NUMBERS : mg "MOST_NUMBERS" = some (.int 60 t_MOST_NUMBERS)
  t_MOST_PEOPLE : Tok
  c_MOST_PEOPLE : mg "MOST_PEOPLE" = some (.int 12 t_MOST_PEOPLE)
  t_MOST_RANK : Tok
  c_MOST_RANK : mg "MOST_RANK" = some (.int 4095 t_MOST_RANK)
  x_LotError : Addr
  g_LotError : mg "LotError" = some (.ref x_LotError)
  x_Full : Addr
  e_Full : ExF K mg "Full" x_Full
  x_NoCrowd : Addr
  e_NoCrowd : ExF K mg "NoCrowd" x_NoCrowd
  x_NoHeaps : Addr
  e_NoHeaps : ExF K mg "NoHeaps" x_NoHeaps
  x_NoNumbers : Addr
  e_NoNumbers : ExF K mg "NoNumbers" x_NoNumbers
  x_NoPeople : Addr
  e_NoPeople : ExF K mg "NoPeople" x_NoPeople
  x_NotClear : Addr
  e_NotClear : ExF K mg "NotClear" x_NotClear
  hd_NoCrowd : PySem.W.hasDictIn K x_NoCrowd = true
  xc_NoCrowd : ExcC K x_NoCrowd
  ki_NoCrowd : PySem.W.kitOne K (.ref x_NoCrowd) (.ref x_LotError) = some true
  hd_NotClear : PySem.W.hasDictIn K x_NotClear = true
  xc_NotClear : ExcC K x_NotClear
  ki_NotClear : PySem.W.kitOne K (.ref x_NotClear) (.ref x_LotError) = some true
  hd_NoNumbers : PySem.W.hasDictIn K x_NoNumbers = true
  xc_NoNumbers : ExcC K x_NoNumbers
  ki_NoNumbers : PySem.W.kitOne K (.ref x_NoNumbers) (.ref x_LotError) = some true
  s_NoCrowd_NoCrowd : PySem.W.subIn K (.ref x_NoCrowd) (.ref x_NoCrowd) = some true
  s_NotClear_NoCrowd : PySem.W.subIn K (.ref x_NotClear) (.ref x_NoCrowd) = some false
  s_NotClear_NotClear : PySem.W.subIn K (.ref x_NotClear) (.ref x_NotClear) = some true
  s_NoNumbers_NoCrowd : PySem.W.subIn K (.ref x_NoNumbers) (.ref x_NoCrowd) = some false
  s_NoNumbers_NotClear : PySem.W.subIn K (.ref x_NoNumbers) (.ref x_NotClear) = some false
  s_NoNumbers_NoNumbers : PySem.W.subIn K (.ref x_NoNumbers) (.ref x_NoNumbers) = some true
  A_Book : Addr
  C_Book : ClsF K mg "Book" A_Book
  A_RawBook : Addr
  C_RawBook : ClsF K mg "RawBook" A_RawBook
  A_Ranks : Addr
  C_Ranks : ClsF K mg "Ranks" A_Ranks
  at_Book___init__ : PySem.W.findIn K (.ref A_Book) "__init__" = some (some (.ref a_Book___init__))
  at_Book_keep : PySem.W.findIn K (.ref A_Book) "keep" = some (some (.ref a_Book_keep))
  at_Ranks___init__ : PySem.W.findIn K (.ref A_Ranks) "__init__" = some (some (.ref a_Ranks___init__))
  at_Ranks_rank : PySem.W.findIn K (.ref A_Ranks) "rank" = some (some (.ref a_Ranks_rank))
  at_RawBook___init__ : PySem.W.findIn K (.ref A_RawBook) "__init__" = some (some (.ref a_RawBook___init__))
  at_RawBook_keep : PySem.W.findIn K (.ref A_RawBook) "keep" = some (some (.ref a_Book_keep))
  na_Book_lots : NoAttr K A_Book "lots"
  na_Book_masks : NoAttr K A_Book "masks"
  na_Book_people : NoAttr K A_Book "people"
  na_Ranks_book : NoAttr K A_Ranks "book"
  na_Ranks_known : NoAttr K A_Ranks "known"
  na_RawBook_lots : NoAttr K A_RawBook "lots"
  na_RawBook_masks : NoAttr K A_RawBook "masks"
  na_RawBook_people : NoAttr K A_RawBook "people"
  cc__law_crowds : Addr
  tt__law_crowds : Addr
  cd__law_crowds : d__law_crowds.code = .ref cc__law_crowds
  cc_law : Addr
  tt_law : Addr
  cd_law : d_law.code = .ref cc_law
theorem Facts.mt_Book_keep [TabT] {K : PySem.W.Frag} {mg : Str → Option Value} (T : Facts K mg) : Meth K T.A_Book "keep" T.a_Book_keep := ⟨T.at_Book_keep, T.fn_Book_keep, T.F_Book_keep.kp⟩
theorem Facts.mt_Ranks_rank [TabT] {K : PySem.W.Frag} {mg : Str → Option Value} (T : Facts K mg) : Meth K T.A_Ranks "rank" T.a_Ranks_rank := ⟨T.at_Ranks_rank, T.fn_Ranks_rank, T.F_Ranks_rank.kp⟩
theorem Facts.mt_RawBook_keep [TabT] {K : PySem.W.Frag} {mg : Str → Option Value} (T : Facts K mg) : Meth K T.A_RawBook "keep" T.a_Book_keep := ⟨T.at_RawBook_keep, T.fn_Book_keep, T.F_Book_keep.kp⟩
theorem Facts.fld_book [TabT] {K : PySem.W.Frag} {mg : Str → Option Value} (T : Facts K mg) : FldOk K mg ["Ranks"] "book" := .cons T.C_Ranks.g T.C_Ranks.cl T.na_Ranks_book (.nil)
theorem Facts.fld_known [TabT] {K : PySem.W.Frag} {mg : Str → Option Value} (T : Facts K mg) : FldOk K mg ["Ranks"] "known" := .cons T.C_Ranks.g T.C_Ranks.cl T.na_Ranks_known (.nil)
theorem Facts.fld_lots [TabT] {K : PySem.W.Frag} {mg : Str → Option Value} (T : Facts K mg) : FldOk K mg ["Book", "RawBook"] "lots" := .cons T.C_Book.g T.C_Book.cl T.na_Book_lots (.cons T.C_RawBook.g T.C_RawBook.cl T.na_RawBook_lots (.nil))
theorem Facts.fld_masks [TabT] {K : PySem.W.Frag} {mg : Str → Option Value} (T : Facts K mg) : FldOk K mg ["Book", "RawBook"] "masks" := .cons T.C_Book.g T.C_Book.cl T.na_Book_masks (.cons T.C_RawBook.g T.C_RawBook.cl T.na_RawBook_masks (.nil))
theorem Facts.fld_people [TabT] {K : PySem.W.Frag} {mg : Str → Option Value} (T : Facts K mg) : FldOk K mg ["Book", "RawBook"] "people" := .cons T.C_Book.g T.C_Book.cl T.na_Book_people (.cons T.C_RawBook.g T.C_RawBook.cl T.na_RawBook_people (.nil))
structure TBs [TabT] {K : PySem.W.Frag} {mg : Str → Option Value} (T : Facts K mg) (base : Heap) : Prop where
  tb__law_crowds : LamX.TabB base mg T.cc__law_crowds T.tt__law_crowds
  m__law_crowds : (T.tt__law_crowds, ("_law_crowds" : Str) ++ ".<locals>." ++ "<lambda>") ∈ TabT.T
  u__law_crowds : ∀ p ∈ TabT.T, p.1 = T.tt__law_crowds → p.2 = ("_law_crowds" : Str) ++ ".<locals>." ++ "<lambda>"
  tb_law : LamX.TabB base mg T.cc_law T.tt_law
  m_law : (T.tt_law, ("law" : Str) ++ ".<locals>." ++ "<lambda>") ∈ TabT.T
  u_law : ∀ p ∈ TabT.T, p.1 = T.tt_law → p.2 = ("law" : Str) ++ ".<locals>." ++ "<lambda>"
section
variable [TabT] {P : Program} {w : World} {K : PySem.W.Frag} {mg : Str → Option Value} {base : Heap}

/-! ### is_integer -/
abbrev s_is_integer : Stmt := topS 12
abbrev N_is_integer : List Str := ["thing"]
theorem sc_is_integer : FnScope N_is_integer ["thing"] (defScope s_is_integer) := ⟨rfl, rfl, rfl, by decide +kernel, rfl, by decide +kernel, by decide +kernel⟩

def m_is_integer : SM :=
  sRet (mAndV (mN isiA (aCons (mV 0) (aCons (mC (.ty "int")) aNil))) (mNotV (mN isiA (aCons (mV 0) (aCons (mC (.ty "bool")) aNil)))))
def f_is_integer : FM := bodyM 0 m_is_integer
theorem ok_is_integer (T : Facts K mg) (B : TBs T base) : FnOk P w K mg base (L2.CX P w) 1 T.a_is_integer T.d_is_integer ["thing"] (spM K mg 1 f_is_integer) := fn_mk T.F_is_integer sc_is_integer fun cdv A outer sh H E O =>
  sss_one (ss_ret (se_and (se_callB call_isiA T.z_isinstance (by rfl) (sa_cons (se_v 0) (sa_cons (se_tyn T.z_int (by rfl)) sa_nil))) (se_one (se_not (se_callB call_isiA T.z_isinstance (by rfl) (sa_cons (se_v 0) (sa_cons (se_tyn T.z_bool (by rfl)) sa_nil)))))))


/-! ### is_within -/
abbrev s_is_within : Stmt := topS 13
abbrev N_is_within : List Str := ["thing", "least", "most"]
theorem sc_is_within : FnScope N_is_within ["thing", "least", "most"] (defScope s_is_within) := ⟨rfl, rfl, rfl, by decide +kernel, rfl, by decide +kernel, by decide +kernel⟩

def m_is_within : SM :=
  sRet (mAndV (mCall (callP 1 f_is_integer) (aCons (mV 0) aNil)) (mChain leA leA (mV 1) (mV 0) (mV 2)))
def f_is_within : FM := bodyM 0 m_is_within
theorem ok_is_within (T : Facts K mg) (B : TBs T base) : FnOk P w K mg base (L2.CX P w) 2 T.a_is_within T.d_is_within ["thing", "least", "most"] (spM K mg 3 f_is_within) := fn_mk T.F_is_within sc_is_within fun cdv A outer sh H E O =>
  sss_one (ss_ret (se_and (se_call O call_p (ok_is_integer T B) (by decide) T.g_is_integer T.k_is_integer T.b_is_integer (sa_cons (se_v 0) sa_nil)) (se_one (se_chain op_leA op_leA (se_v 1) (se_v 0) (se_v 2)))))


/-! ### is_listed -/
abbrev s_is_listed : Stmt := topS 14
abbrev N_is_listed : List Str := ["thing"]
theorem sc_is_listed : FnScope N_is_listed ["thing"] (defScope s_is_listed) := ⟨rfl, rfl, rfl, by decide +kernel, rfl, by decide +kernel, by decide +kernel⟩

def m_is_listed : SM :=
  sRet (mN isiA (aCons (mV 0) (aCons (mTup (aCons (mC (.ty "list")) (aCons (mC (.ty "tuple")) aNil))) aNil)))
def f_is_listed : FM := bodyM 0 m_is_listed
theorem ok_is_listed (T : Facts K mg) (B : TBs T base) : FnOk P w K mg base (L2.CX P w) 1 T.a_is_listed T.d_is_listed ["thing"] (spM K mg 1 f_is_listed) := fn_mk T.F_is_listed sc_is_listed fun cdv A outer sh H E O =>
  sss_one (ss_ret (se_callB call_isiA T.z_isinstance (by rfl) (sa_cons (se_v 0) (sa_cons (se_tup (sa_cons (se_tyn T.z_list (by rfl)) (sa_cons (se_tyn T.z_tuple (by rfl)) sa_nil))) sa_nil))))


/-! ### are_ascending -/
abbrev s_are_ascending : Stmt := topS 15
abbrev N_are_ascending : List Str := ["things", "at"]
theorem sc_are_ascending : FnScope N_are_ascending ["things"] (defScope s_are_ascending) := ⟨rfl, rfl, rfl, by decide +kernel, rfl, by decide +kernel, by decide +kernel⟩
def K_are_ascending_0 : EM (List AV) :=
  mLc [1] (mRng2 (mC (.int 1)) (mN lenA (aCons (mV 0) aNil))) (gN 1) mYes (m2 ltA (m2 ixA (mV 0) (m2 subA (mV 1) (mC (.int 1)))) (m2 ixA (mV 0) (mV 1)))
def m_are_ascending : SM :=
  sRet (mN allA (aCons (mLs K_are_ascending_0) aNil))
def f_are_ascending : FM := bodyM 1 m_are_ascending
theorem ok_are_ascending (T : Facts K mg) (B : TBs T base) : FnOk P w K mg base (L2.CX P w) 1 T.a_are_ascending T.d_are_ascending ["things"] (spM K mg 1 f_are_ascending) := fn_mk T.F_are_ascending sc_are_ascending fun cdv A outer sh H E O =>
  sss_one (ss_ret (se_callB (call_allA O.calm) T.z_all (by rfl) (sa_cons (se_ls (sf_lc (own := [("at", 1)]) (ow := [1]) O (si_rng2 T.z_range se_int (se_callB call_lenA T.z_len (by rfl) (sa_cons (se_v 0) sa_nil))) (blkOk_by (N := N_are_ascending) (sc := (defScope s_are_ascending)) (own := [("at", 1)]) (by decide +kernel)) (by decide) (fun s1 H1 C1 cl1 fp1 => sg_n (i := 1) (O.blk _ s1 H1 C1 cl1 fp1).nd rfl (.inl rfl)) (fun s1 H1 C1 cl1 fp1 => sts_nil) (fun s1 H1 C1 cl1 fp1 => se_cmp (op_ltA (O.blk _ s1 H1 C1 cl1 fp1).u0) (se_ix (se_v 0) (se_op op_subA (se_v 1) se_int)) (se_ix (se_v 0) (se_v 1))))) sa_nil)))


/-! ### are_persons -/
abbrev s_are_persons : Stmt := topS 16
abbrev N_are_persons : List Str := ["people", "thing", "person"]
theorem sc_are_persons : FnScope N_are_persons ["people", "thing"] (defScope s_are_persons) := ⟨rfl, rfl, rfl, by decide +kernel, rfl, by decide +kernel, by decide +kernel⟩
def K_are_persons_0 : EM (List AV) :=
  mLc [2] (mItS (mV 1)) (gN 2) mYes (mCall (callP 3 f_is_within) (aCons (mV 2) (aCons (mC (.int 0)) (aCons (m2 subA (mV 0) (mC (.int 1))) aNil))))
def m_are_persons : SM :=
  sRet (mAndV (mN isiA (aCons (mV 1) (aCons (mC (.ty "tuple")) aNil))) (mN allA (aCons (mLs K_are_persons_0) aNil)))
def f_are_persons : FM := bodyM 1 m_are_persons
theorem ok_are_persons (T : Facts K mg) (B : TBs T base) : FnOk P w K mg base (L2.CX P w) 3 T.a_are_persons T.d_are_persons ["people", "thing"] (spM K mg 2 f_are_persons) := fn_mk T.F_are_persons sc_are_persons fun cdv A outer sh H E O =>
  sss_one (ss_ret (se_and (se_callB call_isiA T.z_isinstance (by rfl) (sa_cons (se_v 1) (sa_cons (se_tyn T.z_tuple (by rfl)) sa_nil))) (se_one (se_callB (call_allA O.calm) T.z_all (by rfl) (sa_cons (se_ls (sf_lc (own := [("person", 2)]) (ow := [2]) O (si_seq (se_v 1)) (blkOk_by (N := N_are_persons) (sc := (defScope s_are_persons)) (own := [("person", 2)]) (by decide +kernel)) (by decide) (fun s1 H1 C1 cl1 fp1 => sg_n (i := 2) (O.blk _ s1 H1 C1 cl1 fp1).nd rfl (.inl rfl)) (fun s1 H1 C1 cl1 fp1 => sts_nil) (fun s1 H1 C1 cl1 fp1 => se_call (O.blk _ s1 H1 C1 cl1 fp1) call_p (ok_is_within T B) (by decide) T.g_is_within T.k_is_within T.b_is_within (sa_cons (se_v 2) (sa_cons se_int (sa_cons (se_op op_subA (se_v 0) se_int) sa_nil)))))) sa_nil)))))


/-! ### is_crowd -/
abbrev s_is_crowd : Stmt := topS 17
abbrev N_is_crowd : List Str := ["people", "thing"]
theorem sc_is_crowd : FnScope N_is_crowd ["people", "thing"] (defScope s_is_crowd) := ⟨rfl, rfl, rfl, by decide +kernel, rfl, by decide +kernel, by decide +kernel⟩

def m_is_crowd : SM :=
  sRet (mAndV (mCall (callP 2 f_are_persons) (aCons (mV 0) (aCons (mV 1) aNil))) (mCall (callP 1 f_are_ascending) (aCons (mV 1) aNil)))
def f_is_crowd : FM := bodyM 0 m_is_crowd
theorem ok_is_crowd (T : Facts K mg) (B : TBs T base) : FnOk P w K mg base (L2.CX P w) 4 T.a_is_crowd T.d_is_crowd ["people", "thing"] (spM K mg 2 f_is_crowd) := fn_mk T.F_is_crowd sc_is_crowd fun cdv A outer sh H E O =>
  sss_one (ss_ret (se_and (se_call O call_p (ok_are_persons T B) (by decide) T.g_are_persons T.k_are_persons T.b_are_persons (sa_cons (se_v 0) (sa_cons (se_v 1) sa_nil))) (se_one (se_call O call_p (ok_are_ascending T B) (by decide) T.g_are_ascending T.k_are_ascending T.b_are_ascending (sa_cons (se_v 1) sa_nil)))))


/-! ### is_lot -/
abbrev s_is_lot : Stmt := topS 18
abbrev N_is_lot : List Str := ["people", "thing"]
theorem sc_is_lot : FnScope N_is_lot ["people", "thing"] (defScope s_is_lot) := ⟨rfl, rfl, rfl, by decide +kernel, rfl, by decide +kernel, by decide +kernel⟩

def m_is_lot : SM :=
  sRet (mAndV (mCall (callP 2 f_is_crowd) (aCons (mV 0) (aCons (mV 1) aNil))) (m2 gtA (mN lenA (aCons (mV 1) aNil)) (mC (.int 1))))
def f_is_lot : FM := bodyM 0 m_is_lot
theorem ok_is_lot (T : Facts K mg) (B : TBs T base) : FnOk P w K mg base (L2.CX P w) 5 T.a_is_lot T.d_is_lot ["people", "thing"] (spM K mg 2 f_is_lot) := fn_mk T.F_is_lot sc_is_lot fun cdv A outer sh H E O =>
  sss_one (ss_ret (se_and (se_call O call_p (ok_is_crowd T B) (by decide) T.g_is_crowd T.k_is_crowd T.b_is_crowd (sa_cons (se_v 0) (sa_cons (se_v 1) sa_nil))) (se_one (se_cmp op_gtA (se_callB call_lenA T.z_len (by rfl) (sa_cons (se_v 1) sa_nil)) se_int))))


/-! ### check_crowd -/
abbrev s_check_crowd : Stmt := topS 19
abbrev N_check_crowd : List Str := ["people", "thing"]
theorem sc_check_crowd : FnScope N_check_crowd ["people", "thing"] (defScope s_check_crowd) := ⟨rfl, rfl, rfl, by decide +kernel, rfl, by decide +kernel, by decide +kernel⟩

def m_check_crowd : SM :=
  sIf (mNot (mT (mCall (callP 2 f_is_crowd) (aCons (mV 0) (aCons (mV 1) aNil))))) (sExc "NoCrowd") sNext
def f_check_crowd : FM := bodyM 0 m_check_crowd
theorem ok_check_crowd (T : Facts K mg) (B : TBs T base) : FnOk P w K mg base (L2.CX P w) 5 T.a_check_crowd T.d_check_crowd ["people", "thing"] (spM K mg 2 f_check_crowd) := fn_mk T.F_check_crowd sc_check_crowd fun cdv A outer sh H E O =>
  sss_one (ss_if (st_not (st_val (se_call O call_p (ok_is_crowd T B) (by decide) T.g_is_crowd T.k_is_crowd T.b_is_crowd (sa_cons (se_v 0) (sa_cons (se_v 1) sa_nil))))) (sss_one (ss_raise0 O T.e_NoCrowd)) sss_nil)


/-! ### check_people -/
abbrev s_check_people : Stmt := topS 20
abbrev N_check_people : List Str := ["thing", "most"]
theorem sc_check_people : FnScope N_check_people ["thing", "most"] (defScope s_check_people) := ⟨rfl, rfl, rfl, by decide +kernel, rfl, by decide +kernel, by decide +kernel⟩

def m_check_people : SM :=
  sIf (mNot (mT (mCall (callP 3 f_is_within) (aCons (mV 0) (aCons (mC (.int 1)) (aCons (mV 1) aNil)))))) (sExc "NoPeople") sNext
def f_check_people : FM := bodyM 0 m_check_people
theorem ok_check_people (T : Facts K mg) (B : TBs T base) : FnOk P w K mg base (L2.CX P w) 3 T.a_check_people T.d_check_people ["thing", "most"] (spM K mg 2 f_check_people) := fn_mk T.F_check_people sc_check_people fun cdv A outer sh H E O =>
  sss_one (ss_if (st_not (st_val (se_call O call_p (ok_is_within T B) (by decide) T.g_is_within T.k_is_within T.b_is_within (sa_cons (se_v 0) (sa_cons se_int (sa_cons (se_v 1) sa_nil)))))) (sss_one (ss_raise0 O T.e_NoPeople)) sss_nil)


/-! ### check_many -/
abbrev s_check_many : Stmt := topS 21
abbrev N_check_many : List Str := ["number", "most"]
theorem sc_check_many : FnScope N_check_many ["number", "most"] (defScope s_check_many) := ⟨rfl, rfl, rfl, by decide +kernel, rfl, by decide +kernel, by decide +kernel⟩

def m_check_many : SM :=
  sIf (mT (m2 gtA (mV 0) (mV 1))) sNever sNext
def f_check_many : FM := bodyM 0 m_check_many
theorem ok_check_many (T : Facts K mg) (B : TBs T base) : FnOk P w K mg base (L2.CX P w) 1 T.a_check_many T.d_check_many ["number", "most"] (spM K mg 2 f_check_many) := fn_mk T.F_check_many sc_check_many fun cdv A outer sh H E O =>
  sss_one (ss_if (st_cmp op_gtA (se_v 0) (se_v 1)) (sss_one ss_never) sss_nil)


/-! ### bits_of -/
abbrev s_bits_of : Stmt := topS 22
abbrev N_bits_of : List Str := ["crowd", "person"]
theorem sc_bits_of : FnScope N_bits_of ["crowd"] (defScope s_bits_of) := ⟨rfl, rfl, rfl, by decide +kernel, rfl, by decide +kernel, by decide +kernel⟩
def K_bits_of_0 : EM (List AV) :=
  mLc [1] (mItS (mV 0)) (gN 1) mYes (m2 shlA (mC (.int 1)) (mV 1))
def m_bits_of : SM :=
  sRet (mN sumA (aCons (mLs K_bits_of_0) aNil))
def f_bits_of : FM := bodyM 1 m_bits_of
theorem ok_bits_of (T : Facts K mg) (B : TBs T base) : FnOk P w K mg base (L2.CX P w) 1 T.a_bits_of T.d_bits_of ["crowd"] (spM K mg 1 f_bits_of) := fn_mk T.F_bits_of sc_bits_of fun cdv A outer sh H E O =>
  sss_one (ss_ret (se_callB (call_sumA O.calm) T.z_sum (by rfl) (sa_cons (se_ls (sf_lc (own := [("person", 1)]) (ow := [1]) O (si_seq (se_v 0)) (blkOk_by (N := N_bits_of) (sc := (defScope s_bits_of)) (own := [("person", 1)]) (by decide +kernel)) (by decide) (fun s1 H1 C1 cl1 fp1 => sg_n (i := 1) (O.blk _ s1 H1 C1 cl1 fp1).nd rfl (.inl rfl)) (fun s1 H1 C1 cl1 fp1 => sts_nil) (fun s1 H1 C1 cl1 fp1 => se_op op_shlA se_int (se_v 1)))) sa_nil)))


/-! ### crowd_of -/
abbrev s_crowd_of : Stmt := topS 23
abbrev N_crowd_of : List Str := ["bits", "person"]
theorem sc_crowd_of : FnScope N_crowd_of ["bits"] (defScope s_crowd_of) := ⟨rfl, rfl, rfl, by decide +kernel, rfl, by decide +kernel, by decide +kernel⟩
def K_crowd_of_0 : EM (List AV) :=
  mLc [1] (mRng1 (m1 bitsA (mV 0))) (gN 1) (mT (m2 eqA (m2 andA (m2 shrA (mV 0) (mV 1)) (mC (.int 1))) (mC (.int 1)))) (mV 1)
def m_crowd_of : SM :=
  sRet (mN tupleA (aCons (mLs K_crowd_of_0) aNil))
def f_crowd_of : FM := bodyM 1 m_crowd_of
theorem ok_crowd_of (T : Facts K mg) (B : TBs T base) : FnOk P w K mg base (L2.CX P w) 1 T.a_crowd_of T.d_crowd_of ["bits"] (spM K mg 1 f_crowd_of) := fn_mk T.F_crowd_of sc_crowd_of fun cdv A outer sh H E O =>
  sss_one (ss_ret (se_callTy call_tupleA T.z_tuple (by rfl) (sa_cons (se_ls (sf_lc (own := [("person", 1)]) (ow := [1]) O (si_rng1 T.z_range (se_bits (se_v 0))) (blkOk_by (N := N_crowd_of) (sc := (defScope s_crowd_of)) (own := [("person", 1)]) (by decide +kernel)) (by decide) (fun s1 H1 C1 cl1 fp1 => sg_n (i := 1) (O.blk _ s1 H1 C1 cl1 fp1).nd rfl (.inl rfl)) (fun s1 H1 C1 cl1 fp1 => sts_one (st_cmp (op_eqA (O.blk _ s1 H1 C1 cl1 fp1).u64) (se_op op_andA (se_op op_shrA (se_v 0) (se_v 1)) se_int) se_int)) (fun s1 H1 C1 cl1 fp1 => se_v 1))) sa_nil)))


/-! ### holds -/
abbrev s_holds : Stmt := topS 24
abbrev N_holds : List Str := ["bits", "some"]
theorem sc_holds : FnScope N_holds ["bits", "some"] (defScope s_holds) := ⟨rfl, rfl, rfl, by decide +kernel, rfl, by decide +kernel, by decide +kernel⟩

def m_holds : SM :=
  sRet (m2 eqA (m2 andA (mV 0) (mV 1)) (mV 1))
def f_holds : FM := bodyM 0 m_holds
theorem ok_holds (T : Facts K mg) (B : TBs T base) : FnOk P w K mg base (L2.CX P w) 1 T.a_holds T.d_holds ["bits", "some"] (spM K mg 2 f_holds) := fn_mk T.F_holds sc_holds fun cdv A outer sh H E O =>
  sss_one (ss_ret (se_cmp (op_eqA O.u64) (se_op op_andA (se_v 0) (se_v 1)) (se_v 1)))


/-! ### all_of -/
abbrev s_all_of : Stmt := topS 25
abbrev N_all_of : List Str := ["people"]
theorem sc_all_of : FnScope N_all_of ["people"] (defScope s_all_of) := ⟨rfl, rfl, rfl, by decide +kernel, rfl, by decide +kernel, by decide +kernel⟩

def m_all_of : SM :=
  sRet (m2 subA (m2 shlA (mC (.int 1)) (mV 0)) (mC (.int 1)))
def f_all_of : FM := bodyM 0 m_all_of
theorem ok_all_of (T : Facts K mg) (B : TBs T base) : FnOk P w K mg base (L2.CX P w) 1 T.a_all_of T.d_all_of ["people"] (spM K mg 1 f_all_of) := fn_mk T.F_all_of sc_all_of fun cdv A outer sh H E O =>
  sss_one (ss_ret (se_op op_subA (se_op op_shlA se_int (se_v 0)) se_int))


/-! ### first_wrong_lot -/
abbrev s_first_wrong_lot : Stmt := topS 29
abbrev N_first_wrong_lot : List Str := ["people", "lots", "found", "at", "lot", "bits", "other"]
theorem sc_first_wrong_lot : FnScope N_first_wrong_lot ["people", "lots"] (defScope s_first_wrong_lot) := ⟨rfl, rfl, rfl, by decide +kernel, rfl, by decide +kernel, by decide +kernel⟩
def K_first_wrong_lot_0 : EM (List AV) :=
  mLcC [6] (mV 2) (gN 6) mYes (mOrV (mCall (callP 2 f_holds) (aCons (mV 5) (aCons (mV 6) aNil))) (mCall (callP 2 f_holds) (aCons (mV 6) (aCons (mV 5) aNil))))
def B_first_wrong_lot_1 : SM :=
  sSeq (sIf (mOr (mNot (mT (mCall (callP 2 f_is_lot) (aCons (mV 0) (aCons (mV 4) aNil))))) (mAnd (mT (m2 gtA (mV 3) (mC (.int 0)))) (mNot (mT (m2 ltA (m2 ixA (mV 1) (m2 subA (mV 3) (mC (.int 1)))) (mV 4)))))) (sRet (mV 3)) sNext)
  (sSeq (sSet 5 (mCall (callP 1 f_bits_of) (aCons (mV 4) aNil)))
  (sSeq (sIf (mT (mN anyA (aCons (mLs K_first_wrong_lot_0) aNil))) (sRet (mV 3)) sNext)
  (sExpr (mLM appendA (mV 2) (aCons (mV 5) aNil)))))
def L_first_wrong_lot_2 : SM :=
  sFor (mEnum (mV 1)) (gT [gN 3, gN 4]) B_first_wrong_lot_1
def m_first_wrong_lot : SM :=
  sSeq (sSet 2 (mLstC aNil))
  (sSeq L_first_wrong_lot_2
  (sRet (mC .non)))
def f_first_wrong_lot : FM := bodyM 5 m_first_wrong_lot
theorem ok_first_wrong_lot (T : Facts K mg) (B : TBs T base) : FnOk P w K mg base (L2.CX P w) 6 T.a_first_wrong_lot T.d_first_wrong_lot ["people", "lots"] (spM K mg 2 f_first_wrong_lot) := fn_mk T.F_first_wrong_lot sc_first_wrong_lot fun cdv A outer sh H E O =>
  sss_cons (ss_set (i := 2) O.nd rfl (.inl rfl) (se_lstC sa_nil))
  (sss_cons (ss_for O (si_enum T.z_enumerate (se_v 1)) (sg_tup O (sgs_cons (sg_n (i := 3) O.nd rfl (.inl rfl)) (sgs_cons (sg_n (i := 4) O.nd rfl (.inl rfl)) sgs_nil))) (sss_cons (ss_if (sw_st (sw_or (st_not (st_val (se_call O call_p (ok_is_lot T B) (by decide) T.g_is_lot T.k_is_lot T.b_is_lot (sa_cons (se_v 0) (sa_cons (se_v 4) sa_nil))))) (sw_or1 (sw_st (sw_and (st_cmp op_gtA (se_v 3) se_int) (sw_and1 (st_not (st_cmp (op_ltA O.u0) (se_ix (se_v 1) (se_op op_subA (se_v 3) se_int)) (se_v 4))))))))) (sss_one (ss_ret (se_v 3))) sss_nil)
  (sss_cons (ss_set (i := 5) O.nd rfl (.inr rfl) (se_call O call_p (ok_bits_of T B) (by decide) T.g_bits_of T.k_bits_of T.b_bits_of (sa_cons (se_v 4) sa_nil)))
  (sss_cons (ss_if (st_val (se_callB (call_anyA O.calm) T.z_any (by rfl) (sa_cons (se_ls (sf_lcC (own := [("other", 6)]) (ow := [6]) O (sic_cell (se_v 2)) (blkOk_by (N := N_first_wrong_lot) (sc := (defScope s_first_wrong_lot)) (own := [("other", 6)]) (by decide +kernel)) (by decide) (fun s1 H1 C1 cl1 fp1 => sg_n (i := 6) (O.blk _ s1 H1 C1 cl1 fp1).nd rfl (.inl rfl)) (fun s1 H1 C1 cl1 fp1 => sts_nil) (fun s1 H1 C1 cl1 fp1 => se_or (se_call (O.blk _ s1 H1 C1 cl1 fp1) call_p (ok_holds T B) (by decide) T.g_holds T.k_holds T.b_holds (sa_cons (se_v 5) (sa_cons (se_v 6) sa_nil))) (se_one (se_call (O.blk _ s1 H1 C1 cl1 fp1) call_p (ok_holds T B) (by decide) T.g_holds T.k_holds T.b_holds (sa_cons (se_v 6) (sa_cons (se_v 5) sa_nil))))))) sa_nil))) (sss_one (ss_ret (se_v 3))) sss_nil)
  (sss_one (ss_expr (se_lm PySem.F.plainAttrs_list PySem.F.slot_list_append PySem.F.type_list_append mt_appendA (se_v 2) (sa_cons (se_v 5) sa_nil))))))))
  (sss_one (ss_ret se_non)))


/-! ### is_clear_bits -/
abbrev s_is_clear_bits : Stmt := topS 32
abbrev N_is_clear_bits : List Str := ["book", "bits", "mask"]
theorem sc_is_clear_bits : FnScope N_is_clear_bits ["book", "bits"] (defScope s_is_clear_bits) := ⟨rfl, rfl, rfl, by decide +kernel, rfl, by decide +kernel, by decide +kernel⟩
def K_is_clear_bits_0 : EM (List AV) :=
  mLc [2] (mItS (m1 (fldA ["Book", "RawBook"] "masks") (mV 0))) (gN 2) mYes (mCall (callP 2 f_holds) (aCons (mV 1) (aCons (mV 2) aNil)))
def m_is_clear_bits : SM :=
  sRet (mNotV (mN anyA (aCons (mLs K_is_clear_bits_0) aNil)))
def f_is_clear_bits : FM := bodyM 1 m_is_clear_bits
theorem ok_is_clear_bits (T : Facts K mg) (B : TBs T base) : FnOk P w K mg base (L2.CX P w) 2 T.a_is_clear_bits T.d_is_clear_bits ["book", "bits"] (spM K mg 2 f_is_clear_bits) := fn_mk T.F_is_clear_bits sc_is_clear_bits fun cdv A outer sh H E O =>
  sss_one (ss_ret (se_not (se_callB (call_anyA O.calm) T.z_any (by rfl) (sa_cons (se_ls (sf_lc (own := [("mask", 2)]) (ow := [2]) O (si_seq (se_fld T.fld_masks (se_v 0))) (blkOk_by (N := N_is_clear_bits) (sc := (defScope s_is_clear_bits)) (own := [("mask", 2)]) (by decide +kernel)) (by decide) (fun s1 H1 C1 cl1 fp1 => sg_n (i := 2) (O.blk _ s1 H1 C1 cl1 fp1).nd rfl (.inl rfl)) (fun s1 H1 C1 cl1 fp1 => sts_nil) (fun s1 H1 C1 cl1 fp1 => se_call (O.blk _ s1 H1 C1 cl1 fp1) call_p (ok_holds T B) (by decide) T.g_holds T.k_holds T.b_holds (sa_cons (se_v 1) (sa_cons (se_v 2) sa_nil))))) sa_nil))))


/-! ### is_clear -/
abbrev s_is_clear : Stmt := topS 33
abbrev N_is_clear : List Str := ["book", "thing"]
theorem sc_is_clear : FnScope N_is_clear ["book", "thing"] (defScope s_is_clear) := ⟨rfl, rfl, rfl, by decide +kernel, rfl, by decide +kernel, by decide +kernel⟩

def m_is_clear : SM :=
  sRet (mAndV (mCall (callP 2 f_is_crowd) (aCons (m1 (fldA ["Book", "RawBook"] "people") (mV 0)) (aCons (mV 1) aNil))) (mCall (callP 2 f_is_clear_bits) (aCons (mV 0) (aCons (mCall (callP 1 f_bits_of) (aCons (mV 1) aNil)) aNil))))
def f_is_clear : FM := bodyM 0 m_is_clear
theorem ok_is_clear (T : Facts K mg) (B : TBs T base) : FnOk P w K mg base (L2.CX P w) 5 T.a_is_clear T.d_is_clear ["book", "thing"] (spM K mg 2 f_is_clear) := fn_mk T.F_is_clear sc_is_clear fun cdv A outer sh H E O =>
  sss_one (ss_ret (se_and (se_call O call_p (ok_is_crowd T B) (by decide) T.g_is_crowd T.k_is_crowd T.b_is_crowd (sa_cons (se_fld T.fld_people (se_v 0)) (sa_cons (se_v 1) sa_nil))) (se_one (se_call O call_p (ok_is_clear_bits T B) (by decide) T.g_is_clear_bits T.k_is_clear_bits T.b_is_clear_bits (sa_cons (se_v 0) (sa_cons (se_call O call_p (ok_bits_of T B) (by decide) T.g_bits_of T.k_bits_of T.b_bits_of (sa_cons (se_v 1) sa_nil)) sa_nil))))))


/-! ### minimal -/
abbrev s_minimal : Stmt := topS 34
abbrev N_minimal : List Str := ["heaps", "masks", "least", "bits", "heap", "other"]
theorem sc_minimal : FnScope N_minimal ["heaps"] (defScope s_minimal) := ⟨rfl, rfl, rfl, by decide +kernel, rfl, by decide +kernel, by decide +kernel⟩
def K_minimal_0 : EM (List (Key × AV)) :=
  mDc [4] (mItS (mV 0)) (gN 4) mYes (mCall (callP 1 f_bits_of) (aCons (mV 4) aNil)) (mC (.bl true))
def K_minimal_1 : EM (List AV) :=
  mLc [5] (mItS (mV 1)) (gN 5) mYes (mAndV (m2 neA (mV 5) (mV 3)) (mCall (callP 2 f_holds) (aCons (mV 3) (aCons (mV 5) aNil))))
def K_minimal_2 : EM (List AV) :=
  mLc [3] (mItS (mV 1)) (gN 3) (mNot (mT (mN anyA (aCons (mLs K_minimal_1) aNil)))) (mV 3)
def K_minimal_3 : EM (List AV) :=
  mLc [3] (mItS (mV 2)) (gN 3) mYes (mCall (callP 1 f_crowd_of) (aCons (mV 3) aNil))
def m_minimal : SM :=
  sSeq (sSet 1 (mLs (mNL sortA (aCons (mLs (mNL listD2A (aCons (mDC K_minimal_0) aNil))) aNil))))
  (sSeq (sSet 2 (mLs K_minimal_2))
  (sRet (mN tupleA (aCons (mLs (mNL sortA (aCons (mLs K_minimal_3) aNil))) aNil))))
def f_minimal : FM := bodyM 5 m_minimal
theorem ok_minimal (T : Facts K mg) (B : TBs T base) : FnOk P w K mg base (L2.CX P w) 2 T.a_minimal T.d_minimal ["heaps"] (spM K mg 1 f_minimal) := fn_mk T.F_minimal sc_minimal fun cdv A outer sh H E O =>
  sss_cons (ss_set (i := 1) O.nd rfl (.inr rfl) (se_ls (sf_callB (call_sortA O.u64) T.z_sorted (by rfl) (sa_cons (se_ls (sf_callTy (call_listD2 O.calm) T.z_list (by rfl) (sa_cons (se_dC (sd_dc (own := [("heap", 4)]) (ow := [4]) O (si_seq (se_v 0)) (blkOk_by (N := N_minimal) (sc := (defScope s_minimal)) (own := [("heap", 4)]) (by decide +kernel)) (by decide) (fun s1 H1 C1 cl1 fp1 => sg_n (i := 4) (O.blk _ s1 H1 C1 cl1 fp1).nd rfl (.inl rfl)) (fun s1 H1 C1 cl1 fp1 => sts_nil) (fun s1 H1 C1 cl1 fp1 => se_call (O.blk _ s1 H1 C1 cl1 fp1) call_p (ok_bits_of T B) (by decide) T.g_bits_of T.k_bits_of T.b_bits_of (sa_cons (se_v 4) sa_nil)) (fun s1 H1 C1 cl1 fp1 => se_bl))) sa_nil))) sa_nil))))
  (sss_cons (ss_setLs (i := 2) (own := [("bits", 3)]) (ow := [3]) O rfl rfl (sw_true rfl rfl rfl (by decide +kernel)) (si_seq (se_v 1)) (blkOk_by (N := N_minimal) (sc := (defScope s_minimal)) (own := [("bits", 3)]) (by decide +kernel)) (by decide) (fun s2 H2 C2 cl2 fp2 => sg_n (i := 3) (O.blk _ s2 H2 C2 cl2 fp2).nd rfl (.inr rfl)) (fun s2 H2 C2 cl2 fp2 => sts_one (st_not (st_val (se_callB (call_anyA (O.blk _ s2 H2 C2 cl2 fp2).calm) T.z_any (by rfl) (sa_cons (se_ls (sf_lc (own := [("other", 5)]) (ow := [5]) (O.blk _ s2 H2 C2 cl2 fp2) (si_seq (se_v 1)) (blkOk_by (N := N_minimal) (sc := scp0) (own := [("other", 5)]) (by decide +kernel)) (by decide) (fun s3 H3 C3 cl3 fp3 => sg_n (i := 5) ((O.blk _ s2 H2 C2 cl2 fp2).blk _ s3 H3 C3 cl3 fp3).nd rfl (.inl rfl)) (fun s3 H3 C3 cl3 fp3 => sts_nil) (fun s3 H3 C3 cl3 fp3 => se_and (se_cmp (op_neA ((O.blk _ s2 H2 C2 cl2 fp2).blk _ s3 H3 C3 cl3 fp3).u64) (se_v 5) (se_v 3)) (se_one (se_call ((O.blk _ s2 H2 C2 cl2 fp2).blk _ s3 H3 C3 cl3 fp3) call_p (ok_holds T B) (by decide) T.g_holds T.k_holds T.b_holds (sa_cons (se_v 3) (sa_cons (se_v 5) sa_nil))))))) sa_nil))))) (fun s2 H2 C2 cl2 fp2 => se_v 3))
  (sss_one (ss_ret (se_callTy call_tupleA T.z_tuple (by rfl) (sa_cons (se_ls (sf_callB (call_sortA O.u64) T.z_sorted (by rfl) (sa_cons (se_ls (sf_lc (own := [("bits", 3)]) (ow := [3]) O (si_seq (se_v 2)) (blkOk_by (N := N_minimal) (sc := (defScope s_minimal)) (own := [("bits", 3)]) (by decide +kernel)) (by decide) (fun s4 H4 C4 cl4 fp4 => sg_n (i := 3) (O.blk _ s4 H4 C4 cl4 fp4).nd rfl (.inl rfl)) (fun s4 H4 C4 cl4 fp4 => sts_nil) (fun s4 H4 C4 cl4 fp4 => se_call (O.blk _ s4 H4 C4 cl4 fp4) call_p (ok_crowd_of T B) (by decide) T.g_crowd_of T.k_crowd_of T.b_crowd_of (sa_cons (se_v 3) sa_nil)))) sa_nil))) sa_nil)))))


/-! ### Book_keep -/
abbrev s_Book_keep : Stmt := inClass (topS 30) 1
abbrev N_Book_keep : List Str := ["self", "people", "lots", "lot"]
theorem sc_Book_keep : FnScope N_Book_keep ["self", "people", "lots"] (defScope s_Book_keep) := ⟨rfl, rfl, rfl, by decide +kernel, rfl, by decide +kernel, by decide +kernel⟩
def K_Book_keep_0 : EM (List AV) :=
  mLc [3] (mItS (mV 2)) (gN 3) mYes (mCall (callP 1 f_bits_of) (aCons (mV 3) aNil))
def m_Book_keep : SM :=
  sSeq (sFldS ["Book", "RawBook"] "people" (mV 1) (mV 0))
  (sSeq (sFldS ["Book", "RawBook"] "lots" (mV 2) (mV 0))
  (sFldS ["Book", "RawBook"] "masks" (mLs K_Book_keep_0) (mV 0)))
def f_Book_keep : FM := bodyM 1 m_Book_keep
theorem ok_Book_keep (T : Facts K mg) (B : TBs T base) : FnOk P w K mg base (L2.CX P w) 2 T.a_Book_keep T.d_Book_keep ["self", "people", "lots"] (spM K mg 3 f_Book_keep) := fn_mk T.F_Book_keep sc_Book_keep fun cdv A outer sh H E O =>
  sss_cons (ss_fld T.fld_people (se_v 1) (se_v 0))
  (sss_cons (ss_fld T.fld_lots (se_v 2) (se_v 0))
  (sss_one (ss_fld T.fld_masks (se_ls (sf_lc (own := [("lot", 3)]) (ow := [3]) O (si_seq (se_v 2)) (blkOk_by (N := N_Book_keep) (sc := (defScope s_Book_keep)) (own := [("lot", 3)]) (by decide +kernel)) (by decide) (fun s1 H1 C1 cl1 fp1 => sg_n (i := 3) (O.blk _ s1 H1 C1 cl1 fp1).nd rfl (.inl rfl)) (fun s1 H1 C1 cl1 fp1 => sts_nil) (fun s1 H1 C1 cl1 fp1 => se_call (O.blk _ s1 H1 C1 cl1 fp1) call_p (ok_bits_of T B) (by decide) T.g_bits_of T.k_bits_of T.b_bits_of (sa_cons (se_v 3) sa_nil)))) (se_v 0))))


/-! ### RawBook___init__ -/
abbrev s_RawBook___init__ : Stmt := inClass (topS 31) 0
abbrev N_RawBook___init__ : List Str := ["self", "people", "lots"]
theorem sc_RawBook___init__ : FnScope N_RawBook___init__ ["self", "people", "lots"] (defScope s_RawBook___init__) := ⟨rfl, rfl, rfl, by decide +kernel, rfl, by decide +kernel, by decide +kernel⟩

def m_RawBook___init__ : SM :=
  sExpr (mMeth "RawBook" "keep" (callH 3 f_Book_keep) (mV 0) (aCons (mV 1) (aCons (mV 2) aNil)))
def f_RawBook___init__ : FM := bodyM 0 m_RawBook___init__
theorem ok_RawBook___init__ (T : Facts K mg) (B : TBs T base) : FnOk P w K mg base (L2.CX P w) 3 T.a_RawBook___init__ T.d_RawBook___init__ ["self", "people", "lots"] (spM K mg 3 f_RawBook___init__) := fn_mk T.F_RawBook___init__ sc_RawBook___init__ fun cdv A outer sh H E O =>
  sss_one (ss_expr (se_meth O call_h T.C_RawBook.g T.C_RawBook.cl T.mt_RawBook_keep (ok_Book_keep T B) (by decide) T.b_Book_keep (se_v 0) (sa_cons (se_v 1) (sa_cons (se_v 2) sa_nil))))


/-! ### made_of -/
abbrev s_made_of : Stmt := topS 35
abbrev N_made_of : List Str := ["people", "heaps", "lots"]
theorem sc_made_of : FnScope N_made_of ["people", "heaps"] (defScope s_made_of) := ⟨rfl, rfl, rfl, by decide +kernel, rfl, by decide +kernel, by decide +kernel⟩

def m_made_of : SM :=
  sSeq (sSet 2 (mCall (callP 1 f_minimal) (aCons (mV 1) aNil)))
  (sSeq (sExpr (mCall (callP 2 f_check_many) (aCons (mN lenA (aCons (mV 2) aNil)) (aCons (mC (.int 60)) aNil))))
  (sRet (mMake 3 "RawBook" f_RawBook___init__ (aCons (mV 0) (aCons (mV 2) aNil)))))
def f_made_of : FM := bodyM 1 m_made_of
theorem ok_made_of (T : Facts K mg) (B : TBs T base) : FnOk P w K mg base (L2.CX P w) 5 T.a_made_of T.d_made_of ["people", "heaps"] (spM K mg 2 f_made_of) := fn_mk T.F_made_of sc_made_of fun cdv A outer sh H E O =>
  sss_cons (ss_set (i := 2) O.nd rfl (.inl rfl) (se_call O call_p (ok_minimal T B) (by decide) T.g_minimal T.k_minimal T.b_minimal (sa_cons (se_v 1) sa_nil)))
  (sss_cons (ss_expr (se_call O call_p (ok_check_many T B) (by decide) T.g_check_many T.k_check_many T.b_check_many (sa_cons (se_callB call_lenA T.z_len (by rfl) (sa_cons (se_v 2) sa_nil)) (sa_cons (se_gint T.c_MOST_LOTS) sa_nil))))
  (sss_one (ss_ret (se_make O ⟨T.C_RawBook.mks, T.at_RawBook___init__, T.fn_RawBook___init__, T.C_RawBook.kp⟩ (ok_RawBook___init__ T B) (by decide) T.C_RawBook.g T.b_RawBook___init__ (sa_cons (se_v 0) (sa_cons (se_v 2) sa_nil))))))


/-! ### book_of -/
abbrev s_book_of : Stmt := topS 36
abbrev N_book_of : List Str := ["people", "heaps", "heap"]
theorem sc_book_of : FnScope N_book_of ["people", "heaps"] (defScope s_book_of) := ⟨rfl, rfl, rfl, by decide +kernel, rfl, by decide +kernel, by decide +kernel⟩
def K_book_of_0 : EM (List AV) :=
  mLc [2] (mItS (mV 1)) (gN 2) mYes (mCall (callP 2 f_is_lot) (aCons (mV 0) (aCons (mV 2) aNil)))
def m_book_of : SM :=
  sSeq (sExpr (mCall (callP 2 f_check_people) (aCons (mV 0) (aCons (mC (.int 12)) aNil))))
  (sSeq (sIf (mOr (mNot (mT (mCall (callP 1 f_is_listed) (aCons (mV 1) aNil)))) (mOr (mT (m2 gtA (mN lenA (aCons (mV 1) aNil)) (mC (.int 200)))) (mNot (mT (mN allA (aCons (mLs K_book_of_0) aNil)))))) (sExc "NoHeaps") sNext)
  (sRet (mCall (callP 2 f_made_of) (aCons (mV 0) (aCons (mV 1) aNil)))))
def f_book_of : FM := bodyM 1 m_book_of
theorem ok_book_of (T : Facts K mg) (B : TBs T base) : FnOk P w K mg base (L2.CX P w) 6 T.a_book_of T.d_book_of ["people", "heaps"] (spM K mg 2 f_book_of) := fn_mk T.F_book_of sc_book_of fun cdv A outer sh H E O =>
  sss_cons (ss_expr (se_call O call_p (ok_check_people T B) (by decide) T.g_check_people T.k_check_people T.b_check_people (sa_cons (se_v 0) (sa_cons (se_gint T.c_MOST_PEOPLE) sa_nil))))
  (sss_cons (ss_if (sw_st (sw_or (st_not (st_val (se_call O call_p (ok_is_listed T B) (by decide) T.g_is_listed T.k_is_listed T.b_is_listed (sa_cons (se_v 1) sa_nil)))) (sw_or (st_cmp op_gtA (se_callB call_lenA T.z_len (by rfl) (sa_cons (se_v 1) sa_nil)) (se_gint T.c_MOST_HEAPS)) (sw_or1 (st_not (st_val (se_callB (call_allA O.calm) T.z_all (by rfl) (sa_cons (se_ls (sf_lc (own := [("heap", 2)]) (ow := [2]) O (si_seq (se_v 1)) (blkOk_by (N := N_book_of) (sc := (defScope s_book_of)) (own := [("heap", 2)]) (by decide +kernel)) (by decide) (fun s1 H1 C1 cl1 fp1 => sg_n (i := 2) (O.blk _ s1 H1 C1 cl1 fp1).nd rfl (.inl rfl)) (fun s1 H1 C1 cl1 fp1 => sts_nil) (fun s1 H1 C1 cl1 fp1 => se_call (O.blk _ s1 H1 C1 cl1 fp1) call_p (ok_is_lot T B) (by decide) T.g_is_lot T.k_is_lot T.b_is_lot (sa_cons (se_v 0) (sa_cons (se_v 2) sa_nil))))) sa_nil)))))))) (sss_one (ss_raise0 O T.e_NoHeaps)) sss_nil)
  (sss_one (ss_ret (se_call O call_p (ok_made_of T B) (by decide) T.g_made_of T.k_made_of T.b_made_of (sa_cons (se_v 0) (sa_cons (se_v 1) sa_nil))))))


/-! ### adds_from -/
abbrev s_adds_from : Stmt := topS 40
abbrev N_adds_from : List Str := ["book", "bits", "outside", "person"]
theorem sc_adds_from : FnScope N_adds_from ["book", "bits"] (defScope s_adds_from) := ⟨rfl, rfl, rfl, by decide +kernel, rfl, by decide +kernel, by decide +kernel⟩
def K_adds_from_0 : EM (List AV) :=
  mLc [3] (mItS (mV 2)) (gN 3) (mT (mCall (callP 2 f_is_clear_bits) (aCons (mV 0) (aCons (m2 orA (mV 1) (m2 shlA (mC (.int 1)) (mV 3))) aNil)))) (mV 3)
def m_adds_from : SM :=
  sSeq (sSet 2 (mCall (callP 1 f_crowd_of) (aCons (m2 xorA (mCall (callP 1 f_all_of) (aCons (m1 (fldA ["Book", "RawBook"] "people") (mV 0)) aNil)) (mV 1)) aNil)))
  (sRet (mLs K_adds_from_0))
def f_adds_from : FM := bodyM 2 m_adds_from
theorem ok_adds_from (T : Facts K mg) (B : TBs T base) : FnOk P w K mg base (L2.CX P w) 3 T.a_adds_from T.d_adds_from ["book", "bits"] (spM K mg 2 f_adds_from) := fn_mk T.F_adds_from sc_adds_from fun cdv A outer sh H E O =>
  sss_cons (ss_set (i := 2) O.nd rfl (.inl rfl) (se_call O call_p (ok_crowd_of T B) (by decide) T.g_crowd_of T.k_crowd_of T.b_crowd_of (sa_cons (se_op op_xorA (se_call O call_p (ok_all_of T B) (by decide) T.g_all_of T.k_all_of T.b_all_of (sa_cons (se_fld T.fld_people (se_v 0)) sa_nil)) (se_v 1)) sa_nil)))
  (sss_one (ss_ret (se_ls (sf_lc (own := [("person", 3)]) (ow := [3]) O (si_seq (se_v 2)) (blkOk_by (N := N_adds_from) (sc := (defScope s_adds_from)) (own := [("person", 3)]) (by decide +kernel)) (by decide) (fun s1 H1 C1 cl1 fp1 => sg_n (i := 3) (O.blk _ s1 H1 C1 cl1 fp1).nd rfl (.inl rfl)) (fun s1 H1 C1 cl1 fp1 => sts_one (st_val (se_call (O.blk _ s1 H1 C1 cl1 fp1) call_p (ok_is_clear_bits T B) (by decide) T.g_is_clear_bits T.k_is_clear_bits T.b_is_clear_bits (sa_cons (se_v 0) (sa_cons (se_op op_orA (se_v 1) (se_op op_shlA se_int (se_v 3))) sa_nil))))) (fun s1 H1 C1 cl1 fp1 => se_v 3)))))


/-! ### least_not -/
abbrev s_least_not : Stmt := topS 41
abbrev N_least_not : List Str := ["some", "found"]
theorem sc_least_not : FnScope N_least_not ["some"] (defScope s_least_not) := ⟨rfl, rfl, rfl, by decide +kernel, rfl, by decide +kernel, by decide +kernel⟩
def B_least_not_0 : SM :=
  sAug 1 (fun i j => i + j) (mC (.int 1))
def L_least_not_1 : SM :=
  sWhile fuel (mT (m2 inA (mV 1) (mV 0))) B_least_not_0
def m_least_not : SM :=
  sSeq (sSet 1 (mC (.int 0)))
  (sSeq L_least_not_1
  (sRet (mV 1)))
def f_least_not : FM := bodyM 1 m_least_not
theorem ok_least_not (T : Facts K mg) (B : TBs T base) : FnOk P w K mg base (L2.CX P w) 1 T.a_least_not T.d_least_not ["some"] (spM K mg 1 f_least_not) := fn_mk T.F_least_not sc_least_not fun cdv A outer sh H E O =>
  sss_cons (ss_set (i := 1) O.nd rfl (.inl rfl) se_int)
  (sss_cons (ss_while O (st_cmp (op_inA O.u65) (se_v 1) (se_v 0)) (sss_one (ss_aug (i := 1) O.nd rfl (.inl rfl) se_int ip_add)))
  (sss_one (ss_ret (se_v 1))))


/-! ### check_clear -/
abbrev s_check_clear : Stmt := topS 43
abbrev N_check_clear : List Str := ["book", "crowd"]
theorem sc_check_clear : FnScope N_check_clear ["book", "crowd"] (defScope s_check_clear) := ⟨rfl, rfl, rfl, by decide +kernel, rfl, by decide +kernel, by decide +kernel⟩

def m_check_clear : SM :=
  sSeq (sExpr (mCall (callP 2 f_check_crowd) (aCons (m1 (fldA ["Book", "RawBook"] "people") (mV 0)) (aCons (mV 1) aNil))))
  (sIf (mNot (mT (mCall (callP 2 f_is_clear) (aCons (mV 0) (aCons (mV 1) aNil))))) (sExc "NotClear") sNext)
def f_check_clear : FM := bodyM 0 m_check_clear
theorem ok_check_clear (T : Facts K mg) (B : TBs T base) : FnOk P w K mg base (L2.CX P w) 6 T.a_check_clear T.d_check_clear ["book", "crowd"] (spM K mg 2 f_check_clear) := fn_mk T.F_check_clear sc_check_clear fun cdv A outer sh H E O =>
  sss_cons (ss_expr (se_call O call_p (ok_check_crowd T B) (by decide) T.g_check_crowd T.k_check_crowd T.b_check_crowd (sa_cons (se_fld T.fld_people (se_v 0)) (sa_cons (se_v 1) sa_nil))))
  (sss_one (ss_if (st_not (st_val (se_call O call_p (ok_is_clear T B) (by decide) T.g_is_clear T.k_is_clear T.b_is_clear (sa_cons (se_v 0) (sa_cons (se_v 1) sa_nil))))) (sss_one (ss_raise0 O T.e_NotClear)) sss_nil))


/-! ### Ranks___init__ -/
abbrev s_Ranks___init__ : Stmt := inClass (topS 42) 0
abbrev N_Ranks___init__ : List Str := ["self", "book"]
theorem sc_Ranks___init__ : FnScope N_Ranks___init__ ["self", "book"] (defScope s_Ranks___init__) := ⟨rfl, rfl, rfl, by decide +kernel, rfl, by decide +kernel, by decide +kernel⟩

def m_Ranks___init__ : SM :=
  sSeq (sFldS ["Ranks"] "book" (mV 1) (mV 0))
  (sFldS ["Ranks"] "known" (mDC mD0) (mV 0))
def f_Ranks___init__ : FM := bodyM 0 m_Ranks___init__
theorem ok_Ranks___init__ (T : Facts K mg) (B : TBs T base) : FnOk P w K mg base (L2.CX P w) 1 T.a_Ranks___init__ T.d_Ranks___init__ ["self", "book"] (spM K mg 2 f_Ranks___init__) := fn_mk T.F_Ranks___init__ sc_Ranks___init__ fun cdv A outer sh H E O =>
  sss_cons (ss_fld T.fld_book (se_v 1) (se_v 0))
  (sss_one (ss_fld T.fld_known (se_dC sd_nil) (se_v 0)))


/-! ### Ranks_rank -/
abbrev s_Ranks_rank : Stmt := inClass (topS 42) 1
abbrev N_Ranks_rank : List Str := ["self", "bits", "some", "person"]
theorem sc_Ranks_rank : FnScope N_Ranks_rank ["self", "bits"] (defScope s_Ranks_rank) := ⟨rfl, rfl, rfl, by decide +kernel, rfl, by decide +kernel, by decide +kernel⟩
def K_Ranks_rank_0 (rec : FM) : EM (List AV) :=
  mLc [3] (mItS (mCall (callP 2 f_adds_from) (aCons (m1 (fldA ["Ranks"] "book") (mV 0)) (aCons (mV 1) aNil)))) (gN 3) mYes (mMeth "Ranks" "rank" (callS 2 rec) (mV 0) (aCons (m2 orA (mV 1) (m2 shlA (mC (.int 1)) (mV 3))) aNil))
def m_Ranks_rank (rec : FM) : SM :=
  sSeq (sIf (mT (m2 hasNotDA (mV 1) (m1 (fldA ["Ranks"] "known") (mV 0)))) (sSeq (sSet 2 (mLs (K_Ranks_rank_0 rec)))
  (sPutD (mCall (callP 1 f_least_not) (aCons (mV 2) aNil)) (m1 (fldA ["Ranks"] "known") (mV 0)) (mV 1))) sNext)
  (sRet (m2 ixDA (m1 (fldA ["Ranks"] "known") (mV 0)) (mV 1)))
def f_Ranks_rank : Nat → FM
  | 0 => fun _ _ => .bad
  | n + 1 => bodyM 2 (m_Ranks_rank (f_Ranks_rank n))
theorem ok_Ranks_rank (T : Facts K mg) (B : TBs T base) : ∀ n : Nat, FnOk P w K mg base (L2.CX P w) (4 + n) T.a_Ranks_rank T.d_Ranks_rank ["self", "bits"] (spM K mg 2 (f_Ranks_rank n))
  | 0 => fn_bad rfl
  | n + 1 => fn_mk T.F_Ranks_rank sc_Ranks_rank fun cdv A outer sh H E O =>
    sss_cons (ss_if (st_cmp (op_hasNotD O.u64) (se_v 1) (se_fld T.fld_known (se_v 0))) (sss_cons (ss_setLs (i := 2) (own := [("person", 3)]) (ow := [3]) O rfl rfl (sw_true rfl rfl rfl (by decide +kernel)) (si_seq (se_call O call_p (ok_adds_from T B) (lvl_le (by decide)) T.g_adds_from T.k_adds_from T.b_adds_from (sa_cons (se_fld T.fld_book (se_v 0)) (sa_cons (se_v 1) sa_nil)))) (blkOk_by (N := N_Ranks_rank) (sc := (defScope s_Ranks_rank)) (own := [("person", 3)]) (by decide +kernel)) (by decide) (fun s1 H1 C1 cl1 fp1 => sg_n (i := 3) (O.blk _ s1 H1 C1 cl1 fp1).nd rfl (.inl rfl)) (fun s1 H1 C1 cl1 fp1 => sts_nil) (fun s1 H1 C1 cl1 fp1 => se_meth (O.blk _ s1 H1 C1 cl1 fp1) call_s T.C_Ranks.g T.C_Ranks.cl T.mt_Ranks_rank (ok_Ranks_rank T B n) (Nat.le_refl _) T.b_Ranks_rank (se_v 0) (sa_cons (se_op op_orA (se_v 1) (se_op op_shlA se_int (se_v 3))) sa_nil)))
      (sss_one (ss_putD O.u64 (se_call O call_p (ok_least_not T B) (lvl_le (by decide)) T.g_least_not T.k_least_not T.b_least_not (sa_cons (se_v 2) sa_nil)) (se_fld T.fld_known (se_v 0)) (se_v 1)))) sss_nil)
      (sss_one (ss_ret (se_ixD O.u64 (se_fld T.fld_known (se_v 0)) (se_v 1))))


/-! ### rank_of -/
abbrev s_rank_of : Stmt := topS 44
abbrev N_rank_of : List Str := ["book", "crowd"]
theorem sc_rank_of : FnScope N_rank_of ["book", "crowd"] (defScope s_rank_of) := ⟨rfl, rfl, rfl, by decide +kernel, rfl, by decide +kernel, by decide +kernel⟩

def m_rank_of : SM :=
  sSeq (sExpr (mCall (callP 2 f_check_clear) (aCons (mV 0) (aCons (mV 1) aNil))))
  (sRet (mMeth "Ranks" "rank" (callS 2 (f_Ranks_rank 16)) (mMakeL 2 "Ranks" f_Ranks___init__ (aCons (mV 0) aNil)) (aCons (mCall (callP 1 f_bits_of) (aCons (mV 1) aNil)) aNil)))
def f_rank_of : FM := bodyM 0 m_rank_of
theorem ok_rank_of (T : Facts K mg) (B : TBs T base) : FnOk P w K mg base (L2.CX P w) 21 T.a_rank_of T.d_rank_of ["book", "crowd"] (spM K mg 2 f_rank_of) := fn_mk T.F_rank_of sc_rank_of fun cdv A outer sh H E O =>
  sss_cons (ss_expr (se_call O call_p (ok_check_clear T B) (by decide) T.g_check_clear T.k_check_clear T.b_check_clear (sa_cons (se_v 0) (sa_cons (se_v 1) sa_nil))))
  (sss_one (ss_ret (se_meth O call_s T.C_Ranks.g T.C_Ranks.cl T.mt_Ranks_rank (ok_Ranks_rank T B 16) (by decide) T.b_Ranks_rank (se_makeL O ⟨T.C_Ranks.mks, T.at_Ranks___init__, T.fn_Ranks___init__, T.C_Ranks.kp⟩ (ok_Ranks___init__ T B) (by decide) T.C_Ranks.g T.b_Ranks___init__ (sa_cons (se_v 0) sa_nil)) (sa_cons (se_call O call_p (ok_bits_of T B) (by decide) T.g_bits_of T.k_bits_of T.b_bits_of (sa_cons (se_v 1) sa_nil)) sa_nil))))


/-! ### adders_win -/
abbrev s_adders_win : Stmt := topS 45
abbrev N_adders_win : List Str := ["book"]
theorem sc_adders_win : FnScope N_adders_win ["book"] (defScope s_adders_win) := ⟨rfl, rfl, rfl, by decide +kernel, rfl, by decide +kernel, by decide +kernel⟩

def m_adders_win : SM :=
  sRet (m2 neA (mMeth "Ranks" "rank" (callS 2 (f_Ranks_rank 16)) (mMakeL 2 "Ranks" f_Ranks___init__ (aCons (mV 0) aNil)) (aCons (mC (.int 0)) aNil)) (mC (.int 0)))
def f_adders_win : FM := bodyM 0 m_adders_win
theorem ok_adders_win (T : Facts K mg) (B : TBs T base) : FnOk P w K mg base (L2.CX P w) 21 T.a_adders_win T.d_adders_win ["book"] (spM K mg 1 f_adders_win) := fn_mk T.F_adders_win sc_adders_win fun cdv A outer sh H E O =>
  sss_one (ss_ret (se_cmp (op_neA O.u64) (se_meth O call_s T.C_Ranks.g T.C_Ranks.cl T.mt_Ranks_rank (ok_Ranks_rank T B 16) (by decide) T.b_Ranks_rank (se_makeL O ⟨T.C_Ranks.mks, T.at_Ranks___init__, T.fn_Ranks___init__, T.C_Ranks.kp⟩ (ok_Ranks___init__ T B) (by decide) T.C_Ranks.g T.b_Ranks___init__ (sa_cons (se_v 0) sa_nil)) (sa_cons se_int sa_nil)) se_int))


/-! ### good_adds -/
abbrev s_good_adds : Stmt := topS 46
abbrev N_good_adds : List Str := ["book", "crowd", "ranks", "bits", "person"]
theorem sc_good_adds : FnScope N_good_adds ["book", "crowd"] (defScope s_good_adds) := ⟨rfl, rfl, rfl, by decide +kernel, rfl, by decide +kernel, by decide +kernel⟩
def K_good_adds_0 : EM (List AV) :=
  mLc [4] (mItS (mCall (callP 2 f_adds_from) (aCons (mV 0) (aCons (mV 3) aNil)))) (gN 4) (mT (m2 eqA (mMeth "Ranks" "rank" (callS 2 (f_Ranks_rank 16)) (mV 2) (aCons (m2 orA (mV 3) (m2 shlA (mC (.int 1)) (mV 4))) aNil)) (mC (.int 0)))) (mV 4)
def m_good_adds : SM :=
  sSeq (sExpr (mCall (callP 2 f_check_clear) (aCons (mV 0) (aCons (mV 1) aNil))))
  (sSeq (sAsg (mTup (aCons (mMakeL 2 "Ranks" f_Ranks___init__ (aCons (mV 0) aNil)) (aCons (mCall (callP 1 f_bits_of) (aCons (mV 1) aNil)) aNil))) (gT [gN 2, gN 3]))
  (sRet (mN tupleA (aCons (mLs K_good_adds_0) aNil))))
def f_good_adds : FM := bodyM 3 m_good_adds
theorem ok_good_adds (T : Facts K mg) (B : TBs T base) : FnOk P w K mg base (L2.CX P w) 21 T.a_good_adds T.d_good_adds ["book", "crowd"] (spM K mg 2 f_good_adds) := fn_mk T.F_good_adds sc_good_adds fun cdv A outer sh H E O =>
  sss_cons (ss_expr (se_call O call_p (ok_check_clear T B) (by decide) T.g_check_clear T.k_check_clear T.b_check_clear (sa_cons (se_v 0) (sa_cons (se_v 1) sa_nil))))
  (sss_cons (ss_asg (se_tup (sa_cons (se_makeL O ⟨T.C_Ranks.mks, T.at_Ranks___init__, T.fn_Ranks___init__, T.C_Ranks.kp⟩ (ok_Ranks___init__ T B) (by decide) T.C_Ranks.g T.b_Ranks___init__ (sa_cons (se_v 0) sa_nil)) (sa_cons (se_call O call_p (ok_bits_of T B) (by decide) T.g_bits_of T.k_bits_of T.b_bits_of (sa_cons (se_v 1) sa_nil)) sa_nil))) (sg_tup O (sgs_cons (sg_n (i := 2) O.nd rfl (.inr rfl)) (sgs_cons (sg_n (i := 3) O.nd rfl (.inr rfl)) sgs_nil))))
  (sss_one (ss_ret (se_callTy call_tupleA T.z_tuple (by rfl) (sa_cons (se_ls (sf_lc (own := [("person", 4)]) (ow := [4]) O (si_seq (se_call O call_p (ok_adds_from T B) (by decide) T.g_adds_from T.k_adds_from T.b_adds_from (sa_cons (se_v 0) (sa_cons (se_v 3) sa_nil)))) (blkOk_by (N := N_good_adds) (sc := (defScope s_good_adds)) (own := [("person", 4)]) (by decide +kernel)) (by decide) (fun s1 H1 C1 cl1 fp1 => sg_n (i := 4) (O.blk _ s1 H1 C1 cl1 fp1).nd rfl (.inl rfl)) (fun s1 H1 C1 cl1 fp1 => sts_one (st_cmp (op_eqA (O.blk _ s1 H1 C1 cl1 fp1).u64) (se_meth (O.blk _ s1 H1 C1 cl1 fp1) call_s T.C_Ranks.g T.C_Ranks.cl T.mt_Ranks_rank (ok_Ranks_rank T B 16) (by decide) T.b_Ranks_rank (se_v 2) (sa_cons (se_op op_orA (se_v 3) (se_op op_shlA se_int (se_v 4))) sa_nil)) se_int)) (fun s1 H1 C1 cl1 fp1 => se_v 4))) sa_nil)))))


/-! ### sum_of_ranks -/
abbrev s_sum_of_ranks : Stmt := topS 47
abbrev N_sum_of_ranks : List Str := ["numbers", "number", "found"]
theorem sc_sum_of_ranks : FnScope N_sum_of_ranks ["numbers"] (defScope s_sum_of_ranks) := ⟨rfl, rfl, rfl, by decide +kernel, rfl, by decide +kernel, by decide +kernel⟩
def K_sum_of_ranks_0 : EM (List AV) :=
  mLc [1] (mItS (mV 0)) (gN 1) mYes (mCall (callP 3 f_is_within) (aCons (mV 1) (aCons (mC (.int 0)) (aCons (mC (.int 4095)) aNil))))
def B_sum_of_ranks_1 : SM :=
  sSet 2 (m2 xorA (mV 2) (mV 1))
def L_sum_of_ranks_2 : SM :=
  sFor (mItS (mV 0)) (gN 1) B_sum_of_ranks_1
def m_sum_of_ranks : SM :=
  sSeq (sIf (mOr (mNot (mT (mCall (callP 1 f_is_listed) (aCons (mV 0) aNil)))) (mT (m2 gtA (mN lenA (aCons (mV 0) aNil)) (mC (.int 60))))) (sExc "NoNumbers") sNext)
  (sSeq (sIf (mNot (mT (mN allA (aCons (mLs K_sum_of_ranks_0) aNil)))) (sExc "NoNumbers") sNext)
  (sSeq (sSet 2 (mC (.int 0)))
  (sSeq L_sum_of_ranks_2
  (sRet (mV 2)))))
def f_sum_of_ranks : FM := bodyM 2 m_sum_of_ranks
theorem ok_sum_of_ranks (T : Facts K mg) (B : TBs T base) : FnOk P w K mg base (L2.CX P w) 3 T.a_sum_of_ranks T.d_sum_of_ranks ["numbers"] (spM K mg 1 f_sum_of_ranks) := fn_mk T.F_sum_of_ranks sc_sum_of_ranks fun cdv A outer sh H E O =>
  sss_cons (ss_if (sw_st (sw_or (st_not (st_val (se_call O call_p (ok_is_listed T B) (by decide) T.g_is_listed T.k_is_listed T.b_is_listed (sa_cons (se_v 0) sa_nil)))) (sw_or1 (st_cmp op_gtA (se_callB call_lenA T.z_len (by rfl) (sa_cons (se_v 0) sa_nil)) (se_gint T.c_MOST_NUMBERS))))) (sss_one (ss_raise0 O T.e_NoNumbers)) sss_nil)
  (sss_cons (ss_if (st_not (st_val (se_callB (call_allA O.calm) T.z_all (by rfl) (sa_cons (se_ls (sf_lc (own := [("number", 1)]) (ow := [1]) O (si_seq (se_v 0)) (blkOk_by (N := N_sum_of_ranks) (sc := (defScope s_sum_of_ranks)) (own := [("number", 1)]) (by decide +kernel)) (by decide) (fun s1 H1 C1 cl1 fp1 => sg_n (i := 1) (O.blk _ s1 H1 C1 cl1 fp1).nd rfl (.inl rfl)) (fun s1 H1 C1 cl1 fp1 => sts_nil) (fun s1 H1 C1 cl1 fp1 => se_call (O.blk _ s1 H1 C1 cl1 fp1) call_p (ok_is_within T B) (by decide) T.g_is_within T.k_is_within T.b_is_within (sa_cons (se_v 1) (sa_cons se_int (sa_cons (se_gint T.c_MOST_RANK) sa_nil)))))) sa_nil)))) (sss_one (ss_raise0 O T.e_NoNumbers)) sss_nil)
  (sss_cons (ss_set (i := 2) O.nd rfl (.inl rfl) se_int)
  (sss_cons (ss_for O (si_seq (se_v 0)) (sg_n (i := 1) O.nd rfl (.inl rfl)) (sss_one (ss_set (i := 2) O.nd rfl (.inl rfl) (se_op op_xorA (se_v 2) (se_v 1)))))
  (sss_one (ss_ret (se_v 2))))))


/-! ### shifted -/
abbrev s_shifted : Stmt := topS 49
abbrev N_shifted : List Str := ["book", "by", "lot", "person"]
theorem sc_shifted : FnScope N_shifted ["book", "by"] (defScope s_shifted) := ⟨rfl, rfl, rfl, by decide +kernel, rfl, by decide +kernel, by decide +kernel⟩
def K_shifted_0 : EM (List AV) :=
  mLc [3] (mItS (mV 2)) (gN 3) mYes (m2 addA (mV 3) (mV 1))
def K_shifted_1 : EM (List AV) :=
  mLc [2] (mItS (m1 (fldA ["Book", "RawBook"] "lots") (mV 0))) (gN 2) mYes (mN tupleA (aCons (mLs K_shifted_0) aNil))
def m_shifted : SM :=
  sRet (mLs K_shifted_1)
def f_shifted : FM := bodyM 2 m_shifted
theorem ok_shifted (T : Facts K mg) (B : TBs T base) : FnOk P w K mg base (L2.CX P w) 1 T.a_shifted T.d_shifted ["book", "by"] (spM K mg 2 f_shifted) := fn_mk T.F_shifted sc_shifted fun cdv A outer sh H E O =>
  sss_one (ss_ret (se_ls (sf_lc (own := [("lot", 2)]) (ow := [2]) O (si_seq (se_fld T.fld_lots (se_v 0))) (blkOk_by (N := N_shifted) (sc := (defScope s_shifted)) (own := [("lot", 2)]) (by decide +kernel)) (by decide) (fun s1 H1 C1 cl1 fp1 => sg_n (i := 2) (O.blk _ s1 H1 C1 cl1 fp1).nd rfl (.inl rfl)) (fun s1 H1 C1 cl1 fp1 => sts_nil) (fun s1 H1 C1 cl1 fp1 => se_callTy call_tupleA T.z_tuple (by rfl) (sa_cons (se_ls (sf_lc (own := [("person", 3)]) (ow := [3]) (O.blk _ s1 H1 C1 cl1 fp1) (si_seq (se_v 2)) (blkOk_by (N := N_shifted) (sc := scp1) (own := [("person", 3)]) (by decide +kernel)) (by decide) (fun s2 H2 C2 cl2 fp2 => sg_n (i := 3) ((O.blk _ s1 H1 C1 cl1 fp1).blk _ s2 H2 C2 cl2 fp2).nd rfl (.inl rfl)) (fun s2 H2 C2 cl2 fp2 => sts_nil) (fun s2 H2 C2 cl2 fp2 => se_op op_addA (se_v 3) (se_v 1)))) sa_nil)))))


/-! ### check_room -/
abbrev s_check_room : Stmt := topS 50
abbrev N_check_room : List Str := ["one", "other"]
theorem sc_check_room : FnScope N_check_room ["one", "other"] (defScope s_check_room) := ⟨rfl, rfl, rfl, by decide +kernel, rfl, by decide +kernel, by decide +kernel⟩

def m_check_room : SM :=
  sIf (mT (m2 gtA (m2 addA (m1 (fldA ["Book", "RawBook"] "people") (mV 0)) (m1 (fldA ["Book", "RawBook"] "people") (mV 1))) (mC (.int 12)))) (sExc "Full") sNext
def f_check_room : FM := bodyM 0 m_check_room
theorem ok_check_room (T : Facts K mg) (B : TBs T base) : FnOk P w K mg base (L2.CX P w) 1 T.a_check_room T.d_check_room ["one", "other"] (spM K mg 2 f_check_room) := fn_mk T.F_check_room sc_check_room fun cdv A outer sh H E O =>
  sss_one (ss_if (st_cmp op_gtA (se_op op_addA (se_fld T.fld_people (se_v 0)) (se_fld T.fld_people (se_v 1))) (se_gint T.c_MOST_PEOPLE)) (sss_one (ss_raise0 O T.e_Full)) sss_nil)


/-! ### beside -/
abbrev s_beside : Stmt := topS 51
abbrev N_beside : List Str := ["one", "other"]
theorem sc_beside : FnScope N_beside ["one", "other"] (defScope s_beside) := ⟨rfl, rfl, rfl, by decide +kernel, rfl, by decide +kernel, by decide +kernel⟩

def m_beside : SM :=
  sSeq (sExpr (mCall (callP 2 f_check_room) (aCons (mV 0) (aCons (mV 1) aNil))))
  (sRet (mCall (callP 2 f_made_of) (aCons (m2 addA (m1 (fldA ["Book", "RawBook"] "people") (mV 0)) (m1 (fldA ["Book", "RawBook"] "people") (mV 1))) (aCons (m2 addA (mLs (mNL listA (aCons (m1 (fldA ["Book", "RawBook"] "lots") (mV 0)) aNil))) (mCall (callP 2 f_shifted) (aCons (mV 1) (aCons (m1 (fldA ["Book", "RawBook"] "people") (mV 0)) aNil)))) aNil))))
def f_beside : FM := bodyM 0 m_beside
theorem ok_beside (T : Facts K mg) (B : TBs T base) : FnOk P w K mg base (L2.CX P w) 6 T.a_beside T.d_beside ["one", "other"] (spM K mg 2 f_beside) := fn_mk T.F_beside sc_beside fun cdv A outer sh H E O =>
  sss_cons (ss_expr (se_call O call_p (ok_check_room T B) (by decide) T.g_check_room T.k_check_room T.b_check_room (sa_cons (se_v 0) (sa_cons (se_v 1) sa_nil))))
  (sss_one (ss_ret (se_call O call_p (ok_made_of T B) (by decide) T.g_made_of T.k_made_of T.b_made_of (sa_cons (se_op op_addA (se_fld T.fld_people (se_v 0)) (se_fld T.fld_people (se_v 1))) (sa_cons (se_op op_addA (se_ls (sf_callTy call_listA T.z_list (by rfl) (sa_cons (se_fld T.fld_lots (se_v 0)) sa_nil))) (se_call O call_p (ok_shifted T B) (by decide) T.g_shifted T.k_shifted T.b_shifted (sa_cons (se_v 1) (sa_cons (se_fld T.fld_people (se_v 0)) sa_nil)))) sa_nil)))))


/-! ### _law_hand -/
abbrev s__law_hand : Stmt := topS 53
abbrev N__law_hand : List Str := ["script", "cells", "cell"]
theorem sc__law_hand : FnScope N__law_hand ["script"] (defScope s__law_hand) := ⟨rfl, rfl, rfl, by decide +kernel, rfl, by decide +kernel, by decide +kernel⟩
def K__law_hand_0 : EM (List AV) :=
  mLc [2] (mItS (mSl (mV 0) oNo (oYes (mC (.int 63))))) (gN 2) mYes (mN absA (aCons (mN intA (aCons (mV 2) aNil)) aNil))
def m__law_hand : SM :=
  sSeq (sSet 1 (mLs K__law_hand_0))
  (sRet (mLstC (aCons (mV 1) (aCons (mC (.int 0)) (aCons (mC (.int 0)) (aCons (m2 addA (mC (.int 61)) (m2 mulA (mC (.int 7)) (mN lenA (aCons (mV 1) aNil)))) (aCons (mC (.int 0)) aNil)))))))
def f__law_hand : FM := bodyM 2 m__law_hand
theorem ok__law_hand (T : Facts K mg) (B : TBs T base) : FnOk P w K mg base (L2.CX P w) 1 T.a__law_hand T.d__law_hand ["script"] (spM K mg 1 f__law_hand) := fn_mk T.F__law_hand sc__law_hand fun cdv A outer sh H E O =>
  sss_cons (ss_setLs (i := 1) (own := [("cell", 2)]) (ow := [2]) O rfl rfl (sw_true rfl rfl rfl (by decide +kernel)) (si_seq (se_sl (se_v 0) so_no (so_yes se_int))) (blkOk_by (N := N__law_hand) (sc := (defScope s__law_hand)) (own := [("cell", 2)]) (by decide +kernel)) (by decide) (fun s1 H1 C1 cl1 fp1 => sg_n (i := 2) (O.blk _ s1 H1 C1 cl1 fp1).nd rfl (.inl rfl)) (fun s1 H1 C1 cl1 fp1 => sts_nil) (fun s1 H1 C1 cl1 fp1 => se_callB call_absA T.z_abs (by rfl) (sa_cons (se_callTy call_intA T.z_int (by rfl) (sa_cons (se_v 2) sa_nil)) sa_nil)))
  (sss_one (ss_ret (se_lstC (sa_cons (se_v 1) (sa_cons se_int (sa_cons se_int (sa_cons (se_op op_addA se_int (se_op op_mulA se_int (se_callB call_lenA T.z_len (by rfl) (sa_cons (se_v 1) sa_nil)))) (sa_cons se_int sa_nil))))))))


/-! ### _law_draw -/
abbrev s__law_draw : Stmt := topS 54
abbrev N__law_draw : List Str := ["hand", "many", "cell", "digit", "number"]
theorem sc__law_draw : FnScope N__law_draw ["hand", "many"] (defScope s__law_draw) := ⟨rfl, rfl, rfl, by decide +kernel, rfl, by decide +kernel, by decide +kernel⟩

def m__law_draw : SM :=
  sSeq (sIf (mAnd (mT (m2 eqA (m2 ixA (mV 0) (mC (.int 2))) (mC (.int 0)))) (mT (m2 ltA (m2 ixA (mV 0) (mC (.int 1))) (mN lenA (aCons (m2 ixA (mV 0) (mC (.int 0))) aNil))))) (sSeq (sSet 2 (m2 ixA (m2 ixA (mV 0) (mC (.int 0))) (m2 ixA (mV 0) (mC (.int 1)))))
  (sSeq (sPutIx (m2 addA (m2 ixA (mV 0) (mC (.int 1))) (mC (.int 1))) (mV 0) (mC (.int 1)))
  (sSeq (sPutIx (m2 modA (mN intA (aCons (m2 addA (m2 addA (m2 mulA (m2 ixA (mV 0) (mC (.int 3))) (mC (.int 69621))) (m2 mulA (mV 2) (mC (.int 40692)))) (mC (.int 31))) aNil)) (mC (.int 2147483629))) (mV 0) (mC (.int 3)))
  (sIf (mT (m2 geA (mV 2) (m2 powA (mC (.int 10)) (mC (.int 18))))) (sPutIx (mV 2) (mV 0) (mC (.int 2))) sNext)))) sNext)
  (sSeq (sIf (mT (m2 gtA (m2 ixA (mV 0) (mC (.int 2))) (mC (.int 0)))) (sSeq (sSet 3 (m2 modA (mN intA (aCons (m2 ixA (mV 0) (mC (.int 2))) aNil)) (mV 1)))
  (sSeq (sPutIx (m2 fdivA (m2 ixA (mV 0) (mC (.int 2))) (mV 1)) (mV 0) (mC (.int 2)))
  (sRet (mV 3)))) sNext)
  (sSeq (sPutIx (m2 addA (m2 ixA (mV 0) (mC (.int 4))) (mC (.int 1))) (mV 0) (mC (.int 4)))
  (sSeq (sSet 4 (m2 modA (mN intA (aCons (m2 mulA (mN intA (aCons (m2 addA (m2 ixA (mV 0) (mC (.int 3))) (m2 mulA (mC (.int 7919)) (m2 ixA (mV 0) (mC (.int 4))))) aNil)) (mC (.int 48271))) aNil)) (mC (.int 2147483647))))
  (sSeq (sSet 4 (m2 modA (mN intA (aCons (m2 mulA (mV 4) (m2 addA (m2 fdivA (mV 4) (mC (.int 1009))) (mC (.int 69621)))) aNil)) (mC (.int 2147483647))))
  (sSeq (sSet 4 (m2 modA (mN intA (aCons (m2 mulA (mV 4) (m2 addA (m2 fdivA (mV 4) (mC (.int 2003))) (mC (.int 40014)))) aNil)) (mC (.int 2147483563))))
  (sRet (m2 modA (mN intA (aCons (m2 fdivA (mV 4) (mC (.int 16))) aNil)) (mV 1))))))))
def f__law_draw : FM := bodyM 3 m__law_draw
theorem ok__law_draw (T : Facts K mg) (B : TBs T base) : FnOk P w K mg base (L2.CX P w) 1 T.a__law_draw T.d__law_draw ["hand", "many"] (spM K mg 2 f__law_draw) := fn_mk T.F__law_draw sc__law_draw fun cdv A outer sh H E O =>
  sss_cons (ss_if (sw_st (sw_and (st_cmp (op_eqA O.u64) (se_ix (se_v 0) se_int) se_int) (sw_and1 (st_cmp (op_ltA O.u0) (se_ix (se_v 0) se_int) (se_callB call_lenA T.z_len (by rfl) (sa_cons (se_ix (se_v 0) se_int) sa_nil)))))) (sss_cons (ss_set (i := 2) O.nd rfl (.inl rfl) (se_ix (se_ix (se_v 0) se_int) (se_ix (se_v 0) se_int)))
  (sss_cons (ss_putIx (se_op op_addA (se_ix (se_v 0) se_int) se_int) (se_v 0) se_int)
  (sss_cons (ss_putIx (se_op op_modA (se_callTy call_intA T.z_int (by rfl) (sa_cons (se_op op_addA (se_op op_addA (se_op op_mulA (se_ix (se_v 0) se_int) se_int) (se_op op_mulA (se_v 2) se_int)) se_int) sa_nil)) se_int) (se_v 0) se_int)
  (sss_one (ss_if (st_cmp op_geA (se_v 2) (se_op op_powA se_int se_int)) (sss_one (ss_putIx (se_v 2) (se_v 0) se_int)) sss_nil))))) sss_nil)
  (sss_cons (ss_if (st_cmp op_gtA (se_ix (se_v 0) se_int) se_int) (sss_cons (ss_set (i := 3) O.nd rfl (.inl rfl) (se_op op_modA (se_callTy call_intA T.z_int (by rfl) (sa_cons (se_ix (se_v 0) se_int) sa_nil)) (se_v 1)))
  (sss_cons (ss_putIx (se_op op_fdivA (se_ix (se_v 0) se_int) (se_v 1)) (se_v 0) se_int)
  (sss_one (ss_ret (se_v 3))))) sss_nil)
  (sss_cons (ss_putIx (se_op op_addA (se_ix (se_v 0) se_int) se_int) (se_v 0) se_int)
  (sss_cons (ss_set (i := 4) O.nd rfl (.inl rfl) (se_op op_modA (se_callTy call_intA T.z_int (by rfl) (sa_cons (se_op op_mulA (se_callTy call_intA T.z_int (by rfl) (sa_cons (se_op op_addA (se_ix (se_v 0) se_int) (se_op op_mulA se_int (se_ix (se_v 0) se_int))) sa_nil)) se_int) sa_nil)) se_int))
  (sss_cons (ss_set (i := 4) O.nd rfl (.inl rfl) (se_op op_modA (se_callTy call_intA T.z_int (by rfl) (sa_cons (se_op op_mulA (se_v 4) (se_op op_addA (se_op op_fdivA (se_v 4) se_int) se_int)) sa_nil)) se_int))
  (sss_cons (ss_set (i := 4) O.nd rfl (.inl rfl) (se_op op_modA (se_callTy call_intA T.z_int (by rfl) (sa_cons (se_op op_mulA (se_v 4) (se_op op_addA (se_op op_fdivA (se_v 4) se_int) se_int)) sa_nil)) se_int))
  (sss_one (ss_ret (se_op op_modA (se_callTy call_intA T.z_int (by rfl) (sa_cons (se_op op_fdivA (se_v 4) se_int) sa_nil)) (se_v 1)))))))))


/-! ### _law_any -/
abbrev s__law_any : Stmt := topS 55
abbrev N__law_any : List Str := ["hand", "some"]
theorem sc__law_any : FnScope N__law_any ["hand", "some"] (defScope s__law_any) := ⟨rfl, rfl, rfl, by decide +kernel, rfl, by decide +kernel, by decide +kernel⟩

def m__law_any : SM :=
  sRet (m2 ixA (mV 1) (mCall (callH 2 f__law_draw) (aCons (mV 0) (aCons (mN lenA (aCons (mV 1) aNil)) aNil))))
def f__law_any : FM := bodyM 0 m__law_any
theorem ok__law_any (T : Facts K mg) (B : TBs T base) : FnOk P w K mg base (L2.CX P w) 2 T.a__law_any T.d__law_any ["hand", "some"] (spM K mg 2 f__law_any) := fn_mk T.F__law_any sc__law_any fun cdv A outer sh H E O =>
  sss_one (ss_ret (se_ix (se_v 1) (se_call O call_h (ok__law_draw T B) (by decide) T.g__law_draw T.k__law_draw T.b__law_draw (sa_cons (se_v 0) (sa_cons (se_callB call_lenA T.z_len (by rfl) (sa_cons (se_v 1) sa_nil)) sa_nil)))))


/-! ### _law_book -/
abbrev s__law_book : Stmt := topS 56
abbrev N__law_book : List Str := ["hand", "most", "people", "high", "heaps", "turn", "left", "lot", "again"]
theorem sc__law_book : FnScope N__law_book ["hand", "most"] (defScope s__law_book) := ⟨rfl, rfl, rfl, by decide +kernel, rfl, by decide +kernel, by decide +kernel⟩
def B__law_book_0 : SM :=
  sExpr (mLM appendA (mV 7) (aCons (mLM popA (mV 6) (aCons (mCall (callH 2 f__law_draw) (aCons (mV 0) (aCons (mN lenA (aCons (mV 6) aNil)) aNil))) aNil)) aNil))
def L__law_book_1 : SM :=
  sFor (mRng1 (mN minA (aCons (mV 2) (aCons (m2 addA (mC (.int 2)) (mCall (callH 2 f__law_draw) (aCons (mV 0) (aCons (m2 subA (mV 3) (mC (.int 1))) aNil)))) aNil)))) (gN 8) B__law_book_0
def B__law_book_2 : SM :=
  sSeq (sPar (aCons (mLC (mListRg1 (mV 2))) (aCons (mLstC aNil) aNil)) [6, 7])
  (sSeq L__law_book_1
  (sExpr (mLM appendA (mV 4) (aCons (mN tupleA (aCons (mLs (mNL sortA (aCons (mV 7) aNil))) aNil)) aNil))))
def L__law_book_3 : SM :=
  sFor (mRng1 (mCall (callH 2 f__law_draw) (aCons (mV 0) (aCons (mC (.int 7)) aNil)))) (gN 5) B__law_book_2
def m__law_book : SM :=
  sSeq (sSet 2 (m2 addA (mC (.int 2)) (mCall (callH 2 f__law_draw) (aCons (mV 0) (aCons (m2 subA (mV 1) (mC (.int 1))) aNil)))))
  (sSeq (sPar (aCons (mCall (callH 2 f__law_any) (aCons (mV 0) (aCons (mLst (aCons (mC (.int 2)) (aCons (mC (.int 3)) (aCons (mC (.int 4)) (aCons (mC (.int 4)) aNil))))) aNil))) (aCons (mLstC aNil) aNil)) [3, 4])
  (sSeq L__law_book_3
  (sRet (mCall (callP 2 f_book_of) (aCons (mV 2) (aCons (mF (mV 4)) aNil))))))
def f__law_book : FM := bodyM 7 m__law_book
theorem ok__law_book (T : Facts K mg) (B : TBs T base) : FnOk P w K mg base (L2.CX P w) 7 T.a__law_book T.d__law_book ["hand", "most"] (spM K mg 2 f__law_book) := fn_mk T.F__law_book sc__law_book fun cdv A outer sh H E O =>
  sss_cons (ss_set (i := 2) O.nd rfl (.inl rfl) (se_op op_addA se_int (se_call O call_h (ok__law_draw T B) (by decide) T.g__law_draw T.k__law_draw T.b__law_draw (sa_cons (se_v 0) (sa_cons (se_op op_subA (se_v 1) se_int) sa_nil)))))
  (sss_cons (ss_par2 (i := 3) (j := 4) O rfl rfl (by decide) rfl rfl (sa_cons (se_call O call_h (ok__law_any T B) (by decide) T.g__law_any T.k__law_any T.b__law_any (sa_cons (se_v 0) (sa_cons (se_lst (sa_cons se_int (sa_cons se_int (sa_cons se_int (sa_cons se_int sa_nil))))) sa_nil))) (sa_cons (se_lstC sa_nil) sa_nil)) (by rfl))
  (sss_cons (ss_for O (si_rng1 T.z_range (se_call O call_h (ok__law_draw T B) (by decide) T.g__law_draw T.k__law_draw T.b__law_draw (sa_cons (se_v 0) (sa_cons se_int sa_nil)))) (sg_n (i := 5) O.nd rfl (.inl rfl)) (sss_cons (ss_par2 (i := 6) (j := 7) O rfl rfl (by decide) rfl rfl (sa_cons (se_lc (sf_listRg1 O T.z_list T.z_range (se_v 2))) (sa_cons (se_lstC sa_nil) sa_nil)) (by rfl))
  (sss_cons (ss_for O (si_rng1 T.z_range (se_callB (call_minA O.calm) T.z_min (by rfl) (sa_cons (se_v 2) (sa_cons (se_op op_addA se_int (se_call O call_h (ok__law_draw T B) (by decide) T.g__law_draw T.k__law_draw T.b__law_draw (sa_cons (se_v 0) (sa_cons (se_op op_subA (se_v 3) se_int) sa_nil)))) sa_nil)))) (sg_n (i := 8) O.nd rfl (.inl rfl)) (sss_one (ss_expr (se_lm PySem.F.plainAttrs_list PySem.F.slot_list_append PySem.F.type_list_append mt_appendA (se_v 7) (sa_cons (se_lm PySem.F.plainAttrs_list PySem.F.slot_list_pop PySem.F.type_list_pop mt_popA (se_v 6) (sa_cons (se_call O call_h (ok__law_draw T B) (by decide) T.g__law_draw T.k__law_draw T.b__law_draw (sa_cons (se_v 0) (sa_cons (se_callB call_lenA T.z_len (by rfl) (sa_cons (se_v 6) sa_nil)) sa_nil))) sa_nil)) sa_nil)))))
  (sss_one (ss_expr (se_lm PySem.F.plainAttrs_list PySem.F.slot_list_append PySem.F.type_list_append mt_appendA (se_v 4) (sa_cons (se_callTy call_tupleA T.z_tuple (by rfl) (sa_cons (se_ls (sf_callB (call_sortA O.u64) T.z_sorted (by rfl) (sa_cons (se_v 7) sa_nil))) sa_nil)) sa_nil)))))))
  (sss_one (ss_ret (se_call O call_p (ok_book_of T B) (by decide) T.g_book_of T.k_book_of T.b_book_of (sa_cons (se_v 2) (sa_cons (se_frz (se_v 4)) sa_nil)))))))


/-! ### _law_crowds -/
abbrev s__law_crowds : Stmt := topS 57
abbrev N__law_crowds : List Str := ["people", "found", "person", "crowd"]
theorem sc__law_crowds : FnScope N__law_crowds ["people"] (defScope s__law_crowds) := ⟨rfl, rfl, rfl, by decide +kernel, rfl, by decide +kernel, by decide +kernel⟩
def K__law_crowds_0 : EM (List AV) :=
  mLc [3] (mItS (mV 1)) (gN 3) mYes (m2 addA (mV 3) (mTup (aCons (mV 2) aNil)))
def B__law_crowds_1 : SM :=
  sSet 1 (m2 addA (mV 1) (mLs K__law_crowds_0))
def L__law_crowds_2 : SM :=
  sFor (mRng1 (mV 0)) (gN 2) B__law_crowds_1
def m__law_crowds : SM :=
  sSeq (sSet 1 (mLst (aCons (mTup aNil) aNil)))
  (sSeq L__law_crowds_2
  (sRet (mLs (mSortLen (mV 1)))))
def f__law_crowds : FM := bodyM 3 m__law_crowds
theorem ok__law_crowds (T : Facts K mg) (B : TBs T base) : FnOk P w K mg base (L2.CX P w) 2 T.a__law_crowds T.d__law_crowds ["people"] (spM K mg 1 f__law_crowds) := fn_mkC T.F__law_crowds sc__law_crowds fun cdv A outer sh H E hc O =>
  sss_cons (ss_set (i := 1) O.nd rfl (.inl rfl) (se_lst (sa_cons (se_tup sa_nil) sa_nil)))
  (sss_cons (ss_for O (si_rng1 T.z_range (se_v 0)) (sg_n (i := 2) O.nd rfl (.inr rfl)) (sss_one (ss_set (i := 1) O.nd rfl (.inl rfl) (se_op op_addA (se_v 1) (se_ls (sf_lc (own := [("crowd", 3)]) (ow := [3]) O (si_seq (se_v 1)) (blkOk_by (N := N__law_crowds) (sc := (defScope s__law_crowds)) (own := [("crowd", 3)]) (by decide +kernel)) (by decide) (fun s1 H1 C1 cl1 fp1 => sg_n (i := 3) (O.blk _ s1 H1 C1 cl1 fp1).nd rfl (.inl rfl)) (fun s1 H1 C1 cl1 fp1 => sts_nil) (fun s1 H1 C1 cl1 fp1 => se_op op_addA (se_v 3) (se_tup (sa_cons (se_v 2) sa_nil)))))))))
  (sss_one (ss_ret (se_ls (sf_sortLen O (by decide) B.tb__law_crowds (hc.symm.trans T.cd__law_crowds) qual_cx B.m__law_crowds B.u__law_crowds (y := "crowd") ⟨rfl, rfl, rfl, by decide +kernel, rfl, rfl, by decide +kernel⟩ T.z_sorted T.z_len (se_v 1))))))


/-! ### _law_is_clear -/
abbrev s__law_is_clear : Stmt := topS 58
abbrev N__law_is_clear : List Str := ["book", "crowd", "lot", "person"]
theorem sc__law_is_clear : FnScope N__law_is_clear ["book", "crowd"] (defScope s__law_is_clear) := ⟨rfl, rfl, rfl, by decide +kernel, rfl, by decide +kernel, by decide +kernel⟩
def K__law_is_clear_0 : EM (List AV) :=
  mLc [3] (mItS (mV 2)) (gN 3) mYes (m2 inA (mV 3) (mV 1))
def K__law_is_clear_1 : EM (List AV) :=
  mLc [2] (mItS (m1 (fldA ["Book", "RawBook"] "lots") (mV 0))) (gN 2) mYes (mN allA (aCons (mLs K__law_is_clear_0) aNil))
def m__law_is_clear : SM :=
  sRet (mNotV (mN anyA (aCons (mLs K__law_is_clear_1) aNil)))
def f__law_is_clear : FM := bodyM 2 m__law_is_clear
theorem ok__law_is_clear (T : Facts K mg) (B : TBs T base) : FnOk P w K mg base (L2.CX P w) 1 T.a__law_is_clear T.d__law_is_clear ["book", "crowd"] (spM K mg 2 f__law_is_clear) := fn_mk T.F__law_is_clear sc__law_is_clear fun cdv A outer sh H E O =>
  sss_one (ss_ret (se_not (se_callB (call_anyA O.calm) T.z_any (by rfl) (sa_cons (se_ls (sf_lc (own := [("lot", 2)]) (ow := [2]) O (si_seq (se_fld T.fld_lots (se_v 0))) (blkOk_by (N := N__law_is_clear) (sc := (defScope s__law_is_clear)) (own := [("lot", 2)]) (by decide +kernel)) (by decide) (fun s1 H1 C1 cl1 fp1 => sg_n (i := 2) (O.blk _ s1 H1 C1 cl1 fp1).nd rfl (.inl rfl)) (fun s1 H1 C1 cl1 fp1 => sts_nil) (fun s1 H1 C1 cl1 fp1 => se_callB (call_allA (O.blk _ s1 H1 C1 cl1 fp1).calm) T.z_all (by rfl) (sa_cons (se_ls (sf_lc (own := [("person", 3)]) (ow := [3]) (O.blk _ s1 H1 C1 cl1 fp1) (si_seq (se_v 2)) (blkOk_by (N := N__law_is_clear) (sc := scp2) (own := [("person", 3)]) (by decide +kernel)) (by decide) (fun s2 H2 C2 cl2 fp2 => sg_n (i := 3) ((O.blk _ s1 H1 C1 cl1 fp1).blk _ s2 H2 C2 cl2 fp2).nd rfl (.inl rfl)) (fun s2 H2 C2 cl2 fp2 => sts_nil) (fun s2 H2 C2 cl2 fp2 => se_cmp (op_inA ((O.blk _ s1 H1 C1 cl1 fp1).blk _ s2 H2 C2 cl2 fp2).u65) (se_v 3) (se_v 1)))) sa_nil)))) sa_nil))))


/-! ### _law_next -/
abbrev s__law_next : Stmt := topS 59
abbrev N__law_next : List Str := ["book", "crowd", "found", "person", "later"]
theorem sc__law_next : FnScope N__law_next ["book", "crowd"] (defScope s__law_next) := ⟨rfl, rfl, rfl, by decide +kernel, rfl, by decide +kernel, by decide +kernel⟩
def B__law_next_0 : SM :=
  sIf (mT (m2 notInA (mV 3) (mV 1))) (sSeq (sSet 4 (mN tupleA (aCons (mLs (mNL sortTA (aCons (m2 addA (mV 1) (mTup (aCons (mV 3) aNil))) aNil))) aNil)))
  (sExpr (mLM extendA (mV 2) (aCons (mIf (mT (mCall (callP 2 f__law_is_clear) (aCons (mV 0) (aCons (mV 4) aNil)))) (mLst (aCons (mV 4) aNil)) (mLst aNil)) aNil)))) sNext
def L__law_next_1 : SM :=
  sFor (mRng1 (m1 (fldA ["Book", "RawBook"] "people") (mV 0))) (gN 3) B__law_next_0
def m__law_next : SM :=
  sSeq (sSet 2 (mLstC aNil))
  (sSeq L__law_next_1
  (sRet (mF (mV 2))))
def f__law_next : FM := bodyM 3 m__law_next
theorem ok__law_next (T : Facts K mg) (B : TBs T base) : FnOk P w K mg base (L2.CX P w) 2 T.a__law_next T.d__law_next ["book", "crowd"] (spM K mg 2 f__law_next) := fn_mk T.F__law_next sc__law_next fun cdv A outer sh H E O =>
  sss_cons (ss_set (i := 2) O.nd rfl (.inl rfl) (se_lstC sa_nil))
  (sss_cons (ss_for O (si_rng1 T.z_range (se_fld T.fld_people (se_v 0))) (sg_n (i := 3) O.nd rfl (.inl rfl)) (sss_one (ss_if (st_cmp (op_notInA O.u65) (se_v 3) (se_v 1)) (sss_cons (ss_set (i := 4) O.nd rfl (.inl rfl) (se_callTy call_tupleA T.z_tuple (by rfl) (sa_cons (se_ls (sf_callB call_sortTA T.z_sorted (by rfl) (sa_cons (se_op op_addA (se_v 1) (se_tup (sa_cons (se_v 3) sa_nil))) sa_nil))) sa_nil)))
  (sss_one (ss_expr (se_lm PySem.F.plainAttrs_list PySem.F.slot_list_extend PySem.F.type_list_extend mt_extendA (se_v 2) (sa_cons (se_if (st_val (se_call O call_p (ok__law_is_clear T B) (by decide) T.g__law_is_clear T.k__law_is_clear T.b__law_is_clear (sa_cons (se_v 0) (sa_cons (se_v 4) sa_nil)))) (se_lst (sa_cons (se_v 4) sa_nil)) (se_lst sa_nil)) sa_nil))))) sss_nil)))
  (sss_one (ss_ret (se_frz (se_v 2)))))


/-! ### _law_rank -/
abbrev s__law_rank : Stmt := topS 60
abbrev N__law_rank : List Str := ["book", "crowd", "known", "some", "rank", "later"]
theorem sc__law_rank : FnScope N__law_rank ["book", "crowd", "known"] (defScope s__law_rank) := ⟨rfl, rfl, rfl, by decide +kernel, rfl, by decide +kernel, by decide +kernel⟩
def K__law_rank_0 (rec : FM) : EM (List AV) :=
  mLc [5] (mItS (mCall (callP 2 f__law_next) (aCons (mV 0) (aCons (mV 1) aNil)))) (gN 5) mYes (mCall (callS 3 rec) (aCons (mV 0) (aCons (mV 5) (aCons (mV 2) aNil))))
def B__law_rank_1 (rec : FM) : SM :=
  sSet 4 (m2 addA (mV 4) (mC (.int 1)))
def L__law_rank_2 (rec : FM) : SM :=
  sWhile fuel (mT (m2 inA (mV 4) (mV 3))) (B__law_rank_1 rec)
def m__law_rank (rec : FM) : SM :=
  sSeq (sIf (mT (m2 hasNotDA (mV 1) (mV 2))) (sSeq (sPar (aCons (mLs (K__law_rank_0 rec)) (aCons (mC (.int 0)) aNil)) [3, 4])
  (sSeq (L__law_rank_2 rec)
  (sPutD (mV 4) (mV 2) (mV 1)))) sNext)
  (sRet (m2 ixDA (mV 2) (mV 1)))
def f__law_rank : Nat → FM
  | 0 => fun _ _ => .bad
  | n + 1 => bodyM 3 (m__law_rank (f__law_rank n))
theorem ok__law_rank (T : Facts K mg) (B : TBs T base) : ∀ n : Nat, FnOk P w K mg base (L2.CX P w) (3 + n) T.a__law_rank T.d__law_rank ["book", "crowd", "known"] (spM K mg 3 (f__law_rank n))
  | 0 => fn_bad rfl
  | n + 1 => fn_mk T.F__law_rank sc__law_rank fun cdv A outer sh H E O =>
    sss_cons (ss_if (st_cmp (op_hasNotD O.u64) (se_v 1) (se_v 2)) (sss_cons (ss_par2 (i := 3) (j := 4) O rfl rfl (by decide) rfl rfl (sa_cons (se_ls (sf_lc (own := [("later", 5)]) (ow := [5]) O (si_seq (se_call O call_p (ok__law_next T B) (lvl_le (by decide)) T.g__law_next T.k__law_next T.b__law_next (sa_cons (se_v 0) (sa_cons (se_v 1) sa_nil)))) (blkOk_by (N := N__law_rank) (sc := (defScope s__law_rank)) (own := [("later", 5)]) (by decide +kernel)) (by decide) (fun s1 H1 C1 cl1 fp1 => sg_n (i := 5) (O.blk _ s1 H1 C1 cl1 fp1).nd rfl (.inl rfl)) (fun s1 H1 C1 cl1 fp1 => sts_nil) (fun s1 H1 C1 cl1 fp1 => se_call (O.blk _ s1 H1 C1 cl1 fp1) call_s (ok__law_rank T B n) (Nat.le_refl _) T.g__law_rank T.k__law_rank T.b__law_rank (sa_cons (se_v 0) (sa_cons (se_v 5) (sa_cons (se_v 2) sa_nil)))))) (sa_cons se_int sa_nil)) (by rfl))
      (sss_cons (ss_while O (st_cmp (op_inA O.u65) (se_v 4) (se_v 3)) (sss_one (ss_set (i := 4) O.nd rfl (.inl rfl) (se_op op_addA (se_v 4) se_int))))
      (sss_one (ss_putD O.u64 (se_v 4) (se_v 2) (se_v 1))))) sss_nil)
      (sss_one (ss_ret (se_ixD O.u64 (se_v 2) (se_v 1))))


/-! ### _law_wins -/
abbrev s__law_wins : Stmt := topS 61
abbrev N__law_wins : List Str := ["book", "crowd", "known", "later"]
theorem sc__law_wins : FnScope N__law_wins ["book", "crowd", "known"] (defScope s__law_wins) := ⟨rfl, rfl, rfl, by decide +kernel, rfl, by decide +kernel, by decide +kernel⟩
def K__law_wins_0 (rec : FM) : EM (List AV) :=
  mLc [3] (mItS (mCall (callP 2 f__law_next) (aCons (mV 0) (aCons (mV 1) aNil)))) (gN 3) mYes (mNotV (mCall (callS 3 rec) (aCons (mV 0) (aCons (mV 3) (aCons (mV 2) aNil)))))
def m__law_wins (rec : FM) : SM :=
  sSeq (sIf (mT (m2 hasNotDA (mV 1) (mV 2))) (sPutD (mN anyA (aCons (mLs (K__law_wins_0 rec)) aNil)) (mV 2) (mV 1)) sNext)
  (sRet (m2 ixDA (mV 2) (mV 1)))
def f__law_wins : Nat → FM
  | 0 => fun _ _ => .bad
  | n + 1 => bodyM 1 (m__law_wins (f__law_wins n))
theorem ok__law_wins (T : Facts K mg) (B : TBs T base) : ∀ n : Nat, FnOk P w K mg base (L2.CX P w) (3 + n) T.a__law_wins T.d__law_wins ["book", "crowd", "known"] (spM K mg 3 (f__law_wins n))
  | 0 => fn_bad rfl
  | n + 1 => fn_mk T.F__law_wins sc__law_wins fun cdv A outer sh H E O =>
    sss_cons (ss_if (st_cmp (op_hasNotD O.u64) (se_v 1) (se_v 2)) (sss_one (ss_putD O.u64 (se_callB (call_anyA O.calm) T.z_any (by rfl) (sa_cons (se_ls (sf_lc (own := [("later", 3)]) (ow := [3]) O (si_seq (se_call O call_p (ok__law_next T B) (lvl_le (by decide)) T.g__law_next T.k__law_next T.b__law_next (sa_cons (se_v 0) (sa_cons (se_v 1) sa_nil)))) (blkOk_by (N := N__law_wins) (sc := (defScope s__law_wins)) (own := [("later", 3)]) (by decide +kernel)) (by decide) (fun s1 H1 C1 cl1 fp1 => sg_n (i := 3) (O.blk _ s1 H1 C1 cl1 fp1).nd rfl (.inl rfl)) (fun s1 H1 C1 cl1 fp1 => sts_nil) (fun s1 H1 C1 cl1 fp1 => se_not (se_call (O.blk _ s1 H1 C1 cl1 fp1) call_s (ok__law_wins T B n) (Nat.le_refl _) T.g__law_wins T.k__law_wins T.b__law_wins (sa_cons (se_v 0) (sa_cons (se_v 3) (sa_cons (se_v 2) sa_nil))))))) sa_nil)) (se_v 2) (se_v 1))) sss_nil)
      (sss_one (ss_ret (se_ixD O.u64 (se_v 2) (se_v 1))))


/-! ### _law_twos -/
abbrev s__law_twos : Stmt := topS 62
abbrev N__law_twos : List Str := ["numbers", "total", "place", "turn", "many", "number"]
theorem sc__law_twos : FnScope N__law_twos ["numbers"] (defScope s__law_twos) := ⟨rfl, rfl, rfl, by decide +kernel, rfl, by decide +kernel, by decide +kernel⟩
def K__law_twos_0 : EM (List AV) :=
  mLc [5] (mItS (mV 0)) (gN 5) (mT (m2 eqA (m2 modA (mN intA (aCons (m2 fdivA (mV 5) (mV 2)) aNil)) (mC (.int 2))) (mC (.int 1)))) (mV 5)
def B__law_twos_1 : SM :=
  sSeq (sSet 4 (mN lenA (aCons (mLs K__law_twos_0) aNil)))
  (sAsg (mTup (aCons (m2 addA (mV 1) (m2 mulA (mV 2) (m2 modA (mN intA (aCons (mV 4) aNil)) (mC (.int 2))))) (aCons (m2 mulA (mV 2) (mC (.int 2))) aNil))) (gT [gN 1, gN 2]))
def L__law_twos_2 : SM :=
  sFor (mRng1 (mC (.int 12))) (gN 3) B__law_twos_1
def m__law_twos : SM :=
  sSeq (sAsg (mTup (aCons (mC (.int 0)) (aCons (mC (.int 1)) aNil))) (gT [gN 1, gN 2]))
  (sSeq L__law_twos_2
  (sRet (mV 1)))
def f__law_twos : FM := bodyM 5 m__law_twos
theorem ok__law_twos (T : Facts K mg) (B : TBs T base) : FnOk P w K mg base (L2.CX P w) 1 T.a__law_twos T.d__law_twos ["numbers"] (spM K mg 1 f__law_twos) := fn_mk T.F__law_twos sc__law_twos fun cdv A outer sh H E O =>
  sss_cons (ss_asg (se_tup (sa_cons se_int (sa_cons se_int sa_nil))) (sg_tup O (sgs_cons (sg_n (i := 1) O.nd rfl (.inl rfl)) (sgs_cons (sg_n (i := 2) O.nd rfl (.inr rfl)) sgs_nil))))
  (sss_cons (ss_for O (si_rng1 T.z_range se_int) (sg_n (i := 3) O.nd rfl (.inl rfl)) (sss_cons (ss_set (i := 4) O.nd rfl (.inl rfl) (se_callB call_lenA T.z_len (by rfl) (sa_cons (se_ls (sf_lc (own := [("number", 5)]) (ow := [5]) O (si_seq (se_v 0)) (blkOk_by (N := N__law_twos) (sc := (defScope s__law_twos)) (own := [("number", 5)]) (by decide +kernel)) (by decide) (fun s1 H1 C1 cl1 fp1 => sg_n (i := 5) (O.blk _ s1 H1 C1 cl1 fp1).nd rfl (.inl rfl)) (fun s1 H1 C1 cl1 fp1 => sts_one (st_cmp (op_eqA (O.blk _ s1 H1 C1 cl1 fp1).u64) (se_op op_modA (se_callTy call_intA T.z_int (by rfl) (sa_cons (se_op op_fdivA (se_v 5) (se_v 2)) sa_nil)) se_int) se_int)) (fun s1 H1 C1 cl1 fp1 => se_v 5))) sa_nil)))
  (sss_one (ss_asg (se_tup (sa_cons (se_op op_addA (se_v 1) (se_op op_mulA (se_v 2) (se_op op_modA (se_callTy call_intA T.z_int (by rfl) (sa_cons (se_v 4) sa_nil)) se_int))) (sa_cons (se_op op_mulA (se_v 2) se_int) sa_nil))) (sg_tup O (sgs_cons (sg_n (i := 1) O.nd rfl (.inl rfl)) (sgs_cons (sg_n (i := 2) O.nd rfl (.inr rfl)) sgs_nil)))))))
  (sss_one (ss_ret (se_v 1))))


/-! ### _law_word -/
abbrev s__law_word : Stmt := topS 63
theorem sc__law_word : FnScope nA ["call"] (defScope s__law_word) := ⟨rfl, rfl, rfl, by decide +kernel, rfl, by decide +kernel, by decide +kernel⟩
def hit__law_word : Str → Option Str := fun c => ([("NoCrowd", "crowd"), ("NotClear", "clear"), ("NoNumbers", "numbers")] : List (Str × Str)).lookup c
theorem hit_ok__law_word (T : Facts K mg) : HitOk K mg T.x_LotError [(T.x_NoCrowd, "crowd"), (T.x_NotClear, "clear"), (T.x_NoNumbers, "numbers")] hit__law_word := hit_of (List.forall_mem_cons.mpr ⟨fun D hD => by cases hD.symm.trans T.e_NoCrowd.g; exact ⟨true, PySem.W.exm_ref T.e_NoCrowd.s T.hd_NoCrowd T.e_NoCrowd.t T.s_NoCrowd_NoCrowd, fun _ => ⟨⟨_, rfl, rfl, T.xc_NoCrowd, T.ki_NoCrowd⟩, rfl⟩, fun e => by cases e⟩, List.forall_mem_cons.mpr ⟨fun D hD => by cases hD.symm.trans T.e_NotClear.g; exact ⟨false, PySem.W.exm_ref T.e_NoCrowd.s T.hd_NoCrowd T.e_NoCrowd.t T.s_NotClear_NoCrowd, (fun e => by cases e), fun _ => ⟨true, PySem.W.exm_ref T.e_NotClear.s T.hd_NotClear T.e_NotClear.t T.s_NotClear_NotClear, fun _ => ⟨⟨_, rfl, rfl, T.xc_NotClear, T.ki_NotClear⟩, rfl⟩, fun e => by cases e⟩⟩, List.forall_mem_cons.mpr ⟨fun D hD => by cases hD.symm.trans T.e_NoNumbers.g; exact ⟨false, PySem.W.exm_ref T.e_NoCrowd.s T.hd_NoCrowd T.e_NoCrowd.t T.s_NoNumbers_NoCrowd, (fun e => by cases e), fun _ => ⟨false, PySem.W.exm_ref T.e_NotClear.s T.hd_NotClear T.e_NotClear.t T.s_NoNumbers_NotClear, (fun e => by cases e), fun _ => ⟨true, PySem.W.exm_ref T.e_NoNumbers.s T.hd_NoNumbers T.e_NoNumbers.t T.s_NoNumbers_NoNumbers, fun _ => ⟨⟨_, rfl, rfl, T.xc_NoNumbers, T.ki_NoNumbers⟩, rfl⟩, fun e => by cases e⟩⟩⟩, fun p hp => nomatch hp⟩⟩⟩)
theorem gives__law_word (T : Facts K mg) {cdv : Value} {q : Str} {N : List Str} {qu : Str} {sc : Scope} {f : Addr} {cd : Value} {A : Around} {outer : List Env} {sh : Shared} {H : Hp} {E : XK} : LamX.GivesTo (cxOf (L2.CX P w) P w K mg base N qu sc f cd A outer sh H E) nA "_law_word" (defScope s__law_word) T.a__law_word cdv (defBody s__law_word) "call" q (ttA K T.x_LotError [(T.x_NoCrowd, "crowd"), (T.x_NotClear, "clear"), (T.x_NoNumbers, "numbers")] "done") :=
  givesA sc__law_word rfl rfl fun A outer s H => .cons ⟨rfl, by decide, .inl T.e_NoCrowd.g⟩ (fun a oe cls d pn hz hf => suiteA hz hf sc__law_word.nd rfl rfl rfl rfl rfl T.g_LotError rfl T.z_isinstance (by decide) (by decide) (by decide)) (.cons ⟨rfl, by decide, .inl T.e_NotClear.g⟩ (fun a oe cls d pn hz hf => suiteA hz hf sc__law_word.nd rfl rfl rfl rfl rfl T.g_LotError rfl T.z_isinstance (by decide) (by decide) (by decide)) (.cons ⟨rfl, by decide, .inl T.e_NoNumbers.g⟩ (fun a oe cls d pn hz hf => suiteA hz hf sc__law_word.nd rfl rfl rfl rfl rfl T.g_LotError rfl T.z_isinstance (by decide) (by decide) (by decide)) (.nil)))


/-! ### Book___init__ -/
abbrev s_Book___init__ : Stmt := inClass (topS 30) 0
abbrev N_Book___init__ : List Str := ["self", "people", "lots", "at"]
theorem sc_Book___init__ : FnScope N_Book___init__ ["self", "people", "lots"] (defScope s_Book___init__) := ⟨rfl, rfl, rfl, by decide +kernel, rfl, by decide +kernel, by decide +kernel⟩

def m_Book___init__ : SM :=
  sSeq (sIf (mNot (mT (mCall (callP 3 f_is_within) (aCons (mV 1) (aCons (mC (.int 1)) (aCons (mC (.int 12)) aNil)))))) sNever sNext)
  (sSeq (sIf (mOr (mNot (mT (mN isiA (aCons (mV 2) (aCons (mC (.ty "tuple")) aNil))))) (mT (m2 gtA (mN lenA (aCons (mV 2) aNil)) (mC (.int 60))))) sNever sNext)
  (sSeq (sSet 3 (mCall (callP 2 f_first_wrong_lot) (aCons (mV 1) (aCons (mV 2) aNil))))
  (sSeq (sIf (mT (m2 notNA (mV 3) (mC .non))) sNever sNext)
  (sExpr (mMeth "Book" "keep" (callH 3 f_Book_keep) (mV 0) (aCons (mV 1) (aCons (mV 2) aNil)))))))
def f_Book___init__ : FM := bodyM 1 m_Book___init__
theorem ok_Book___init__ (T : Facts K mg) (B : TBs T base) : FnOk P w K mg base (L2.CX P w) 7 T.a_Book___init__ T.d_Book___init__ ["self", "people", "lots"] (spM K mg 3 f_Book___init__) := fn_mk T.F_Book___init__ sc_Book___init__ fun cdv A outer sh H E O =>
  sss_cons (ss_if (st_not (st_val (se_call O call_p (ok_is_within T B) (by decide) T.g_is_within T.k_is_within T.b_is_within (sa_cons (se_v 1) (sa_cons se_int (sa_cons (se_gint T.c_MOST_PEOPLE) sa_nil)))))) (sss_one ss_never) sss_nil)
  (sss_cons (ss_if (sw_st (sw_or (st_not (st_val (se_callB call_isiA T.z_isinstance (by rfl) (sa_cons (se_v 2) (sa_cons (se_tyn T.z_tuple (by rfl)) sa_nil))))) (sw_or1 (st_cmp op_gtA (se_callB call_lenA T.z_len (by rfl) (sa_cons (se_v 2) sa_nil)) (se_gint T.c_MOST_LOTS))))) (sss_one ss_never) sss_nil)
  (sss_cons (ss_set (i := 3) O.nd rfl (.inl rfl) (se_call O call_p (ok_first_wrong_lot T B) (by decide) T.g_first_wrong_lot T.k_first_wrong_lot T.b_first_wrong_lot (sa_cons (se_v 1) (sa_cons (se_v 2) sa_nil))))
  (sss_cons (ss_if (st_cmp op_isnotA (se_v 3) se_non) (sss_one ss_never) sss_nil)
  (sss_one (ss_expr (se_meth O call_h T.C_Book.g T.C_Book.cl T.mt_Book_keep (ok_Book_keep T B) (by decide) T.b_Book_keep (se_v 0) (sa_cons (se_v 1) (sa_cons (se_v 2) sa_nil))))))))


/-! ### law -/
abbrev s_law : Stmt := topS 64
abbrev N_law : List Str := ["script", "turn", "crowd", "clear", "ranks", "wins", "again", "later", "good", "other", "numbers", "words", "people", "book", "hand", "odd", "p"]
theorem sc_law : FnScope N_law ["script"] (defScope s_law) := ⟨rfl, rfl, rfl, by decide +kernel, rfl, by decide +kernel, by decide +kernel⟩
def K_law_0 : EM (List AV) :=
  mLc [2] (mItS (mCall (callP 1 f__law_crowds) (aCons (m1 (fldA ["Book", "RawBook"] "people") (mV 13)) aNil))) (gN 2) (mT (mCall (callP 2 f__law_is_clear) (aCons (mV 13) (aCons (mV 2) aNil)))) (mV 2)
def K_law_1 : EM (List AV) :=
  mLc [16] (mRng1 (m1 (fldA ["Book", "RawBook"] "people") (mV 13))) (gN 16) (mAnd (mT (m2 notInA (mV 16) (mV 2))) (mT (m2 inA (mN tupleA (aCons (mLs (mNL sortTA (aCons (m2 addA (mV 2) (mTup (aCons (mV 16) aNil))) aNil))) aNil)) (mV 7)))) (mV 16)
def K_law_2 : EM (List AV) :=
  mLc [16] (mItS (mV 8)) (gN 16) (mT (m2 eqA (mCall (callS 3 (f__law_rank 16)) (aCons (mV 13) (aCons (mN tupleA (aCons (mLs (mNL sortTA (aCons (m2 addA (mV 2) (mTup (aCons (mV 16) aNil))) aNil))) aNil)) (aCons (mV 4) aNil)))) (mC (.int 0)))) (mV 16)
def B_law_3 : SM :=
  sSeq (sSet 2 (mCall (callH 2 f__law_any) (aCons (mV 14) (aCons (mV 3) aNil))))
  (sSeq (sIf (mT (m2 neA (mCall (callP 2 f_rank_of) (aCons (mV 13) (aCons (mV 2) aNil))) (mCall (callS 3 (f__law_rank 16)) (aCons (mV 13) (aCons (mV 2) (aCons (mV 4) aNil)))))) (sRet (mC (.bl false))) sNext)
  (sSeq (sIf (mT (m2 neA (m2 neA (mCall (callP 2 f_rank_of) (aCons (mV 13) (aCons (mV 2) aNil))) (mC (.int 0))) (mCall (callS 3 (f__law_wins 16)) (aCons (mV 13) (aCons (mV 2) (aCons (mV 5) aNil)))))) (sRet (mC (.bl false))) sNext)
  (sSeq (sSet 7 (mCall (callP 2 f__law_next) (aCons (mV 13) (aCons (mV 2) aNil))))
  (sSeq (sSet 8 (mLs K_law_1))
  (sSeq (sSet 8 (mLs K_law_2))
  (sIf (mOr (mT (m2 neA (mCall (callP 2 f_good_adds) (aCons (mV 13) (aCons (mV 2) aNil))) (mN tupleA (aCons (mV 8) aNil)))) (mT (m2 neA (m2 eqA (mV 8) (mLst aNil)) (m2 eqA (mCall (callP 2 f_rank_of) (aCons (mV 13) (aCons (mV 2) aNil))) (mC (.int 0)))))) (sRet (mC (.bl false))) sNext))))))
def L_law_4 : SM :=
  sFor (mRng1 (mC (.int 4))) (gN 6) B_law_3
def K_law_5 : EM (List AV) :=
  mLc [6] (mRng1 (mCall (callH 2 f__law_draw) (aCons (mV 14) (aCons (mC (.int 6)) aNil)))) (gN 6) mYes (mCall (callH 2 f__law_draw) (aCons (mV 14) (aCons (mC (.int 4096)) aNil)))
def B_law_6 : SM :=
  sSeq (sSet 13 (mCall (callH 2 f__law_book) (aCons (mV 14) (aCons (mC (.int 7)) aNil))))
  (sSeq (sSet 3 (mLs K_law_0))
  (sSeq (sAsg (mTup (aCons (mDC mD0) (aCons (mDC mD0) aNil))) (gT [gN 4, gN 5]))
  (sSeq (sIf (mOr (mT (m2 neA (mCall (callP 1 f_adders_win) (aCons (mV 13) aNil)) (mCall (callS 3 (f__law_wins 16)) (aCons (mV 13) (aCons (mTup aNil) (aCons (mV 5) aNil)))))) (mT (m2 neA (mCall (callP 1 f_adders_win) (aCons (mV 13) aNil)) (m2 neA (mCall (callP 2 f_rank_of) (aCons (mV 13) (aCons (mTup aNil) aNil))) (mC (.int 0)))))) (sRet (mC (.bl false))) sNext)
  (sSeq L_law_4
  (sSeq (sSet 9 (mCall (callH 2 f__law_book) (aCons (mV 14) (aCons (mC (.int 3)) aNil))))
  (sSeq (sIf (mT (m2 neA (mCall (callP 2 f_rank_of) (aCons (mCall (callP 2 f_beside) (aCons (mV 13) (aCons (mV 9) aNil))) (aCons (mTup aNil) aNil))) (mCall (callP 1 f_sum_of_ranks) (aCons (mLst (aCons (mCall (callP 2 f_rank_of) (aCons (mV 13) (aCons (mTup aNil) aNil))) (aCons (mCall (callP 2 f_rank_of) (aCons (mV 9) (aCons (mTup aNil) aNil))) aNil))) aNil)))) (sRet (mC (.bl false))) sNext)
  (sSeq (sSet 10 (mLs K_law_5))
  (sSeq (sIf (mOr (mT (m2 neA (mCall (callP 1 f_sum_of_ranks) (aCons (mN tupleA (aCons (mV 10) aNil)) aNil)) (mCall (callP 1 f__law_twos) (aCons (mV 10) aNil)))) (mT (m2 neA (mCall (callP 1 f_sum_of_ranks) (aCons (m2 addA (mV 10) (mV 10)) aNil)) (mC (.int 0))))) (sRet (mC (.bl false))) sNext)
  (sSeq (sSet 15 (mCall (callH 2 f__law_any) (aCons (mV 14) (aCons (mLst (aCons (mC .non) (aCons (mLst (aCons (mC (.int 0)) aNil)) (aCons (mTup (aCons (mC (.int 0)) (aCons (mC (.int 0)) aNil))) (aCons (mTup (aCons (m1 (fldA ["Book", "RawBook"] "people") (mV 13)) aNil)) (aCons (mTup (aCons (mC (.int 1)) (aCons (mC (.int 0)) aNil))) (aCons (mTup (aCons (mC (.bl true)) aNil)) (aCons (mTup (aCons (m1 negA (mC (.int 1))) aNil)) aNil)))))))) aNil))))
  (sSeq (sSet 11 (mLstC (aCons (mLamA hit__law_word "done" (mCall (callP 2 f_rank_of) (aCons (mV 13) (aCons (mV 15) aNil)))) aNil)))
  (sSeq (sExpr (mLM appendA (mV 11) (aCons (mLamA hit__law_word "done" (mCall (callP 2 f_good_adds) (aCons (mV 13) (aCons (mV 15) aNil)))) aNil)))
  (sSeq (sExpr (mLM appendA (mV 11) (aCons (mLamA hit__law_word "done" (mCall (callP 1 f_sum_of_ranks) (aCons (mCall (callH 2 f__law_any) (aCons (mV 14) (aCons (mLst (aCons (mC .non) (aCons (mLst (aCons (m1 negA (mC (.int 1))) aNil)) (aCons (mTup (aCons (mC (.int 4096)) aNil)) (aCons (mLst (aCons (mC (.bl true)) aNil)) (aCons (mC (.str "0")) (aCons (m2 mulA (mLst (aCons (mC (.int 0)) aNil)) (mC (.int 61))) aNil))))))) aNil))) aNil))) aNil)))
  (sSeq (sIf (mT (m2 neA (mV 11) (mLst (aCons (mC (.str "crowd")) (aCons (mC (.str "crowd")) (aCons (mC (.str "numbers")) aNil)))))) (sRet (mC (.bl false))) sNext)
  (sIf (mAnd (mT (m2 neA (m1 (fldA ["Book", "RawBook"] "lots") (mV 13)) (mTup aNil))) (mT (m2 neA (mLamA hit__law_word "done" (mCall (callP 2 f_rank_of) (aCons (mV 13) (aCons (m2 ixA (m1 (fldA ["Book", "RawBook"] "lots") (mV 13)) (mC (.int 0))) aNil)))) (mC (.str "clear"))))) (sRet (mC (.bl false))) sNext))))))))))))))
def L_law_7 : SM :=
  sFor (mRng1 (mC (.int 2))) (gN 1) B_law_6
def m_law : SM :=
  sSeq (sSet 14 (mCall (callS 1 f__law_hand) (aCons (mV 0) aNil)))
  (sSeq L_law_7
  (sSeq (sSet 12 (m2 addA (mC (.int 1)) (mCall (callH 2 f__law_draw) (aCons (mV 14) (aCons (mC (.int 9)) aNil)))))
  (sRet (m2 eqA (mCall (callP 1 f_adders_win) (aCons (mMake 3 "Book" f_Book___init__ (aCons (mV 12) (aCons (mTup aNil) aNil))) aNil)) (m2 eqA (m2 modA (mN intA (aCons (mV 12) aNil)) (mC (.int 2))) (mC (.int 1)))))))
def f_law : FM := bodyM 16 m_law
theorem ok_law (T : Facts K mg) (B : TBs T base) : FnOk P w K mg base (L2.CX P w) 24 T.a_law T.d_law ["script"] (spM K mg 1 f_law) := fn_mkC T.F_law sc_law fun cdv A outer sh H E hc O =>
  sss_cons (ss_set (i := 14) O.nd rfl (.inr rfl) (se_call O call_s (ok__law_hand T B) (by decide) T.g__law_hand T.k__law_hand T.b__law_hand (sa_cons (se_v 0) sa_nil)))
  (sss_cons (ss_for O (si_rng1 T.z_range se_int) (sg_n (i := 1) O.nd rfl (.inl rfl)) (sss_cons (ss_set (i := 13) O.nd rfl (.inr rfl) (se_call O call_h (ok__law_book T B) (by decide) T.g__law_book T.k__law_book T.b__law_book (sa_cons (se_v 14) (sa_cons se_int sa_nil))))
  (sss_cons (ss_setLs (i := 3) (own := [("crowd", 2)]) (ow := [2]) O rfl rfl (sw_true rfl rfl rfl (by decide +kernel)) (si_seq (se_call O call_p (ok__law_crowds T B) (by decide) T.g__law_crowds T.k__law_crowds T.b__law_crowds (sa_cons (se_fld T.fld_people (se_v 13)) sa_nil))) (blkOk_by (N := N_law) (sc := (defScope s_law)) (own := [("crowd", 2)]) (by decide +kernel)) (by decide) (fun s1 H1 C1 cl1 fp1 => sg_n (i := 2) (O.blk _ s1 H1 C1 cl1 fp1).nd rfl (.inl rfl)) (fun s1 H1 C1 cl1 fp1 => sts_one (st_val (se_call (O.blk _ s1 H1 C1 cl1 fp1) call_p (ok__law_is_clear T B) (by decide) T.g__law_is_clear T.k__law_is_clear T.b__law_is_clear (sa_cons (se_v 13) (sa_cons (se_v 2) sa_nil))))) (fun s1 H1 C1 cl1 fp1 => se_v 2))
  (sss_cons (ss_asg (se_tup (sa_cons (se_dC sd_nil) (sa_cons (se_dC sd_nil) sa_nil))) (sg_tup O (sgs_cons (sg_n (i := 4) O.nd rfl (.inr rfl)) (sgs_cons (sg_n (i := 5) O.nd rfl (.inl rfl)) sgs_nil))))
  (sss_cons (ss_if (sw_st (sw_or (st_cmp (op_neA O.u64) (se_call O call_p (ok_adders_win T B) (by decide) T.g_adders_win T.k_adders_win T.b_adders_win (sa_cons (se_v 13) sa_nil)) (se_call O call_s (ok__law_wins T B 16) (by decide) T.g__law_wins T.k__law_wins T.b__law_wins (sa_cons (se_v 13) (sa_cons (se_tup sa_nil) (sa_cons (se_v 5) sa_nil))))) (sw_or1 (st_cmp (op_neA O.u64) (se_call O call_p (ok_adders_win T B) (by decide) T.g_adders_win T.k_adders_win T.b_adders_win (sa_cons (se_v 13) sa_nil)) (se_cmp (op_neA O.u64) (se_call O call_p (ok_rank_of T B) (by decide) T.g_rank_of T.k_rank_of T.b_rank_of (sa_cons (se_v 13) (sa_cons (se_tup sa_nil) sa_nil))) se_int))))) (sss_one (ss_ret se_bl)) sss_nil)
  (sss_cons (ss_for O (si_rng1 T.z_range se_int) (sg_n (i := 6) O.nd rfl (.inl rfl)) (sss_cons (ss_set (i := 2) O.nd rfl (.inr rfl) (se_call O call_h (ok__law_any T B) (by decide) T.g__law_any T.k__law_any T.b__law_any (sa_cons (se_v 14) (sa_cons (se_v 3) sa_nil))))
  (sss_cons (ss_if (st_cmp (op_neA O.u64) (se_call O call_p (ok_rank_of T B) (by decide) T.g_rank_of T.k_rank_of T.b_rank_of (sa_cons (se_v 13) (sa_cons (se_v 2) sa_nil))) (se_call O call_s (ok__law_rank T B 16) (by decide) T.g__law_rank T.k__law_rank T.b__law_rank (sa_cons (se_v 13) (sa_cons (se_v 2) (sa_cons (se_v 4) sa_nil))))) (sss_one (ss_ret se_bl)) sss_nil)
  (sss_cons (ss_if (st_cmp (op_neA O.u64) (se_cmp (op_neA O.u64) (se_call O call_p (ok_rank_of T B) (by decide) T.g_rank_of T.k_rank_of T.b_rank_of (sa_cons (se_v 13) (sa_cons (se_v 2) sa_nil))) se_int) (se_call O call_s (ok__law_wins T B 16) (by decide) T.g__law_wins T.k__law_wins T.b__law_wins (sa_cons (se_v 13) (sa_cons (se_v 2) (sa_cons (se_v 5) sa_nil))))) (sss_one (ss_ret se_bl)) sss_nil)
  (sss_cons (ss_set (i := 7) O.nd rfl (.inr rfl) (se_call O call_p (ok__law_next T B) (by decide) T.g__law_next T.k__law_next T.b__law_next (sa_cons (se_v 13) (sa_cons (se_v 2) sa_nil))))
  (sss_cons (ss_setLs (i := 8) (own := [("p", 16)]) (ow := [16]) O rfl rfl (sw_true rfl rfl rfl (by decide +kernel)) (si_rng1 T.z_range (se_fld T.fld_people (se_v 13))) (blkOk_by (N := N_law) (sc := (defScope s_law)) (own := [("p", 16)]) (by decide +kernel)) (by decide) (fun s2 H2 C2 cl2 fp2 => sg_n (i := 16) (O.blk _ s2 H2 C2 cl2 fp2).nd rfl (.inl rfl)) (fun s2 H2 C2 cl2 fp2 => sts_one (sw_st (sw_and (st_cmp (op_notInA (O.blk _ s2 H2 C2 cl2 fp2).u65) (se_v 16) (se_v 2)) (sw_and1 (st_cmp (op_inA (O.blk _ s2 H2 C2 cl2 fp2).u65) (se_callTy call_tupleA T.z_tuple (by rfl) (sa_cons (se_ls (sf_callB call_sortTA T.z_sorted (by rfl) (sa_cons (se_op op_addA (se_v 2) (se_tup (sa_cons (se_v 16) sa_nil))) sa_nil))) sa_nil)) (se_v 7)))))) (fun s2 H2 C2 cl2 fp2 => se_v 16))
  (sss_cons (ss_setLs (i := 8) (own := [("p", 16)]) (ow := [16]) O rfl rfl (sw_true rfl rfl rfl (by decide +kernel)) (si_seq (se_v 8)) (blkOk_by (N := N_law) (sc := (defScope s_law)) (own := [("p", 16)]) (by decide +kernel)) (by decide) (fun s3 H3 C3 cl3 fp3 => sg_n (i := 16) (O.blk _ s3 H3 C3 cl3 fp3).nd rfl (.inl rfl)) (fun s3 H3 C3 cl3 fp3 => sts_one (st_cmp (op_eqA (O.blk _ s3 H3 C3 cl3 fp3).u64) (se_call (O.blk _ s3 H3 C3 cl3 fp3) call_s (ok__law_rank T B 16) (by decide) T.g__law_rank T.k__law_rank T.b__law_rank (sa_cons (se_v 13) (sa_cons (se_callTy call_tupleA T.z_tuple (by rfl) (sa_cons (se_ls (sf_callB call_sortTA T.z_sorted (by rfl) (sa_cons (se_op op_addA (se_v 2) (se_tup (sa_cons (se_v 16) sa_nil))) sa_nil))) sa_nil)) (sa_cons (se_v 4) sa_nil)))) se_int)) (fun s3 H3 C3 cl3 fp3 => se_v 16))
  (sss_one (ss_if (sw_st (sw_or (st_cmp (op_neA O.u64) (se_call O call_p (ok_good_adds T B) (by decide) T.g_good_adds T.k_good_adds T.b_good_adds (sa_cons (se_v 13) (sa_cons (se_v 2) sa_nil))) (se_callTy call_tupleA T.z_tuple (by rfl) (sa_cons (se_v 8) sa_nil))) (sw_or1 (st_cmp (op_neA O.u64) (se_cmp (op_eqA O.u64) (se_v 8) (se_lst sa_nil)) (se_cmp (op_eqA O.u64) (se_call O call_p (ok_rank_of T B) (by decide) T.g_rank_of T.k_rank_of T.b_rank_of (sa_cons (se_v 13) (sa_cons (se_v 2) sa_nil))) se_int))))) (sss_one (ss_ret se_bl)) sss_nil)))))))))
  (sss_cons (ss_set (i := 9) O.nd rfl (.inl rfl) (se_call O call_h (ok__law_book T B) (by decide) T.g__law_book T.k__law_book T.b__law_book (sa_cons (se_v 14) (sa_cons se_int sa_nil))))
  (sss_cons (ss_if (st_cmp (op_neA O.u64) (se_call O call_p (ok_rank_of T B) (by decide) T.g_rank_of T.k_rank_of T.b_rank_of (sa_cons (se_call O call_p (ok_beside T B) (by decide) T.g_beside T.k_beside T.b_beside (sa_cons (se_v 13) (sa_cons (se_v 9) sa_nil))) (sa_cons (se_tup sa_nil) sa_nil))) (se_call O call_p (ok_sum_of_ranks T B) (by decide) T.g_sum_of_ranks T.k_sum_of_ranks T.b_sum_of_ranks (sa_cons (se_lst (sa_cons (se_call O call_p (ok_rank_of T B) (by decide) T.g_rank_of T.k_rank_of T.b_rank_of (sa_cons (se_v 13) (sa_cons (se_tup sa_nil) sa_nil))) (sa_cons (se_call O call_p (ok_rank_of T B) (by decide) T.g_rank_of T.k_rank_of T.b_rank_of (sa_cons (se_v 9) (sa_cons (se_tup sa_nil) sa_nil))) sa_nil))) sa_nil))) (sss_one (ss_ret se_bl)) sss_nil)
  (sss_cons (ss_setLs (i := 10) (own := [("again", 6)]) (ow := [6]) O rfl rfl (sw_true rfl rfl rfl (by decide +kernel)) (si_rng1 T.z_range (se_call O call_h (ok__law_draw T B) (by decide) T.g__law_draw T.k__law_draw T.b__law_draw (sa_cons (se_v 14) (sa_cons se_int sa_nil)))) (blkOk_by (N := N_law) (sc := (defScope s_law)) (own := [("again", 6)]) (by decide +kernel)) (by decide) (fun s4 H4 C4 cl4 fp4 => sg_n (i := 6) (O.blk _ s4 H4 C4 cl4 fp4).nd rfl (.inl rfl)) (fun s4 H4 C4 cl4 fp4 => sts_nil) (fun s4 H4 C4 cl4 fp4 => se_call (O.blk _ s4 H4 C4 cl4 fp4) call_h (ok__law_draw T B) (by decide) T.g__law_draw T.k__law_draw T.b__law_draw (sa_cons (se_v 14) (sa_cons se_int sa_nil))))
  (sss_cons (ss_if (sw_st (sw_or (st_cmp (op_neA O.u64) (se_call O call_p (ok_sum_of_ranks T B) (by decide) T.g_sum_of_ranks T.k_sum_of_ranks T.b_sum_of_ranks (sa_cons (se_callTy call_tupleA T.z_tuple (by rfl) (sa_cons (se_v 10) sa_nil)) sa_nil)) (se_call O call_p (ok__law_twos T B) (by decide) T.g__law_twos T.k__law_twos T.b__law_twos (sa_cons (se_v 10) sa_nil))) (sw_or1 (st_cmp (op_neA O.u64) (se_call O call_p (ok_sum_of_ranks T B) (by decide) T.g_sum_of_ranks T.k_sum_of_ranks T.b_sum_of_ranks (sa_cons (se_op op_addA (se_v 10) (se_v 10)) sa_nil)) se_int)))) (sss_one (ss_ret se_bl)) sss_nil)
  (sss_cons (ss_set (i := 15) O.nd rfl (.inr rfl) (se_call O call_h (ok__law_any T B) (by decide) T.g__law_any T.k__law_any T.b__law_any (sa_cons (se_v 14) (sa_cons (se_lst (sa_cons se_non (sa_cons (se_lst (sa_cons se_int sa_nil)) (sa_cons (se_tup (sa_cons se_int (sa_cons se_int sa_nil))) (sa_cons (se_tup (sa_cons (se_fld T.fld_people (se_v 13)) sa_nil)) (sa_cons (se_tup (sa_cons se_int (sa_cons se_int sa_nil))) (sa_cons (se_tup (sa_cons se_bl sa_nil)) (sa_cons (se_tup (sa_cons (se_un un_negA se_int) sa_nil)) sa_nil)))))))) sa_nil))))
  (sss_cons (ss_set (i := 11) O.nd rfl (.inl rfl) (se_lstC (sa_cons (se_lamF (k := 21) (q0 := ("law" : Str) ++ ".<locals>.") O (by decide) T.g__law_word T.F__law_word T.b__law_word sc__law_word rfl (.inl rfl) (fun cdv => gives__law_word T) B.tb_law (hc.symm.trans T.cd_law) qual_cx B.m_law B.u_law (LamX.lamS_by (sc := (defScope s_law)) (by decide +kernel)) (hit_ok__law_word T) (fun A5 outer5 sh5 H5 E5 f5 c5 O5 => se_call O5 call_p (ok_rank_of T B) (by decide) T.g_rank_of T.k_rank_of T.b_rank_of (sa_cons (se_v 13) (sa_cons (se_v 15) sa_nil)))) sa_nil)))
  (sss_cons (ss_expr (se_lm PySem.F.plainAttrs_list PySem.F.slot_list_append PySem.F.type_list_append mt_appendA (se_v 11) (sa_cons (se_lamF (k := 21) (q0 := ("law" : Str) ++ ".<locals>.") O (by decide) T.g__law_word T.F__law_word T.b__law_word sc__law_word rfl (.inl rfl) (fun cdv => gives__law_word T) B.tb_law (hc.symm.trans T.cd_law) qual_cx B.m_law B.u_law (LamX.lamS_by (sc := (defScope s_law)) (by decide +kernel)) (hit_ok__law_word T) (fun A6 outer6 sh6 H6 E6 f6 c6 O6 => se_call O6 call_p (ok_good_adds T B) (by decide) T.g_good_adds T.k_good_adds T.b_good_adds (sa_cons (se_v 13) (sa_cons (se_v 15) sa_nil)))) sa_nil)))
  (sss_cons (ss_expr (se_lm PySem.F.plainAttrs_list PySem.F.slot_list_append PySem.F.type_list_append mt_appendA (se_v 11) (sa_cons (se_lamF (k := 3) (q0 := ("law" : Str) ++ ".<locals>.") O (by decide) T.g__law_word T.F__law_word T.b__law_word sc__law_word rfl (.inl rfl) (fun cdv => gives__law_word T) B.tb_law (hc.symm.trans T.cd_law) qual_cx B.m_law B.u_law (LamX.lamS_by (sc := (defScope s_law)) (by decide +kernel)) (hit_ok__law_word T) (fun A7 outer7 sh7 H7 E7 f7 c7 O7 => se_call O7 call_p (ok_sum_of_ranks T B) (by decide) T.g_sum_of_ranks T.k_sum_of_ranks T.b_sum_of_ranks (sa_cons (se_call O7 call_h (ok__law_any T B) (by decide) T.g__law_any T.k__law_any T.b__law_any (sa_cons (se_v 14) (sa_cons (se_lst (sa_cons se_non (sa_cons (se_lst (sa_cons (se_un un_negA se_int) sa_nil)) (sa_cons (se_tup (sa_cons se_int sa_nil)) (sa_cons (se_lst (sa_cons se_bl sa_nil)) (sa_cons se_str (sa_cons (se_op op_mulA (se_lst (sa_cons se_int sa_nil)) se_int) sa_nil))))))) sa_nil))) sa_nil))) sa_nil)))
  (sss_cons (ss_if (st_cmp (op_neA O.u64) (se_v 11) (se_lst (sa_cons se_str (sa_cons se_str (sa_cons se_str sa_nil))))) (sss_one (ss_ret se_bl)) sss_nil)
  (sss_one (ss_if (sw_st (sw_and (st_cmp (op_neA O.u64) (se_fld T.fld_lots (se_v 13)) (se_tup sa_nil)) (sw_and1 (st_cmp (op_neA O.u64) (se_lamF (k := 21) (q0 := ("law" : Str) ++ ".<locals>.") O (by decide) T.g__law_word T.F__law_word T.b__law_word sc__law_word rfl (.inl rfl) (fun cdv => gives__law_word T) B.tb_law (hc.symm.trans T.cd_law) qual_cx B.m_law B.u_law (LamX.lamS_by (sc := (defScope s_law)) (by decide +kernel)) (hit_ok__law_word T) (fun A8 outer8 sh8 H8 E8 f8 c8 O8 => se_call O8 call_p (ok_rank_of T B) (by decide) T.g_rank_of T.k_rank_of T.b_rank_of (sa_cons (se_v 13) (sa_cons (se_ix (se_fld T.fld_lots (se_v 13)) se_int) sa_nil)))) se_str)))) (sss_one (ss_ret se_bl)) sss_nil)))))))))))))))))
  (sss_cons (ss_set (i := 12) O.nd rfl (.inl rfl) (se_op op_addA se_int (se_call O call_h (ok__law_draw T B) (by decide) T.g__law_draw T.k__law_draw T.b__law_draw (sa_cons (se_v 14) (sa_cons se_int sa_nil)))))
  (sss_one (ss_ret (se_cmp (op_eqA O.u64) (se_call O call_p (ok_adders_win T B) (by decide) T.g_adders_win T.k_adders_win T.b_adders_win (sa_cons (se_make O ⟨T.C_Book.mks, T.at_Book___init__, T.fn_Book___init__, T.C_Book.kp⟩ (ok_Book___init__ T B) (by decide) T.C_Book.g T.b_Book___init__ (sa_cons (se_v 12) (sa_cons (se_tup sa_nil) sa_nil))) sa_nil)) (se_cmp (op_eqA O.u64) (se_op op_modA (se_callTy call_intA T.z_int (by rfl) (sa_cons (se_v 12) sa_nil)) se_int) se_int))))))

end
end LW

set_option Elab.async false
set_option linter.all false
set_option maxRecDepth 100000
set_option maxHeartbeats 2000000
namespace LW
open PySem L2 Sim
/-- the hand -/
def hand (cs : List Int) (i x y z : Int) : Cell := .lst [.lst (cs.map .int), .int i, .int x, .int y, .int z]
theorem ix0 {cs i x y z} : ixA [hand cs i x y z] (.cell 0) (.int 0) = some (.lst (cs.map .int)) := rfl
theorem ix1 {cs i x y z} : ixA [hand cs i x y z] (.cell 0) (.int 1) = some (.int i) := rfl
theorem ix2 {cs i x y z} : ixA [hand cs i x y z] (.cell 0) (.int 2) = some (.int x) := rfl
theorem ix3 {cs i x y z} : ixA [hand cs i x y z] (.cell 0) (.int 3) = some (.int y) := rfl
theorem ix4 {cs i x y z} : ixA [hand cs i x y z] (.cell 0) (.int 4) = some (.int z) := rfl
theorem pu1 {cs i x y z v} : putIx (.cell 0) (.int 1) (.int v) [hand cs i x y z] = some [hand cs v x y z] := rfl
theorem pu2 {cs i x y z v} : putIx (.cell 0) (.int 2) (.int v) [hand cs i x y z] = some [hand cs i v y z] := rfl
theorem pu3 {cs i x y z v} : putIx (.cell 0) (.int 3) (.int v) [hand cs i x y z] = some [hand cs i x v z] := rfl
theorem pu4 {cs i x y z v} : putIx (.cell 0) (.int 4) (.int v) [hand cs i x y z] = some [hand cs i x y v] := rfl
def HandOk (c : Cell) : Prop := ∃ (cs : List Int) (i x y z : Int), c = hand cs i x y z ∧ 0 ≤ i ∧ 0 ≤ x
def n1 (y z : Int) : Int := (y + 7919 * (z + 1)) * 48271 % 2147483647
def n2 (n : Int) : Int := n * (n / 1009 + 69621) % 2147483647
def n3 (n : Int) : Int := n * (n / 2003 + 40014) % 2147483563
theorem n1_b (y z : Int) : 0 ≤ n1 y z ∧ n1 y z < 2147483647 := by unfold n1; exact ⟨Int.emod_nonneg _ (by decide), Int.emod_lt_of_pos _ (by decide)⟩
theorem n2_b (n : Int) : 0 ≤ n2 n ∧ n2 n < 2147483647 := by unfold n2; exact ⟨Int.emod_nonneg _ (by decide), Int.emod_lt_of_pos _ (by decide)⟩
def drawN (y z many : Int) : Int := n3 (n2 (n1 y z)) / 16 % many
theorem pos_fix {n : Int} (h : 0 < n) (h2 : n < 1073741824) : True := trivial
theorem draw_ok {c : Cell} {many : Int} (hc : HandOk c) (h1 : 1 ≤ many) (h2 : many < 1073741824) : ∃ d c', f__law_draw [.cell 0, .int many] [c] = .ok (.int d) [c'] ∧ 0 ≤ d ∧ d < many ∧ HandOk c' := by
  obtain ⟨cs, i, x, y, z, rfl, hi, hx⟩ := hc
  have hm : (0 : Int) < many := by omega
  have a1 : (0 : Int) < 2147483647 := by decide
  have a2 : (0 : Int) < 2147483563 := by decide
  have a3 : (0 : Int) < 2147483629 := by decide
  have a4 : (0 : Int) < 1009 ∧ (1009 : Int) < 1073741824 := by decide
  have a5 : (0 : Int) < 2003 ∧ (2003 : Int) < 1073741824 := by decide
  have a6 : (0 : Int) < 16 ∧ (16 : Int) < 1073741824 := by decide
  have c1 : -(2 ^ 64) < (7919 : Int) ∧ (7919 : Int) < 2 ^ 64 := by decide
  have c2 : -(2 ^ 64) < (48271 : Int) ∧ (48271 : Int) < 2 ^ 64 := by decide
  have c3 : -(2 ^ 64) < (69621 : Int) ∧ (69621 : Int) < 2 ^ 64 := by decide
  have c4 : -(2 ^ 64) < (40692 : Int) ∧ (40692 : Int) < 2 ^ 64 := by decide
  have b1 : ∀ y z : Int, -(2 ^ 64) < (y + 7919 * (z + 1)) * 48271 % 2147483647 ∧ (y + 7919 * (z + 1)) * 48271 % 2147483647 < 2 ^ 64 := fun y z => by have := n1_b y z; unfold n1 at this; omega
  have b2 : ∀ n : Int, -(2 ^ 64) < n * (n / 1009 + 69621) % 2147483647 ∧ n * (n / 1009 + 69621) % 2147483647 < 2 ^ 64 := fun n => by have := n2_b n; unfold n2 at this; omega
  by_cases h0 : x = 0
  · subst h0
    by_cases hl : i < cs.length
    · obtain ⟨cell, hcell⟩ : ∃ cell, (cs.map AV.int)[i.toNat]? = some (.int cell) := ⟨cs[i.toNat]'(by omega), by rw [List.getElem?_map, List.getElem?_eq_getElem (by omega)]; rfl⟩
      by_cases h18 : (10 : Int) ^ 18 ≤ cell
      · have hp : (0 : Int) < cell := Int.lt_of_lt_of_le (by decide) h18
        refine ⟨cell % many, hand cs (i + 1) (cell / many) ((y * 69621 + cell * 40692 + 31) % 2147483629) z, ?_, Int.emod_nonneg _ (by omega), Int.emod_lt_of_pos _ hm, cs, i + 1, _, _, z, rfl, by omega, Int.ediv_nonneg (by omega) (by omega)⟩
        unfold f__law_draw m__law_draw
        simp only [bodyM, sSeq, sIf, sThen, sSet, sRet, sRetN, sNext, sExpr, sPutIx, sAsg, sPar, sAug, sExc, mAnd, mOr, mNot, mIf, mT, mB, mAndV, mOrV, mNotV, m2, m1, mN, mNL, mV, mC, mLst, mTup, mLs, mLC, mLstC, newC, mSl, oNo, oYes, mChain, mChain, mCall, aNil, aCons, M.bnd, M.ret, M.bad, rd, gN, gT, gSeq, mF, frzA, mLM, mLM0, mItS, mItL, mItT, mEnum, mRng1, mRng2, List.map_cons, List.map_nil, List.replicate, List.cons_append, List.nil_append, List.getElem?_cons_zero, List.getElem?_cons_succ, List.set_cons_zero, List.set_cons_succ, List.length_cons, List.length_nil, Option.bind_some, Option.bind_none, Option.map_some, Option.map_none, if_true, if_false, ite_true, ite_false, Bool.false_eq_true, reduceIte, reduceCtorEq, ix0, ix1, ix2, ix3, ix4, pu1, pu2, pu3, pu4, eqA_int, ltA_int, gtA_int, geA_int, lenA_lst, List.length_map, hl, decide_true, decide_false, p18, h18, hp, ixA_lst hi hcell, intA_int, addA_int, mulA_r c3, mulA_r c4, modA_int a3, modA_int hm, fdivA_int hm h2]
      · refine ⟨drawN ((y * 69621 + cell * 40692 + 31) % 2147483629) z many, hand cs (i + 1) 0 ((y * 69621 + cell * 40692 + 31) % 2147483629) (z + 1), ?_, Int.emod_nonneg _ (by omega), Int.emod_lt_of_pos _ hm, cs, i + 1, _, _, _, rfl, by omega, by omega⟩
        unfold f__law_draw m__law_draw
        simp only [bodyM, sSeq, sIf, sThen, sSet, sRet, sRetN, sNext, sExpr, sPutIx, sAsg, sPar, sAug, sExc, mAnd, mOr, mNot, mIf, mT, mB, mAndV, mOrV, mNotV, m2, m1, mN, mNL, mV, mC, mLst, mTup, mLs, mLC, mLstC, newC, mSl, oNo, oYes, mChain, mChain, mCall, aNil, aCons, M.bnd, M.ret, M.bad, rd, gN, gT, gSeq, mF, frzA, mLM, mLM0, mItS, mItL, mItT, mEnum, mRng1, mRng2, List.map_cons, List.map_nil, List.replicate, List.cons_append, List.nil_append, List.getElem?_cons_zero, List.getElem?_cons_succ, List.set_cons_zero, List.set_cons_succ, List.length_cons, List.length_nil, Option.bind_some, Option.bind_none, Option.map_some, Option.map_none, if_true, if_false, ite_true, ite_false, Bool.false_eq_true, reduceIte, reduceCtorEq, ix0, ix1, ix2, ix3, ix4, pu1, pu2, pu3, pu4, eqA_int, ltA_int, gtA_int, geA_int, lenA_lst, List.length_map, hl, decide_true, decide_false, p18, h18, ixA_lst hi hcell, intA_int, addA_int, mulA_r c3, mulA_r c4, modA_int a3, modA_int hm, fdivA_int hm h2, Int.lt_irrefl, mulA_l c1, mulA_r c2, modA_int a1, modA_int a2, fdivA_int a4.1 a4.2, fdivA_int a5.1 a5.2, fdivA_int a6.1 a6.2, mulA_l (b1 _ _), mulA_l (b2 _)]
        rfl
    · refine ⟨drawN y z many, hand cs i 0 y (z + 1), ?_, Int.emod_nonneg _ (by omega), Int.emod_lt_of_pos _ hm, cs, i, _, _, _, rfl, by omega, by omega⟩
      unfold f__law_draw m__law_draw
      simp only [bodyM, sSeq, sIf, sThen, sSet, sRet, sRetN, sNext, sExpr, sPutIx, sAsg, sPar, sAug, sExc, mAnd, mOr, mNot, mIf, mT, mB, mAndV, mOrV, mNotV, m2, m1, mN, mNL, mV, mC, mLst, mTup, mLs, mLC, mLstC, newC, mSl, oNo, oYes, mChain, mChain, mCall, aNil, aCons, M.bnd, M.ret, M.bad, rd, gN, gT, gSeq, mF, frzA, mLM, mLM0, mItS, mItL, mItT, mEnum, mRng1, mRng2, List.map_cons, List.map_nil, List.replicate, List.cons_append, List.nil_append, List.getElem?_cons_zero, List.getElem?_cons_succ, List.set_cons_zero, List.set_cons_succ, List.length_cons, List.length_nil, Option.bind_some, Option.bind_none, Option.map_some, Option.map_none, if_true, if_false, ite_true, ite_false, Bool.false_eq_true, reduceIte, reduceCtorEq, ix0, ix1, ix2, ix3, ix4, pu1, pu2, pu3, pu4, eqA_int, ltA_int, gtA_int, geA_int, lenA_lst, List.length_map, hl, decide_true, decide_false, intA_int, addA_int, modA_int hm, Int.lt_irrefl, mulA_l c1, mulA_r c2, modA_int a1, modA_int a2, fdivA_int a4.1 a4.2, fdivA_int a5.1 a5.2, fdivA_int a6.1 a6.2, mulA_l (b1 _ _), mulA_l (b2 _)]
      rfl
  · have hp : 0 < x := by omega
    refine ⟨x % many, hand cs i (x / many) y z, ?_, Int.emod_nonneg _ (by omega), Int.emod_lt_of_pos _ hm, cs, i, x / many, y, z, rfl, hi, Int.ediv_nonneg hx (by omega)⟩
    unfold f__law_draw m__law_draw
    simp only [bodyM, sSeq, sIf, sThen, sSet, sRet, sRetN, sNext, sExpr, sPutIx, sAsg, sPar, sAug, sExc, mAnd, mOr, mNot, mIf, mT, mB, mAndV, mOrV, mNotV, m2, m1, mN, mNL, mV, mC, mLst, mTup, mLs, mLC, mLstC, newC, mSl, oNo, oYes, mChain, mChain, mCall, aNil, aCons, M.bnd, M.ret, M.bad, rd, gN, gT, gSeq, mF, frzA, mLM, mLM0, mItS, mItL, mItT, mEnum, mRng1, mRng2, List.map_cons, List.map_nil, List.replicate, List.cons_append, List.nil_append, List.getElem?_cons_zero, List.getElem?_cons_succ, List.set_cons_zero, List.set_cons_succ, List.length_cons, List.length_nil, Option.bind_some, Option.bind_none, Option.map_some, Option.map_none, if_true, if_false, ite_true, ite_false, Bool.false_eq_true, reduceIte, reduceCtorEq, ix2, pu2, eqA_int, h0, hp, gtA_int, decide_true, decide_false, intA_int, modA_int hm, fdivA_int hm h2]

theorem HandOk.noCC {c : Cell} (h : HandOk c) : noCC c = true := by
  obtain ⟨cs, i, x, y, z, rfl, _, _⟩ := h
  show noCs _ = true
  rw [noCs]
  show (noCs (cs.map AV.int) && true) = true
  rw [noCs_map (fun _ => rfl)]
  rfl
theorem draw_at {h : Hs} {n : Nat} {c : Cell} {many : Int} (hn : h[n]? = some c) (hc : HandOk c) (h1 : 1 ≤ many) (h2 : many < 1073741824) : ∃ d c', callH 2 f__law_draw [.cell n, .int many] h = .ok (.int d) (h.set n c') ∧ 0 ≤ d ∧ d < many ∧ HandOk c' := by
  obtain ⟨d, c', e, q1, q2, q3⟩ := draw_ok hc h1 h2
  exact ⟨d, c', callH_ok (m := f__law_draw) (avs := [.int many]) hn e rfl rfl hc.noCC rfl q3.noCC, q1, q2, q3⟩
theorem any_ok {c : Cell} {xs : List AV} (hc : HandOk c) (h1 : 1 ≤ xs.length) (h2 : xs.length < 1073741824) : ∃ a c', f__law_any [.cell 0, .lst xs] [c] = .ok a [c'] ∧ a ∈ xs ∧ HandOk c' := by
  obtain ⟨d, c', e, q1, q2, q3⟩ := draw_at (h := [c]) (n := 0) (many := xs.length) rfl hc (by omega) (by omega)
  have hl : d.toNat < xs.length := by omega
  refine ⟨xs[d.toNat], c', ?_, List.getElem_mem hl, q3⟩
  have ix : ixA [c'] (.lst xs) (.int d) = some xs[d.toNat] := ixA_lst q1 (List.getElem?_eq_getElem hl)
  have e2 : callH 2 f__law_draw [.cell 0, .int xs.length] [c] = .ok (.int d) [c'] := e
  unfold f__law_any m__law_any
  simp only [bodyM, sRet, sThen, m2, mV, mCall, aCons, aNil, mN, M.bnd, M.ret, rd, List.map_cons, List.map_nil, List.replicate, List.cons_append, List.nil_append, List.getElem?_cons_zero, List.getElem?_cons_succ, lenA_lst, e2, ix]
theorem any_at {h : Hs} {n : Nat} {c : Cell} {xs : List AV} (hn : h[n]? = some c) (hc : HandOk c) (h1 : 1 ≤ xs.length) (h2 : xs.length < 1073741824) (hx : noCs xs = true) : ∃ a c', callH 2 f__law_any [.cell n, .lst xs] h = .ok a (h.set n c') ∧ a ∈ xs ∧ HandOk c' := by
  obtain ⟨a, c', e, q1, q2⟩ := any_ok hc h1 h2
  exact ⟨a, c', callH_ok (m := f__law_any) (avs := [.lst xs]) hn e rfl (by rw [noCs]; show (noCs xs && true) = true; rw [hx]; rfl) hc.noCC (noCs_mem hx q1) q2.noCC, q1, q2⟩
end LW

set_option Elab.async false
set_option linter.all false
set_option maxRecDepth 100000
set_option maxHeartbeats 2000000
namespace LW
open PySem L2 Sim MB
theorem within_int {i a b : Int} : f_is_within [.int i, .int a, .int b] [] = .ok (.bl (decide (a ≤ i) && decide (i ≤ b))) [] := by
  have e : callP 1 f_is_integer [.int i] [] = .ok (.bl true) [] := rfl
  unfold f_is_within m_is_within
  by_cases h1 : a ≤ i <;> simp only [bodyM, sSeq, sIf, sThen, sSet, sRet, sRetN, sNext, sExpr, sPutIx, sAsg, sPar, sAug, sExc, mAnd, mOr, mNot, mIf, mT, mB, mAndV, mOrV, mNotV, m2, m1, mN, mNL, mV, mC, mLst, mTup, mLs, mLC, mLstC, newC, mSl, oNo, oYes, mChain, mChain, mCall, aNil, aCons, M.bnd, M.ret, M.bad, rd, gN, gT, gSeq, mF, frzA, mLM, mLM0, mItS, mItL, mItT, mEnum, mRng1, mRng2, List.map_cons, List.map_nil, List.replicate, List.cons_append, List.nil_append, List.getElem?_cons_zero, List.getElem?_cons_succ, List.set_cons_zero, List.set_cons_succ, List.length_cons, List.length_nil, Option.bind_some, Option.bind_none, Option.map_some, Option.map_none, if_true, if_false, ite_true, ite_false, Bool.false_eq_true, reduceIte, reduceCtorEq, leA_int, e, h1, decide_true, decide_false, Bool.true_and, Bool.false_and]
theorem within_P {h : Hs} {i a b : Int} : callP 3 f_is_within [.int i, .int a, .int b] h = .ok (.bl (decide (a ≤ i) && decide (i ≤ b))) h := callP_ok within_int rfl rfl rfl
theorem people_ok {h : Hs} {i b : Int} (h1 : 1 ≤ i) (h2 : i ≤ b) : callP 2 f_check_people [.int i, .int b] h = .ok .non h := by
  refine callP_ok (h' := []) ?_ rfl rfl rfl
  unfold f_check_people m_check_people
  simp only [bodyM, sSeq, sIf, sThen, sSet, sRet, sRetN, sNext, sExpr, sPutIx, sAsg, sPar, sAug, sExc, mAnd, mOr, mNot, mIf, mT, mB, mAndV, mOrV, mNotV, m2, m1, mN, mNL, mV, mC, mLst, mTup, mLs, mLC, mLstC, newC, mSl, oNo, oYes, mChain, mChain, mCall, aNil, aCons, M.bnd, M.ret, M.bad, rd, gN, gT, gSeq, mF, frzA, mLM, mLM0, mItS, mItL, mItT, mEnum, mRng1, mRng2, List.map_cons, List.map_nil, List.replicate, List.cons_append, List.nil_append, List.getElem?_cons_zero, List.getElem?_cons_succ, List.set_cons_zero, List.set_cons_succ, List.length_cons, List.length_nil, Option.bind_some, Option.bind_none, Option.map_some, Option.map_none, if_true, if_false, ite_true, ite_false, Bool.false_eq_true, reduceIte, reduceCtorEq, within_P, h1, h2, decide_true, Bool.and_true, Bool.not_true]
theorem inR_small {i : Int} (h1 : -4611686018427387904 < i) (h2 : i < 4611686018427387904) : inR i = true := by
  exact lg_mk (k := 62) (by decide) (by omega) (by omega)
theorem rng1 {m : EM AV} {env : AEnv} {h h' : Hs} {n : Int} (e : m env h = .ok (.int n) h') (h0 : 0 ≤ n) (hn : n < 4611686018427387904) : mRng1 m env h = .ok (rngL 0 n) h' := by
  have hr := inR_small (i := n) (by omega) hn
  unfold mRng1 M.bnd
  rw [e]
  simp only [int?, Option.bind_some, hr, if_true, rd]
theorem rng2 {m m' : EM AV} {env : AEnv} {h h' h2 : Hs} {a n : Int} (e : m env h = .ok (.int a) h') (e2 : m' env h' = .ok (.int n) h2) (h0 : 0 ≤ a) (h1 : a < 4611686018427387904) (h0 : 0 ≤ n) (hn : n < 4611686018427387904) : mRng2 m m' env h = .ok (rngL a n) h2 := by
  have hr := inR_small (i := n) (by omega) hn
  have hr2 := inR_small (i := a) (by omega) h1
  unfold mRng2 M.bnd
  rw [e]
  dsimp only [M.bnd]
  rw [e2]
  simp only [int?, Option.bind_some, hr, hr2, and_self, if_true, rd]
theorem many_ok {h : Hs} {i b : Int} (h1 : i ≤ b) : callP 2 f_check_many [.int i, .int b] h = .ok .non h := by
  refine callP_ok (h' := []) ?_ rfl rfl rfl
  unfold f_check_many m_check_many
  have : ¬ b < i := by omega
  simp only [bodyM, sSeq, sIf, sThen, sSet, sRet, sRetN, sNext, sExpr, sPutIx, sAsg, sPar, sAug, sExc, mAnd, mOr, mNot, mIf, mT, mB, mAndV, mOrV, mNotV, m2, m1, mN, mNL, mV, mC, mLst, mTup, mLs, mLC, mLstC, newC, mSl, oNo, oYes, mChain, mChain, mCall, aNil, aCons, M.bnd, M.ret, M.bad, rd, gN, gT, gSeq, mF, frzA, mLM, mLM0, mItS, mItL, mItT, mEnum, mRng1, mRng2, List.map_cons, List.map_nil, List.replicate, List.cons_append, List.nil_append, List.getElem?_cons_zero, List.getElem?_cons_succ, List.set_cons_zero, List.set_cons_succ, List.length_cons, List.length_nil, Option.bind_some, Option.bind_none, Option.map_some, Option.map_none, if_true, if_false, ite_true, ite_false, Bool.false_eq_true, reduceIte, reduceCtorEq, gtA_int, this, decide_false]
/-! ### crowds -/
abbrev ctA (b : Nat) : AV := tupA (cr b)
theorem noC_tupA (ns : List Int) : noC (tupA ns) = true := by
  show noCs (ns.map AV.int) = true
  exact noCs_map (fun _ => rfl) ns
theorem noCs_ct (Ls : List Nat) : noCs (Ls.map ctA) = true := noCs_map (fun b => noC_tupA _) Ls
theorem small_cr {b : Nat} (hb : b < 4096) : (cr b).length ≤ sizeLine := Nat.le_trans (cr_len_n (n := 12) hb) (by decide)
theorem cr_nat {b : Nat} {x : Int} (hb : b < 4096) (hx : x ∈ cr b) : ∃ i : Nat, x = i ∧ i < 12 := by
  have := cr_range (n := 12) hb hx
  exact ⟨x.toNat, by omega, by omega⟩
theorem bits_ok {b : Nat} {h : Hs} (hb : b < 4096) : callP 1 f_bits_of [ctA b] h = .ok (.int b) h := by
  refine callP_ok (h' := []) ?_ rfl (by rw [noCs, noC_tupA]; rfl) rfl
  have e1 : K_bits_of_0 [some (ctA b), none] [] = .ok ((cr b).map fun p => AV.int ((2 : Int) ^ p.toNat)) [] := by
    unfold K_bits_of_0
    refine mLc_jm (xs := cr b) (h' := []) AV.int (fun p => AV.int ((2 : Int) ^ p.toNat)) rfl (small_cr hb) fun p hp => ⟨_, rfl, ?_⟩
    obtain ⟨i, rfl, hi⟩ := cr_nat hb hp
    have : shlA [] (.int 1) (.int i) = some (.int ((2 ^ i : Nat) : Int)) := shlA_one (Nat.lt_of_lt_of_le hi (by decide))
    simp only [wipeE, bodyM, sSeq, sIf, sThen, sSet, sRet, sRetN, sNext, sExpr, sPutIx, sAsg, sPar, sAug, sExc, mAnd, mOr, mNot, mIf, mT, mB, mAndV, mOrV, mNotV, m2, m1, mN, mNL, mV, mC, mLst, mTup, mLs, mLC, mLstC, newC, mSl, oNo, oYes, mChain, mChain, mCall, aNil, aCons, M.bnd, M.ret, M.bad, rd, gN, gT, gSeq, mF, frzA, mLM, mLM0, mItS, mItL, mItT, mEnum, mRng1, mRng2, List.map_cons, List.map_nil, List.replicate, List.cons_append, List.nil_append, List.getElem?_cons_zero, List.getElem?_cons_succ, List.set_cons_zero, List.set_cons_succ, List.length_cons, List.length_nil, Option.bind_some, Option.bind_none, Option.map_some, Option.map_none, if_true, if_false, ite_true, ite_false, Bool.false_eq_true, reduceIte, reduceCtorEq, this, Int.toNat_natCast, Int.natCast_pow]
    rfl
  unfold f_bits_of m_bits_of
  have e2 : ((cr b).map fun p => AV.int ((2 : Int) ^ p.toNat)) = ((cr b).map fun p => (2 : Int) ^ p.toNat).map AV.int := by rw [List.map_map]; rfl
  simp only [bodyM, sSeq, sIf, sThen, sSet, sRet, sRetN, sNext, sExpr, sPutIx, sAsg, sPar, sAug, sExc, mAnd, mOr, mNot, mIf, mT, mB, mAndV, mOrV, mNotV, m2, m1, mN, mNL, mV, mC, mLst, mTup, mLs, mLC, mLstC, newC, mSl, oNo, oYes, mChain, mChain, mCall, aNil, aCons, M.bnd, M.ret, M.bad, rd, gN, gT, gSeq, mF, frzA, mLM, mLM0, mItS, mItL, mItT, mEnum, mRng1, mRng2, List.map_cons, List.map_nil, List.replicate, List.cons_append, List.nil_append, List.getElem?_cons_zero, List.getElem?_cons_succ, List.set_cons_zero, List.set_cons_succ, List.length_cons, List.length_nil, Option.bind_some, Option.bind_none, Option.map_some, Option.map_none, if_true, if_false, ite_true, ite_false, Bool.false_eq_true, reduceIte, reduceCtorEq, e1, e2, sumA_ints, MB.cr_sum]
theorem crowd_ok {b : Nat} {h : Hs} (hb : b < 4096) : callP 1 f_crowd_of [.int b] h = .ok (ctA b) h := by
  refine callP_ok (h' := []) ?_ rfl rfl (noC_tupA _)
  have hk : Builtin.Int.intBits b ≤ 4096 := Nat.le_trans (intBits_le b) (Nat.le_of_lt hb)
  have e1 : K_crowd_of_0 [some (.int b), none] [] = .ok ((cr b).map AV.int) [] := by
    unfold K_crowd_of_0
    have q := mLc_jf (vs := [1]) (mi := mRng1 (m1 bitsA (mV 0))) (g := gN 1) (t := mT (m2 eqA (m2 andA (m2 shrA (mV 0) (mV 1)) (mC (.int 1))) (mC (.int 1)))) (e := mV 1) (env := [some (.int b), none]) (h := []) (h' := []) (xs := List.range (Builtin.Int.intBits b)) (fun i : Nat => AV.int i) (fun i => b.testBit i) (fun i => AV.int i) (by
      rw [rng1 (n := (Builtin.Int.intBits b : Nat)) rfl (by omega) (by omega), rngL_nat]) (by rw [List.length_range]; exact Nat.le_trans hk (by decide)) (fun i hi => by
      refine ⟨_, rfl, ?_, fun _ => rfl⟩
      have a1 : andA [] (.int ((b / 2 ^ i : Nat) : Int)) (.int 1) = some (.int ((b / 2 ^ i &&& 1 : Nat) : Int)) := andA_nat (b := 1)
      simp only [wipeE, bodyM, sSeq, sIf, sThen, sSet, sRet, sRetN, sNext, sExpr, sPutIx, sAsg, sPar, sAug, sExc, mAnd, mOr, mNot, mIf, mT, mB, mAndV, mOrV, mNotV, m2, m1, mN, mNL, mV, mC, mLst, mTup, mLs, mLC, mLstC, newC, mSl, oNo, oYes, mChain, mChain, mCall, aNil, aCons, M.bnd, M.ret, M.bad, rd, gN, gT, gSeq, mF, frzA, mLM, mLM0, mItS, mItL, mItT, mEnum, mRng1, mRng2, List.map_cons, List.map_nil, List.replicate, List.cons_append, List.nil_append, List.getElem?_cons_zero, List.getElem?_cons_succ, List.set_cons_zero, List.set_cons_succ, List.length_cons, List.length_nil, Option.bind_some, Option.bind_none, Option.map_some, Option.map_none, if_true, if_false, ite_true, ite_false, Bool.false_eq_true, reduceIte, reduceCtorEq, shrA_nat, a1, eqA_int]
      congr 1
      rw [Nat.testBit_eq_decide_div_mod_eq, Nat.and_one_is_mod]
      exact decide_eq_decide.mpr (by omega))
    rw [q, ← crn_cr (lt_intBits b)]
    unfold crn
    rw [List.map_map]
    rfl
  unfold f_crowd_of m_crowd_of
  simp only [bodyM, sSeq, sIf, sThen, sSet, sRet, sRetN, sNext, sExpr, sPutIx, sAsg, sPar, sAug, sExc, mAnd, mOr, mNot, mIf, mT, mB, mAndV, mOrV, mNotV, m2, m1, mN, mNL, mV, mC, mLst, mTup, mLs, mLC, mLstC, newC, mSl, oNo, oYes, mChain, mChain, mCall, aNil, aCons, M.bnd, M.ret, M.bad, rd, gN, gT, gSeq, mF, frzA, mLM, mLM0, mItS, mItL, mItT, mEnum, mRng1, mRng2, List.map_cons, List.map_nil, List.replicate, List.cons_append, List.nil_append, List.getElem?_cons_zero, List.getElem?_cons_succ, List.set_cons_zero, List.set_cons_succ, List.length_cons, List.length_nil, Option.bind_some, Option.bind_none, Option.map_some, Option.map_none, if_true, if_false, ite_true, ite_false, Bool.false_eq_true, reduceIte, reduceCtorEq, e1, tupleA_lst]
  rfl
theorem holds_ok {a b : Nat} {h : Hs} : callP 2 f_holds [.int a, .int b] h = .ok (.bl (wi b a)) h := by
  refine callP_ok (h' := []) ?_ rfl rfl rfl
  unfold f_holds m_holds
  simp only [bodyM, sSeq, sIf, sThen, sSet, sRet, sRetN, sNext, sExpr, sPutIx, sAsg, sPar, sAug, sExc, mAnd, mOr, mNot, mIf, mT, mB, mAndV, mOrV, mNotV, m2, m1, mN, mNL, mV, mC, mLst, mTup, mLs, mLC, mLstC, newC, mSl, oNo, oYes, mChain, mChain, mCall, aNil, aCons, M.bnd, M.ret, M.bad, rd, gN, gT, gSeq, mF, frzA, mLM, mLM0, mItS, mItL, mItT, mEnum, mRng1, mRng2, List.map_cons, List.map_nil, List.replicate, List.cons_append, List.nil_append, List.getElem?_cons_zero, List.getElem?_cons_succ, List.set_cons_zero, List.set_cons_succ, List.length_cons, List.length_nil, Option.bind_some, Option.bind_none, Option.map_some, Option.map_none, if_true, if_false, ite_true, ite_false, Bool.false_eq_true, reduceIte, reduceCtorEq, andA_nat, eqA_int]
  congr 2
  unfold wi
  rw [Bool.eq_iff_iff, decide_eq_true_iff, beq_iff_eq]
  omega
theorem isiA_tup {h : Hs} {xs : List AV} : isiA h [.tup xs, .ty "tuple"] = some (.bl true) := rfl
theorem asc_ok {ns : List Int} {h : Hs} (hs : ns.Pairwise (· < ·)) (hl : ns.length ≤ 12) : callP 1 f_are_ascending [tupA ns] h = .ok (.bl true) h := by
  refine callP_ok (h' := []) ?_ rfl (by rw [noCs, noC_tupA]; rfl) rfl
  have e1 : K_are_ascending_0 [some (tupA ns), none] [] = .ok ((rngL 1 ns.length).map fun _ => AV.bl true) [] := by
    unfold K_are_ascending_0
    have hr : mRng2 (mC (.int 1)) (mN lenA (aCons (mV 0) aNil)) [some (tupA ns), none] [] = .ok (rngL 1 ns.length) [] := by
      refine rng2 (h' := []) rfl ?_ (by decide) (by decide) (by omega) (by omega)
      simp only [bodyM, sSeq, sIf, sThen, sSet, sRet, sRetN, sNext, sExpr, sPutIx, sAsg, sPar, sAug, sExc, mAnd, mOr, mNot, mIf, mT, mB, mAndV, mOrV, mNotV, m2, m1, mN, mNL, mV, mC, mLst, mTup, mLs, mLC, mLstC, newC, mSl, oNo, oYes, mChain, mChain, mCall, aNil, aCons, M.bnd, M.ret, M.bad, rd, gN, gT, gSeq, mF, frzA, mLM, mLM0, mItS, mItL, mItT, mEnum, mRng1, mRng2, List.map_cons, List.map_nil, List.replicate, List.cons_append, List.nil_append, List.getElem?_cons_zero, List.getElem?_cons_succ, List.set_cons_zero, List.set_cons_succ, List.length_cons, List.length_nil, Option.bind_some, Option.bind_none, Option.map_some, Option.map_none, if_true, if_false, ite_true, ite_false, Bool.false_eq_true, reduceIte, reduceCtorEq, tupA, lenA_tup, List.length_map]
    refine mLc_ok hr (by rw [rngL_len]; exact Nat.le_trans (by omega : _ ≤ 12) (by decide)) ?_
    refine lcL_map (f := fun _ => AV.bl true) fun x hx => ?_
    obtain ⟨k, hk⟩ := List.getElem?_of_mem hx
    obtain ⟨rfl, hlt⟩ := rngL_get hk
    have l1 : k < ns.length := by omega
    have l2 : k + 1 < ns.length := by omega
    have i1 : ixA [] (tupA ns) (.int (1 + (k : Int) - 1)) = some (.int ns[k]) := ixA_tup (by omega) (by rw [show (1 + (k : Int) - 1).toNat = k by omega, List.getElem?_map, List.getElem?_eq_getElem l1]; rfl)
    have i2 : ixA [] (tupA ns) (.int (1 + (k : Int))) = some (.int ns[k + 1]) := ixA_tup (by omega) (by rw [show (1 + (k : Int)).toNat = k + 1 by omega, List.getElem?_map, List.getElem?_eq_getElem l2]; rfl)
    have lt : ns[k] < ns[k + 1] := List.pairwise_iff_getElem.mp hs k (k + 1) l1 l2 (by omega)
    refine ⟨_, rfl, ?_⟩
    simp only [wipeE, bodyM, sSeq, sIf, sThen, sSet, sRet, sRetN, sNext, sExpr, sPutIx, sAsg, sPar, sAug, sExc, mAnd, mOr, mNot, mIf, mT, mB, mAndV, mOrV, mNotV, m2, m1, mN, mNL, mV, mC, mLst, mTup, mLs, mLC, mLstC, newC, mSl, oNo, oYes, mChain, mChain, mCall, aNil, aCons, M.bnd, M.ret, M.bad, rd, gN, gT, gSeq, mF, frzA, mLM, mLM0, mItS, mItL, mItT, mEnum, mRng1, mRng2, List.map_cons, List.map_nil, List.replicate, List.cons_append, List.nil_append, List.getElem?_cons_zero, List.getElem?_cons_succ, List.set_cons_zero, List.set_cons_succ, List.length_cons, List.length_nil, Option.bind_some, Option.bind_none, Option.map_some, Option.map_none, if_true, if_false, ite_true, ite_false, Bool.false_eq_true, reduceIte, reduceCtorEq, subA_int, i1, i2, ltA_int, lt, decide_true]
  unfold f_are_ascending m_are_ascending
  have e2 : ((rngL 1 ns.length).map fun _ => AV.bl true) = ((rngL 1 ns.length).map fun _ => true).map AV.bl := by rw [List.map_map]; rfl
  have e3 : ((rngL 1 ns.length).map fun _ => true).all id = true := by simp
  simp only [bodyM, sSeq, sIf, sThen, sSet, sRet, sRetN, sNext, sExpr, sPutIx, sAsg, sPar, sAug, sExc, mAnd, mOr, mNot, mIf, mT, mB, mAndV, mOrV, mNotV, m2, m1, mN, mNL, mV, mC, mLst, mTup, mLs, mLC, mLstC, newC, mSl, oNo, oYes, mChain, mChain, mCall, aNil, aCons, M.bnd, M.ret, M.bad, rd, gN, gT, gSeq, mF, frzA, mLM, mLM0, mItS, mItL, mItT, mEnum, mRng1, mRng2, List.map_cons, List.map_nil, List.replicate, List.cons_append, List.nil_append, List.getElem?_cons_zero, List.getElem?_cons_succ, List.set_cons_zero, List.set_cons_succ, List.length_cons, List.length_nil, Option.bind_some, Option.bind_none, Option.map_some, Option.map_none, if_true, if_false, ite_true, ite_false, Bool.false_eq_true, reduceIte, reduceCtorEq, e1, e2, allA_bls, e3]
theorem pers_ok {n : Nat} {b : Nat} {h : Hs} (hb : b < 2 ^ n) (hn : n ≤ 12) : callP 2 f_are_persons [.int n, ctA b] h = .ok (.bl true) h := by
  have hb2 : b < 4096 := Nat.lt_of_lt_of_le hb (Nat.pow_le_pow_right (n := 2) (by decide) hn)
  refine callP_ok (h' := []) ?_ rfl (by rw [noCs, noCs, noC_tupA]; rfl) rfl
  have e1 : K_are_persons_0 [some (.int n), some (ctA b), none] [] = .ok (((cr b).map fun _ => true).map AV.bl) [] := by
    unfold K_are_persons_0
    rw [List.map_map]
    refine mLc_jm (xs := cr b) (h' := []) AV.int (fun _ => AV.bl true) rfl (small_cr hb2) fun p hp => ⟨_, rfl, ?_⟩
    have r := cr_range hb hp
    have r1 : (0 : Int) ≤ p := r.1
    have r2 : p ≤ (n : Int) - 1 := by omega
    simp only [wipeE, bodyM, sSeq, sIf, sThen, sSet, sRet, sRetN, sNext, sExpr, sPutIx, sAsg, sPar, sAug, sExc, mAnd, mOr, mNot, mIf, mT, mB, mAndV, mOrV, mNotV, m2, m1, mN, mNL, mV, mC, mLst, mTup, mLs, mLC, mLstC, newC, mSl, oNo, oYes, mChain, mChain, mCall, aNil, aCons, M.bnd, M.ret, M.bad, rd, gN, gT, gSeq, mF, frzA, mLM, mLM0, mItS, mItL, mItT, mEnum, mRng1, mRng2, List.map_cons, List.map_nil, List.replicate, List.cons_append, List.nil_append, List.getElem?_cons_zero, List.getElem?_cons_succ, List.set_cons_zero, List.set_cons_succ, List.length_cons, List.length_nil, Option.bind_some, Option.bind_none, Option.map_some, Option.map_none, if_true, if_false, ite_true, ite_false, Bool.false_eq_true, reduceIte, reduceCtorEq, subA_int, within_P, r1, r2, decide_true, Bool.and_true]
  have e3 : ((cr b).map fun _ => true).all id = true := by simp
  have e4 : isiA [] [ctA b, .ty "tuple"] = some (.bl true) := rfl
  unfold f_are_persons m_are_persons
  simp only [bodyM, sSeq, sIf, sThen, sSet, sRet, sRetN, sNext, sExpr, sPutIx, sAsg, sPar, sAug, sExc, mAnd, mOr, mNot, mIf, mT, mB, mAndV, mOrV, mNotV, m2, m1, mN, mNL, mV, mC, mLst, mTup, mLs, mLC, mLstC, newC, mSl, oNo, oYes, mChain, mChain, mCall, aNil, aCons, M.bnd, M.ret, M.bad, rd, gN, gT, gSeq, mF, frzA, mLM, mLM0, mItS, mItL, mItT, mEnum, mRng1, mRng2, List.map_cons, List.map_nil, List.replicate, List.cons_append, List.nil_append, List.getElem?_cons_zero, List.getElem?_cons_succ, List.set_cons_zero, List.set_cons_succ, List.length_cons, List.length_nil, Option.bind_some, Option.bind_none, Option.map_some, Option.map_none, if_true, if_false, ite_true, ite_false, Bool.false_eq_true, reduceIte, reduceCtorEq, e4, e1, allA_bls, e3]
theorem iscrowd_ok {n : Nat} {b : Nat} {h : Hs} (hb : b < 2 ^ n) (hn : n ≤ 12) : callP 2 f_is_crowd [.int n, ctA b] h = .ok (.bl true) h := by
  refine callP_ok (h' := []) ?_ rfl (by rw [noCs, noCs, noC_tupA]; rfl) rfl
  unfold f_is_crowd m_is_crowd
  simp only [bodyM, sSeq, sIf, sThen, sSet, sRet, sRetN, sNext, sExpr, sPutIx, sAsg, sPar, sAug, sExc, mAnd, mOr, mNot, mIf, mT, mB, mAndV, mOrV, mNotV, m2, m1, mN, mNL, mV, mC, mLst, mTup, mLs, mLC, mLstC, newC, mSl, oNo, oYes, mChain, mChain, mCall, aNil, aCons, M.bnd, M.ret, M.bad, rd, gN, gT, gSeq, mF, frzA, mLM, mLM0, mItS, mItL, mItT, mEnum, mRng1, mRng2, List.map_cons, List.map_nil, List.replicate, List.cons_append, List.nil_append, List.getElem?_cons_zero, List.getElem?_cons_succ, List.set_cons_zero, List.set_cons_succ, List.length_cons, List.length_nil, Option.bind_some, Option.bind_none, Option.map_some, Option.map_none, if_true, if_false, ite_true, ite_false, Bool.false_eq_true, reduceIte, reduceCtorEq, pers_ok hb hn, asc_ok (cr_sorted b) (Nat.le_trans (cr_len_n hb) hn)]
theorem islot_ok {n : Nat} {b : Nat} {h : Hs} (hb : b < 2 ^ n) (hn : n ≤ 12) (h2 : 1 < (cr b).length) : callP 2 f_is_lot [.int n, ctA b] h = .ok (.bl true) h := by
  refine callP_ok (h' := []) ?_ rfl (by rw [noCs, noCs, noC_tupA]; rfl) rfl
  have e4 : lenA [] [ctA b] = some (.int (cr b).length) := by unfold ctA tupA; rw [lenA_tup, List.length_map]
  have e5 : (1 : Int) < (cr b).length := by omega
  unfold f_is_lot m_is_lot
  simp only [bodyM, sSeq, sIf, sThen, sSet, sRet, sRetN, sNext, sExpr, sPutIx, sAsg, sPar, sAug, sExc, mAnd, mOr, mNot, mIf, mT, mB, mAndV, mOrV, mNotV, m2, m1, mN, mNL, mV, mC, mLst, mTup, mLs, mLC, mLstC, newC, mSl, oNo, oYes, mChain, mChain, mCall, aNil, aCons, M.bnd, M.ret, M.bad, rd, gN, gT, gSeq, mF, frzA, mLM, mLM0, mItS, mItL, mItT, mEnum, mRng1, mRng2, List.map_cons, List.map_nil, List.replicate, List.cons_append, List.nil_append, List.getElem?_cons_zero, List.getElem?_cons_succ, List.set_cons_zero, List.set_cons_succ, List.length_cons, List.length_nil, Option.bind_some, Option.bind_none, Option.map_some, Option.map_none, if_true, if_false, ite_true, ite_false, Bool.false_eq_true, reduceIte, reduceCtorEq, iscrowd_ok hb hn, e4, gtA_int, e5, decide_true]
end LW

set_option Elab.async false
set_option linter.all false
set_option maxRecDepth 100000
set_option maxHeartbeats 2000000
namespace LW
open PySem L2 Sim MB
local instance tabN : TabT := ⟨[]⟩
def bk (c : Str) (n : Nat) (Ls : List Nat) : AV := .obj c [("people", .int n), ("lots", .tup (Ls.map ctA)), ("masks", .lst (Ls.map fun b : Nat => AV.int b))]
def BkC (c : Str) : Prop := c = "Book" ∨ c = "RawBook"
theorem fld_people {h : Hs} {c : Str} {n : Nat} {Ls : List Nat} (hc : BkC c) : fldA ["Book", "RawBook"] "people" h (bk c n Ls) = some (.int n) := by rcases hc with rfl | rfl <;> rfl
theorem fld_lots {h : Hs} {c : Str} {n : Nat} {Ls : List Nat} (hc : BkC c) : fldA ["Book", "RawBook"] "lots" h (bk c n Ls) = some (.tup (Ls.map ctA)) := by rcases hc with rfl | rfl <;> rfl
theorem fld_masks {h : Hs} {c : Str} {n : Nat} {Ls : List Nat} (hc : BkC c) : fldA ["Book", "RawBook"] "masks" h (bk c n Ls) = some (.lst (Ls.map fun b : Nat => AV.int b)) := by rcases hc with rfl | rfl <;> rfl
theorem noC_bk {c : Str} {n : Nat} {Ls : List Nat} : noC (bk c n Ls) = true := by
  show (noC (.int n) && (noCs (Ls.map ctA) && (noCs (Ls.map fun b : Nat => AV.int b) && true))) = true
  rw [noCs_ct, noCs_map (fun _ => rfl)]
  rfl
theorem noC1 {a : AV} (h : noC a = true) : noCs [a] = true := by rw [noCs, h]; rfl
theorem noC2 {a b : AV} (h : noC a = true) (k : noC b = true) : noCs [a, b] = true := by rw [noCs, h, noC1 k]; rfl
theorem mb12 {n b : Nat} (hb : b < 2 ^ n) (hn : n ≤ 12) : b < 4096 := Nat.lt_of_lt_of_le hb (Nat.pow_le_pow_right (n := 2) (by decide) hn)
/-! ### minimal -/
def ltC (a b : Nat) : Bool := HT.lexLt (cr a) (cr b)
theorem fold_len {κ β α : Type} [DecidableEq κ] (k : α → κ) (v : α → β) : ∀ (xs : List α) (acc : List (κ × β)), (xs.foldl (fun a x => putG a (k x) (v x)) acc).length ≤ acc.length + xs.length
  | [], acc => by simp
  | x :: xs, acc => by
    rw [List.foldl_cons]
    have h1 := fold_len k v xs (putG acc (k x) (v x))
    have h2 := putG_len acc (k x) (v x)
    rw [List.length_cons]
    omega
theorem keys_nat {β : Type} (hs : List Nat) (v : Nat → β) : ∃ ks : List Nat, (hs.foldl (fun (a : List (Key × β)) (x : Nat) => putG a (Sum.inl (x : Int) : Key) (v x)) []).map (·.1) = ks.map (fun m : Nat => (Sum.inl (m : Int) : Key)) ∧ ks.Nodup ∧ (∀ m, m ∈ ks ↔ m ∈ hs) ∧ ks.length ≤ hs.length := by
  obtain ⟨h1, h2⟩ := fold_keys (fun x : Nat => (Sum.inl (x : Int) : Key)) v hs [] List.nodup_nil
  have h3 := fold_len (fun x : Nat => (Sum.inl (x : Int) : Key)) v hs []
  rw [← List.length_map (f := (·.1))] at h3
  generalize (hs.foldl (fun (a : List (Key × β)) (x : Nat) => putG a (Sum.inl (x : Int) : Key) (v x)) []).map (·.1) = K at h1 h2 h3 ⊢
  let un : Key → Nat := fun k => match k with | .inl i => i.toNat | _ => 0
  have e : K = (K.map un).map (fun m : Nat => (Sum.inl (m : Int) : Key)) := by
    rw [List.map_map]
    conv => lhs; rw [← List.map_id K]
    refine List.map_congr_left fun k hk => ?_
    rcases (h2 k).mp hk with h | ⟨x, _, rfl⟩
    · cases h
    · show _ = Sum.inl _
      simp [un]
  refine ⟨K.map un, e, ?_, fun m => ?_, by rw [List.length_map]; simpa using h3⟩
  · rw [e] at h1
    exact (List.pairwise_map.mp h1).imp fun h q => h (by rw [q])
  · constructor
    · intro hm
      have : (Sum.inl (m : Int) : Key) ∈ K := by rw [e]; exact List.mem_map_of_mem hm
      rcases (h2 _).mp this with h | ⟨x, hx, q⟩
      · cases h
      · have : x = m := by have := Sum.inl.inj q; omega
        rw [← this]; exact hx
    · intro hm
      have : (Sum.inl (m : Int) : Key) ∈ K := (h2 _).mpr (.inr ⟨m, hm, rfl⟩)
      have q := List.mem_map_of_mem (f := un) this
      simpa [un] using q
structure WB (n : Nat) (Ls : List Nat) : Prop where
  lt : ∀ m ∈ Ls, m < 2 ^ n
  anti : Anti Ls
  nd : Ls.Nodup
  sd : Sd HT.lexLt (Ls.map cr)
theorem list_dct {h : Hs} {kvs : List (Key × AV)} {ks : List Nat} (e : kvs.map (·.1) = ks.map (fun m : Nat => (Sum.inl (m : Int) : Key))) : listD2A (h ++ [.dct (avK kvs)]) [.cell h.length] = some ((ks.map fun m : Nat => (m : Int)).map .int) := by
  have d : dctOf (h ++ [.dct (avK kvs)]) (.cell h.length) = some (avK kvs) := by
    unfold dctOf
    dsimp only
    rw [List.getElem?_append_right (Nat.le_refl _), Nat.sub_self]
    rfl
  unfold listD2A
  dsimp only
  rw [d]
  show (if allK (avK kvs) = true then some ((avK kvs).map (·.1)) else (unT (avK kvs)).map fun _ => (avK kvs).map (·.1)) = _
  have a : allK (avK kvs) = true := by
    unfold allK avK
    rw [List.all_map, List.all_eq_true]
    intro p _
    show (keyA? (kA p.1)).isSome = true
    cases p.1 <;> rfl
  rw [if_pos a]
  unfold avK
  rw [List.map_map]
  have : (kvs.map ((fun p : AV × AV => p.1) ∘ fun p : Key × AV => (kA p.1, p.2))) = (kvs.map (·.1)).map kA := by rw [List.map_map]; rfl
  rw [this, e, List.map_map, List.map_map]
  rfl
theorem nodup_isort {α : Type} {lt : α → α → Bool} {l : List α} (h : l.Nodup) : (isort lt l).Nodup := (isort_perm l).symm.nodup h
theorem sd_ltC (l : List Nat) : Sd HT.lexLt ((isort ltC l).map cr) := by
  have : (isort ltC l).map cr = isort HT.lexLt (l.map cr) := (isort_map cr HT.lexLt l).symm
  rw [this]
  exact isort_sd lexTot _
/-- mini, its bits sorted -/
theorem mini_ok {n : Nat} {ms hs : List Nat} (nd : ms.Nodup) (hm : ∀ m, m ∈ ms ↔ m ∈ hs) (hb : ∀ m ∈ hs, m < 2 ^ n) : WB n (isort ltC (mini ms)) ∧ (∀ b, clr (isort ltC (mini ms)) b = clr hs b) ∧ ∀ m ∈ isort ltC (mini ms), m ∈ hs := by
  have hmem : ∀ m, m ∈ isort ltC (mini ms) ↔ m ∈ mini ms := fun m => (isort_perm _).mem_iff
  have hin : ∀ m ∈ isort ltC (mini ms), m ∈ hs := fun m h => (hm m).mp (List.mem_filter.mp ((hmem m).mp h)).1
  refine ⟨⟨fun m h => hb m (hin m h), fun m h o ho w => anti_mini ms m ((hmem m).mp h) o ((hmem o).mp ho) w, nodup_isort (List.Pairwise.filter _ nd), sd_ltC _⟩, fun b => ?_, hin⟩
  rw [clr_mem hmem, clr_mini, clr_mem hm]
theorem K_min1 {hs' : AV} {ms : List Nat} {x : Option AV} {b : Nat} {h : Hs} (hl : ms.length ≤ sizeLine) : K_minimal_1 [some hs', some (.lst (ms.map fun m : Nat => AV.int m)), x, some (.int b), none, none] h = .ok ((ms.map fun o => !(o == b) && wi o b).map AV.bl) h := by
  unfold K_minimal_1
  rw [List.map_map]
  refine mLc_jm (xs := ms) (h' := h) (fun m : Nat => AV.int m) (fun o => AV.bl (!(o == b) && wi o b)) rfl hl fun o ho => ⟨_, rfl, ?_⟩
  by_cases e : o = b
  · subst e
    have : (!(o == o) && wi o o) = false := by simp
    simp only [wipeE, bodyM, sSeq, sIf, sThen, sSet, sRet, sRetN, sNext, sExpr, sPutIx, sAsg, sPar, sAug, sExc, mAnd, mOr, mNot, mIf, mT, mB, mAndV, mOrV, mNotV, m2, m1, mN, mNL, mV, mC, mLst, mTup, mLs, mLC, mLstC, newC, mSl, oNo, oYes, mChain, mChain, mCall, aNil, aCons, M.bnd, M.ret, M.bad, rd, gN, gT, gSeq, mF, frzA, mLM, mLM0, mItS, mItL, mItT, mEnum, mRng1, mRng2, List.map_cons, List.map_nil, List.replicate, List.cons_append, List.nil_append, List.getElem?_cons_zero, List.getElem?_cons_succ, List.set_cons_zero, List.set_cons_succ, List.length_cons, List.length_nil, Option.bind_some, Option.bind_none, Option.map_some, Option.map_none, if_true, if_false, ite_true, ite_false, Bool.false_eq_true, reduceIte, reduceCtorEq, neA_int, decide_true, Bool.not_true, this]
  · have e1 : ¬ (o : Int) = b := by omega
    have : (!(o == b) && wi o b) = wi o b := by rw [beq_eq_false_iff_ne.mpr e]; rfl
    simp only [wipeE, bodyM, sSeq, sIf, sThen, sSet, sRet, sRetN, sNext, sExpr, sPutIx, sAsg, sPar, sAug, sExc, mAnd, mOr, mNot, mIf, mT, mB, mAndV, mOrV, mNotV, m2, m1, mN, mNL, mV, mC, mLst, mTup, mLs, mLC, mLstC, newC, mSl, oNo, oYes, mChain, mChain, mCall, aNil, aCons, M.bnd, M.ret, M.bad, rd, gN, gT, gSeq, mF, frzA, mLM, mLM0, mItS, mItL, mItT, mEnum, mRng1, mRng2, List.map_cons, List.map_nil, List.replicate, List.cons_append, List.nil_append, List.getElem?_cons_zero, List.getElem?_cons_succ, List.set_cons_zero, List.set_cons_succ, List.length_cons, List.length_nil, Option.bind_some, Option.bind_none, Option.map_some, Option.map_none, if_true, if_false, ite_true, ite_false, Bool.false_eq_true, reduceIte, reduceCtorEq, neA_int, e1, decide_false, Bool.not_false, holds_ok, this]
theorem minimal_ok {n : Nat} {hs : List Nat} (hn : n ≤ 12) (hb : ∀ m ∈ hs, m < 2 ^ n) (hl : hs.length ≤ 4096) : ∃ Ls, (∀ h, callP 1 f_minimal [.lst (hs.map ctA)] h = .ok (.tup (Ls.map ctA)) h) ∧ WB n Ls ∧ (∀ b, clr Ls b = clr hs b) ∧ (∀ m ∈ Ls, m ∈ hs) ∧ Ls.length ≤ hs.length := by
  obtain ⟨ks, k1, k2, k3, k4⟩ := keys_nat hs (fun _ => AV.bl true)
  have l1 : hs.length ≤ sizeLine := Nat.le_trans hl (by decide)
  let ms := isort (fun a b : Nat => ltI a b) ks
  have hms : ∀ m, m ∈ ms ↔ m ∈ hs := fun m => (isort_perm ks).mem_iff.trans (k3 m)
  have lms : ms.length ≤ hs.length := by rw [show ms.length = ks.length from (isort_perm ks).length_eq]; exact k4
  obtain ⟨w1, w2, w3⟩ := mini_ok (n := n) (hs := hs) (nodup_isort (lt := fun a b : Nat => ltI a b) k2) hms hb
  have lmi : (mini ms).length ≤ hs.length := Nat.le_trans (List.length_filter_le _ _) lms
  refine ⟨isort ltC (mini ms), fun h => callP_ok (h' := [.dct (avK (hs.foldl (fun (a : List (Key × AV)) (x : Nat) => putG a (Sum.inl (x : Int) : Key) (AV.bl true)) []))]) ?_ rfl (noC1 (noCs_ct hs)) (noCs_ct _), w1, w2, w3, by rw [(isort_perm _).length_eq]; exact lmi⟩
  have e0 : K_minimal_0 [some (.lst (hs.map ctA)), none, none, none, none, none] [] = .ok (hs.foldl (fun (a : List (Key × AV)) (x : Nat) => putG a (Sum.inl (x : Int) : Key) (AV.bl true)) []) [] := by
    unfold K_minimal_0
    refine mDc_j (xs := hs) (h' := []) ctA (fun x : Nat => (Sum.inl (x : Int) : Key)) (fun _ => AV.bl true) rfl l1 fun m hm => ⟨_, rfl, ?_, rfl⟩
    simp only [wipeE, bodyM, sSeq, sIf, sThen, sSet, sRet, sRetN, sNext, sExpr, sPutIx, sAsg, sPar, sAug, sExc, mAnd, mOr, mNot, mIf, mT, mB, mAndV, mOrV, mNotV, m2, m1, mN, mNL, mV, mC, mLst, mTup, mLs, mLC, mLstC, newC, mSl, oNo, oYes, mChain, mChain, mCall, aNil, aCons, M.bnd, M.ret, M.bad, rd, gN, gT, gSeq, mF, frzA, mLM, mLM0, mItS, mItL, mItT, mEnum, mRng1, mRng2, List.map_cons, List.map_nil, List.replicate, List.cons_append, List.nil_append, List.getElem?_cons_zero, List.getElem?_cons_succ, List.set_cons_zero, List.set_cons_succ, List.length_cons, List.length_nil, Option.bind_some, Option.bind_none, Option.map_some, Option.map_none, if_true, if_false, ite_true, ite_false, Bool.false_eq_true, reduceIte, reduceCtorEq, bits_ok (mb12 (hb m hm) hn)]
    rfl
  have es : isort ltI (ks.map fun m : Nat => (m : Int)) = ms.map fun m : Nat => (m : Int) := isort_map _ _ _
  have e1 : listD2A [.dct (avK (hs.foldl (fun (a : List (Key × AV)) (x : Nat) => putG a (Sum.inl (x : Int) : Key) (AV.bl true)) []))] [.cell 0] = some ((ks.map fun m : Nat => (m : Int)).map .int) := list_dct (h := []) k1
  have em : (ms.map fun m : Nat => (m : Int)).map AV.int = ms.map fun m : Nat => AV.int m := by rw [List.map_map]; rfl
  generalize hs.foldl (fun (a : List (Key × AV)) (x : Nat) => putG a (Sum.inl (x : Int) : Key) (AV.bl true)) [] = kvs at e0 e1
  have e2 : K_minimal_2 [some (.lst (hs.map ctA)), some (.lst (ms.map fun m : Nat => AV.int m)), none, none, none, none] [.dct (avK kvs)] = .ok ((mini ms).map fun m : Nat => AV.int m) [.dct (avK kvs)] := by
    unfold K_minimal_2
    refine mLc_jf (xs := ms) (h' := [.dct (avK kvs)]) (fun m : Nat => AV.int m) (fun b => !(ms.any fun o => !(o == b) && wi o b)) (fun m : Nat => AV.int m) rfl (Nat.le_trans lms l1) fun b hb' => ⟨_, rfl, ?_, fun _ => rfl⟩
    simp only [wipeE, bodyM, sSeq, sIf, sThen, sSet, sRet, sRetN, sNext, sExpr, sPutIx, sAsg, sPar, sAug, sExc, mAnd, mOr, mNot, mIf, mT, mB, mAndV, mOrV, mNotV, m2, m1, mN, mNL, mV, mC, mLst, mTup, mLs, mLC, mLstC, newC, mSl, oNo, oYes, mChain, mChain, mCall, aNil, aCons, M.bnd, M.ret, M.bad, rd, gN, gT, gSeq, mF, frzA, mLM, mLM0, mItS, mItL, mItT, mEnum, mRng1, mRng2, List.map_cons, List.map_nil, List.replicate, List.cons_append, List.nil_append, List.getElem?_cons_zero, List.getElem?_cons_succ, List.set_cons_zero, List.set_cons_succ, List.length_cons, List.length_nil, Option.bind_some, Option.bind_none, Option.map_some, Option.map_none, if_true, if_false, ite_true, ite_false, Bool.false_eq_true, reduceIte, reduceCtorEq, K_min1 (Nat.le_trans lms l1), anyA_bls, List.any_map]
    rfl
  have e3 : K_minimal_3 [some (.lst (hs.map ctA)), some (.lst (ms.map fun m : Nat => AV.int m)), some (.lst ((mini ms).map fun m : Nat => AV.int m)), none, none, none] [.dct (avK kvs)] = .ok (((mini ms).map cr).map tupA) [.dct (avK kvs)] := by
    unfold K_minimal_3
    rw [List.map_map]
    refine mLc_jm (xs := mini ms) (h' := [.dct (avK kvs)]) (fun m : Nat => AV.int m) ctA rfl (Nat.le_trans lmi l1) fun m hm => ⟨_, rfl, ?_⟩
    have := hb m ((hms m).mp (List.mem_filter.mp hm).1)
    simp only [wipeE, bodyM, sSeq, sIf, sThen, sSet, sRet, sRetN, sNext, sExpr, sPutIx, sAsg, sPar, sAug, sExc, mAnd, mOr, mNot, mIf, mT, mB, mAndV, mOrV, mNotV, m2, m1, mN, mNL, mV, mC, mLst, mTup, mLs, mLC, mLstC, newC, mSl, oNo, oYes, mChain, mChain, mCall, aNil, aCons, M.bnd, M.ret, M.bad, rd, gN, gT, gSeq, mF, frzA, mLM, mLM0, mItS, mItL, mItT, mEnum, mRng1, mRng2, List.map_cons, List.map_nil, List.replicate, List.cons_append, List.nil_append, List.getElem?_cons_zero, List.getElem?_cons_succ, List.set_cons_zero, List.set_cons_succ, List.length_cons, List.length_nil, Option.bind_some, Option.bind_none, Option.map_some, Option.map_none, if_true, if_false, ite_true, ite_false, Bool.false_eq_true, reduceIte, reduceCtorEq, crowd_ok (mb12 this hn)]
  have e4 : (isort HT.lexLt ((mini ms).map cr)).map tupA = (isort ltC (mini ms)).map ctA := by rw [isort_map cr HT.lexLt, List.map_map]; rfl
  unfold f_minimal m_minimal
  simp only [bodyM, sSeq, sIf, sThen, sSet, sRet, sRetN, sNext, sExpr, sPutIx, sAsg, sPar, sAug, sExc, mAnd, mOr, mNot, mIf, mT, mB, mAndV, mOrV, mNotV, m2, m1, mN, mNL, mV, mC, mLst, mTup, mLs, mLC, mLstC, newC, mSl, oNo, oYes, mChain, mChain, mCall, aNil, aCons, M.bnd, M.ret, M.bad, rd, gN, gT, gSeq, mF, frzA, mLM, mLM0, mItS, mItL, mItT, mEnum, mRng1, mRng2, List.map_cons, List.map_nil, List.replicate, List.cons_append, List.nil_append, List.getElem?_cons_zero, List.getElem?_cons_succ, List.set_cons_zero, List.set_cons_succ, List.length_cons, List.length_nil, Option.bind_some, Option.bind_none, Option.map_some, Option.map_none, if_true, if_false, ite_true, ite_false, Bool.false_eq_true, reduceIte, reduceCtorEq, mDC, newD, e0, e1, sortA_ints, es, em, e2, e3, sortA_tups, tupleA_lst, e4]
/-! ### a book is made -/
theorem put2 {x v : AV} : putA "lots" v ([("people", x)] : List (Str × AV)) = ([("people", x), ("lots", v)] : List (Str × AV)) := rfl
theorem put3 {x y v : AV} : putA "masks" v ([("people", x), ("lots", y)] : List (Str × AV)) = ([("people", x), ("lots", y), ("masks", v)] : List (Str × AV)) := rfl
theorem put1 {v : AV} : putA "people" v [] = ([("people", v)] : List (Str × AV)) := rfl
theorem keep_ok {c : Str} {n : Nat} {Ls : List Nat} (hc : BkC c) (hb : ∀ m ∈ Ls, m < 4096) (hl : Ls.length ≤ sizeLine) : f_Book_keep [.cell 0, .int n, .tup (Ls.map ctA)] [.ins c []] = .ok .non [.ins c [("people", .int n), ("lots", .tup (Ls.map ctA)), ("masks", .lst (Ls.map fun b : Nat => AV.int b))]] := by
  have hm : c ∈ (["Book", "RawBook"] : List Str) := by rcases hc with rfl | rfl <;> simp
  have e1 : ∀ h : Hs, K_Book_keep_0 [some (.cell 0), some (.int n), some (.tup (Ls.map ctA)), none] h = .ok (Ls.map fun b : Nat => AV.int b) h := fun h => by
    unfold K_Book_keep_0
    refine mLc_jm (xs := Ls) (h' := h) ctA (fun b : Nat => AV.int b) rfl hl fun m hm => ⟨_, rfl, ?_⟩
    simp only [wipeE, bodyM, sSeq, sIf, sThen, sSet, sRet, sRetN, sNext, sExpr, sPutIx, sAsg, sPar, sAug, sExc, mAnd, mOr, mNot, mIf, mT, mB, mAndV, mOrV, mNotV, m2, m1, mN, mNL, mV, mC, mLst, mTup, mLs, mLC, mLstC, newC, mSl, oNo, oYes, mChain, mChain, mCall, aNil, aCons, M.bnd, M.ret, M.bad, rd, gN, gT, gSeq, mF, frzA, mLM, mLM0, mItS, mItL, mItT, mEnum, mRng1, mRng2, List.map_cons, List.map_nil, List.replicate, List.cons_append, List.nil_append, List.getElem?_cons_zero, List.getElem?_cons_succ, List.set_cons_zero, List.set_cons_succ, List.length_cons, List.length_nil, Option.bind_some, Option.bind_none, Option.map_some, Option.map_none, if_true, if_false, ite_true, ite_false, Bool.false_eq_true, reduceIte, reduceCtorEq, bits_ok (hb m hm)]
  unfold f_Book_keep m_Book_keep
  simp only [bodyM, sSeq, sIf, sThen, sSet, sRet, sRetN, sNext, sExpr, sPutIx, sAsg, sPar, sAug, sExc, mAnd, mOr, mNot, mIf, mT, mB, mAndV, mOrV, mNotV, m2, m1, mN, mNL, mV, mC, mLst, mTup, mLs, mLC, mLstC, newC, mSl, oNo, oYes, mChain, mChain, mCall, aNil, aCons, M.bnd, M.ret, M.bad, rd, gN, gT, gSeq, mF, frzA, mLM, mLM0, mItS, mItL, mItT, mEnum, mRng1, mRng2, List.map_cons, List.map_nil, List.replicate, List.cons_append, List.nil_append, List.getElem?_cons_zero, List.getElem?_cons_succ, List.set_cons_zero, List.set_cons_succ, List.length_cons, List.length_nil, Option.bind_some, Option.bind_none, Option.map_some, Option.map_none, if_true, if_false, ite_true, ite_false, Bool.false_eq_true, reduceIte, reduceCtorEq, sFldS, hm, e1, put1, put2, put3, and_self, true_and, Nat.zero_lt_succ, List.length_nil, List.length_cons, Nat.lt_irrefl, Nat.reduceAdd, Nat.reduceLT]
theorem init_ok {n : Nat} {Ls : List Nat} (hb : ∀ m ∈ Ls, m < 4096) (hl : Ls.length ≤ sizeLine) : f_RawBook___init__ [.cell 0, .int n, .tup (Ls.map ctA)] [.ins "RawBook" []] = .ok .non [.ins "RawBook" [("people", .int n), ("lots", .tup (Ls.map ctA)), ("masks", .lst (Ls.map fun b : Nat => AV.int b))]] := by
  have e1 : callH 3 f_Book_keep [.cell 0, .int n, .tup (Ls.map ctA)] [.ins "RawBook" []] = .ok .non [.ins "RawBook" [("people", .int n), ("lots", .tup (Ls.map ctA)), ("masks", .lst (Ls.map fun b : Nat => AV.int b))]] :=
    callH_ok (m := f_Book_keep) (i := 0) (c := .ins "RawBook" []) (h := [.ins "RawBook" []]) (r := []) rfl (keep_ok (.inr rfl) hb hl) rfl (noC2 rfl (noCs_ct Ls)) rfl rfl (by
      show noCf _ = true
      have := noC_bk (c := "RawBook") (n := n) (Ls := Ls)
      unfold bk at this
      rw [noC] at this
      exact this)
  unfold f_RawBook___init__ m_RawBook___init__
  simp only [bodyM, sSeq, sIf, sThen, sSet, sRet, sRetN, sNext, sExpr, sPutIx, sAsg, sPar, sAug, sExc, mAnd, mOr, mNot, mIf, mT, mB, mAndV, mOrV, mNotV, m2, m1, mN, mNL, mV, mC, mLst, mTup, mLs, mLC, mLstC, newC, mSl, oNo, oYes, mChain, mChain, mCall, aNil, aCons, M.bnd, M.ret, M.bad, rd, gN, gT, gSeq, mF, frzA, mLM, mLM0, mItS, mItL, mItT, mEnum, mRng1, mRng2, List.map_cons, List.map_nil, List.replicate, List.cons_append, List.nil_append, List.getElem?_cons_zero, List.getElem?_cons_succ, List.set_cons_zero, List.set_cons_succ, List.length_cons, List.length_nil, Option.bind_some, Option.bind_none, Option.map_some, Option.map_none, if_true, if_false, ite_true, ite_false, Bool.false_eq_true, reduceIte, reduceCtorEq, mMeth, insOf, List.lookup_nil, and_self, e1]
theorem make_ok {n : Nat} {Ls : List Nat} {as : EM (List AV)} {env : AEnv} {h h' : Hs} (ha : as env h = .ok [.int n, .tup (Ls.map ctA)] h') (hb : ∀ m ∈ Ls, m < 4096) (hl : Ls.length ≤ sizeLine) : mMake 3 "RawBook" f_RawBook___init__ as env h = .ok (bk "RawBook" n Ls) h' := by
  unfold mMake M.bnd
  rw [ha]
  dsimp only
  rw [if_pos ⟨rfl, noC2 rfl (noCs_ct Ls)⟩, init_ok hb hl]
  dsimp only
  have := noC_bk (c := "RawBook") (n := n) (Ls := Ls)
  unfold bk at this ⊢
  rw [noC] at this
  rw [if_pos ⟨rfl, this⟩]
structure MadeOf (n : Nat) (hs Ls : List Nat) : Prop where
  wb : WB n Ls
  cl : ∀ b, clr Ls b = clr hs b
  sub : ∀ m ∈ Ls, m ∈ hs
  len : Ls.length ≤ hs.length
theorem made_ok {n : Nat} {hs : List Nat} (hn : n ≤ 12) (hb : ∀ m ∈ hs, m < 2 ^ n) (hl : hs.length ≤ 60) : ∃ Ls, (∀ h, callP 2 f_made_of [.int n, .lst (hs.map ctA)] h = .ok (bk "RawBook" n Ls) h) ∧ MadeOf n hs Ls := by
  obtain ⟨Ls, m1, m2, m3, m4, m5⟩ := minimal_ok hn hb (by omega)
  refine ⟨Ls, fun h => callP_ok (h' := []) ?_ rfl (noC2 rfl (noCs_ct hs)) noC_bk, m2, m3, m4, m5⟩
  have l1 : Ls.length ≤ sizeLine := Nat.le_trans (Nat.le_trans m5 hl) (by decide)
  have e2 : lenA [] [.tup (Ls.map ctA)] = some (.int Ls.length) := by rw [lenA_tup, List.length_map]
  have e3 : callP 2 f_check_many [.int Ls.length, .int 60] [] = .ok .non [] := many_ok (by omega)
  have e4 : mMake 3 "RawBook" f_RawBook___init__ (aCons (mV 0) (aCons (mV 2) aNil)) [some (.int n), some (.lst (hs.map ctA)), some (.tup (Ls.map ctA))] [] = .ok (bk "RawBook" n Ls) [] := make_ok rfl (fun m hm => mb12 (hb m (m4 m hm)) hn) l1
  unfold f_made_of m_made_of
  simp only [bodyM, sSeq, sIf, sThen, sSet, sRet, sRetN, sNext, sExpr, sPutIx, sAsg, sPar, sAug, sExc, mAnd, mOr, mNot, mIf, mT, mB, mAndV, mOrV, mNotV, m2, m1, mN, mNL, mV, mC, mLst, mTup, mLs, mLC, mLstC, newC, mSl, oNo, oYes, mChain, mChain, mCall, aNil, aCons, M.bnd, M.ret, M.bad, rd, gN, gT, gSeq, mF, frzA, mLM, mLM0, mItS, mItL, mItT, mEnum, mRng1, mRng2, List.map_cons, List.map_nil, List.replicate, List.cons_append, List.nil_append, List.getElem?_cons_zero, List.getElem?_cons_succ, List.set_cons_zero, List.set_cons_succ, List.length_cons, List.length_nil, Option.bind_some, Option.bind_none, Option.map_some, Option.map_none, if_true, if_false, ite_true, ite_false, Bool.false_eq_true, reduceIte, reduceCtorEq, m1, e2, e3, e4]
theorem bookof_ok {n : Nat} {hs : List Nat} (h1 : 1 ≤ n) (hn : n ≤ 12) (hb : ∀ m ∈ hs, m < 2 ^ n) (h2 : ∀ m ∈ hs, 1 < (cr m).length) (hl : hs.length ≤ 60) : ∃ Ls, (∀ h, callP 2 f_book_of [.int n, .lst (hs.map ctA)] h = .ok (bk "RawBook" n Ls) h) ∧ MadeOf n hs Ls := by
  obtain ⟨Ls, q1, q2⟩ := made_ok hn hb hl
  refine ⟨Ls, fun h => callP_ok (h' := []) ?_ rfl (noC2 rfl (noCs_ct hs)) noC_bk, q2⟩
  have l1 : hs.length ≤ sizeLine := Nat.le_trans hl (by decide)
  have e1 : callP 2 f_check_people [.int n, .int 12] [] = .ok .non [] := people_ok (by omega) (by omega)
  have e2 : callP 1 f_is_listed [.lst (hs.map ctA)] [] = .ok (.bl true) [] := by
    refine callP_ok (h' := []) ?_ rfl (noC1 (noCs_ct hs)) rfl
    rfl
  have e3 : lenA [] [.lst (hs.map ctA)] = some (.int hs.length) := by rw [lenA_lst, List.length_map]
  have e4 : ¬ (200 : Int) < hs.length := by omega
  have e5 : K_book_of_0 [some (.int n), some (.lst (hs.map ctA)), none] [] = .ok ((hs.map fun _ => true).map AV.bl) [] := by
    unfold K_book_of_0
    rw [List.map_map]
    refine mLc_jm (xs := hs) (h' := []) ctA (fun _ => AV.bl true) rfl l1 fun m hm => ⟨_, rfl, ?_⟩
    simp only [wipeE, bodyM, sSeq, sIf, sThen, sSet, sRet, sRetN, sNext, sExpr, sPutIx, sAsg, sPar, sAug, sExc, mAnd, mOr, mNot, mIf, mT, mB, mAndV, mOrV, mNotV, m2, m1, mN, mNL, mV, mC, mLst, mTup, mLs, mLC, mLstC, newC, mSl, oNo, oYes, mChain, mChain, mCall, aNil, aCons, M.bnd, M.ret, M.bad, rd, gN, gT, gSeq, mF, frzA, mLM, mLM0, mItS, mItL, mItT, mEnum, mRng1, mRng2, List.map_cons, List.map_nil, List.replicate, List.cons_append, List.nil_append, List.getElem?_cons_zero, List.getElem?_cons_succ, List.set_cons_zero, List.set_cons_succ, List.length_cons, List.length_nil, Option.bind_some, Option.bind_none, Option.map_some, Option.map_none, if_true, if_false, ite_true, ite_false, Bool.false_eq_true, reduceIte, reduceCtorEq, islot_ok (hb m hm) hn (h2 m hm)]
  have e6 : (hs.map fun _ => true).all id = true := by simp
  unfold f_book_of m_book_of
  simp only [bodyM, sSeq, sIf, sThen, sSet, sRet, sRetN, sNext, sExpr, sPutIx, sAsg, sPar, sAug, sExc, mAnd, mOr, mNot, mIf, mT, mB, mAndV, mOrV, mNotV, m2, m1, mN, mNL, mV, mC, mLst, mTup, mLs, mLC, mLstC, newC, mSl, oNo, oYes, mChain, mChain, mCall, aNil, aCons, M.bnd, M.ret, M.bad, rd, gN, gT, gSeq, mF, frzA, mLM, mLM0, mItS, mItL, mItT, mEnum, mRng1, mRng2, List.map_cons, List.map_nil, List.replicate, List.cons_append, List.nil_append, List.getElem?_cons_zero, List.getElem?_cons_succ, List.set_cons_zero, List.set_cons_succ, List.length_cons, List.length_nil, Option.bind_some, Option.bind_none, Option.map_some, Option.map_none, if_true, if_false, ite_true, ite_false, Bool.false_eq_true, reduceIte, reduceCtorEq, e1, e2, e3, gtA_int, e4, decide_false, e5, allA_bls, e6, Bool.not_true, q1]
end LW

set_option Elab.async false
set_option linter.all false
set_option maxRecDepth 100000
set_option maxHeartbeats 2000000
namespace LW
open PySem L2 Sim MB
local instance tabN3 : TabT := ⟨[]⟩
theorem addA_lst {h : Hs} {xs ys : List AV} (hl : (xs ++ ys).length ≤ sizeLine) : addA h (.lst xs) (.lst ys) = some (.lst (xs ++ ys)) := by
  unfold addA
  dsimp only
  rw [if_pos (show small (xs ++ ys) = true from decide_eq_true hl)]
theorem addA_tup {h : Hs} {xs ys : List AV} (hl : (xs ++ ys).length ≤ sizeLine) : addA h (.tup xs) (.tup ys) = some (.tup (xs ++ ys)) := by
  unfold addA
  dsimp only
  rw [if_pos (show small (xs ++ ys) = true from decide_eq_true hl)]
theorem listA_tup {h : Hs} {xs : List AV} : listA h [.tup xs] = some xs := rfl
theorem pow12 {n : Nat} (hn : n ≤ 12) : 2 ^ n ≤ 4096 := Nat.pow_le_pow_right (n := 2) (by decide) hn
theorem neA_bl {h : Hs} {a b : Bool} : neA h (.bl a) (.bl b) = some (.bl (!decide (a = b))) := by cases a <;> cases b <;> rfl
theorem eqA_nat {h : Hs} {a b : Nat} : eqA h (.int a) (.int b) = some (.bl (a == b)) := by
  rw [eqA_int]
  congr 2
  rw [Bool.eq_iff_iff, decide_eq_true_iff, beq_iff_eq]
  omega
/-! ### the law's own crowds -/
def allC (n : Nat) : List Nat := isort (fun a b => ltLen (cr a) (cr b)) (List.range (2 ^ n))
theorem mem_allC {n b : Nat} : b ∈ allC n ↔ b < 2 ^ n := by
  unfold allC
  rw [(isort_perm _).mem_iff, List.mem_range]
theorem perm_allC (n : Nat) : (allC n).Perm (List.range (2 ^ n)) := isort_perm _
theorem len_allC (n : Nat) : (allC n).length = 2 ^ n := by rw [(perm_allC n).length_eq, List.length_range]
theorem loop_crowds {n : Nat} (hn : n ≤ 12) : ∃ a, L__law_crowds_2 [some (.int n), some (.lst [.tup []]), none, none] [] = .nx [some (.int n), some (.lst ((List.range (2 ^ n)).map ctA)), a, none] [] := by
  obtain ⟨e2, h2, q1, q2⟩ := sForL_all (g := gN 2) (b := B__law_crowds_1) (fun j env h => h = [] ∧ j ≤ n ∧ ∃ a, env = [some (.int n), some (.lst ((List.range (2 ^ j)).map ctA)), a, none]) (xs := rngL 0 n) (env := [some (.int n), some (.lst [.tup []]), none, none]) (h := []) (fun j x env h e hI => by
    obtain ⟨rfl, hjn, a, rfl⟩ := hI
    obtain ⟨rfl, hl⟩ := rngL_get e
    rw [Int.zero_add] at hl ⊢
    have hj : j < n := by omega
    refine ⟨_, rfl, [some (.int n), some (.lst ((List.range (2 ^ (j + 1))).map ctA)), some (.int j), none], [], .inl ?_, rfl, hj, _, rfl⟩
    have p12 : 2 ^ (j + 1) ≤ 4096 := pow12 (by omega)
    have p11 : 2 ^ j ≤ 4096 := pow12 (by omega)
    have e1 : K__law_crowds_0 [some (.int n), some (.lst ((List.range (2 ^ j)).map ctA)), some (.int j), none] [] = .ok ((List.range (2 ^ j)).map fun b => tupA (cr b ++ [(j : Int)])) [] := by
      unfold K__law_crowds_0
      refine mLc_jm (xs := List.range (2 ^ j)) (h' := []) ctA (fun b => tupA (cr b ++ [(j : Int)])) rfl (by rw [List.length_range]; exact Nat.le_trans p11 (by decide)) fun b hb => ⟨_, rfl, ?_⟩
      have hb' := List.mem_range.mp hb
      have l1 : ((cr b).map AV.int ++ [AV.int j]).length ≤ sizeLine := by
        rw [List.length_append, List.length_map]
        exact Nat.le_trans (Nat.add_le_add_right (cr_len_n hb') 1) (Nat.le_trans (by omega : j + 1 ≤ 4096) (by decide))
      have e : addA [] (ctA b) (.tup [.int j]) = some (tupA (cr b ++ [(j : Int)])) := by
        show addA [] (.tup ((cr b).map AV.int)) (.tup [.int j]) = _
        rw [addA_tup l1]
        unfold tupA
        rw [List.map_append]
        rfl
      have s1 : small [AV.int j] = true := rfl
      simp only [wipeE, bodyM, sSeq, sIf, sThen, sSet, sRet, sRetN, sNext, sExpr, sPutIx, sAsg, sPar, sAug, sExc, mAnd, mOr, mNot, mIf, mT, mB, mAndV, mOrV, mNotV, m2, m1, mN, mNL, mV, mC, mLst, mTup, mLs, mLC, mLstC, newC, mSl, oNo, oYes, mChain, mChain, mCall, aNil, aCons, M.bnd, M.ret, M.bad, rd, gN, gT, gSeq, mF, frzA, mLM, mLM0, mItS, mItL, mItT, mEnum, mRng1, mRng2, List.map_cons, List.map_nil, List.replicate, List.cons_append, List.nil_append, List.getElem?_cons_zero, List.getElem?_cons_succ, List.set_cons_zero, List.set_cons_succ, List.length_cons, List.length_nil, Option.bind_some, Option.bind_none, Option.map_some, Option.map_none, if_true, if_false, ite_true, ite_false, Bool.false_eq_true, reduceIte, reduceCtorEq, s1, e]
    have e2 : addA [] (.lst ((List.range (2 ^ j)).map ctA)) (.lst ((List.range (2 ^ j)).map fun b => tupA (cr b ++ [(j : Int)]))) = some (.lst ((List.range (2 ^ (j + 1))).map ctA)) := by
      rw [addA_lst (by rw [List.length_append, List.length_map, List.length_map, List.length_range]; exact Nat.le_trans (by omega : _ ≤ 8192) (by decide))]
      congr 2
      have := congrArg (List.map tupA) (crowds_double j)
      rw [List.map_map, List.map_append, List.map_map, List.map_map, List.map_map] at this
      exact this.symm
    unfold B__law_crowds_1
    simp only [bodyM, sSeq, sIf, sThen, sSet, sRet, sRetN, sNext, sExpr, sPutIx, sAsg, sPar, sAug, sExc, mAnd, mOr, mNot, mIf, mT, mB, mAndV, mOrV, mNotV, m2, m1, mN, mNL, mV, mC, mLst, mTup, mLs, mLC, mLstC, newC, mSl, oNo, oYes, mChain, mChain, mCall, aNil, aCons, M.bnd, M.ret, M.bad, rd, gN, gT, gSeq, mF, frzA, mLM, mLM0, mItS, mItL, mItT, mEnum, mRng1, mRng2, List.map_cons, List.map_nil, List.replicate, List.cons_append, List.nil_append, List.getElem?_cons_zero, List.getElem?_cons_succ, List.set_cons_zero, List.set_cons_succ, List.length_cons, List.length_nil, Option.bind_some, Option.bind_none, Option.map_some, Option.map_none, if_true, if_false, ite_true, ite_false, Bool.false_eq_true, reduceIte, reduceCtorEq, e1, e2]) ⟨rfl, Nat.zero_le _, none, rfl⟩
  obtain ⟨rfl, hx, a, rfl⟩ := q2
  rw [rngL_len] at q1
  rw [show ((n : Int) - 0).toNat = n by omega] at q1
  refine ⟨a, ?_⟩
  have rg : mRng1 (mV 0) [some (.int n), some (.lst [.tup []]), none, none] [] = .ok (rngL 0 n) [] := rng1 rfl (by omega) (by omega)
  unfold L__law_crowds_2 sFor sThen
  rw [rg]
  exact q1
theorem crowds_ok {n : Nat} {h : Hs} (hn : n ≤ 12) : callP 1 f__law_crowds [.int n] h = .ok (.lst ((allC n).map ctA)) h := by
  refine callP_ok (h' := []) ?_ rfl rfl (noCs_ct _)
  obtain ⟨a, q1⟩ := loop_crowds hn
  have e1 : sortLenA [] (.lst ((List.range (2 ^ n)).map ctA)) = some ((allC n).map ctA) := by
    unfold sortLenA
    show ((tups? ((List.range (2 ^ n)).map ctA)).bind fun nss => if nss.all (fun ns => decide (ns.length ≤ sizeLine)) then some ((isort ltLen nss).map tupA) else none) = _
    have : (List.range (2 ^ n)).map ctA = ((List.range (2 ^ n)).map cr).map tupA := by rw [List.map_map]; rfl
    rw [this, tups_map]
    show (if ((List.range (2 ^ n)).map cr).all (fun ns => decide (ns.length ≤ sizeLine)) then some ((isort ltLen ((List.range (2 ^ n)).map cr)).map tupA) else none) = _
    rw [if_pos, isort_map cr ltLen, List.map_map]
    · rfl
    · rw [List.all_map, List.all_eq_true]
      intro b hb
      exact decide_eq_true (small_cr (mb12 (List.mem_range.mp hb) hn))
  have s0 : small [] = true := by decide
  have s1 : small [AV.tup []] = true := by decide
  unfold f__law_crowds m__law_crowds
  simp only [bodyM, sSeq, sIf, sThen, sSet, sRet, sRetN, sNext, sExpr, sPutIx, sAsg, sPar, sAug, sExc, mAnd, mOr, mNot, mIf, mT, mB, mAndV, mOrV, mNotV, m2, m1, mN, mNL, mV, mC, mLst, mTup, mLs, mLC, mLstC, newC, mSl, oNo, oYes, mChain, mChain, mCall, aNil, aCons, M.bnd, M.ret, M.bad, rd, gN, gT, gSeq, mF, frzA, mLM, mLM0, mItS, mItL, mItT, mEnum, mRng1, mRng2, List.map_cons, List.map_nil, List.replicate, List.cons_append, List.nil_append, List.getElem?_cons_zero, List.getElem?_cons_succ, List.set_cons_zero, List.set_cons_succ, List.length_cons, List.length_nil, Option.bind_some, Option.bind_none, Option.map_some, Option.map_none, if_true, if_false, ite_true, ite_false, Bool.false_eq_true, reduceIte, reduceCtorEq, s0, s1, q1, mSortLen, e1]
theorem isclear_ok {c : Str} {n b : Nat} {Ls : List Nat} {h : Hs} (hc : BkC c) (hn : n ≤ 12) (hL : ∀ m ∈ Ls, m < 2 ^ n) (hl : Ls.length ≤ sizeLine) : callP 2 f__law_is_clear [bk c n Ls, ctA b] h = .ok (.bl (clr Ls b)) h := by
  refine callP_ok (h' := []) ?_ rfl (noC2 noC_bk (noC_tupA _)) rfl
  have e0 : ∀ m ∈ Ls, K__law_is_clear_0 [some (bk c n Ls), some (ctA b), some (ctA m), none] [] = .ok (((cr m).map fun p => (cr b).contains p).map AV.bl) [] := fun m hm => by
    unfold K__law_is_clear_0
    rw [List.map_map]
    refine mLc_jm (xs := cr m) (h' := []) AV.int (fun p => AV.bl ((cr b).contains p)) rfl (small_cr (mb12 (hL m hm) hn)) fun p hp => ⟨_, rfl, ?_⟩
    simp only [wipeE, bodyM, sSeq, sIf, sThen, sSet, sRet, sRetN, sNext, sExpr, sPutIx, sAsg, sPar, sAug, sExc, mAnd, mOr, mNot, mIf, mT, mB, mAndV, mOrV, mNotV, m2, m1, mN, mNL, mV, mC, mLst, mTup, mLs, mLC, mLstC, newC, mSl, oNo, oYes, mChain, mChain, mCall, aNil, aCons, M.bnd, M.ret, M.bad, rd, gN, gT, gSeq, mF, frzA, mLM, mLM0, mItS, mItL, mItT, mEnum, mRng1, mRng2, List.map_cons, List.map_nil, List.replicate, List.cons_append, List.nil_append, List.getElem?_cons_zero, List.getElem?_cons_succ, List.set_cons_zero, List.set_cons_succ, List.length_cons, List.length_nil, Option.bind_some, Option.bind_none, Option.map_some, Option.map_none, if_true, if_false, ite_true, ite_false, Bool.false_eq_true, reduceIte, reduceCtorEq, inA_tup]
  have e1 : K__law_is_clear_1 [some (bk c n Ls), some (ctA b), none, none] [] = .ok ((Ls.map fun m => wi m b).map AV.bl) [] := by
    unfold K__law_is_clear_1
    rw [List.map_map]
    refine mLc_jm (xs := Ls) (h' := []) ctA (fun m => AV.bl (wi m b)) ?_ hl fun m hm => ⟨_, rfl, ?_⟩
    · simp only [bodyM, sSeq, sIf, sThen, sSet, sRet, sRetN, sNext, sExpr, sPutIx, sAsg, sPar, sAug, sExc, mAnd, mOr, mNot, mIf, mT, mB, mAndV, mOrV, mNotV, m2, m1, mN, mNL, mV, mC, mLst, mTup, mLs, mLC, mLstC, newC, mSl, oNo, oYes, mChain, mChain, mCall, aNil, aCons, M.bnd, M.ret, M.bad, rd, gN, gT, gSeq, mF, frzA, mLM, mLM0, mItS, mItL, mItT, mEnum, mRng1, mRng2, List.map_cons, List.map_nil, List.replicate, List.cons_append, List.nil_append, List.getElem?_cons_zero, List.getElem?_cons_succ, List.set_cons_zero, List.set_cons_succ, List.length_cons, List.length_nil, Option.bind_some, Option.bind_none, Option.map_some, Option.map_none, if_true, if_false, ite_true, ite_false, Bool.false_eq_true, reduceIte, reduceCtorEq, fld_lots hc]
    · have e2 : ((cr m).map fun p => (cr b).contains p).all id = wi m b := by rw [List.all_map, ← wi_all]; rfl
      simp only [wipeE, bodyM, sSeq, sIf, sThen, sSet, sRet, sRetN, sNext, sExpr, sPutIx, sAsg, sPar, sAug, sExc, mAnd, mOr, mNot, mIf, mT, mB, mAndV, mOrV, mNotV, m2, m1, mN, mNL, mV, mC, mLst, mTup, mLs, mLC, mLstC, newC, mSl, oNo, oYes, mChain, mChain, mCall, aNil, aCons, M.bnd, M.ret, M.bad, rd, gN, gT, gSeq, mF, frzA, mLM, mLM0, mItS, mItL, mItT, mEnum, mRng1, mRng2, List.map_cons, List.map_nil, List.replicate, List.cons_append, List.nil_append, List.getElem?_cons_zero, List.getElem?_cons_succ, List.set_cons_zero, List.set_cons_succ, List.length_cons, List.length_nil, Option.bind_some, Option.bind_none, Option.map_some, Option.map_none, if_true, if_false, ite_true, ite_false, Bool.false_eq_true, reduceIte, reduceCtorEq, e0 m hm, allA_bls, e2]
  unfold f__law_is_clear m__law_is_clear
  simp only [bodyM, sSeq, sIf, sThen, sSet, sRet, sRetN, sNext, sExpr, sPutIx, sAsg, sPar, sAug, sExc, mAnd, mOr, mNot, mIf, mT, mB, mAndV, mOrV, mNotV, m2, m1, mN, mNL, mV, mC, mLst, mTup, mLs, mLC, mLstC, newC, mSl, oNo, oYes, mChain, mChain, mCall, aNil, aCons, M.bnd, M.ret, M.bad, rd, gN, gT, gSeq, mF, frzA, mLM, mLM0, mItS, mItL, mItT, mEnum, mRng1, mRng2, List.map_cons, List.map_nil, List.replicate, List.cons_append, List.nil_append, List.getElem?_cons_zero, List.getElem?_cons_succ, List.set_cons_zero, List.set_cons_succ, List.length_cons, List.length_nil, Option.bind_some, Option.bind_none, Option.map_some, Option.map_none, if_true, if_false, ite_true, ite_false, Bool.false_eq_true, reduceIte, reduceCtorEq, e1, anyA_bls, List.any_map]
  rfl
end LW

set_option Elab.async false
set_option linter.all false
set_option maxRecDepth 100000
set_option maxHeartbeats 2000000
namespace LW
open PySem L2 Sim MB
local instance tabN4 : TabT := ⟨[]⟩
theorem sm0 : small [] = true := by show decide (0 ≤ sizeLine) = true; decide
theorem sm1 {a : AV} : small [a] = true := by show decide (1 ≤ sizeLine) = true; decide
theorem sm2 {a b : AV} : small [a, b] = true := by show decide (2 ≤ sizeLine) = true; decide
theorem sm3 {a b c : AV} : small [a, b, c] = true := by show decide (3 ≤ sizeLine) = true; decide
theorem sm4 {a b c d : AV} : small [a, b, c, d] = true := by show decide (4 ≤ sizeLine) = true; decide
theorem sm5 {a b c d e : AV} : small [a, b, c, d, e] = true := by show decide (5 ≤ sizeLine) = true; decide
theorem sm6 {a b c d e f : AV} : small [a, b, c, d, e, f] = true := by show decide (6 ≤ sizeLine) = true; decide
theorem nat_of {d : Int} (h : 0 ≤ d) : ∃ n : Nat, d = n := ⟨d.toNat, by omega⟩
/-! ### the law's book -/
/-- two cells behind P -/
theorem at0 {P : Hs} {c x y : Cell} : (c :: (P ++ [x, y]))[P.length + 1]? = some x := by rw [List.getElem?_cons_succ, List.getElem?_append_right (Nat.le_refl _), Nat.sub_self]; rfl
theorem at1 {P : Hs} {c x y : Cell} : (c :: (P ++ [x, y]))[P.length + 1 + 1]? = some y := by rw [List.getElem?_cons_succ, List.getElem?_append_right (Nat.le_succ _), show P.length + 1 - P.length = 1 by omega]; rfl
theorem set0 {P : Hs} {c x y z : Cell} : (c :: (P ++ [x, y])).set (P.length + 1) z = c :: (P ++ [z, y]) := by rw [List.set_cons_succ, List.set_append_right _ _ (Nat.le_refl _), Nat.sub_self]; rfl
theorem set1 {P : Hs} {c x y z : Cell} : (c :: (P ++ [x, y])).set (P.length + 1 + 1) z = c :: (P ++ [x, z]) := by rw [List.set_cons_succ, List.set_append_right _ _ (Nat.le_succ _), show P.length + 1 - P.length = 1 by omega]; rfl
theorem map_erase {α β : Type} (f : α → β) : ∀ (l : List α) (k : Nat), (l.map f).eraseIdx k = (l.eraseIdx k).map f
  | [], _ => rfl
  | _ :: _, 0 => rfl
  | x :: l, k + 1 => by
    show f x :: (l.map f).eraseIdx k = f x :: (l.eraseIdx k).map f
    rw [map_erase f l k]
theorem perm_erase {α : Type} : ∀ (l : List α) (k : Nat) (h : k < l.length), (l[k] :: l.eraseIdx k).Perm l
  | x :: l, 0, _ => List.Perm.refl _
  | x :: l, k + 1, h => by
    have h' : k < l.length := by simpa using h
    have ih := perm_erase l k h'
    show (l[k] :: x :: l.eraseIdx k).Perm (x :: l)
    exact (List.Perm.swap x l[k] _).trans (ih.cons x)
theorem ixN_nat {n k : Nat} (h : k < n) : L2.ixN n (k : Int) = some k := by
  unfold L2.ixN
  rw [if_pos (by omega), if_pos (by omega), Int.toNat_natCast]
theorem inner_ok {mo : Int} {n j : Nat} {c : Cell} {P : Hs} {left lot : List Int} {s2 s3 s4 s5 s8 : Option AV} (hn : n ≤ 12) (hc : HandOk c) (hp : (left ++ lot).Perm ((List.range n).map fun i : Nat => (i : Int))) (hl : lot.length = j) (hj : j < n) :
    ∃ c', ∃ left' lot' : List Int, B__law_book_0 [some (.cell 0), some (.int mo), s2, s3, s4, s5, some (.cell (P.length + 1)), some (.cell (P.length + 1 + 1)), s8] (c :: (P ++ [.lst (left.map .int), .lst (lot.map .int)])) = .nx [some (.cell 0), some (.int mo), s2, s3, s4, s5, some (.cell (P.length + 1)), some (.cell (P.length + 1 + 1)), s8] (c' :: (P ++ [.lst (left'.map .int), .lst (lot'.map .int)])) ∧
      HandOk c' ∧ (left' ++ lot').Perm ((List.range n).map fun i : Nat => (i : Int)) ∧ lot'.length = j + 1 := by
  have ln : left.length + lot.length = n := by
    have := hp.length_eq
    rw [List.length_append, List.length_map, List.length_range] at this
    exact this
  obtain ⟨d, c', e, a1, b1, k1⟩ := draw_at (h := c :: (P ++ [.lst (left.map .int), .lst (lot.map .int)])) (n := 0) (many := left.length) rfl hc (by omega) (by omega)
  have e' : callH 2 f__law_draw [.cell 0, .int left.length] (c :: (P ++ [.lst (left.map .int), .lst (lot.map .int)])) = .ok (.int d) (c' :: (P ++ [.lst (left.map .int), .lst (lot.map .int)])) := e
  obtain ⟨k, rfl⟩ := nat_of a1
  have hk : k < left.length := by omega
  have h0 : (c :: (P ++ [Cell.lst (left.map .int), .lst (lot.map .int)]))[(P.length + 1)]? = some (.lst (left.map .int)) := at0
  have h1 : (c :: (P ++ [Cell.lst (left.map .int), .lst (lot.map .int)]))[P.length + 1 + 1]? = some (.lst (lot.map .int)) := at1
  have h0' : (c' :: (P ++ [Cell.lst (left.map .int), .lst (lot.map .int)]))[(P.length + 1)]? = some (.lst (left.map .int)) := at0
  have h1' : (c' :: (P ++ [Cell.lst ((left.eraseIdx k).map .int), .lst (lot.map .int)]))[P.length + 1 + 1]? = some (.lst (lot.map .int)) := at1
  have lenL : lenA (c :: (P ++ [.lst (left.map .int), .lst (lot.map .int)])) [.cell (P.length + 1)] = some (.int left.length) := by
    unfold lenA seqOf der
    dsimp only
    rw [h0]
    show some (AV.int ((left.map AV.int).length : Nat)) = _
    rw [List.length_map]
  have c0 : lstOf (c :: (P ++ [.lst (left.map .int), .lst (lot.map .int)])) (.cell (P.length + 1)) = some (left.map .int) := by
    unfold lstOf der
    dsimp only
    rw [h0]
  have c1 : lstOf (c :: (P ++ [.lst (left.map .int), .lst (lot.map .int)])) (.cell (P.length + 1 + 1)) = some (lot.map .int) := by
    unfold lstOf der
    dsimp only
    rw [h1]
  have u0 : updL popA (.cell (P.length + 1)) [.int k] (c' :: (P ++ [.lst (left.map .int), .lst (lot.map .int)])) = .ok (.int left[k]) (c' :: (P ++ [.lst ((left.eraseIdx k).map .int), .lst (lot.map .int)])) := by
    unfold updL
    dsimp only
    rw [h0']
    dsimp only [popA]
    rw [List.length_map, ixN_nat hk, Option.bind_some, List.getElem?_map, List.getElem?_eq_getElem hk]
    show Res.ok (AV.int left[k]) ((c' :: (P ++ [Cell.lst (left.map .int), .lst (lot.map .int)])).set (P.length + 1) (.lst ((left.map AV.int).eraseIdx k))) = _
    rw [set0, map_erase]
  have sl : lot.length < sizeLine := Nat.lt_of_lt_of_le (by omega : lot.length < 12) (by decide)
  have u1 : updL appendA (.cell (P.length + 1 + 1)) [.int left[k]] (c' :: (P ++ [.lst ((left.eraseIdx k).map .int), .lst (lot.map .int)])) = .ok .non ((c' :: P) ++ [.lst ((left.eraseIdx k).map .int), .lst ((lot ++ [left[k]]).map .int)]) := by
    unfold updL
    dsimp only
    rw [h1']
    dsimp only [appendA]
    rw [List.length_map, if_pos sl]
    show Res.ok AV.non ((c' :: (P ++ [Cell.lst ((left.eraseIdx k).map .int), .lst (lot.map .int)])).set (P.length + 1 + 1) (.lst (lot.map AV.int ++ [AV.int left[k]]))) = _
    rw [set1, List.map_append]
    rfl
  refine ⟨c', left.eraseIdx k, lot ++ [left[k]], ?_, k1, ?_, by rw [List.length_append, hl]; rfl⟩
  · unfold B__law_book_0
    simp only [bodyM, sSeq, sIf, sThen, sSet, sRet, sRetN, sNext, sExpr, sPutIx, sAsg, sPar, sAug, sExc, mAnd, mOr, mNot, mIf, mT, mB, mAndV, mOrV, mNotV, m2, m1, mN, mNL, mV, mC, mLst, mTup, mLs, mLC, mLstC, newC, mSl, oNo, oYes, mChain, mChain, mCall, aNil, aCons, M.bnd, M.ret, M.bad, rd, gN, gT, gSeq, mF, frzA, mLM, mLM0, mItS, mItL, mItT, mEnum, mRng1, mRng2, List.map_cons, List.map_nil, List.replicate, List.cons_append, List.nil_append, List.getElem?_cons_zero, List.getElem?_cons_succ, List.set_cons_zero, List.set_cons_succ, List.length_cons, List.length_nil, Option.bind_some, Option.bind_none, Option.map_some, Option.map_none, if_true, if_false, ite_true, ite_false, Bool.false_eq_true, reduceIte, reduceCtorEq, chkL, c0, c1, lenL, e', u0, u1]
  · refine List.Perm.trans ?_ hp
    have p1 : (left[k] :: left.eraseIdx k).Perm left := perm_erase left k hk
    calc left.eraseIdx k ++ (lot ++ [left[k]]) = (left.eraseIdx k ++ lot) ++ [left[k]] := by rw [List.append_assoc]
      _ |>.Perm (left[k] :: (left.eraseIdx k ++ lot)) := List.perm_append_singleton _ _
      _ |>.Perm (left ++ lot) := (p1.append_right lot)
theorem inner_loop {mo : Int} {n m : Nat} {c : Cell} {P : Hs} {s2 s3 s4 s5 s8 : Option AV} {mi : EM (List AV)} (hn : n ≤ 12) (hc : HandOk c) (hm : m ≤ n) (left : List Int) (hl : left.Perm ((List.range n).map fun i : Nat => (i : Int)))
    (hi : mi [some (.cell 0), some (.int mo), s2, s3, s4, s5, some (.cell (P.length + 1)), some (.cell (P.length + 1 + 1)), s8] (c0 :: (P ++ [.lst (left.map .int), .lst []])) = .ok (rngL 0 m) (c :: (P ++ [.lst (left.map .int), .lst []]))) :
    ∃ c' s8', ∃ left' lot : List Int, sFor mi (gN 8) B__law_book_0 [some (.cell 0), some (.int mo), s2, s3, s4, s5, some (.cell (P.length + 1)), some (.cell (P.length + 1 + 1)), s8] (c0 :: (P ++ [.lst (left.map .int), .lst []])) =
      .nx [some (.cell 0), some (.int mo), s2, s3, s4, s5, some (.cell (P.length + 1)), some (.cell (P.length + 1 + 1)), s8'] (c' :: (P ++ [.lst (left'.map .int), .lst (lot.map .int)])) ∧ HandOk c' ∧ lot.length = m ∧ lot.Nodup ∧ ∀ x ∈ lot, 0 ≤ x ∧ x < n := by
  obtain ⟨e2, h2, q1, c', s8', left', lot, rfl, rfl, q2, q3, q4⟩ := sForL_all (g := gN 8) (b := B__law_book_0) (fun j env h => ∃ c' s8', ∃ left' lot : List Int, env = [some (.cell 0), some (.int mo), s2, s3, s4, s5, some (.cell (P.length + 1)), some (.cell (P.length + 1 + 1)), s8'] ∧ h = c' :: (P ++ [.lst (left'.map .int), .lst (lot.map .int)]) ∧ HandOk c' ∧ (left' ++ lot).Perm ((List.range n).map fun i : Nat => (i : Int)) ∧ lot.length = j)
    (xs := rngL 0 m) (env := [some (.cell 0), some (.int mo), s2, s3, s4, s5, some (.cell (P.length + 1)), some (.cell (P.length + 1 + 1)), s8]) (h := c :: (P ++ [.lst (left.map .int), .lst []])) (fun j x env h e hI => by
      obtain ⟨c1, s8', left', lot, rfl, rfl, k1, p1, l1⟩ := hI
      obtain ⟨rfl, hj⟩ := rngL_get e
      obtain ⟨c2, left2, lot2, e2, k2, p2, l2⟩ := inner_ok (mo := mo) (s2 := s2) (s3 := s3) (s4 := s4) (s5 := s5) (s8 := some (.int (0 + (j : Int)))) hn k1 p1 l1 (by omega)
      exact ⟨_, rfl, _, _, .inl e2, c2, _, left2, lot2, rfl, rfl, k2, p2, l2⟩) ⟨c, s8, left, [], rfl, rfl, hc, by rw [List.append_nil]; exact hl, rfl⟩
  rw [rngL_len] at q4
  have nd : (left' ++ lot).Nodup := q3.symm.nodup (List.pairwise_map.mpr (List.nodup_range.imp fun h e => h (by omega)))
  refine ⟨c', s8', left', lot, ?_, q2, by omega, (List.nodup_append.mp nd).2.1, fun x hx => ?_⟩
  · unfold sFor sThen
    rw [hi]
    exact q1
  · have := q3.mem_iff.mp (List.mem_append_right _ hx)
    obtain ⟨i, hi, rfl⟩ := List.mem_map.mp this
    have := List.mem_range.mp hi
    omega
theorem minA2 {h : Hs} {a b : Int} : minA h [.int a, .int b] = some (.int (if b < a then b else a)) := rfl
/-- one more heap -/
theorem outer_ok {mo : Int} {n : Nat} {c : Cell} {g : Hs} {hs : List Nat} {hi : Int} {s5 s6 s7 s8 : Option AV} (hn : n ≤ 12) (h2 : 2 ≤ n) (hc : HandOk c) (hh : hi = 2 ∨ hi = 3 ∨ hi = 4) (hl : hs.length < 60) :
    ∃ c' b s6' s7' s8' g', B__law_book_2 [some (.cell 0), some (.int mo), some (.int n), some (.int hi), some (.cell 1), s5, s6, s7, s8] (c :: .lst (hs.map ctA) :: g) = .nx [some (.cell 0), some (.int mo), some (.int n), some (.int hi), some (.cell 1), s5, s6', s7', s8'] (c' :: .lst ((hs ++ [b]).map ctA) :: g') ∧ HandOk c' ∧ b < 2 ^ n ∧ 1 < (cr b).length := by
  let R : List Int := (List.range n).map fun i : Nat => (i : Int)
  have eR : rngL 0 n = R.map .int := by
    rw [rngL_nat, List.map_map]; rfl
  have d0 : ∀ h : Hs, mListRg1 (mV 2) [some (.cell 0), some (.int mo), some (.int n), some (.int hi), some (.cell 1), s5, s6, s7, s8] h = .ok (R.map .int) h := fun h => by
    have hr : rgOk 0 (n : Int) = true := by
      unfold rgOk
      rw [inR_small (by decide) (by decide), inR_small (i := (n : Int)) (by omega) (by omega)]
      exact decide_eq_true (by omega)
    simp only [mListRg1, bodyM, sSeq, sIf, sThen, sSet, sRet, sRetN, sNext, sExpr, sPutIx, sAsg, sPar, sAug, sExc, mAnd, mOr, mNot, mIf, mT, mB, mAndV, mOrV, mNotV, m2, m1, mN, mNL, mV, mC, mLst, mTup, mLs, mLC, mLstC, newC, mSl, oNo, oYes, mChain, mChain, mCall, aNil, aCons, M.bnd, M.ret, M.bad, rd, gN, gT, gSeq, mF, frzA, mLM, mLM0, mItS, mItL, mItT, mEnum, mRng1, mRng2, List.map_cons, List.map_nil, List.replicate, List.cons_append, List.nil_append, List.getElem?_cons_zero, List.getElem?_cons_succ, List.set_cons_zero, List.set_cons_succ, List.length_cons, List.length_nil, Option.bind_some, Option.bind_none, Option.map_some, Option.map_none, if_true, if_false, ite_true, ite_false, Bool.false_eq_true, reduceIte, reduceCtorEq, int?, hr, eR]
  generalize hP : (Cell.lst (hs.map ctA) :: g) = P
  have shape : ∀ c : Cell, ((c :: P) ++ [Cell.lst (R.map .int)]) ++ [.lst []] = c :: (P ++ [.lst (R.map .int), .lst []]) := fun c => by simp
  obtain ⟨d, c1, e1, a1, b1, k1⟩ := draw_at (h := c :: (P ++ [.lst (R.map .int), .lst []])) (n := 0) (many := hi - 1) rfl hc (by omega) (by omega)
  have e1' : callH 2 f__law_draw [.cell 0, .int (hi - 1)] (c :: (P ++ [.lst (R.map .int), .lst []])) = .ok (.int d) (c1 :: (P ++ [.lst (R.map .int), .lst []])) := e1
  obtain ⟨m, hm⟩ := nat_of (d := if (2 + d) < (n : Int) then 2 + d else n) (by split <;> omega)
  have hm2 : 2 ≤ m ∧ m ≤ n := by
    have : (2 : Int) ≤ m ∧ (m : Int) ≤ n := by rw [← hm]; split <;> omega
    omega
  obtain ⟨c2, s8', left', lot, q1, k2, q3, q4, q5⟩ := inner_loop (mo := mo) (n := n) (m := m) (c := c1) (c0 := c) (P := P) (s2 := some (.int n)) (s3 := some (.int hi)) (s4 := some (.cell 1)) (s5 := s5) (s8 := s8) (mi := mRng1 (mN minA (aCons (mV 2) (aCons (m2 addA (mC (.int 2)) (mCall (callH 2 f__law_draw) (aCons (mV 0) (aCons (m2 subA (mV 3) (mC (.int 1))) aNil)))) aNil)))) hn k1 hm2.2 R (List.Perm.refl _)
    (rng1 (by simp only [bodyM, sSeq, sIf, sThen, sSet, sRet, sRetN, sNext, sExpr, sPutIx, sAsg, sPar, sAug, sExc, mAnd, mOr, mNot, mIf, mT, mB, mAndV, mOrV, mNotV, m2, m1, mN, mNL, mV, mC, mLst, mTup, mLs, mLC, mLstC, newC, mSl, oNo, oYes, mChain, mChain, mCall, aNil, aCons, M.bnd, M.ret, M.bad, rd, gN, gT, gSeq, mF, frzA, mLM, mLM0, mItS, mItL, mItT, mEnum, mRng1, mRng2, List.map_cons, List.map_nil, List.replicate, List.cons_append, List.nil_append, List.getElem?_cons_zero, List.getElem?_cons_succ, List.set_cons_zero, List.set_cons_succ, List.length_cons, List.length_nil, Option.bind_some, Option.bind_none, Option.map_some, Option.map_none, if_true, if_false, ite_true, ite_false, Bool.false_eq_true, reduceIte, reduceCtorEq, subA_int, e1', addA_int, minA2, hm]) (by omega) (by omega))
  obtain ⟨b, hb, r1, r2⟩ := sort_cr q4 q5
  have c1' : lstOf (c2 :: (P ++ [.lst (left'.map .int), .lst (lot.map .int)])) (.cell (P.length + 1 + 1)) = some (lot.map .int) := by
    unfold lstOf der
    dsimp only
    rw [at1]
  have so : sortA (c2 :: (P ++ [.lst (left'.map .int), .lst (lot.map .int)])) [.cell (P.length + 1 + 1)] = some ((cr b).map .int) := by
    unfold sortA
    dsimp only
    rw [c1', Option.bind_some, ints_map]
    show some ((isort ltI lot).map AV.int) = _
    rw [r1]
  subst hP
  have u1 : updL appendA (.cell 1) [ctA b] (c2 :: .lst (hs.map ctA) :: (g ++ [.lst (left'.map .int), .lst (lot.map .int)])) = .ok .non (c2 :: .lst ((hs ++ [b]).map ctA) :: (g ++ [.lst (left'.map .int), .lst (lot.map .int)])) := by
    unfold updL
    dsimp only
    rw [List.getElem?_cons_succ, List.getElem?_cons_zero]
    dsimp only [appendA]
    rw [List.length_map, if_pos (Nat.lt_of_lt_of_le hl (by decide)), List.map_append]
    rfl
  refine ⟨c2, b, some (.cell ((Cell.lst (hs.map ctA) :: g).length + 1)), some (.cell ((Cell.lst (hs.map ctA) :: g).length + 1 + 1)), s8', g ++ [.lst (left'.map .int), .lst (lot.map .int)], ?_, k2, hb, by rw [r2, q3]; omega⟩
  have c4 : lstOf (c2 :: .lst (hs.map ctA) :: (g ++ [.lst (left'.map .int), .lst (lot.map .int)])) (.cell 1) = some (hs.map ctA) := rfl
  have tb : tupleA (c2 :: .lst (hs.map ctA) :: (g ++ [.lst (left'.map .int), .lst (lot.map .int)])) [.lst ((cr b).map .int)] = some (ctA b) := rfl
  unfold B__law_book_2 L__law_book_1
  simp only [List.length_cons, List.cons_append] at q1 so u1 ⊢
  simp only [bodyM, sSeq, sIf, sThen, sSet, sRet, sRetN, sNext, sExpr, sPutIx, sAsg, sPar, sAug, sExc, mAnd, mOr, mNot, mIf, mT, mB, mAndV, mOrV, mNotV, m2, m1, mN, mNL, mV, mC, mLst, mTup, mLs, mLC, mLstC, newC, mSl, oNo, oYes, mChain, mChain, mCall, aNil, aCons, M.bnd, M.ret, M.bad, rd, gN, gT, gSeq, mF, frzA, mLM, mLM0, mItS, mItL, mItT, mEnum, mRng1, mRng2, List.map_cons, List.map_nil, List.replicate, List.cons_append, List.nil_append, List.getElem?_cons_zero, List.getElem?_cons_succ, List.set_cons_zero, List.set_cons_succ, List.length_cons, List.length_nil, Option.bind_some, Option.bind_none, Option.map_some, Option.map_none, if_true, if_false, ite_true, ite_false, Bool.false_eq_true, reduceIte, reduceCtorEq, setAll, mLC, newC, d0, sm0, List.append_assoc, List.length_append, Nat.zero_add, q1, chkL, c4, so, tb, u1]
end LW

set_option Elab.async false
set_option linter.all false
set_option maxRecDepth 100000
set_option maxHeartbeats 2000000
namespace LW
open PySem L2 Sim MB
local instance tabN5 : TabT := ⟨[]⟩
/-- a book of the law -/
structure LawBk (n : Nat) (Ls : List Nat) : Prop where
  wb : WB n Ls
  len : Ls.length ≤ 6
  two : ∀ m ∈ Ls, 1 < (cr m).length
theorem lawbook_ok {mo : Int} {c : Cell} (lo2 : 2 ≤ mo) (m12 : mo ≤ 12) (hc : HandOk c) : ∃ n Ls c' r, f__law_book [.cell 0, .int mo] [c] = .ok (bk "RawBook" n Ls) (c' :: r) ∧ 2 ≤ n ∧ (n : Int) ≤ mo ∧ LawBk n Ls ∧ HandOk c' := by
  obtain ⟨d1, c1, e1, a1, b1, k1⟩ := draw_at (h := [c]) (n := 0) (many := mo - 1) rfl hc (by omega) (by omega)
  have e1' : callH 2 f__law_draw [.cell 0, .int (mo - 1)] [c] = .ok (.int d1) [c1] := e1
  obtain ⟨n, hn⟩ := nat_of (d := 2 + d1) (by omega)
  obtain ⟨hv, c2, e2, m2', k2⟩ := any_at (h := [c1]) (n := 0) (xs := [.int 2, .int 3, .int 4, .int 4]) rfl k1 (by decide) (by decide) rfl
  have e2' : callH 2 f__law_any [.cell 0, .lst [.int 2, .int 3, .int 4, .int 4]] [c1] = .ok hv [c2] := e2
  obtain ⟨hi, rfl, hh⟩ : ∃ hi : Int, hv = .int hi ∧ (hi = 2 ∨ hi = 3 ∨ hi = 4) := by
    simp only [List.mem_cons, List.mem_nil_iff, or_false] at m2'
    rcases m2' with rfl | rfl | rfl | rfl
    · exact ⟨2, rfl, .inl rfl⟩
    · exact ⟨3, rfl, .inr (.inl rfl)⟩
    · exact ⟨4, rfl, .inr (.inr rfl)⟩
    · exact ⟨4, rfl, .inr (.inr rfl)⟩
  obtain ⟨d3, c3, e3, a3, b3, k3⟩ := draw_at (h := [c2, .lst []]) (n := 0) (many := 7) rfl k2 (by decide) (by decide)
  have e3' : callH 2 f__law_draw [.cell 0, .int 7] [c2, .lst []] = .ok (.int d3) [c3, .lst []] := e3
  obtain ⟨ee, hh2, q1, c4, s5, s6, s7, s8, hs, g, rfl, rfl, q2, q3, q4⟩ := sForL_all (g := gN 5) (b := B__law_book_2) (fun j env h => ∃ c4 s5 s6 s7 s8, ∃ hs : List Nat, ∃ g : Hs, env = [some (.cell 0), some (.int mo), some (.int n), some (.int hi), some (.cell 1), s5, s6, s7, s8] ∧ h = c4 :: .lst (hs.map ctA) :: g ∧ HandOk c4 ∧ hs.length = j ∧ ∀ m ∈ hs, m < 2 ^ n ∧ 1 < (cr m).length)
    (xs := rngL 0 d3) (env := [some (.cell 0), some (.int mo), some (.int n), some (.int hi), some (.cell 1), none, none, none, none]) (h := [c3, .lst []]) (fun j x env h e hI => by
      obtain ⟨c4, s5, s6, s7, s8, hs, g, rfl, rfl, k4, l4, p4⟩ := hI
      obtain ⟨rfl, hj⟩ := rngL_get e
      obtain ⟨c5, b, s6', s7', s8', g', e5, k5, hb, h2⟩ := outer_ok (mo := mo) (s5 := some (.int (0 + (j : Int)))) (s6 := s6) (s7 := s7) (s8 := s8) (n := n) (g := g) (hs := hs) (by omega) (by omega) k4 hh (by omega)
      refine ⟨_, rfl, _, _, .inl e5, c5, _, s6', s7', s8', hs ++ [b], g', rfl, rfl, k5, by rw [List.length_append, l4]; rfl, fun m hm => ?_⟩
      rcases List.mem_append.mp hm with hm | hm
      · exact p4 m hm
      · rw [List.mem_singleton.mp hm]; exact ⟨hb, h2⟩) ⟨c3, none, none, none, none, [], [], rfl, rfl, k3, rfl, fun m hm => nomatch hm⟩
  rw [rngL_len] at q3
  have lp : L__law_book_3 [some (.cell 0), some (.int mo), some (.int n), some (.int hi), some (.cell 1), none, none, none, none] [c2, .lst []] = .nx [some (.cell 0), some (.int mo), some (.int n), some (.int hi), some (.cell 1), s5, s6, s7, s8] (c4 :: .lst (hs.map ctA) :: g) := by
    have rg : mRng1 (mCall (callH 2 f__law_draw) (aCons (mV 0) (aCons (mC (.int 7)) aNil))) [some (.cell 0), some (.int mo), some (.int n), some (.int hi), some (.cell 1), none, none, none, none] [c2, .lst []] = .ok (rngL 0 d3) [c3, .lst []] := rng1 (by simp only [bodyM, sSeq, sIf, sThen, sSet, sRet, sRetN, sNext, sExpr, sPutIx, sAsg, sPar, sAug, sExc, mAnd, mOr, mNot, mIf, mT, mB, mAndV, mOrV, mNotV, m2, m1, mN, mNL, mV, mC, mLst, mTup, mLs, mLC, mLstC, newC, mSl, oNo, oYes, mChain, mChain, mCall, aNil, aCons, M.bnd, M.ret, M.bad, rd, gN, gT, gSeq, mF, frzA, mLM, mLM0, mItS, mItL, mItT, mEnum, mRng1, mRng2, List.map_cons, List.map_nil, List.replicate, List.cons_append, List.nil_append, List.getElem?_cons_zero, List.getElem?_cons_succ, List.set_cons_zero, List.set_cons_succ, List.length_cons, List.length_nil, Option.bind_some, Option.bind_none, Option.map_some, Option.map_none, if_true, if_false, ite_true, ite_false, Bool.false_eq_true, reduceIte, reduceCtorEq, e3']) a3 (by omega)
    unfold L__law_book_3 sFor sThen
    rw [rg]
    exact q1
  obtain ⟨Ls, z1, z2⟩ := bookof_ok (n := n) (hs := hs) (by omega) (by omega) (fun m hm => (q4 m hm).1) (fun m hm => (q4 m hm).2) (by omega)
  refine ⟨n, Ls, c4, .frz (.lst (hs.map ctA)) :: g, ?_, by omega, by omega, ⟨z2.wb, by have := z2.len; omega, fun m hm => (q4 m (z2.sub m hm)).2⟩, q2⟩
  unfold f__law_book m__law_book
  simp only [bodyM, sSeq, sIf, sThen, sSet, sRet, sRetN, sNext, sExpr, sPutIx, sAsg, sPar, sAug, sExc, mAnd, mOr, mNot, mIf, mT, mB, mAndV, mOrV, mNotV, m2, m1, mN, mNL, mV, mC, mLst, mTup, mLs, mLC, mLstC, newC, mSl, oNo, oYes, mChain, mChain, mCall, aNil, aCons, M.bnd, M.ret, M.bad, rd, gN, gT, gSeq, mF, frzA, mLM, mLM0, mItS, mItL, mItT, mEnum, mRng1, mRng2, List.map_cons, List.map_nil, List.replicate, List.cons_append, List.nil_append, List.getElem?_cons_zero, List.getElem?_cons_succ, List.set_cons_zero, List.set_cons_succ, List.length_cons, List.length_nil, Option.bind_some, Option.bind_none, Option.map_some, Option.map_none, if_true, if_false, ite_true, ite_false, Bool.false_eq_true, reduceIte, reduceCtorEq, subA_int, e1', addA_int, hn, e2', sm4, sm0, setAll, lp, z1]
theorem lawbook_at {mo : Int} {h : Hs} {i : Nat} {c : Cell} (lo2 : 2 ≤ mo) (m12 : mo ≤ 12) (hi : h[i]? = some c) (hc : HandOk c) : ∃ n Ls c', callH 2 f__law_book [.cell i, .int mo] h = .ok (bk "RawBook" n Ls) (h.set i c') ∧ 2 ≤ n ∧ (n : Int) ≤ mo ∧ LawBk n Ls ∧ HandOk c' := by
  obtain ⟨n, Ls, c', r, e, h2, h8, q, k⟩ := lawbook_ok lo2 m12 hc
  exact ⟨n, Ls, c', callH_ok (m := f__law_book) (avs := [.int mo]) hi e rfl rfl hc.noCC noC_bk k.noCC, h2, h8, q, k⟩
end LW

set_option Elab.async false
set_option linter.all false
set_option maxRecDepth 100000
set_option maxHeartbeats 2000000
namespace LW
open PySem L2 Sim MB
local instance tabN6 : TabT := ⟨[]⟩
/-! ### Book(people, lots) of good lots -/
theorem enumL_get : ∀ (xs : List AV) (i j : Nat), (enumL i xs)[j]? = (xs[j]?).map fun x => .tup [.int ((i + j : Nat) : Int), x]
  | [], _, _ => by simp [enumL]
  | x :: xs, i, 0 => rfl
  | x :: xs, i, j + 1 => by
    show (enumL (i + 1) xs)[j]? = (xs[j]?).map _
    rw [enumL_get xs (i + 1) j, show i + 1 + j = i + (j + 1) by omega]
theorem ltA_tups {h : Hs} {a b : List Int} : ltA h (tupA a) (tupA b) = some (.bl (HT.lexLt a b)) := by
  unfold ltA tupA
  dsimp only
  rw [ints_map, ints_map]
  rfl
theorem wb_lt {n : Nat} {Ls : List Nat} (w : WB n Ls) {i j : Nat} (hij : i < j) (hj : j < Ls.length) : HT.lexLt (cr (Ls[i]'(by omega))) (cr Ls[j]) = true := by
  have h1 := List.pairwise_iff_getElem.mp (List.pairwise_map.mp w.sd) i j (by omega) hj hij
  have h2 := List.pairwise_iff_getElem.mp w.nd i j (by omega) hj hij
  cases h : HT.lexLt (cr (Ls[i]'(by omega))) (cr Ls[j]) with
  | true => rfl
  | false => exact absurd (cr_inj (lexTot.eq _ _ h h1)) h2
theorem K_fwl {n : Nat} {x1 x3 x4 : Option AV} {b : Nat} {os : List Nat} (hl : os.length ≤ sizeLine) (hb : ∀ o ∈ os, wi o b = false ∧ wi b o = false) :
    K_first_wrong_lot_0 [some (.int n), x1, some (.cell 0), x3, x4, some (.int b), none] [.lst (os.map fun o : Nat => AV.int o)] = .ok (os.map fun _ => AV.bl false) [.lst (os.map fun o : Nat => AV.int o)] := by
  have c0 : contL [Cell.lst (os.map fun o : Nat => AV.int o)] 0 = some (os.map fun o : Nat => AV.int o) := rfl
  unfold K_first_wrong_lot_0
  refine mLcC_ok (ys := os.map fun o : Nat => AV.int o) rfl c0 (by rw [List.length_map]; exact hl) ?_
  have := lcC_pure (g := gN 6) (t := mYes) (e := mOrV (mCall (callP 2 f_holds) (aCons (mV 5) (aCons (mV 6) aNil))) (mCall (callP 2 f_holds) (aCons (mV 6) (aCons (mV 5) aNil)))) (env := wipeE [some (.int n), x1, some (.cell 0), x3, x4, some (.int b), none] [6]) c0 (p := fun _ => true) (f := fun _ => .bl false) (fun x hx => by
    obtain ⟨o, ho, rfl⟩ := List.mem_map.mp hx
    obtain ⟨h1, h2⟩ := hb o ho
    refine ⟨_, rfl, rfl, fun _ => ?_⟩
    simp only [wipeE, bodyM, sSeq, sIf, sThen, sSet, sRet, sRetN, sNext, sExpr, sPutIx, sAsg, sPar, sAug, sExc, mAnd, mOr, mNot, mIf, mT, mB, mAndV, mOrV, mNotV, m2, m1, mN, mNL, mV, mC, mLst, mTup, mLs, mLC, mLstC, newC, mSl, oNo, oYes, mChain, mChain, mCall, aNil, aCons, M.bnd, M.ret, M.bad, rd, gN, gT, gSeq, mF, frzA, mLM, mLM0, mItS, mItL, mItT, mEnum, mRng1, mRng2, List.map_cons, List.map_nil, List.replicate, List.cons_append, List.nil_append, List.getElem?_cons_zero, List.getElem?_cons_succ, List.set_cons_zero, List.set_cons_succ, List.length_cons, List.length_nil, Option.bind_some, Option.bind_none, Option.map_some, Option.map_none, if_true, if_false, ite_true, ite_false, Bool.false_eq_true, reduceIte, reduceCtorEq, holds_ok, h1, h2]) (os.map fun o : Nat => AV.int o).length 0 (by rw [Nat.zero_add])
  rw [this, List.drop_zero, List.filter_eq_self.mpr fun _ _ => rfl, List.map_map]
  rfl
theorem fwl_ok {n : Nat} {Ls : List Nat} {h : Hs} (hn : n ≤ 12) (w : WB n Ls) (h2 : ∀ m ∈ Ls, 1 < (cr m).length) (hl : Ls.length ≤ 60) : callP 2 f_first_wrong_lot [.int n, .tup (Ls.map ctA)] h = .ok .non h := by
  have l60 : 60 ≤ sizeLine := by decide
  obtain ⟨e2, hh, q1, x3, x4, x5, rfl, rfl⟩ := sForL_all (g := gT [gN 3, gN 4]) (b := B_first_wrong_lot_1) (fun j env h => ∃ x3 x4 x5, env = [some (.int n), some (.tup (Ls.map ctA)), some (.cell 0), x3, x4, x5, none] ∧ h = [.lst ((Ls.take j).map fun o : Nat => AV.int o)])
    (xs := enumL 0 (Ls.map ctA)) (env := [some (.int n), some (.tup (Ls.map ctA)), some (.cell 0), none, none, none, none]) (h := [.lst []]) (fun j x env h e hI => by
      obtain ⟨x3, x4, x5, rfl, rfl⟩ := hI
      rw [enumL_get, List.getElem?_map] at e
      cases hj : Ls[j]? with
      | none => rw [hj] at e; cases e
      | some m =>
        rw [hj] at e
        cases e
        obtain ⟨hjl, ej⟩ := List.getElem?_eq_some_iff.mp hj
        have hm : m ∈ Ls := by rw [← ej]; exact List.getElem_mem hjl
        have il := islot_ok (h := [.lst ((Ls.take j).map fun o : Nat => AV.int o)]) (w.lt m hm) hn (h2 m hm)
        have lt4 : (Ls.take j).length ≤ 60 := by rw [List.length_take]; omega
        have apart : ∀ o ∈ Ls.take j, wi o m = false ∧ wi m o = false := fun o ho => by
          have hoL := List.mem_of_mem_take ho
          have ne : o ≠ m := fun z => by
            obtain ⟨i, hi⟩ := List.getElem?_of_mem ho
            obtain ⟨hil, ei⟩ := List.getElem?_eq_some_iff.mp hi
            rw [List.length_take] at hil
            rw [List.getElem_take] at ei
            have := List.pairwise_iff_getElem.mp w.nd i j (by omega) hjl (by omega)
            exact this (by rw [ei, ej, z])
          refine ⟨Bool.eq_false_iff.mpr fun q => ne (w.anti m hm o hoL q), Bool.eq_false_iff.mpr fun q => ne (w.anti o hoL m hm q).symm⟩
        have k0 := K_fwl (n := n) (x1 := some (.tup (Ls.map ctA))) (x3 := some (.int ((0 + j : Nat) : Int))) (x4 := some (ctA m)) (b := m) (os := Ls.take j) (Nat.le_trans lt4 l60) apart
        have an : anyA [Cell.lst ((Ls.take j).map fun o : Nat => AV.int o)] [.lst ((Ls.take j).map fun _ => AV.bl false)] = some (.bl false) := by
          have e0 : ((Ls.take j).map fun _ => AV.bl false) = ((Ls.take j).map fun _ => false).map AV.bl := by rw [List.map_map]; rfl
          rw [e0, anyA_bls]
          have : ((Ls.take j).map fun _ => false).any id = false := by
            rw [List.any_eq_false]
            intro x hx
            obtain ⟨_, _, rfl⟩ := List.mem_map.mp hx
            decide
          rw [this]
        have up : updL appendA (.cell 0) [.int m] [.lst ((Ls.take j).map fun o : Nat => AV.int o)] = .ok .non [.lst ((Ls.take (j + 1)).map fun o : Nat => AV.int o)] := by
          unfold updL
          dsimp only [List.getElem?_cons_zero]
          dsimp only [appendA]
          rw [List.length_map, if_pos (Nat.lt_of_le_of_lt lt4 (by decide)), List.take_add_one, hj, List.map_append]
          rfl
        have ck : lstOf [Cell.lst ((Ls.take j).map fun o : Nat => AV.int o)] (.cell 0) = some ((Ls.take j).map fun o : Nat => AV.int o) := rfl
        refine ⟨_, rfl, [some (.int n), some (.tup (Ls.map ctA)), some (.cell 0), some (.int ((0 + j : Nat) : Int)), some (ctA m), some (.int m), none], [.lst ((Ls.take (j + 1)).map fun o : Nat => AV.int o)], .inl ?_, _, _, _, rfl, rfl⟩
        cases j with
        | zero =>
          have g0 : decide ((0 : Int) < ((0 + 0 : Nat) : Int)) = false := by decide
          unfold B_first_wrong_lot_1
          simp only [bodyM, sSeq, sIf, sThen, sSet, sRet, sRetN, sNext, sExpr, sPutIx, sAsg, sPar, sAug, sExc, mAnd, mOr, mNot, mIf, mT, mB, mAndV, mOrV, mNotV, m2, m1, mN, mNL, mV, mC, mLst, mTup, mLs, mLC, mLstC, newC, mSl, oNo, oYes, mChain, mChain, mCall, aNil, aCons, M.bnd, M.ret, M.bad, rd, gN, gT, gSeq, mF, frzA, mLM, mLM0, mItS, mItL, mItT, mEnum, mRng1, mRng2, List.map_cons, List.map_nil, List.replicate, List.cons_append, List.nil_append, List.getElem?_cons_zero, List.getElem?_cons_succ, List.set_cons_zero, List.set_cons_succ, List.length_cons, List.length_nil, Option.bind_some, Option.bind_none, Option.map_some, Option.map_none, if_true, if_false, ite_true, ite_false, Bool.false_eq_true, reduceIte, reduceCtorEq, il, gtA_int, g0, bits_ok (mb12 (w.lt m hm) hn), k0, an, chkL, ck, up, Bool.not_true]
        | succ i =>
          have g0 : decide ((0 : Int) < ((0 + (i + 1) : Nat) : Int)) = true := decide_eq_true (by omega)
          have hi : i < Ls.length := by omega
          have ix : ixA [Cell.lst ((Ls.take (i + 1)).map fun o : Nat => AV.int o)] (.tup (Ls.map ctA)) (.int (((0 + (i + 1) : Nat) : Int) - 1)) = some (ctA Ls[i]) := ixA_tup (by omega) (by rw [show (((0 + (i + 1) : Nat) : Int) - 1).toNat = i by omega, List.getElem?_map, List.getElem?_eq_getElem hi]; rfl)
          have lt1 : HT.lexLt (cr Ls[i]) (cr m) = true := by rw [← ej]; exact wb_lt w (Nat.lt_succ_self i) hjl
          have ltx : ltA [Cell.lst ((Ls.take (i + 1)).map fun o : Nat => AV.int o)] (ctA Ls[i]) (ctA m) = some (.bl true) := by
            show ltA _ (tupA (cr Ls[i])) (tupA (cr m)) = _
            rw [ltA_tups, lt1]
          unfold B_first_wrong_lot_1
          simp only [bodyM, sSeq, sIf, sThen, sSet, sRet, sRetN, sNext, sExpr, sPutIx, sAsg, sPar, sAug, sExc, mAnd, mOr, mNot, mIf, mT, mB, mAndV, mOrV, mNotV, m2, m1, mN, mNL, mV, mC, mLst, mTup, mLs, mLC, mLstC, newC, mSl, oNo, oYes, mChain, mChain, mCall, aNil, aCons, M.bnd, M.ret, M.bad, rd, gN, gT, gSeq, mF, frzA, mLM, mLM0, mItS, mItL, mItT, mEnum, mRng1, mRng2, List.map_cons, List.map_nil, List.replicate, List.cons_append, List.nil_append, List.getElem?_cons_zero, List.getElem?_cons_succ, List.set_cons_zero, List.set_cons_succ, List.length_cons, List.length_nil, Option.bind_some, Option.bind_none, Option.map_some, Option.map_none, if_true, if_false, ite_true, ite_false, Bool.false_eq_true, reduceIte, reduceCtorEq, il, gtA_int, g0, subA_int, ix, ltx, bits_ok (mb12 (w.lt m hm) hn), k0, an, chkL, ck, up, Bool.not_true]) ⟨none, none, none, rfl, by rw [List.take_zero]; rfl⟩
  have len : (enumL 0 (Ls.map ctA)).length = Ls.length := by rw [enumL_length, List.length_map]
  rw [len, List.take_length] at q1
  have lp : L_first_wrong_lot_2 [some (.int n), some (.tup (Ls.map ctA)), some (.cell 0), none, none, none, none] [.lst []] = .nx [some (.int n), some (.tup (Ls.map ctA)), some (.cell 0), x3, x4, x5, none] [.lst (Ls.map fun o : Nat => AV.int o)] := by
    have rg : mEnum (mV 1) [some (.int n), some (.tup (Ls.map ctA)), some (.cell 0), none, none, none, none] [.lst []] = .ok (enumL 0 (Ls.map ctA)) [.lst []] := by
      simp only [bodyM, sSeq, sIf, sThen, sSet, sRet, sRetN, sNext, sExpr, sPutIx, sAsg, sPar, sAug, sExc, mAnd, mOr, mNot, mIf, mT, mB, mAndV, mOrV, mNotV, m2, m1, mN, mNL, mV, mC, mLst, mTup, mLs, mLC, mLstC, newC, mSl, oNo, oYes, mChain, mChain, mCall, aNil, aCons, M.bnd, M.ret, M.bad, rd, gN, gT, gSeq, mF, frzA, mLM, mLM0, mItS, mItL, mItT, mEnum, mRng1, mRng2, List.map_cons, List.map_nil, List.replicate, List.cons_append, List.nil_append, List.getElem?_cons_zero, List.getElem?_cons_succ, List.set_cons_zero, List.set_cons_succ, List.length_cons, List.length_nil, Option.bind_some, Option.bind_none, Option.map_some, Option.map_none, if_true, if_false, ite_true, ite_false, Bool.false_eq_true, reduceIte, reduceCtorEq, seqF]
    unfold L_first_wrong_lot_2 sFor sThen
    rw [rg]
    exact q1
  refine callP_ok (h' := [.lst (Ls.map fun o : Nat => AV.int o)]) ?_ rfl (noC2 rfl (noCs_ct Ls)) rfl
  unfold f_first_wrong_lot m_first_wrong_lot
  simp only [bodyM, sSeq, sIf, sThen, sSet, sRet, sRetN, sNext, sExpr, sPutIx, sAsg, sPar, sAug, sExc, mAnd, mOr, mNot, mIf, mT, mB, mAndV, mOrV, mNotV, m2, m1, mN, mNL, mV, mC, mLst, mTup, mLs, mLC, mLstC, newC, mSl, oNo, oYes, mChain, mChain, mCall, aNil, aCons, M.bnd, M.ret, M.bad, rd, gN, gT, gSeq, mF, frzA, mLM, mLM0, mItS, mItL, mItT, mEnum, mRng1, mRng2, List.map_cons, List.map_nil, List.replicate, List.cons_append, List.nil_append, List.getElem?_cons_zero, List.getElem?_cons_succ, List.set_cons_zero, List.set_cons_succ, List.length_cons, List.length_nil, Option.bind_some, Option.bind_none, Option.map_some, Option.map_none, if_true, if_false, ite_true, ite_false, Bool.false_eq_true, reduceIte, reduceCtorEq, sm0, lp]
theorem newbook_ok {n : Nat} {Ls : List Nat} {as : EM (List AV)} {env : AEnv} {h h' : Hs} (h1 : 1 ≤ n) (hn : n ≤ 12) (w : WB n Ls) (h2 : ∀ m ∈ Ls, 1 < (cr m).length) (hl : Ls.length ≤ 60) (ha : as env h = .ok [.int n, .tup (Ls.map ctA)] h') : mMake 3 "Book" f_Book___init__ as env h = .ok (bk "Book" n Ls) h' := by
  have ls : Ls.length ≤ sizeLine := Nat.le_trans hl (by decide)
  have e1 : callH 3 f_Book_keep [.cell 0, .int n, .tup (Ls.map ctA)] [.ins "Book" []] = .ok .non [.ins "Book" [("people", .int n), ("lots", .tup (Ls.map ctA)), ("masks", .lst (Ls.map fun b : Nat => AV.int b))]] :=
    callH_ok (m := f_Book_keep) (i := 0) (c := .ins "Book" []) (h := [.ins "Book" []]) (r := []) rfl (keep_ok (c := "Book") (.inl rfl) (fun m hm => mb12 (w.lt m hm) hn) ls) rfl (noC2 rfl (noCs_ct Ls)) rfl rfl (by
      show noCf _ = true
      have := noC_bk (c := "Book") (n := n) (Ls := Ls)
      unfold bk at this
      rw [noC] at this
      exact this)
  have e2 : f_Book___init__ [.cell 0, .int n, .tup (Ls.map ctA)] [.ins "Book" []] = .ok .non [.ins "Book" [("people", .int n), ("lots", .tup (Ls.map ctA)), ("masks", .lst (Ls.map fun b : Nat => AV.int b))]] := by
    have w1 : decide ((1 : Int) ≤ n) = true := decide_eq_true (by omega)
    have w2 : decide ((n : Int) ≤ 12) = true := decide_eq_true (by omega)
    have w3 : isiA [.ins "Book" []] [.tup (Ls.map ctA), .ty "tuple"] = some (.bl true) := rfl
    have w4 : decide ((60 : Int) < (Ls.length : Int)) = false := decide_eq_false (by omega)
    have w5 : notNA [.ins "Book" []] .non .non = some (.bl false) := rfl
    unfold f_Book___init__ m_Book___init__
    simp only [bodyM, sSeq, sIf, sThen, sSet, sRet, sRetN, sNext, sExpr, sPutIx, sAsg, sPar, sAug, sExc, mAnd, mOr, mNot, mIf, mT, mB, mAndV, mOrV, mNotV, m2, m1, mN, mNL, mV, mC, mLst, mTup, mLs, mLC, mLstC, newC, mSl, oNo, oYes, mChain, mChain, mCall, aNil, aCons, M.bnd, M.ret, M.bad, rd, gN, gT, gSeq, mF, frzA, mLM, mLM0, mItS, mItL, mItT, mEnum, mRng1, mRng2, List.map_cons, List.map_nil, List.replicate, List.cons_append, List.nil_append, List.getElem?_cons_zero, List.getElem?_cons_succ, List.set_cons_zero, List.set_cons_succ, List.length_cons, List.length_nil, Option.bind_some, Option.bind_none, Option.map_some, Option.map_none, if_true, if_false, ite_true, ite_false, Bool.false_eq_true, reduceIte, reduceCtorEq, within_P, w1, w2, Bool.and_true, Bool.not_true, w3, lenA_tup, List.length_map, gtA_int, w4, fwl_ok hn w h2 hl, w5, mMeth, insOf, List.lookup_nil, and_self, e1]
  unfold mMake M.bnd
  rw [ha]
  dsimp only
  rw [if_pos ⟨rfl, noC2 rfl (noCs_ct Ls)⟩, e2]
  dsimp only
  have := noC_bk (c := "Book") (n := n) (Ls := Ls)
  unfold bk at this ⊢
  rw [noC] at this
  rw [if_pos ⟨rfl, this⟩]
end LW

set_option Elab.async false
set_option linter.all false
set_option maxRecDepth 100000
set_option maxHeartbeats 2000000
namespace LW
open PySem L2 Sim MB
/-! the game of adding: ranks -/
/-- least that is not there -/
def mexA (xs : List Nat) : Nat → Nat → Nat
  | 0, i => i
  | f + 1, i => if xs.contains i then mexA xs f (i + 1) else i
def mex (xs : List Nat) : Nat := mexA xs (xs.length + 1) 0
theorem mexA_spec (xs : List Nat) : ∀ (f i : Nat), (∀ j, j < i → j ∈ xs) → xs.length + 1 ≤ i + f → (mexA xs f i ∉ xs ∧ ∀ j, j < mexA xs f i → j ∈ xs)
  | 0, i, h, hl => by
    exfalso
    have : (List.range i).length ≤ xs.length := len_sub List.nodup_range fun x hx => h x (List.mem_range.mp hx)
    rw [List.length_range] at this
    omega
  | f + 1, i, h, hl => by
    unfold mexA
    split
    · rename_i hc
      have hc' : i ∈ xs := List.contains_iff_mem.mp hc
      refine mexA_spec xs f (i + 1) (fun j hj => ?_) (by omega)
      by_cases e : j = i
      · rw [e]; exact hc'
      · exact h j (by omega)
    · rename_i hc
      exact ⟨fun q => hc (List.contains_iff_mem.mpr q), h⟩
theorem mex_not (xs : List Nat) : mex xs ∉ xs := (mexA_spec xs _ 0 (fun j hj => by omega) (by omega)).1
theorem mex_all (xs : List Nat) : ∀ j, j < mex xs → j ∈ xs := (mexA_spec xs _ 0 (fun j hj => by omega) (by omega)).2
theorem mex_eq {xs : List Nat} {m : Nat} (h1 : m ∉ xs) (h2 : ∀ j, j < m → j ∈ xs) : mex xs = m := by
  rcases Nat.lt_trichotomy (mex xs) m with h | h | h
  · exact absurd (h2 _ h) (mex_not xs)
  · exact h
  · exact absurd (mex_all xs _ h) h1
theorem mex_congr {xs ys : List Nat} (h : ∀ x, x ∈ xs ↔ x ∈ ys) : mex xs = mex ys := mex_eq (fun q => mex_not ys ((h _).mp q)) fun j hj => (h j).mpr (mex_all ys j hj)
theorem mex_le (xs : List Nat) : mex xs ≤ xs.length := by
  have : (List.range (mex xs)).length ≤ xs.length := len_sub List.nodup_range fun x hx => mex_all xs x (List.mem_range.mp hx)
  rwa [List.length_range] at this
def addsL (n : Nat) (Ls : List Nat) (b : Nat) : List Nat := (List.range n).filter fun p => !b.testBit p && clr Ls (b ||| 2 ^ p)
theorem mem_addsL {n : Nat} {Ls : List Nat} {b p : Nat} : p ∈ addsL n Ls b ↔ p < n ∧ b.testBit p = false ∧ clr Ls (b ||| 2 ^ p) = true := by
  unfold addsL
  rw [List.mem_filter, List.mem_range, Bool.and_eq_true, Bool.not_eq_true']
def rkN (n : Nat) (Ls : List Nat) : Nat → Nat → Nat
  | 0, _ => 0
  | k + 1, b => mex ((addsL n Ls b).map fun p => rkN n Ls k (b ||| 2 ^ p))
def rk (n : Nat) (Ls : List Nat) (b : Nat) : Nat := rkN n Ls (n + 1 - pc b) b
theorem or_bit {b p i : Nat} : (b ||| 2 ^ p).testBit i = (b.testBit i || decide (p = i)) := by rw [Nat.testBit_or, Nat.testBit_two_pow]
theorem rm_or {b p : Nat} (h : b.testBit p = false) : rm (b ||| 2 ^ p) p = b := by
  refine Nat.eq_of_testBit_eq fun i => ?_
  rw [rm_bit (by rw [or_bit]; simp), or_bit]
  by_cases e : i = p
  · subst e; rw [h]; simp
  · have e' : ¬ p = i := fun z => e z.symm
    simp [e, e']
theorem pc_or {b p : Nat} (h : b.testBit p = false) : pc (b ||| 2 ^ p) = pc b + 1 := by
  have := pc_rm (m := b ||| 2 ^ p) (x := p) (by rw [or_bit]; simp)
  rw [rm_or h] at this
  exact this.symm
theorem or_lt {n b p : Nat} (hb : b < 2 ^ n) (hp : p < n) : b ||| 2 ^ p < 2 ^ n := Nat.or_lt_two_pow hb (Nat.pow_lt_pow_right (by decide) hp)
theorem pcle {n m : Nat} (h : m < 2 ^ n) : pc m ≤ n := by
  have := pc_le (U := List.range n) (m := m) List.nodup_range fun i hi => List.mem_range.mpr (bit_lt h hi)
  rwa [List.length_range] at this
theorem rk_eq {n b : Nat} {Ls : List Nat} (hb : b < 2 ^ n) : rk n Ls b = mex ((addsL n Ls b).map fun p => rk n Ls (b ||| 2 ^ p)) := by
  have h1 : n + 1 - pc b = (n - pc b) + 1 := by have := pcle hb; omega
  unfold rk
  rw [h1]
  show mex ((addsL n Ls b).map fun p => rkN n Ls (n - pc b) (b ||| 2 ^ p)) = _
  congr 1
  refine List.map_congr_left fun p hp => ?_
  rw [pc_or (mem_addsL.mp hp).2.1, show n + 1 - (pc b + 1) = n - pc b by omega]
theorem rk_le {n b : Nat} {Ls : List Nat} (hb : b < 2 ^ n) : rk n Ls b ≤ n := by
  rw [rk_eq hb]
  refine Nat.le_trans (mex_le _) ?_
  rw [List.length_map]
  unfold addsL
  exact Nat.le_trans (List.length_filter_le _ _) (by rw [List.length_range]; exact Nat.le_refl _)
/-! ### two books beside one another -/
theorem xor_check : ((List.range 16).all fun x => (List.range 16).all fun y => (List.range 16).all fun i => decide (x ^^^ y ≤ i) || decide (i ^^^ y < x) || decide (i ^^^ x < y)) = true := by decide +kernel
theorem xor_cases {x y i : Nat} (hx : x < 16) (hy : y < 16) (h : i < x ^^^ y) : i ^^^ y < x ∨ i ^^^ x < y := by
  have h16 : x ^^^ y < 16 := Nat.xor_lt_two_pow (n := 4) hx hy
  have q := List.all_eq_true.mp (List.all_eq_true.mp (List.all_eq_true.mp xor_check x (List.mem_range.mpr hx)) y (List.mem_range.mpr hy)) i (List.mem_range.mpr (by omega))
  simp only [Bool.or_eq_true, decide_eq_true_iff] at q
  omega
theorem xor_right {a b c : Nat} (h : a ^^^ c = b ^^^ c) : a = b := by
  have := congrArg (· ^^^ c) h
  simpa [Nat.xor_assoc] using this
theorem mex_xor {X Y : List Nat} (hx : mex X < 16) (hy : mex Y < 16) : mex (X.map (· ^^^ mex Y) ++ Y.map (mex X ^^^ ·)) = mex X ^^^ mex Y := by
  refine mex_eq (fun q => ?_) fun i hi => ?_
  · rcases List.mem_append.mp q with q | q
    · obtain ⟨x, h1, h2⟩ := List.mem_map.mp q
      rw [← xor_right h2] at hx
      exact mex_not X (by rw [← xor_right h2]; exact h1)
    · obtain ⟨y, h1, h2⟩ := List.mem_map.mp q
      rw [Nat.xor_comm, Nat.xor_comm (mex X)] at h2
      exact mex_not Y (by rw [← xor_right h2]; exact h1)
  · rw [List.mem_append, List.mem_map, List.mem_map]
    rcases xor_cases hx hy hi with h | h
    · exact .inl ⟨_, mex_all X _ h, by rw [Nat.xor_assoc, Nat.xor_self, Nat.xor_zero]⟩
    · refine .inr ⟨_, mex_all Y _ h, ?_⟩
      rw [Nat.xor_comm i, ← Nat.xor_assoc, Nat.xor_self, Nat.zero_xor]
/-! ### the empty book -/
theorem rk_empty (n : Nat) : ∀ (k b : Nat), b < 2 ^ n → pc b + k = n → rk n [] b = k % 2 := by
  intro k
  induction k with
  | zero =>
    intro b hb hk
    have : addsL n [] b = [] := List.filter_eq_nil_iff.mpr fun p hp q => by
      rw [Bool.and_eq_true, Bool.not_eq_true'] at q
      have := pcle (or_lt hb (List.mem_range.mp hp))
      rw [pc_or q.1] at this
      omega
    rw [rk_eq hb, this]
    rfl
  | succ k ih =>
    intro b hb hk
    have hv : ∀ p ∈ addsL n [] b, rk n [] (b ||| 2 ^ p) = k % 2 := fun p hp => by
      obtain ⟨h1, h2, h3⟩ := mem_addsL.mp hp
      exact ih _ (or_lt hb h1) (by rw [pc_or h2]; omega)
    obtain ⟨p, hp⟩ : ∃ p, p ∈ addsL n [] b := by
      have h1 := pc_in (U := List.range n) (m := b) List.nodup_range fun i hi => List.mem_range.mpr (bit_lt hb hi)
      have h2 := filter_not_len (fun i => b.testBit i) (List.range n)
      rw [h1, List.length_range] at h2
      have h3 : ((List.range n).filter fun i => !b.testBit i) ≠ [] := fun z => by rw [z] at h2; simp at h2; omega
      obtain ⟨p, hp⟩ := List.exists_mem_of_ne_nil _ h3
      rw [List.mem_filter, List.mem_range, Bool.not_eq_true'] at hp
      exact ⟨p, mem_addsL.mpr ⟨hp.1, hp.2, rfl⟩⟩
    rw [rk_eq hb, List.map_congr_left hv]
    have m1 : ∀ x, x ∈ (addsL n [] b).map (fun _ => k % 2) ↔ x = k % 2 := fun x => by
      rw [List.mem_map]
      exact ⟨fun ⟨_, _, e⟩ => e.symm, fun e => ⟨p, hp, e.symm⟩⟩
    refine mex_eq (fun q => ?_) fun j hj => (m1 j).mpr ?_
    · have := (m1 _).mp q
      omega
    · omega
end LW

set_option Elab.async false
set_option linter.all false
set_option maxRecDepth 100000
set_option maxHeartbeats 2000000
namespace LW
open PySem L2 Sim MB
def J2 (n b c : Nat) : Nat := 2 ^ n * c + b
theorem J2_bit {n b c i : Nat} (hb : b < 2 ^ n) : (J2 n b c).testBit i = if i < n then b.testBit i else c.testBit (i - n) := Nat.testBit_two_pow_mul_add c hb i
theorem J2_lt {n n2 b c : Nat} (hb : b < 2 ^ n) (hc : c < 2 ^ n2) : J2 n b c < 2 ^ (n + n2) := by
  unfold J2
  rw [Nat.pow_add]
  have h1 : 2 ^ n * c + 2 ^ n ≤ 2 ^ n * 2 ^ n2 := by
    rw [← Nat.mul_succ]
    exact Nat.mul_le_mul (Nat.le_refl _) hc
  omega
theorem J2_or1 {n b c p : Nat} (hb : b < 2 ^ n) (hp : p < n) : J2 n b c ||| 2 ^ p = J2 n (b ||| 2 ^ p) c := by
  refine Nat.eq_of_testBit_eq fun i => ?_
  rw [or_bit, J2_bit hb, J2_bit (or_lt hb hp)]
  by_cases h : i < n
  · rw [if_pos h, if_pos h, or_bit]
  · rw [if_neg h, if_neg h, decide_eq_false (by omega), Bool.or_false]
theorem J2_or2 {n b c p : Nat} (hb : b < 2 ^ n) : J2 n b c ||| 2 ^ (p + n) = J2 n b (c ||| 2 ^ p) := by
  refine Nat.eq_of_testBit_eq fun i => ?_
  rw [or_bit, J2_bit hb, J2_bit hb]
  by_cases h : i < n
  · rw [if_pos h, if_pos h, decide_eq_false (by omega), Bool.or_false]
  · rw [if_neg h, if_neg h, or_bit]
    congr 1
    exact decide_eq_decide.mpr (by omega)
theorem rk_two {n1 n2 : Nat} {A B C : List Nat} (h1 : n1 < 16) (h2 : n2 < 16) (hC : ∀ b c, b < 2 ^ n1 → clr C (J2 n1 b c) = (clr A b && clr B c)) : ∀ (k b c : Nat), b < 2 ^ n1 → c < 2 ^ n2 → (n1 - pc b) + (n2 - pc c) = k → clr A b = true → clr B c = true → rk (n1 + n2) C (J2 n1 b c) = rk n1 A b ^^^ rk n2 B c := by
  intro k
  induction k using Nat.strongRecOn with
  | ind k ih =>
    intro b c hb hc hk cb cc
    have eA := rk_eq (n := n1) (Ls := A) hb
    have eB := rk_eq (n := n2) (Ls := B) hc
    have lA := rk_le (n := n1) (Ls := A) hb
    have lB := rk_le (n := n2) (Ls := B) hc
    have key := mex_xor (X := (addsL n1 A b).map fun p => rk n1 A (b ||| 2 ^ p)) (Y := (addsL n2 B c).map fun p => rk n2 B (c ||| 2 ^ p)) (by rw [← eA]; omega) (by rw [← eB]; omega)
    rw [← eA, ← eB] at key
    rw [rk_eq (J2_lt hb hc), ← key]
    have pb := pcle hb
    have pcc := pcle hc
    have s1 : ∀ p ∈ addsL n1 A b, rk (n1 + n2) C (J2 n1 (b ||| 2 ^ p) c) = rk n1 A (b ||| 2 ^ p) ^^^ rk n2 B c := fun p hp => by
      obtain ⟨q1, q2, q3⟩ := mem_addsL.mp hp
      have q4 := pcle (or_lt hb q1)
      rw [pc_or q2] at q4
      exact ih ((n1 - pc (b ||| 2 ^ p)) + (n2 - pc c)) (by rw [pc_or q2]; omega) _ _ (or_lt hb q1) hc rfl q3 cc
    have s2 : ∀ p ∈ addsL n2 B c, rk (n1 + n2) C (J2 n1 b (c ||| 2 ^ p)) = rk n1 A b ^^^ rk n2 B (c ||| 2 ^ p) := fun p hp => by
      obtain ⟨q1, q2, q3⟩ := mem_addsL.mp hp
      have q4 := pcle (or_lt hc q1)
      rw [pc_or q2] at q4
      exact ih ((n1 - pc b) + (n2 - pc (c ||| 2 ^ p))) (by rw [pc_or q2]; omega) _ _ hb (or_lt hc q1) rfl cb q3
    refine mex_congr fun x => ?_
    rw [List.mem_append, List.mem_map, List.mem_map, List.mem_map]
    constructor
    · rintro ⟨p, hp, rfl⟩
      obtain ⟨q1, q2, q3⟩ := mem_addsL.mp hp
      by_cases h : p < n1
      · rw [J2_or1 hb h, hC _ _ (or_lt hb h), Bool.and_eq_true] at q3
        rw [J2_bit hb, if_pos h] at q2
        have hp' : p ∈ addsL n1 A b := mem_addsL.mpr ⟨h, q2, q3.1⟩
        refine .inl ⟨_, List.mem_map.mpr ⟨p, hp', rfl⟩, ?_⟩
        rw [J2_or1 hb h, s1 p hp']
      · obtain ⟨r, rfl⟩ : ∃ r, p = r + n1 := ⟨p - n1, by omega⟩
        rw [J2_or2 hb, hC _ _ hb, Bool.and_eq_true] at q3
        rw [J2_bit hb, if_neg h, show r + n1 - n1 = r by omega] at q2
        have hp' : r ∈ addsL n2 B c := mem_addsL.mpr ⟨by omega, q2, q3.2⟩
        refine .inr ⟨_, List.mem_map.mpr ⟨r, hp', rfl⟩, ?_⟩
        rw [J2_or2 hb, s2 r hp']
    · rintro (⟨_, hz, rfl⟩ | ⟨_, hz, rfl⟩)
      · obtain ⟨p, hp, rfl⟩ := List.mem_map.mp hz
        obtain ⟨q1, q2, q3⟩ := mem_addsL.mp hp
        refine ⟨p, mem_addsL.mpr ⟨by omega, by rw [J2_bit hb, if_pos q1]; exact q2, by rw [J2_or1 hb q1, hC _ _ (or_lt hb q1), q3, cc]; rfl⟩, ?_⟩
        rw [J2_or1 hb q1, s1 p hp]
      · obtain ⟨p, hp, rfl⟩ := List.mem_map.mp hz
        obtain ⟨q1, q2, q3⟩ := mem_addsL.mp hp
        refine ⟨p + n1, mem_addsL.mpr ⟨by omega, by rw [J2_bit hb, if_neg (by omega), show p + n1 - n1 = p by omega]; exact q2, by rw [J2_or2 hb, hC _ _ hb, q3, cb]; rfl⟩, ?_⟩
        rw [J2_or2 hb, s2 p hp]
/-! ### its lots -/
theorem wi_shift {n m b c : Nat} (hb : b < 2 ^ n) : wi (2 ^ n * m) (J2 n b c) = wi m c := by
  rw [Bool.eq_iff_iff, wi_iff, wi_iff]
  have e : ∀ i, (2 ^ n * m).testBit i = if i < n then false else m.testBit (i - n) := fun i => by
    have := J2_bit (n := n) (b := 0) (c := m) (i := i) (Nat.pow_pos (by decide))
    unfold J2 at this
    rw [Nat.add_zero, Nat.zero_testBit] at this
    exact this
  constructor
  · intro h i hi
    have := h (i + n) (by rw [e, if_neg (by omega), show i + n - n = i by omega]; exact hi)
    rwa [J2_bit hb, if_neg (by omega), show i + n - n = i by omega] at this
  · intro h i hi
    rw [e] at hi
    split at hi
    · cases hi
    · rename_i hn
      rw [J2_bit hb, if_neg hn]
      exact h _ hi
theorem wi_low {n m b c : Nat} (hb : b < 2 ^ n) (hm : m < 2 ^ n) : wi m (J2 n b c) = wi m b := by
  rw [Bool.eq_iff_iff, wi_iff, wi_iff]
  constructor
  · intro h i hi
    have := h i hi
    rwa [J2_bit hb, if_pos (bit_lt hm hi)] at this
  · intro h i hi
    rw [J2_bit hb, if_pos (bit_lt hm hi)]
    exact h i hi
theorem clr_two {n : Nat} {A B : List Nat} (hA : ∀ m ∈ A, m < 2 ^ n) {b c : Nat} (hb : b < 2 ^ n) : clr (A ++ B.map (2 ^ n * ·)) (J2 n b c) = (clr A b && clr B c) := by
  rw [Bool.eq_iff_iff, Bool.and_eq_true]
  have key : ∀ (L : List Nat) (x : Nat), clr L x = true ↔ ∀ m ∈ L, wi m x = false := fun L x => by
    rw [← Bool.not_eq_false, clr_false]
    exact ⟨fun h m hm => Bool.eq_false_iff.mpr fun q => h ⟨m, hm, q⟩, fun h ⟨m, hm, q⟩ => by rw [h m hm] at q; cases q⟩
  rw [key, key, key]
  constructor
  · intro h
    refine ⟨fun m hm => ?_, fun m hm => ?_⟩
    · rw [← wi_low (c := c) hb (hA m hm)]; exact h m (List.mem_append_left _ hm)
    · rw [← wi_shift (m := m) (c := c) hb]; exact h _ (List.mem_append_right _ (List.mem_map.mpr ⟨m, hm, rfl⟩))
  · rintro ⟨h1, h2⟩ m hm
    rcases List.mem_append.mp hm with hm | hm
    · rw [wi_low hb (hA m hm)]; exact h1 m hm
    · obtain ⟨o, ho, rfl⟩ := List.mem_map.mp hm
      rw [wi_shift hb]; exact h2 o ho
theorem asc_ext : ∀ {l m : List Nat}, l.Pairwise (· < ·) → m.Pairwise (· < ·) → (∀ x, x ∈ l ↔ x ∈ m) → l = m
  | [], [], _, _, _ => rfl
  | [], y :: m, _, _, h => nomatch (h y).mpr List.mem_cons_self
  | x :: l, [], _, _, h => nomatch (h x).mp List.mem_cons_self
  | x :: l, y :: m, hl, hm, h => by
    obtain ⟨a1, a2⟩ := List.pairwise_cons.mp hl
    obtain ⟨b1, b2⟩ := List.pairwise_cons.mp hm
    have e : x = y := by
      rcases List.mem_cons.mp ((h x).mp List.mem_cons_self) with e | e
      · exact e
      · rcases List.mem_cons.mp ((h y).mpr List.mem_cons_self) with f | f
        · exact f.symm
        · have := a1 y f
          have := b1 x e
          omega
    subst e
    rw [asc_ext a2 b2 fun z => ⟨fun q => ?_, fun q => ?_⟩]
    · rcases List.mem_cons.mp ((h z).mp (List.mem_cons_of_mem _ q)) with e | e
      · have := a1 z q; omega
      · exact e
    · rcases List.mem_cons.mp ((h z).mpr (List.mem_cons_of_mem _ q)) with e | e
      · have := b1 z q; omega
      · exact e
theorem bitsL_asc (m : Nat) : (bitsL m).Pairwise (· < ·) := List.pairwise_lt_range.filter _
theorem bitsL_shift (n m : Nat) : (bitsL m).map (· + n) = bitsL (2 ^ n * m) := by
  refine asc_ext (List.pairwise_map.mpr ((bitsL_asc m).imp fun h => by omega)) (bitsL_asc _) fun x => ?_
  rw [List.mem_map, mem_bitsL]
  have e : (2 ^ n * m).testBit x = if x < n then false else m.testBit (x - n) := by
    have := J2_bit (n := n) (b := 0) (c := m) (i := x) (Nat.pow_pos (by decide))
    unfold J2 at this
    rw [Nat.add_zero, Nat.zero_testBit] at this
    exact this
  rw [e]
  constructor
  · rintro ⟨i, hi, rfl⟩
    rw [if_neg (by omega), show i + n - n = i by omega]
    exact mem_bitsL.mp hi
  · intro h
    split at h
    · cases h
    · exact ⟨x - n, mem_bitsL.mpr h, by omega⟩
theorem cr_shift (n m : Nat) : (cr m).map (· + (n : Int)) = cr (2 ^ n * m) := by
  rw [cr_bits, cr_bits, ← bitsL_shift, List.map_map, List.map_map]
  exact List.map_congr_left fun i _ => by show (i : Int) + n = ((i + n : Nat) : Int); omega
end LW

set_option Elab.async false
set_option linter.all false
set_option maxRecDepth 100000
set_option maxHeartbeats 2000000
namespace LW
open PySem L2 Sim MB
local instance tabN20 : TabT := ⟨[]⟩
/-! the program's adds -/
theorem oxa : ∀ (n a b : Nat), a ≤ n → (a ||| b) = (a ^^^ b) + (a &&& b) := by
  intro n
  induction n with
  | zero =>
    intro a b h
    obtain rfl : a = 0 := by omega
    simp
  | succ n ih =>
    intro a b h
    by_cases h0 : a = 0
    · subst h0; simp
    · have := ih (a/2) (b/2) (by omega)
      have h1 := Nat.or_div_two (a := a) (b := b)
      have h2 := Nat.xor_div_two (a := a) (b := b)
      have h3 := Nat.and_div_two (a := a) (b := b)
      have k1 : (a ||| b) % 2 = (a ^^^ b) % 2 + (a &&& b) % 2 := by
        have e1 := Nat.or_mod_two_pow (a := a) (b := b) (n := 1)
        have e2 := Nat.xor_mod_two_pow (a := a) (b := b) (n := 1)
        have e3 := Nat.and_mod_two_pow (a := a) (b := b) (n := 1)
        simp only [Nat.pow_one] at e1 e2 e3
        rw [e1, e2, e3]
        rcases Nat.mod_two_eq_zero_or_one a with q | q <;> rcases Nat.mod_two_eq_zero_or_one b with r | r <;> rw [q, r] <;> rfl
      omega
theorem xorA_nat {h : Hs} {a b : Nat} : xorA h (.int a) (.int b) = some (.int ((a ^^^ b : Nat) : Int)) := by
  have e1 : Builtin.bitOr (a : Int) b = ((a ||| b : Nat) : Int) := by
    have := orA_nat (h := h) (a := a) (b := b)
    exact AV.int.inj (Option.some.inj this)
  have e2 : Builtin.bitAnd (a : Int) b = ((a &&& b : Nat) : Int) := by
    have := andA_nat (h := h) (a := a) (b := b)
    exact AV.int.inj (Option.some.inj this)
  unfold xorA Builtin.bitXor
  dsimp only
  rw [e1, e2]
  have := oxa a a b (Nat.le_refl _)
  congr 2
  omega
theorem clrbits_ok {c : Str} {n b : Nat} {Ls : List Nat} {h : Hs} (hc : BkC c) (hl : Ls.length ≤ sizeLine) : callP 2 f_is_clear_bits [bk c n Ls, .int b] h = .ok (.bl (clr Ls b)) h := by
  refine callP_ok (h' := []) ?_ rfl (noC2 noC_bk rfl) rfl
  have e1 : K_is_clear_bits_0 [some (bk c n Ls), some (.int b), none] [] = .ok ((Ls.map fun m => wi m b).map AV.bl) [] := by
    unfold K_is_clear_bits_0
    rw [List.map_map]
    refine mLc_jm (xs := Ls) (h' := []) (fun m : Nat => AV.int m) (fun m => AV.bl (wi m b)) ?_ hl fun m hm => ⟨_, rfl, ?_⟩
    · simp only [bodyM, sSeq, sIf, sThen, sSet, sRet, sRetN, sNext, sExpr, sPutIx, sAsg, sPar, sAug, sExc, mAnd, mOr, mNot, mIf, mT, mB, mAndV, mOrV, mNotV, m2, m1, mN, mNL, mV, mC, mLst, mTup, mLs, mLC, mLstC, newC, mSl, oNo, oYes, mChain, mChain, mCall, aNil, aCons, M.bnd, M.ret, M.bad, rd, gN, gT, gSeq, mF, frzA, mLM, mLM0, mItS, mItL, mItT, mEnum, mRng1, mRng2, List.map_cons, List.map_nil, List.replicate, List.cons_append, List.nil_append, List.getElem?_cons_zero, List.getElem?_cons_succ, List.set_cons_zero, List.set_cons_succ, List.length_cons, List.length_nil, Option.bind_some, Option.bind_none, Option.map_some, Option.map_none, if_true, if_false, ite_true, ite_false, Bool.false_eq_true, reduceIte, reduceCtorEq, fld_masks hc]
    · simp only [wipeE, bodyM, sSeq, sIf, sThen, sSet, sRet, sRetN, sNext, sExpr, sPutIx, sAsg, sPar, sAug, sExc, mAnd, mOr, mNot, mIf, mT, mB, mAndV, mOrV, mNotV, m2, m1, mN, mNL, mV, mC, mLst, mTup, mLs, mLC, mLstC, newC, mSl, oNo, oYes, mChain, mChain, mCall, aNil, aCons, M.bnd, M.ret, M.bad, rd, gN, gT, gSeq, mF, frzA, mLM, mLM0, mItS, mItL, mItT, mEnum, mRng1, mRng2, List.map_cons, List.map_nil, List.replicate, List.cons_append, List.nil_append, List.getElem?_cons_zero, List.getElem?_cons_succ, List.set_cons_zero, List.set_cons_succ, List.length_cons, List.length_nil, Option.bind_some, Option.bind_none, Option.map_some, Option.map_none, if_true, if_false, ite_true, ite_false, Bool.false_eq_true, reduceIte, reduceCtorEq, holds_ok]
  unfold f_is_clear_bits m_is_clear_bits
  simp only [bodyM, sSeq, sIf, sThen, sSet, sRet, sRetN, sNext, sExpr, sPutIx, sAsg, sPar, sAug, sExc, mAnd, mOr, mNot, mIf, mT, mB, mAndV, mOrV, mNotV, m2, m1, mN, mNL, mV, mC, mLst, mTup, mLs, mLC, mLstC, newC, mSl, oNo, oYes, mChain, mChain, mCall, aNil, aCons, M.bnd, M.ret, M.bad, rd, gN, gT, gSeq, mF, frzA, mLM, mLM0, mItS, mItL, mItT, mEnum, mRng1, mRng2, List.map_cons, List.map_nil, List.replicate, List.cons_append, List.nil_append, List.getElem?_cons_zero, List.getElem?_cons_succ, List.set_cons_zero, List.set_cons_succ, List.length_cons, List.length_nil, Option.bind_some, Option.bind_none, Option.map_some, Option.map_none, if_true, if_false, ite_true, ite_false, Bool.false_eq_true, reduceIte, reduceCtorEq, e1, anyA_bls, List.any_map]
  rfl
theorem subA_nat {h : Hs} {a : Nat} (ha : 1 ≤ a) : subA h (.int a) (.int 1) = some (.int ((a - 1 : Nat) : Int)) := by
  show some (AV.int ((a : Int) - 1)) = _
  congr 2
  omega
theorem all_ok {n : Nat} {h : Hs} (hn : n < 13) : callP 1 f_all_of [.int n] h = .ok (.int ((2 ^ n - 1 : Nat) : Int)) h := by
  refine callP_ok (h' := []) ?_ rfl rfl rfl
  have e : shlA [] (.int 1) (.int n) = some (.int ((2 ^ n : Nat) : Int)) := shlA_one (Nat.lt_of_lt_of_le hn (by decide))
  unfold f_all_of m_all_of
  simp only [bodyM, sSeq, sIf, sThen, sSet, sRet, sRetN, sNext, sExpr, sPutIx, sAsg, sPar, sAug, sExc, mAnd, mOr, mNot, mIf, mT, mB, mAndV, mOrV, mNotV, m2, m1, mN, mNL, mV, mC, mLst, mTup, mLs, mLC, mLstC, newC, mSl, oNo, oYes, mChain, mChain, mCall, aNil, aCons, M.bnd, M.ret, M.bad, rd, gN, gT, gSeq, mF, frzA, mLM, mLM0, mItS, mItL, mItT, mEnum, mRng1, mRng2, List.map_cons, List.map_nil, List.replicate, List.cons_append, List.nil_append, List.getElem?_cons_zero, List.getElem?_cons_succ, List.set_cons_zero, List.set_cons_succ, List.length_cons, List.length_nil, Option.bind_some, Option.bind_none, Option.map_some, Option.map_none, if_true, if_false, ite_true, ite_false, Bool.false_eq_true, reduceIte, reduceCtorEq, e, subA_nat (Nat.pow_pos (by decide : 0 < 2))]
theorem bitsL_out {n b : Nat} (hb : b < 2 ^ n) : bitsL ((2 ^ n - 1) ^^^ b) = (List.range n).filter fun p => !b.testBit p := by
  refine asc_ext (bitsL_asc _) (List.pairwise_lt_range.filter _) fun x => ?_
  rw [mem_bitsL, List.mem_filter, List.mem_range, Nat.testBit_xor, Nat.testBit_two_pow_sub_one, Bool.not_eq_true']
  by_cases h : x < n
  · rw [decide_eq_true h, Bool.true_xor, Bool.not_eq_true']
    exact ⟨fun q => ⟨h, q⟩, fun q => q.2⟩
  · rw [decide_eq_false h]
    have : b.testBit x = false := Nat.testBit_lt_two_pow (Nat.lt_of_lt_of_le hb (Nat.pow_le_pow_right (by decide) (by omega)))
    rw [this]
    exact ⟨(fun q => nomatch q), fun q => absurd q.1 h⟩
theorem adds_ok {c : Str} {n b : Nat} {Ls : List Nat} {h : Hs} (hc : BkC c) (hn : n ≤ 12) (hb : b < 2 ^ n) (hl : Ls.length ≤ sizeLine) : callP 2 f_adds_from [bk c n Ls, .int b] h = .ok (.lst ((addsL n Ls b).map fun p : Nat => AV.int p)) h := by
  have nc : noCs ((addsL n Ls b).map fun p : Nat => AV.int p) = true := noCs_map (fun _ => rfl) _
  refine callP_ok (h' := []) ?_ rfl (noC2 noC_bk rfl) nc
  have x4 : (2 ^ n - 1) ^^^ b < 4096 := mb12 (Nat.xor_lt_two_pow (by have : 0 < 2 ^ n := Nat.pow_pos (by decide); omega) hb) hn
  have e0 : ∀ h, callP 1 f_crowd_of [.int (((2 ^ n - 1) ^^^ b : Nat) : Int)] h = .ok (ctA ((2 ^ n - 1) ^^^ b)) h := fun h => crowd_ok x4
  have e2 : K_adds_from_0 [some (bk c n Ls), some (.int b), some (ctA ((2 ^ n - 1) ^^^ b)), none] [] = .ok ((addsL n Ls b).map fun p : Nat => AV.int p) [] := by
    unfold K_adds_from_0
    have e3 : addsL n Ls b = ((List.range n).filter fun p => !b.testBit p).filter fun p => clr Ls (b ||| 2 ^ p) := by
      unfold addsL
      rw [List.filter_filter]
      exact List.filter_congr fun p _ => Bool.and_comm _ _
    rw [e3, ← bitsL_out hb]
    refine mLc_jf (xs := bitsL ((2 ^ n - 1) ^^^ b)) (h' := []) (fun p : Nat => AV.int p) (fun p => clr Ls (b ||| 2 ^ p)) (fun p : Nat => AV.int p) ?_ ?_ fun p hp => ⟨_, rfl, ?_, fun _ => rfl⟩
    · unfold ctA tupA
      rw [cr_bits, List.map_map]
      simp only [bodyM, sSeq, sIf, sThen, sSet, sRet, sRetN, sNext, sExpr, sPutIx, sAsg, sPar, sAug, sExc, mAnd, mOr, mNot, mIf, mT, mB, mAndV, mOrV, mNotV, m2, m1, mN, mNL, mV, mC, mLst, mTup, mLs, mLC, mLstC, newC, mSl, oNo, oYes, mChain, mChain, mCall, aNil, aCons, M.bnd, M.ret, M.bad, rd, gN, gT, gSeq, mF, frzA, mLM, mLM0, mItS, mItL, mItT, mEnum, mRng1, mRng2, List.map_cons, List.map_nil, List.replicate, List.cons_append, List.nil_append, List.getElem?_cons_zero, List.getElem?_cons_succ, List.set_cons_zero, List.set_cons_succ, List.length_cons, List.length_nil, Option.bind_some, Option.bind_none, Option.map_some, Option.map_none, if_true, if_false, ite_true, ite_false, Bool.false_eq_true, reduceIte, reduceCtorEq]
      rfl
    · rw [← pc_bits]
      exact small_cr x4
    · have p19 : p < 2 ^ 19 := by
        have := bit_lt (n := 12) (m := (2 ^ n - 1) ^^^ b) x4 (mem_bitsL.mp hp)
        exact Nat.lt_of_lt_of_le this (by decide)
      simp only [wipeE, bodyM, sSeq, sIf, sThen, sSet, sRet, sRetN, sNext, sExpr, sPutIx, sAsg, sPar, sAug, sExc, mAnd, mOr, mNot, mIf, mT, mB, mAndV, mOrV, mNotV, m2, m1, mN, mNL, mV, mC, mLst, mTup, mLs, mLC, mLstC, newC, mSl, oNo, oYes, mChain, mChain, mCall, aNil, aCons, M.bnd, M.ret, M.bad, rd, gN, gT, gSeq, mF, frzA, mLM, mLM0, mItS, mItL, mItT, mEnum, mRng1, mRng2, List.map_cons, List.map_nil, List.replicate, List.cons_append, List.nil_append, List.getElem?_cons_zero, List.getElem?_cons_succ, List.set_cons_zero, List.set_cons_succ, List.length_cons, List.length_nil, Option.bind_some, Option.bind_none, Option.map_some, Option.map_none, if_true, if_false, ite_true, ite_false, Bool.false_eq_true, reduceIte, reduceCtorEq, shlA_one p19, orA_nat, clrbits_ok hc hl]
  unfold f_adds_from m_adds_from
  simp only [bodyM, sSeq, sIf, sThen, sSet, sRet, sRetN, sNext, sExpr, sPutIx, sAsg, sPar, sAug, sExc, mAnd, mOr, mNot, mIf, mT, mB, mAndV, mOrV, mNotV, m2, m1, mN, mNL, mV, mC, mLst, mTup, mLs, mLC, mLstC, newC, mSl, oNo, oYes, mChain, mChain, mCall, aNil, aCons, M.bnd, M.ret, M.bad, rd, gN, gT, gSeq, mF, frzA, mLM, mLM0, mItS, mItL, mItT, mEnum, mRng1, mRng2, List.map_cons, List.map_nil, List.replicate, List.cons_append, List.nil_append, List.getElem?_cons_zero, List.getElem?_cons_succ, List.set_cons_zero, List.set_cons_succ, List.length_cons, List.length_nil, Option.bind_some, Option.bind_none, Option.map_some, Option.map_none, if_true, if_false, ite_true, ite_false, Bool.false_eq_true, reduceIte, reduceCtorEq, fld_people hc, all_ok (by omega : n < 13), xorA_nat, e0, e2]
theorem inA_lst {h : Hs} {p : Int} {d : List Int} (hd : inA h (.int p) (tupA d) = some (.bl (d.contains p))) : inA h (.int p) (.lst (d.map .int)) = some (.bl (d.contains p)) := hd
/-! ### least not -/
theorem mem_int {xs : List Nat} {i : Nat} : (xs.map fun x : Nat => (x : Int)).contains (i : Int) = xs.contains i := by
  rw [Bool.eq_iff_iff, List.contains_iff_mem, List.contains_iff_mem, List.mem_map]
  exact ⟨fun ⟨a, h1, h2⟩ => by rwa [show i = a by omega], fun h => ⟨i, h, rfl⟩⟩
theorem inA_mex {xs : List Nat} {i : Nat} {h : Hs} : inA h (.int i) (.lst (xs.map fun x : Nat => AV.int x)) = some (.bl (xs.contains i)) := by
  have e : (xs.map fun x : Nat => AV.int x) = (xs.map fun x : Nat => (x : Int)).map AV.int := by rw [List.map_map]; rfl
  rw [e, inA_lst inA_tup, mem_int]
/-- the loop that looks for the least: slots i (the number) and j (the list) -/
theorem leastnot_ok {xs : List Nat} {h : Hs} (hl : xs.length ≤ 4096) : callP 1 f_least_not [.lst (xs.map fun x : Nat => AV.int x)] h = .ok (.int (mex xs : Nat)) h := by
  have nc : noCs (xs.map fun x : Nat => AV.int x) = true := noCs_map (fun _ => rfl) _
  refine callP_ok (h' := []) ?_ rfl (noC1 nc) rfl
  have mf : mex xs < fuel := Nat.lt_of_le_of_lt (Nat.le_trans (mex_le xs) hl) (by decide)
  obtain ⟨e2, h2, q1, rfl, rfl⟩ := sWhile_inv (t := mT (m2 inA (mV 1) (mV 0))) (b := B_least_not_0) (fun m env h => h = [] ∧ ∃ i : Nat, env = [some (.lst (xs.map fun x : Nat => AV.int x)), some (.int i)] ∧ i ≤ mex xs ∧ m = mex xs - i) (fun env h => h = [] ∧ env = [some (.lst (xs.map fun x : Nat => AV.int x)), some (.int (mex xs : Nat))]) (fun m env h hI => by
    obtain ⟨rfl, i, rfl, hi, rfl⟩ := hI
    by_cases hb : i = mex xs
    · subst hb
      refine .inl ⟨[], ?_, rfl, rfl⟩
      have : xs.contains (mex xs) = false := Bool.eq_false_iff.mpr fun q => mex_not xs (List.contains_iff_mem.mp q)
      simp only [bodyM, sSeq, sIf, sThen, sSet, sRet, sRetN, sNext, sExpr, sPutIx, sAsg, sPar, sAug, sExc, mAnd, mOr, mNot, mIf, mT, mB, mAndV, mOrV, mNotV, m2, m1, mN, mNL, mV, mC, mLst, mTup, mLs, mLC, mLstC, newC, mSl, oNo, oYes, mChain, mChain, mCall, aNil, aCons, M.bnd, M.ret, M.bad, rd, gN, gT, gSeq, mF, frzA, mLM, mLM0, mItS, mItL, mItT, mEnum, mRng1, mRng2, List.map_cons, List.map_nil, List.replicate, List.cons_append, List.nil_append, List.getElem?_cons_zero, List.getElem?_cons_succ, List.set_cons_zero, List.set_cons_succ, List.length_cons, List.length_nil, Option.bind_some, Option.bind_none, Option.map_some, Option.map_none, if_true, if_false, ite_true, ite_false, Bool.false_eq_true, reduceIte, reduceCtorEq, inA_mex, this]
    · refine .inr ⟨[], ?_, [some (.lst (xs.map fun x : Nat => AV.int x)), some (.int ((i + 1 : Nat) : Int))], [], mex xs - (i + 1), .inl ?_, ⟨rfl, i + 1, rfl, by omega, rfl⟩, by omega⟩
      · have : xs.contains i = true := List.contains_iff_mem.mpr (mex_all xs i (by omega))
        simp only [bodyM, sSeq, sIf, sThen, sSet, sRet, sRetN, sNext, sExpr, sPutIx, sAsg, sPar, sAug, sExc, mAnd, mOr, mNot, mIf, mT, mB, mAndV, mOrV, mNotV, m2, m1, mN, mNL, mV, mC, mLst, mTup, mLs, mLC, mLstC, newC, mSl, oNo, oYes, mChain, mChain, mCall, aNil, aCons, M.bnd, M.ret, M.bad, rd, gN, gT, gSeq, mF, frzA, mLM, mLM0, mItS, mItL, mItT, mEnum, mRng1, mRng2, List.map_cons, List.map_nil, List.replicate, List.cons_append, List.nil_append, List.getElem?_cons_zero, List.getElem?_cons_succ, List.set_cons_zero, List.set_cons_succ, List.length_cons, List.length_nil, Option.bind_some, Option.bind_none, Option.map_some, Option.map_none, if_true, if_false, ite_true, ite_false, Bool.false_eq_true, reduceIte, reduceCtorEq, inA_mex, this]
      · unfold B_least_not_0
        simp only [bodyM, sSeq, sIf, sThen, sSet, sRet, sRetN, sNext, sExpr, sPutIx, sAsg, sPar, sAug, sExc, mAnd, mOr, mNot, mIf, mT, mB, mAndV, mOrV, mNotV, m2, m1, mN, mNL, mV, mC, mLst, mTup, mLs, mLC, mLstC, newC, mSl, oNo, oYes, mChain, mChain, mCall, aNil, aCons, M.bnd, M.ret, M.bad, rd, gN, gT, gSeq, mF, frzA, mLM, mLM0, mItS, mItL, mItT, mEnum, mRng1, mRng2, List.map_cons, List.map_nil, List.replicate, List.cons_append, List.nil_append, List.getElem?_cons_zero, List.getElem?_cons_succ, List.set_cons_zero, List.set_cons_succ, List.length_cons, List.length_nil, Option.bind_some, Option.bind_none, Option.map_some, Option.map_none, if_true, if_false, ite_true, ite_false, Bool.false_eq_true, reduceIte, reduceCtorEq]
        rfl) fuel (mex xs) [some (.lst (xs.map fun x : Nat => AV.int x)), some (.int (0 : Nat))] [] ⟨rfl, 0, rfl, Nat.zero_le _, rfl⟩ mf
  have lp : L_least_not_1 [some (.lst (xs.map fun x : Nat => AV.int x)), some (.int 0)] [] = .nx [some (.lst (xs.map fun x : Nat => AV.int x)), some (.int (mex xs : Nat))] [] := q1
  unfold f_least_not m_least_not
  simp only [bodyM, sSeq, sIf, sThen, sSet, sRet, sRetN, sNext, sExpr, sPutIx, sAsg, sPar, sAug, sExc, mAnd, mOr, mNot, mIf, mT, mB, mAndV, mOrV, mNotV, m2, m1, mN, mNL, mV, mC, mLst, mTup, mLs, mLC, mLstC, newC, mSl, oNo, oYes, mChain, mChain, mCall, aNil, aCons, M.bnd, M.ret, M.bad, rd, gN, gT, gSeq, mF, frzA, mLM, mLM0, mItS, mItL, mItT, mEnum, mRng1, mRng2, List.map_cons, List.map_nil, List.replicate, List.cons_append, List.nil_append, List.getElem?_cons_zero, List.getElem?_cons_succ, List.set_cons_zero, List.set_cons_succ, List.length_cons, List.length_nil, Option.bind_some, Option.bind_none, Option.map_some, Option.map_none, if_true, if_false, ite_true, ite_false, Bool.false_eq_true, reduceIte, reduceCtorEq, lp]
end LW

set_option Elab.async false
set_option linter.all false
set_option maxRecDepth 100000
set_option maxHeartbeats 2000000
namespace LW
open PySem L2 Sim MB
local instance tabN21 : TabT := ⟨[]⟩
/-- a comprehension whose parts change the store, yet answer what they should -/
theorem lcL_st {α : Type} {g : GT} {t : EM Bool} {e : EM AV} {env : AEnv} (I : Hs → Prop) (j : α → AV) (p : α → Bool) (f : α → AV) : ∀ {xs : List α} {h : Hs}, (∀ x ∈ xs, ∀ h, I h → ∃ e' h' h'', g (j x) env = some e' ∧ t e' h = .ok (p x) h' ∧ I h' ∧ (p x = true → e e' h' = .ok (f x) h'' ∧ I h'')) → I h → ∃ h', lcL g t e env (xs.map j) h = .ok ((xs.filter p).map f) h' ∧ I h'
  | [], h, _, hI => ⟨h, rfl, hI⟩
  | x :: xs, h, hx, hI => by
    obtain ⟨e', h1, h2, q1, q2, q3, q4⟩ := hx x List.mem_cons_self h hI
    rw [List.map_cons]
    unfold lcL
    rw [q1]
    dsimp only [M.bnd]
    rw [noexc_ok q2]
    dsimp only
    cases hp : p x with
    | true =>
      rw [hp] at q4
      obtain ⟨q5, q6⟩ := q4 rfl
      obtain ⟨h3, r1, r2⟩ := lcL_st I j p f (xs := xs) (h := h2) (fun y hy => hx y (List.mem_cons_of_mem _ hy)) q6
      refine ⟨h3, ?_, r2⟩
      rw [if_pos rfl]
      dsimp only [M.bnd]
      rw [noexc_ok q5]
      dsimp only
      rw [r1, List.filter_cons_of_pos hp, List.map_cons]
      rfl
    | false =>
      obtain ⟨h3, r1, r2⟩ := lcL_st I j p f (xs := xs) (h := h1) (fun y hy => hx y (List.mem_cons_of_mem _ hy)) q3
      refine ⟨h3, ?_, r2⟩
      rw [if_neg (by decide), r1, List.filter_cons_of_neg (by rw [hp]; decide)]
theorem mLc_st {α : Type} {vs : List Nat} {mi : EM (List AV)} {g : GT} {t : EM Bool} {e : EM AV} {env : AEnv} {h h1 : Hs} {xs : List α} (I : Hs → Prop) (j : α → AV) (p : α → Bool) (f : α → AV) (hi : mi env h = .ok (xs.map j) h1) (hs : xs.length ≤ sizeLine)
    (hx : ∀ x ∈ xs, ∀ h, I h → ∃ e' h' h'', g (j x) (wipeE env vs) = some e' ∧ t e' h = .ok (p x) h' ∧ I h' ∧ (p x = true → e e' h' = .ok (f x) h'' ∧ I h'')) (h0 : I h1) : ∃ h', mLc vs mi g t e env h = .ok ((xs.filter p).map f) h' ∧ I h' := by
  obtain ⟨h', q1, q2⟩ := lcL_st I j p f hx h0
  exact ⟨h', mLc_ok hi (by rw [List.length_map]; exact hs) q1, q2⟩
/-! ### a dict of what is known: in the order of coming -/
section
variable {κ : Type} [DecidableEq κ] (k : Nat → κ) (v : Nat → AV)
def tab (bs : List Nat) : List (κ × AV) := bs.map fun b => (k b, v b)
theorem tab_val (kj : ∀ a b, k a = k b → a = b) (b : Nat) : ∀ bs : List Nat, valG (tab k v bs) (k b) = if b ∈ bs then some (v b) else none
  | [] => rfl
  | x :: xs => by
    have ih := tab_val kj b xs
    unfold valG tab at ih ⊢
    rw [List.map_cons]
    by_cases h : x = b
    · subst h
      rw [List.find?_cons_of_pos (by simp), if_pos List.mem_cons_self]
      rfl
    · have h' : ¬ b = x := fun z => h z.symm
      rw [List.find?_cons_of_neg (by simp; exact fun z => h (kj _ _ z)), ih]
      simp [h']
theorem tab_put (kj : ∀ a b, k a = k b → a = b) (b : Nat) (bs : List Nat) : putG (tab k v bs) (k b) (v b) = tab k v (if b ∈ bs then bs else bs ++ [b]) := by
  have ha : (tab k v bs).any (fun kv => decide (kv.1 = k b)) = decide (b ∈ bs) := by
    unfold tab
    rw [List.any_map, Bool.eq_iff_iff, List.any_eq_true, decide_eq_true_iff]
    exact ⟨fun ⟨x, h1, h2⟩ => by rw [← kj _ _ (of_decide_eq_true h2)]; exact h1, fun h => ⟨b, h, by simp⟩⟩
  unfold putG
  rw [ha]
  by_cases h : b ∈ bs
  · rw [if_pos (decide_eq_true h), if_pos h]
    unfold tab
    rw [List.map_map]
    refine List.map_congr_left fun x hx => ?_
    show (if k x = k b then (k x, v b) else (k x, v x)) = (k x, v x)
    split
    · rename_i e; rw [kj _ _ e]
    · rfl
  · rw [if_neg (by simp [h]), if_neg h]
    unfold tab
    rw [List.map_append]
    rfl
end
/-- what is in a table: unlike masks of n people -/
structure Bs (n : Nat) (bs : List Nat) : Prop where
  nd : bs.Nodup
  lt : ∀ b ∈ bs, b < 2 ^ n
theorem Bs.nil (n : Nat) : Bs n [] := ⟨List.nodup_nil, fun _ h => nomatch h⟩
theorem Bs.put {n b : Nat} {bs : List Nat} (B : Bs n bs) (hb : b < 2 ^ n) : Bs n (if b ∈ bs then bs else bs ++ [b]) := by
  split
  · exact B
  · rename_i h
    refine ⟨List.nodup_append.mpr ⟨B.nd, by simp, fun x hx y hy => ?_⟩, fun x hx => ?_⟩
    · rw [List.mem_singleton.mp hy]
      exact fun z => h (by rw [← z]; exact hx)
    · rcases List.mem_append.mp hx with hx | hx
      · exact B.lt x hx
      · rw [List.mem_singleton.mp hx]; exact hb
theorem Bs.len {n : Nat} {bs : List Nat} (B : Bs n bs) (hn : n ≤ 12) : bs.length < sizeLine := by
  have : bs.length ≤ (List.range (2 ^ n)).length := len_sub B.nd fun x hx => List.mem_range.mpr (B.lt x hx)
  rw [List.length_range] at this
  exact Nat.lt_of_le_of_lt (Nat.le_trans this (pow12 hn)) (by decide)
end LW

set_option Elab.async false
set_option linter.all false
set_option maxRecDepth 100000
set_option maxHeartbeats 2000000
namespace LW
open PySem L2 Sim MB
local instance tabN22 : TabT := ⟨[]⟩
def kI (b : Nat) : Key := Sum.inl (b : Int)
theorem kI_inj : ∀ a b, kI a = kI b → a = b := fun a b h => by
  have : (a : Int) = b := Sum.inl.inj h
  omega
def vI (n : Nat) (Ls : List Nat) (b : Nat) : AV := .int (rk n Ls b)
def st (c : Str) (n : Nat) (Ls : List Nat) (bs : List Nat) : Hs := [.ins "Ranks" [("book", bk c n Ls), ("known", .cell 1)], .dct (avK (tab kI (vI n Ls) bs))]
theorem look_int {l : List (Key × AV)} {b : Nat} : lookDA (avK l) (.int b) = some (valG l (kI b)) := by
  unfold lookDA
  show (unK (avK l)).map (fun l => valG l (kI b)) = _
  rw [unK_av]
  rfl
theorem put_int {l : List (Key × AV)} {b : Nat} {x : AV} (hl : l.length < sizeLine) : putDA (avK l) (.int b) x = some (avK (putG l (kI b) x)) := by
  unfold putDA
  show (unK (avK l)).bind (fun l => if l.length < sizeLine then some (avK (putG l (kI b) x)) else none) = _
  rw [unK_av, Option.bind_some, if_pos hl]
variable {c : Str} {n : Nat} {Ls : List Nat}
theorem st_not {bs : List Nat} {b : Nat} : hasNotDA (st c n Ls bs) (.int b) (.cell 1) = some (.bl (!decide (b ∈ bs))) := by
  show (lookDA (avK (tab kI (vI n Ls) bs)) (.int b)).map (fun r => AV.bl (!r.isSome)) = _
  rw [look_int, tab_val kI _ kI_inj]
  by_cases h : b ∈ bs <;> simp [h]
theorem st_ix {bs : List Nat} {b : Nat} (h : b ∈ bs) : ixDA (st c n Ls bs) (.cell 1) (.int b) = some (.int (rk n Ls b)) := by
  show (lookDA (avK (tab kI (vI n Ls) bs)) (.int b)).bind id = _
  rw [look_int, tab_val kI _ kI_inj, if_pos h]
  rfl
theorem st_put {bs : List Nat} {b : Nat} (hl : bs.length < sizeLine) : putD (.cell 1) (.int b) (.int (rk n Ls b)) (st c n Ls bs) = some (st c n Ls (if b ∈ bs then bs else bs ++ [b])) := by
  show (putDA (avK (tab kI (vI n Ls) bs)) (.int b) (.int (rk n Ls b))).map (fun l => (st c n Ls bs).set 1 (.dct l)) = _
  rw [put_int (by unfold tab; rw [List.length_map]; exact hl)]
  have := tab_put kI (vI n Ls) kI_inj b bs
  unfold vI at this ⊢
  rw [this]
  rfl
theorem st_known {bs : List Nat} : fldA ["Ranks"] "known" (st c n Ls bs) (.cell 0) = some (.cell 1) := rfl
theorem st_book {bs : List Nat} : fldA ["Ranks"] "book" (st c n Ls bs) (.cell 0) = some (bk c n Ls) := rfl
theorem rank_ok (hc : BkC c) (hn : n ≤ 12) (hl : Ls.length ≤ sizeLine) : ∀ (k b : Nat) (bs : List Nat), b < 2 ^ n → n < k + pc b → Bs n bs → ∃ bs', f_Ranks_rank k [.cell 0, .int b] (st c n Ls bs) = .ok (.int (rk n Ls b)) (st c n Ls bs') ∧ Bs n bs'
  | 0, b, bs, hb, hk, _ => by have := pcle hb; omega
  | k + 1, b, bs, hb, hk, B => by
    show ∃ bs', bodyM 2 (m_Ranks_rank (f_Ranks_rank k)) [.cell 0, .int b] (st c n Ls bs) = _ ∧ _
    by_cases hm : b ∈ bs
    · refine ⟨bs, ?_, B⟩
      unfold m_Ranks_rank
      simp only [bodyM, sSeq, sIf, sThen, sSet, sRet, sRetN, sNext, sExpr, sPutIx, sAsg, sPar, sAug, sExc, mAnd, mOr, mNot, mIf, mT, mB, mAndV, mOrV, mNotV, m2, m1, mN, mNL, mV, mC, mLst, mTup, mLs, mLC, mLstC, newC, mSl, oNo, oYes, mChain, mChain, mCall, aNil, aCons, M.bnd, M.ret, M.bad, rd, gN, gT, gSeq, mF, frzA, mLM, mLM0, mItS, mItL, mItT, mEnum, mRng1, mRng2, List.map_cons, List.map_nil, List.replicate, List.cons_append, List.nil_append, List.getElem?_cons_zero, List.getElem?_cons_succ, List.set_cons_zero, List.set_cons_succ, List.length_cons, List.length_nil, Option.bind_some, Option.bind_none, Option.map_some, Option.map_none, if_true, if_false, ite_true, ite_false, Bool.false_eq_true, reduceIte, reduceCtorEq, st_known, st_not, hm, decide_true, Bool.not_true, st_ix hm]
    · obtain ⟨h1, q1, bs1, rfl, B1⟩ := mLc_st (vs := [3]) (mi := mItS (mCall (callP 2 f_adds_from) (aCons (m1 (fldA ["Ranks"] "book") (mV 0)) (aCons (mV 1) aNil)))) (g := gN 3) (t := mYes) (e := mMeth "Ranks" "rank" (callS 2 (f_Ranks_rank k)) (mV 0) (aCons (m2 orA (mV 1) (m2 shlA (mC (.int 1)) (mV 3))) aNil)) (env := [some (.cell 0), some (.int b), none, none]) (h := st c n Ls bs) (h1 := st c n Ls bs) (xs := addsL n Ls b) (fun h => ∃ bs', h = st c n Ls bs' ∧ Bs n bs') (fun p : Nat => AV.int p) (fun _ => true) (fun p => .int (rk n Ls (b ||| 2 ^ p)))
        (by simp only [bodyM, sSeq, sIf, sThen, sSet, sRet, sRetN, sNext, sExpr, sPutIx, sAsg, sPar, sAug, sExc, mAnd, mOr, mNot, mIf, mT, mB, mAndV, mOrV, mNotV, m2, m1, mN, mNL, mV, mC, mLst, mTup, mLs, mLC, mLstC, newC, mSl, oNo, oYes, mChain, mChain, mCall, aNil, aCons, M.bnd, M.ret, M.bad, rd, gN, gT, gSeq, mF, frzA, mLM, mLM0, mItS, mItL, mItT, mEnum, mRng1, mRng2, List.map_cons, List.map_nil, List.replicate, List.cons_append, List.nil_append, List.getElem?_cons_zero, List.getElem?_cons_succ, List.set_cons_zero, List.set_cons_succ, List.length_cons, List.length_nil, Option.bind_some, Option.bind_none, Option.map_some, Option.map_none, if_true, if_false, ite_true, ite_false, Bool.false_eq_true, reduceIte, reduceCtorEq, st_book, adds_ok hc hn hb hl]) (Nat.le_trans (List.length_filter_le _ _) (by rw [List.length_range]; exact Nat.le_trans hn (by decide))) (fun p hp h hI => by
          obtain ⟨bs2, rfl, B2⟩ := hI
          obtain ⟨p1, p2, p3⟩ := mem_addsL.mp hp
          obtain ⟨bs3, q3, B3⟩ := rank_ok hc hn hl k (b ||| 2 ^ p) bs2 (or_lt hb p1) (by rw [pc_or p2]; omega) B2
          refine ⟨_, st c n Ls bs2, st c n Ls bs3, rfl, rfl, ⟨bs2, rfl, B2⟩, fun _ => ⟨?_, bs3, rfl, B3⟩⟩
          have p19 : p < 2 ^ 19 := Nat.lt_of_lt_of_le (by omega : p < 12) (by decide)
          have ei : insOf (st c n Ls bs2) (.cell 0) = some (("Ranks" : Str), ([("book", bk c n Ls), ("known", .cell 1)] : List (Str × AV))) := rfl
          have el : List.lookup ("rank" : Str) ([("book", bk c n Ls), ("known", AV.cell 1)] : List (Str × AV)) = none := rfl
          simp only [wipeE, bodyM, sSeq, sIf, sThen, sSet, sRet, sRetN, sNext, sExpr, sPutIx, sAsg, sPar, sAug, sExc, mAnd, mOr, mNot, mIf, mT, mB, mAndV, mOrV, mNotV, m2, m1, mN, mNL, mV, mC, mLst, mTup, mLs, mLC, mLstC, newC, mSl, oNo, oYes, mChain, mChain, mCall, aNil, aCons, M.bnd, M.ret, M.bad, rd, gN, gT, gSeq, mF, frzA, mLM, mLM0, mItS, mItL, mItT, mEnum, mRng1, mRng2, List.map_cons, List.map_nil, List.replicate, List.cons_append, List.nil_append, List.getElem?_cons_zero, List.getElem?_cons_succ, List.set_cons_zero, List.set_cons_succ, List.length_cons, List.length_nil, Option.bind_some, Option.bind_none, Option.map_some, Option.map_none, if_true, if_false, ite_true, ite_false, Bool.false_eq_true, reduceIte, reduceCtorEq, mMeth, ei, el, shlA_one p19, orA_nat, callS, q3, and_self]) ⟨bs, rfl, B⟩
      have q1' : K_Ranks_rank_0 (f_Ranks_rank k) [some (.cell 0), some (.int b), none, none] (st c n Ls bs) = .ok (((addsL n Ls b).map fun p => rk n Ls (b ||| 2 ^ p)).map fun x : Nat => AV.int x) (st c n Ls bs1) := by
        rw [List.map_map]
        rw [List.filter_eq_self.mpr fun _ _ => rfl] at q1
        exact q1
      have e2 : ∀ h, callP 1 f_least_not [.lst (((addsL n Ls b).map fun p => rk n Ls (b ||| 2 ^ p)).map fun x : Nat => AV.int x)] h = .ok (.int (rk n Ls b)) h := fun h => by
        rw [leastnot_ok (by rw [List.length_map]; exact Nat.le_trans (List.length_filter_le _ _) (by rw [List.length_range]; omega)), ← rk_eq hb]
      have e3 := st_put (c := c) (n := n) (Ls := Ls) (b := b) (B1.len hn)
      have m2' : b ∈ (if b ∈ bs1 then bs1 else bs1 ++ [b]) := by split <;> simp [*]
      refine ⟨_, ?_, B1.put hb⟩
      unfold m_Ranks_rank
      simp only [bodyM, sSeq, sIf, sThen, sSet, sRet, sRetN, sNext, sExpr, sPutIx, sAsg, sPar, sAug, sExc, mAnd, mOr, mNot, mIf, mT, mB, mAndV, mOrV, mNotV, m2, m1, mN, mNL, mV, mC, mLst, mTup, mLs, mLC, mLstC, newC, mSl, oNo, oYes, mChain, mChain, mCall, aNil, aCons, M.bnd, M.ret, M.bad, rd, gN, gT, gSeq, mF, frzA, mLM, mLM0, mItS, mItL, mItT, mEnum, mRng1, mRng2, List.map_cons, List.map_nil, List.replicate, List.cons_append, List.nil_append, List.getElem?_cons_zero, List.getElem?_cons_succ, List.set_cons_zero, List.set_cons_succ, List.length_cons, List.length_nil, Option.bind_some, Option.bind_none, Option.map_some, Option.map_none, if_true, if_false, ite_true, ite_false, Bool.false_eq_true, reduceIte, reduceCtorEq, st_known, st_not, hm, decide_false, Bool.not_false, q1', sPutD, e2, e3, st_ix m2']
end LW

set_option Elab.async false
set_option linter.all false
set_option maxRecDepth 100000
set_option maxHeartbeats 2000000
namespace LW
open PySem L2 Sim MB
local instance tabN23 : TabT := ⟨[]⟩
variable {c : Str} {n : Nat} {Ls : List Nat}
theorem checkcrowd_ok {b : Nat} {h : Hs} (hn : n ≤ 12) (hb : b < 2 ^ n) : callP 2 f_check_crowd [.int n, ctA b] h = .ok .non h := by
  refine callP_ok (h' := []) ?_ rfl (noC2 rfl (noC_tupA _)) rfl
  unfold f_check_crowd m_check_crowd
  simp only [bodyM, sSeq, sIf, sThen, sSet, sRet, sRetN, sNext, sExpr, sPutIx, sAsg, sPar, sAug, sExc, mAnd, mOr, mNot, mIf, mT, mB, mAndV, mOrV, mNotV, m2, m1, mN, mNL, mV, mC, mLst, mTup, mLs, mLC, mLstC, newC, mSl, oNo, oYes, mChain, mChain, mCall, aNil, aCons, M.bnd, M.ret, M.bad, rd, gN, gT, gSeq, mF, frzA, mLM, mLM0, mItS, mItL, mItT, mEnum, mRng1, mRng2, List.map_cons, List.map_nil, List.replicate, List.cons_append, List.nil_append, List.getElem?_cons_zero, List.getElem?_cons_succ, List.set_cons_zero, List.set_cons_succ, List.length_cons, List.length_nil, Option.bind_some, Option.bind_none, Option.map_some, Option.map_none, if_true, if_false, ite_true, ite_false, Bool.false_eq_true, reduceIte, reduceCtorEq, iscrowd_ok hb hn, Bool.not_true]
theorem isclear_P {b : Nat} {h : Hs} (hc : BkC c) (hn : n ≤ 12) (hb : b < 2 ^ n) (hl : Ls.length ≤ sizeLine) : callP 2 f_is_clear [bk c n Ls, ctA b] h = .ok (.bl (clr Ls b)) h := by
  refine callP_ok (h' := []) ?_ rfl (noC2 noC_bk (noC_tupA _)) rfl
  unfold f_is_clear m_is_clear
  simp only [bodyM, sSeq, sIf, sThen, sSet, sRet, sRetN, sNext, sExpr, sPutIx, sAsg, sPar, sAug, sExc, mAnd, mOr, mNot, mIf, mT, mB, mAndV, mOrV, mNotV, m2, m1, mN, mNL, mV, mC, mLst, mTup, mLs, mLC, mLstC, newC, mSl, oNo, oYes, mChain, mChain, mCall, aNil, aCons, M.bnd, M.ret, M.bad, rd, gN, gT, gSeq, mF, frzA, mLM, mLM0, mItS, mItL, mItT, mEnum, mRng1, mRng2, List.map_cons, List.map_nil, List.replicate, List.cons_append, List.nil_append, List.getElem?_cons_zero, List.getElem?_cons_succ, List.set_cons_zero, List.set_cons_succ, List.length_cons, List.length_nil, Option.bind_some, Option.bind_none, Option.map_some, Option.map_none, if_true, if_false, ite_true, ite_false, Bool.false_eq_true, reduceIte, reduceCtorEq, fld_people hc, iscrowd_ok hb hn, bits_ok (mb12 hb hn), clrbits_ok hc hl]
theorem checkclear_ok {b : Nat} {h : Hs} (hc : BkC c) (hn : n ≤ 12) (hb : b < 2 ^ n) (hl : Ls.length ≤ sizeLine) (cb : clr Ls b = true) : callP 2 f_check_clear [bk c n Ls, ctA b] h = .ok .non h := by
  refine callP_ok (h' := []) ?_ rfl (noC2 noC_bk (noC_tupA _)) rfl
  unfold f_check_clear m_check_clear
  simp only [bodyM, sSeq, sIf, sThen, sSet, sRet, sRetN, sNext, sExpr, sPutIx, sAsg, sPar, sAug, sExc, mAnd, mOr, mNot, mIf, mT, mB, mAndV, mOrV, mNotV, m2, m1, mN, mNL, mV, mC, mLst, mTup, mLs, mLC, mLstC, newC, mSl, oNo, oYes, mChain, mChain, mCall, aNil, aCons, M.bnd, M.ret, M.bad, rd, gN, gT, gSeq, mF, frzA, mLM, mLM0, mItS, mItL, mItT, mEnum, mRng1, mRng2, List.map_cons, List.map_nil, List.replicate, List.cons_append, List.nil_append, List.getElem?_cons_zero, List.getElem?_cons_succ, List.set_cons_zero, List.set_cons_succ, List.length_cons, List.length_nil, Option.bind_some, Option.bind_none, Option.map_some, Option.map_none, if_true, if_false, ite_true, ite_false, Bool.false_eq_true, reduceIte, reduceCtorEq, fld_people hc, checkcrowd_ok hn hb, isclear_P hc hn hb hl, cb, Bool.not_true]
theorem ranks_new : f_Ranks___init__ [.cell 0, bk c n Ls] [.ins "Ranks" []] = .ok .non (st c n Ls []) := by
  unfold f_Ranks___init__ m_Ranks___init__
  simp only [bodyM, sSeq, sIf, sThen, sSet, sRet, sRetN, sNext, sExpr, sPutIx, sAsg, sPar, sAug, sExc, mAnd, mOr, mNot, mIf, mT, mB, mAndV, mOrV, mNotV, m2, m1, mN, mNL, mV, mC, mLst, mTup, mLs, mLC, mLstC, newC, mSl, oNo, oYes, mChain, mChain, mCall, aNil, aCons, M.bnd, M.ret, M.bad, rd, gN, gT, gSeq, mF, frzA, mLM, mLM0, mItS, mItL, mItT, mEnum, mRng1, mRng2, List.map_cons, List.map_nil, List.replicate, List.cons_append, List.nil_append, List.getElem?_cons_zero, List.getElem?_cons_succ, List.set_cons_zero, List.set_cons_succ, List.length_cons, List.length_nil, Option.bind_some, Option.bind_none, Option.map_some, Option.map_none, if_true, if_false, ite_true, ite_false, Bool.false_eq_true, reduceIte, reduceCtorEq, sFldS, mDC, mD0, newD]
  rfl
theorem ins_st {bs : List Nat} : insOf (st c n Ls bs) (.cell 0) = some (("Ranks" : Str), ([("book", bk c n Ls), ("known", .cell 1)] : List (Str × AV))) := rfl
theorem look_rank {x y : AV} : List.lookup ("rank" : Str) ([("book", x), ("known", y)] : List (Str × AV)) = none := rfl
theorem rankof_ok {b : Nat} {h : Hs} (hc : BkC c) (hn : n ≤ 12) (hb : b < 2 ^ n) (hl : Ls.length ≤ sizeLine) (cb : clr Ls b = true) : callP 2 f_rank_of [bk c n Ls, ctA b] h = .ok (.int (rk n Ls b)) h := by
  obtain ⟨bs, e, _⟩ := rank_ok hc hn hl 16 b [] hb (by omega) (Bs.nil n)
  refine callP_ok (h' := st c n Ls bs) ?_ rfl (noC2 noC_bk (noC_tupA _)) rfl
  unfold f_rank_of m_rank_of
  simp only [bodyM, sSeq, sIf, sThen, sSet, sRet, sRetN, sNext, sExpr, sPutIx, sAsg, sPar, sAug, sExc, mAnd, mOr, mNot, mIf, mT, mB, mAndV, mOrV, mNotV, m2, m1, mN, mNL, mV, mC, mLst, mTup, mLs, mLC, mLstC, newC, mSl, oNo, oYes, mChain, mChain, mCall, aNil, aCons, M.bnd, M.ret, M.bad, rd, gN, gT, gSeq, mF, frzA, mLM, mLM0, mItS, mItL, mItT, mEnum, mRng1, mRng2, List.map_cons, List.map_nil, List.replicate, List.cons_append, List.nil_append, List.getElem?_cons_zero, List.getElem?_cons_succ, List.set_cons_zero, List.set_cons_succ, List.length_cons, List.length_nil, Option.bind_some, Option.bind_none, Option.map_some, Option.map_none, if_true, if_false, ite_true, ite_false, Bool.false_eq_true, reduceIte, reduceCtorEq, checkclear_ok hc hn hb hl cb, mMakeL, ranks_new, mMeth, ins_st, look_rank, bits_ok (mb12 hb hn), callS, and_self, e]
theorem adders_ok {h : Hs} (hc : BkC c) (hn : n ≤ 12) (hl : Ls.length ≤ sizeLine) : callP 1 f_adders_win [bk c n Ls] h = .ok (.bl (!decide ((rk n Ls 0 : Nat) = (0 : Int)))) h := by
  obtain ⟨bs, e, _⟩ := rank_ok (n := n) hc hn hl 16 0 [] (Nat.pow_pos (by decide)) (by omega) (Bs.nil n)
  have e' : f_Ranks_rank 16 [.cell 0, .int 0] (st c n Ls []) = .ok (.int (rk n Ls 0)) (st c n Ls bs) := e
  refine callP_ok (h' := st c n Ls bs) ?_ rfl (noC1 noC_bk) rfl
  unfold f_adders_win m_adders_win
  simp only [bodyM, sSeq, sIf, sThen, sSet, sRet, sRetN, sNext, sExpr, sPutIx, sAsg, sPar, sAug, sExc, mAnd, mOr, mNot, mIf, mT, mB, mAndV, mOrV, mNotV, m2, m1, mN, mNL, mV, mC, mLst, mTup, mLs, mLC, mLstC, newC, mSl, oNo, oYes, mChain, mChain, mCall, aNil, aCons, M.bnd, M.ret, M.bad, rd, gN, gT, gSeq, mF, frzA, mLM, mLM0, mItS, mItL, mItT, mEnum, mRng1, mRng2, List.map_cons, List.map_nil, List.replicate, List.cons_append, List.nil_append, List.getElem?_cons_zero, List.getElem?_cons_succ, List.set_cons_zero, List.set_cons_succ, List.length_cons, List.length_nil, Option.bind_some, Option.bind_none, Option.map_some, Option.map_none, if_true, if_false, ite_true, ite_false, Bool.false_eq_true, reduceIte, reduceCtorEq, mMakeL, ranks_new, mMeth, ins_st, look_rank, callS, and_self, e', neA_int]
end LW

set_option Elab.async false
set_option linter.all false
set_option maxRecDepth 100000
set_option maxHeartbeats 2000000
namespace LW
open PySem L2 Sim MB
local instance tabN24 : TabT := ⟨[]⟩
variable {c : Str} {n : Nat} {Ls : List Nat}
def goodL (n : Nat) (Ls : List Nat) (b : Nat) : List Nat := (addsL n Ls b).filter fun p => decide (rk n Ls (b ||| 2 ^ p) = 0)
theorem goodadds_ok {b : Nat} {h : Hs} (hc : BkC c) (hn : n ≤ 12) (hb : b < 2 ^ n) (hl : Ls.length ≤ sizeLine) (cb : clr Ls b = true) : callP 2 f_good_adds [bk c n Ls, ctA b] h = .ok (.tup ((goodL n Ls b).map fun p : Nat => AV.int p)) h := by
  have ll : (addsL n Ls b).length ≤ sizeLine := Nat.le_trans (List.length_filter_le _ _) (by rw [List.length_range]; exact Nat.le_trans hn (by decide))
  obtain ⟨h1, q1, bs1, rfl, B1⟩ := mLc_st (vs := [4]) (mi := mItS (mCall (callP 2 f_adds_from) (aCons (mV 0) (aCons (mV 3) aNil)))) (g := gN 4) (t := mT (m2 eqA (mMeth "Ranks" "rank" (callS 2 (f_Ranks_rank 16)) (mV 2) (aCons (m2 orA (mV 3) (m2 shlA (mC (.int 1)) (mV 4))) aNil)) (mC (.int 0)))) (e := mV 4) (env := [some (bk c n Ls), some (ctA b), some (.cell 0), some (.int b), none]) (h := st c n Ls []) (h1 := st c n Ls []) (xs := addsL n Ls b) (fun h => ∃ bs', h = st c n Ls bs' ∧ Bs n bs') (fun p : Nat => AV.int p) (fun p => decide (rk n Ls (b ||| 2 ^ p) = 0)) (fun p : Nat => AV.int p)
    (by simp only [bodyM, sSeq, sIf, sThen, sSet, sRet, sRetN, sNext, sExpr, sPutIx, sAsg, sPar, sAug, sExc, mAnd, mOr, mNot, mIf, mT, mB, mAndV, mOrV, mNotV, m2, m1, mN, mNL, mV, mC, mLst, mTup, mLs, mLC, mLstC, newC, mSl, oNo, oYes, mChain, mChain, mCall, aNil, aCons, M.bnd, M.ret, M.bad, rd, gN, gT, gSeq, mF, frzA, mLM, mLM0, mItS, mItL, mItT, mEnum, mRng1, mRng2, List.map_cons, List.map_nil, List.replicate, List.cons_append, List.nil_append, List.getElem?_cons_zero, List.getElem?_cons_succ, List.set_cons_zero, List.set_cons_succ, List.length_cons, List.length_nil, Option.bind_some, Option.bind_none, Option.map_some, Option.map_none, if_true, if_false, ite_true, ite_false, Bool.false_eq_true, reduceIte, reduceCtorEq, adds_ok hc hn hb hl]) ll (fun p hp h hI => by
      obtain ⟨bs2, rfl, B2⟩ := hI
      obtain ⟨p1, p2, p3⟩ := mem_addsL.mp hp
      obtain ⟨bs3, q3, B3⟩ := rank_ok hc hn hl 16 (b ||| 2 ^ p) bs2 (or_lt hb p1) (by omega) B2
      refine ⟨_, st c n Ls bs3, st c n Ls bs3, rfl, ?_, ⟨bs3, rfl, B3⟩, fun _ => ⟨?_, bs3, rfl, B3⟩⟩
      · have p19 : p < 2 ^ 19 := Nat.lt_of_lt_of_le (by omega : p < 12) (by decide)
        have ed : eqA (st c n Ls bs3) (.int (rk n Ls (b ||| 2 ^ p) : Nat)) (.int 0) = some (.bl (decide (rk n Ls (b ||| 2 ^ p) = 0))) := by
          rw [eqA_int]
          congr 2
          exact decide_eq_decide.mpr (by omega)
        simp only [wipeE, bodyM, sSeq, sIf, sThen, sSet, sRet, sRetN, sNext, sExpr, sPutIx, sAsg, sPar, sAug, sExc, mAnd, mOr, mNot, mIf, mT, mB, mAndV, mOrV, mNotV, m2, m1, mN, mNL, mV, mC, mLst, mTup, mLs, mLC, mLstC, newC, mSl, oNo, oYes, mChain, mChain, mCall, aNil, aCons, M.bnd, M.ret, M.bad, rd, gN, gT, gSeq, mF, frzA, mLM, mLM0, mItS, mItL, mItT, mEnum, mRng1, mRng2, List.map_cons, List.map_nil, List.replicate, List.cons_append, List.nil_append, List.getElem?_cons_zero, List.getElem?_cons_succ, List.set_cons_zero, List.set_cons_succ, List.length_cons, List.length_nil, Option.bind_some, Option.bind_none, Option.map_some, Option.map_none, if_true, if_false, ite_true, ite_false, Bool.false_eq_true, reduceIte, reduceCtorEq, mMeth, ins_st, look_rank, shlA_one p19, orA_nat, callS, q3, and_self, ed]
      · simp only [wipeE, bodyM, sSeq, sIf, sThen, sSet, sRet, sRetN, sNext, sExpr, sPutIx, sAsg, sPar, sAug, sExc, mAnd, mOr, mNot, mIf, mT, mB, mAndV, mOrV, mNotV, m2, m1, mN, mNL, mV, mC, mLst, mTup, mLs, mLC, mLstC, newC, mSl, oNo, oYes, mChain, mChain, mCall, aNil, aCons, M.bnd, M.ret, M.bad, rd, gN, gT, gSeq, mF, frzA, mLM, mLM0, mItS, mItL, mItT, mEnum, mRng1, mRng2, List.map_cons, List.map_nil, List.replicate, List.cons_append, List.nil_append, List.getElem?_cons_zero, List.getElem?_cons_succ, List.set_cons_zero, List.set_cons_succ, List.length_cons, List.length_nil, Option.bind_some, Option.bind_none, Option.map_some, Option.map_none, if_true, if_false, ite_true, ite_false, Bool.false_eq_true, reduceIte, reduceCtorEq]) ⟨[], rfl, Bs.nil n⟩
  have q2 : K_good_adds_0 [some (bk c n Ls), some (ctA b), some (.cell 0), some (.int b), none] (st c n Ls []) = .ok ((goodL n Ls b).map fun p : Nat => AV.int p) (st c n Ls bs1) := q1
  refine callP_ok (h' := st c n Ls bs1) ?_ rfl (noC2 noC_bk (noC_tupA _)) ?_
  · unfold f_good_adds m_good_adds
    simp only [bodyM, sSeq, sIf, sThen, sSet, sRet, sRetN, sNext, sExpr, sPutIx, sAsg, sPar, sAug, sExc, mAnd, mOr, mNot, mIf, mT, mB, mAndV, mOrV, mNotV, m2, m1, mN, mNL, mV, mC, mLst, mTup, mLs, mLC, mLstC, newC, mSl, oNo, oYes, mChain, mChain, mCall, aNil, aCons, M.bnd, M.ret, M.bad, rd, gN, gT, gSeq, mF, frzA, mLM, mLM0, mItS, mItL, mItT, mEnum, mRng1, mRng2, List.map_cons, List.map_nil, List.replicate, List.cons_append, List.nil_append, List.getElem?_cons_zero, List.getElem?_cons_succ, List.set_cons_zero, List.set_cons_succ, List.length_cons, List.length_nil, Option.bind_some, Option.bind_none, Option.map_some, Option.map_none, if_true, if_false, ite_true, ite_false, Bool.false_eq_true, reduceIte, reduceCtorEq, checkclear_ok hc hn hb hl cb, mMakeL, ranks_new, bits_ok (mb12 hb hn), sm2, q2, tupleA_lst]
  · show noCs _ = true
    exact noCs_map (fun _ => rfl) _
end LW

set_option Elab.async false
set_option linter.all false
set_option maxRecDepth 100000
set_option maxHeartbeats 2000000
namespace LW
open PySem L2 Sim MB
local instance tabN25 : TabT := ⟨[]⟩
variable {c : Str} {n : Nat} {Ls : List Nat}
theorem notInA_tupA {h : Hs} {p : Int} {d : List Int} : notInA h (.int p) (tupA d) = some (.bl (!d.contains p)) := by
  have e := inA_tup (h := h) (p := p) (d := d)
  unfold inA at e
  unfold notInA
  cases e2 : inB h (.int p) (tupA d) with
  | none => rw [e2] at e; cases e
  | some b => rw [e2] at e; cases e; rfl
theorem cr_or {b p : Nat} (h : b.testBit p = false) : isort ltI (cr b ++ [(p : Int)]) = cr (b ||| 2 ^ p) := by
  have e1 : (bitsL b ++ [p]).Perm (bitsL (b ||| 2 ^ p)) := by
    refine perm_of (List.nodup_append.mpr ⟨nodup_bitsL b, by simp, fun x hx y hy => ?_⟩) (nodup_bitsL _) fun x => ?_
    · rw [List.mem_singleton.mp hy]
      intro z
      rw [z, mem_bitsL, h] at hx
      cases hx
    · rw [List.mem_append, mem_bitsL, mem_bitsL, or_bit, Bool.or_eq_true, decide_eq_true_iff, List.mem_singleton]
      exact ⟨fun q => q.imp id fun z => z.symm, fun q => q.imp id fun z => z.symm⟩
  have e2 : (cr b ++ [(p : Int)]).Perm (cr (b ||| 2 ^ p)) := by
    have := e1.map fun i : Nat => (i : Int)
    rw [List.map_append] at this
    exact this
  exact sd_unique intTot ((isort_perm _).trans e2) (isort_sd intTot _) ((MB.cr_sorted _).imp fun h => decide_eq_false (by omega))
theorem sortTA_or {h : Hs} {b p : Nat} (hb : b.testBit p = false) : sortTA h [.tup ((cr b).map AV.int ++ [.int p])] = some ((cr (b ||| 2 ^ p)).map AV.int) := by
  have e : (cr b).map AV.int ++ [.int p] = (cr b ++ [(p : Int)]).map AV.int := by rw [List.map_append]; rfl
  rw [e]
  show (ints? ((cr b ++ [(p : Int)]).map AV.int)).map (fun ns => (isort ltI ns).map AV.int) = _
  rw [ints_map, Option.map_some, cr_or hb]
def nextL (n : Nat) (Ls : List Nat) (b j : Nat) : List Nat := (List.range j).filter fun p => !b.testBit p && clr Ls (b ||| 2 ^ p)
theorem nextL_succ {b j : Nat} : nextL n Ls b (j + 1) = nextL n Ls b j ++ if (!b.testBit j && clr Ls (b ||| 2 ^ j)) = true then [j] else [] := by
  unfold nextL
  rw [List.range_succ, List.filter_append]
  congr 1
  cases h : (!b.testBit j && clr Ls (b ||| 2 ^ j)) <;> simp [List.filter, h]
theorem next_ok {b : Nat} {h : Hs} (hc : BkC c) (hn : n ≤ 12) (hb : b < 2 ^ n) (hL : ∀ m ∈ Ls, m < 2 ^ n) (hl : Ls.length ≤ sizeLine) : callP 2 f__law_next [bk c n Ls, ctA b] h = .ok (.lst ((addsL n Ls b).map fun p => ctA (b ||| 2 ^ p))) h := by
  obtain ⟨e2, h2, q1, a3, a4, rfl, rfl⟩ := sForL_all (g := gN 3) (b := B__law_next_0) (fun j env h => ∃ a3 a4, env = [some (bk c n Ls), some (ctA b), some (.cell 0), a3, a4] ∧ h = [.lst ((nextL n Ls b j).map fun p => ctA (b ||| 2 ^ p))]) (xs := rngL 0 n) (env := [some (bk c n Ls), some (ctA b), some (.cell 0), none, none]) (h := [.lst []]) (fun j x env h e hI => by
    obtain ⟨a3, a4, rfl, rfl⟩ := hI
    obtain ⟨rfl, hj⟩ := rngL_get e
    have j12 : j < n := by omega
    have zj : (0 : Int) + (j : Int) = (j : Int) := by omega
    have ni : notInA [.lst ((nextL n Ls b j).map fun p => ctA (b ||| 2 ^ p))] (.int j) (ctA b) = some (.bl (!b.testBit j)) := by
      unfold ctA
      rw [notInA_tupA, cr_contains]
    have lj : (nextL n Ls b j).length ≤ 12 := Nat.le_trans (List.length_filter_le _ _) (by rw [List.length_range]; omega)
    have l1 : (nextL n Ls b j).length + 1 ≤ sizeLine := Nat.le_trans (by omega : _ ≤ 13) (by decide)
    have l0 : (nextL n Ls b j).length ≤ sizeLine := by omega
    cases ht : b.testBit j with
    | true =>
      refine ⟨_, rfl, [some (bk c n Ls), some (ctA b), some (.cell 0), some (.int j), a4], _, .inl ?_, _, _, rfl, rfl⟩
      have e3 : nextL n Ls b (j + 1) = nextL n Ls b j := by rw [nextL_succ, ht]; simp
      rw [e3]
      unfold B__law_next_0
      rw [ht] at ni
      simp only [bodyM, sSeq, sIf, sThen, sSet, sRet, sRetN, sNext, sExpr, sPutIx, sAsg, sPar, sAug, sExc, mAnd, mOr, mNot, mIf, mT, mB, mAndV, mOrV, mNotV, m2, m1, mN, mNL, mV, mC, mLst, mTup, mLs, mLC, mLstC, newC, mSl, oNo, oYes, mChain, mChain, mCall, aNil, aCons, M.bnd, M.ret, M.bad, rd, gN, gT, gSeq, mF, frzA, mLM, mLM0, mItS, mItL, mItT, mEnum, mRng1, mRng2, List.map_cons, List.map_nil, List.replicate, List.cons_append, List.nil_append, List.getElem?_cons_zero, List.getElem?_cons_succ, List.set_cons_zero, List.set_cons_succ, List.length_cons, List.length_nil, Option.bind_some, Option.bind_none, Option.map_some, Option.map_none, if_true, if_false, ite_true, ite_false, Bool.false_eq_true, reduceIte, reduceCtorEq, zj, ni, Bool.not_true]
    | false =>
      rw [ht] at ni
      have ad : ∀ h, addA h (ctA b) (.tup [.int j]) = some (.tup ((cr b).map AV.int ++ [.int j])) := fun h => addA_tup (by rw [List.length_append, List.length_map]; exact Nat.le_trans (Nat.add_le_add_right (cr_len_n (n := 12) (mb12 hb hn)) 1) (by decide))
      have ob : b ||| 2 ^ j < 2 ^ n := or_lt hb j12
      have ic : ∀ h, callP 2 f__law_is_clear [bk c n Ls, .tup ((cr (b ||| 2 ^ j)).map AV.int)] h = .ok (.bl (clr Ls (b ||| 2 ^ j))) h := fun h => isclear_ok hc hn hL hl
      cases hk : clr Ls (b ||| 2 ^ j) with
      | true =>
        have e3 : nextL n Ls b (j + 1) = nextL n Ls b j ++ [j] := by rw [nextL_succ, ht, hk]; rfl
        refine ⟨_, rfl, [some (bk c n Ls), some (ctA b), some (.cell 0), some (.int j), some (ctA (b ||| 2 ^ j))], _, .inl ?_, _, _, rfl, rfl⟩
        rw [e3, List.map_append]
        unfold B__law_next_0
        rw [hk] at ic
        simp only [bodyM, sSeq, sIf, sThen, sSet, sRet, sRetN, sNext, sExpr, sPutIx, sAsg, sPar, sAug, sExc, mAnd, mOr, mNot, mIf, mT, mB, mAndV, mOrV, mNotV, m2, m1, mN, mNL, mV, mC, mLst, mTup, mLs, mLC, mLstC, newC, mSl, oNo, oYes, mChain, mChain, mCall, aNil, aCons, M.bnd, M.ret, M.bad, rd, gN, gT, gSeq, mF, frzA, mLM, mLM0, mItS, mItL, mItT, mEnum, mRng1, mRng2, List.map_cons, List.map_nil, List.replicate, List.cons_append, List.nil_append, List.getElem?_cons_zero, List.getElem?_cons_succ, List.set_cons_zero, List.set_cons_succ, List.length_cons, List.length_nil, Option.bind_some, Option.bind_none, Option.map_some, Option.map_none, if_true, if_false, ite_true, ite_false, Bool.false_eq_true, reduceIte, reduceCtorEq, zj, ni, Bool.not_false, sm1, ad, sortTA_or ht, tupleA_lst, ic, chkL, updL, extendA, lstOf, der, List.length_map, l1]
        rfl
      | false =>
        have e3 : nextL n Ls b (j + 1) = nextL n Ls b j := by rw [nextL_succ, ht, hk]; simp
        refine ⟨_, rfl, [some (bk c n Ls), some (ctA b), some (.cell 0), some (.int j), some (ctA (b ||| 2 ^ j))], _, .inl ?_, _, _, rfl, rfl⟩
        rw [e3]
        unfold B__law_next_0
        rw [hk] at ic
        simp only [bodyM, sSeq, sIf, sThen, sSet, sRet, sRetN, sNext, sExpr, sPutIx, sAsg, sPar, sAug, sExc, mAnd, mOr, mNot, mIf, mT, mB, mAndV, mOrV, mNotV, m2, m1, mN, mNL, mV, mC, mLst, mTup, mLs, mLC, mLstC, newC, mSl, oNo, oYes, mChain, mChain, mCall, aNil, aCons, M.bnd, M.ret, M.bad, rd, gN, gT, gSeq, mF, frzA, mLM, mLM0, mItS, mItL, mItT, mEnum, mRng1, mRng2, List.map_cons, List.map_nil, List.replicate, List.cons_append, List.nil_append, List.getElem?_cons_zero, List.getElem?_cons_succ, List.set_cons_zero, List.set_cons_succ, List.length_cons, List.length_nil, Option.bind_some, Option.bind_none, Option.map_some, Option.map_none, if_true, if_false, ite_true, ite_false, Bool.false_eq_true, reduceIte, reduceCtorEq, zj, ni, Bool.not_false, sm1, sm0, ad, sortTA_or ht, tupleA_lst, ic, chkL, updL, extendA, lstOf, der, List.length_map, l0, List.append_nil, Nat.add_zero]
        rfl) ⟨none, none, rfl, rfl⟩
  have nn : (rngL 0 (n : Int)).length = n := by rw [rngL_len]; omega
  have lp : L__law_next_1 [some (bk c n Ls), some (ctA b), some (.cell 0), none, none] [.lst []] = .nx [some (bk c n Ls), some (ctA b), some (.cell 0), a3, a4] [.lst ((addsL n Ls b).map fun p => ctA (b ||| 2 ^ p))] := by
    have rg : mRng1 (m1 (fldA ["Book", "RawBook"] "people") (mV 0)) [some (bk c n Ls), some (ctA b), some (.cell 0), none, none] [.lst []] = .ok (rngL 0 n) [.lst []] := rng1 (by simp only [bodyM, sSeq, sIf, sThen, sSet, sRet, sRetN, sNext, sExpr, sPutIx, sAsg, sPar, sAug, sExc, mAnd, mOr, mNot, mIf, mT, mB, mAndV, mOrV, mNotV, m2, m1, mN, mNL, mV, mC, mLst, mTup, mLs, mLC, mLstC, newC, mSl, oNo, oYes, mChain, mChain, mCall, aNil, aCons, M.bnd, M.ret, M.bad, rd, gN, gT, gSeq, mF, frzA, mLM, mLM0, mItS, mItL, mItT, mEnum, mRng1, mRng2, List.map_cons, List.map_nil, List.replicate, List.cons_append, List.nil_append, List.getElem?_cons_zero, List.getElem?_cons_succ, List.set_cons_zero, List.set_cons_succ, List.length_cons, List.length_nil, Option.bind_some, Option.bind_none, Option.map_some, Option.map_none, if_true, if_false, ite_true, ite_false, Bool.false_eq_true, reduceIte, reduceCtorEq, fld_people hc]) (by omega) (by omega)
    rw [nn] at q1
    unfold L__law_next_1 sFor sThen
    rw [rg]
    exact q1
  refine callP_ok (h' := [.frz (.lst ((addsL n Ls b).map fun p => ctA (b ||| 2 ^ p)))]) ?_ rfl (noC2 noC_bk (noC_tupA _)) ?_
  · unfold f__law_next m__law_next
    simp only [bodyM, sSeq, sIf, sThen, sSet, sRet, sRetN, sNext, sExpr, sPutIx, sAsg, sPar, sAug, sExc, mAnd, mOr, mNot, mIf, mT, mB, mAndV, mOrV, mNotV, m2, m1, mN, mNL, mV, mC, mLst, mTup, mLs, mLC, mLstC, newC, mSl, oNo, oYes, mChain, mChain, mCall, aNil, aCons, M.bnd, M.ret, M.bad, rd, gN, gT, gSeq, mF, frzA, mLM, mLM0, mItS, mItL, mItT, mEnum, mRng1, mRng2, List.map_cons, List.map_nil, List.replicate, List.cons_append, List.nil_append, List.getElem?_cons_zero, List.getElem?_cons_succ, List.set_cons_zero, List.set_cons_succ, List.length_cons, List.length_nil, Option.bind_some, Option.bind_none, Option.map_some, Option.map_none, if_true, if_false, ite_true, ite_false, Bool.false_eq_true, reduceIte, reduceCtorEq, sm0, lp]
  · show noCs _ = true
    exact noCs_map (fun _ => noC_tupA _) _
end LW

set_option Elab.async false
set_option linter.all false
set_option maxRecDepth 100000
set_option maxHeartbeats 2000000
namespace LW
open PySem L2 Sim MB
local instance tabN26 : TabT := ⟨[]⟩
def kc (b : Nat) : List Key := (cr b).map fun i => (Sum.inl i : Key)
theorem kc_kA (b : Nat) : (kc b).map kA = (cr b).map AV.int := by unfold kc; rw [List.map_map]; rfl
theorem keyT_ct (b : Nat) : keyT? (ctA b) = some (kc b) := by
  show keysOf ((cr b).map AV.int) = _
  rw [← kc_kA, keysOf_map]
theorem kc_inj {a b : Nat} (h : kc a = kc b) : a = b := by
  refine cr_inj ?_
  have := congrArg (List.map fun k : Key => match k with | .inl i => i | .inr _ => 0) h
  unfold kc at this
  rw [List.map_map, List.map_map] at this
  have e : ((fun k : Key => match k with | .inl i => i | .inr _ => 0) ∘ fun i : Int => (Sum.inl i : Key)) = id := rfl
  rw [e, List.map_id, List.map_id] at this
  exact this
variable {c : Str} {n : Nat} {Ls : List Nat}
def s2 (h : Hs) (i : Nat) (v : Nat → AV) (bs : List Nat) : Hs := h.set i (.dct (avT (tab kc v bs)))
theorem kcj : ∀ a b, kc a = kc b → a = b := fun _ _ h => kc_inj h
theorem look_tup {l : List (List Key × AV)} {b : Nat} : lookDA (avT l) (ctA b) = some (valG l (kc b)) := by
  unfold lookDA
  rw [show keyA? (ctA b) = none from rfl]
  show (keyT? (ctA b)).bind (fun kk => (unT (avT l)).map fun l => valG l kk) = _
  rw [keyT_ct, Option.bind_some, unT_av]
  rfl
theorem put_tup {l : List (List Key × AV)} {b : Nat} {x : AV} (hl : l.length < sizeLine) : putDA (avT l) (ctA b) x = some (avT (putG l (kc b) x)) := by
  unfold putDA
  rw [show keyA? (ctA b) = none from rfl]
  show (keyT? (ctA b)).bind (fun kk => (unT (avT l)).bind fun l => if l.length < sizeLine then some (avT (putG l kk x)) else none) = _
  rw [keyT_ct, Option.bind_some, unT_av, Option.bind_some, if_pos hl]
theorem s2_at {h : Hs} {i : Nat} {v : Nat → AV} {bs : List Nat} (hi : i < h.length) : (s2 h i v bs)[i]? = some (.dct (avT (tab kc v bs))) := List.getElem?_set_self hi
theorem s2_dct {h : Hs} {i : Nat} {v : Nat → AV} {bs : List Nat} (hi : i < h.length) : dctOf (s2 h i v bs) (.cell i) = some (avT (tab kc v bs)) := by
  show (match (s2 h i v bs)[i]? with | some (.dct kvs) => some kvs | _ => none) = _
  rw [s2_at hi]
theorem s2_not {h : Hs} {i : Nat} {v : Nat → AV} {bs : List Nat} {b : Nat} (hi : i < h.length) : hasNotDA (s2 h i v bs) (ctA b) (.cell i) = some (.bl (!decide (b ∈ bs))) := by
  unfold hasNotDA
  rw [s2_dct hi, Option.bind_some, look_tup, tab_val kc v kcj]
  by_cases h : b ∈ bs <;> simp [h]
theorem s2_ix {h : Hs} {i : Nat} {v : Nat → AV} {bs : List Nat} {b : Nat} (hi : i < h.length) (hb : b ∈ bs) : ixDA (s2 h i v bs) (.cell i) (ctA b) = some (v b) := by
  unfold ixDA
  rw [s2_dct hi, Option.bind_some, look_tup, tab_val kc v kcj, if_pos hb]
  rfl
theorem s2_put {h : Hs} {i : Nat} {v : Nat → AV} {bs : List Nat} {b : Nat} (hi : i < h.length) (hl : bs.length < sizeLine) : putD (.cell i) (ctA b) (v b) (s2 h i v bs) = some (s2 h i v (if b ∈ bs then bs else bs ++ [b])) := by
  unfold putD
  dsimp only
  rw [s2_at hi]
  show (putDA (avT (tab kc v bs)) (ctA b) (v b)).map (fun l => (s2 h i v bs).set i (.dct l)) = _
  rw [put_tup (by unfold tab; rw [List.length_map]; exact hl), tab_put kc v kcj b bs]
  show some ((h.set i _).set i _) = _
  rw [List.set_set]
  rfl
theorem lawrank_ok {h : Hs} {i : Nat} (hi : i < h.length) (hc : BkC c) (hn : n ≤ 12) (hL : ∀ m ∈ Ls, m < 2 ^ n) (hl : Ls.length ≤ sizeLine) : ∀ (k b : Nat) (bs : List Nat), b < 2 ^ n → n < k + pc b → Bs n bs → ∃ bs', f__law_rank k [bk c n Ls, ctA b, .cell i] (s2 h i (vI n Ls) bs) = .ok (.int (rk n Ls b)) (s2 h i (vI n Ls) bs') ∧ Bs n bs'
  | 0, b, bs, hb, hk, _ => by have := pcle hb; omega
  | k + 1, b, bs, hb, hk, B => by
    show ∃ bs', bodyM 3 (m__law_rank (f__law_rank k)) [bk c n Ls, ctA b, .cell i] (s2 h i (vI n Ls) bs) = _ ∧ _
    have vr : ∀ x, vI n Ls x = .int (rk n Ls x) := fun _ => rfl
    by_cases hm : b ∈ bs
    · refine ⟨bs, ?_, B⟩
      unfold m__law_rank
      simp only [bodyM, sSeq, sIf, sThen, sSet, sRet, sRetN, sNext, sExpr, sPutIx, sAsg, sPar, sAug, sExc, mAnd, mOr, mNot, mIf, mT, mB, mAndV, mOrV, mNotV, m2, m1, mN, mNL, mV, mC, mLst, mTup, mLs, mLC, mLstC, newC, mSl, oNo, oYes, mChain, mChain, mCall, aNil, aCons, M.bnd, M.ret, M.bad, rd, gN, gT, gSeq, mF, frzA, mLM, mLM0, mItS, mItL, mItT, mEnum, mRng1, mRng2, List.map_cons, List.map_nil, List.replicate, List.cons_append, List.nil_append, List.getElem?_cons_zero, List.getElem?_cons_succ, List.set_cons_zero, List.set_cons_succ, List.length_cons, List.length_nil, Option.bind_some, Option.bind_none, Option.map_some, Option.map_none, if_true, if_false, ite_true, ite_false, Bool.false_eq_true, reduceIte, reduceCtorEq, s2_not hi, hm, decide_true, Bool.not_true, s2_ix hi hm, vr]
    · have ll : (addsL n Ls b).length ≤ sizeLine := Nat.le_trans (List.length_filter_le _ _) (by rw [List.length_range]; exact Nat.le_trans hn (by decide))
      obtain ⟨h1, q1, bs1, rfl, B1⟩ := mLc_st (vs := [5]) (mi := mItS (mCall (callP 2 f__law_next) (aCons (mV 0) (aCons (mV 1) aNil)))) (g := gN 5) (t := mYes) (e := mCall (callS 3 (f__law_rank k)) (aCons (mV 0) (aCons (mV 5) (aCons (mV 2) aNil)))) (env := [some (bk c n Ls), some (ctA b), some (.cell i), none, none, none]) (h := s2 h i (vI n Ls) bs) (h1 := s2 h i (vI n Ls) bs) (xs := addsL n Ls b) (fun h' => ∃ bs', h' = s2 h i (vI n Ls) bs' ∧ Bs n bs') (fun p => ctA (b ||| 2 ^ p)) (fun _ => true) (fun p => .int (rk n Ls (b ||| 2 ^ p)))
        (by simp only [bodyM, sSeq, sIf, sThen, sSet, sRet, sRetN, sNext, sExpr, sPutIx, sAsg, sPar, sAug, sExc, mAnd, mOr, mNot, mIf, mT, mB, mAndV, mOrV, mNotV, m2, m1, mN, mNL, mV, mC, mLst, mTup, mLs, mLC, mLstC, newC, mSl, oNo, oYes, mChain, mChain, mCall, aNil, aCons, M.bnd, M.ret, M.bad, rd, gN, gT, gSeq, mF, frzA, mLM, mLM0, mItS, mItL, mItT, mEnum, mRng1, mRng2, List.map_cons, List.map_nil, List.replicate, List.cons_append, List.nil_append, List.getElem?_cons_zero, List.getElem?_cons_succ, List.set_cons_zero, List.set_cons_succ, List.length_cons, List.length_nil, Option.bind_some, Option.bind_none, Option.map_some, Option.map_none, if_true, if_false, ite_true, ite_false, Bool.false_eq_true, reduceIte, reduceCtorEq, next_ok hc hn hb hL hl]) ll (fun p hp h' hI => by
          obtain ⟨bs2, rfl, B2⟩ := hI
          obtain ⟨p1, p2, p3⟩ := mem_addsL.mp hp
          obtain ⟨bs3, q3, B3⟩ := lawrank_ok hi hc hn hL hl k (b ||| 2 ^ p) bs2 (or_lt hb p1) (by rw [pc_or p2]; omega) B2
          refine ⟨_, s2 h i (vI n Ls) bs2, s2 h i (vI n Ls) bs3, rfl, rfl, ⟨bs2, rfl, B2⟩, fun _ => ⟨?_, bs3, rfl, B3⟩⟩
          simp only [wipeE, bodyM, sSeq, sIf, sThen, sSet, sRet, sRetN, sNext, sExpr, sPutIx, sAsg, sPar, sAug, sExc, mAnd, mOr, mNot, mIf, mT, mB, mAndV, mOrV, mNotV, m2, m1, mN, mNL, mV, mC, mLst, mTup, mLs, mLC, mLstC, newC, mSl, oNo, oYes, mChain, mChain, mCall, aNil, aCons, M.bnd, M.ret, M.bad, rd, gN, gT, gSeq, mF, frzA, mLM, mLM0, mItS, mItL, mItT, mEnum, mRng1, mRng2, List.map_cons, List.map_nil, List.replicate, List.cons_append, List.nil_append, List.getElem?_cons_zero, List.getElem?_cons_succ, List.set_cons_zero, List.set_cons_succ, List.length_cons, List.length_nil, Option.bind_some, Option.bind_none, Option.map_some, Option.map_none, if_true, if_false, ite_true, ite_false, Bool.false_eq_true, reduceIte, reduceCtorEq, callS, q3]) ⟨bs, rfl, B⟩
      have q1' : K__law_rank_0 (f__law_rank k) [some (bk c n Ls), some (ctA b), some (.cell i), none, none, none] (s2 h i (vI n Ls) bs) = .ok (((addsL n Ls b).map fun p => rk n Ls (b ||| 2 ^ p)).map fun x : Nat => AV.int x) (s2 h i (vI n Ls) bs1) := by
        rw [List.map_map]
        rw [List.filter_eq_self.mpr fun _ _ => rfl] at q1
        exact q1
      have me := rk_eq (Ls := Ls) hb
      generalize hX : ((addsL n Ls b).map fun p => rk n Ls (b ||| 2 ^ p)) = X at q1' me
      have mle : mex X ≤ 4096 := by
        rw [← me]; exact Nat.le_trans (rk_le hb) (by omega)
      obtain ⟨e2, h2, w1, rfl, rfl⟩ := sWhile_inv (t := mT (m2 inA (mV 4) (mV 3))) (b := B__law_rank_1 (f__law_rank k)) (fun m env h' => h' = s2 h i (vI n Ls) bs1 ∧ ∃ r : Nat, env = [some (bk c n Ls), some (ctA b), some (.cell i), some (.lst (X.map fun x : Nat => AV.int x)), some (.int r), none] ∧ r ≤ mex X ∧ m = mex X - r) (fun env h' => h' = s2 h i (vI n Ls) bs1 ∧ env = [some (bk c n Ls), some (ctA b), some (.cell i), some (.lst (X.map fun x : Nat => AV.int x)), some (.int (mex X : Nat)), none]) (fun m env h' hI => by
        obtain ⟨rfl, r, rfl, hr, rfl⟩ := hI
        by_cases hx : r = mex X
        · subst hx
          refine .inl ⟨_, ?_, rfl, rfl⟩
          have : X.contains (mex X) = false := Bool.eq_false_iff.mpr fun q => mex_not X (List.contains_iff_mem.mp q)
          simp only [bodyM, sSeq, sIf, sThen, sSet, sRet, sRetN, sNext, sExpr, sPutIx, sAsg, sPar, sAug, sExc, mAnd, mOr, mNot, mIf, mT, mB, mAndV, mOrV, mNotV, m2, m1, mN, mNL, mV, mC, mLst, mTup, mLs, mLC, mLstC, newC, mSl, oNo, oYes, mChain, mChain, mCall, aNil, aCons, M.bnd, M.ret, M.bad, rd, gN, gT, gSeq, mF, frzA, mLM, mLM0, mItS, mItL, mItT, mEnum, mRng1, mRng2, List.map_cons, List.map_nil, List.replicate, List.cons_append, List.nil_append, List.getElem?_cons_zero, List.getElem?_cons_succ, List.set_cons_zero, List.set_cons_succ, List.length_cons, List.length_nil, Option.bind_some, Option.bind_none, Option.map_some, Option.map_none, if_true, if_false, ite_true, ite_false, Bool.false_eq_true, reduceIte, reduceCtorEq, inA_mex, this]
        · refine .inr ⟨s2 h i (vI n Ls) bs1, ?_, [some (bk c n Ls), some (ctA b), some (.cell i), some (.lst (X.map fun x : Nat => AV.int x)), some (.int ((r + 1 : Nat) : Int)), none], s2 h i (vI n Ls) bs1, mex X - (r + 1), .inl ?_, ⟨rfl, r + 1, rfl, by omega, rfl⟩, by omega⟩
          · have : X.contains r = true := List.contains_iff_mem.mpr (mex_all X r (by omega))
            simp only [bodyM, sSeq, sIf, sThen, sSet, sRet, sRetN, sNext, sExpr, sPutIx, sAsg, sPar, sAug, sExc, mAnd, mOr, mNot, mIf, mT, mB, mAndV, mOrV, mNotV, m2, m1, mN, mNL, mV, mC, mLst, mTup, mLs, mLC, mLstC, newC, mSl, oNo, oYes, mChain, mChain, mCall, aNil, aCons, M.bnd, M.ret, M.bad, rd, gN, gT, gSeq, mF, frzA, mLM, mLM0, mItS, mItL, mItT, mEnum, mRng1, mRng2, List.map_cons, List.map_nil, List.replicate, List.cons_append, List.nil_append, List.getElem?_cons_zero, List.getElem?_cons_succ, List.set_cons_zero, List.set_cons_succ, List.length_cons, List.length_nil, Option.bind_some, Option.bind_none, Option.map_some, Option.map_none, if_true, if_false, ite_true, ite_false, Bool.false_eq_true, reduceIte, reduceCtorEq, inA_mex, this]
          · unfold B__law_rank_1
            simp only [bodyM, sSeq, sIf, sThen, sSet, sRet, sRetN, sNext, sExpr, sPutIx, sAsg, sPar, sAug, sExc, mAnd, mOr, mNot, mIf, mT, mB, mAndV, mOrV, mNotV, m2, m1, mN, mNL, mV, mC, mLst, mTup, mLs, mLC, mLstC, newC, mSl, oNo, oYes, mChain, mChain, mCall, aNil, aCons, M.bnd, M.ret, M.bad, rd, gN, gT, gSeq, mF, frzA, mLM, mLM0, mItS, mItL, mItT, mEnum, mRng1, mRng2, List.map_cons, List.map_nil, List.replicate, List.cons_append, List.nil_append, List.getElem?_cons_zero, List.getElem?_cons_succ, List.set_cons_zero, List.set_cons_succ, List.length_cons, List.length_nil, Option.bind_some, Option.bind_none, Option.map_some, Option.map_none, if_true, if_false, ite_true, ite_false, Bool.false_eq_true, reduceIte, reduceCtorEq, addA_int]
            rfl) fuel (mex X) [some (bk c n Ls), some (ctA b), some (.cell i), some (.lst (X.map fun x : Nat => AV.int x)), some (.int (0 : Nat)), none] (s2 h i (vI n Ls) bs1) ⟨rfl, 0, rfl, Nat.zero_le _, rfl⟩ (Nat.lt_of_le_of_lt mle (by decide))
      have lp : L__law_rank_2 (f__law_rank k) [some (bk c n Ls), some (ctA b), some (.cell i), some (.lst (X.map fun x : Nat => AV.int x)), some (.int 0), none] (s2 h i (vI n Ls) bs1) = .nx [some (bk c n Ls), some (ctA b), some (.cell i), some (.lst (X.map fun x : Nat => AV.int x)), some (.int (rk n Ls b : Nat)), none] (s2 h i (vI n Ls) bs1) := by rw [me]; exact w1
      have e3 := s2_put (v := vI n Ls) (b := b) hi (B1.len hn)
      rw [vr] at e3
      have m3 : b ∈ (if b ∈ bs1 then bs1 else bs1 ++ [b]) := by split <;> simp [*]
      have e4 := s2_ix (v := vI n Ls) hi m3
      rw [vr] at e4
      refine ⟨_, ?_, B1.put hb⟩
      unfold m__law_rank
      simp only [bodyM, sSeq, sIf, sThen, sSet, sRet, sRetN, sNext, sExpr, sPutIx, sAsg, sPar, sAug, sExc, mAnd, mOr, mNot, mIf, mT, mB, mAndV, mOrV, mNotV, m2, m1, mN, mNL, mV, mC, mLst, mTup, mLs, mLC, mLstC, newC, mSl, oNo, oYes, mChain, mChain, mCall, aNil, aCons, M.bnd, M.ret, M.bad, rd, gN, gT, gSeq, mF, frzA, mLM, mLM0, mItS, mItL, mItT, mEnum, mRng1, mRng2, List.map_cons, List.map_nil, List.replicate, List.cons_append, List.nil_append, List.getElem?_cons_zero, List.getElem?_cons_succ, List.set_cons_zero, List.set_cons_succ, List.length_cons, List.length_nil, Option.bind_some, Option.bind_none, Option.map_some, Option.map_none, if_true, if_false, ite_true, ite_false, Bool.false_eq_true, reduceIte, reduceCtorEq, s2_not hi, hm, decide_false, Bool.not_false, q1', setAll, lp, sPutD, e3, e4]
end LW

set_option Elab.async false
set_option linter.all false
set_option maxRecDepth 100000
set_option maxHeartbeats 2000000
namespace LW
open PySem L2 Sim MB
local instance tabN27 : TabT := ⟨[]⟩
variable {c : Str} {n : Nat} {Ls : List Nat}
/-- he who is to move wins -/
def vW (n : Nat) (Ls : List Nat) (b : Nat) : AV := .bl (!decide (rk n Ls b = 0))
theorem wins_eq {b : Nat} (hb : b < 2 ^ n) : ((addsL n Ls b).map fun p => decide (rk n Ls (b ||| 2 ^ p) = 0)).any id = !decide (rk n Ls b = 0) := by
  rw [Bool.eq_iff_iff, List.any_map, List.any_eq_true, Bool.not_eq_true', decide_eq_false_iff_not]
  have me := rk_eq (Ls := Ls) hb
  constructor
  · rintro ⟨p, hp, h0⟩ hz
    have h0' : rk n Ls (b ||| 2 ^ p) = 0 := of_decide_eq_true h0
    have := mex_not ((addsL n Ls b).map fun p => rk n Ls (b ||| 2 ^ p))
    rw [← me, hz] at this
    exact this (List.mem_map.mpr ⟨p, hp, h0'⟩)
  · intro h
    have := mex_all ((addsL n Ls b).map fun p => rk n Ls (b ||| 2 ^ p)) 0 (by rw [← me]; omega)
    obtain ⟨p, hp, h0⟩ := List.mem_map.mp this
    exact ⟨p, hp, decide_eq_true h0⟩
theorem lawwins_ok {h : Hs} {i : Nat} (hi : i < h.length) (hc : BkC c) (hn : n ≤ 12) (hL : ∀ m ∈ Ls, m < 2 ^ n) (hl : Ls.length ≤ sizeLine) : ∀ (k b : Nat) (bs : List Nat), b < 2 ^ n → n < k + pc b → Bs n bs → ∃ bs', f__law_wins k [bk c n Ls, ctA b, .cell i] (s2 h i (vW n Ls) bs) = .ok (.bl (!decide (rk n Ls b = 0))) (s2 h i (vW n Ls) bs') ∧ Bs n bs'
  | 0, b, bs, hb, hk, _ => by have := pcle hb; omega
  | k + 1, b, bs, hb, hk, B => by
    show ∃ bs', bodyM 1 (m__law_wins (f__law_wins k)) [bk c n Ls, ctA b, .cell i] (s2 h i (vW n Ls) bs) = _ ∧ _
    have vr : ∀ x, vW n Ls x = .bl (!decide (rk n Ls x = 0)) := fun _ => rfl
    by_cases hm : b ∈ bs
    · refine ⟨bs, ?_, B⟩
      unfold m__law_wins
      simp only [bodyM, sSeq, sIf, sThen, sSet, sRet, sRetN, sNext, sExpr, sPutIx, sAsg, sPar, sAug, sExc, mAnd, mOr, mNot, mIf, mT, mB, mAndV, mOrV, mNotV, m2, m1, mN, mNL, mV, mC, mLst, mTup, mLs, mLC, mLstC, newC, mSl, oNo, oYes, mChain, mChain, mCall, aNil, aCons, M.bnd, M.ret, M.bad, rd, gN, gT, gSeq, mF, frzA, mLM, mLM0, mItS, mItL, mItT, mEnum, mRng1, mRng2, List.map_cons, List.map_nil, List.replicate, List.cons_append, List.nil_append, List.getElem?_cons_zero, List.getElem?_cons_succ, List.set_cons_zero, List.set_cons_succ, List.length_cons, List.length_nil, Option.bind_some, Option.bind_none, Option.map_some, Option.map_none, if_true, if_false, ite_true, ite_false, Bool.false_eq_true, reduceIte, reduceCtorEq, s2_not hi, hm, decide_true, Bool.not_true, s2_ix hi hm, vr]
    · have ll : (addsL n Ls b).length ≤ sizeLine := Nat.le_trans (List.length_filter_le _ _) (by rw [List.length_range]; exact Nat.le_trans hn (by decide))
      obtain ⟨h1, q1, bs1, rfl, B1⟩ := mLc_st (vs := [3]) (mi := mItS (mCall (callP 2 f__law_next) (aCons (mV 0) (aCons (mV 1) aNil)))) (g := gN 3) (t := mYes) (e := mNotV (mCall (callS 3 (f__law_wins k)) (aCons (mV 0) (aCons (mV 3) (aCons (mV 2) aNil))))) (env := [some (bk c n Ls), some (ctA b), some (.cell i), none]) (h := s2 h i (vW n Ls) bs) (h1 := s2 h i (vW n Ls) bs) (xs := addsL n Ls b) (fun h' => ∃ bs', h' = s2 h i (vW n Ls) bs' ∧ Bs n bs') (fun p => ctA (b ||| 2 ^ p)) (fun _ => true) (fun p => .bl (decide (rk n Ls (b ||| 2 ^ p) = 0)))
        (by simp only [bodyM, sSeq, sIf, sThen, sSet, sRet, sRetN, sNext, sExpr, sPutIx, sAsg, sPar, sAug, sExc, mAnd, mOr, mNot, mIf, mT, mB, mAndV, mOrV, mNotV, m2, m1, mN, mNL, mV, mC, mLst, mTup, mLs, mLC, mLstC, newC, mSl, oNo, oYes, mChain, mChain, mCall, aNil, aCons, M.bnd, M.ret, M.bad, rd, gN, gT, gSeq, mF, frzA, mLM, mLM0, mItS, mItL, mItT, mEnum, mRng1, mRng2, List.map_cons, List.map_nil, List.replicate, List.cons_append, List.nil_append, List.getElem?_cons_zero, List.getElem?_cons_succ, List.set_cons_zero, List.set_cons_succ, List.length_cons, List.length_nil, Option.bind_some, Option.bind_none, Option.map_some, Option.map_none, if_true, if_false, ite_true, ite_false, Bool.false_eq_true, reduceIte, reduceCtorEq, next_ok hc hn hb hL hl]) ll (fun p hp h' hI => by
          obtain ⟨bs2, rfl, B2⟩ := hI
          obtain ⟨p1, p2, p3⟩ := mem_addsL.mp hp
          obtain ⟨bs3, q3, B3⟩ := lawwins_ok hi hc hn hL hl k (b ||| 2 ^ p) bs2 (or_lt hb p1) (by rw [pc_or p2]; omega) B2
          refine ⟨_, s2 h i (vW n Ls) bs2, s2 h i (vW n Ls) bs3, rfl, rfl, ⟨bs2, rfl, B2⟩, fun _ => ⟨?_, bs3, rfl, B3⟩⟩
          simp only [wipeE, bodyM, sSeq, sIf, sThen, sSet, sRet, sRetN, sNext, sExpr, sPutIx, sAsg, sPar, sAug, sExc, mAnd, mOr, mNot, mIf, mT, mB, mAndV, mOrV, mNotV, m2, m1, mN, mNL, mV, mC, mLst, mTup, mLs, mLC, mLstC, newC, mSl, oNo, oYes, mChain, mChain, mCall, aNil, aCons, M.bnd, M.ret, M.bad, rd, gN, gT, gSeq, mF, frzA, mLM, mLM0, mItS, mItL, mItT, mEnum, mRng1, mRng2, List.map_cons, List.map_nil, List.replicate, List.cons_append, List.nil_append, List.getElem?_cons_zero, List.getElem?_cons_succ, List.set_cons_zero, List.set_cons_succ, List.length_cons, List.length_nil, Option.bind_some, Option.bind_none, Option.map_some, Option.map_none, if_true, if_false, ite_true, ite_false, Bool.false_eq_true, reduceIte, reduceCtorEq, callS, q3, Bool.not_not]) ⟨bs, rfl, B⟩
      have q1' : K__law_wins_0 (f__law_wins k) [some (bk c n Ls), some (ctA b), some (.cell i), none] (s2 h i (vW n Ls) bs) = .ok (((addsL n Ls b).map fun p => decide (rk n Ls (b ||| 2 ^ p) = 0)).map AV.bl) (s2 h i (vW n Ls) bs1) := by
        rw [List.map_map]
        rw [List.filter_eq_self.mpr fun _ _ => rfl] at q1
        exact q1
      have e3 := s2_put (v := vW n Ls) (b := b) hi (B1.len hn)
      rw [vr] at e3
      have m3 : b ∈ (if b ∈ bs1 then bs1 else bs1 ++ [b]) := by split <;> simp [*]
      have e4 := s2_ix (v := vW n Ls) hi m3
      rw [vr] at e4
      refine ⟨_, ?_, B1.put hb⟩
      unfold m__law_wins
      simp only [bodyM, sSeq, sIf, sThen, sSet, sRet, sRetN, sNext, sExpr, sPutIx, sAsg, sPar, sAug, sExc, mAnd, mOr, mNot, mIf, mT, mB, mAndV, mOrV, mNotV, m2, m1, mN, mNL, mV, mC, mLst, mTup, mLs, mLC, mLstC, newC, mSl, oNo, oYes, mChain, mChain, mCall, aNil, aCons, M.bnd, M.ret, M.bad, rd, gN, gT, gSeq, mF, frzA, mLM, mLM0, mItS, mItL, mItT, mEnum, mRng1, mRng2, List.map_cons, List.map_nil, List.replicate, List.cons_append, List.nil_append, List.getElem?_cons_zero, List.getElem?_cons_succ, List.set_cons_zero, List.set_cons_succ, List.length_cons, List.length_nil, Option.bind_some, Option.bind_none, Option.map_some, Option.map_none, if_true, if_false, ite_true, ite_false, Bool.false_eq_true, reduceIte, reduceCtorEq, s2_not hi, hm, decide_false, Bool.not_false, q1', anyA_bls, wins_eq hb, sPutD, e3, e4]
end LW

set_option Elab.async false
set_option linter.all false
set_option maxRecDepth 100000
set_option maxHeartbeats 2000000
namespace LW
open PySem L2 Sim MB
local instance tabN28 : TabT := ⟨[]⟩
def xsum (xs : List Nat) : Nat := xs.foldl (· ^^^ ·) 0
def intL (xs : List Nat) : List AV := xs.map fun x : Nat => AV.int x
theorem listed_ok {x : AV} {L : List AV} {h : Hs} (hx : x = .lst L ∨ x = .tup L) (hn : noCs L = true) : callP 1 f_is_listed [x] h = .ok (.bl true) h := by
  rcases hx with rfl | rfl
  · exact callP_ok (h' := []) rfl rfl (noC1 hn) rfl
  · exact callP_ok (h' := []) rfl rfl (noC1 hn) rfl
theorem xsum_ok {x : AV} {xs : List Nat} {h : Hs} (hx : x = .lst (intL xs) ∨ x = .tup (intL xs)) (hl : xs.length ≤ 60) (hb : ∀ y ∈ xs, y < 4096) : callP 1 f_sum_of_ranks [x] h = .ok (.int (xsum xs : Nat)) h := by
  have nc : noCs (intL xs) = true := noCs_map (fun _ => rfl) _
  have nx : noC x = true := by rcases hx with rfl | rfl <;> exact nc
  refine callP_ok (h' := []) ?_ rfl (noC1 nx) rfl
  have sl : xs.length ≤ sizeLine := Nat.le_trans hl (by decide)
  have sq : ∀ a1 a2, mItS (mV 0) [some x, a1, a2] [] = .ok (intL xs) [] := fun a1 a2 => by rcases hx with rfl | rfl <;> rfl
  have e1 : K_sum_of_ranks_0 [some x, none, none] [] = .ok ((xs.map fun _ => true).map AV.bl) [] := by
    unfold K_sum_of_ranks_0
    rw [List.map_map]
    refine mLc_jm (xs := xs) (h' := []) (fun y : Nat => AV.int y) (fun _ => AV.bl true) (sq _ _) sl fun y hy => ⟨_, rfl, ?_⟩
    have := hb y hy
    have w : (decide ((0 : Int) ≤ y) && decide ((y : Int) ≤ 4095)) = true := by rw [Bool.and_eq_true, decide_eq_true_iff, decide_eq_true_iff]; omega
    simp only [wipeE, bodyM, sSeq, sIf, sThen, sSet, sRet, sRetN, sNext, sExpr, sPutIx, sAsg, sPar, sAug, sExc, mAnd, mOr, mNot, mIf, mT, mB, mAndV, mOrV, mNotV, m2, m1, mN, mNL, mV, mC, mLst, mTup, mLs, mLC, mLstC, newC, mSl, oNo, oYes, mChain, mChain, mCall, aNil, aCons, M.bnd, M.ret, M.bad, rd, gN, gT, gSeq, mF, frzA, mLM, mLM0, mItS, mItL, mItT, mEnum, mRng1, mRng2, List.map_cons, List.map_nil, List.replicate, List.cons_append, List.nil_append, List.getElem?_cons_zero, List.getElem?_cons_succ, List.set_cons_zero, List.set_cons_succ, List.length_cons, List.length_nil, Option.bind_some, Option.bind_none, Option.map_some, Option.map_none, if_true, if_false, ite_true, ite_false, Bool.false_eq_true, reduceIte, reduceCtorEq, within_P, w]
  have e2 : ((xs.map fun _ => true).all id) = true := by rw [List.all_map, List.all_eq_true]; intro _ _; rfl
  have ln : lenA [] [x] = some (.int (xs.length : Nat)) := by rcases hx with rfl | rfl <;> (unfold intL; first | rw [lenA_lst, List.length_map] | rw [lenA_tup, List.length_map])
  have g : ¬ ((60 : Int) < (xs.length : Int)) := by omega
  obtain ⟨ev, h2, q1, a1, rfl, rfl⟩ := sForL_all (g := gN 1) (b := B_sum_of_ranks_1) (fun j env h => ∃ a1, env = [some x, a1, some (.int (xsum (xs.take j) : Nat))] ∧ h = []) (xs := intL xs) (env := [some x, none, some (.int (0 : Nat))]) (h := []) (fun j y env h e hI => by
    obtain ⟨a1, rfl, rfl⟩ := hI
    have e' : (xs.map fun x : Nat => AV.int x)[j]? = some y := e
    rw [List.getElem?_map] at e'
    cases hj : xs[j]? with
    | none => rw [hj] at e'; cases e'
    | some z =>
      rw [hj] at e'
      cases e'
      have tk : xs.take (j + 1) = xs.take j ++ [z] := by rw [List.take_succ, hj]; rfl
      have fx : xsum (xs.take (j + 1)) = xsum (xs.take j) ^^^ z := by unfold xsum; rw [tk, List.foldl_append]; rfl
      refine ⟨_, rfl, [some x, some (.int z), some (.int (xsum (xs.take (j + 1)) : Nat))], [], .inl ?_, _, rfl, rfl⟩
      rw [fx]
      unfold B_sum_of_ranks_1
      simp only [bodyM, sSeq, sIf, sThen, sSet, sRet, sRetN, sNext, sExpr, sPutIx, sAsg, sPar, sAug, sExc, mAnd, mOr, mNot, mIf, mT, mB, mAndV, mOrV, mNotV, m2, m1, mN, mNL, mV, mC, mLst, mTup, mLs, mLC, mLstC, newC, mSl, oNo, oYes, mChain, mChain, mCall, aNil, aCons, M.bnd, M.ret, M.bad, rd, gN, gT, gSeq, mF, frzA, mLM, mLM0, mItS, mItL, mItT, mEnum, mRng1, mRng2, List.map_cons, List.map_nil, List.replicate, List.cons_append, List.nil_append, List.getElem?_cons_zero, List.getElem?_cons_succ, List.set_cons_zero, List.set_cons_succ, List.length_cons, List.length_nil, Option.bind_some, Option.bind_none, Option.map_some, Option.map_none, if_true, if_false, ite_true, ite_false, Bool.false_eq_true, reduceIte, reduceCtorEq, xorA_nat]) ⟨none, rfl, rfl⟩
  have lp : L_sum_of_ranks_2 [some x, none, some (.int 0)] [] = .nx [some x, a1, some (.int (xsum xs : Nat))] [] := by
    have il : (intL xs).length = xs.length := List.length_map _
    rw [il, List.take_length] at q1
    unfold L_sum_of_ranks_2 sFor sThen
    rw [sq]
    exact q1
  have li : ∀ h, callP 1 f_is_listed [x] h = .ok (.bl true) h := fun h => listed_ok hx nc
  unfold f_sum_of_ranks m_sum_of_ranks
  simp only [bodyM, sSeq, sIf, sThen, sSet, sRet, sRetN, sNext, sExpr, sPutIx, sAsg, sPar, sAug, sExc, mAnd, mOr, mNot, mIf, mT, mB, mAndV, mOrV, mNotV, m2, m1, mN, mNL, mV, mC, mLst, mTup, mLs, mLC, mLstC, newC, mSl, oNo, oYes, mChain, mChain, mCall, aNil, aCons, M.bnd, M.ret, M.bad, rd, gN, gT, gSeq, mF, frzA, mLM, mLM0, mItS, mItL, mItT, mEnum, mRng1, mRng2, List.map_cons, List.map_nil, List.replicate, List.cons_append, List.nil_append, List.getElem?_cons_zero, List.getElem?_cons_succ, List.set_cons_zero, List.set_cons_succ, List.length_cons, List.length_nil, Option.bind_some, Option.bind_none, Option.map_some, Option.map_none, if_true, if_false, ite_true, ite_false, Bool.false_eq_true, reduceIte, reduceCtorEq, li, Bool.not_true, ln, gtA_int, g, decide_false, e1, allA_bls, e2, lp]
end LW

set_option Elab.async false
set_option linter.all false
set_option maxRecDepth 100000
set_option maxHeartbeats 2000000
namespace LW
open PySem L2 Sim MB
local instance tabN29 : TabT := ⟨[]⟩
/-! the sum in twos by the law's own digits -/
theorem odd_succ (l : Nat) : decide ((l + 1) % 2 = 1) = !decide (l % 2 = 1) := by
  rcases Nat.mod_two_eq_zero_or_one l with h | h
  · have : (l + 1) % 2 = 1 := by omega
    simp [h, this]
  · have : (l + 1) % 2 = 0 := by omega
    simp [h, this]
theorem par (j : Nat) : ∀ (xs : List Nat) (a : Nat), (xs.foldl (· ^^^ ·) a).testBit j = (a.testBit j ^^ decide ((xs.filter fun x => x.testBit j).length % 2 = 1))
  | [], a => by simp
  | x :: xs, a => by
    rw [List.foldl_cons, par j xs, Nat.testBit_xor]
    cases hx : x.testBit j with
    | true =>
      have e : (List.filter (fun x => x.testBit j) (x :: xs)) = x :: List.filter (fun x => x.testBit j) xs := by simp [List.filter_cons, hx]
      rw [e, List.length_cons, odd_succ]; cases a.testBit j <;> simp
    | false =>
      have e : (List.filter (fun x => x.testBit j) (x :: xs)) = List.filter (fun x => x.testBit j) xs := by simp [List.filter_cons, hx]
      rw [e]; simp
theorem par0 (j : Nat) (xs : List Nat) : xsum xs / 2 ^ j % 2 = (xs.filter fun x => x.testBit j).length % 2 := by
  have h := par j xs 0
  rw [Nat.zero_testBit, Bool.false_xor, Nat.testBit_eq_decide_div_mod_eq] at h
  have h2 : xsum xs / 2 ^ j % 2 = 1 ↔ (xs.filter fun x => x.testBit j).length % 2 = 1 := decide_eq_decide.mp h
  rcases Nat.mod_two_eq_zero_or_one (xsum xs / 2 ^ j) with q | q
  · rcases Nat.mod_two_eq_zero_or_one (xs.filter fun x => x.testBit j).length with r | r
    · rw [q, r]
    · have := h2.mpr r; omega
  · rw [q, h2.mp q]
theorem fold_lt : ∀ (xs : List Nat) (a : Nat), a < 4096 → (∀ y ∈ xs, y < 4096) → xs.foldl (· ^^^ ·) a < 4096
  | [], a, ha, _ => ha
  | x :: xs, a, ha, h => by
    rw [List.foldl_cons]
    exact fold_lt xs _ (Nat.xor_lt_two_pow (n := 12) ha (h x List.mem_cons_self)) fun y hy => h y (List.mem_cons_of_mem _ hy)
theorem xsum_lt {xs : List Nat} (h : ∀ y ∈ xs, y < 4096) : xsum xs < 4096 := fold_lt xs 0 (by decide) h
theorem xsum_twice (xs : List Nat) : xsum (xs ++ xs) = 0 := by
  have key : ∀ (xs : List Nat) (a : Nat), xs.foldl (· ^^^ ·) a = a ^^^ xsum xs := by
    intro xs
    induction xs with
    | nil => intro a; show a = a ^^^ 0; simp
    | cons x xs ih =>
      intro a
      unfold xsum
      rw [List.foldl_cons, List.foldl_cons, ih, ih (0 ^^^ x), Nat.zero_xor, Nat.xor_assoc]
  unfold xsum
  rw [List.foldl_append, key xs (List.foldl _ 0 xs)]
  exact Nat.xor_self _
theorem twos_ok {xs : List Nat} {h : Hs} (hl : xs.length ≤ 60) (hb : ∀ y ∈ xs, y < 4096) : callP 1 f__law_twos [.lst (intL xs)] h = .ok (.int (xsum xs : Nat)) h := by
  have nc : noCs (intL xs) = true := noCs_map (fun _ => rfl) _
  refine callP_ok (h' := []) ?_ rfl (noC1 nc) rfl
  have sl : xs.length ≤ sizeLine := Nat.le_trans hl (by decide)
  obtain ⟨ev, h2, q1, a3, a4, rfl, rfl⟩ := sForL_all (g := gN 3) (b := B__law_twos_1) (fun j env h => ∃ a3 a4, env = [some (.lst (intL xs)), some (.int (xsum xs % 2 ^ j : Nat)), some (.int ((2 ^ j : Nat) : Int)), a3, a4, none] ∧ h = []) (xs := rngL 0 12) (env := [some (.lst (intL xs)), some (.int (xsum xs % 2 ^ 0 : Nat)), some (.int ((2 ^ 0 : Nat) : Int)), none, none, none]) (h := []) (fun j y env h e hI => by
    obtain ⟨a3, a4, rfl, rfl⟩ := hI
    obtain ⟨rfl, hj⟩ := rngL_get e
    have j12 : j < 12 := by omega
    have pj : 0 < 2 ^ j := Nat.pow_pos (by decide)
    have pj2 : 2 ^ j ≤ 2 ^ 12 := Nat.pow_le_pow_right (by decide) (by omega)
    have d1 : (0 : Int) < ((2 ^ j : Nat) : Int) := by omega
    have d2 : ((2 ^ j : Nat) : Int) < 1073741824 := by omega
    have d3 : -(2 ^ 64) < ((2 ^ j : Nat) : Int) ∧ ((2 ^ j : Nat) : Int) < 2 ^ 64 := by constructor <;> omega
    have e0 : K__law_twos_0 [some (.lst (intL xs)), some (.int (xsum xs % 2 ^ j : Nat)), some (.int ((2 ^ j : Nat) : Int)), some (.int (0 + (j : Int))), a4, none] [] = .ok ((xs.filter fun x => x.testBit j).map fun x : Nat => AV.int x) [] := by
      unfold K__law_twos_0
      refine mLc_jf (xs := xs) (h' := []) (fun y : Nat => AV.int y) (fun x => x.testBit j) (fun x : Nat => AV.int x) rfl sl fun y hy => ⟨_, rfl, ?_, fun _ => rfl⟩
      have z : (decide ((y : Int) / ((2 ^ j : Nat) : Int) % 2 = 1)) = y.testBit j := by
        rw [Nat.testBit_eq_decide_div_mod_eq]
        refine decide_eq_decide.mpr ?_
        have : (y : Int) / ((2 ^ j : Nat) : Int) % 2 = ((y / 2 ^ j % 2 : Nat) : Int) := rfl
        rw [this]
        omega
      simp only [wipeE, bodyM, sSeq, sIf, sThen, sSet, sRet, sRetN, sNext, sExpr, sPutIx, sAsg, sPar, sAug, sExc, mAnd, mOr, mNot, mIf, mT, mB, mAndV, mOrV, mNotV, m2, m1, mN, mNL, mV, mC, mLst, mTup, mLs, mLC, mLstC, newC, mSl, oNo, oYes, mChain, mChain, mCall, aNil, aCons, M.bnd, M.ret, M.bad, rd, gN, gT, gSeq, mF, frzA, mLM, mLM0, mItS, mItL, mItT, mEnum, mRng1, mRng2, List.map_cons, List.map_nil, List.replicate, List.cons_append, List.nil_append, List.getElem?_cons_zero, List.getElem?_cons_succ, List.set_cons_zero, List.set_cons_succ, List.length_cons, List.length_nil, Option.bind_some, Option.bind_none, Option.map_some, Option.map_none, if_true, if_false, ite_true, ite_false, Bool.false_eq_true, reduceIte, reduceCtorEq, fdivA_int d1 d2, intA_int, modA_int (by decide : (0 : Int) < 2), eqA_int, z]
    refine ⟨_, rfl, [some (.lst (intL xs)), some (.int (xsum xs % 2 ^ (j + 1) : Nat)), some (.int ((2 ^ (j + 1) : Nat) : Int)), some (.int (0 + (j : Int))), some (.int ((xs.filter fun x => x.testBit j).length : Nat)), none], [], .inl ?_, _, _, rfl, rfl⟩
    have c1 : ((2 ^ (j + 1) : Nat) : Int) = ((2 ^ j : Nat) : Int) * 2 := by rw [Nat.pow_succ]; rfl
    have c2 : ((xsum xs % 2 ^ (j + 1) : Nat) : Int) = ((xsum xs % 2 ^ j : Nat) : Int) + ((2 ^ j : Nat) : Int) * (((xs.filter fun x => x.testBit j).length : Nat) % 2) := by
      rw [Nat.mod_pow_succ, par0]; rfl
    rw [c1, c2]
    unfold B__law_twos_1
    simp only [bodyM, sSeq, sIf, sThen, sSet, sRet, sRetN, sNext, sExpr, sPutIx, sAsg, sPar, sAug, sExc, mAnd, mOr, mNot, mIf, mT, mB, mAndV, mOrV, mNotV, m2, m1, mN, mNL, mV, mC, mLst, mTup, mLs, mLC, mLstC, newC, mSl, oNo, oYes, mChain, mChain, mCall, aNil, aCons, M.bnd, M.ret, M.bad, rd, gN, gT, gSeq, mF, frzA, mLM, mLM0, mItS, mItL, mItT, mEnum, mRng1, mRng2, List.map_cons, List.map_nil, List.replicate, List.cons_append, List.nil_append, List.getElem?_cons_zero, List.getElem?_cons_succ, List.set_cons_zero, List.set_cons_succ, List.length_cons, List.length_nil, Option.bind_some, Option.bind_none, Option.map_some, Option.map_none, if_true, if_false, ite_true, ite_false, Bool.false_eq_true, reduceIte, reduceCtorEq, e0, lenA_lst, List.length_map, intA_int, modA_int (by decide : (0 : Int) < 2), mulA_l d3, addA_int, sm2]) ⟨none, none, rfl, rfl⟩
  have lp : L__law_twos_2 [some (.lst (intL xs)), some (.int 0), some (.int 1), none, none, none] [] = .nx [some (.lst (intL xs)), some (.int (xsum xs : Nat)), some (.int 4096), a3, a4, none] [] := by
    have rg : mRng1 (mC (.int 12)) [some (.lst (intL xs)), some (.int 0), some (.int 1), none, none, none] [] = .ok (rngL 0 12) [] := rng1 rfl (by decide) (by decide)
    have z : xsum xs % 2 ^ (rngL 0 12).length = xsum xs := Nat.mod_eq_of_lt (xsum_lt hb)
    have z0 : xsum xs % 2 ^ 0 = 0 := Nat.mod_one _
    rw [z, z0] at q1
    unfold L__law_twos_2 sFor sThen
    rw [rg]
    exact q1
  unfold f__law_twos m__law_twos
  simp only [bodyM, sSeq, sIf, sThen, sSet, sRet, sRetN, sNext, sExpr, sPutIx, sAsg, sPar, sAug, sExc, mAnd, mOr, mNot, mIf, mT, mB, mAndV, mOrV, mNotV, m2, m1, mN, mNL, mV, mC, mLst, mTup, mLs, mLC, mLstC, newC, mSl, oNo, oYes, mChain, mChain, mCall, aNil, aCons, M.bnd, M.ret, M.bad, rd, gN, gT, gSeq, mF, frzA, mLM, mLM0, mItS, mItL, mItT, mEnum, mRng1, mRng2, List.map_cons, List.map_nil, List.replicate, List.cons_append, List.nil_append, List.getElem?_cons_zero, List.getElem?_cons_succ, List.set_cons_zero, List.set_cons_succ, List.length_cons, List.length_nil, Option.bind_some, Option.bind_none, Option.map_some, Option.map_none, if_true, if_false, ite_true, ite_false, Bool.false_eq_true, reduceIte, reduceCtorEq, sm2, lp]
end LW

set_option Elab.async false
set_option linter.all false
set_option maxRecDepth 100000
set_option maxHeartbeats 2000000
namespace LW
open PySem L2 Sim MB
local instance tabN30 : TabT := ⟨[]⟩
/-! books beside one another -/
theorem shift_lt {n m k : Nat} (hm : m < 2 ^ k) : 2 ^ n * m < 2 ^ (n + k) := by
  rw [Nat.pow_add]
  exact Nat.mul_lt_mul_of_pos_left hm (Nat.pow_pos (by decide))
theorem shifted_ok {c : Str} {n k : Nat} {Ls : List Nat} {h : Hs} (hc : BkC c) (hn : n ≤ 12) (hL : ∀ m ∈ Ls, m < 2 ^ n) (hl : Ls.length ≤ sizeLine) : callP 2 f_shifted [bk c n Ls, .int k] h = .ok (.lst ((Ls.map (2 ^ k * ·)).map ctA)) h := by
  refine callP_ok (h' := []) ?_ rfl (noC2 noC_bk rfl) (noCs_ct _)
  have e1 : K_shifted_1 [some (bk c n Ls), some (.int k), none, none] [] = .ok ((Ls.map (2 ^ k * ·)).map ctA) [] := by
    unfold K_shifted_1
    rw [List.map_map]
    refine mLc_jm (xs := Ls) (h' := []) ctA (fun m => ctA (2 ^ k * m)) ?_ hl fun m hm => ⟨_, rfl, ?_⟩
    · simp only [bodyM, sSeq, sIf, sThen, sSet, sRet, sRetN, sNext, sExpr, sPutIx, sAsg, sPar, sAug, sExc, mAnd, mOr, mNot, mIf, mT, mB, mAndV, mOrV, mNotV, m2, m1, mN, mNL, mV, mC, mLst, mTup, mLs, mLC, mLstC, newC, mSl, oNo, oYes, mChain, mChain, mCall, aNil, aCons, M.bnd, M.ret, M.bad, rd, gN, gT, gSeq, mF, frzA, mLM, mLM0, mItS, mItL, mItT, mEnum, mRng1, mRng2, List.map_cons, List.map_nil, List.replicate, List.cons_append, List.nil_append, List.getElem?_cons_zero, List.getElem?_cons_succ, List.set_cons_zero, List.set_cons_succ, List.length_cons, List.length_nil, Option.bind_some, Option.bind_none, Option.map_some, Option.map_none, if_true, if_false, ite_true, ite_false, Bool.false_eq_true, reduceIte, reduceCtorEq, fld_lots hc]
    · have e0 : K_shifted_0 [some (bk c n Ls), some (.int k), some (ctA m), none] [] = .ok ((cr (2 ^ k * m)).map AV.int) [] := by
        unfold K_shifted_0
        rw [← cr_shift, List.map_map]
        refine mLc_jm (xs := cr m) (h' := []) AV.int (fun p => AV.int (p + k)) rfl (small_cr (mb12 (hL m hm) hn)) fun p hp => ⟨_, rfl, ?_⟩
        simp only [wipeE, bodyM, sSeq, sIf, sThen, sSet, sRet, sRetN, sNext, sExpr, sPutIx, sAsg, sPar, sAug, sExc, mAnd, mOr, mNot, mIf, mT, mB, mAndV, mOrV, mNotV, m2, m1, mN, mNL, mV, mC, mLst, mTup, mLs, mLC, mLstC, newC, mSl, oNo, oYes, mChain, mChain, mCall, aNil, aCons, M.bnd, M.ret, M.bad, rd, gN, gT, gSeq, mF, frzA, mLM, mLM0, mItS, mItL, mItT, mEnum, mRng1, mRng2, List.map_cons, List.map_nil, List.replicate, List.cons_append, List.nil_append, List.getElem?_cons_zero, List.getElem?_cons_succ, List.set_cons_zero, List.set_cons_succ, List.length_cons, List.length_nil, Option.bind_some, Option.bind_none, Option.map_some, Option.map_none, if_true, if_false, ite_true, ite_false, Bool.false_eq_true, reduceIte, reduceCtorEq, addA_int]
      simp only [wipeE, bodyM, sSeq, sIf, sThen, sSet, sRet, sRetN, sNext, sExpr, sPutIx, sAsg, sPar, sAug, sExc, mAnd, mOr, mNot, mIf, mT, mB, mAndV, mOrV, mNotV, m2, m1, mN, mNL, mV, mC, mLst, mTup, mLs, mLC, mLstC, newC, mSl, oNo, oYes, mChain, mChain, mCall, aNil, aCons, M.bnd, M.ret, M.bad, rd, gN, gT, gSeq, mF, frzA, mLM, mLM0, mItS, mItL, mItT, mEnum, mRng1, mRng2, List.map_cons, List.map_nil, List.replicate, List.cons_append, List.nil_append, List.getElem?_cons_zero, List.getElem?_cons_succ, List.set_cons_zero, List.set_cons_succ, List.length_cons, List.length_nil, Option.bind_some, Option.bind_none, Option.map_some, Option.map_none, if_true, if_false, ite_true, ite_false, Bool.false_eq_true, reduceIte, reduceCtorEq, e0, tupleA_lst]
      rfl
  unfold f_shifted m_shifted
  simp only [bodyM, sSeq, sIf, sThen, sSet, sRet, sRetN, sNext, sExpr, sPutIx, sAsg, sPar, sAug, sExc, mAnd, mOr, mNot, mIf, mT, mB, mAndV, mOrV, mNotV, m2, m1, mN, mNL, mV, mC, mLst, mTup, mLs, mLC, mLstC, newC, mSl, oNo, oYes, mChain, mChain, mCall, aNil, aCons, M.bnd, M.ret, M.bad, rd, gN, gT, gSeq, mF, frzA, mLM, mLM0, mItS, mItL, mItT, mEnum, mRng1, mRng2, List.map_cons, List.map_nil, List.replicate, List.cons_append, List.nil_append, List.getElem?_cons_zero, List.getElem?_cons_succ, List.set_cons_zero, List.set_cons_succ, List.length_cons, List.length_nil, Option.bind_some, Option.bind_none, Option.map_some, Option.map_none, if_true, if_false, ite_true, ite_false, Bool.false_eq_true, reduceIte, reduceCtorEq, e1]
theorem beside_ok {c1 c2 : Str} {n1 n2 : Nat} {A B : List Nat} (h1 : BkC c1) (h2 : BkC c2) (hn : n1 + n2 ≤ 12) (hA : ∀ m ∈ A, m < 2 ^ n1) (hB : ∀ m ∈ B, m < 2 ^ n2) (hl : A.length + B.length ≤ 60) :
    ∃ C, (∀ h, callP 2 f_beside [bk c1 n1 A, bk c2 n2 B] h = .ok (bk "RawBook" (n1 + n2) C) h) ∧ MadeOf (n1 + n2) (A ++ B.map (2 ^ n1 * ·)) C := by
  obtain ⟨C, q1, q2⟩ := made_ok (n := n1 + n2) (hs := A ++ B.map (2 ^ n1 * ·)) hn (fun m hm => by
    rcases List.mem_append.mp hm with hm | hm
    · exact Nat.lt_of_lt_of_le (hA m hm) (Nat.pow_le_pow_right (by decide) (by omega))
    · obtain ⟨o, ho, rfl⟩ := List.mem_map.mp hm
      exact shift_lt (hB o ho)) (by rw [List.length_append, List.length_map]; exact hl)
  refine ⟨C, fun h => callP_ok (h' := []) ?_ rfl (noC2 noC_bk noC_bk) noC_bk, q2⟩
  have g : ¬ ((12 : Int) < (n1 : Int) + (n2 : Int)) := by omega
  have e0 : ∀ h, callP 2 f_check_room [bk c1 n1 A, bk c2 n2 B] h = .ok .non h := fun h => by
    refine callP_ok (h' := []) ?_ rfl (noC2 noC_bk noC_bk) rfl
    unfold f_check_room m_check_room
    simp only [bodyM, sSeq, sIf, sThen, sSet, sRet, sRetN, sNext, sExpr, sPutIx, sAsg, sPar, sAug, sExc, mAnd, mOr, mNot, mIf, mT, mB, mAndV, mOrV, mNotV, m2, m1, mN, mNL, mV, mC, mLst, mTup, mLs, mLC, mLstC, newC, mSl, oNo, oYes, mChain, mChain, mCall, aNil, aCons, M.bnd, M.ret, M.bad, rd, gN, gT, gSeq, mF, frzA, mLM, mLM0, mItS, mItL, mItT, mEnum, mRng1, mRng2, List.map_cons, List.map_nil, List.replicate, List.cons_append, List.nil_append, List.getElem?_cons_zero, List.getElem?_cons_succ, List.set_cons_zero, List.set_cons_succ, List.length_cons, List.length_nil, Option.bind_some, Option.bind_none, Option.map_some, Option.map_none, if_true, if_false, ite_true, ite_false, Bool.false_eq_true, reduceIte, reduceCtorEq, fld_people h1, fld_people h2, addA_int, gtA_int, g, decide_false]
  have lA : A.length ≤ sizeLine := Nat.le_trans (by omega : _ ≤ 60) (by decide)
  have lB : B.length ≤ sizeLine := Nat.le_trans (by omega : _ ≤ 60) (by decide)
  have ad : ∀ h, addA h (.lst (A.map ctA)) (.lst ((B.map (2 ^ n1 * ·)).map ctA)) = some (.lst ((A ++ B.map (2 ^ n1 * ·)).map ctA)) := fun h => by
    rw [addA_lst (by rw [List.length_append, List.length_map, List.length_map, List.length_map]; exact Nat.le_trans hl (by decide)), List.map_append]
  have q1' : ∀ h, callP 2 f_made_of [.int ((n1 : Int) + (n2 : Int)), .lst ((A ++ B.map (2 ^ n1 * ·)).map ctA)] h = .ok (bk "RawBook" (n1 + n2) C) h := q1
  unfold f_beside m_beside
  simp only [bodyM, sSeq, sIf, sThen, sSet, sRet, sRetN, sNext, sExpr, sPutIx, sAsg, sPar, sAug, sExc, mAnd, mOr, mNot, mIf, mT, mB, mAndV, mOrV, mNotV, m2, m1, mN, mNL, mV, mC, mLst, mTup, mLs, mLC, mLstC, newC, mSl, oNo, oYes, mChain, mChain, mCall, aNil, aCons, M.bnd, M.ret, M.bad, rd, gN, gT, gSeq, mF, frzA, mLM, mLM0, mItS, mItL, mItT, mEnum, mRng1, mRng2, List.map_cons, List.map_nil, List.replicate, List.cons_append, List.nil_append, List.getElem?_cons_zero, List.getElem?_cons_succ, List.set_cons_zero, List.set_cons_succ, List.length_cons, List.length_nil, Option.bind_some, Option.bind_none, Option.map_some, Option.map_none, if_true, if_false, ite_true, ite_false, Bool.false_eq_true, reduceIte, reduceCtorEq, e0, fld_people h1, fld_people h2, fld_lots h1, addA_int, listA_tup, shifted_ok (k := n1) h2 (by omega : n2 ≤ 12) hB lB, ad, q1']
theorem rk_beside {n1 n2 : Nat} {A B C : List Nat} (hn : n1 + n2 ≤ 12) (hA : ∀ m ∈ A, m < 2 ^ n1) (cA : clr A 0 = true) (cB : clr B 0 = true) (M : MadeOf (n1 + n2) (A ++ B.map (2 ^ n1 * ·)) C) : rk (n1 + n2) C 0 = rk n1 A 0 ^^^ rk n2 B 0 := by
  have e := rk_two (n1 := n1) (n2 := n2) (A := A) (B := B) (C := C) (by omega) (by omega) (fun b c hb => by rw [M.cl, clr_two hA hb]) _ 0 0 (Nat.pow_pos (by decide)) (Nat.pow_pos (by decide)) rfl cA cB
  have z : J2 n1 0 0 = 0 := by unfold J2; rw [Nat.mul_zero]
  rwa [z] at e
end LW

set_option Elab.async false
set_option linter.all false
set_option maxRecDepth 100000
set_option maxHeartbeats 4000000
namespace LW
open PySem L2 Sim MB
local instance tabN31 : TabT := ⟨[]⟩
/-! ### words -/
def excB (c : Str) (r : Res AV) : Bool := match r with
  | .exc d [] _ => d == c
  | _ => false
theorem excB_ok {c : Str} {r : Res AV} (h : excB c r = true) : ∃ h', r = .exc c [] h' := by
  unfold excB at h
  split at h
  · rename_i d h'
    exact ⟨h', by rw [eq_of_beq h]⟩
  · cases h
def oddL (n : Nat) : List AV := [.non, .lst [.int 0], .tup [.int 0, .int 0], .tup [.int n], .tup [.int 1, .int 0], .tup [.bl true], .tup [.int (-1)]]
def numL : List AV := [.non, .lst [.int (-1)], .tup [.int 4096], .lst [.bl true], .str "0", .lst (List.replicate 61 (.int 0))]
theorem odd_all : ((List.range 8).all fun n => decide (n < 2) || ((oddL n).all fun s => noC s && excB "NoCrowd" (f_check_crowd [.int n, s] []))) = true := by kernel_rfl
theorem num_all : (numL.all fun s => noC s && excB "NoNumbers" (f_sum_of_ranks [s] [])) = true := by kernel_rfl
theorem odd_facts {n : Nat} {s : AV} (h2 : 2 ≤ n) (h7 : n ≤ 7) (hs : s ∈ oddL n) : noC s = true ∧ ∀ h, callP 2 f_check_crowd [.int n, s] h = .exc "NoCrowd" [] h := by
  have q := List.all_eq_true.mp odd_all n (List.mem_range.mpr (by omega))
  rw [Bool.or_eq_true, decide_eq_true_iff] at q
  rcases q with q | q
  · omega
  · have q2 := List.all_eq_true.mp q s hs
    rw [Bool.and_eq_true] at q2
    refine ⟨q2.1, fun h => ?_⟩
    obtain ⟨h', e⟩ := excB_ok q2.2
    exact callP_exc e rfl (by rw [noCs, noCs, q2.1]; rfl)
theorem num_facts {s : AV} (hs : s ∈ numL) : noC s = true ∧ ∀ h, callP 1 f_sum_of_ranks [s] h = .exc "NoNumbers" [] h := by
  have q2 := List.all_eq_true.mp num_all s hs
  rw [Bool.and_eq_true] at q2
  refine ⟨q2.1, fun h => ?_⟩
  obtain ⟨h', e⟩ := excB_ok q2.2
  exact callP_exc e rfl (by rw [noCs, q2.1]; rfl)
variable {c : Str} {n : Nat} {Ls : List Nat}
theorem rank_no {s : AV} {h : Hs} (hc : BkC c) (hs : noC s = true) (e : ∀ h, callP 2 f_check_crowd [.int n, s] h = .exc "NoCrowd" [] h) : callP 2 f_rank_of [bk c n Ls, s] h = .exc "NoCrowd" [] h ∧ callP 2 f_good_adds [bk c n Ls, s] h = .exc "NoCrowd" [] h := by
  have e0 : ∀ h, callP 2 f_check_clear [bk c n Ls, s] h = .exc "NoCrowd" [] h := fun h => by
    refine callP_exc (h' := []) ?_ rfl (noC2 noC_bk hs)
    unfold f_check_clear m_check_clear
    simp only [bodyM, sSeq, sIf, sThen, sSet, sRet, sRetN, sNext, sExpr, sPutIx, sAsg, sPar, sAug, sExc, mAnd, mOr, mNot, mIf, mT, mB, mAndV, mOrV, mNotV, m2, m1, mN, mNL, mV, mC, mLst, mTup, mLs, mLC, mLstC, newC, mSl, oNo, oYes, mChain, mChain, mCall, aNil, aCons, M.bnd, M.ret, M.bad, rd, gN, gT, gSeq, mF, frzA, mLM, mLM0, mItS, mItL, mItT, mEnum, mRng1, mRng2, List.map_cons, List.map_nil, List.replicate, List.cons_append, List.nil_append, List.getElem?_cons_zero, List.getElem?_cons_succ, List.set_cons_zero, List.set_cons_succ, List.length_cons, List.length_nil, Option.bind_some, Option.bind_none, Option.map_some, Option.map_none, if_true, if_false, ite_true, ite_false, Bool.false_eq_true, reduceIte, reduceCtorEq, fld_people hc, e]
  constructor
  · refine callP_exc (h' := []) ?_ rfl (noC2 noC_bk hs)
    unfold f_rank_of m_rank_of
    simp only [bodyM, sSeq, sIf, sThen, sSet, sRet, sRetN, sNext, sExpr, sPutIx, sAsg, sPar, sAug, sExc, mAnd, mOr, mNot, mIf, mT, mB, mAndV, mOrV, mNotV, m2, m1, mN, mNL, mV, mC, mLst, mTup, mLs, mLC, mLstC, newC, mSl, oNo, oYes, mChain, mChain, mCall, aNil, aCons, M.bnd, M.ret, M.bad, rd, gN, gT, gSeq, mF, frzA, mLM, mLM0, mItS, mItL, mItT, mEnum, mRng1, mRng2, List.map_cons, List.map_nil, List.replicate, List.cons_append, List.nil_append, List.getElem?_cons_zero, List.getElem?_cons_succ, List.set_cons_zero, List.set_cons_succ, List.length_cons, List.length_nil, Option.bind_some, Option.bind_none, Option.map_some, Option.map_none, if_true, if_false, ite_true, ite_false, Bool.false_eq_true, reduceIte, reduceCtorEq, e0]
  · refine callP_exc (h' := []) ?_ rfl (noC2 noC_bk hs)
    unfold f_good_adds m_good_adds
    simp only [bodyM, sSeq, sIf, sThen, sSet, sRet, sRetN, sNext, sExpr, sPutIx, sAsg, sPar, sAug, sExc, mAnd, mOr, mNot, mIf, mT, mB, mAndV, mOrV, mNotV, m2, m1, mN, mNL, mV, mC, mLst, mTup, mLs, mLC, mLstC, newC, mSl, oNo, oYes, mChain, mChain, mCall, aNil, aCons, M.bnd, M.ret, M.bad, rd, gN, gT, gSeq, mF, frzA, mLM, mLM0, mItS, mItL, mItT, mEnum, mRng1, mRng2, List.map_cons, List.map_nil, List.replicate, List.cons_append, List.nil_append, List.getElem?_cons_zero, List.getElem?_cons_succ, List.set_cons_zero, List.set_cons_succ, List.length_cons, List.length_nil, Option.bind_some, Option.bind_none, Option.map_some, Option.map_none, if_true, if_false, ite_true, ite_false, Bool.false_eq_true, reduceIte, reduceCtorEq, e0]
theorem rank_notclear {b : Nat} {h : Hs} (hc : BkC c) (hn : n ≤ 12) (hb : b < 2 ^ n) (hl : Ls.length ≤ sizeLine) (cb : clr Ls b = false) : callP 2 f_rank_of [bk c n Ls, ctA b] h = .exc "NotClear" [] h := by
  have e0 : ∀ h, callP 2 f_check_clear [bk c n Ls, ctA b] h = .exc "NotClear" [] h := fun h => by
    refine callP_exc (h' := []) ?_ rfl (noC2 noC_bk (noC_tupA _))
    unfold f_check_clear m_check_clear
    simp only [bodyM, sSeq, sIf, sThen, sSet, sRet, sRetN, sNext, sExpr, sPutIx, sAsg, sPar, sAug, sExc, mAnd, mOr, mNot, mIf, mT, mB, mAndV, mOrV, mNotV, m2, m1, mN, mNL, mV, mC, mLst, mTup, mLs, mLC, mLstC, newC, mSl, oNo, oYes, mChain, mChain, mCall, aNil, aCons, M.bnd, M.ret, M.bad, rd, gN, gT, gSeq, mF, frzA, mLM, mLM0, mItS, mItL, mItT, mEnum, mRng1, mRng2, List.map_cons, List.map_nil, List.replicate, List.cons_append, List.nil_append, List.getElem?_cons_zero, List.getElem?_cons_succ, List.set_cons_zero, List.set_cons_succ, List.length_cons, List.length_nil, Option.bind_some, Option.bind_none, Option.map_some, Option.map_none, if_true, if_false, ite_true, ite_false, Bool.false_eq_true, reduceIte, reduceCtorEq, fld_people hc, checkcrowd_ok hn hb, isclear_P hc hn hb hl, cb, Bool.not_false]
  refine callP_exc (h' := []) ?_ rfl (noC2 noC_bk (noC_tupA _))
  unfold f_rank_of m_rank_of
  simp only [bodyM, sSeq, sIf, sThen, sSet, sRet, sRetN, sNext, sExpr, sPutIx, sAsg, sPar, sAug, sExc, mAnd, mOr, mNot, mIf, mT, mB, mAndV, mOrV, mNotV, m2, m1, mN, mNL, mV, mC, mLst, mTup, mLs, mLC, mLstC, newC, mSl, oNo, oYes, mChain, mChain, mCall, aNil, aCons, M.bnd, M.ret, M.bad, rd, gN, gT, gSeq, mF, frzA, mLM, mLM0, mItS, mItL, mItT, mEnum, mRng1, mRng2, List.map_cons, List.map_nil, List.replicate, List.cons_append, List.nil_append, List.getElem?_cons_zero, List.getElem?_cons_succ, List.set_cons_zero, List.set_cons_succ, List.length_cons, List.length_nil, Option.bind_some, Option.bind_none, Option.map_some, Option.map_none, if_true, if_false, ite_true, ite_false, Bool.false_eq_true, reduceIte, reduceCtorEq, e0]
theorem hw1 : hit__law_word "NoCrowd" = some ("crowd" : Str) := by kernel_rfl
theorem hw2 : hit__law_word "NotClear" = some ("clear" : Str) := by kernel_rfl
theorem hw3 : hit__law_word "NoNumbers" = some ("numbers" : Str) := by kernel_rfl
def wsA : List AV := [.str "crowd", .str "crowd", .str "numbers"]
/-! ### the comprehensions of law -/
theorem inA_cts {h : Hs} {b : Nat} {xs : List Nat} : inA h (ctA b) (.lst (xs.map ctA)) = some (.bl (decide (b ∈ xs))) := by
  have e : xs.map ctA = (xs.map cr).map tupA := by rw [List.map_map]; rfl
  have q : inA h (tupA (cr b)) (.lst ((xs.map cr).map tupA)) = some (.bl ((xs.map cr).contains (cr b))) := by
    have sh : SeqAt.shaped (dat (.lst ((xs.map cr).map tupA))) = true := by
      show SeqAt.shaped (.list (dats ((xs.map cr).map tupA))) = true
      unfold SeqAt.shaped
      rw [PyData.canLay0, lay_tups, PyData.depth, Bool.true_and]
      have := depth_tups (xs.map cr)
      exact decide_eq_true (by omega)
    have e : inB h (tupA (cr b)) (.lst ((xs.map cr).map tupA)) = some ((xs.map cr).contains (cr b)) := by
      unfold inB
      show (if SeqAt.shaped (dat (tupA (cr b))) = true ∧ SeqAt.shaped (dat (.lst ((xs.map cr).map tupA))) = true then (some ((xs.map cr).map tupA)).map (fun ys => (dats ys).any fun z => PyData.eqv z (dat (tupA (cr b)))) else none) = _
      rw [if_pos ⟨shaped_tup (cr b), sh⟩, Option.map_some, any_tups]
    unfold inA
    rw [e]
    rfl
  rw [e]
  show inA h (tupA (cr b)) _ = _
  rw [q]
  congr 2
  rw [Bool.eq_iff_iff, List.contains_iff_mem, List.mem_map, decide_eq_true_iff]
  exact ⟨fun ⟨x, h1, h2⟩ => by rw [← cr_inj h2]; exact h1, fun h => ⟨b, h, rfl⟩⟩
theorem K0_ok {s0 s1 s2 s3 s4 s5 s6 s7 s8 s9 s10 s11 s12 s14 s15 s16 : Option AV} {h : Hs} (hc : BkC c) (hn : n ≤ 12) (hL : ∀ m ∈ Ls, m < 2 ^ n) (hl : Ls.length ≤ sizeLine) :
    K_law_0 [s0, s1, s2, s3, s4, s5, s6, s7, s8, s9, s10, s11, s12, some (bk c n Ls), s14, s15, s16] h = .ok (((allC n).filter fun b => clr Ls b).map ctA) h := by
  unfold K_law_0
  refine mLc_jf (xs := allC n) (h' := h) ctA (fun b => clr Ls b) ctA ?_ (by rw [len_allC]; exact Nat.le_trans (pow12 hn) (by decide)) fun b hb => ⟨_, rfl, ?_, fun _ => ?_⟩
  · simp only [bodyM, sSeq, sIf, sThen, sSet, sRet, sRetN, sNext, sExpr, sPutIx, sAsg, sPar, sAug, sExc, mAnd, mOr, mNot, mIf, mT, mB, mAndV, mOrV, mNotV, m2, m1, mN, mNL, mV, mC, mLst, mTup, mLs, mLC, mLstC, newC, mSl, oNo, oYes, mChain, mChain, mCall, aNil, aCons, M.bnd, M.ret, M.bad, rd, gN, gT, gSeq, mF, frzA, mLM, mLM0, mItS, mItL, mItT, mEnum, mRng1, mRng2, List.map_cons, List.map_nil, List.replicate, List.cons_append, List.nil_append, List.getElem?_cons_zero, List.getElem?_cons_succ, List.set_cons_zero, List.set_cons_succ, List.length_cons, List.length_nil, Option.bind_some, Option.bind_none, Option.map_some, Option.map_none, if_true, if_false, ite_true, ite_false, Bool.false_eq_true, reduceIte, reduceCtorEq, fld_people hc, crowds_ok hn]
  · simp only [wipeE, bodyM, sSeq, sIf, sThen, sSet, sRet, sRetN, sNext, sExpr, sPutIx, sAsg, sPar, sAug, sExc, mAnd, mOr, mNot, mIf, mT, mB, mAndV, mOrV, mNotV, m2, m1, mN, mNL, mV, mC, mLst, mTup, mLs, mLC, mLstC, newC, mSl, oNo, oYes, mChain, mChain, mCall, aNil, aCons, M.bnd, M.ret, M.bad, rd, gN, gT, gSeq, mF, frzA, mLM, mLM0, mItS, mItL, mItT, mEnum, mRng1, mRng2, List.map_cons, List.map_nil, List.replicate, List.cons_append, List.nil_append, List.getElem?_cons_zero, List.getElem?_cons_succ, List.set_cons_zero, List.set_cons_succ, List.length_cons, List.length_nil, Option.bind_some, Option.bind_none, Option.map_some, Option.map_none, if_true, if_false, ite_true, ite_false, Bool.false_eq_true, reduceIte, reduceCtorEq, isclear_ok hc hn hL hl]
  · simp only [wipeE, bodyM, sSeq, sIf, sThen, sSet, sRet, sRetN, sNext, sExpr, sPutIx, sAsg, sPar, sAug, sExc, mAnd, mOr, mNot, mIf, mT, mB, mAndV, mOrV, mNotV, m2, m1, mN, mNL, mV, mC, mLst, mTup, mLs, mLC, mLstC, newC, mSl, oNo, oYes, mChain, mChain, mCall, aNil, aCons, M.bnd, M.ret, M.bad, rd, gN, gT, gSeq, mF, frzA, mLM, mLM0, mItS, mItL, mItT, mEnum, mRng1, mRng2, List.map_cons, List.map_nil, List.replicate, List.cons_append, List.nil_append, List.getElem?_cons_zero, List.getElem?_cons_succ, List.set_cons_zero, List.set_cons_succ, List.length_cons, List.length_nil, Option.bind_some, Option.bind_none, Option.map_some, Option.map_none, if_true, if_false, ite_true, ite_false, Bool.false_eq_true, reduceIte, reduceCtorEq]
theorem adds_inj {b p q : Nat} (hp : b.testBit p = false) (hq : b.testBit q = false) (e : b ||| 2 ^ p = b ||| 2 ^ q) : p = q := by
  have := congrArg (fun z => z.testBit p) e
  simp only [Nat.testBit_or, hp, Bool.false_or, Nat.testBit_two_pow] at this
  simp at this
  exact this.symm
theorem K1_ok {b : Nat} {s0 s1 s3 s4 s5 s6 s8 s9 s10 s11 s12 s14 s15 s16 : Option AV} {h : Hs} (hc : BkC c) (hn : n ≤ 12) (hb : b < 2 ^ n) :
    K_law_1 [s0, s1, some (ctA b), s3, s4, s5, s6, some (.lst (((addsL n Ls b).map fun p => b ||| 2 ^ p).map ctA)), s8, s9, s10, s11, s12, some (bk c n Ls), s14, s15, s16] h = .ok ((addsL n Ls b).map fun p : Nat => AV.int p) h := by
  have ef : addsL n Ls b = (List.range n).filter fun p => !b.testBit p && decide ((b ||| 2 ^ p) ∈ (addsL n Ls b).map fun p => b ||| 2 ^ p) := by
    unfold addsL
    refine List.filter_congr fun p hp => ?_
    rw [Bool.eq_iff_iff, Bool.and_eq_true, Bool.and_eq_true, decide_eq_true_iff, Bool.not_eq_true', List.mem_map]
    constructor
    · rintro ⟨h1, h2⟩
      exact ⟨h1, p, List.mem_filter.mpr ⟨hp, by rw [h1, h2]; rfl⟩, rfl⟩
    · rintro ⟨h1, q, h2, h3⟩
      have h4 := (List.mem_filter.mp h2).2
      rw [Bool.and_eq_true, Bool.not_eq_true'] at h4
      rw [adds_inj h1 h4.1 h3.symm]
      exact ⟨h4.1, h4.2⟩
  unfold K_law_1
  generalize hX : (addsL n Ls b).map (fun p => b ||| 2 ^ p) = X at ef
  rw [ef]
  refine mLc_jf (xs := List.range n) (h' := h) (fun p : Nat => AV.int p) (fun p => !b.testBit p && decide ((b ||| 2 ^ p) ∈ X)) (fun p : Nat => AV.int p) ?_ (by rw [List.length_range]; exact Nat.le_trans hn (by decide)) fun p hp => ⟨_, rfl, ?_, fun _ => rfl⟩
  · rw [← rngL_nat]
    exact rng1 (by simp only [bodyM, sSeq, sIf, sThen, sSet, sRet, sRetN, sNext, sExpr, sPutIx, sAsg, sPar, sAug, sExc, mAnd, mOr, mNot, mIf, mT, mB, mAndV, mOrV, mNotV, m2, m1, mN, mNL, mV, mC, mLst, mTup, mLs, mLC, mLstC, newC, mSl, oNo, oYes, mChain, mChain, mCall, aNil, aCons, M.bnd, M.ret, M.bad, rd, gN, gT, gSeq, mF, frzA, mLM, mLM0, mItS, mItL, mItT, mEnum, mRng1, mRng2, List.map_cons, List.map_nil, List.replicate, List.cons_append, List.nil_append, List.getElem?_cons_zero, List.getElem?_cons_succ, List.set_cons_zero, List.set_cons_succ, List.length_cons, List.length_nil, Option.bind_some, Option.bind_none, Option.map_some, Option.map_none, if_true, if_false, ite_true, ite_false, Bool.false_eq_true, reduceIte, reduceCtorEq, fld_people hc]) (by omega) (by omega)
  · have ni : notInA h (.int p) (ctA b) = some (.bl (!b.testBit p)) := by
      unfold ctA
      rw [notInA_tupA, cr_contains]
    have ad : ∀ h, addA h (ctA b) (.tup [.int p]) = some (.tup ((cr b).map AV.int ++ [.int p])) := fun h => addA_tup (by rw [List.length_append, List.length_map]; exact Nat.le_trans (Nat.add_le_add_right (cr_len_n (n := 12) (mb12 hb hn)) 1) (by decide))
    cases ht : b.testBit p with
    | true => rw [ht] at ni; simp only [wipeE, bodyM, sSeq, sIf, sThen, sSet, sRet, sRetN, sNext, sExpr, sPutIx, sAsg, sPar, sAug, sExc, mAnd, mOr, mNot, mIf, mT, mB, mAndV, mOrV, mNotV, m2, m1, mN, mNL, mV, mC, mLst, mTup, mLs, mLC, mLstC, newC, mSl, oNo, oYes, mChain, mChain, mCall, aNil, aCons, M.bnd, M.ret, M.bad, rd, gN, gT, gSeq, mF, frzA, mLM, mLM0, mItS, mItL, mItT, mEnum, mRng1, mRng2, List.map_cons, List.map_nil, List.replicate, List.cons_append, List.nil_append, List.getElem?_cons_zero, List.getElem?_cons_succ, List.set_cons_zero, List.set_cons_succ, List.length_cons, List.length_nil, Option.bind_some, Option.bind_none, Option.map_some, Option.map_none, if_true, if_false, ite_true, ite_false, Bool.false_eq_true, reduceIte, reduceCtorEq, ni, Bool.not_true, Bool.false_and]
    | false =>
      rw [ht] at ni
      have ia : inA h (.tup ((cr (b ||| 2 ^ p)).map AV.int)) (.lst (X.map ctA)) = some (.bl (decide ((b ||| 2 ^ p) ∈ X))) := inA_cts
      simp only [wipeE, bodyM, sSeq, sIf, sThen, sSet, sRet, sRetN, sNext, sExpr, sPutIx, sAsg, sPar, sAug, sExc, mAnd, mOr, mNot, mIf, mT, mB, mAndV, mOrV, mNotV, m2, m1, mN, mNL, mV, mC, mLst, mTup, mLs, mLC, mLstC, newC, mSl, oNo, oYes, mChain, mChain, mCall, aNil, aCons, M.bnd, M.ret, M.bad, rd, gN, gT, gSeq, mF, frzA, mLM, mLM0, mItS, mItL, mItT, mEnum, mRng1, mRng2, List.map_cons, List.map_nil, List.replicate, List.cons_append, List.nil_append, List.getElem?_cons_zero, List.getElem?_cons_succ, List.set_cons_zero, List.set_cons_succ, List.length_cons, List.length_nil, Option.bind_some, Option.bind_none, Option.map_some, Option.map_none, if_true, if_false, ite_true, ite_false, Bool.false_eq_true, reduceIte, reduceCtorEq, ni, Bool.not_false, Bool.true_and, sm1, ad, sortTA_or ht, tupleA_lst, ia]
end LW

set_option Elab.async false
set_option linter.all false
set_option maxRecDepth 100000
set_option maxHeartbeats 4000000
namespace LW
open PySem L2 Sim MB
local instance tabN32 : TabT := ⟨[]⟩
variable {n : Nat} {Ls : List Nat}
/-- the store of a turn -/
def ST (n : Nat) (Ls : List Nat) (c : Cell) (r : Hs) (b1 b2 : List Nat) : Hs := c :: (r ++ [.dct (avT (tab kc (vI n Ls) b1)), .dct (avT (tab kc (vW n Ls) b2))])
theorem ST_len {c : Cell} {r : Hs} {b1 b2 : List Nat} : (ST n Ls c r b1 b2).length = r.length + 3 := by unfold ST; simp
theorem lr_at {c : Cell} {r : Hs} {b1 b2 : List Nat} {b : Nat} {d : Str} (hc : BkC d) (hn : n ≤ 12) (hL : ∀ m ∈ Ls, m < 2 ^ n) (hl : Ls.length ≤ sizeLine) (hb : b < 2 ^ n) (B : Bs n b1) :
    ∃ b1', callS 3 (f__law_rank 16) [bk d n Ls, ctA b, .cell (r.length + 1)] (ST n Ls c r b1 b2) = .ok (.int (rk n Ls b)) (ST n Ls c r b1' b2) ∧ Bs n b1' := by
  obtain ⟨b1', q, B'⟩ := lawrank_ok (h := ST n Ls c r b1 b2) (i := r.length + 1) (by rw [ST_len]; omega) hc hn hL hl 16 b b1 hb (by omega) B
  have e : ∀ x, s2 (ST n Ls c r b1 b2) (r.length + 1) (vI n Ls) x = ST n Ls c r x b2 := fun x => set0
  rw [e, e] at q
  exact ⟨b1', q, B'⟩
theorem lw_at {c : Cell} {r : Hs} {b1 b2 : List Nat} {b : Nat} {d : Str} (hc : BkC d) (hn : n ≤ 12) (hL : ∀ m ∈ Ls, m < 2 ^ n) (hl : Ls.length ≤ sizeLine) (hb : b < 2 ^ n) (B : Bs n b2) :
    ∃ b2', callS 3 (f__law_wins 16) [bk d n Ls, ctA b, .cell (r.length + 1 + 1)] (ST n Ls c r b1 b2) = .ok (.bl (!decide (rk n Ls b = 0))) (ST n Ls c r b1 b2') ∧ Bs n b2' := by
  obtain ⟨b2', q, B'⟩ := lawwins_ok (h := ST n Ls c r b1 b2) (i := r.length + 1 + 1) (by rw [ST_len]; omega) hc hn hL hl 16 b b2 hb (by omega) B
  have e : ∀ x, s2 (ST n Ls c r b1 b2) (r.length + 1 + 1) (vW n Ls) x = ST n Ls c r b1 x := fun x => set1
  rw [e, e] at q
  exact ⟨b2', q, B'⟩
theorem neA_tup {h : Hs} {a b : List Int} : neA h (tupA a) (tupA b) = some (.bl (!decide (a = b))) := by
  unfold neA
  show (if SeqAt.shaped (dat (tupA a)) = true ∧ SeqAt.shaped (dat (tupA b)) = true then some (AV.bl (!PyData.eqv (dat (tupA a)) (dat (tupA b)))) else none) = _
  rw [if_pos ⟨shaped_tup a, shaped_tup b⟩, eqv_tup]
theorem eqA_nil {h : Hs} {a : List Int} : eqA h (.lst (a.map .int)) (.lst []) = some (.bl (decide (a = []))) := by
  have sh : SeqAt.shaped (dat (.lst (a.map .int))) = true := by
    show SeqAt.shaped (.list (dats (a.map .int))) = true
    unfold SeqAt.shaped
    rw [PyData.canLay0, lay_ints, PyData.depth, depth_ints]
    rfl
  have ev : PyData.eqv (dat (.lst (a.map .int))) (dat (.lst [])) = decide (a = []) := by
    cases a <;> rfl
  unfold eqA
  show (if SeqAt.shaped (dat (.lst (a.map .int))) = true ∧ SeqAt.shaped (dat (.lst [])) = true then some (AV.bl (PyData.eqv (dat (.lst (a.map .int))) (dat (.lst [])))) else none) = _
  rw [if_pos ⟨sh, rfl⟩, ev]
theorem good_nil {b : Nat} (hb : b < 2 ^ n) : decide (((goodL n Ls b).map fun p : Nat => (p : Int)) = []) = decide (rk n Ls b = 0) := by
  refine decide_eq_decide.mpr ?_
  have me := rk_eq (Ls := Ls) hb
  rw [List.map_eq_nil_iff]
  constructor
  · intro h
    by_cases z : rk n Ls b = 0
    · exact z
    · have := mex_all ((addsL n Ls b).map fun p => rk n Ls (b ||| 2 ^ p)) 0 (by rw [← me]; omega)
      obtain ⟨p, hp, h0⟩ := List.mem_map.mp this
      have : p ∈ goodL n Ls b := List.mem_filter.mpr ⟨hp, decide_eq_true h0⟩
      rw [h] at this
      cases this
  · intro hz
    refine List.filter_eq_nil_iff.mpr fun p hp q => ?_
    have h0 : rk n Ls (b ||| 2 ^ p) = 0 := of_decide_eq_true q
    have := mex_not ((addsL n Ls b).map fun p => rk n Ls (b ||| 2 ^ p))
    rw [← me, hz] at this
    exact this (List.mem_map.mpr ⟨p, hp, h0⟩)
theorem K2_ok {c : Cell} {r : Hs} {b1 b2 : List Nat} {b : Nat} {d : Str} {s0 s1 s3 s5 s6 s7 s9 s10 s11 s12 s14 s15 s16 : Option AV} (hc : BkC d) (hn : n ≤ 12) (hL : ∀ m ∈ Ls, m < 2 ^ n) (hl : Ls.length ≤ sizeLine) (hb : b < 2 ^ n) (B : Bs n b1) :
    ∃ b1', K_law_2 [s0, s1, some (ctA b), s3, some (.cell (r.length + 1)), s5, s6, s7, some (.lst ((addsL n Ls b).map fun p : Nat => AV.int p)), s9, s10, s11, s12, some (bk d n Ls), s14, s15, s16] (ST n Ls c r b1 b2) = .ok ((goodL n Ls b).map fun p : Nat => AV.int p) (ST n Ls c r b1' b2) ∧ Bs n b1' := by
  have ll : (addsL n Ls b).length ≤ sizeLine := Nat.le_trans (List.length_filter_le _ _) (by rw [List.length_range]; exact Nat.le_trans hn (by decide))
  obtain ⟨h1, q1, b1', rfl, B1⟩ := mLc_st (vs := [16]) (mi := mItS (mV 8)) (g := gN 16) (t := mT (m2 eqA (mCall (callS 3 (f__law_rank 16)) (aCons (mV 13) (aCons (mN tupleA (aCons (mLs (mNL sortTA (aCons (m2 addA (mV 2) (mTup (aCons (mV 16) aNil))) aNil))) aNil)) (aCons (mV 4) aNil)))) (mC (.int 0)))) (e := mV 16)
    (env := [s0, s1, some (ctA b), s3, some (.cell (r.length + 1)), s5, s6, s7, some (.lst ((addsL n Ls b).map fun p : Nat => AV.int p)), s9, s10, s11, s12, some (bk d n Ls), s14, s15, s16]) (h := ST n Ls c r b1 b2) (h1 := ST n Ls c r b1 b2) (xs := addsL n Ls b) (fun h => ∃ b1', h = ST n Ls c r b1' b2 ∧ Bs n b1') (fun p : Nat => AV.int p) (fun p => decide (rk n Ls (b ||| 2 ^ p) = 0)) (fun p : Nat => AV.int p)
    (by simp only [bodyM, sSeq, sIf, sThen, sSet, sRet, sRetN, sNext, sExpr, sPutIx, sAsg, sPar, sAug, sExc, mAnd, mOr, mNot, mIf, mT, mB, mAndV, mOrV, mNotV, m2, m1, mN, mNL, mV, mC, mLst, mTup, mLs, mLC, mLstC, newC, mSl, oNo, oYes, mChain, mChain, mCall, aNil, aCons, M.bnd, M.ret, M.bad, rd, gN, gT, gSeq, mF, frzA, mLM, mLM0, mItS, mItL, mItT, mEnum, mRng1, mRng2, List.map_cons, List.map_nil, List.replicate, List.cons_append, List.nil_append, List.getElem?_cons_zero, List.getElem?_cons_succ, List.set_cons_zero, List.set_cons_succ, List.length_cons, List.length_nil, Option.bind_some, Option.bind_none, Option.map_some, Option.map_none, if_true, if_false, ite_true, ite_false, Bool.false_eq_true, reduceIte, reduceCtorEq]) ll (fun p hp h hI => by
      obtain ⟨bs2, rfl, B2⟩ := hI
      obtain ⟨p1, p2, p3⟩ := mem_addsL.mp hp
      obtain ⟨bs3, q3, B3⟩ := lr_at (c := c) (r := r) (b2 := b2) hc hn hL hl (or_lt hb p1) B2
      have q3' : callS 3 (f__law_rank 16) [bk d n Ls, .tup ((cr (b ||| 2 ^ p)).map AV.int), .cell (r.length + 1)] (ST n Ls c r bs2 b2) = .ok (.int (rk n Ls (b ||| 2 ^ p))) (ST n Ls c r bs3 b2) := q3
      refine ⟨_, ST n Ls c r bs3 b2, ST n Ls c r bs3 b2, rfl, ?_, ⟨bs3, rfl, B3⟩, fun _ => ⟨?_, bs3, rfl, B3⟩⟩
      · have ad : ∀ h, addA h (ctA b) (.tup [.int p]) = some (.tup ((cr b).map AV.int ++ [.int p])) := fun h => addA_tup (by rw [List.length_append, List.length_map]; exact Nat.le_trans (Nat.add_le_add_right (cr_len_n (n := 12) (mb12 hb hn)) 1) (by decide))
        have ed : ∀ h, eqA h (.int (rk n Ls (b ||| 2 ^ p) : Nat)) (.int 0) = some (.bl (decide (rk n Ls (b ||| 2 ^ p) = 0))) := fun h => by
          rw [eqA_int]
          congr 2
          exact decide_eq_decide.mpr (by omega)
        simp only [wipeE, bodyM, sSeq, sIf, sThen, sSet, sRet, sRetN, sNext, sExpr, sPutIx, sAsg, sPar, sAug, sExc, mAnd, mOr, mNot, mIf, mT, mB, mAndV, mOrV, mNotV, m2, m1, mN, mNL, mV, mC, mLst, mTup, mLs, mLC, mLstC, newC, mSl, oNo, oYes, mChain, mChain, mCall, aNil, aCons, M.bnd, M.ret, M.bad, rd, gN, gT, gSeq, mF, frzA, mLM, mLM0, mItS, mItL, mItT, mEnum, mRng1, mRng2, List.map_cons, List.map_nil, List.replicate, List.cons_append, List.nil_append, List.getElem?_cons_zero, List.getElem?_cons_succ, List.set_cons_zero, List.set_cons_succ, List.length_cons, List.length_nil, Option.bind_some, Option.bind_none, Option.map_some, Option.map_none, if_true, if_false, ite_true, ite_false, Bool.false_eq_true, reduceIte, reduceCtorEq, sm1, ad, sortTA_or p2, tupleA_lst, q3', ed]
      · simp only [wipeE, bodyM, sSeq, sIf, sThen, sSet, sRet, sRetN, sNext, sExpr, sPutIx, sAsg, sPar, sAug, sExc, mAnd, mOr, mNot, mIf, mT, mB, mAndV, mOrV, mNotV, m2, m1, mN, mNL, mV, mC, mLst, mTup, mLs, mLC, mLstC, newC, mSl, oNo, oYes, mChain, mChain, mCall, aNil, aCons, M.bnd, M.ret, M.bad, rd, gN, gT, gSeq, mF, frzA, mLM, mLM0, mItS, mItL, mItT, mEnum, mRng1, mRng2, List.map_cons, List.map_nil, List.replicate, List.cons_append, List.nil_append, List.getElem?_cons_zero, List.getElem?_cons_succ, List.set_cons_zero, List.set_cons_succ, List.length_cons, List.length_nil, Option.bind_some, Option.bind_none, Option.map_some, Option.map_none, if_true, if_false, ite_true, ite_false, Bool.false_eq_true, reduceIte, reduceCtorEq]) ⟨b1, rfl, B⟩
  exact ⟨b1', q1, B1⟩
theorem again_ok {c : Cell} {r : Hs} {b1 b2 C : List Nat} {s0 s1 s2 s6 s7 s8 s9 s10 s11 s12 s15 s16 : Option AV} {d : Str} (hd : BkC d) (hc : HandOk c) (hn : n ≤ 12) (hL : ∀ m ∈ Ls, m < 2 ^ n) (hl : Ls.length ≤ sizeLine) (hC : ∀ x ∈ C, x < 2 ^ n ∧ clr Ls x = true) (C1 : 1 ≤ C.length) (C2 : C.length ≤ 4096) (B1 : Bs n b1) (B2 : Bs n b2) :
    ∃ c' b1' b2' y2 y7 y8, B_law_3 [s0, s1, s2, some (.lst (C.map ctA)), some (.cell (r.length + 1)), some (.cell (r.length + 1 + 1)), s6, s7, s8, s9, s10, s11, s12, some (bk d n Ls), some (.cell 0), s15, s16] (ST n Ls c r b1 b2) =
      .nx [s0, s1, y2, some (.lst (C.map ctA)), some (.cell (r.length + 1)), some (.cell (r.length + 1 + 1)), s6, y7, y8, s9, s10, s11, s12, some (bk d n Ls), some (.cell 0), s15, s16] (ST n Ls c' r b1' b2') ∧ HandOk c' ∧ Bs n b1' ∧ Bs n b2' := by
  obtain ⟨a, c', e1, e2, k1⟩ := any_at (h := ST n Ls c r b1 b2) (n := 0) (xs := C.map ctA) rfl hc (by rw [List.length_map]; exact C1) (by rw [List.length_map]; omega) (noCs_ct C)
  have e1' : callH 2 f__law_any [.cell 0, .lst (C.map ctA)] (ST n Ls c r b1 b2) = .ok a (ST n Ls c' r b1 b2) := e1
  obtain ⟨b, hb, rfl⟩ := List.mem_map.mp e2
  obtain ⟨b12, cb⟩ := hC b hb
  obtain ⟨x1, q1, X1⟩ := lr_at (c := c') (r := r) (b2 := b2) hd hn hL hl b12 B1
  obtain ⟨x2, q2, X2⟩ := lw_at (c := c') (r := r) (b1 := x1) hd hn hL hl b12 B2
  obtain ⟨x3, q3, X3⟩ := K2_ok (c := c') (r := r) (b2 := x2) (s0 := s0) (s1 := s1) (s3 := some (.lst (C.map ctA))) (s5 := some (.cell (r.length + 1 + 1))) (s6 := s6) (s7 := some (.lst (((addsL n Ls b).map fun p => b ||| 2 ^ p).map ctA))) (s9 := s9) (s10 := s10) (s11 := s11) (s12 := s12) (s14 := some (.cell 0)) (s15 := s15) (s16 := s16) hd hn hL hl b12 X1
  have w0 : ∀ h, neA h (.int (rk n Ls b : Nat)) (.int 0) = some (.bl (!decide (rk n Ls b = 0))) := fun h => by
    rw [neA_int]
    congr 3
    exact decide_eq_decide.mpr (by omega)
  have w1 : ∀ h, eqA h (.int (rk n Ls b : Nat)) (.int 0) = some (.bl (decide (rk n Ls b = 0))) := fun h => by
    rw [eqA_int]
    congr 2
    exact decide_eq_decide.mpr (by omega)
  have gi : ((goodL n Ls b).map fun p : Nat => AV.int p) = ((goodL n Ls b).map fun p : Nat => (p : Int)).map AV.int := by rw [List.map_map]; rfl
  have w2 : ∀ h, eqA h (.lst ((goodL n Ls b).map fun p : Nat => AV.int p)) (.lst []) = some (.bl (decide (rk n Ls b = 0))) := fun h => by rw [gi, eqA_nil, good_nil b12]
  have w3 : ∀ h, neA h (.tup ((goodL n Ls b).map fun p : Nat => AV.int p)) (.tup ((goodL n Ls b).map fun p : Nat => AV.int p)) = some (.bl false) := fun h => by
    rw [gi]
    have := neA_tup (h := h) (a := (goodL n Ls b).map fun p : Nat => (p : Int)) (b := (goodL n Ls b).map fun p : Nat => (p : Int))
    rw [decide_eq_true rfl] at this
    exact this
  have w4 : ∀ h, neA h (.int (rk n Ls b : Nat)) (.int (rk n Ls b : Nat)) = some (.bl false) := fun h => by rw [neA_int, decide_eq_true rfl]; rfl
  have w5 : ∀ h x, neA h (.bl x) (.bl x) = some (.bl false) := fun h x => by cases x <;> rfl
  have e5 : ∀ h, callP 2 f__law_next [bk d n Ls, ctA b] h = .ok (.lst (((addsL n Ls b).map fun p => b ||| 2 ^ p).map ctA)) h := fun h => by rw [List.map_map]; exact next_ok hd hn b12 hL hl
  refine ⟨c', x3, x2, some (ctA b), some (.lst (((addsL n Ls b).map fun p => b ||| 2 ^ p).map ctA)), some (.lst ((goodL n Ls b).map fun p : Nat => AV.int p)), ?_, k1, X3, X2⟩
  unfold B_law_3
  simp only [bodyM, sSeq, sIf, sThen, sSet, sRet, sRetN, sNext, sExpr, sPutIx, sAsg, sPar, sAug, sExc, mAnd, mOr, mNot, mIf, mT, mB, mAndV, mOrV, mNotV, m2, m1, mN, mNL, mV, mC, mLst, mTup, mLs, mLC, mLstC, newC, mSl, oNo, oYes, mChain, mChain, mCall, aNil, aCons, M.bnd, M.ret, M.bad, rd, gN, gT, gSeq, mF, frzA, mLM, mLM0, mItS, mItL, mItT, mEnum, mRng1, mRng2, List.map_cons, List.map_nil, List.replicate, List.cons_append, List.nil_append, List.getElem?_cons_zero, List.getElem?_cons_succ, List.set_cons_zero, List.set_cons_succ, List.length_cons, List.length_nil, Option.bind_some, Option.bind_none, Option.map_some, Option.map_none, if_true, if_false, ite_true, ite_false, Bool.false_eq_true, reduceIte, reduceCtorEq, e1', rankof_ok hd hn b12 hl cb, q1, w4, w0, q2, w5, e5, K1_ok hd hn b12, q3, goodadds_ok hd hn b12 hl cb, tupleA_lst, w3, sm0, w2, w1]
theorem loop_ok {c : Cell} {r : Hs} {b1 b2 C : List Nat} {s0 s1 s2 s6 s7 s8 s9 s10 s11 s12 s15 s16 : Option AV} {d : Str} (hd : BkC d) (hc : HandOk c) (hn : n ≤ 12) (hL : ∀ m ∈ Ls, m < 2 ^ n) (hl : Ls.length ≤ sizeLine) (hC : ∀ x ∈ C, x < 2 ^ n ∧ clr Ls x = true) (C1 : 1 ≤ C.length) (C2 : C.length ≤ 4096) (B1 : Bs n b1) (B2 : Bs n b2) :
    ∃ c' b1' b2' y2 y6 y7 y8, L_law_4 [s0, s1, s2, some (.lst (C.map ctA)), some (.cell (r.length + 1)), some (.cell (r.length + 1 + 1)), s6, s7, s8, s9, s10, s11, s12, some (bk d n Ls), some (.cell 0), s15, s16] (ST n Ls c r b1 b2) =
      .nx [s0, s1, y2, some (.lst (C.map ctA)), some (.cell (r.length + 1)), some (.cell (r.length + 1 + 1)), y6, y7, y8, s9, s10, s11, s12, some (bk d n Ls), some (.cell 0), s15, s16] (ST n Ls c' r b1' b2') ∧ HandOk c' := by
  obtain ⟨ev, h2, q1, c', b1', b2', y2, y6, y7, y8, rfl, rfl, k, _, _⟩ := sForL_all (g := gN 6) (b := B_law_3) (fun j env h => ∃ c' b1' b2' y2 y6 y7 y8, env = [s0, s1, y2, some (.lst (C.map ctA)), some (.cell (r.length + 1)), some (.cell (r.length + 1 + 1)), y6, y7, y8, s9, s10, s11, s12, some (bk d n Ls), some (.cell 0), s15, s16] ∧ h = ST n Ls c' r b1' b2' ∧ HandOk c' ∧ Bs n b1' ∧ Bs n b2') (xs := rngL 0 4)
    (env := [s0, s1, s2, some (.lst (C.map ctA)), some (.cell (r.length + 1)), some (.cell (r.length + 1 + 1)), s6, s7, s8, s9, s10, s11, s12, some (bk d n Ls), some (.cell 0), s15, s16]) (h := ST n Ls c r b1 b2) (fun j y env h e hI => by
    obtain ⟨c1, b1, b2, y2, y6, y7, y8, rfl, rfl, k, B1, B2⟩ := hI
    obtain ⟨c', b1', b2', z2, z7, z8, e, k', X1, X2⟩ := again_ok (s0 := s0) (s1 := s1) (s2 := y2) (s6 := some y) (s7 := y7) (s8 := y8) (s9 := s9) (s10 := s10) (s11 := s11) (s12 := s12) (s15 := s15) (s16 := s16) (r := r) hd k hn hL hl hC C1 C2 B1 B2
    exact ⟨_, rfl, _, _, .inl e, c', b1', b2', z2, _, z7, z8, rfl, rfl, k', X1, X2⟩) ⟨c, b1, b2, s2, s6, s7, s8, rfl, rfl, hc, B1, B2⟩
  refine ⟨c', b1', b2', y2, y6, y7, y8, ?_, k⟩
  unfold L_law_4 sFor sThen
  rw [rng1 (n := 4) rfl (by decide) (by decide)]
  exact q1
end LW

set_option Elab.async false
set_option linter.all false
set_option maxRecDepth 100000
set_option maxHeartbeats 8000000
namespace LW
open PySem L2 Sim MB
local instance tabN33 : TabT := ⟨[]⟩
variable {n : Nat} {Ls : List Nat}
theorem lcL_P {α : Type} {g : GT} {t : EM Bool} {e : EM AV} {env : AEnv} (I : Hs → Prop) (P : AV → Prop) : ∀ {xs : List AV} {h : Hs}, (∀ x ∈ xs, ∀ h, I h → ∃ e' y h', g x env = some e' ∧ t e' h = .ok true h ∧ e e' h = .ok y h' ∧ P y ∧ I h') → I h → ∃ ys h', lcL g t e env xs h = .ok ys h' ∧ ys.length = xs.length ∧ (∀ y ∈ ys, P y) ∧ I h'
  | [], h, _, hI => ⟨[], h, rfl, rfl, (fun _ q => nomatch q), hI⟩
  | x :: xs, h, hx, hI => by
    obtain ⟨e', y, h2, q1, q2, q3, q4, q5⟩ := hx x List.mem_cons_self h hI
    obtain ⟨ys, h3, r1, r2, r3, r4⟩ := lcL_P (α := α) I P (xs := xs) (h := h2) (fun y hy => hx y (List.mem_cons_of_mem _ hy)) q5
    refine ⟨y :: ys, h3, ?_, by rw [List.length_cons, List.length_cons, r2], fun z hz => ?_, r4⟩
    · unfold lcL
      rw [q1]
      dsimp only [M.bnd]
      rw [noexc_ok q2]
      dsimp only
      rw [if_pos rfl]
      dsimp only [M.bnd]
      rw [noexc_ok q3]
      dsimp only
      rw [r1]
      rfl
    · rcases List.mem_cons.mp hz with rfl | hz
      · exact q4
      · exact r3 z hz
theorem ints_of : ∀ (ys : List AV), (∀ y ∈ ys, ∃ k : Nat, y = .int k ∧ k < 4096) → ∃ xs : List Nat, ys = intL xs ∧ ∀ x ∈ xs, x < 4096
  | [], _ => ⟨[], rfl, fun _ q => nomatch q⟩
  | y :: ys, h => by
    obtain ⟨k, rfl, hk⟩ := h y List.mem_cons_self
    obtain ⟨xs, rfl, hx⟩ := ints_of ys fun z hz => h z (List.mem_cons_of_mem _ hz)
    refine ⟨k :: xs, rfl, fun x q => ?_⟩
    rcases List.mem_cons.mp q with rfl | q
    · exact hk
    · exact hx x q
theorem K5_ok {c : Cell} {r : Hs} {s0 s1 s2 s3 s4 s5 s6 s7 s8 s9 s10 s11 s12 s13 s15 s16 : Option AV} (hc : HandOk c) :
    ∃ xs : List Nat, ∃ c', K_law_5 [s0, s1, s2, s3, s4, s5, s6, s7, s8, s9, s10, s11, s12, s13, some (.cell 0), s15, s16] (c :: r) = .ok (intL xs) (c' :: r) ∧ (∀ x ∈ xs, x < 4096) ∧ xs.length ≤ 5 ∧ HandOk c' := by
  obtain ⟨d, c1, e1, a1, a2, k1⟩ := draw_at (h := c :: r) (n := 0) (many := 6) rfl hc (by decide) (by decide)
  have e1' : callH 2 f__law_draw [.cell 0, .int 6] (c :: r) = .ok (.int d) (c1 :: r) := e1
  obtain ⟨ys, h', q1, q2, q3, c', rfl, q4⟩ := lcL_P (α := Unit) (g := gN 6) (t := mYes) (e := mCall (callH 2 f__law_draw) (aCons (mV 14) (aCons (mC (.int 4096)) aNil))) (env := wipeE [s0, s1, s2, s3, s4, s5, s6, s7, s8, s9, s10, s11, s12, s13, some (.cell 0), s15, s16] [6]) (fun h => ∃ c', h = c' :: r ∧ HandOk c') (fun y => ∃ k : Nat, y = .int k ∧ k < 4096) (xs := rngL 0 d) (h := c1 :: r) (fun p hp h hI => by
    obtain ⟨c2, rfl, k2⟩ := hI
    obtain ⟨f, c3, e2, r1, r2, k3⟩ := draw_at (h := c2 :: r) (n := 0) (many := 4096) rfl k2 (by decide) (by decide)
    have e2' : callH 2 f__law_draw [.cell 0, .int 4096] (c2 :: r) = .ok (.int f) (c3 :: r) := e2
    obtain ⟨k, rfl⟩ := nat_of r1
    exact ⟨_, .int k, c3 :: r, rfl, rfl, by simp only [wipeE, bodyM, sSeq, sIf, sThen, sSet, sRet, sRetN, sNext, sExpr, sPutIx, sAsg, sPar, sAug, sExc, mAnd, mOr, mNot, mIf, mT, mB, mAndV, mOrV, mNotV, m2, m1, mN, mNL, mV, mC, mLst, mTup, mLs, mLC, mLstC, newC, mSl, oNo, oYes, mChain, mChain, mCall, aNil, aCons, M.bnd, M.ret, M.bad, rd, gN, gT, gSeq, mF, frzA, mLM, mLM0, mItS, mItL, mItT, mEnum, mRng1, mRng2, List.map_cons, List.map_nil, List.replicate, List.cons_append, List.nil_append, List.getElem?_cons_zero, List.getElem?_cons_succ, List.set_cons_zero, List.set_cons_succ, List.length_cons, List.length_nil, Option.bind_some, Option.bind_none, Option.map_some, Option.map_none, if_true, if_false, ite_true, ite_false, Bool.false_eq_true, reduceIte, reduceCtorEq, e2'], ⟨k, rfl, by omega⟩, c3, rfl, k3⟩) ⟨c1, rfl, k1⟩
  obtain ⟨xs, rfl, hx⟩ := ints_of ys q3
  rw [rngL_len] at q2
  have l5 : xs.length ≤ 5 := by
    unfold intL at q2
    rw [List.length_map] at q2
    omega
  refine ⟨xs, c', ?_, hx, l5, q4⟩
  unfold K_law_5
  exact mLc_ok (h1 := c1 :: r) (rng1 (by simp only [bodyM, sSeq, sIf, sThen, sSet, sRet, sRetN, sNext, sExpr, sPutIx, sAsg, sPar, sAug, sExc, mAnd, mOr, mNot, mIf, mT, mB, mAndV, mOrV, mNotV, m2, m1, mN, mNL, mV, mC, mLst, mTup, mLs, mLC, mLstC, newC, mSl, oNo, oYes, mChain, mChain, mCall, aNil, aCons, M.bnd, M.ret, M.bad, rd, gN, gT, gSeq, mF, frzA, mLM, mLM0, mItS, mItL, mItT, mEnum, mRng1, mRng2, List.map_cons, List.map_nil, List.replicate, List.cons_append, List.nil_append, List.getElem?_cons_zero, List.getElem?_cons_succ, List.set_cons_zero, List.set_cons_succ, List.length_cons, List.length_nil, Option.bind_some, Option.bind_none, Option.map_some, Option.map_none, if_true, if_false, ite_true, ite_false, Bool.false_eq_true, reduceIte, reduceCtorEq, e1']) a1 (by omega)) (by rw [rngL_len]; exact Nat.le_trans (by omega : _ ≤ 5) (by decide)) q1
def z61 : AV := .lst (List.replicate 61 (.int 0))
theorem mu61 {h : Hs} : mulA h (.lst [.int 0]) (.int 61) = some z61 := by kernel_rfl
theorem neg1 {h : Hs} : negA h (.int 1) = some (.int (-1)) := rfl
theorem sm7 {a b c d e f g : AV} : small [a, b, c, d, e, f, g] = true := by show decide (7 ≤ sizeLine) = true; decide
theorem words0 {c d e : Cell} : neA [c, d, e, .lst wsA] (.cell 3) (.lst wsA) = some (.bl false) := by kernel_rfl
theorem words3 {c d e x y z : Cell} : neA [c, x, y, z, d, e, .lst wsA] (.cell 6) (.lst wsA) = some (.bl false) := by kernel_rfl
theorem lt1 : (1 < sizeLine) = True := by simp; decide
theorem lt2 : (2 < sizeLine) = True := by simp; decide
theorem neA_tuptup {h : Hs} {a b : List (List Int)} : neA h (.tup (a.map tupA)) (.tup (b.map tupA)) = some (.bl (!decide (a = b))) := by
  have sh : ∀ d : List (List Int), SeqAt.shaped (dat (.tup (d.map tupA))) = true := fun d => by
    show SeqAt.shaped (.tuple (dats (d.map tupA))) = true
    unfold SeqAt.shaped
    rw [PyData.canLay0, lay_tups, PyData.depth, Bool.true_and]
    have := depth_tups d
    exact decide_eq_true (by omega)
  have ev : ∀ a b : List (List Int), PyData.eqvAll (dats (a.map tupA)) (dats (b.map tupA)) = decide (a = b) := by
    intro a
    induction a with
    | nil => intro b; cases b <;> rfl
    | cons x xs ih =>
      intro b
      cases b with
      | nil => rfl
      | cons y ys =>
        rw [List.map_cons, List.map_cons, dats, dats, PyData.eqvAll, ih ys, eqv_tup]
        by_cases h : x = y
        · subst h; simp
        · simp [h]
  unfold neA
  show (if SeqAt.shaped (dat (.tup (a.map tupA))) = true ∧ SeqAt.shaped (dat (.tup (b.map tupA))) = true then some (AV.bl (!PyData.eqv (dat (.tup (a.map tupA))) (dat (.tup (b.map tupA))))) else none) = _
  rw [if_pos ⟨sh a, sh b⟩]
  show some (AV.bl (!PyData.eqv (.tuple (dats (a.map tupA))) (.tuple (dats (b.map tupA))))) = _
  rw [PyData.eqv, ev]
theorem neA_ct {h : Hs} {a b : List Nat} : neA h (.tup (a.map ctA)) (.tup (b.map ctA)) = some (.bl (!decide (a.map cr = b.map cr))) := by
  have e : ∀ l : List Nat, l.map ctA = (l.map cr).map tupA := fun l => by rw [List.map_map]; rfl
  rw [e, e, neA_tuptup]
theorem atW {c : Cell} {r : Hs} {b1 b2 : List Nat} {xs : List AV} : (ST n Ls c r b1 b2 ++ [.lst xs])[r.length + 3]? = some (.lst xs) := by
  rw [List.getElem?_append_right (by rw [ST_len]; exact Nat.le_refl _), ST_len, Nat.sub_self]; rfl
theorem setW {c : Cell} {r : Hs} {b1 b2 : List Nat} {x y : Cell} : (ST n Ls c r b1 b2 ++ [x]).set (r.length + 3) y = ST n Ls c r b1 b2 ++ [y] := by
  rw [List.set_append_right _ _ (by rw [ST_len]; exact Nat.le_refl _), ST_len, Nat.sub_self]; rfl
theorem lstW {c : Cell} {r : Hs} {b1 b2 : List Nat} {xs : List AV} : lstOf (ST n Ls c r b1 b2 ++ [.lst xs]) (.cell (r.length + 3)) = some xs := by
  unfold lstOf der
  dsimp only
  rw [atW]
theorem updW {c : Cell} {r : Hs} {b1 b2 : List Nat} {x : AV} {xs : List AV} (h : xs.length < sizeLine) : updL appendA (.cell (r.length + 3)) [x] (ST n Ls c r b1 b2 ++ [.lst xs]) = .ok .non (ST n Ls c r b1 b2 ++ [.lst (xs ++ [x])]) := by
  unfold updL
  dsimp only
  rw [atW]
  dsimp only [appendA]
  rw [if_pos h]
  show Res.ok AV.non ((ST n Ls c r b1 b2 ++ [Cell.lst xs]).set (r.length + 3) (.lst (xs ++ [x]))) = _
  rw [setW]
theorem neW {c : Cell} {r : Hs} {b1 b2 : List Nat} : neA (ST n Ls c r b1 b2 ++ [.lst wsA]) (.cell (r.length + 3)) (.lst wsA) = some (.bl false) := by
  have d : der (ST n Ls c r b1 b2 ++ [.lst wsA]) (.cell (r.length + 3)) = .lst wsA := by
    unfold der
    dsimp only
    rw [atW]
  unfold neA
  rw [d]
  kernel_rfl
theorem clr_zero {Ls : List Nat} (h : ∀ m ∈ Ls, 1 < (cr m).length) : clr Ls 0 = true := by
  rw [← Bool.not_eq_false, clr_false]
  rintro ⟨m, hm, q⟩
  have := h m hm
  have z : m = 0 := Nat.eq_of_testBit_eq fun i => by
    rw [Nat.zero_testBit]
    cases hi : m.testBit i with
    | false => rfl
    | true => have := wi_iff.mp q i hi; rw [Nat.zero_testBit] at this; cases this
  subst z
  have : (cr 0).length = 0 := rfl
  omega
theorem turn_ok {c : Cell} {r : Hs} {s0 s1 s2 s3 s4 s5 s6 s7 s8 s9 s10 s11 s12 s13 s15 s16 : Option AV} (hc : HandOk c) :
    ∃ c' x y z, ∃ y2 y3 y4 y5 y6 y7 y8 y9 y10 y11 y13 y15, B_law_6 [s0, s1, s2, s3, s4, s5, s6, s7, s8, s9, s10, s11, s12, s13, some (.cell 0), s15, s16] (c :: r) = .nx [s0, s1, y2, y3, y4, y5, y6, y7, y8, y9, y10, y11, s12, y13, some (.cell 0), y15, s16] (c' :: (r ++ [x, y, z])) ∧ HandOk c' := by
  have bc : BkC "RawBook" := .inr rfl
  obtain ⟨n, Ls, c1, e1, n2, n7, w1, k1⟩ := lawbook_at (mo := 7) (h := c :: r) (i := 0) (by decide) (by decide) rfl hc
  have e1' : callH 2 f__law_book [.cell 0, .int 7] (c :: r) = .ok (bk "RawBook" n Ls) (c1 :: r) := e1
  have n12 : n ≤ 12 := by omega
  have l6 : 6 ≤ sizeLine := by decide
  have lL := Nat.le_trans w1.len l6
  have p0 : 0 < 2 ^ n := Nat.pow_pos (by decide)
  have cz := clr_zero w1.two
  have hC : ∀ x ∈ (allC n).filter fun b => clr Ls b, x < 2 ^ n ∧ clr Ls x = true := fun x hx => ⟨mem_allC.mp (List.mem_filter.mp hx).1, (List.mem_filter.mp hx).2⟩
  have C0 : 0 ∈ (allC n).filter fun b => clr Ls b := List.mem_filter.mpr ⟨mem_allC.mpr p0, cz⟩
  have C1 : 1 ≤ ((allC n).filter fun b => clr Ls b).length := List.length_pos_of_mem C0
  have C2 : ((allC n).filter fun b => clr Ls b).length ≤ 4096 := Nat.le_trans (List.length_filter_le _ _) (by rw [len_allC]; exact pow12 n12)
  have K0 : ∀ s1 s2 s3 s4 s5 s6 s7 s8 s9 s10 s11 s12 s14 s15 s16 h, K_law_0 [s0, s1, s2, s3, s4, s5, s6, s7, s8, s9, s10, s11, s12, some (bk "RawBook" n Ls), s14, s15, s16] h = .ok (((allC n).filter fun b => clr Ls b).map ctA) h := fun _ _ _ _ _ _ _ _ _ _ _ _ _ _ _ _ => K0_ok bc n12 w1.wb.lt lL
  generalize (allC n).filter (fun b => clr Ls b) = C at hC C1 C2 K0
  obtain ⟨x2, q2, X2⟩ := lw_at (c := c1) (r := r) (b1 := []) (b2 := []) bc n12 w1.wb.lt lL p0 (Bs.nil n)
  have q2' : callS 3 (f__law_wins 16) [bk "RawBook" n Ls, .tup [], .cell (r.length + 1 + 1)] (c1 :: (r ++ [.dct (avK []), .dct (avK [])])) = .ok (.bl (!decide (rk n Ls 0 = 0))) (ST n Ls c1 r [] x2) := q2
  have g1 : ∀ h, callP 1 f_adders_win [bk "RawBook" n Ls] h = .ok (.bl (!decide (rk n Ls 0 = 0))) h := fun h => by
    rw [adders_ok bc n12 lL]
    congr 3
    exact decide_eq_decide.mpr (by omega)
  have g2 : ∀ h, callP 2 f_rank_of [bk "RawBook" n Ls, .tup []] h = .ok (.int (rk n Ls 0 : Nat)) h := fun h => rankof_ok (b := 0) bc n12 p0 lL cz
  have g3 : ∀ h, neA h (.int (rk n Ls 0 : Nat)) (.int 0) = some (.bl (!decide (rk n Ls 0 = 0))) := fun h => by
    rw [neA_int]
    congr 3
    exact decide_eq_decide.mpr (by omega)
  have w5 : ∀ h x, neA h (.bl x) (.bl x) = some (.bl false) := fun h x => by cases x <;> rfl
  obtain ⟨c2, y1, y2, z2, z6, z7, z8, e2, k2⟩ := loop_ok (r := r) (s0 := s0) (s1 := s1) (s2 := s2) (s6 := s6) (s7 := s7) (s8 := s8) (s9 := s9) (s10 := s10) (s11 := s11) (s12 := s12) (s15 := s15) (s16 := s16) bc k1 n12 w1.wb.lt lL hC C1 C2 (Bs.nil n) X2
  obtain ⟨m, Ms, c3, e3, mo2, mo3, w2, k3⟩ := lawbook_at (mo := 3) (h := ST n Ls c2 r y1 y2) (i := 0) (by decide) (by decide) rfl k2
  have e3' : callH 2 f__law_book [.cell 0, .int 3] (ST n Ls c2 r y1 y2) = .ok (bk "RawBook" m Ms) (ST n Ls c3 r y1 y2) := e3
  have mm : m ≤ 3 := by omega
  have nm : n + m ≤ 12 := by omega
  have lM := Nat.le_trans w2.len l6
  have czM := clr_zero w2.two
  obtain ⟨D, f1, MD⟩ := beside_ok (c1 := "RawBook") (c2 := "RawBook") (n1 := n) (n2 := m) (A := Ls) (B := Ms) bc bc nm w1.wb.lt w2.wb.lt (by have := w1.len; have := w2.len; omega)
  have rb := rk_beside nm w1.wb.lt cz czM MD
  have czD : clr D 0 = true := by
    rw [MD.cl]
    have z : (0 : Nat) = J2 n 0 0 := by unfold J2; rw [Nat.mul_zero]
    have := clr_two (A := Ls) (B := Ms) w1.wb.lt (b := 0) (c := 0) p0
    rw [← z, cz, czM] at this
    exact this
  have lD : D.length ≤ sizeLine := by
    have := MD.len
    rw [List.length_append, List.length_map] at this
    have := w1.len
    have := w2.len
    exact Nat.le_trans (by omega : D.length ≤ 12) (by decide)
  have f2 : ∀ h, callP 2 f_rank_of [bk "RawBook" (n + m) D, .tup []] h = .ok (.int (rk (n + m) D 0 : Nat)) h := fun h => rankof_ok (b := 0) bc nm (Nat.pow_pos (by decide)) lD czD
  have f3 : ∀ h, callP 2 f_rank_of [bk "RawBook" m Ms, .tup []] h = .ok (.int (rk m Ms 0 : Nat)) h := fun h => rankof_ok (b := 0) bc (by omega) (Nat.pow_pos (by decide)) lM czM
  have f4 : ∀ h, callP 1 f_sum_of_ranks [.lst [.int (rk n Ls 0 : Nat), .int (rk m Ms 0 : Nat)]] h = .ok (.int (rk (n + m) D 0 : Nat)) h := fun h => by
    have r1 := rk_le (n := n) (Ls := Ls) p0
    have r2 := rk_le (n := m) (Ls := Ms) (b := 0) (Nat.pow_pos (by decide))
    have := xsum_ok (xs := [rk n Ls 0, rk m Ms 0]) (h := h) (.inl rfl) (by show 2 ≤ 60; decide) (fun y hy => by
      rcases List.mem_cons.mp hy with rfl | hy
      · omega
      · rw [List.mem_singleton.mp hy]; omega)
    have xs2 : xsum [rk n Ls 0, rk m Ms 0] = rk (n + m) D 0 := by
      rw [rb]
      show (0 ^^^ rk n Ls 0) ^^^ rk m Ms 0 = _
      rw [Nat.zero_xor]
    rw [xs2] at this
    exact this
  have w4 : ∀ h (x : Int), neA h (.int x) (.int x) = some (.bl false) := fun h x => by rw [neA_int, decide_eq_true rfl]; rfl
  obtain ⟨xs, c4, e4, x4, l5, k4⟩ := K5_ok (c := c3) (r := r ++ [.dct (avT (tab kc (vI n Ls) y1)), .dct (avT (tab kc (vW n Ls) y2))]) (s0 := s0) (s1 := s1) (s2 := z2) (s3 := some (.lst (C.map ctA))) (s4 := some (.cell (r.length + 1))) (s5 := some (.cell (r.length + 1 + 1))) (s6 := z6) (s7 := z7) (s8 := z8) (s9 := some (bk "RawBook" m Ms)) (s10 := s10) (s11 := s11) (s12 := s12) (s13 := some (bk "RawBook" n Ls)) (s15 := s15) (s16 := s16) k3
  have h1 : ∀ h, callP 1 f_sum_of_ranks [.tup (intL xs)] h = .ok (.int (xsum xs : Nat)) h := fun h => xsum_ok (.inr rfl) (by omega) x4
  have h2 : ∀ h, callP 1 f__law_twos [.lst (intL xs)] h = .ok (.int (xsum xs : Nat)) h := fun h => twos_ok (by omega) x4
  have h3 : ∀ h, callP 1 f_sum_of_ranks [.lst (intL (xs ++ xs))] h = .ok (.int 0) h := fun h => by
    have := xsum_ok (xs := xs ++ xs) (h := h) (.inl rfl) (by rw [List.length_append]; omega) (fun y hy => by
      rcases List.mem_append.mp hy with hy | hy <;> exact x4 y hy)
    rw [xsum_twice] at this
    exact this
  have h4 : ∀ h, addA h (.lst (intL xs)) (.lst (intL xs)) = some (.lst (intL (xs ++ xs))) := fun h => by
    have : intL (xs ++ xs) = intL xs ++ intL xs := List.map_append
    rw [this]
    refine addA_lst ?_
    rw [← this]
    unfold intL
    rw [List.length_map, List.length_append]
    exact Nat.le_trans (by omega : _ ≤ 10) (by decide)
  obtain ⟨odd, c5, e5, o1, k5⟩ := any_at (h := ST n Ls c4 r y1 y2) (n := 0) (xs := oddL n) rfl k4 (by show 1 ≤ 7; decide) (by show 7 < 1073741824; decide) rfl
  have e5' : callH 2 f__law_any [.cell 0, .lst [.non, .lst [.int 0], .tup [.int 0, .int 0], .tup [.int n], .tup [.int 1, .int 0], .tup [.bl true], .tup [.int (-1)]]] (ST n Ls c4 r y1 y2) = .ok odd (ST n Ls c5 r y1 y2) := e5
  obtain ⟨on, o2⟩ := odd_facts n2 (by omega) o1
  have o3 : ∀ h, callP 2 f_rank_of [bk "RawBook" n Ls, odd] h = .exc "NoCrowd" [] h := fun h => (rank_no bc on o2).1
  have o4 : ∀ h, callP 2 f_good_adds [bk "RawBook" n Ls, odd] h = .exc "NoCrowd" [] h := fun h => (rank_no bc on o2).2
  obtain ⟨num, c6, e6, o5, k6⟩ := any_at (h := ST n Ls c5 r y1 y2 ++ [.lst [.str "crowd", .str "crowd"]]) (n := 0) (xs := numL) rfl k5 (by decide) (by decide) (by decide)
  have e6' : callH 2 f__law_any [.cell 0, .lst [.non, .lst [.int (-1)], .tup [.int 4096], .lst [.bl true], .str "0", z61]] (ST n Ls c5 r y1 y2 ++ [.lst [.str "crowd", .str "crowd"]]) = .ok num (ST n Ls c6 r y1 y2 ++ [.lst [.str "crowd", .str "crowd"]]) := e6
  obtain ⟨_, o6⟩ := num_facts o5
  have lots : Ls = [] ∨ ∃ b L2, Ls = b :: L2 := by
    cases Ls with
    | nil => exact .inl rfl
    | cons b L2 => exact .inr ⟨b, L2, rfl⟩
  have v1 : ∀ h, neA h (.tup (Ls.map ctA)) (.tup []) = some (.bl (!decide (Ls.map cr = []))) := fun h => neA_ct (b := [])
  have v2 : ∀ h b, b ∈ Ls → callP 2 f_rank_of [bk "RawBook" n Ls, ctA b] h = .exc "NotClear" [] h := fun h b hb => rank_notclear bc n12 (w1.wb.lt b hb) lL (by
    rw [clr_false]
    exact ⟨b, hb, wi_iff.mpr fun i hi => hi⟩)
  have u1 : ∀ x y, updL appendA (.cell (r.length + 3)) [y] (ST n Ls c5 r y1 y2 ++ [.lst [x]]) = .ok .non (ST n Ls c5 r y1 y2 ++ [.lst [x, y]]) := fun x y => updW (by show 1 < sizeLine; decide)
  have u2 : ∀ x y z, updL appendA (.cell (r.length + 3)) [z] (ST n Ls c6 r y1 y2 ++ [.lst [x, y]]) = .ok .non (ST n Ls c6 r y1 y2 ++ [.lst [x, y, z]]) := fun x y z => updW (by show 2 < sizeLine; decide)
  have u3 : neA (ST n Ls c6 r y1 y2 ++ [.lst [.str "crowd", .str "crowd", .str "numbers"]]) (.cell (r.length + 3)) (.lst [.str "crowd", .str "crowd", .str "numbers"]) = some (.bl false) := neW
  have f1' : ∀ h, callP 2 f_beside [bk "RawBook" n Ls, bk "RawBook" m Ms] h = .ok (bk "RawBook" (n + m) D) h := f1
  have e4' : K_law_5 [s0, s1, z2, some (.lst (C.map ctA)), some (.cell (r.length + 1)), some (.cell (r.length + 1 + 1)), z6, z7, z8, some (bk "RawBook" m Ms), s10, s11, s12, some (bk "RawBook" n Ls), some (.cell 0), s15, s16] (ST n Ls c3 r y1 y2) = .ok (intL xs) (ST n Ls c4 r y1 y2) := e4
  refine ⟨c6, .dct (avT (tab kc (vI n Ls) y1)), .dct (avT (tab kc (vW n Ls) y2)), .lst wsA, z2, some (.lst (C.map ctA)), some (.cell (r.length + 1)), some (.cell (r.length + 1 + 1)), z6, z7, z8, some (bk "RawBook" m Ms), some (.lst (intL xs)), some (.cell (r.length + 3)), some (bk "RawBook" n Ls), some odd, ?_, k6⟩
  have fin : ST n Ls c6 r y1 y2 ++ [.lst [.str "crowd", .str "crowd", .str "numbers"]] = c6 :: (r ++ [.dct (avT (tab kc (vI n Ls) y1)), .dct (avT (tab kc (vW n Ls) y2)), .lst wsA]) := by
    unfold ST
    rw [List.cons_append, List.append_assoc]
    rfl
  rw [fin] at u3
  rcases lots with hE | ⟨b, L2, hE⟩
  · have v3 : decide (Ls.map cr = []) = true := by rw [hE]; rfl
    unfold B_law_6
    simp only [bodyM, sSeq, sIf, sThen, sSet, sRet, sRetN, sNext, sExpr, sPutIx, sAsg, sPar, sAug, sExc, mAnd, mOr, mNot, mIf, mT, mB, mAndV, mOrV, mNotV, m2, m1, mN, mNL, mV, mC, mLst, mTup, mLs, mLC, mLstC, newC, mSl, oNo, oYes, mChain, mChain, mCall, aNil, aCons, M.bnd, M.ret, M.bad, rd, gN, gT, gSeq, mF, frzA, mLM, mLM0, mItS, mItL, mItT, mEnum, mRng1, mRng2, List.map_cons, List.map_nil, List.replicate, List.cons_append, List.nil_append, List.getElem?_cons_zero, List.getElem?_cons_succ, List.set_cons_zero, List.set_cons_succ, List.length_cons, List.length_nil, Option.bind_some, Option.bind_none, Option.map_some, Option.map_none, if_true, if_false, ite_true, ite_false, Bool.false_eq_true, reduceIte, reduceCtorEq, e1', K0, sm0, sm2, mDC, mD0, newD, List.append_assoc, List.length_append, Nat.zero_add, q2', g1, g2, g3, w5, e2, e3', f1', f2, f3, f4, w4, e4', tupleA_lst, h1, h2, h4, h3, fld_people bc, fld_lots bc, sm1, neg1, sm7, e5', mLamA, o3, o4, hw1, ST_len, chkL, lstW, u1, mu61, sm6, e6', o6, hw3, u2, sm3, u3, v1, v3, Bool.not_true, fin]
  · have v3 : decide (Ls.map cr = []) = false := by rw [hE]; rfl
    have v4 : ∀ h, ixA h (.tup (Ls.map ctA)) (.int 0) = some (ctA b) := fun h => ixA_tup (by decide) (by rw [hE]; rfl)
    have v5 : ∀ h, callP 2 f_rank_of [bk "RawBook" n Ls, ctA b] h = .exc "NotClear" [] h := fun h => v2 h b (by rw [hE]; exact List.mem_cons_self)
    have v6 : ∀ h, neA h (.str "clear") (.str "clear") = some (.bl false) := fun h => by kernel_rfl
    unfold B_law_6
    simp only [bodyM, sSeq, sIf, sThen, sSet, sRet, sRetN, sNext, sExpr, sPutIx, sAsg, sPar, sAug, sExc, mAnd, mOr, mNot, mIf, mT, mB, mAndV, mOrV, mNotV, m2, m1, mN, mNL, mV, mC, mLst, mTup, mLs, mLC, mLstC, newC, mSl, oNo, oYes, mChain, mChain, mCall, aNil, aCons, M.bnd, M.ret, M.bad, rd, gN, gT, gSeq, mF, frzA, mLM, mLM0, mItS, mItL, mItT, mEnum, mRng1, mRng2, List.map_cons, List.map_nil, List.replicate, List.cons_append, List.nil_append, List.getElem?_cons_zero, List.getElem?_cons_succ, List.set_cons_zero, List.set_cons_succ, List.length_cons, List.length_nil, Option.bind_some, Option.bind_none, Option.map_some, Option.map_none, if_true, if_false, ite_true, ite_false, Bool.false_eq_true, reduceIte, reduceCtorEq, e1', K0, sm0, sm2, mDC, mD0, newD, List.append_assoc, List.length_append, Nat.zero_add, q2', g1, g2, g3, w5, e2, e3', f1', f2, f3, f4, w4, e4', tupleA_lst, h1, h2, h4, h3, fld_people bc, fld_lots bc, sm1, neg1, sm7, e5', mLamA, o3, o4, hw1, ST_len, chkL, lstW, u1, mu61, sm6, e6', o6, hw3, u2, sm3, u3, v1, v3, Bool.not_false, v4, v5, hw2, v6, fin]
end LW

set_option Elab.async false
set_option linter.all false
set_option maxRecDepth 100000
set_option maxHeartbeats 4000000
namespace LW
open PySem L2 Sim MB
local instance tabN34 : TabT := ⟨[]⟩
theorem len63 : (63 : Nat) ≤ sizeLine := by decide
theorem hand_ok {ns : List Int} (hl : ns.length ≤ 63) : ∃ c, f__law_hand [.scr ns] [] = .ok (.cell 0) [c] ∧ HandOk c := by
  have hc : (cutA ns none (some 63)).length ≤ 63 := by
    unfold cutA
    rw [List.length_take, List.length_drop]
    omega
  have e1 : K__law_hand_0 [some (.scr ns), none, none] [] = .ok (((cutA ns none (some 63)).map fun i => if i < 0 then -i else i).map .int) [] := by
    unfold K__law_hand_0
    refine mLc_ok (h1 := []) (xs := (cutA ns none (some 63)).map .int) rfl (by rw [List.length_map]; exact Nat.le_trans hc len63) ?_
    have key := lcL_map (g := gN 2) (e := mN absA (aCons (mN intA (aCons (mV 2) aNil)) aNil)) (env := wipeE [some (.scr ns), none, none] [2]) (h := []) (f := fun x => match x with | .int i => .int (if i < 0 then -i else i) | _ => .non) (xs := (cutA ns none (some 63)).map .int) (fun x hx => by
      obtain ⟨i, hi, rfl⟩ := List.mem_map.mp hx
      refine ⟨_, rfl, ?_⟩
      simp only [wipeE, bodyM, sSeq, sIf, sThen, sSet, sRet, sRetN, sNext, sExpr, sPutIx, sAsg, sPar, sAug, sExc, mAnd, mOr, mNot, mIf, mT, mB, mAndV, mOrV, mNotV, m2, m1, mN, mNL, mV, mC, mLst, mTup, mLs, mLC, mLstC, newC, mSl, oNo, oYes, mChain, mChain, mCall, aNil, aCons, M.bnd, M.ret, M.bad, rd, gN, gT, gSeq, mF, frzA, mLM, mLM0, mItS, mItL, mItT, mEnum, mRng1, mRng2, List.map_cons, List.map_nil, List.replicate, List.cons_append, List.nil_append, List.getElem?_cons_zero, List.getElem?_cons_succ, List.set_cons_zero, List.set_cons_succ, List.length_cons, List.length_nil, Option.bind_some, Option.bind_none, Option.map_some, Option.map_none, if_true, if_false, ite_true, ite_false, Bool.false_eq_true, reduceIte, reduceCtorEq, intA_int, absA])
    rw [key, List.map_map, List.map_map]
    rfl
  have m7 : -(2 ^ 64) < (7 : Int) ∧ (7 : Int) < 2 ^ 64 := by decide
  refine ⟨_, ?_, (cutA ns none (some 63)).map (fun i => if i < 0 then -i else i), 0, 0, 61 + 7 * (((cutA ns none (some 63)).map fun i => if i < 0 then -i else i).length : Int), 0, rfl, by decide, by decide⟩
  unfold f__law_hand m__law_hand
  simp only [bodyM, sSeq, sIf, sThen, sSet, sRet, sRetN, sNext, sExpr, sPutIx, sAsg, sPar, sAug, sExc, mAnd, mOr, mNot, mIf, mT, mB, mAndV, mOrV, mNotV, m2, m1, mN, mNL, mV, mC, mLst, mTup, mLs, mLC, mLstC, newC, mSl, oNo, oYes, mChain, mChain, mCall, aNil, aCons, M.bnd, M.ret, M.bad, rd, gN, gT, gSeq, mF, frzA, mLM, mLM0, mItS, mItL, mItT, mEnum, mRng1, mRng2, List.map_cons, List.map_nil, List.replicate, List.cons_append, List.nil_append, List.getElem?_cons_zero, List.getElem?_cons_succ, List.set_cons_zero, List.set_cons_succ, List.length_cons, List.length_nil, Option.bind_some, Option.bind_none, Option.map_some, Option.map_none, if_true, if_false, ite_true, ite_false, Bool.false_eq_true, reduceIte, reduceCtorEq, e1, lenA_lst, mulA_l m7, addA_int, sm5]
  rw [List.length_map]
  rfl
theorem law_true (ns : List Int) (hl : ns.length ≤ 63) : ∃ h', f_law [.scr ns] [] = .ok (.bl true) h' := by
  obtain ⟨c, e1, k1⟩ := hand_ok hl
  have e1' : callS 1 f__law_hand [.scr ns] [] = .ok (.cell 0) [c] := e1
  obtain ⟨e2, hh, q1, c2, r, x1, y2, y3, y4, y5, y6, y7, y8, y9, y10, y11, y13, y15, rfl, rfl, k2, hr⟩ := sForL_all (g := gN 1) (b := B_law_6) (fun j env h => ∃ c r x1 y2 y3 y4 y5 y6 y7 y8 y9 y10 y11 y13 y15, h = c :: r ∧ env = [some (.scr ns), x1, y2, y3, y4, y5, y6, y7, y8, y9, y10, y11, none, y13, some (.cell 0), y15, none] ∧ HandOk c ∧ (j = 0 → r = []))
    (xs := rngL 0 2) (env := [some (.scr ns), none, none, none, none, none, none, none, none, none, none, none, none, none, some (.cell 0), none, none]) (h := [c]) (fun j x env h e hI => by
      obtain ⟨c, r, x1, y2, y3, y4, y5, y6, y7, y8, y9, y10, y11, y13, y15, rfl, rfl, k, hr⟩ := hI
      obtain ⟨c', a1, a2, a3, z2, z3, z4, z5, z6, z7, z8, z9, z10, z11, z13, z15, q, k'⟩ := turn_ok (r := r) (s0 := some (.scr ns)) (s1 := some x) (s2 := y2) (s3 := y3) (s4 := y4) (s5 := y5) (s6 := y6) (s7 := y7) (s8 := y8) (s9 := y9) (s10 := y10) (s11 := y11) (s12 := none) (s13 := y13) (s15 := y15) (s16 := none) k
      exact ⟨_, rfl, _, _, .inl q, c', _, _, _, _, _, _, _, _, _, _, _, _, _, _, rfl, rfl, k', fun z => nomatch z⟩) ⟨c, [], _, _, _, _, _, _, _, _, _, _, _, _, _, rfl, rfl, k1, fun _ => rfl⟩
  have lp : L_law_7 [some (.scr ns), none, none, none, none, none, none, none, none, none, none, none, none, none, some (.cell 0), none, none] [c] = .nx [some (.scr ns), x1, y2, y3, y4, y5, y6, y7, y8, y9, y10, y11, none, y13, some (.cell 0), y15, none] (c2 :: r) := by
    unfold L_law_7 sFor sThen
    rw [rng1 (n := 2) rfl (by decide) (by decide)]
    exact q1
  obtain ⟨d, c3, e3, a1, a2, k3⟩ := draw_at (h := c2 :: r) (n := 0) (many := 9) rfl k2 (by decide) (by decide)
  have e3' : callH 2 f__law_draw [.cell 0, .int 9] (c2 :: r) = .ok (.int d) (c3 :: r) := e3
  obtain ⟨n, hn⟩ := nat_of (d := 1 + d) (by omega)
  have n9 : n ≤ 9 := by omega
  have n1 : 1 ≤ n := by omega
  have e4 : ∀ s0 s1 s2 s3 s4 s5 s6 s7 s8 s9 s10 s11 s13 s14 s15 s16 h, mMake 3 "Book" f_Book___init__ (aCons (mV 12) (aCons (mTup aNil) aNil)) [s0, s1, s2, s3, s4, s5, s6, s7, s8, s9, s10, s11, some (.int n), s13, s14, s15, s16] h = .ok (bk "Book" n []) h := fun _ _ _ _ _ _ _ _ _ _ _ _ _ _ _ _ h =>
    newbook_ok n1 (by omega) ⟨(fun m hm => nomatch hm), (fun m hm => nomatch hm), List.nodup_nil, List.Pairwise.nil⟩ (fun m hm => nomatch hm) (by decide) (by simp only [bodyM, sSeq, sIf, sThen, sSet, sRet, sRetN, sNext, sExpr, sPutIx, sAsg, sPar, sAug, sExc, mAnd, mOr, mNot, mIf, mT, mB, mAndV, mOrV, mNotV, m2, m1, mN, mNL, mV, mC, mLst, mTup, mLs, mLC, mLstC, newC, mSl, oNo, oYes, mChain, mChain, mCall, aNil, aCons, M.bnd, M.ret, M.bad, rd, gN, gT, gSeq, mF, frzA, mLM, mLM0, mItS, mItL, mItT, mEnum, mRng1, mRng2, List.map_cons, List.map_nil, List.replicate, List.cons_append, List.nil_append, List.getElem?_cons_zero, List.getElem?_cons_succ, List.set_cons_zero, List.set_cons_succ, List.length_cons, List.length_nil, Option.bind_some, Option.bind_none, Option.map_some, Option.map_none, if_true, if_false, ite_true, ite_false, Bool.false_eq_true, reduceIte, reduceCtorEq, sm0])
  have e5 : rk n [] 0 = n % 2 := rk_empty n n 0 (Nat.pow_pos (by decide)) (by show 0 + n = n; omega)
  have e6 : ∀ h, callP 1 f_adders_win [bk "Book" n []] h = .ok (.bl (decide ((n : Int) % 2 = 1))) h := fun h => by
    rw [adders_ok (.inl rfl) (by omega) (by decide), e5]
    congr 2
    rw [Bool.eq_iff_iff, Bool.not_eq_true', decide_eq_false_iff_not, decide_eq_true_iff]
    omega
  have w6 : ∀ h x, eqA h (.bl x) (.bl x) = some (.bl true) := fun h x => by cases x <;> rfl
  refine ⟨c3 :: r, ?_⟩
  unfold f_law m_law
  simp only [bodyM, sSeq, sIf, sThen, sSet, sRet, sRetN, sNext, sExpr, sPutIx, sAsg, sPar, sAug, sExc, mAnd, mOr, mNot, mIf, mT, mB, mAndV, mOrV, mNotV, m2, m1, mN, mNL, mV, mC, mLst, mTup, mLs, mLC, mLstC, newC, mSl, oNo, oYes, mChain, mChain, mCall, aNil, aCons, M.bnd, M.ret, M.bad, rd, gN, gT, gSeq, mF, frzA, mLM, mLM0, mItS, mItL, mItT, mEnum, mRng1, mRng2, List.map_cons, List.map_nil, List.replicate, List.cons_append, List.nil_append, List.getElem?_cons_zero, List.getElem?_cons_succ, List.set_cons_zero, List.set_cons_succ, List.length_cons, List.length_nil, Option.bind_some, Option.bind_none, Option.map_some, Option.map_none, if_true, if_false, ite_true, ite_false, Bool.false_eq_true, reduceIte, reduceCtorEq, e1', lp, e3', addA_int, hn, e4, e6, intA_int, modA_int (by decide : (0 : Int) < 2), eqA_int, w6]
end LW

set_option Elab.async false
set_option linter.all false
set_option maxRecDepth 100000
set_option maxHeartbeats 2000000
open PySem PySem.W PyProof.Rows
theorem LW.excs_mk {K : PySem.W.Frag} {mg : Str → Option Value} {h : Heap} {x_Full x_NoCrowd x_NoHeaps x_NoNumbers x_NoPeople x_NotClear x_LotError x_Book x_RawBook x_Ranks y_Book_keep y_RawBook___init__ y_Ranks___init__ y_Ranks_rank y_Book___init__ : Addr} {od_Book_keep an_Book_keep : Option Addr} {sl_Book_keep : Array (Option Value)} {oc_Book_keep kV_Book_keep dc_Book_keep pm_Book_keep cd_Book_keep ct_Book_keep : Value} {od_RawBook___init__ an_RawBook___init__ : Option Addr} {sl_RawBook___init__ : Array (Option Value)} {oc_RawBook___init__ kV_RawBook___init__ dc_RawBook___init__ pm_RawBook___init__ cd_RawBook___init__ ct_RawBook___init__ : Value} {od_Ranks___init__ an_Ranks___init__ : Option Addr} {sl_Ranks___init__ : Array (Option Value)} {oc_Ranks___init__ kV_Ranks___init__ dc_Ranks___init__ pm_Ranks___init__ cd_Ranks___init__ ct_Ranks___init__ : Value} {od_Ranks_rank an_Ranks_rank : Option Addr} {sl_Ranks_rank : Array (Option Value)} {oc_Ranks_rank kV_Ranks_rank dc_Ranks_rank pm_Ranks_rank cd_Ranks_rank ct_Ranks_rank : Value} {od_Book___init__ an_Book___init__ : Option Addr} {sl_Book___init__ : Array (Option Value)} {oc_Book___init__ kV_Book___init__ dc_Book___init__ pm_Book___init__ cd_Book___init__ ct_Book___init__ : Value} (X : K.In h) (G : h.Ns mainGlobals mg)
    (qe65 : PySem.W.nsIn K mainGlobals "Full" = some (some (.ref x_Full))) (qe70 : PySem.W.nsIn K mainGlobals "NoCrowd" = some (some (.ref x_NoCrowd))) (qe75 : PySem.W.nsIn K mainGlobals "NoHeaps" = some (some (.ref x_NoHeaps))) (qe80 : PySem.W.nsIn K mainGlobals "NoNumbers" = some (some (.ref x_NoNumbers))) (qe85 : PySem.W.nsIn K mainGlobals "NoPeople" = some (some (.ref x_NoPeople))) (qe90 : PySem.W.nsIn K mainGlobals "NotClear" = some (some (.ref x_NotClear))) (qe95 : PySem.W.nsIn K mainGlobals "LotError" = some (some (.ref x_LotError))) (qe132 : PySem.W.nsIn K mainGlobals "Book" = some (some (.ref x_Book))) (qe143 : PySem.W.nsIn K mainGlobals "RawBook" = some (some (.ref x_RawBook))) (qe154 : PySem.W.nsIn K mainGlobals "Ranks" = some (some (.ref x_Ranks))) (qe193 : PySem.W.findIn K (.ref x_Book) "__init__" = some (some (.ref y_Book___init__))) (qe194 : PySem.W.findIn K (.ref x_Book) "keep" = some (some (.ref y_Book_keep))) (qe195 : PySem.W.findIn K (.ref x_Ranks) "__init__" = some (some (.ref y_Ranks___init__))) (qe196 : PySem.W.findIn K (.ref x_Ranks) "rank" = some (some (.ref y_Ranks_rank))) (qe197 : PySem.W.findIn K (.ref x_RawBook) "__init__" = some (some (.ref y_RawBook___init__))) (qe198 : PySem.W.findIn K (.ref x_RawBook) "keep" = some (some (.ref y_Book_keep))) (qe66 : PySem.W.excIn K x_Full [.type "ValueError", .type "Exception", .type "BaseException", .type "object"] "ValueError.__new__" = true) (qe67 : PySem.W.keepIn K (.ref x_Full) = true) (qe68 : PySem.W.subIn K (.ref x_Full) (.type "BaseException") = some true) (qe69 : PySem.W.typeIn K (.ref x_Full) = some (.type "type")) (qe71 : PySem.W.excIn K x_NoCrowd [.type "ValueError", .type "Exception", .type "BaseException", .type "object"] "ValueError.__new__" = true) (qe72 : PySem.W.keepIn K (.ref x_NoCrowd) = true) (qe73 : PySem.W.subIn K (.ref x_NoCrowd) (.type "BaseException") = some true) (qe74 : PySem.W.typeIn K (.ref x_NoCrowd) = some (.type "type")) (qe76 : PySem.W.excIn K x_NoHeaps [.type "ValueError", .type "Exception", .type "BaseException", .type "object"] "ValueError.__new__" = true) (qe77 : PySem.W.keepIn K (.ref x_NoHeaps) = true) (qe78 : PySem.W.subIn K (.ref x_NoHeaps) (.type "BaseException") = some true) (qe79 : PySem.W.typeIn K (.ref x_NoHeaps) = some (.type "type")) (qe81 : PySem.W.excIn K x_NoNumbers [.type "ValueError", .type "Exception", .type "BaseException", .type "object"] "ValueError.__new__" = true) (qe82 : PySem.W.keepIn K (.ref x_NoNumbers) = true) (qe83 : PySem.W.subIn K (.ref x_NoNumbers) (.type "BaseException") = some true) (qe84 : PySem.W.typeIn K (.ref x_NoNumbers) = some (.type "type")) (qe86 : PySem.W.excIn K x_NoPeople [.type "ValueError", .type "Exception", .type "BaseException", .type "object"] "ValueError.__new__" = true) (qe87 : PySem.W.keepIn K (.ref x_NoPeople) = true) (qe88 : PySem.W.subIn K (.ref x_NoPeople) (.type "BaseException") = some true) (qe89 : PySem.W.typeIn K (.ref x_NoPeople) = some (.type "type")) (qe91 : PySem.W.excIn K x_NotClear [.type "ValueError", .type "Exception", .type "BaseException", .type "object"] "ValueError.__new__" = true) (qe92 : PySem.W.keepIn K (.ref x_NotClear) = true) (qe93 : PySem.W.subIn K (.ref x_NotClear) (.type "BaseException") = some true) (qe94 : PySem.W.typeIn K (.ref x_NotClear) = some (.type "type")) (qe96 : PySem.W.hasDictIn K x_NoCrowd = true) (qe97 : PySem.W.findIn K (.ref x_NoCrowd) "__getattribute__" = some (some (.builtin "BaseException.__getattribute__"))) (qe98 : PySem.W.findIn K (.ref x_NoCrowd) "__getattr__" = some none) (qe99 : PySem.W.subIn K (.ref x_NoCrowd) (.type "BaseException") = some true) (qe100 : PySem.W.hasDictIn K x_NoCrowd = true) (qe101 : PySem.W.findIn K (.ref x_NoCrowd) "__class__" = some (some (.builtin "object.__class__"))) (qe102 : PySem.W.specialIn K (.builtin "object.__class__") "__get__" = some (some (.builtin "getset_descriptor.__get__"))) (qe103 : PySem.W.takesIn K (.builtin "object.__class__") = some true) (qe104 : PySem.W.mroIn K x_NoCrowd (.type "object") = some true) (qe105 : PySem.W.kitOne K (.ref x_NoCrowd) (.ref x_LotError) = some true) (qe106 : PySem.W.hasDictIn K x_NotClear = true) (qe107 : PySem.W.findIn K (.ref x_NotClear) "__getattribute__" = some (some (.builtin "BaseException.__getattribute__"))) (qe108 : PySem.W.findIn K (.ref x_NotClear) "__getattr__" = some none) (qe109 : PySem.W.subIn K (.ref x_NotClear) (.type "BaseException") = some true) (qe110 : PySem.W.hasDictIn K x_NotClear = true) (qe111 : PySem.W.findIn K (.ref x_NotClear) "__class__" = some (some (.builtin "object.__class__"))) (qe112 : PySem.W.specialIn K (.builtin "object.__class__") "__get__" = some (some (.builtin "getset_descriptor.__get__"))) (qe113 : PySem.W.takesIn K (.builtin "object.__class__") = some true) (qe114 : PySem.W.mroIn K x_NotClear (.type "object") = some true) (qe115 : PySem.W.kitOne K (.ref x_NotClear) (.ref x_LotError) = some true) (qe116 : PySem.W.hasDictIn K x_NoNumbers = true) (qe117 : PySem.W.findIn K (.ref x_NoNumbers) "__getattribute__" = some (some (.builtin "BaseException.__getattribute__"))) (qe118 : PySem.W.findIn K (.ref x_NoNumbers) "__getattr__" = some none) (qe119 : PySem.W.subIn K (.ref x_NoNumbers) (.type "BaseException") = some true) (qe120 : PySem.W.hasDictIn K x_NoNumbers = true) (qe121 : PySem.W.findIn K (.ref x_NoNumbers) "__class__" = some (some (.builtin "object.__class__"))) (qe122 : PySem.W.specialIn K (.builtin "object.__class__") "__get__" = some (some (.builtin "getset_descriptor.__get__"))) (qe123 : PySem.W.takesIn K (.builtin "object.__class__") = some true) (qe124 : PySem.W.mroIn K x_NoNumbers (.type "object") = some true) (qe125 : PySem.W.kitOne K (.ref x_NoNumbers) (.ref x_LotError) = some true) (qe126 : PySem.W.subIn K (.ref x_NoCrowd) (.ref x_NoCrowd) = some true) (qe127 : PySem.W.subIn K (.ref x_NotClear) (.ref x_NoCrowd) = some false) (qe128 : PySem.W.subIn K (.ref x_NotClear) (.ref x_NotClear) = some true) (qe129 : PySem.W.subIn K (.ref x_NoNumbers) (.ref x_NoCrowd) = some false) (qe130 : PySem.W.subIn K (.ref x_NoNumbers) (.ref x_NotClear) = some false) (qe131 : PySem.W.subIn K (.ref x_NoNumbers) (.ref x_NoNumbers) = some true) (qe133 : PySem.W.plainGet K x_Book Str.empty = true) (qe134 : PySem.W.hasDictIn K x_Book = true) (qe135 : PySem.W.plainOver K x_Book = true) (qe136 : PySem.W.findIn K (.ref x_Book) "__setattr__" = some (some (.builtin "object.__setattr__"))) (qe137 : PySem.W.makesIn K x_Book = true) (qe138 : PySem.W.keepIn K (.ref x_Book) = true) (qe139 : PySem.W.findIn K (.ref x_Book) "__class__" = some (some (.builtin "object.__class__"))) (qe140 : PySem.W.specialIn K (.builtin "object.__class__") "__get__" = some (some (.builtin "getset_descriptor.__get__"))) (qe141 : PySem.W.takesIn K (.builtin "object.__class__") = some true) (qe142 : PySem.W.mroIn K x_Book (.type "object") = some true) (qe144 : PySem.W.plainGet K x_RawBook Str.empty = true) (qe145 : PySem.W.hasDictIn K x_RawBook = true) (qe146 : PySem.W.plainOver K x_RawBook = true) (qe147 : PySem.W.findIn K (.ref x_RawBook) "__setattr__" = some (some (.builtin "object.__setattr__"))) (qe148 : PySem.W.makesIn K x_RawBook = true) (qe149 : PySem.W.keepIn K (.ref x_RawBook) = true) (qe150 : PySem.W.findIn K (.ref x_RawBook) "__class__" = some (some (.builtin "object.__class__"))) (qe151 : PySem.W.specialIn K (.builtin "object.__class__") "__get__" = some (some (.builtin "getset_descriptor.__get__"))) (qe152 : PySem.W.takesIn K (.builtin "object.__class__") = some true) (qe153 : PySem.W.mroIn K x_RawBook (.type "object") = some true) (qe155 : PySem.W.plainGet K x_Ranks Str.empty = true) (qe156 : PySem.W.hasDictIn K x_Ranks = true) (qe157 : PySem.W.plainOver K x_Ranks = true) (qe158 : PySem.W.findIn K (.ref x_Ranks) "__setattr__" = some (some (.builtin "object.__setattr__"))) (qe159 : PySem.W.makesIn K x_Ranks = true) (qe160 : PySem.W.keepIn K (.ref x_Ranks) = true) (qe161 : PySem.W.findIn K (.ref x_Ranks) "__class__" = some (some (.builtin "object.__class__"))) (qe162 : PySem.W.specialIn K (.builtin "object.__class__") "__get__" = some (some (.builtin "getset_descriptor.__get__"))) (qe163 : PySem.W.takesIn K (.builtin "object.__class__") = some true) (qe164 : PySem.W.mroIn K x_Ranks (.type "object") = some true) (qe165 : PySem.W.findIn K (.ref x_Book) "lots" = some none) (qe166 : PySem.W.findIn K (.ref x_Book) "masks" = some none) (qe167 : PySem.W.findIn K (.ref x_Book) "people" = some none) (qe168 : PySem.W.findIn K (.ref x_Ranks) "book" = some none) (qe169 : PySem.W.findIn K (.ref x_Ranks) "known" = some none) (qe170 : PySem.W.findIn K (.ref x_RawBook) "lots" = some none) (qe171 : PySem.W.findIn K (.ref x_RawBook) "masks" = some none) (qe172 : PySem.W.findIn K (.ref x_RawBook) "people" = some none) (qe173 : K.lookup y_Book_keep = some ⟨oc_Book_keep, od_Book_keep, .func (PySem.W.fnOf "keep" "Book.keep" (L2.defArgs (L2.inClass (LW.topS 30) 1)) (L2.defBody (L2.inClass (LW.topS 30) 1)) (L2.defScope (L2.inClass (LW.topS 30) 1)) .none kV_Book_keep dc_Book_keep pm_Book_keep an_Book_keep cd_Book_keep ct_Book_keep), sl_Book_keep⟩) (qe174 : PySem.W.codeIn K cd_Book_keep "Book.keep" = true) (qe175 : PySem.W.keepIn K (.ref y_Book_keep) = true) (qe176 : PySem.W.isFn K (.ref y_Book_keep) = true) (qe177 : K.lookup y_RawBook___init__ = some ⟨oc_RawBook___init__, od_RawBook___init__, .func (PySem.W.fnOf "__init__" "RawBook.__init__" (L2.defArgs (L2.inClass (LW.topS 31) 0)) (L2.defBody (L2.inClass (LW.topS 31) 0)) (L2.defScope (L2.inClass (LW.topS 31) 0)) .none kV_RawBook___init__ dc_RawBook___init__ pm_RawBook___init__ an_RawBook___init__ cd_RawBook___init__ ct_RawBook___init__), sl_RawBook___init__⟩) (qe178 : PySem.W.codeIn K cd_RawBook___init__ "RawBook.__init__" = true) (qe179 : PySem.W.keepIn K (.ref y_RawBook___init__) = true) (qe180 : PySem.W.isFn K (.ref y_RawBook___init__) = true) (qe181 : K.lookup y_Ranks___init__ = some ⟨oc_Ranks___init__, od_Ranks___init__, .func (PySem.W.fnOf "__init__" "Ranks.__init__" (L2.defArgs (L2.inClass (LW.topS 42) 0)) (L2.defBody (L2.inClass (LW.topS 42) 0)) (L2.defScope (L2.inClass (LW.topS 42) 0)) .none kV_Ranks___init__ dc_Ranks___init__ pm_Ranks___init__ an_Ranks___init__ cd_Ranks___init__ ct_Ranks___init__), sl_Ranks___init__⟩) (qe182 : PySem.W.codeIn K cd_Ranks___init__ "Ranks.__init__" = true) (qe183 : PySem.W.keepIn K (.ref y_Ranks___init__) = true) (qe184 : PySem.W.isFn K (.ref y_Ranks___init__) = true) (qe185 : K.lookup y_Ranks_rank = some ⟨oc_Ranks_rank, od_Ranks_rank, .func (PySem.W.fnOf "rank" "Ranks.rank" (L2.defArgs (L2.inClass (LW.topS 42) 1)) (L2.defBody (L2.inClass (LW.topS 42) 1)) (L2.defScope (L2.inClass (LW.topS 42) 1)) .none kV_Ranks_rank dc_Ranks_rank pm_Ranks_rank an_Ranks_rank cd_Ranks_rank ct_Ranks_rank), sl_Ranks_rank⟩) (qe186 : PySem.W.codeIn K cd_Ranks_rank "Ranks.rank" = true) (qe187 : PySem.W.keepIn K (.ref y_Ranks_rank) = true) (qe188 : PySem.W.isFn K (.ref y_Ranks_rank) = true) (qe189 : K.lookup y_Book___init__ = some ⟨oc_Book___init__, od_Book___init__, .func (PySem.W.fnOf "__init__" "Book.__init__" (L2.defArgs (L2.inClass (LW.topS 30) 0)) (L2.defBody (L2.inClass (LW.topS 30) 0)) (L2.defScope (L2.inClass (LW.topS 30) 0)) .none kV_Book___init__ dc_Book___init__ pm_Book___init__ an_Book___init__ cd_Book___init__ ct_Book___init__), sl_Book___init__⟩) (qe190 : PySem.W.codeIn K cd_Book___init__ "Book.__init__" = true) (qe191 : PySem.W.keepIn K (.ref y_Book___init__) = true) (qe192 : PySem.W.isFn K (.ref y_Book___init__) = true) :
    ∃ x_Full x_NoCrowd x_NoHeaps x_NoNumbers x_NoPeople x_NotClear x_LotError x_Book x_RawBook x_Ranks y_Book_keep y_RawBook___init__ y_Ranks___init__ y_Ranks_rank y_Book___init__ : Addr, Sim.ExF K mg "Full" x_Full ∧ Sim.ExF K mg "NoCrowd" x_NoCrowd ∧ Sim.ExF K mg "NoHeaps" x_NoHeaps ∧ Sim.ExF K mg "NoNumbers" x_NoNumbers ∧ Sim.ExF K mg "NoPeople" x_NoPeople ∧ Sim.ExF K mg "NotClear" x_NotClear ∧ mg "LotError" = some (.ref x_LotError) ∧ PySem.W.hasDictIn K x_NoCrowd = true ∧ L2.ExcC K x_NoCrowd ∧ PySem.W.kitOne K (.ref x_NoCrowd) (.ref x_LotError) = some true ∧ PySem.W.hasDictIn K x_NotClear = true ∧ L2.ExcC K x_NotClear ∧ PySem.W.kitOne K (.ref x_NotClear) (.ref x_LotError) = some true ∧ PySem.W.hasDictIn K x_NoNumbers = true ∧ L2.ExcC K x_NoNumbers ∧ PySem.W.kitOne K (.ref x_NoNumbers) (.ref x_LotError) = some true ∧ PySem.W.subIn K (.ref x_NoCrowd) (.ref x_NoCrowd) = some true ∧ PySem.W.subIn K (.ref x_NotClear) (.ref x_NoCrowd) = some false ∧ PySem.W.subIn K (.ref x_NotClear) (.ref x_NotClear) = some true ∧ PySem.W.subIn K (.ref x_NoNumbers) (.ref x_NoCrowd) = some false ∧ PySem.W.subIn K (.ref x_NoNumbers) (.ref x_NotClear) = some false ∧ PySem.W.subIn K (.ref x_NoNumbers) (.ref x_NoNumbers) = some true ∧ Sim.ClsF K mg "Book" x_Book ∧ Sim.ClsF K mg "RawBook" x_RawBook ∧ Sim.ClsF K mg "Ranks" x_Ranks ∧ L2.NoAttr K x_Book "lots" ∧ L2.NoAttr K x_Book "masks" ∧ L2.NoAttr K x_Book "people" ∧ L2.NoAttr K x_Ranks "book" ∧ L2.NoAttr K x_Ranks "known" ∧ L2.NoAttr K x_RawBook "lots" ∧ L2.NoAttr K x_RawBook "masks" ∧ L2.NoAttr K x_RawBook "people" ∧ Sim.FunY K y_Book_keep "keep" "Book.keep" (L2.inClass (LW.topS 30) 1) ["self", "people", "lots"] ∧ PySem.W.isFn K (.ref y_Book_keep) = true ∧ Sim.FunY K y_RawBook___init__ "__init__" "RawBook.__init__" (L2.inClass (LW.topS 31) 0) ["self", "people", "lots"] ∧ PySem.W.isFn K (.ref y_RawBook___init__) = true ∧ Sim.FunY K y_Ranks___init__ "__init__" "Ranks.__init__" (L2.inClass (LW.topS 42) 0) ["self", "book"] ∧ PySem.W.isFn K (.ref y_Ranks___init__) = true ∧ Sim.FunY K y_Ranks_rank "rank" "Ranks.rank" (L2.inClass (LW.topS 42) 1) ["self", "bits"] ∧ PySem.W.isFn K (.ref y_Ranks_rank) = true ∧ Sim.FunY K y_Book___init__ "__init__" "Book.__init__" (L2.inClass (LW.topS 30) 0) ["self", "people", "lots"] ∧ PySem.W.isFn K (.ref y_Book___init__) = true ∧ PySem.W.findIn K (.ref x_Book) "__init__" = some (some (.ref y_Book___init__)) ∧ PySem.W.findIn K (.ref x_Book) "keep" = some (some (.ref y_Book_keep)) ∧ PySem.W.findIn K (.ref x_Ranks) "__init__" = some (some (.ref y_Ranks___init__)) ∧ PySem.W.findIn K (.ref x_Ranks) "rank" = some (some (.ref y_Ranks_rank)) ∧ PySem.W.findIn K (.ref x_RawBook) "__init__" = some (some (.ref y_RawBook___init__)) ∧ PySem.W.findIn K (.ref x_RawBook) "keep" = some (some (.ref y_Book_keep)) := ⟨x_Full, x_NoCrowd, x_NoHeaps, x_NoNumbers, x_NoPeople, x_NotClear, x_LotError, x_Book, x_RawBook, x_Ranks, y_Book_keep, y_RawBook___init__, y_Ranks___init__, y_Ranks_rank, y_Book___init__, ⟨PySem.W.mg_of X G qe65, qe66, qe67, qe68, qe69⟩, ⟨PySem.W.mg_of X G qe70, qe71, qe72, qe73, qe74⟩, ⟨PySem.W.mg_of X G qe75, qe76, qe77, qe78, qe79⟩, ⟨PySem.W.mg_of X G qe80, qe81, qe82, qe83, qe84⟩, ⟨PySem.W.mg_of X G qe85, qe86, qe87, qe88, qe89⟩, ⟨PySem.W.mg_of X G qe90, qe91, qe92, qe93, qe94⟩, PySem.W.mg_of X G qe95, qe96, ⟨qe97, qe98, qe99, qe100, qe101, qe102, qe103, qe104⟩, qe105, qe106, ⟨qe107, qe108, qe109, qe110, qe111, qe112, qe113, qe114⟩, qe115, qe116, ⟨qe117, qe118, qe119, qe120, qe121, qe122, qe123, qe124⟩, qe125, qe126, qe127, qe128, qe129, qe130, qe131, ⟨PySem.W.mg_of X G qe132, ⟨qe133, qe134, qe135, qe136⟩, qe137, qe138, qe139, qe140, qe141, qe142⟩, ⟨PySem.W.mg_of X G qe143, ⟨qe144, qe145, qe146, qe147⟩, qe148, qe149, qe150, qe151, qe152, qe153⟩, ⟨PySem.W.mg_of X G qe154, ⟨qe155, qe156, qe157, qe158⟩, qe159, qe160, qe161, qe162, qe163, qe164⟩, qe165, qe166, qe167, qe168, qe169, qe170, qe171, qe172, Sim.funY_mk (fun _ _ _ _ _ _ us hl => match us, hl with | [_, _, _], _ => rfl) qe173 qe174 qe175, qe176, Sim.funY_mk (fun _ _ _ _ _ _ us hl => match us, hl with | [_, _, _], _ => rfl) qe177 qe178 qe179, qe180, Sim.funY_mk (fun _ _ _ _ _ _ us hl => match us, hl with | [_, _], _ => rfl) qe181 qe182 qe183, qe184, Sim.funY_mk (fun _ _ _ _ _ _ us hl => match us, hl with | [_, _], _ => rfl) qe185 qe186 qe187, qe188, Sim.funY_mk (fun _ _ _ _ _ _ us hl => match us, hl with | [_, _, _], _ => rfl) qe189 qe190 qe191, qe192, qe193, qe194, qe195, qe196, qe197, qe198⟩
set_option maxHeartbeats 0 in
theorem PySem.Challenge.cw_clearhall_k91_whole_who_adds_last_holds : PySem.Challenge.rw_clearhall_k91_whole_who_adds_last.Holds := by
  w_on; o_law; k_head; (case hw => w_witness2)
  k_fill
  refine Sim.walk_end (l := PySem.Challenge.rw_clearhall_k91_whole_who_adds_last) (n := 63) (k := 24) (x := "script") (f := LW.f_law) rfl (by decide) rfl ⟨rfl, by decide, by decide⟩ (fun w h Y => PySem.W.km_in_of Y) ?simF ?simM
  case simM => exact (fun ns hl _ => LW.law_true ns hl)
  case simF =>
    intro w s0 mg mb fa h G Y KX Gn hmg
    obtain ⟨F_is_integer⟩ : Nonempty (Sim.FunG _ mg "is_integer" "is_integer" (LW.topS 12) ["thing"]) := by
      refine' Sim.funG_mk KX Gn (fun _ _ _ _ _ _ us hl => match us, hl with | [_], _ => rfl) ?qa4 ?ql4 ?qc4 ?qk4
      (case qa4 => k_is); (case ql4 => k_is); (case qc4 => k_is); (case qk4 => k_is)
    obtain ⟨F_is_within⟩ : Nonempty (Sim.FunG _ mg "is_within" "is_within" (LW.topS 13) ["thing", "least", "most"]) := by
      refine' Sim.funG_mk KX Gn (fun _ _ _ _ _ _ us hl => match us, hl with | [_, _, _], _ => rfl) ?qa5 ?ql5 ?qc5 ?qk5
      (case qa5 => k_is); (case ql5 => k_is); (case qc5 => k_is); (case qk5 => k_is)
    obtain ⟨F_is_listed⟩ : Nonempty (Sim.FunG _ mg "is_listed" "is_listed" (LW.topS 14) ["thing"]) := by
      refine' Sim.funG_mk KX Gn (fun _ _ _ _ _ _ us hl => match us, hl with | [_], _ => rfl) ?qa6 ?ql6 ?qc6 ?qk6
      (case qa6 => k_is); (case ql6 => k_is); (case qc6 => k_is); (case qk6 => k_is)
    obtain ⟨F_are_ascending⟩ : Nonempty (Sim.FunG _ mg "are_ascending" "are_ascending" (LW.topS 15) ["things"]) := by
      refine' Sim.funG_mk KX Gn (fun _ _ _ _ _ _ us hl => match us, hl with | [_], _ => rfl) ?qa7 ?ql7 ?qc7 ?qk7
      (case qa7 => k_is); (case ql7 => k_is); (case qc7 => k_is); (case qk7 => k_is)
    obtain ⟨F_are_persons⟩ : Nonempty (Sim.FunG _ mg "are_persons" "are_persons" (LW.topS 16) ["people", "thing"]) := by
      refine' Sim.funG_mk KX Gn (fun _ _ _ _ _ _ us hl => match us, hl with | [_, _], _ => rfl) ?qa8 ?ql8 ?qc8 ?qk8
      (case qa8 => k_is); (case ql8 => k_is); (case qc8 => k_is); (case qk8 => k_is)
    obtain ⟨F_is_crowd⟩ : Nonempty (Sim.FunG _ mg "is_crowd" "is_crowd" (LW.topS 17) ["people", "thing"]) := by
      refine' Sim.funG_mk KX Gn (fun _ _ _ _ _ _ us hl => match us, hl with | [_, _], _ => rfl) ?qa9 ?ql9 ?qc9 ?qk9
      (case qa9 => k_is); (case ql9 => k_is); (case qc9 => k_is); (case qk9 => k_is)
    obtain ⟨F_is_lot⟩ : Nonempty (Sim.FunG _ mg "is_lot" "is_lot" (LW.topS 18) ["people", "thing"]) := by
      refine' Sim.funG_mk KX Gn (fun _ _ _ _ _ _ us hl => match us, hl with | [_, _], _ => rfl) ?qa10 ?ql10 ?qc10 ?qk10
      (case qa10 => k_is); (case ql10 => k_is); (case qc10 => k_is); (case qk10 => k_is)
    obtain ⟨F_check_crowd⟩ : Nonempty (Sim.FunG _ mg "check_crowd" "check_crowd" (LW.topS 19) ["people", "thing"]) := by
      refine' Sim.funG_mk KX Gn (fun _ _ _ _ _ _ us hl => match us, hl with | [_, _], _ => rfl) ?qa11 ?ql11 ?qc11 ?qk11
      (case qa11 => k_is); (case ql11 => k_is); (case qc11 => k_is); (case qk11 => k_is)
    obtain ⟨F_check_people⟩ : Nonempty (Sim.FunG _ mg "check_people" "check_people" (LW.topS 20) ["thing", "most"]) := by
      refine' Sim.funG_mk KX Gn (fun _ _ _ _ _ _ us hl => match us, hl with | [_, _], _ => rfl) ?qa12 ?ql12 ?qc12 ?qk12
      (case qa12 => k_is); (case ql12 => k_is); (case qc12 => k_is); (case qk12 => k_is)
    obtain ⟨F_check_many⟩ : Nonempty (Sim.FunG _ mg "check_many" "check_many" (LW.topS 21) ["number", "most"]) := by
      refine' Sim.funG_mk KX Gn (fun _ _ _ _ _ _ us hl => match us, hl with | [_, _], _ => rfl) ?qa13 ?ql13 ?qc13 ?qk13
      (case qa13 => k_is); (case ql13 => k_is); (case qc13 => k_is); (case qk13 => k_is)
    obtain ⟨F_bits_of⟩ : Nonempty (Sim.FunG _ mg "bits_of" "bits_of" (LW.topS 22) ["crowd"]) := by
      refine' Sim.funG_mk KX Gn (fun _ _ _ _ _ _ us hl => match us, hl with | [_], _ => rfl) ?qa14 ?ql14 ?qc14 ?qk14
      (case qa14 => k_is); (case ql14 => k_is); (case qc14 => k_is); (case qk14 => k_is)
    obtain ⟨F_crowd_of⟩ : Nonempty (Sim.FunG _ mg "crowd_of" "crowd_of" (LW.topS 23) ["bits"]) := by
      refine' Sim.funG_mk KX Gn (fun _ _ _ _ _ _ us hl => match us, hl with | [_], _ => rfl) ?qa15 ?ql15 ?qc15 ?qk15
      (case qa15 => k_is); (case ql15 => k_is); (case qc15 => k_is); (case qk15 => k_is)
    obtain ⟨F_holds⟩ : Nonempty (Sim.FunG _ mg "holds" "holds" (LW.topS 24) ["bits", "some"]) := by
      refine' Sim.funG_mk KX Gn (fun _ _ _ _ _ _ us hl => match us, hl with | [_, _], _ => rfl) ?qa16 ?ql16 ?qc16 ?qk16
      (case qa16 => k_is); (case ql16 => k_is); (case qc16 => k_is); (case qk16 => k_is)
    obtain ⟨F_all_of⟩ : Nonempty (Sim.FunG _ mg "all_of" "all_of" (LW.topS 25) ["people"]) := by
      refine' Sim.funG_mk KX Gn (fun _ _ _ _ _ _ us hl => match us, hl with | [_], _ => rfl) ?qa17 ?ql17 ?qc17 ?qk17
      (case qa17 => k_is); (case ql17 => k_is); (case qc17 => k_is); (case qk17 => k_is)
    obtain ⟨F_first_wrong_lot⟩ : Nonempty (Sim.FunG _ mg "first_wrong_lot" "first_wrong_lot" (LW.topS 29) ["people", "lots"]) := by
      refine' Sim.funG_mk KX Gn (fun _ _ _ _ _ _ us hl => match us, hl with | [_, _], _ => rfl) ?qa18 ?ql18 ?qc18 ?qk18
      (case qa18 => k_is); (case ql18 => k_is); (case qc18 => k_is); (case qk18 => k_is)
    obtain ⟨F_is_clear_bits⟩ : Nonempty (Sim.FunG _ mg "is_clear_bits" "is_clear_bits" (LW.topS 32) ["book", "bits"]) := by
      refine' Sim.funG_mk KX Gn (fun _ _ _ _ _ _ us hl => match us, hl with | [_, _], _ => rfl) ?qa19 ?ql19 ?qc19 ?qk19
      (case qa19 => k_is); (case ql19 => k_is); (case qc19 => k_is); (case qk19 => k_is)
    obtain ⟨F_is_clear⟩ : Nonempty (Sim.FunG _ mg "is_clear" "is_clear" (LW.topS 33) ["book", "thing"]) := by
      refine' Sim.funG_mk KX Gn (fun _ _ _ _ _ _ us hl => match us, hl with | [_, _], _ => rfl) ?qa20 ?ql20 ?qc20 ?qk20
      (case qa20 => k_is); (case ql20 => k_is); (case qc20 => k_is); (case qk20 => k_is)
    obtain ⟨F_minimal⟩ : Nonempty (Sim.FunG _ mg "minimal" "minimal" (LW.topS 34) ["heaps"]) := by
      refine' Sim.funG_mk KX Gn (fun _ _ _ _ _ _ us hl => match us, hl with | [_], _ => rfl) ?qa21 ?ql21 ?qc21 ?qk21
      (case qa21 => k_is); (case ql21 => k_is); (case qc21 => k_is); (case qk21 => k_is)
    obtain ⟨F_made_of⟩ : Nonempty (Sim.FunG _ mg "made_of" "made_of" (LW.topS 35) ["people", "heaps"]) := by
      refine' Sim.funG_mk KX Gn (fun _ _ _ _ _ _ us hl => match us, hl with | [_, _], _ => rfl) ?qa22 ?ql22 ?qc22 ?qk22
      (case qa22 => k_is); (case ql22 => k_is); (case qc22 => k_is); (case qk22 => k_is)
    obtain ⟨F_book_of⟩ : Nonempty (Sim.FunG _ mg "book_of" "book_of" (LW.topS 36) ["people", "heaps"]) := by
      refine' Sim.funG_mk KX Gn (fun _ _ _ _ _ _ us hl => match us, hl with | [_, _], _ => rfl) ?qa23 ?ql23 ?qc23 ?qk23
      (case qa23 => k_is); (case ql23 => k_is); (case qc23 => k_is); (case qk23 => k_is)
    obtain ⟨F_adds_from⟩ : Nonempty (Sim.FunG _ mg "adds_from" "adds_from" (LW.topS 40) ["book", "bits"]) := by
      refine' Sim.funG_mk KX Gn (fun _ _ _ _ _ _ us hl => match us, hl with | [_, _], _ => rfl) ?qa24 ?ql24 ?qc24 ?qk24
      (case qa24 => k_is); (case ql24 => k_is); (case qc24 => k_is); (case qk24 => k_is)
    obtain ⟨F_least_not⟩ : Nonempty (Sim.FunG _ mg "least_not" "least_not" (LW.topS 41) ["some"]) := by
      refine' Sim.funG_mk KX Gn (fun _ _ _ _ _ _ us hl => match us, hl with | [_], _ => rfl) ?qa25 ?ql25 ?qc25 ?qk25
      (case qa25 => k_is); (case ql25 => k_is); (case qc25 => k_is); (case qk25 => k_is)
    obtain ⟨F_check_clear⟩ : Nonempty (Sim.FunG _ mg "check_clear" "check_clear" (LW.topS 43) ["book", "crowd"]) := by
      refine' Sim.funG_mk KX Gn (fun _ _ _ _ _ _ us hl => match us, hl with | [_, _], _ => rfl) ?qa26 ?ql26 ?qc26 ?qk26
      (case qa26 => k_is); (case ql26 => k_is); (case qc26 => k_is); (case qk26 => k_is)
    obtain ⟨F_rank_of⟩ : Nonempty (Sim.FunG _ mg "rank_of" "rank_of" (LW.topS 44) ["book", "crowd"]) := by
      refine' Sim.funG_mk KX Gn (fun _ _ _ _ _ _ us hl => match us, hl with | [_, _], _ => rfl) ?qa27 ?ql27 ?qc27 ?qk27
      (case qa27 => k_is); (case ql27 => k_is); (case qc27 => k_is); (case qk27 => k_is)
    obtain ⟨F_adders_win⟩ : Nonempty (Sim.FunG _ mg "adders_win" "adders_win" (LW.topS 45) ["book"]) := by
      refine' Sim.funG_mk KX Gn (fun _ _ _ _ _ _ us hl => match us, hl with | [_], _ => rfl) ?qa28 ?ql28 ?qc28 ?qk28
      (case qa28 => k_is); (case ql28 => k_is); (case qc28 => k_is); (case qk28 => k_is)
    obtain ⟨F_good_adds⟩ : Nonempty (Sim.FunG _ mg "good_adds" "good_adds" (LW.topS 46) ["book", "crowd"]) := by
      refine' Sim.funG_mk KX Gn (fun _ _ _ _ _ _ us hl => match us, hl with | [_, _], _ => rfl) ?qa29 ?ql29 ?qc29 ?qk29
      (case qa29 => k_is); (case ql29 => k_is); (case qc29 => k_is); (case qk29 => k_is)
    obtain ⟨F_sum_of_ranks⟩ : Nonempty (Sim.FunG _ mg "sum_of_ranks" "sum_of_ranks" (LW.topS 47) ["numbers"]) := by
      refine' Sim.funG_mk KX Gn (fun _ _ _ _ _ _ us hl => match us, hl with | [_], _ => rfl) ?qa30 ?ql30 ?qc30 ?qk30
      (case qa30 => k_is); (case ql30 => k_is); (case qc30 => k_is); (case qk30 => k_is)
    obtain ⟨F_shifted⟩ : Nonempty (Sim.FunG _ mg "shifted" "shifted" (LW.topS 49) ["book", "by"]) := by
      refine' Sim.funG_mk KX Gn (fun _ _ _ _ _ _ us hl => match us, hl with | [_, _], _ => rfl) ?qa31 ?ql31 ?qc31 ?qk31
      (case qa31 => k_is); (case ql31 => k_is); (case qc31 => k_is); (case qk31 => k_is)
    obtain ⟨F_check_room⟩ : Nonempty (Sim.FunG _ mg "check_room" "check_room" (LW.topS 50) ["one", "other"]) := by
      refine' Sim.funG_mk KX Gn (fun _ _ _ _ _ _ us hl => match us, hl with | [_, _], _ => rfl) ?qa32 ?ql32 ?qc32 ?qk32
      (case qa32 => k_is); (case ql32 => k_is); (case qc32 => k_is); (case qk32 => k_is)
    obtain ⟨F_beside⟩ : Nonempty (Sim.FunG _ mg "beside" "beside" (LW.topS 51) ["one", "other"]) := by
      refine' Sim.funG_mk KX Gn (fun _ _ _ _ _ _ us hl => match us, hl with | [_, _], _ => rfl) ?qa33 ?ql33 ?qc33 ?qk33
      (case qa33 => k_is); (case ql33 => k_is); (case qc33 => k_is); (case qk33 => k_is)
    obtain ⟨F__law_hand⟩ : Nonempty (Sim.FunG _ mg "_law_hand" "_law_hand" (LW.topS 53) ["script"]) := by
      refine' Sim.funG_mk KX Gn (fun _ _ _ _ _ _ us hl => match us, hl with | [_], _ => rfl) ?qa34 ?ql34 ?qc34 ?qk34
      (case qa34 => k_is); (case ql34 => k_is); (case qc34 => k_is); (case qk34 => k_is)
    obtain ⟨F__law_draw⟩ : Nonempty (Sim.FunG _ mg "_law_draw" "_law_draw" (LW.topS 54) ["hand", "many"]) := by
      refine' Sim.funG_mk KX Gn (fun _ _ _ _ _ _ us hl => match us, hl with | [_, _], _ => rfl) ?qa35 ?ql35 ?qc35 ?qk35
      (case qa35 => k_is); (case ql35 => k_is); (case qc35 => k_is); (case qk35 => k_is)
    obtain ⟨F__law_any⟩ : Nonempty (Sim.FunG _ mg "_law_any" "_law_any" (LW.topS 55) ["hand", "some"]) := by
      refine' Sim.funG_mk KX Gn (fun _ _ _ _ _ _ us hl => match us, hl with | [_, _], _ => rfl) ?qa36 ?ql36 ?qc36 ?qk36
      (case qa36 => k_is); (case ql36 => k_is); (case qc36 => k_is); (case qk36 => k_is)
    obtain ⟨F__law_book⟩ : Nonempty (Sim.FunG _ mg "_law_book" "_law_book" (LW.topS 56) ["hand", "most"]) := by
      refine' Sim.funG_mk KX Gn (fun _ _ _ _ _ _ us hl => match us, hl with | [_, _], _ => rfl) ?qa37 ?ql37 ?qc37 ?qk37
      (case qa37 => k_is); (case ql37 => k_is); (case qc37 => k_is); (case qk37 => k_is)
    obtain ⟨F__law_crowds⟩ : Nonempty (Sim.FunLP _ mg h "_law_crowds" "_law_crowds" (LW.topS 57) ["people"] _) := by
      refine' Sim.funLP_mk KX Gn (fun _ _ _ _ _ _ us hl => match us, hl with | [_], _ => rfl) ?qa38 ?ql38 ?qc38 ?qk38 (PySem.W.km_tabs_of Y _ (List.mem_cons_self)) ?qC38 ?qn38
      (case qa38 => k_is); (case ql38 => k_is); (case qc38 => k_is); (case qk38 => k_is)
      (case qC38 => kernel_rfl)
      (case qn38 => kernel_rfl)
    obtain ⟨F__law_is_clear⟩ : Nonempty (Sim.FunG _ mg "_law_is_clear" "_law_is_clear" (LW.topS 58) ["book", "crowd"]) := by
      refine' Sim.funG_mk KX Gn (fun _ _ _ _ _ _ us hl => match us, hl with | [_, _], _ => rfl) ?qa39 ?ql39 ?qc39 ?qk39
      (case qa39 => k_is); (case ql39 => k_is); (case qc39 => k_is); (case qk39 => k_is)
    obtain ⟨F__law_next⟩ : Nonempty (Sim.FunG _ mg "_law_next" "_law_next" (LW.topS 59) ["book", "crowd"]) := by
      refine' Sim.funG_mk KX Gn (fun _ _ _ _ _ _ us hl => match us, hl with | [_, _], _ => rfl) ?qa40 ?ql40 ?qc40 ?qk40
      (case qa40 => k_is); (case ql40 => k_is); (case qc40 => k_is); (case qk40 => k_is)
    obtain ⟨F__law_rank⟩ : Nonempty (Sim.FunG _ mg "_law_rank" "_law_rank" (LW.topS 60) ["book", "crowd", "known"]) := by
      refine' Sim.funG_mk KX Gn (fun _ _ _ _ _ _ us hl => match us, hl with | [_, _, _], _ => rfl) ?qa41 ?ql41 ?qc41 ?qk41
      (case qa41 => k_is); (case ql41 => k_is); (case qc41 => k_is); (case qk41 => k_is)
    obtain ⟨F__law_wins⟩ : Nonempty (Sim.FunG _ mg "_law_wins" "_law_wins" (LW.topS 61) ["book", "crowd", "known"]) := by
      refine' Sim.funG_mk KX Gn (fun _ _ _ _ _ _ us hl => match us, hl with | [_, _, _], _ => rfl) ?qa42 ?ql42 ?qc42 ?qk42
      (case qa42 => k_is); (case ql42 => k_is); (case qc42 => k_is); (case qk42 => k_is)
    obtain ⟨F__law_twos⟩ : Nonempty (Sim.FunG _ mg "_law_twos" "_law_twos" (LW.topS 62) ["numbers"]) := by
      refine' Sim.funG_mk KX Gn (fun _ _ _ _ _ _ us hl => match us, hl with | [_], _ => rfl) ?qa43 ?ql43 ?qc43 ?qk43
      (case qa43 => k_is); (case ql43 => k_is); (case qc43 => k_is); (case qk43 => k_is)
    obtain ⟨F__law_word⟩ : Nonempty (Sim.FunG _ mg "_law_word" "_law_word" (LW.topS 63) ["call"]) := by
      refine' Sim.funG_mk KX Gn (fun _ _ _ _ _ _ us hl => match us, hl with | [_], _ => rfl) ?qa44 ?ql44 ?qc44 ?qk44
      (case qa44 => k_is); (case ql44 => k_is); (case qc44 => k_is); (case qk44 => k_is)
    obtain ⟨F_law⟩ : Nonempty (Sim.FunLP _ mg h "law" "law" (LW.topS 64) ["script"] _) := by
      refine' Sim.funLP_mk KX Gn (fun _ _ _ _ _ _ us hl => match us, hl with | [_], _ => rfl) ?qa45 ?ql45 ?qc45 ?qk45 (PySem.W.km_tabs_of Y _ (List.mem_cons_of_mem _ (List.mem_cons_self))) ?qC45 ?qn45
      (case qa45 => k_is); (case ql45 => k_is); (case qc45 => k_is); (case qk45 => k_is)
      (case qC45 => kernel_rfl)
      (case qn45 => kernel_rfl)
    have z_abs : mg "abs" = none := by
      refine' PySem.W.mg_none_of KX Gn ?qz46
      (case qz46 => k_is)
    have z_all : mg "all" = none := by
      refine' PySem.W.mg_none_of KX Gn ?qz47
      (case qz47 => k_is)
    have z_any : mg "any" = none := by
      refine' PySem.W.mg_none_of KX Gn ?qz48
      (case qz48 => k_is)
    have z_bool : mg "bool" = none := by
      refine' PySem.W.mg_none_of KX Gn ?qz49
      (case qz49 => k_is)
    have z_enumerate : mg "enumerate" = none := by
      refine' PySem.W.mg_none_of KX Gn ?qz50
      (case qz50 => k_is)
    have z_int : mg "int" = none := by
      refine' PySem.W.mg_none_of KX Gn ?qz51
      (case qz51 => k_is)
    have z_isinstance : mg "isinstance" = none := by
      refine' PySem.W.mg_none_of KX Gn ?qz52
      (case qz52 => k_is)
    have z_len : mg "len" = none := by
      refine' PySem.W.mg_none_of KX Gn ?qz53
      (case qz53 => k_is)
    have z_list : mg "list" = none := by
      refine' PySem.W.mg_none_of KX Gn ?qz54
      (case qz54 => k_is)
    have z_min : mg "min" = none := by
      refine' PySem.W.mg_none_of KX Gn ?qz55
      (case qz55 => k_is)
    have z_range : mg "range" = none := by
      refine' PySem.W.mg_none_of KX Gn ?qz56
      (case qz56 => k_is)
    have z_sorted : mg "sorted" = none := by
      refine' PySem.W.mg_none_of KX Gn ?qz57
      (case qz57 => k_is)
    have z_sum : mg "sum" = none := by
      refine' PySem.W.mg_none_of KX Gn ?qz58
      (case qz58 => k_is)
    have z_tuple : mg "tuple" = none := by
      refine' PySem.W.mg_none_of KX Gn ?qz59
      (case qz59 => k_is)
    obtain ⟨t_MOST_HEAPS, c_MOST_HEAPS⟩ : ∃ t, mg "MOST_HEAPS" = some (.int 200 t) := by
      refine' Sim.lit_int KX Gn ?qz60
      (case qz60 => k_is)
    obtain ⟨t_MOST_LOTS, c_MOST_LOTS⟩ : ∃ t, mg "MOST_LOTS" = some (.int 60 t) := by
      refine' Sim.lit_int KX Gn ?qz61
      (case qz61 => k_is)
    obtain ⟨t_MOST_NUMBERS, c_MOST_NUMBERS⟩ : ∃ t, mg "MOST_NUMBERS" = some (.int 60 t) := by
      refine' Sim.lit_int KX Gn ?qz62
      (case qz62 => k_is)
    obtain ⟨t_MOST_PEOPLE, c_MOST_PEOPLE⟩ : ∃ t, mg "MOST_PEOPLE" = some (.int 12 t) := by
      refine' Sim.lit_int KX Gn ?qz63
      (case qz63 => k_is)
    obtain ⟨t_MOST_RANK, c_MOST_RANK⟩ : ∃ t, mg "MOST_RANK" = some (.int 4095 t) := by
      refine' Sim.lit_int KX Gn ?qz64
      (case qz64 => k_is)
    obtain ⟨x_Full, x_NoCrowd, x_NoHeaps, x_NoNumbers, x_NoPeople, x_NotClear, x_LotError, x_Book, x_RawBook, x_Ranks, y_Book_keep, y_RawBook___init__, y_Ranks___init__, y_Ranks_rank, y_Book___init__, e_Full, e_NoCrowd, e_NoHeaps, e_NoNumbers, e_NoPeople, e_NotClear, g_LotError, hd_NoCrowd, xc_NoCrowd, ki_NoCrowd, hd_NotClear, xc_NotClear, ki_NotClear, hd_NoNumbers, xc_NoNumbers, ki_NoNumbers, s_NoCrowd_NoCrowd, s_NotClear_NoCrowd, s_NotClear_NotClear, s_NoNumbers_NoCrowd, s_NoNumbers_NotClear, s_NoNumbers_NoNumbers, C_Book, C_RawBook, C_Ranks, na_Book_lots, na_Book_masks, na_Book_people, na_Ranks_book, na_Ranks_known, na_RawBook_lots, na_RawBook_masks, na_RawBook_people, ⟨d_Book_keep, F_Book_keep, b_Book_keep⟩, fn_Book_keep, ⟨d_RawBook___init__, F_RawBook___init__, b_RawBook___init__⟩, fn_RawBook___init__, ⟨d_Ranks___init__, F_Ranks___init__, b_Ranks___init__⟩, fn_Ranks___init__, ⟨d_Ranks_rank, F_Ranks_rank, b_Ranks_rank⟩, fn_Ranks_rank, ⟨d_Book___init__, F_Book___init__, b_Book___init__⟩, fn_Book___init__, at_Book___init__, at_Book_keep, at_Ranks___init__, at_Ranks_rank, at_RawBook___init__, at_RawBook_keep⟩ := (by
      refine' LW.excs_mk KX Gn ?qe65 ?qe70 ?qe75 ?qe80 ?qe85 ?qe90 ?qe95 ?qe132 ?qe143 ?qe154 ?qe193 ?qe194 ?qe195 ?qe196 ?qe197 ?qe198 ?qe66 ?qe67 ?qe68 ?qe69 ?qe71 ?qe72 ?qe73 ?qe74 ?qe76 ?qe77 ?qe78 ?qe79 ?qe81 ?qe82 ?qe83 ?qe84 ?qe86 ?qe87 ?qe88 ?qe89 ?qe91 ?qe92 ?qe93 ?qe94 ?qe96 ?qe97 ?qe98 ?qe99 ?qe100 ?qe101 ?qe102 ?qe103 ?qe104 ?qe105 ?qe106 ?qe107 ?qe108 ?qe109 ?qe110 ?qe111 ?qe112 ?qe113 ?qe114 ?qe115 ?qe116 ?qe117 ?qe118 ?qe119 ?qe120 ?qe121 ?qe122 ?qe123 ?qe124 ?qe125 ?qe126 ?qe127 ?qe128 ?qe129 ?qe130 ?qe131 ?qe133 ?qe134 ?qe135 ?qe136 ?qe137 ?qe138 ?qe139 ?qe140 ?qe141 ?qe142 ?qe144 ?qe145 ?qe146 ?qe147 ?qe148 ?qe149 ?qe150 ?qe151 ?qe152 ?qe153 ?qe155 ?qe156 ?qe157 ?qe158 ?qe159 ?qe160 ?qe161 ?qe162 ?qe163 ?qe164 ?qe165 ?qe166 ?qe167 ?qe168 ?qe169 ?qe170 ?qe171 ?qe172 ?qe173 ?qe174 ?qe175 ?qe176 ?qe177 ?qe178 ?qe179 ?qe180 ?qe181 ?qe182 ?qe183 ?qe184 ?qe185 ?qe186 ?qe187 ?qe188 ?qe189 ?qe190 ?qe191 ?qe192
      (case qe65 => k_is)
      (case qe70 => k_is)
      (case qe75 => k_is)
      (case qe80 => k_is)
      (case qe85 => k_is)
      (case qe90 => k_is)
      (case qe95 => k_is)
      (case qe132 => k_is)
      (case qe143 => k_is)
      (case qe154 => k_is)
      (case qe193 => k_is)
      (case qe194 => k_is)
      (case qe195 => k_is)
      (case qe196 => k_is)
      (case qe197 => k_is)
      (case qe198 => k_is)
      (case qe66 => k_exc)
      (case qe67 => k_is)
      (case qe68 => k_is)
      (case qe69 => k_is)
      (case qe71 => k_exc)
      (case qe72 => k_is)
      (case qe73 => k_is)
      (case qe74 => k_is)
      (case qe76 => k_exc)
      (case qe77 => k_is)
      (case qe78 => k_is)
      (case qe79 => k_is)
      (case qe81 => k_exc)
      (case qe82 => k_is)
      (case qe83 => k_is)
      (case qe84 => k_is)
      (case qe86 => k_exc)
      (case qe87 => k_is)
      (case qe88 => k_is)
      (case qe89 => k_is)
      (case qe91 => k_exc)
      (case qe92 => k_is)
      (case qe93 => k_is)
      (case qe94 => k_is)
      (case qe96 => k_is)
      (case qe97 => k_is)
      (case qe98 => k_is)
      (case qe99 => k_is)
      (case qe100 => k_is)
      (case qe101 => k_is)
      (case qe102 => k_is)
      (case qe103 => k_is)
      (case qe104 => k_is)
      (case qe105 => kernel_rfl)
      (case qe106 => k_is)
      (case qe107 => k_is)
      (case qe108 => k_is)
      (case qe109 => k_is)
      (case qe110 => k_is)
      (case qe111 => k_is)
      (case qe112 => k_is)
      (case qe113 => k_is)
      (case qe114 => k_is)
      (case qe115 => kernel_rfl)
      (case qe116 => k_is)
      (case qe117 => k_is)
      (case qe118 => k_is)
      (case qe119 => k_is)
      (case qe120 => k_is)
      (case qe121 => k_is)
      (case qe122 => k_is)
      (case qe123 => k_is)
      (case qe124 => k_is)
      (case qe125 => kernel_rfl)
      (case qe126 => k_is)
      (case qe127 => k_is)
      (case qe128 => k_is)
      (case qe129 => k_is)
      (case qe130 => k_is)
      (case qe131 => k_is)
      (case qe133 => k_is)
      (case qe134 => k_is)
      (case qe135 => k_is)
      (case qe136 => k_is)
      (case qe137 => k_is)
      (case qe138 => k_is)
      (case qe139 => k_is)
      (case qe140 => k_is)
      (case qe141 => k_is)
      (case qe142 => k_is)
      (case qe144 => k_is)
      (case qe145 => k_is)
      (case qe146 => k_is)
      (case qe147 => k_is)
      (case qe148 => k_is)
      (case qe149 => k_is)
      (case qe150 => k_is)
      (case qe151 => k_is)
      (case qe152 => k_is)
      (case qe153 => k_is)
      (case qe155 => k_is)
      (case qe156 => k_is)
      (case qe157 => k_is)
      (case qe158 => k_is)
      (case qe159 => k_is)
      (case qe160 => k_is)
      (case qe161 => k_is)
      (case qe162 => k_is)
      (case qe163 => k_is)
      (case qe164 => k_is)
      (case qe165 => k_is)
      (case qe166 => k_is)
      (case qe167 => k_is)
      (case qe168 => k_is)
      (case qe169 => k_is)
      (case qe170 => k_is)
      (case qe171 => k_is)
      (case qe172 => k_is)
      (case qe173 => k_is)
      (case qe174 => k_is)
      (case qe175 => k_is)
      (case qe176 => k_is)
      (case qe177 => k_is)
      (case qe178 => k_is)
      (case qe179 => k_is)
      (case qe180 => k_is)
      (case qe181 => k_is)
      (case qe182 => k_is)
      (case qe183 => k_is)
      (case qe184 => k_is)
      (case qe185 => k_is)
      (case qe186 => k_is)
      (case qe187 => k_is)
      (case qe188 => k_is)
      (case qe189 => k_is)
      (case qe190 => k_is)
      (case qe191 => k_is)
      (case qe192 => k_is))
    let T : LW.Facts _ mg := { a_is_integer := F_is_integer.a, d_is_integer := F_is_integer.d, F_is_integer := F_is_integer.F, b_is_integer := F_is_integer.b, g_is_integer := F_is_integer.g, k_is_integer := F_is_integer.F.kp, a_is_within := F_is_within.a, d_is_within := F_is_within.d, F_is_within := F_is_within.F, b_is_within := F_is_within.b, g_is_within := F_is_within.g, k_is_within := F_is_within.F.kp, a_is_listed := F_is_listed.a, d_is_listed := F_is_listed.d, F_is_listed := F_is_listed.F, b_is_listed := F_is_listed.b, g_is_listed := F_is_listed.g, k_is_listed := F_is_listed.F.kp, a_are_ascending := F_are_ascending.a, d_are_ascending := F_are_ascending.d, F_are_ascending := F_are_ascending.F, b_are_ascending := F_are_ascending.b, g_are_ascending := F_are_ascending.g, k_are_ascending := F_are_ascending.F.kp, a_are_persons := F_are_persons.a, d_are_persons := F_are_persons.d, F_are_persons := F_are_persons.F, b_are_persons := F_are_persons.b, g_are_persons := F_are_persons.g, k_are_persons := F_are_persons.F.kp, a_is_crowd := F_is_crowd.a, d_is_crowd := F_is_crowd.d, F_is_crowd := F_is_crowd.F, b_is_crowd := F_is_crowd.b, g_is_crowd := F_is_crowd.g, k_is_crowd := F_is_crowd.F.kp, a_is_lot := F_is_lot.a, d_is_lot := F_is_lot.d, F_is_lot := F_is_lot.F, b_is_lot := F_is_lot.b, g_is_lot := F_is_lot.g, k_is_lot := F_is_lot.F.kp, a_check_crowd := F_check_crowd.a, d_check_crowd := F_check_crowd.d, F_check_crowd := F_check_crowd.F, b_check_crowd := F_check_crowd.b, g_check_crowd := F_check_crowd.g, k_check_crowd := F_check_crowd.F.kp, a_check_people := F_check_people.a, d_check_people := F_check_people.d, F_check_people := F_check_people.F, b_check_people := F_check_people.b, g_check_people := F_check_people.g, k_check_people := F_check_people.F.kp, a_check_many := F_check_many.a, d_check_many := F_check_many.d, F_check_many := F_check_many.F, b_check_many := F_check_many.b, g_check_many := F_check_many.g, k_check_many := F_check_many.F.kp, a_bits_of := F_bits_of.a, d_bits_of := F_bits_of.d, F_bits_of := F_bits_of.F, b_bits_of := F_bits_of.b, g_bits_of := F_bits_of.g, k_bits_of := F_bits_of.F.kp, a_crowd_of := F_crowd_of.a, d_crowd_of := F_crowd_of.d, F_crowd_of := F_crowd_of.F, b_crowd_of := F_crowd_of.b, g_crowd_of := F_crowd_of.g, k_crowd_of := F_crowd_of.F.kp, a_holds := F_holds.a, d_holds := F_holds.d, F_holds := F_holds.F, b_holds := F_holds.b, g_holds := F_holds.g, k_holds := F_holds.F.kp, a_all_of := F_all_of.a, d_all_of := F_all_of.d, F_all_of := F_all_of.F, b_all_of := F_all_of.b, g_all_of := F_all_of.g, k_all_of := F_all_of.F.kp, a_first_wrong_lot := F_first_wrong_lot.a, d_first_wrong_lot := F_first_wrong_lot.d, F_first_wrong_lot := F_first_wrong_lot.F, b_first_wrong_lot := F_first_wrong_lot.b, g_first_wrong_lot := F_first_wrong_lot.g, k_first_wrong_lot := F_first_wrong_lot.F.kp, a_is_clear_bits := F_is_clear_bits.a, d_is_clear_bits := F_is_clear_bits.d, F_is_clear_bits := F_is_clear_bits.F, b_is_clear_bits := F_is_clear_bits.b, g_is_clear_bits := F_is_clear_bits.g, k_is_clear_bits := F_is_clear_bits.F.kp, a_is_clear := F_is_clear.a, d_is_clear := F_is_clear.d, F_is_clear := F_is_clear.F, b_is_clear := F_is_clear.b, g_is_clear := F_is_clear.g, k_is_clear := F_is_clear.F.kp, a_minimal := F_minimal.a, d_minimal := F_minimal.d, F_minimal := F_minimal.F, b_minimal := F_minimal.b, g_minimal := F_minimal.g, k_minimal := F_minimal.F.kp, a_Book_keep := y_Book_keep, d_Book_keep := d_Book_keep, F_Book_keep := F_Book_keep, b_Book_keep := b_Book_keep, fn_Book_keep := fn_Book_keep, a_RawBook___init__ := y_RawBook___init__, d_RawBook___init__ := d_RawBook___init__, F_RawBook___init__ := F_RawBook___init__, b_RawBook___init__ := b_RawBook___init__, fn_RawBook___init__ := fn_RawBook___init__, a_made_of := F_made_of.a, d_made_of := F_made_of.d, F_made_of := F_made_of.F, b_made_of := F_made_of.b, g_made_of := F_made_of.g, k_made_of := F_made_of.F.kp, a_book_of := F_book_of.a, d_book_of := F_book_of.d, F_book_of := F_book_of.F, b_book_of := F_book_of.b, g_book_of := F_book_of.g, k_book_of := F_book_of.F.kp, a_adds_from := F_adds_from.a, d_adds_from := F_adds_from.d, F_adds_from := F_adds_from.F, b_adds_from := F_adds_from.b, g_adds_from := F_adds_from.g, k_adds_from := F_adds_from.F.kp, a_least_not := F_least_not.a, d_least_not := F_least_not.d, F_least_not := F_least_not.F, b_least_not := F_least_not.b, g_least_not := F_least_not.g, k_least_not := F_least_not.F.kp, a_check_clear := F_check_clear.a, d_check_clear := F_check_clear.d, F_check_clear := F_check_clear.F, b_check_clear := F_check_clear.b, g_check_clear := F_check_clear.g, k_check_clear := F_check_clear.F.kp, a_Ranks___init__ := y_Ranks___init__, d_Ranks___init__ := d_Ranks___init__, F_Ranks___init__ := F_Ranks___init__, b_Ranks___init__ := b_Ranks___init__, fn_Ranks___init__ := fn_Ranks___init__, a_Ranks_rank := y_Ranks_rank, d_Ranks_rank := d_Ranks_rank, F_Ranks_rank := F_Ranks_rank, b_Ranks_rank := b_Ranks_rank, fn_Ranks_rank := fn_Ranks_rank, a_rank_of := F_rank_of.a, d_rank_of := F_rank_of.d, F_rank_of := F_rank_of.F, b_rank_of := F_rank_of.b, g_rank_of := F_rank_of.g, k_rank_of := F_rank_of.F.kp, a_adders_win := F_adders_win.a, d_adders_win := F_adders_win.d, F_adders_win := F_adders_win.F, b_adders_win := F_adders_win.b, g_adders_win := F_adders_win.g, k_adders_win := F_adders_win.F.kp, a_good_adds := F_good_adds.a, d_good_adds := F_good_adds.d, F_good_adds := F_good_adds.F, b_good_adds := F_good_adds.b, g_good_adds := F_good_adds.g, k_good_adds := F_good_adds.F.kp, a_sum_of_ranks := F_sum_of_ranks.a, d_sum_of_ranks := F_sum_of_ranks.d, F_sum_of_ranks := F_sum_of_ranks.F, b_sum_of_ranks := F_sum_of_ranks.b, g_sum_of_ranks := F_sum_of_ranks.g, k_sum_of_ranks := F_sum_of_ranks.F.kp, a_shifted := F_shifted.a, d_shifted := F_shifted.d, F_shifted := F_shifted.F, b_shifted := F_shifted.b, g_shifted := F_shifted.g, k_shifted := F_shifted.F.kp, a_check_room := F_check_room.a, d_check_room := F_check_room.d, F_check_room := F_check_room.F, b_check_room := F_check_room.b, g_check_room := F_check_room.g, k_check_room := F_check_room.F.kp, a_beside := F_beside.a, d_beside := F_beside.d, F_beside := F_beside.F, b_beside := F_beside.b, g_beside := F_beside.g, k_beside := F_beside.F.kp, a__law_hand := F__law_hand.a, d__law_hand := F__law_hand.d, F__law_hand := F__law_hand.F, b__law_hand := F__law_hand.b, g__law_hand := F__law_hand.g, k__law_hand := F__law_hand.F.kp, a__law_draw := F__law_draw.a, d__law_draw := F__law_draw.d, F__law_draw := F__law_draw.F, b__law_draw := F__law_draw.b, g__law_draw := F__law_draw.g, k__law_draw := F__law_draw.F.kp, a__law_any := F__law_any.a, d__law_any := F__law_any.d, F__law_any := F__law_any.F, b__law_any := F__law_any.b, g__law_any := F__law_any.g, k__law_any := F__law_any.F.kp, a__law_book := F__law_book.a, d__law_book := F__law_book.d, F__law_book := F__law_book.F, b__law_book := F__law_book.b, g__law_book := F__law_book.g, k__law_book := F__law_book.F.kp, a__law_crowds := F__law_crowds.a, d__law_crowds := F__law_crowds.d, F__law_crowds := F__law_crowds.F, b__law_crowds := F__law_crowds.b, g__law_crowds := F__law_crowds.g, k__law_crowds := F__law_crowds.F.kp, a__law_is_clear := F__law_is_clear.a, d__law_is_clear := F__law_is_clear.d, F__law_is_clear := F__law_is_clear.F, b__law_is_clear := F__law_is_clear.b, g__law_is_clear := F__law_is_clear.g, k__law_is_clear := F__law_is_clear.F.kp, a__law_next := F__law_next.a, d__law_next := F__law_next.d, F__law_next := F__law_next.F, b__law_next := F__law_next.b, g__law_next := F__law_next.g, k__law_next := F__law_next.F.kp, a__law_rank := F__law_rank.a, d__law_rank := F__law_rank.d, F__law_rank := F__law_rank.F, b__law_rank := F__law_rank.b, g__law_rank := F__law_rank.g, k__law_rank := F__law_rank.F.kp, a__law_wins := F__law_wins.a, d__law_wins := F__law_wins.d, F__law_wins := F__law_wins.F, b__law_wins := F__law_wins.b, g__law_wins := F__law_wins.g, k__law_wins := F__law_wins.F.kp, a__law_twos := F__law_twos.a, d__law_twos := F__law_twos.d, F__law_twos := F__law_twos.F, b__law_twos := F__law_twos.b, g__law_twos := F__law_twos.g, k__law_twos := F__law_twos.F.kp, a__law_word := F__law_word.a, d__law_word := F__law_word.d, F__law_word := F__law_word.F, b__law_word := F__law_word.b, g__law_word := F__law_word.g, k__law_word := F__law_word.F.kp, a_Book___init__ := y_Book___init__, d_Book___init__ := d_Book___init__, F_Book___init__ := F_Book___init__, b_Book___init__ := b_Book___init__, fn_Book___init__ := fn_Book___init__, a_law := F_law.a, d_law := F_law.d, F_law := F_law.F, b_law := F_law.b, g_law := F_law.g, k_law := F_law.F.kp, z_abs := z_abs, z_all := z_all, z_any := z_any, z_bool := z_bool, z_enumerate := z_enumerate, z_int := z_int, z_isinstance := z_isinstance, z_len := z_len, z_list := z_list, z_min := z_min, z_range := z_range, z_sorted := z_sorted, z_sum := z_sum, z_tuple := z_tuple, t_MOST_HEAPS := t_MOST_HEAPS, c_MOST_HEAPS := c_MOST_HEAPS, t_MOST_LOTS := t_MOST_LOTS, c_MOST_LOTS := c_MOST_LOTS, t_MOST_NUMBERS := t_MOST_NUMBERS, c_MOST_NUMBERS := c_MOST_NUMBERS, t_MOST_PEOPLE := t_MOST_PEOPLE, c_MOST_PEOPLE := c_MOST_PEOPLE, t_MOST_RANK := t_MOST_RANK, c_MOST_RANK := c_MOST_RANK, x_Full := x_Full, e_Full := e_Full, x_NoCrowd := x_NoCrowd, e_NoCrowd := e_NoCrowd, x_NoHeaps := x_NoHeaps, e_NoHeaps := e_NoHeaps, x_NoNumbers := x_NoNumbers, e_NoNumbers := e_NoNumbers, x_NoPeople := x_NoPeople, e_NoPeople := e_NoPeople, x_NotClear := x_NotClear, e_NotClear := e_NotClear, x_LotError := x_LotError, g_LotError := g_LotError, hd_NoCrowd := hd_NoCrowd, xc_NoCrowd := xc_NoCrowd, ki_NoCrowd := ki_NoCrowd, hd_NotClear := hd_NotClear, xc_NotClear := xc_NotClear, ki_NotClear := ki_NotClear, hd_NoNumbers := hd_NoNumbers, xc_NoNumbers := xc_NoNumbers, ki_NoNumbers := ki_NoNumbers, s_NoCrowd_NoCrowd := s_NoCrowd_NoCrowd, s_NotClear_NoCrowd := s_NotClear_NoCrowd, s_NotClear_NotClear := s_NotClear_NotClear, s_NoNumbers_NoCrowd := s_NoNumbers_NoCrowd, s_NoNumbers_NotClear := s_NoNumbers_NotClear, s_NoNumbers_NoNumbers := s_NoNumbers_NoNumbers, A_Book := x_Book, C_Book := C_Book, A_RawBook := x_RawBook, C_RawBook := C_RawBook, A_Ranks := x_Ranks, C_Ranks := C_Ranks, at_Book___init__ := at_Book___init__, at_Book_keep := at_Book_keep, at_Ranks___init__ := at_Ranks___init__, at_Ranks_rank := at_Ranks_rank, at_RawBook___init__ := at_RawBook___init__, at_RawBook_keep := at_RawBook_keep, na_Book_lots := na_Book_lots, na_Book_masks := na_Book_masks, na_Book_people := na_Book_people, na_Ranks_book := na_Ranks_book, na_Ranks_known := na_Ranks_known, na_RawBook_lots := na_RawBook_lots, na_RawBook_masks := na_RawBook_masks, na_RawBook_people := na_RawBook_people, cc__law_crowds := F__law_crowds.c, tt__law_crowds := F__law_crowds.P, cd__law_crowds := F__law_crowds.hc, cc_law := F_law.c, tt_law := F_law.P, cd_law := F_law.hc }
    refine Sim.end_mk (n := "law") F_law.toFunF hmg [(F__law_crowds.c, F__law_crowds.P, ("_law_crowds" : Str) ++ ".<locals>." ++ "<lambda>"), (F_law.c, F_law.P, ("law" : Str) ++ ".<locals>." ++ "<lambda>")] (List.forall_mem_cons.mpr ⟨F__law_crowds.e, List.forall_mem_cons.mpr ⟨F_law.e, fun p hp => nomatch hp⟩⟩) (List.forall_mem_cons.mpr ⟨F__law_crowds.n, List.forall_mem_cons.mpr ⟨F_law.n, fun p hp => nomatch hp⟩⟩) (List.forall_mem_cons.mpr ⟨F__law_crowds.C, List.forall_mem_cons.mpr ⟨F_law.C, fun p hp => nomatch hp⟩⟩) fun base b1 b2 b3 => ?_
    letI I : Sim.TabT := ⟨([(F__law_crowds.c, F__law_crowds.P, ("_law_crowds" : Str) ++ ".<locals>." ++ "<lambda>"), (F_law.c, F_law.P, ("law" : Str) ++ ".<locals>." ++ "<lambda>")] : List (Addr × Addr × Str)).map (·.2)⟩
    have ne_law__law_crowds : F_law.P ≠ F__law_crowds.P := by unfold Sim.FunLP.P; decide
    have u__law_crowds : ∀ p ∈ I.T, p.1 = F__law_crowds.P → p.2 = ("_law_crowds" : Str) ++ ".<locals>." ++ "<lambda>" := by
      intro p hp z
      rcases List.mem_cons.mp hp with e | hp
      · rw [e]
      rcases List.mem_cons.mp hp with e | hp
      · exact absurd (z.symm.trans (congrArg Prod.fst e)).symm ne_law__law_crowds
      cases hp
    have u_law : ∀ p ∈ I.T, p.1 = F_law.P → p.2 = ("law" : Str) ++ ".<locals>." ++ "<lambda>" := by
      intro p hp z
      rcases List.mem_cons.mp hp with e | hp
      · exact absurd (z.symm.trans (congrArg Prod.fst e)) ne_law__law_crowds
      rcases List.mem_cons.mp hp with e | hp
      · rw [e]
      cases hp
    have B : LW.TBs T base := { tb__law_crowds := b3 _ (List.mem_cons_self), m__law_crowds := List.mem_cons_self, u__law_crowds := u__law_crowds, tb_law := b3 _ (List.mem_cons_of_mem _ (List.mem_cons_self)), m_law := List.mem_cons_of_mem _ (List.mem_cons_self), u_law := u_law }
    exact LW.ok_law (P := _) (w := w) (base := base) T B
