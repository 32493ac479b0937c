import PyProof.Rows.All
import Wide.All
import OpenK.AllK
import Wide.FinOn
import HandS.ForMost
import HandS.Exc
import HandS.ExcOwn
import HandS.WordsExc
import HandS.TryOnly
import HandS.TryMany
import HandS.Walk
import HandS.Flow
import HandS.Deep
import HandS.Small
import HandS.TupAny
import HandS.TupMul
import HandS.WideBits
import HandS.SortOrd
import HandS.SortInts
import HandS.DictComp
import HandS.Conv
import HandS.IsInst
import HandS.Style
import HandS.Lambda
import KE.GoesMore
import KE.GoesEnum
import HandS.Zip
import HandS.NamedTupSort
import HandS.Sort
import HandS.TupSets
import HandS.ExcIs
import HandS.EndTab
import HandS.OwnEq
import KE.SortKeyHeap
import KE.KNestM
import PySem.Challenge.RW_clearhall_k93_whole_books_told_apart
set_option Elab.async false
set_option linter.all false
set_option maxRecDepth 100000
set_option maxHeartbeats 2000000
/-! A layer over the hand layer: values told by their content, code told as functions of them. -/
namespace Sim
open PySem PySem.Spec L2
open PyProof.Rows hiding St

/-- a value told by its content; a cell is a thing that may change -/
inductive AV where
  | non | bl (b : Bool) | int (i : Int) | str (x : Str) | ty (n : String)
  | tup (xs : List AV) | lst (xs : List AV)
  | dct (kvs : List (AV × AV))
  | obj (c : Str) (fs : List (Str × AV))
  | scr (ns : List Int)
  | cell (n : Nat)

inductive Cell where
  | lst (xs : List AV)
  | frz (v : AV)
  | dct (kvs : List (AV × AV))
  | ins (c : Str) (fs : List (Str × AV))

abbrev Hs := List Cell

inductive Res (α : Type) where
  | ok (a : α) (h : Hs)
  | exc (c : Str) (fs : List (Str × AV)) (h : Hs)
  | bad

abbrev M (α : Type) := Hs → Res α
def M.ret {α : Type} (a : α) : M α := fun h => .ok a h
def M.bnd {α β : Type} (m : M α) (f : α → M β) : M β := fun h => match m h with
  | .ok a h' => f a h'
  | .exc c fs h' => .exc c fs h'
  | .bad => .bad
def M.bad {α : Type} : M α := fun _ => .bad
def M.opt {α : Type} (o : Option α) : M α := fun h => match o with
  | some a => .ok a h
  | none => .bad

/-- what the ghost knows: what never changes (F), where the cells are (mu), what others hold (Z) -/
structure Gh where
  F : Hp
  mu : Nat → Option Addr
  Z : Hp
  T : List (Addr × Str)

section
variable (K : PySem.W.Frag) (mg : Str → Option Value) (G : Gh)
mutual
inductive R : AV → V → Prop
  | non : R .non .non
  | bl (b : Bool) : R (.bl b) (.bl b)
  | int (i : Int) : R (.int i) (.int i)
  | str (x : Str) : R (.str x) (.str x)
  | ty (n : String) : R (.ty n) (.ty n)
  | tup {xs : List AV} {a : Addr} {vs : List V} : SqT K G.F a vs → Rs xs vs → R (.tup xs) (.ref a)
  | lst {xs : List AV} {a : Addr} {vs : List V} : G.F a = some (.lst vs) → Rs xs vs → R (.lst xs) (.ref a)
  | obj {c : Str} {C a dx : Addr} {fs : List (Str × AV)} {vfs : List (Str × V)} : mg c = some (.ref C) → G.F a = some (.ins C dx vfs) → Rf fs vfs → R (.obj c fs) (.ref a)
  | dctK {a : Addr} {kvs : List (AV × AV)} {o : Obj} {vks : List (Key × V)} : G.F a = some (.frz o (.dK vks)) → RkK kvs vks → R (.dct kvs) (.ref a)
  | dctT {a : Addr} {kvs : List (AV × AV)} {o : Obj} {vks : List (List Key × V)} : G.F a = some (.frz o (.dT vks)) → RkT kvs vks → R (.dct kvs) (.ref a)
  | scr {ns : List Int} {a : Addr} : SqL K G.F a (ns.map V.int) → R (.scr ns) (.ref a)
  | cell {n : Nat} {a : Addr} : G.mu n = some a → R (.cell n) (.ref a)
inductive Rs : List AV → List V → Prop
  | nil : Rs [] []
  | cons {x : AV} {xs : List AV} {v : V} {vs : List V} : R x v → Rs xs vs → Rs (x :: xs) (v :: vs)
inductive Rf : List (Str × AV) → List (Str × V) → Prop
  | nil : Rf [] []
  | cons {f : Str} {x : AV} {xs : List (Str × AV)} {v : V} {vs : List (Str × V)} : R x v → Rf xs vs → Rf ((f, x) :: xs) ((f, v) :: vs)
inductive RkK : List (AV × AV) → List (Key × V) → Prop
  | nil : RkK [] []
  | int {i : Int} {x : AV} {xs : List (AV × AV)} {v : V} {vs : List (Key × V)} : R x v → RkK xs vs → RkK ((.int i, x) :: xs) ((.inl i, v) :: vs)
  | str {i : Str} {x : AV} {xs : List (AV × AV)} {v : V} {vs : List (Key × V)} : R x v → RkK xs vs → RkK ((.str i, x) :: xs) ((.inr i, v) :: vs)
inductive RkT : List (AV × AV) → List (List Key × V) → Prop
  | nil : RkT [] []
  | cons {ks : List Key} {x : AV} {xs : List (AV × AV)} {v : V} {vs : List (List Key × V)} : R x v → RkT xs vs → RkT ((.tup (ks.map fun k => match k with | .inl i => .int i | .inr z => .str z), x) :: xs) ((ks, v) :: vs)
end
end

/-- G' knows more -/
structure Gh.le (G G' : Gh) : Prop where
  F : Same G.F G'.F
  mu : ∀ n a, G.mu n = some a → G'.mu n = some a
  Z : G'.Z = G.Z
  T : G'.T = G.T
/-- .. what others hold left aside -/
structure Gh.lt (G G' : Gh) : Prop where
  F : Same G.F G'.F
  mu : ∀ n a, G.mu n = some a → G'.mu n = some a
  T : G'.T = G.T
theorem Gh.le.refl (G : Gh) : G.le G := ⟨Same.refl _, fun _ _ h => h, rfl, rfl⟩
theorem Gh.le.trans {A B C : Gh} (h : A.le B) (k : B.le C) : A.le C := ⟨h.F.trans k.F, fun n a e => k.mu n a (h.mu n a e), k.Z.trans h.Z, k.T.trans h.T⟩
theorem Gh.le.lt {A B : Gh} (h : A.le B) : A.lt B := ⟨h.F, h.mu, h.T⟩
theorem sameT {K : PySem.W.Frag} {H H' : Hp} {a : Addr} {xs : List V} (e : Same H H') (h : SqT K H a xs) : SqT K H' a xs := by
  rcases h with (h | ⟨o, h⟩) | h
  · exact .inl (.inl (e _ _ h))
  · exact .inl (.inr ⟨o, e _ _ h⟩)
  · exact .inr h
section
variable {K : PySem.W.Frag} {mg : Str → Option Value} {G G' : Gh}
mutual
theorem R.monoL (l : G.lt G') : ∀ {x : AV} {v : V}, R K mg G x v → R K mg G' x v
  | _, _, .non => .non
  | _, _, .bl b => .bl b
  | _, _, .int b => .int b
  | _, _, .str b => .str b
  | _, _, .ty b => .ty b
  | _, _, .tup h t => .tup (sameT l.F h) (Rs.monoL l t)
  | _, _, .lst h t => .lst (l.F _ _ h) (Rs.monoL l t)
  | _, _, .obj h e t => .obj h (l.F _ _ e) (Rf.monoL l t)
  | _, _, .dctK e t => .dctK (l.F _ _ e) (RkK.monoL l t)
  | _, _, .dctT e t => .dctT (l.F _ _ e) (RkT.monoL l t)
  | _, _, .scr h => .scr (l.F.seq h)
  | _, _, .cell h => .cell (l.mu _ _ h)
theorem Rs.monoL (l : G.lt G') : ∀ {x : List AV} {v : List V}, Rs K mg G x v → Rs K mg G' x v
  | _, _, .nil => .nil
  | _, _, .cons h t => .cons (R.monoL l h) (Rs.monoL l t)
theorem Rf.monoL (l : G.lt G') : ∀ {x : List (Str × AV)} {v : List (Str × V)}, Rf K mg G x v → Rf K mg G' x v
  | _, _, .nil => .nil
  | _, _, .cons h t => .cons (R.monoL l h) (Rf.monoL l t)
theorem RkK.monoL (l : G.lt G') : ∀ {x : List (AV × AV)} {v : List (Key × V)}, RkK K mg G x v → RkK K mg G' x v
  | _, _, .nil => .nil
  | _, _, .int h t => .int (R.monoL l h) (RkK.monoL l t)
  | _, _, .str h t => .str (R.monoL l h) (RkK.monoL l t)
theorem RkT.monoL (l : G.lt G') : ∀ {x : List (AV × AV)} {v : List (List Key × V)}, RkT K mg G x v → RkT K mg G' x v
  | _, _, .nil => .nil
  | _, _, .cons h t => .cons (R.monoL l h) (RkT.monoL l t)
end
theorem R.mono (l : G.le G') {x : AV} {v : V} (r : R K mg G x v) : R K mg G' x v := R.monoL l.lt r
theorem Rs.mono (l : G.le G') {x : List AV} {v : List V} (r : Rs K mg G x v) : Rs K mg G' x v := Rs.monoL l.lt r
theorem Rf.mono (l : G.le G') {x : List (Str × AV)} {v : List (Str × V)} (r : Rf K mg G x v) : Rf K mg G' x v := Rf.monoL l.lt r
theorem RkK.mono (l : G.le G') {x : List (AV × AV)} {v : List (Key × V)} (r : RkK K mg G x v) : RkK K mg G' x v := RkK.monoL l.lt r
theorem RkT.mono (l : G.le G') {x : List (AV × AV)} {v : List (List Key × V)} (r : RkT K mg G x v) : RkT K mg G' x v := RkT.monoL l.lt r
theorem Rs.length : ∀ {xs : List AV} {vs : List V}, Rs K mg G xs vs → xs.length = vs.length
  | _, _, .nil => rfl
  | _, _, .cons _ t => by rw [List.length_cons, List.length_cons, Rs.length t]
theorem Rs.append : ∀ {xs ys : List AV} {vs ws : List V}, Rs K mg G xs vs → Rs K mg G ys ws → Rs K mg G (xs ++ ys) (vs ++ ws)
  | _, _, _, _, .nil, s => s
  | _, _, _, _, .cons r t, s => .cons r (Rs.append t s)
theorem Rs.get : ∀ {xs : List AV} {vs : List V} {i : Nat} {x : AV}, Rs K mg G xs vs → xs[i]? = some x → ∃ v, vs[i]? = some v ∧ R K mg G x v
  | _, _, _, _, .nil, e => by simp at e
  | _, _, 0, _, .cons r _, e => by simp at e; subst e; exact ⟨_, rfl, r⟩
  | _, _, i + 1, x, .cons _ t, e => by
    obtain ⟨u, h1, h2⟩ := Rs.get (i := i) (x := x) t (by simpa using e)
    exact ⟨u, by simpa using h1, h2⟩
theorem Rs.getV : ∀ {xs : List AV} {vs : List V} {i : Nat} {v : V}, Rs K mg G xs vs → vs[i]? = some v → ∃ x, xs[i]? = some x ∧ R K mg G x v
  | _, _, _, _, .nil, e => by simp at e
  | _, _, 0, _, .cons r _, e => by simp at e; subst e; exact ⟨_, rfl, r⟩
  | _, _, i + 1, x, .cons _ t, e => by
    obtain ⟨u, h1, h2⟩ := Rs.getV (i := i) (v := x) t (by simpa using e)
    exact ⟨u, by simpa using h1, h2⟩
theorem Rs.set {x : AV} {v : V} (r : R K mg G x v) : ∀ {xs : List AV} {vs : List V} (i : Nat), Rs K mg G xs vs → Rs K mg G (xs.set i x) (vs.set i v)
  | _, _, _, .nil => .nil
  | _, _, 0, .cons _ t => .cons r t
  | _, _, i + 1, .cons q t => .cons q (Rs.set r i t)
theorem Rs.take : ∀ {xs : List AV} {vs : List V} (n : Nat), Rs K mg G xs vs → Rs K mg G (xs.take n) (vs.take n)
  | _, _, 0, _ => .nil
  | _, _, _ + 1, .nil => .nil
  | _, _, n + 1, .cons r t => .cons r (Rs.take n t)
theorem Rs.drop : ∀ {xs : List AV} {vs : List V} (n : Nat), Rs K mg G xs vs → Rs K mg G (xs.drop n) (vs.drop n)
  | _, _, 0, r => r
  | _, _, _ + 1, .nil => .nil
  | _, _, n + 1, .cons _ t => Rs.drop n t
theorem Rs.eraseIdx : ∀ {xs : List AV} {vs : List V} (i : Nat), Rs K mg G xs vs → Rs K mg G (xs.eraseIdx i) (vs.eraseIdx i)
  | _, _, _, .nil => .nil
  | _, _, 0, .cons _ t => t
  | _, _, i + 1, .cons r t => .cons r (Rs.eraseIdx i t)
theorem Rs.dropLast : ∀ {xs : List AV} {vs : List V}, Rs K mg G xs vs → Rs K mg G xs.dropLast vs.dropLast
  | _, _, .nil => .nil
  | _, _, .cons _ .nil => .nil
  | _, _, .cons r (.cons q t) => .cons r (Rs.dropLast (.cons q t))
theorem Rs.ints : ∀ {ns : List Int} {vs : List V}, Rs K mg G (ns.map AV.int) vs → vs = ns.map V.int
  | [], _, .nil => rfl
  | n :: ns, _, .cons r t => by cases r; rw [Rs.ints t]; rfl
theorem Rs.of_ints : ∀ (ns : List Int), Rs K mg G (ns.map AV.int) (ns.map V.int)
  | [] => .nil
  | n :: ns => .cons (.int n) (Rs.of_ints ns)
theorem Rs.strs : ∀ {ns : List Str} {vs : List V}, Rs K mg G (ns.map AV.str) vs → vs = ns.map V.str
  | [], _, .nil => rfl
  | n :: ns, _, .cons r t => by cases r; rw [Rs.strs t]; rfl
theorem Rs.bls : ∀ {ns : List Bool} {vs : List V}, Rs K mg G (ns.map AV.bl) vs → vs = ns.map V.bl
  | [], _, .nil => rfl
  | n :: ns, _, .cons r t => by cases r; rw [Rs.bls t]; rfl
theorem Rf.look : ∀ {fs : List (Str × AV)} {vfs : List (Str × V)} {f : Str} {x : AV}, Rf K mg G fs vfs → fs.lookup f = some x → ∃ v, vfs.lookup f = some v ∧ R K mg G x v
  | _, _, _, _, .nil, e => by simp at e
  | (g, y) :: fs, (_, w) :: vfs, f, x, .cons r t, e => by
    rw [List.lookup_cons] at e
    rw [List.lookup_cons]
    cases hb : f == g with
    | true => rw [hb] at e; exact ⟨w, rfl, by cases e; exact r⟩
    | false => rw [hb] at e; exact Rf.look t e
theorem Rf.lookN : ∀ {fs : List (Str × AV)} {vfs : List (Str × V)} {f : Str}, Rf K mg G fs vfs → fs.lookup f = none → vfs.lookup f = none
  | _, _, _, .nil, e => rfl
  | (g, y) :: fs, (_, w) :: vfs, f, .cons r t, e => by
    rw [List.lookup_cons] at e
    rw [List.lookup_cons]
    cases hb : f == g with
    | true => rw [hb] at e; cases e
    | false => rw [hb] at e; exact Rf.lookN t e
theorem Rf.length : ∀ {fs : List (Str × AV)} {vfs : List (Str × V)}, Rf K mg G fs vfs → fs.length = vfs.length
  | _, _, .nil => rfl
  | _, _, .cons _ t => by rw [List.length_cons, List.length_cons, Rf.length t]
/-- putF, told of contents -/
def putA (f : Str) (x : AV) : List (Str × AV) → List (Str × AV)
  | [] => [(f, x)]
  | (g, y) :: r => if g = f then (g, x) :: r else (g, y) :: putA f x r
end
end Sim

set_option Elab.async false
set_option linter.all false
set_option maxRecDepth 100000
set_option maxHeartbeats 2000000
namespace Sim
open PySem PySem.Spec L2
open PyProof.Rows hiding St

/-- which tables of code objects are known -/
class TabT where
  T : List (Addr × Str)
variable [TabT]
section
variable (K : PySem.W.Frag) (mg : Str → Option Value)
def CellOk (G : Gh) (H : Hp) (n : Nat) : Cell → Prop
  | .lst xs => ∃ a vs, G.mu n = some a ∧ G.F a = none ∧ G.Z a = none ∧ H a = some (.lst vs) ∧ Rs K mg G xs vs
  | .dct kvs => ∃ a, G.mu n = some a ∧ G.F a = none ∧ G.Z a = none ∧ ((∃ vks, H a = some (.dK vks) ∧ RkK K mg G kvs vks) ∨ (∃ vks, H a = some (.dT vks) ∧ RkT K mg G kvs vks))
  | .ins c fs => ∃ a C dx vfs, G.mu n = some a ∧ G.F a = none ∧ G.Z a = none ∧ mg c = some (.ref C) ∧ H a = some (.ins C dx vfs) ∧ Rf K mg G fs vfs
  | .frz v => ∃ a o, G.mu n = some a ∧ G.F a = some o ∧ R K mg G v (.ref a)
/-- the tables of code objects -/
structure TbOk (G : Gh) (H : Hp) : Prop where
  T : LamX.Tabs TabT.T H
  nF : ∀ a ps, G.F a ≠ some (.tbl ps)
  nZ : ∀ a ps, G.Z a ≠ some (.tbl ps)
/-- tables and their code objects stay -/
theorem tabs_stay {T : List (Addr × Str)} {H H' : Hp} (t : LamX.Tabs T H) (e1 : ∀ b ps, H b = some (.tbl ps) → H' b = some (.tbl ps)) (e2 : ∀ b f, H b = some (.ext f) → H' b = some (.ext f)) : LamX.Tabs T H' := fun p hp => by
  obtain ⟨ps, h1, h2, h3⟩ := t p hp
  refine ⟨ps, e1 _ _ h1, h2, fun pos cv hc => ?_⟩
  obtain ⟨c, q1, q2⟩ := h3 pos cv hc
  exact ⟨c, q1, e2 _ _ q2⟩
theorem tabs_new {T : List (Addr × Str)} {H : Hp} {p : Addr} {o : HO} (t : LamX.Tabs T H) (e : H p = none) : LamX.Tabs T (upd H p o) :=
  tabs_stay t (fun b ps q => by rw [upd_ne (ne_of_none q e)]; exact q) (fun b ps q => by rw [upd_ne (ne_of_none q e)]; exact q)
theorem tabs_put {T : List (Addr × Str)} {H : Hp} {p : Addr} {o u : HO} (t : LamX.Tabs T H) (e : H p = some u) (h1 : ∀ ps, u ≠ .tbl ps) (h2 : ∀ f, u ≠ .ext f) : LamX.Tabs T (upd H p o) :=
  tabs_stay t (fun b ps q => by rw [upd_ne (fun z => h1 ps (by rw [z, e] at q; exact Option.some.inj q))]; exact q) (fun b ps q => by rw [upd_ne (fun z => h2 ps (by rw [z, e] at q; exact Option.some.inj q))]; exact q)
structure WI (G : Gh) (h : Hs) (H : Hp) : Prop where
  F : Same G.F H
  Z : Same G.Z H
  FZ : ∀ a o, G.Z a = some o → G.F a = none
  cells : ∀ n c, h[n]? = some c → CellOk K mg G H n c
  bnd : ∀ n a, G.mu n = some a → n < h.length
  inj : ∀ n m a, G.mu n = some a → G.mu m = some a → n = m
  tb : TbOk G H
end

section
variable {K : PySem.W.Frag} {mg : Str → Option Value} {G G' : Gh} {h h' : Hs} {H H' : Hp} {a p : Addr} {o : HO} {n : Nat} {c : Cell}
theorem CellOk.at (x : CellOk K mg G H n c) : ∃ a o, G.mu n = some a ∧ (H a = some o ∨ G.F a = some o) := by
  cases c with
  | lst xs => obtain ⟨a, vs, h1, _, _, h2, _⟩ := x; exact ⟨a, _, h1, .inl h2⟩
  | dct kvs => obtain ⟨a, h1, _, _, ⟨_, h2, _⟩ | ⟨_, h2, _⟩⟩ := x <;> exact ⟨a, _, h1, .inl h2⟩
  | ins c fs => obtain ⟨a, C, dx, vfs, h1, _, _, _, h2, _⟩ := x; exact ⟨a, _, h1, .inl h2⟩
  | frz v => obtain ⟨a, o, h1, h2, _⟩ := x; exact ⟨a, o, h1, .inr h2⟩
theorem WI.there (w : WI K mg G h H) (e : G.mu n = some a) : ∃ o, H a = some o := by
  have hl := w.bnd n a e
  obtain ⟨b, o, h1, h2⟩ := (w.cells n h[n] (List.getElem?_eq_getElem hl)).at
  rw [e] at h1
  cases h1
  rcases h2 with h2 | h2
  · exact ⟨o, h2⟩
  · exact ⟨o, w.F _ _ h2⟩
theorem WI.freeF (w : WI K mg G h H) (e : H p = none) : G.F p = none := w.F.free e
theorem WI.freeZ (w : WI K mg G h H) (e : H p = none) : G.Z p = none := w.Z.free e
theorem WI.freeM (w : WI K mg G h H) (e : H p = none) : ∀ n, G.mu n ≠ some p := fun n q => by
  obtain ⟨o, z⟩ := w.there q
  rw [e] at z
  cases z
/-- all that is tracked stays, and no cell is looked at anew -/
theorem CellOk.stay (x : CellOk K mg G H n c) (l : G.le G') (hF : ∀ a, G.mu n = some a → G.F a = none → G'.F a = none) (hH : ∀ a o, G.mu n = some a → H a = some o → H' a = some o) : CellOk K mg G' H' n c := by
  have hZ : ∀ a, G.Z a = none → G'.Z a = none := fun a e => by rw [l.Z]; exact e
  cases c with
  | lst xs => obtain ⟨a, vs, h1, h2, hz, h3, h4⟩ := x; exact ⟨a, vs, l.mu _ _ h1, hF a h1 h2, hZ a hz, hH a _ h1 h3, h4.mono l⟩
  | dct kvs =>
    obtain ⟨a, h1, h2, hz, ⟨vks, h3, h4⟩ | ⟨vks, h3, h4⟩⟩ := x
    · exact ⟨a, l.mu _ _ h1, hF a h1 h2, hZ a hz, .inl ⟨vks, hH a _ h1 h3, h4.mono l⟩⟩
    · exact ⟨a, l.mu _ _ h1, hF a h1 h2, hZ a hz, .inr ⟨vks, hH a _ h1 h3, h4.mono l⟩⟩
  | ins c fs => obtain ⟨a, C, dx, vfs, h1, h2, hz, hc, h3, h4⟩ := x; exact ⟨a, C, dx, vfs, l.mu _ _ h1, hF a h1 h2, hZ a hz, hc, hH a _ h1 h3, h4.mono l⟩
  | frz v => obtain ⟨a, o, h1, h2, h3⟩ := x; exact ⟨a, o, l.mu _ _ h1, l.F _ _ h2, h3.mono l⟩

def Gh.addF (G : Gh) (p : Addr) (o : HO) : Gh := { G with F := upd G.F p o }
theorem Gh.addF_le (e : G.F p = none) : G.le (G.addF p o) := ⟨fun b u q => by
  show upd G.F p o b = some u
  rw [upd_ne (ne_of_none q e)]
  exact q, fun _ _ q => q, rfl, rfl⟩
/-- a new thing that never changes -/
theorem WI.newF (w : WI K mg G h H) (e : H p = none) (ho : ∀ ps, o ≠ .tbl ps := by intro _ q; cases q) : WI K mg (G.addF p o) h (upd H p o) := by
  have hF := w.freeF e
  have hM := w.freeM e
  have hZ := w.freeZ e
  have l : G.le (G.addF p o) := Gh.addF_le hF
  refine ⟨fun b u q => ?_, fun b u q => ?_, fun b u q => ?_, fun n c hc => ?_, w.bnd, w.inj, tabs_new w.tb.T e, fun b ps q => ?_, w.tb.nZ⟩
  · by_cases hb : b = p
    · subst hb
      have q2 : upd G.F b o b = some u := q
      rw [upd_same] at q2
      rw [upd_same]; exact q2
    · have q2 : upd G.F p o b = some u := q
      rw [upd_ne hb] at q2
      rw [upd_ne hb]; exact w.F b u q2
  · have q2 : G.Z b = some u := q
    rw [upd_ne (ne_of_none q2 hZ)]
    exact w.Z b u q2
  · have q2 : G.Z b = some u := q
    show upd G.F p o b = none
    rw [upd_ne (ne_of_none q2 hZ)]
    exact w.FZ b u q2
  · refine (w.cells n c hc).stay l (fun b hb hn => ?_) (fun b u hb hu => ?_)
    · show upd G.F p o b = none
      rw [upd_ne (fun z => hM n (by rw [hb, z]))]
      exact hn
    · rw [upd_ne (fun z => hM n (by rw [hb, z]))]
      exact hu
  · have q2 : upd G.F p o b = some (.tbl ps) := q
    by_cases hb : b = p
    · rw [hb, upd_same] at q2; exact ho ps (Option.some.inj q2)
    · rw [upd_ne hb] at q2; exact w.tb.nF b ps q2
def Gh.addM (G : Gh) (n : Nat) (p : Addr) : Gh := { G with mu := fun m => if m = n then some p else G.mu m }
theorem Gh.addM_le (e : G.mu n = none) : G.le (G.addM n p) := ⟨fun _ _ q => q, fun m a q => by
  show (if m = n then some p else G.mu m) = some a
  rw [if_neg (fun z => by rw [z, e] at q; cases q)]
  exact q, rfl, rfl⟩
theorem WI.muN (w : WI K mg G h H) : G.mu h.length = none := by
  cases q : G.mu h.length with
  | none => rfl
  | some a => exact absurd (w.bnd _ _ q) (Nat.lt_irrefl _)
/-- a new cell -/
theorem WI.newC (w : WI K mg G h H) (e : H p = none) (x : CellOk K mg (G.addM h.length p) (upd H p o) h.length c) : WI K mg (G.addM h.length p) (h ++ [c]) (upd H p o) := by
  have hF := w.freeF e
  have hM := w.freeM e
  have hZ := w.freeZ e
  have l : G.le (G.addM h.length p) := Gh.addM_le w.muN
  refine ⟨fun b u q => ?_, fun b u q => ?_, w.FZ, fun n c' hc => ?_, fun n a q => ?_, fun n m a q r => ?_, tabs_new w.tb.T e, w.tb.nF, w.tb.nZ⟩
  · have q2 : G.F b = some u := q
    rw [upd_ne (ne_of_none q2 hF)]; exact w.F b u q2
  · have q2 : G.Z b = some u := q
    rw [upd_ne (ne_of_none q2 hZ)]; exact w.Z b u q2
  · by_cases hn : n < h.length
    · rw [List.getElem?_append_left hn] at hc
      refine (w.cells n c' hc).stay l (fun b hb hn => hn) (fun b u hb hu => ?_)
      rw [upd_ne (fun z => hM n (by rw [hb, z]))]
      exact hu
    · have e2 : n = h.length := by
        have := (List.getElem?_eq_some_iff.mp hc).1
        rw [List.length_append, List.length_singleton] at this
        omega
      subst e2
      rw [List.getElem?_append_right (Nat.le_refl _), Nat.sub_self] at hc
      cases hc
      exact x
  · have q2 : (if n = h.length then some p else G.mu n) = some a := q
    rw [List.length_append, List.length_singleton]
    split at q2
    · omega
    · have := w.bnd n a q2
      omega
  · have q2 : (if n = h.length then some p else G.mu n) = some a := q
    have r2 : (if m = h.length then some p else G.mu m) = some a := r
    split at q2 <;> split at r2
    · omega
    · cases q2; exact absurd r2 (hM m)
    · cases r2; exact absurd q2 (hM n)
    · exact w.inj n m a q2 r2
theorem WI.kind (w : WI K mg G h H) (hn : n < h.length) (e : G.mu n = some a) (hF : G.F a = none) : ∃ u, H a = some u ∧ (∀ ps, u ≠ .tbl ps) ∧ ∀ f, u ≠ .ext f := by
  have x := w.cells n h[n] (List.getElem?_eq_getElem hn)
  cases hc : h[n] with
  | lst xs =>
    rw [hc] at x
    obtain ⟨b, vs, h1, _, _, h2, _⟩ := x
    rw [e] at h1; cases h1
    exact ⟨_, h2, (fun _ q => by cases q), (fun _ q => by cases q)⟩
  | dct kvs =>
    rw [hc] at x
    obtain ⟨b, h1, _, _, ⟨_, h2, _⟩ | ⟨_, h2, _⟩⟩ := x <;> (rw [e] at h1; cases h1; exact ⟨_, h2, (fun _ q => by cases q), (fun _ q => by cases q)⟩)
  | ins c fs =>
    rw [hc] at x
    obtain ⟨b, C, dx, vfs, h1, _, _, _, h2, _⟩ := x
    rw [e] at h1; cases h1
    exact ⟨_, h2, (fun _ q => by cases q), (fun _ q => by cases q)⟩
  | frz v =>
    rw [hc] at x
    obtain ⟨b, o, h1, h2, _⟩ := x
    rw [e] at h1; cases h1
    rw [hF] at h2; cases h2
/-- a cell is written -/
theorem WI.put (w : WI K mg G h H) (hn : n < h.length) (e : G.mu n = some a) (hF : G.F a = none) (hZ : G.Z a = none) (x : CellOk K mg G (upd H a o) n c) : WI K mg G (h.set n c) (upd H a o) := by
  obtain ⟨u0, k1, k2, k3⟩ := w.kind hn e hF
  refine ⟨fun b u q => ?_, fun b u q => ?_, w.FZ, fun m c' hc => ?_, fun m b q => ?_, w.inj, tabs_put w.tb.T k1 k2 k3, w.tb.nF, w.tb.nZ⟩
  · rw [upd_ne (ne_of_none q hF)]; exact w.F b u q
  · rw [upd_ne (ne_of_none q hZ)]; exact w.Z b u q
  · by_cases hm : m = n
    · subst hm
      rw [List.getElem?_set_self hn] at hc
      cases hc
      exact x
    · rw [List.getElem?_set_ne (Ne.symm hm)] at hc
      refine (w.cells m c' hc).stay (Gh.le.refl _) (fun b hb hn => hn) (fun b u hb hu => ?_)
      rw [upd_ne (fun z => hm (w.inj m n a (by rw [hb, z]) e))]
      exact hu
  · rw [List.length_set]
    exact w.bnd m b q
/-- a cell never changes again -/
theorem WI.freeze {v : AV} (w : WI K mg G h H) (hn : n < h.length) (e : G.mu n = some a) (hF : G.F a = none) (hZ : G.Z a = none) (hH : H a = some o) (x : R K mg (G.addF a o) v (.ref a)) : WI K mg (G.addF a o) (h.set n (.frz v)) H := by
  have l : G.le (G.addF a o) := Gh.addF_le hF
  obtain ⟨u0, k1, k2, k3⟩ := w.kind hn e hF
  refine ⟨fun b u q => ?_, w.Z, fun b u q => ?_, fun m c' hc => ?_, fun m b q => ?_, w.inj, w.tb.T, fun b ps q => ?_, w.tb.nZ⟩
  · have q2 : upd G.F a o b = some u := q
    by_cases hb : b = a
    · subst hb
      rw [upd_same] at q2
      rw [hH]; exact q2
    · rw [upd_ne hb] at q2
      exact w.F b u q2
  · have q2 : G.Z b = some u := q
    show upd G.F a o b = none
    rw [upd_ne (ne_of_none q2 hZ)]
    exact w.FZ b u q2
  · by_cases hm : m = n
    · subst hm
      rw [List.getElem?_set_self hn] at hc
      cases hc
      exact ⟨a, o, e, upd_same, x⟩
    · rw [List.getElem?_set_ne (Ne.symm hm)] at hc
      refine (w.cells m c' hc).stay l (fun b hb hn => ?_) (fun b u hb hu => hu)
      show upd G.F a o b = none
      rw [upd_ne (fun z => hm (w.inj m n a (by rw [hb, z]) e))]
      exact hn
  · rw [List.length_set]
    exact w.bnd m b q
  · have q2 : upd G.F a o b = some (.tbl ps) := q
    by_cases hb : b = a
    · rw [hb, upd_same] at q2
      rw [k1] at hH
      exact k2 ps ((Option.some.inj hH).trans (Option.some.inj q2))
    · rw [upd_ne hb] at q2; exact w.tb.nF b ps q2
end

/-! ### slots -/
abbrev AEnv := List (Option AV)
section
variable (K : PySem.W.Frag) (mg : Str → Option Value) (G : Gh)
inductive RE : AEnv → St → Prop
  | nil : RE [] []
  | no {x : Option V} {es : AEnv} {σ : St} : RE es σ → RE (none :: es) (x :: σ)
  | yes {a : AV} {v : V} {es : AEnv} {σ : St} : R K mg G a v → RE es σ → RE (some a :: es) (some v :: σ)
end
section
variable {K : PySem.W.Frag} {mg : Str → Option Value} {G G' : Gh}
theorem RE.mono (l : G.le G') : ∀ {es : AEnv} {σ : St}, RE K mg G es σ → RE K mg G' es σ
  | _, _, .nil => .nil
  | _, _, .no t => .no (RE.mono l t)
  | _, _, .yes r t => .yes (r.mono l) (RE.mono l t)
theorem RE.get : ∀ {es : AEnv} {σ : St} {i : Nat} {a : AV}, RE K mg G es σ → es[i]? = some (some a) → ∃ v, σ[i]? = some (some v) ∧ R K mg G a v
  | _, _, _, _, .nil, e => by simp at e
  | _, _, 0, _, .no t, e => by simp at e
  | _, _, 0, _, .yes r t, e => by simp at e; subst e; exact ⟨_, rfl, r⟩
  | _, _, i + 1, a, .no t, e => by
    obtain ⟨u, h1, h2⟩ := RE.get (i := i) (a := a) t (by simpa using e)
    exact ⟨u, by simpa using h1, h2⟩
  | _, _, i + 1, a, .yes _ t, e => by
    obtain ⟨u, h1, h2⟩ := RE.get (i := i) (a := a) t (by simpa using e)
    exact ⟨u, by simpa using h1, h2⟩
theorem RE.set {a : AV} {v : V} (r : R K mg G a v) : ∀ {es : AEnv} {σ : St} (i : Nat), RE K mg G es σ → RE K mg G (es.set i (some a)) (σ.set i (some v))
  | _, _, _, .nil => .nil
  | _, _, 0, .no t => .yes r t
  | _, _, 0, .yes _ t => .yes r t
  | _, _, i + 1, .no t => .no (RE.set r i t)
  | _, _, i + 1, .yes q t => .yes q (RE.set r i t)
theorem RE.forget {x : Option V} : ∀ {es : AEnv} {σ : St} (i : Nat), RE K mg G es σ → RE K mg G (es.set i none) (σ.set i x)
  | _, _, _, .nil => .nil
  | _, _, 0, .no t => .no t
  | _, _, 0, .yes _ t => .no t
  | _, _, i + 1, .no t => .no (RE.forget i t)
  | _, _, i + 1, .yes q t => .yes q (RE.forget i t)
theorem RE.length : ∀ {es : AEnv} {σ : St}, RE K mg G es σ → es.length = σ.length
  | _, _, .nil => rfl
  | _, _, .no t => by rw [List.length_cons, List.length_cons, RE.length t]
  | _, _, .yes _ t => by rw [List.length_cons, List.length_cons, RE.length t]
def wipeE (es : AEnv) : List Nat → AEnv
  | [] => es
  | v :: vs => (wipeE es vs).set v none
theorem RE.wipe {es : AEnv} {σ : St} (r : RE K mg G es σ) : ∀ vs : List Nat, RE K mg G (wipeE es vs) (wipe σ vs)
  | [] => r
  | v :: vs => RE.forget v (RE.wipe r vs)
theorem RE.blank : ∀ n : Nat, RE K mg G (List.replicate n none) (List.replicate n none)
  | 0 => .nil
  | n + 1 => .no (RE.blank n)
theorem RE.start : ∀ {avs : List AV} {vs : List V} (n : Nat), Rs K mg G avs vs → RE K mg G (avs.map some ++ List.replicate n none) (vs.map some ++ List.replicate n none)
  | _, _, n, .nil => RE.blank n
  | _, _, n, .cons r t => .yes r (RE.start n t)
end

/-! ### what code is worth -/
/-- an exception of an own class: its class, its own dict (where it has one) -/
def XR (K : PySem.W.Frag) (mg : Str → Option Value) (G : Gh) (c : Str) (fs : List (Str × AV)) (cls : Value) (d : Option Addr) : Prop :=
  ∃ C, mg c = some (.ref C) ∧ cls = .ref C ∧ ((fs = [] ∧ d = none) ∨ ∃ a vfs, d = some a ∧ G.F a = some (.xd vfs) ∧ Rf K mg G fs vfs ∧ fs ≠ [])
theorem XR.mono {K : PySem.W.Frag} {mg : Str → Option Value} {G G' : Gh} {c : Str} {fs : List (Str × AV)} {cls : Value} {d : Option Addr} (l : G.lt G') (x : XR K mg G c fs cls d) : XR K mg G' c fs cls d := by
  obtain ⟨C, h1, h2, h3⟩ := x
  refine ⟨C, h1, h2, ?_⟩
  rcases h3 with h3 | ⟨a, vfs, h4, h5, h6⟩
  · exact .inl h3
  · exact .inr ⟨a, vfs, h4, l.F _ _ h5, h6.1.monoL l, h6.2⟩

abbrev EM (α : Type) := AEnv → M α
section
variable (X : Cx) (W : WX)
/-- behind r: Q of each way on -/
def post {α β : Type} (RR : Gh → α → β → Prop) (G : Gh) (σ : St) (Q : β → Hp → Prop) : Res α → Prop
  | .ok a h' => ∀ G' H' z, G.le G' → WI X.K X.mg G' h' H' → RR G' a z → Q z H'
  | .exc c fs h' => ∀ G' H' cls d, G.le G' → WI X.K X.mg G' h' H' → XR X.K X.mg G' c fs cls d → W cls d σ H'
  | .bad => False
def tSE (m : EM AV) : TE := fun σ H Q => ∃ G h env, WI X.K X.mg G h H ∧ RE X.K X.mg G env σ ∧ post X W (R X.K X.mg) G σ Q (m env h)
def tSA (m : EM (List AV)) : TA := fun σ H Q => ∃ G h env, WI X.K X.mg G h H ∧ RE X.K X.mg G env σ ∧ post X W (Rs X.K X.mg) G σ Q (m env h)
def tST (m : EM Bool) : TT := fun σ H Q => ∃ G h env, WI X.K X.mg G h H ∧ RE X.K X.mg G env σ ∧ post X W (fun _ (a b : Bool) => a = b) G σ Q (m env h)
structure SE (e : Expr) (m : EM AV) : Prop where
  pe : PE X e (tSE X W m)
structure SA (es : List Expr) (m : EM (List AV)) : Prop where
  pa : PA X es (tSA X W m)
structure ST (e : Expr) (m : EM Bool) : Prop where
  pt : PT X e (tST X W m)
structure SW (e : Expr) (m : EM Bool) : Prop where
  pw : PW X e (tST X W m)

/-- what a statement comes to -/
inductive Out where
  | nx (e : AEnv) (h : Hs)
  | rt (v : AV) (h : Hs)
  | bk (e : AEnv) (h : Hs)
  | ct (e : AEnv) (h : Hs)
  | exc (c : Str) (fs : List (Str × AV)) (e : AEnv) (h : Hs)
  | bad
abbrev SM := AEnv → Hs → Out
def postS (G : Gh) (D : Ends) : Out → Prop
  | .nx e h' => ∀ G' H' σ', G.le G' → WI X.K X.mg G' h' H' → RE X.K X.mg G' e σ' → D.nx σ' H'
  | .rt v h' => ∀ G' H' z, G.le G' → WI X.K X.mg G' h' H' → R X.K X.mg G' v z → D.rt z H'
  | .bk e h' => ∀ G' H' σ', G.le G' → WI X.K X.mg G' h' H' → RE X.K X.mg G' e σ' → D.bk σ' H'
  | .ct e h' => ∀ G' H' σ', G.le G' → WI X.K X.mg G' h' H' → RE X.K X.mg G' e σ' → D.ct σ' H'
  | .exc c fs e h' => ∀ G' H' σ' cls d, G.le G' → WI X.K X.mg G' h' H' → RE X.K X.mg G' e σ' → XR X.K X.mg G' c fs cls d → W cls d σ' H'
  | .bad => False
def tSS (m : SM) : TS := fun D σ H => ∃ G h env, WI X.K X.mg G h H ∧ RE X.K X.mg G env σ ∧ postS X W G D (m env h)
structure SS (st : Stmt) (m : SM) : Prop where
  ps : PS X st (tSS X W m)
structure SSs (st : List Stmt) (m : SM) : Prop where
  pss : PSs X st (tSS X W m)
/-- what every rule may lean on -/
structure Ok (k : Nat) : Prop where
  nd : X.N.Nodup
  tk : Takes X W
  hr : Room k X.A
  calm : X.calm = true
  po : PassesOwn (model X.prog X.w) X.A X.env X.xe
end

section
variable {X : Cx} {W : WX}
theorem post.le {α β : Type} {RR : Gh → α → β → Prop} {G G1 : Gh} {σ : St} {Q : β → Hp → Prop} {r : Res α} (l : G.le G1) (p : post X W RR G σ Q r) : post X W RR G1 σ Q r := by
  cases r with
  | ok a h => exact fun G' H' z l' => p G' H' z (l.trans l')
  | exc c fs h => exact fun G' H' cls d l' => p G' H' cls d (l.trans l')
  | bad => exact p
theorem postS.le {G G1 : Gh} {D : Ends} {r : Out} (l : G.le G1) (p : postS X W G D r) : postS X W G1 D r := by
  cases r with
  | nx e h => exact fun G' H' z l' => p G' H' z (l.trans l')
  | rt v h => exact fun G' H' z l' => p G' H' z (l.trans l')
  | bk e h => exact fun G' H' z l' => p G' H' z (l.trans l')
  | ct e h => exact fun G' H' z l' => p G' H' z (l.trans l')
  | exc c fs e h => exact fun G' H' σ' cls d l' => p G' H' σ' cls d (l.trans l')
  | bad => exact p
theorem _root_.L2.PE.weak {e : Expr} {t t' : TE} (p : PE X e t) (h : ∀ σ H Q, t' σ H Q → t σ H Q) : PE X e t' := ⟨fun pins s σ H Q I q => p.run pins s σ H Q I (h σ H Q q)⟩
theorem _root_.L2.PT.weak {e : Expr} {t t' : TT} (p : PT X e t) (h : ∀ σ H Q, t' σ H Q → t σ H Q) : PT X e t' := ⟨fun pins s σ H Q I q => p.run pins s σ H Q I (h σ H Q q)⟩
theorem _root_.L2.PW.weak {e : Expr} {t t' : TT} (p : PW X e t) (h : ∀ σ H Q, t' σ H Q → t σ H Q) : PW X e t' := ⟨fun wh pins s σ H Q I q => p.run wh pins s σ H Q I (h σ H Q q)⟩
theorem _root_.L2.PA.weak {e : List Expr} {t t' : TA} (p : PA X e t) (h : ∀ σ H Q, t' σ H Q → t σ H Q) : PA X e t' := ⟨fun pos pins s σ H Q I q => p.run pos pins s σ H Q I (h σ H Q q)⟩
theorem _root_.L2.PS.weak {e : Stmt} {t t' : TS} (p : PS X e t) (h : ∀ D σ H, t' D σ H → t D σ H) : PS X e t' := ⟨fun pins s σ H D I q => p.run pins s σ H D I (h D σ H q)⟩
theorem _root_.L2.PSs.weak {e : List Stmt} {t t' : TS} (p : PSs X e t) (h : ∀ D σ H, t' D σ H → t D σ H) : PSs X e t' := ⟨fun pins s σ H D I q => p.run pins s σ H D I (h D σ H q)⟩
end
end Sim

set_option Elab.async false
set_option linter.all false
set_option maxRecDepth 100000
set_option maxHeartbeats 2000000
namespace Sim
open PySem PySem.Spec L2
open PyProof.Rows hiding St
variable [TabT]

theorem post_bnd {X : Cx} {W : WX} {α α' β β' : Type} {RA : Gh → α → α' → Prop} {RB : Gh → β → β' → Prop} {G : Gh} {σ : L2.St} {Q : β' → Hp → Prop} {Q' : α' → Hp → Prop} {m : M α} {f : α → M β} {h : Hs}
    (p : post X W RB G σ Q (M.bnd m f h))
    (k : ∀ a h' G' H' z, G.le G' → WI X.K X.mg G' h' H' → RA G' a z → post X W RB G' σ Q (f a h') → Q' z H') : post X W RA G σ Q' (m h) := by
  unfold M.bnd at p
  cases e : m h with
  | ok a h1 =>
    rw [e] at p
    exact fun G' H' z l w r => k a h1 G' H' z l w r (post.le l p)
  | exc c fs h1 =>
    rw [e] at p
    exact p
  | bad =>
    rw [e] at p
    exact p

/-! ### names and constants -/
def mV (i : Nat) : EM AV := fun env h => match env[i]? with
  | some (some a) => .ok a h
  | _ => .bad
def mC (v : AV) : EM AV := fun _ h => .ok v h
/-- from here on it never changes -/
def frzA (x : AV) (h : Hs) : Res AV := match x with
  | .cell n => (match h[n]? with
    | some (.lst xs) => .ok (.lst xs) (h.set n (.frz (.lst xs)))
    | some (.ins c fs) => .ok (.obj c fs) (h.set n (.frz (.obj c fs)))
    | some (.frz v) => .ok v h
    | _ => .bad)
  | a => .ok a h
def mF (m : EM AV) : EM AV := fun env => (m env).bnd frzA

section
variable {X : Cx} {W : WX} {k : Nat}
theorem se_v (i : Nat) {x : Str} {pos : Pos} (hN : X.N[i]? = some x := by rfl) (hv : Vis X.env.scope x := by first | exact Or.inl rfl | exact Or.inr (Or.inl rfl) | exact Or.inr (Or.inr rfl)) (hd : (x == ("__debug__" : Str)) = false := by decide)
    (hcd : (x == ("__classdict__" : Str)) = false := by decide) : SE X W (.Name x pos) (mV i) := by
  refine ⟨(pe_var hN hv hd hcd).weak fun σ H Q ⟨G, h, env, w, re, p⟩ => ?_⟩
  unfold mV at p
  split at p
  · rename_i a e
    obtain ⟨v, e1, r⟩ := re.get e
    exact ⟨v, e1, p G H v (.refl G) w r⟩
  · exact p.elim
theorem se_c {e : Expr} {v : V} {a : AV} (p : PE X e (tC v)) (r : ∀ G, R X.K X.mg G a v) : SE X W e (mC a) :=
  ⟨p.weak fun σ H Q ⟨G, h, env, w, re, q⟩ => q G H v (.refl G) w (r G)⟩
theorem se_int {i : Int} {j : Nat} {pos : Pos} : SE X W (.Constant (.int i) j pos) (mC (.int i)) := se_c pe_int fun _ => .int i
theorem se_bl {i : Bool} {j : Nat} {pos : Pos} : SE X W (.Constant (.bool i) j pos) (mC (.bl i)) := se_c pe_bl fun _ => .bl i
theorem se_str {i : Str} {j : Nat} {pos : Pos} : SE X W (.Constant (.str i) j pos) (mC (.str i)) := se_c pe_str fun _ => .str i
theorem se_non {j : Nat} {pos : Pos} : SE X W (.Constant .none j pos) (mC .non) := se_c pe_non fun _ => .non
theorem se_gint {x : Str} {i : Int} {t : Tok} {pos : Pos} (hm : X.mg x = some (.int i t)) (hg : Gl X x := by rfl) (hd : (x == ("__debug__" : Str)) = false := by decide) : SE X W (.Name x pos) (mC (.int i)) := se_c (pe_glob (v := .int i) hg hm ⟨t, rfl⟩ hd) fun _ => .int i

theorem R.frz {K : PySem.W.Frag} {mg : Str → Option Value} {G : Gh} {h : Hs} {H : Hp} {x a : AV} {v : V} {h' : Hs} (w : WI K mg G h H) (r : R K mg G x v) (e : frzA x h = .ok a h') :
    ∃ G', G.le G' ∧ WI K mg G' h' H ∧ R K mg G' a v := by
  unfold frzA at e
  split at e
  · rename_i n
    cases r with
    | cell hm =>
      rename_i ad
      split at e
      · rename_i xs hn
        injection e with e1 e2
        subst e1 e2
        obtain ⟨b, vs, h1, h2, hz, h3, h4⟩ := w.cells n _ hn
        rw [hm] at h1
        cases h1
        have hl : n < h.length := w.bnd n _ hm
        have le : G.le (G.addF ad (.lst vs)) := Gh.addF_le h2
        have rr : R K mg (G.addF ad (.lst vs)) (.lst xs) (.ref ad) := .lst upd_same (h4.mono le)
        exact ⟨_, le, w.freeze hl hm h2 hz h3 rr, rr⟩
      · rename_i c fs hn
        injection e with e1 e2
        subst e1 e2
        obtain ⟨b, C, dx, vfs, h1, h2, hz, hc, h3, h4⟩ := w.cells n _ hn
        rw [hm] at h1
        cases h1
        have hl : n < h.length := w.bnd n _ hm
        have le : G.le (G.addF ad (.ins C dx vfs)) := Gh.addF_le h2
        have rr : R K mg (G.addF ad (.ins C dx vfs)) (.obj c fs) (.ref ad) := .obj hc upd_same (h4.mono le)
        exact ⟨_, le, w.freeze hl hm h2 hz h3 rr, rr⟩
      · rename_i u hn
        injection e with e1 e2
        subst e1 e2
        obtain ⟨b, o, h1, h2, h3⟩ := w.cells n _ hn
        rw [hm] at h1
        cases h1
        exact ⟨G, .refl G, w, h3⟩
      · cases e
  · injection e with e1 e2
    subst e1 e2
    exact ⟨G, .refl G, w, r⟩
theorem frz_noexc {x : AV} {h : Hs} {c : Str} {fs : List (Str × AV)} {h' : Hs} : frzA x h ≠ .exc c fs h' := by
  unfold frzA
  split
  · split <;> intro q <;> cases q
  · intro q; cases q
theorem se_frz {e : Expr} {m : EM AV} (he : SE X W e m) : SE X W e (mF m) := by
  refine ⟨he.pe.weak fun σ H Q ⟨G, h, env, w, re, p⟩ => ⟨G, h, env, w, re, post_bnd p fun a h1 G1 H1 z l w1 r q => ?_⟩⟩
  cases e : frzA a h1 with
  | ok b h2 =>
    rw [e] at q
    obtain ⟨G2, l2, w2, r2⟩ := r.frz w1 e
    exact q G2 H1 z l2 w2 r2
  | exc c fs h2 => exact absurd e frz_noexc
  | bad => rw [e] at q; exact q.elim

/-! ### operators -/
def rd {α : Type} (g : Hs → Option α) : M α := fun h => match g h with
  | some a => .ok a h
  | none => .bad
/-- an operation that reads -/
def r2 (K : PySem.W.Frag) (mg : Str → Option Value) (g : Hs → AV → AV → Option AV) : R2 := fun x y H Q => ∃ G h a b c, WI K mg G h H ∧ R K mg G a x ∧ R K mg G b y ∧ g h a b = some c ∧
  ∀ G' H' z, G.le G' → WI K mg G' h H' → R K mg G' c z → Q z H'
def r1 (K : PySem.W.Frag) (mg : Str → Option Value) (g : Hs → AV → Option AV) : V → Hp → VK → Prop := fun x H Q => ∃ G h a c, WI K mg G h H ∧ R K mg G a x ∧ g h a = some c ∧
  ∀ G' H' z, G.le G' → WI K mg G' h H' → R K mg G' c z → Q z H'
def rN (K : PySem.W.Frag) (mg : Str → Option Value) (g : Hs → List AV → Option AV) : List V → Hp → VK → Prop := fun xs H Q => ∃ G h as c, WI K mg G h H ∧ Rs K mg G as xs ∧ g h as = some c ∧
  ∀ G' H' z, G.le G' → WI K mg G' h H' → R K mg G' c z → Q z H'
def m2 (g : Hs → AV → AV → Option AV) (a b : EM AV) : EM AV := fun env => (a env).bnd fun x => (b env).bnd fun y => rd fun h => g h x y
def m1 (g : Hs → AV → Option AV) (a : EM AV) : EM AV := fun env => (a env).bnd fun x => rd fun h => g h x
def mN (g : Hs → List AV → Option AV) (a : EM (List AV)) : EM AV := fun env => (a env).bnd fun x => rd fun h => g h x
theorem post_rd {α β : Type} {RR : Gh → α → β → Prop} {G : Gh} {σ : L2.St} {Q : β → Hp → Prop} {g : Hs → Option α} {h : Hs} (p : post X W RR G σ Q (rd g h)) : ∃ c, g h = some c ∧ ∀ G' H' z, G.le G' → WI X.K X.mg G' h H' → RR G' c z → Q z H' := by
  unfold rd at p
  cases e : g h with
  | some a => rw [e] at p; exact ⟨a, rfl, p⟩
  | none => rw [e] at p; exact p.elim
variable {a b c : Expr} {ma mb mc : EM AV} {pos : Pos}
/-- two in a row -/
theorem tt2 {g : Hs → AV → AV → Option AV} {σ : L2.St} {H : Hp} {Q : VK} (p : tSE X W (m2 g ma mb) σ H Q) : tSE X W ma σ H fun x H1 => tSE X W mb σ H1 fun y H2 => r2 X.K X.mg g x y H2 Q := by
  obtain ⟨G, h, env, w, re, p⟩ := p
  refine ⟨G, h, env, w, re, post_bnd p fun a h1 G1 H1 x l1 w1 ra p1 => ⟨G1, h1, env, w1, re.mono l1, post_bnd p1 fun b h2 G2 H2 y l2 w2 rb p2 => ?_⟩⟩
  obtain ⟨c, e, q⟩ := post_rd p2
  exact ⟨G2, h2, a, b, c, w2, ra.mono l2, rb, e, q⟩
theorem se_op {op : Operator} {g : Hs → AV → AV → Option AV} (ho : OpR X (binaryOp op) (r2 X.K X.mg g)) (ha : SE X W a ma) (hb : SE X W b mb) : SE X W (.BinOp a op b pos) (m2 g ma mb) :=
  ⟨(pe_op ho ha.pe hb.pe).weak fun σ H Q p => tt2 p⟩
theorem se_un {op : UnaryOp} {g : Hs → AV → Option AV} (ho : UnR X (unaryOp op) (r1 X.K X.mg g)) (ha : SE X W a ma) : SE X W (.UnaryOp op a pos) (m1 g ma) := by
  refine ⟨(pe_un ho ha.pe).weak fun σ H Q ⟨G, h, env, w, re, p⟩ => ⟨G, h, env, w, re, post_bnd p fun a h1 G1 H1 x l1 w1 ra p1 => ?_⟩⟩
  obtain ⟨c, e, q⟩ := post_rd p1
  exact ⟨G1, h1, a, c, w1, ra, e, q⟩
theorem se_cmp {op : CmpOp} {g : Hs → AV → AV → Option AV} (ho : OpR X (compareOp op) (r2 X.K X.mg g)) (ha : SE X W a ma) (hb : SE X W b mb) (hm : behindInMarks op b = false := by first | exact nobehind _ (by decide) (by decide) | rfl) : SE X W (.Compare a [op] [b] pos) (m2 g ma mb) :=
  ⟨(pe_cmpR ho ha.pe hb.pe hm).weak fun σ H Q p => tt2 p⟩
/-- a truth value behind it -/
def mT (m : EM AV) : EM Bool := fun env => (m env).bnd fun x => rd fun _ => match x with
  | .bl b => some b
  | _ => none
theorem st_cmp {op : CmpOp} {g : Hs → AV → AV → Option AV} (ho : OpR X (compareOp op) (r2 X.K X.mg g)) (ha : SE X W a ma) (hb : SE X W b mb) (hm : behindInMarks op b = false := by first | exact nobehind _ (by decide) (by decide) | rfl) : ST X W (.Compare a [op] [b] pos) (mT (m2 g ma mb)) := by
  refine ⟨(pt_cmpR ho ha.pe hb.pe hm).weak fun σ H Q p => ?_⟩
  refine tt2 (Q := fun x H' => ∃ k, x = .bl k ∧ Q k H') ?_
  obtain ⟨G, h, env, w, re, p⟩ := p
  refine ⟨G, h, env, w, re, post_bnd p fun a h1 G1 H1 x l1 w1 ra p1 => ?_⟩
  obtain ⟨c, e, q⟩ := post_rd p1
  cases a with
  | bl b0 => cases ra; exact ⟨b0, rfl, q G1 H1 b0 (.refl G1) w1 (Option.some.inj e).symm⟩
  | _ => cases e
/-- a chain of two comparisons -/
def mChain (g g' : Hs → AV → AV → Option AV) (a b c : EM AV) : EM AV := fun env => (a env).bnd fun x => (b env).bnd fun y => (rd fun h => g h x y : M AV).bnd fun k => match k with
  | .bl true => (c env).bnd fun z => rd fun h => g' h y z
  | .bl false => M.ret (.bl false)
  | _ => M.bad
theorem ttC {g g' : Hs → AV → AV → Option AV} {σ : L2.St} {H : Hp} {Q : VK} (p : tSE X W (mChain g g' ma mb mc) σ H Q) : tChain (r2 X.K X.mg g) (r2 X.K X.mg g') (tSE X W ma) (tSE X W mb) (tSE X W mc) σ H Q := by
  obtain ⟨G, h, env, w, re, p⟩ := p
  refine ⟨G, h, env, w, re, post_bnd p fun a h1 G1 H1 x l1 w1 ra p1 => ⟨G1, h1, env, w1, re.mono l1, post_bnd p1 fun b h2 G2 H2 y l2 w2 rb p2 => ?_⟩⟩
  have e0 : ∀ o, g h2 a b = o → (rd (fun h => g h a b) : M AV) h2 = (match o with | some k => .ok k h2 | none => .bad) := fun o eo => by
    unfold rd
    dsimp only
    rw [eo]
    cases o <;> rfl
  unfold M.bnd at p2
  cases e : g h2 a b with
  | none => rw [e0 _ e] at p2; exact p2.elim
  | some k =>
    rw [e0 _ e] at p2
    refine ⟨G2, h2, a, b, k, w2, ra.mono l2, rb, e, fun G3 H3 z l3 w3 r3 => ?_⟩
    cases k with
    | bl kk =>
      cases r3
      refine ⟨kk, rfl, ?_⟩
      cases kk with
      | true =>
        rw [if_pos rfl]
        refine ⟨G3, h2, env, w3, (((re.mono l1).mono l2).mono l3), post_bnd (post.le l3 p2) fun c h4 G4 H4 z l4 w4 rc p4 => ?_⟩
        obtain ⟨d, e4, q⟩ := post_rd p4
        exact ⟨G4, h4, b, c, d, w4, (rb.mono l3).mono l4, rc, e4, q⟩
      | false =>
        rw [if_neg (by simp)]
        exact p2 G3 H3 _ l3 w3 (.bl false)
    | _ => exact p2.elim
theorem se_chain {op op' : CmpOp} {g g' : Hs → AV → AV → Option AV} (ho : OpR X (compareOp op) (r2 X.K X.mg g)) (ho' : OpR X (compareOp op') (r2 X.K X.mg g')) (ha : SE X W a ma) (hb : SE X W b mb) (hc : SE X W c mc)
    (hm : lastMarks [op, op'] [b, c] = false := by with_unfolding_all rfl) : SE X W (.Compare a [op, op'] [b, c] pos) (mChain g g' ma mb mc) :=
  ⟨(pe_chain ho ho' ha.pe hb.pe hc.pe hm).weak fun σ H Q p => ttC p⟩
theorem st_chain {op op' : CmpOp} {g g' : Hs → AV → AV → Option AV} (ho : OpR X (compareOp op) (r2 X.K X.mg g)) (ho' : OpR X (compareOp op') (r2 X.K X.mg g')) (ha : SE X W a ma) (hb : SE X W b mb) (hc : SE X W c mc)
    (hm : lastMarks [op, op'] [b, c] = false := by with_unfolding_all rfl) : ST X W (.Compare a [op, op'] [b, c] pos) (mT (mChain g g' ma mb mc)) := by
  refine ⟨(pt_chain ho ho' ha.pe hb.pe hc.pe hm).weak fun σ H Q p => ?_⟩
  refine ttC (Q := fun x H' => ∃ k, x = .bl k ∧ Q k H') ?_
  obtain ⟨G, h, env, w, re, p⟩ := p
  refine ⟨G, h, env, w, re, post_bnd p fun a h1 G1 H1 x l1 w1 ra p1 => ?_⟩
  obtain ⟨c, e, q⟩ := post_rd p1
  cases a with
  | bl b0 => cases ra; exact ⟨b0, rfl, q G1 H1 b0 (.refl G1) w1 (Option.some.inj e).symm⟩
  | _ => cases e

/-! ### truth -/
/-- a test whose value is a bool -/
theorem st_val {e : Expr} {m : EM AV} (h : SE X W e m) (he : ∀ whole, isTrue e X.env whole = (do let v ← whole; standAt e.pos; holding [v] (truthy v)) := by intro _; rfl) : ST X W e (mT m) := by
  refine ⟨(pt_val h.pe he).weak fun σ H Q ⟨G, h, env, w, re, p⟩ => ⟨G, h, env, w, re, post_bnd p fun a h1 G1 H1 x l1 w1 ra p1 => ?_⟩⟩
  obtain ⟨c, e, q⟩ := post_rd p1
  cases a with
  | bl b0 => cases ra; exact ⟨b0, rfl, q G1 H1 b0 (.refl G1) w1 (Option.some.inj e).symm⟩
  | _ => cases e
def mAnd (a b : EM Bool) : EM Bool := fun env => (a env).bnd fun x => if x = true then b env else M.ret false
def mOr (a b : EM Bool) : EM Bool := fun env => (a env).bnd fun x => if x = true then M.ret true else b env
def mNot (a : EM Bool) : EM Bool := fun env => (a env).bnd fun x => M.ret (!x)
variable {rest : List Expr} {ba bb : EM Bool}
theorem sw_st {e : Expr} {m : EM Bool} (h : SW X W e m) : ST X W e m := ⟨h.pw.pt⟩
theorem sw_and1 (ha : ST X W a ba) : SW X W (.BoolOp .And [a] pos) ba := ⟨pw_and1 ha.pt⟩
theorem sw_or1 (ha : ST X W a ba) : SW X W (.BoolOp .Or [a] pos) ba := ⟨pw_or1 ha.pt⟩
theorem sw_and (ha : ST X W a ba) (hb : SW X W (.BoolOp .And (b :: rest) pos) bb) : SW X W (.BoolOp .And (a :: b :: rest) pos) (mAnd ba bb) := by
  refine ⟨(pw_and ha.pt hb.pw).weak fun σ H Q ⟨G, h, env, w, re, p⟩ => ⟨G, h, env, w, re, post_bnd p fun a h1 G1 H1 x l1 w1 ra p1 => ?_⟩⟩
  subst ra
  split at p1
  · rename_i e; subst e
    rw [if_pos rfl]
    exact ⟨G1, h1, env, w1, re.mono l1, p1⟩
  · rename_i e
    rw [if_neg e]
    exact p1 G1 H1 false (.refl G1) w1 rfl
theorem sw_or (ha : ST X W a ba) (hb : SW X W (.BoolOp .Or (b :: rest) pos) bb) : SW X W (.BoolOp .Or (a :: b :: rest) pos) (mOr ba bb) := by
  refine ⟨(pw_or ha.pt hb.pw).weak fun σ H Q ⟨G, h, env, w, re, p⟩ => ⟨G, h, env, w, re, post_bnd p fun a h1 G1 H1 x l1 w1 ra p1 => ?_⟩⟩
  subst ra
  split at p1
  · rename_i e; subst e
    rw [if_pos rfl]
    exact p1 G1 H1 true (.refl G1) w1 rfl
  · rename_i e
    rw [if_neg e]
    exact ⟨G1, h1, env, w1, re.mono l1, p1⟩
theorem st_not (ha : ST X W a ba) : ST X W (.UnaryOp .Not a pos) (mNot ba) := by
  refine ⟨(pt_not ha.pt).weak fun σ H Q ⟨G, h, env, w, re, p⟩ => ⟨G, h, env, w, re, post_bnd p fun a h1 G1 H1 x l1 w1 ra p1 => ?_⟩⟩
  subst ra
  exact p1 G1 H1 (!a) (.refl G1) w1 rfl
/-- and, or, not as values, of bools -/
def mB (m : EM Bool) : EM AV := fun env => (m env).bnd fun x => M.ret (.bl x)
def mAndV (a b : EM AV) : EM AV := fun env => (a env).bnd fun x => match x with
  | .bl true => b env
  | .bl false => M.ret (.bl false)
  | _ => M.bad
def mOrV (a b : EM AV) : EM AV := fun env => (a env).bnd fun x => match x with
  | .bl true => M.ret (.bl true)
  | .bl false => b env
  | _ => M.bad
def mNotV (a : EM AV) : EM AV := fun env => (a env).bnd fun x => match x with
  | .bl k => M.ret (.bl (!k))
  | _ => M.bad
theorem se_one {op : BoolOp} {m : EM AV} (ha : SE X W a m) : SE X W (.BoolOp op [a] pos) m := ⟨pe_one ha.pe⟩
theorem se_and (ha : SE X W a ma) (hb : SE X W (.BoolOp .And (b :: rest) pos) mb) : SE X W (.BoolOp .And (a :: b :: rest) pos) (mAndV ma mb) := by
  refine ⟨(pe_and ha.pe hb.pe).weak fun σ H Q ⟨G, h, env, w, re, p⟩ => ⟨G, h, env, w, re, post_bnd p fun a h1 G1 H1 x l1 w1 ra p1 => ?_⟩⟩
  split at p1
  · cases ra
    exact ⟨true, rfl, by rw [if_pos rfl]; exact ⟨G1, h1, env, w1, re.mono l1, p1⟩⟩
  · cases ra
    exact ⟨false, rfl, by rw [if_neg (by simp)]; exact p1 G1 H1 _ (.refl G1) w1 (.bl false)⟩
  · exact p1.elim
theorem se_or (ha : SE X W a ma) (hb : SE X W (.BoolOp .Or (b :: rest) pos) mb) : SE X W (.BoolOp .Or (a :: b :: rest) pos) (mOrV ma mb) := by
  refine ⟨(pe_or ha.pe hb.pe).weak fun σ H Q ⟨G, h, env, w, re, p⟩ => ⟨G, h, env, w, re, post_bnd p fun a h1 G1 H1 x l1 w1 ra p1 => ?_⟩⟩
  split at p1
  · cases ra
    exact ⟨true, rfl, by rw [if_pos rfl]; exact p1 G1 H1 _ (.refl G1) w1 (.bl true)⟩
  · cases ra
    exact ⟨false, rfl, by rw [if_neg (by simp)]; exact ⟨G1, h1, env, w1, re.mono l1, p1⟩⟩
  · exact p1.elim
theorem se_not (ha : SE X W a ma) : SE X W (.UnaryOp .Not a pos) (mNotV ma) := by
  refine ⟨(pe_not ha.pe).weak fun σ H Q ⟨G, h, env, w, re, p⟩ => ⟨G, h, env, w, re, post_bnd p fun a h1 G1 H1 x l1 w1 ra p1 => ?_⟩⟩
  split at p1
  · cases ra
    exact ⟨_, rfl, p1 G1 H1 _ (.refl G1) w1 (.bl _)⟩
  · exact p1.elim
def mIf (t : EM Bool) (a b : EM AV) : EM AV := fun env => (t env).bnd fun x => if x = true then a env else b env
theorem se_if (hc : ST X W c ba) (ha : SE X W a ma) (hb : SE X W b mb) : SE X W (.IfExp c a b pos) (mIf ba ma mb) := by
  refine ⟨(pe_ifExp hc.pt ha.pe hb.pe).weak fun σ H Q ⟨G, h, env, w, re, p⟩ => ⟨G, h, env, w, re, post_bnd p fun a h1 G1 H1 x l1 w1 ra p1 => ?_⟩⟩
  subst ra
  split at p1
  · rename_i e
    rw [if_pos e]; exact ⟨G1, h1, env, w1, re.mono l1, p1⟩
  · rename_i e
    rw [if_neg e]; exact ⟨G1, h1, env, w1, re.mono l1, p1⟩

/-! ### argument lists, displays -/
def aNil : EM (List AV) := fun _ => M.ret []
def aCons (a : EM AV) (r : EM (List AV)) : EM (List AV) := fun env => (a env).bnd fun x => (r env).bnd fun xs => M.ret (x :: xs)
variable {es : List Expr} {as : EM (List AV)}
theorem sa_nil : SA X W [] aNil := ⟨pa_nil.weak fun σ H Q ⟨G, h, env, w, re, p⟩ => p G H [] (.refl G) w .nil⟩
theorem sa_cons (ha : SE X W a ma) (hr : SA X W es as) (hs : starEach (a :: es) X.env = (false, eval a X.env) :: starEach es X.env := by rfl) : SA X W (a :: es) (aCons ma as) := by
  refine ⟨(pa_cons ha.pe hr.pa hs).weak fun σ H Q ⟨G, h, env, w, re, p⟩ => ⟨G, h, env, w, re, post_bnd p fun a h1 G1 H1 x l1 w1 ra p1 => ⟨G1, h1, env, w1, re.mono l1, post_bnd p1 fun xs h2 G2 H2 vs l2 w2 rs p2 => ?_⟩⟩⟩
  exact p2 G2 H2 (x :: vs) (.refl G2) w2 (.cons (ra.mono l2) rs)
def small (xs : List AV) : Bool := decide (xs.length ≤ sizeLine)
def mTup (m : EM (List AV)) : EM AV := fun env => (m env).bnd fun xs => rd fun _ => if small xs then some (.tup xs) else none
def mLst (m : EM (List AV)) : EM AV := fun env => (m env).bnd fun xs => rd fun _ => if small xs then some (.lst xs) else none
theorem se_tup {x1 : Nat} (ha : SA X W es as) : SE X W (.Tuple es x1 pos) (mTup as) := by
  refine ⟨(pe_tup ha.pa).weak fun σ H Q ⟨G, h, env, w, re, p⟩ => ⟨G, h, env, w, re, post_bnd p fun xs h1 G1 H1 vs l1 w1 rs p1 => ?_⟩⟩
  obtain ⟨c, e, q⟩ := post_rd p1
  split at e
  · rename_i hs
    cases e
    refine ⟨by rw [← rs.length]; exact of_decide_eq_true hs, fun a ha => ?_⟩
    have le : G1.le (G1.addF a (.tup vs)) := Gh.addF_le (w1.freeF ha)
    exact q _ _ _ le (w1.newF ha) (.tup (.inl (.inl upd_same)) (rs.mono le))
  · cases e
theorem se_lst (ha : SA X W es as) : SE X W (.List es pos) (mLst as) := by
  refine ⟨(pe_lst ha.pa).weak fun σ H Q ⟨G, h, env, w, re, p⟩ => ⟨G, h, env, w, re, post_bnd p fun xs h1 G1 H1 vs l1 w1 rs p1 => ?_⟩⟩
  obtain ⟨c, e, q⟩ := post_rd p1
  split at e
  · rename_i hs
    cases e
    refine ⟨by rw [← rs.length]; exact of_decide_eq_true hs, fun a ha => ?_⟩
    have le : G1.le (G1.addF a (.lst vs)) := Gh.addF_le (w1.freeF ha)
    exact q _ _ _ le (w1.newF ha) (.lst upd_same (rs.mono le))
  · cases e
/-- a list that may change: a new cell -/
def newC (xs : List AV) : M AV := fun h => .ok (.cell h.length) (h ++ [.lst xs])
def mLstC (m : EM (List AV)) : EM AV := fun env => (m env).bnd fun xs => if small xs then newC xs else M.bad
theorem WI.newL {K : PySem.W.Frag} {mg : Str → Option Value} {G : Gh} {h : Hs} {H : Hp} {p : Addr} {xs : List AV} {vs : List V} (w : WI K mg G h H) (e : H p = none) (r : Rs K mg G xs vs) :
    G.le (G.addM h.length p) ∧ WI K mg (G.addM h.length p) (h ++ [.lst xs]) (upd H p (.lst vs)) ∧ R K mg (G.addM h.length p) (.cell h.length) (.ref p) := by
  have le : G.le (G.addM h.length p) := Gh.addM_le w.muN
  have e1 : (G.addM h.length p).mu h.length = some p := by show (if h.length = h.length then some p else _) = _; rw [if_pos rfl]
  exact ⟨le, w.newC e ⟨p, vs, e1, w.freeF e, w.freeZ e, upd_same, r.mono le⟩, .cell e1⟩
theorem se_lstC (ha : SA X W es as) : SE X W (.List es pos) (mLstC as) := by
  refine ⟨(pe_lst ha.pa).weak fun σ H Q ⟨G, h, env, w, re, p⟩ => ⟨G, h, env, w, re, post_bnd p fun xs h1 G1 H1 vs l1 w1 rs p1 => ?_⟩⟩
  split at p1
  · rename_i hs
    refine ⟨by rw [← rs.length]; exact of_decide_eq_true hs, fun a ha => ?_⟩
    obtain ⟨le, w2, r2⟩ := w1.newL ha rs
    exact p1 _ _ _ le w2 r2
  · exact p1.elim
end
end Sim

set_option Elab.async false
set_option linter.all false
set_option maxRecDepth 100000
set_option maxHeartbeats 2000000
namespace Sim
open PySem PySem.Spec L2
open PyProof.Rows hiding St
variable [TabT]

/-! ### statements -/
def sNext : SM := fun env h => .nx env h
def sSeq (a b : SM) : SM := fun env h => match a env h with
  | .nx e h' => b e h'
  | r => r
/-- behind a value -/
def sThen {α : Type} (m : EM α) (f : α → SM) : SM := fun env h => match m env h with
  | .ok v h' => f v env h'
  | .exc c fs h' => .exc c fs env h'
  | .bad => .bad
def sSet (i : Nat) (m : EM AV) : SM := sThen m fun v env h => .nx (env.set i (some v)) h
def sExpr (m : EM AV) : SM := sThen m fun _ env h => .nx env h
def sRet (m : EM AV) : SM := sThen m fun v _ h => .rt v h
def sRetN : SM := fun _ h => .rt .non h
def sIf (t : EM Bool) (a b : SM) : SM := sThen t fun c => if c = true then a else b
def sBreak : SM := fun env h => .bk env h
def sCont : SM := fun env h => .ct env h
def sWhile : Nat → EM Bool → SM → SM
  | 0, _, _ => fun _ _ => .bad
  | n + 1, t, b => sThen t fun c => if c = true then (fun env h => match b env h with
      | .nx e h' => sWhile n t b e h'
      | .ct e h' => sWhile n t b e h'
      | .bk e h' => .nx e h'
      | r => r) else sNext
/-- a target -/
abbrev GT := AV → AEnv → Option AEnv
def gN (i : Nat) : GT := fun a env => some (env.set i (some a))
def gSeq : List GT → List AV → AEnv → Option AEnv
  | [], [], env => some env
  | g :: gs, a :: as, env => (g a env).bind fun e => gSeq gs as e
  | _, _, _ => none
def gT (gs : List GT) : GT := fun a env => match a with
  | .tup xs => gSeq gs xs env
  | _ => none
def sForL (g : GT) (b : SM) : List AV → SM
  | [] => sNext
  | x :: xs => fun env h => match g x env with
    | none => .bad
    | some e => match b e h with
      | .nx e' h' => sForL g b xs e' h'
      | .ct e' h' => sForL g b xs e' h'
      | .bk e' h' => .nx e' h'
      | r => r
def sFor (mi : EM (List AV)) (g : GT) (b : SM) : SM := sThen mi fun xs => sForL g b xs
def sAsg (m : EM AV) (g : GT) : SM := sThen m fun v env h => match g v env with
  | some e => .nx e h
  | none => .bad

section
variable {X : Cx} {W : WX} {k : Nat}
theorem postS_then {α β : Type} {RA : Gh → α → β → Prop} {G : Gh} {σ : L2.St} {D : Ends} {Q' : β → Hp → Prop} {m : EM α} {f : α → SM} {env : AEnv} {h : Hs} (re : RE X.K X.mg G env σ)
    (p : postS X W G D (sThen m f env h))
    (k : ∀ a h' G' H' z, G.le G' → WI X.K X.mg G' h' H' → RA G' a z → RE X.K X.mg G' env σ → postS X W G' D (f a env h') → Q' z H') : post X W RA G σ Q' (m env h) := by
  unfold sThen at p
  cases e : m env h with
  | ok a h1 =>
    rw [e] at p
    exact fun G' H' z l w r => k a h1 G' H' z l w r (re.mono l) (postS.le l p)
  | exc c fs h1 =>
    rw [e] at p
    exact fun G' H' cls d l w x => p G' H' σ cls d l w (re.mono l) x
  | bad =>
    rw [e] at p
    exact p
variable {st : Stmt} {sts rest : List Stmt} {a b c e : Expr} {m ma mb : EM AV} {bt : EM Bool} {s u : SM} {pos : Pos}
theorem ss_pass : SS X W (.Pass pos) sNext := ⟨ps_pass.weak fun D σ H ⟨G, h, env, w, re, p⟩ => p G H σ (.refl G) w re⟩
theorem ss_break : SS X W (.Break pos) sBreak := ⟨ps_break.weak fun D σ H ⟨G, h, env, w, re, p⟩ => p G H σ (.refl G) w re⟩
theorem ss_cont : SS X W (.Continue pos) sCont := ⟨ps_continue.weak fun D σ H ⟨G, h, env, w, re, p⟩ => p G H σ (.refl G) w re⟩
theorem ss_doc {x : Str} {j : Nat} {pos' : Pos} : SS X W (.Expr (.Constant (.str x) j pos) pos') sNext := ⟨ps_doc.weak fun D σ H ⟨G, h, env, w, re, p⟩ => p G H σ (.refl G) w re⟩
theorem sss_nil : SSs X W [] sNext := ⟨pss_nil.weak fun D σ H ⟨G, h, env, w, re, p⟩ => p G H σ (.refl G) w re⟩
theorem sss_one (h : SS X W st s) : SSs X W [st] s := ⟨pss_one h.ps⟩
theorem sss_cons (h1 : SS X W st s) (h2 : SSs X W sts u) : SSs X W (st :: sts) (sSeq s u) := by
  refine ⟨(pss_cons h1.ps h2.pss).weak fun D σ H ⟨G, h, env, w, re, p⟩ => ⟨G, h, env, w, re, ?_⟩⟩
  unfold sSeq at p
  cases e : s env h with
  | nx e1 h1 =>
    rw [e] at p
    exact fun G' H' σ' l w' re' => ⟨G', h1, e1, w', re', postS.le l p⟩
  | rt v h1 => rw [e] at p; exact p
  | bk e1 h1 => rw [e] at p; exact p
  | ct e1 h1 => rw [e] at p; exact p
  | exc c fs e1 h1 => rw [e] at p; exact p
  | bad => rw [e] at p; exact p
theorem ss_set {i : Nat} {x : Str} {pos' : Pos} (hN : X.N.Nodup) (hi : X.N[i]? = some x) (hx : Loc X.env.scope x) (he : SE X W e m) (hs : swapsWith e (some (.Name x pos')) pos.line X.env = pure false := by rfl)
    (hf : X.fn x = true ∨ X.env.scope.names.lookup x = some .local := by first | exact .inl rfl | exact .inr rfl | assumption) : SS X W (.Assign [.Name x pos'] e pos) (sSet i m) := by
  refine ⟨(ps_set hN hi hx he.pe hs hf).weak fun D σ H ⟨G, h, env, w, re, p⟩ => ⟨G, h, env, w, re, postS_then re p fun a h1 G1 H1 z l1 w1 r1 re1 p1 => ?_⟩⟩
  exact p1 G1 H1 _ (.refl G1) w1 (re1.set r1 i)
theorem ss_expr (he : SE X W e m) (hs : swapsWith e none pos.line X.env = pure false := by rfl) : SS X W (.Expr e pos) (sExpr m) := by
  refine ⟨(ps_expr he.pe hs).weak fun D σ H ⟨G, h, env, w, re, p⟩ => ⟨G, h, env, w, re, postS_then re p fun a h1 G1 H1 z l1 w1 r1 re1 p1 => ?_⟩⟩
  exact p1 G1 H1 _ (.refl G1) w1 re1
theorem ss_ret (he : SE X W e m) : SS X W (.Return (some e) pos) (sRet m) := by
  refine ⟨(ps_ret he.pe).weak fun D σ H ⟨G, h, env, w, re, p⟩ => ⟨G, h, env, w, re, postS_then re p fun a h1 G1 H1 z l1 w1 r1 re1 p1 => ?_⟩⟩
  exact p1 G1 H1 _ (.refl G1) w1 r1
theorem ss_retN : SS X W (.Return none pos) sRetN := ⟨ps_retN.weak fun D σ H ⟨G, h, env, w, re, p⟩ => p G H _ (.refl G) w .non⟩
theorem ss_if (hc : ST X W c bt) (ha : SSs X W sts s) (hb : SSs X W rest u) : SS X W (.If c sts rest pos) (sIf bt s u) := by
  refine ⟨(ps_if hc.pt ha.pss hb.pss).weak fun D σ H ⟨G, h, env, w, re, p⟩ => ⟨G, h, env, w, re, postS_then re p fun a h1 G1 H1 z l1 w1 r1 re1 p1 => ?_⟩⟩
  subst r1
  cases a with
  | true => rw [if_pos rfl] at p1 ⊢; exact ⟨G1, h1, env, w1, re1, p1⟩
  | false => rw [if_neg (by simp)] at p1 ⊢; exact ⟨G1, h1, env, w1, re1, p1⟩
theorem postS_ends {G : Gh} {D : Ends} {N : L2.St → Hp → Prop} {r : Out} {f : AEnv → Hs → Out}
    (p : postS X W G D (match r with | .nx e h' => f e h' | .ct e h' => f e h' | .bk e h' => .nx e h' | r => r))
    (hN : ∀ e h' G' H' σ', (r = .nx e h' ∨ r = .ct e h') → G.le G' → WI X.K X.mg G' h' H' → RE X.K X.mg G' e σ' → postS X W G' D (f e h') → N σ' H') : postS X W G { D with nx := N, ct := N, bk := D.nx } r := by
  cases r with
  | nx e h' => exact fun G' H' σ' l w re => hN e h' G' H' σ' (.inl rfl) l w re (postS.le l p)
  | ct e h' => exact fun G' H' σ' l w re => hN e h' G' H' σ' (.inr rfl) l w re (postS.le l p)
  | bk e h' => exact p
  | rt v h' => exact p
  | exc c fs e h' => exact p
  | bad => exact p
theorem ss_while {n : Nat} (O : Ok X W k) (hc : ST X W c bt) (hb : SSs X W sts s) : SS X W (.While c sts [] pos) (sWhile n bt s) := by
  refine ⟨(ps_while O.po hc.pt hb.pss).weak fun D σ H ⟨G, h, env, w, re, p⟩ => ?_⟩
  refine ⟨fun m σ H => ∃ G h env, WI X.K X.mg G h H ∧ RE X.K X.mg G env σ ∧ postS X W G D (sWhile m bt s env h), ⟨n, G, h, env, w, re, p⟩, ?_⟩
  rintro m σ H ⟨G, h, env, w, re, p⟩
  cases m with
  | zero => exact p.elim
  | succ m =>
    unfold sWhile at p
    refine ⟨G, h, env, w, re, postS_then re p fun a h1 G1 H1 z l1 w1 r1 re1 p1 => ?_⟩
    subst r1
    cases a with
    | false => rw [if_neg (by simp)] at p1 ⊢; exact p1 G1 H1 _ (.refl G1) w1 re1
    | true =>
      rw [if_pos rfl] at p1 ⊢
      refine ⟨fun σ' H' => ∃ G h env, WI X.K X.mg G h H' ∧ RE X.K X.mg G env σ' ∧ postS X W G D (sWhile m bt s env h), fun σ' H' q => ⟨m, Nat.lt_succ_self m, q⟩, G1, h1, env, w1, re1, ?_⟩
      exact postS_ends p1 fun e h' G' H' σ' _ l w' re' p' => ⟨G', h', e, w', re', p'⟩

/-! ### targets and loops -/
theorem wipe_set {σ : L2.St} {i : Nat} {x : Option V} : ∀ {vs : List Nat}, i ∈ vs → wipe (σ.set i x) vs = wipe σ vs
  | [], h => by cases h
  | v :: vs, h => by
    unfold wipe
    by_cases hv : i ∈ vs
    · rw [wipe_set hv]
    · have e : i = v := by
        rcases List.mem_cons.mp h with e | e
        · exact e
        · exact absurd e hv
      subst e
      have q : ∀ (vs : List Nat) (σ : L2.St), i ∉ vs → wipe (σ.set i x) vs = (wipe σ vs).set i x := by
        intro vs
        induction vs with
        | nil => intro σ _; rfl
        | cons u us ih =>
          intro σ hn
          unfold wipe
          rw [ih σ (fun z => hn (List.mem_cons_of_mem _ z)), List.set_comm _ _ (fun z => hn (by rw [z]; exact List.mem_cons_self))]
      rw [q vs σ hv, List.set_set]
/-- σ' is σ but at these places -/
def But (ow : List Nat) (σ σ' : L2.St) : Prop := ∀ vs : List Nat, (∀ i ∈ ow, i ∈ vs) → wipe σ' vs = wipe σ vs
def tSG (X : Cx) (ow : List Nat) (g : GT) : TG := fun v σ H Q => ∃ G h env a e', WI X.K X.mg G h H ∧ RE X.K X.mg G env σ ∧ R X.K X.mg G a v ∧ g a env = some e' ∧ ∀ G' H' σ', G.le G' → WI X.K X.mg G' h H' → RE X.K X.mg G' e' σ' → But ow σ σ' → Q σ' H'
def tSGs (X : Cx) (ow : List Nat) (gs : List GT) : TGs := fun vs σ H Q => ∃ G h env as e', WI X.K X.mg G h H ∧ RE X.K X.mg G env σ ∧ Rs X.K X.mg G as vs ∧ gSeq gs as env = some e' ∧ ∀ G' H' σ', G.le G' → WI X.K X.mg G' h H' → RE X.K X.mg G' e' σ' → But ow σ σ' → Q σ' H'
structure SG (X : Cx) (tg : Expr) (ow : List Nat) (g : GT) : Prop where
  pg : PG X tg (tSG X ow g)
structure SGs (X : Cx) (tgs : List Expr) (ow : List Nat) (g : List GT) : Prop where
  pgs : PGs X tgs (tSGs X ow g)
theorem _root_.L2.PG.weak {tg : Expr} {t t' : TG} (p : PG X tg t) (h : ∀ v σ H Q, t' v σ H Q → t v σ H Q) : PG X tg t' := ⟨fun pins s σ H v u Q I r q => p.run pins s σ H v u Q I r (h v σ H Q q)⟩
theorem _root_.L2.PGs.weak {tg : List Expr} {t t' : TGs} (p : PGs X tg t) (h : ∀ v σ H Q, t' v σ H Q → t v σ H Q) : PGs X tg t' := ⟨fun pins s σ H v u Q I r q => p.run pins s σ H v u Q I r (h v σ H Q q)⟩
theorem sg_n {i : Nat} {x : Str} (hN : X.N.Nodup) (hi : X.N[i]? = some x) (hx : Loc X.env.scope x) (hf : X.fn x = true ∨ X.env.scope.names.lookup x = some .local := by first | exact .inl rfl | exact .inr rfl | assumption) : SG X (.Name x pos) [i] (gN i) := by
  refine ⟨(pg_name hN hi hx hf).weak fun v σ H Q ⟨G, h, env, a, e', w, re, r, ge, q⟩ => ?_⟩
  unfold gN at ge
  cases ge
  exact q G H _ (.refl G) w (re.set r i) fun vs hv => wipe_set (hv i List.mem_cons_self)
theorem sgs_nil : SGs X [] [] [] := by
  refine ⟨pgs_nil.weak fun v σ H Q ⟨G, h, env, as, e', w, re, r, ge, q⟩ => ?_⟩
  cases r with
  | nil =>
    unfold gSeq at ge
    cases ge
    exact ⟨rfl, q G H _ (.refl G) w re fun _ _ => rfl⟩
  | cons _ _ => unfold gSeq at ge; cases ge
end
end Sim

set_option Elab.async false
set_option linter.all false
set_option maxRecDepth 100000
set_option maxHeartbeats 2000000
namespace Sim
open PySem PySem.Spec L2
open PyProof.Rows hiding St
variable [TabT]

section
variable {X : Cx} {W : WX} {k : Nat}
variable {st : Stmt} {sts rest : List Stmt} {a b c e tg iter : Expr} {tgs : List Expr} {m ma mb : EM AV} {bt : EM Bool} {s u : SM} {pos : Pos} {g : GT} {gs : List GT} {ow ow2 : List Nat}
theorem sgs_cons (h1 : SG X tg ow g) (h2 : SGs X tgs ow2 gs) (hs : (assignEach (tg :: tgs) X.env).map (·.2) = assign tg X.env :: (assignEach tgs X.env).map (·.2) := by rfl) : SGs X (tg :: tgs) (ow ++ ow2) (g :: gs) := by
  refine ⟨(pgs_cons h1.pg h2.pgs hs).weak fun v σ H Q ⟨G, h, env, as, e', w, re, r, ge, q⟩ => ?_⟩
  cases r with
  | nil => unfold gSeq at ge; cases ge
  | @cons a as v vs ra rt =>
    unfold gSeq at ge
    cases e1 : g a env with
    | none => rw [e1] at ge; cases ge
    | some e2 =>
      rw [e1] at ge
      exact ⟨_, _, rfl, G, h, env, a, e2, w, re, ra, e1, fun G' H' σ' l w' re' bu => ⟨G', h, e2, as, e', w', re', rt.mono l, ge, fun G2 H2 σ2 l2 w2 re2 bu2 => q G2 H2 σ2 (l.trans l2) w2 re2 fun vs hv => (bu2 vs fun i hi => hv i (List.mem_append_right _ hi)).trans (bu vs fun i hi => hv i (List.mem_append_left _ hi))⟩⟩
theorem sg_tup {k0 : Nat} (O : Ok X W k) (h : SGs X tgs ow gs) (hn : (assignEach tgs X.env).length = gs.length := by rfl) (hst : (assignEach tgs X.env).findIdx? (·.1) = none := by rfl) : SG X (.Tuple tgs k0 pos) ow (gT gs) := by
  refine ⟨(pg_tup O.calm h.pgs hn hst).weak fun v σ H Q ⟨G, h, env, a, e', w, re, r, ge, q⟩ => ?_⟩
  unfold gT at ge
  split at ge
  · rename_i xs
    have hl : ∀ (gs : List GT) (xs : List AV) (env e' : AEnv), gSeq gs xs env = some e' → xs.length = gs.length := by
      intro gs
      induction gs with
      | nil => intro xs env e' h; cases xs with
        | nil => rfl
        | cons _ _ => unfold gSeq at h; cases h
      | cons g gs ih => intro xs env e' h; cases xs with
        | nil => unfold gSeq at h; cases h
        | cons x xs =>
          unfold gSeq at h
          cases e1 : g x env with
          | none => rw [e1] at h; cases h
          | some e2 => rw [e1] at h; rw [List.length_cons, List.length_cons, ih xs e2 e' h]
    cases r with
    | tup hS rs =>
      exact ⟨_, _, rfl, sameT w.F hS, by rw [← rs.length]; exact hl _ _ _ _ ge, G, _, env, xs, e', w, re, rs, ge, q⟩
  · cases ge
theorem ss_asg (he : SE X W e m) (hg : SG X tg ow g) (hs : swapsWithSole [tg] e pos.line X.env = pure false := by rfl) (hw : swappedStores [tg] e X.env = pure none := by rfl) (h1 : (assignEach [tg] X.env).map (·.2) = [assign tg X.env] := by rfl) : SS X W (.Assign [tg] e pos) (sAsg m g) := by
  refine ⟨(ps_asg he.pe hg.pg hs hw h1).weak fun D σ H ⟨G, h, env, w, re, p⟩ => ⟨G, h, env, w, re, postS_then re p fun a h1 G1 H1 z l1 w1 r1 re1 p1 => ?_⟩⟩
  cases e1 : g a env with
  | none => rw [e1] at p1; exact p1.elim
  | some e2 => rw [e1] at p1; exact ⟨G1, h1, env, a, e2, w1, re1, r1, e1, fun G' H' σ' l w re _ => p1 G' H' σ' l w re⟩

/-! ### what a for walks -/
def IOk (X : Cx) (G : Gh) (J : It) (xs : List AV) : Prop := ∀ G1 h1 H1, G.lt G1 → WI X.K X.mg G1 h1 H1 → J.stop xs.length H1 ∧
  ∀ i, i < xs.length → J.go i H1 ∧ ∀ x H2, J.yld i H1 x H2 → ∃ G2 a, G1.le G2 ∧ WI X.K X.mg G2 h1 H2 ∧ xs[i]? = some a ∧ R X.K X.mg G2 a x
def tSI (X : Cx) (W : WX) (m : EM (List AV)) : TI := fun σ H R => ∃ G h env, WI X.K X.mg G h H ∧ RE X.K X.mg G env σ ∧ match m env h with
  | .ok xs h' => ∀ G' H' J, G.le G' → WI X.K X.mg G' h' H' → IOk X G' J xs → R J H'
  | .exc c fs h' => ∀ G' H' cls d, G.le G' → WI X.K X.mg G' h' H' → XR X.K X.mg G' c fs cls d → W cls d σ H'
  | .bad => False
structure SI (X : Cx) (W : WX) (tg iter : Expr) (m : EM (List AV)) : Prop where
  pi : PI X tg iter (tSI X W m)
theorem _root_.L2.PI.weak {t t' : TI} (p : PI X tg iter t) (h : ∀ σ H R, t' σ H R → t σ H R) : PI X tg iter t' := ⟨fun pins s σ H R I q => p.run pins s σ H R I (h σ H R q)⟩
theorem ss_for {mi : EM (List AV)} (O : Ok X W k) (hi : SI X W tg iter mi) (hg : SG X tg ow g) (hb : SSs X W sts s) (hs : ∀ x, foldedSetIterable iter X.env x = pure x := by intro _; rfl) : SS X W (.For tg iter sts [] pos) (sFor mi g s) := by
  refine ⟨(ps_for O.po O.calm hi.pi hg.pg hb.pss hs).weak fun D σ H ⟨G, h, env, w, re, p⟩ => ⟨G, h, env, w, re, ?_⟩⟩
  unfold sFor sThen at p
  cases e : mi env h with
  | bad => rw [e] at p; exact p
  | exc c fs h1 => rw [e] at p; exact fun G' H' cls d l w x => p G' H' σ cls d l w (re.mono l) x
  | ok xs h1 =>
    rw [e] at p
    intro G' H' J l w' ik
    refine ⟨fun i m σ H => ∃ G1 h1 env1, G'.le G1 ∧ WI X.K X.mg G1 h1 H ∧ RE X.K X.mg G1 env1 σ ∧ m = xs.length - i ∧ i ≤ xs.length ∧ postS X W G1 D (sForL g s (xs.drop i) env1 h1), ⟨xs.length, G', h1, env, .refl _, w', re.mono l, by simp, Nat.zero_le _, postS.le l p⟩, ?_⟩
    rintro i m σ H ⟨G1, h1, env1, l1, w1, re1, rfl, hi, p1⟩
    obtain ⟨stop, go⟩ := ik G1 h1 H l1.lt w1
    by_cases hlt : i < xs.length
    · obtain ⟨go1, yld⟩ := go i hlt
      refine .inr ⟨go1, fun σ' H' => ∃ G1 h1 env1, G'.le G1 ∧ WI X.K X.mg G1 h1 H' ∧ RE X.K X.mg G1 env1 σ' ∧ postS X W G1 D (sForL g s (xs.drop (i + 1)) env1 h1), ?_, ?_⟩
      · rintro σ' H' ⟨G2, h2, env2, q1, q2, q3, q4⟩
        exact ⟨xs.length - (i + 1), by omega, G2, h2, env2, q1, q2, q3, rfl, hlt, q4⟩
      · intro x H2 y
        obtain ⟨G2, a, l2, w2, ea, ra⟩ := yld x H2 y
        have ed : xs.drop i = a :: xs.drop (i + 1) := by
          rw [List.drop_eq_getElem_cons hlt]
          rw [List.getElem?_eq_getElem hlt] at ea
          rw [Option.some.inj ea]
        rw [ed] at p1
        unfold sForL at p1
        cases eg : g a env1 with
        | none => rw [eg] at p1; exact p1.elim
        | some e2 =>
          rw [eg] at p1
          refine ⟨G2, h1, env1, a, e2, w2, re1.mono l2, ra, eg, fun G3 H3 σ3 l3 w3 re3 _ => ⟨G3, h1, e2, w3, re3, ?_⟩⟩
          exact postS_ends (postS.le (l2.trans l3) p1) fun e' h' G4 H4 σ4 _ l4 w4 re4 p4 => ⟨G4, h', e', l1.trans (l2.trans (l3.trans l4)), w4, re4, p4⟩
    · have ei : i = xs.length := by omega
      subst ei
      refine .inl ⟨stop, ?_⟩
      rw [List.drop_length] at p1
      exact p1 G1 H σ (.refl _) w1 re1
/-- a list or a tuple that never changes -/
def mItL (m : EM AV) : EM (List AV) := fun env => (m env).bnd fun x => rd fun _ => match x with
  | .lst xs => some xs
  | _ => none
def mItT (m : EM AV) : EM (List AV) := fun env => (m env).bnd fun x => rd fun _ => match x with
  | .tup xs => some xs
  | _ => none
theorem walk_iok {G : Gh} {J : It} {vs : List V} {xs : List AV} {P : Hp → Prop} (wk : Walk J vs.length P (YAt vs)) (hP : ∀ G1 h1 H1, G.lt G1 → WI X.K X.mg G1 h1 H1 → P H1) (r : Rs X.K X.mg G xs vs) : IOk X G J xs := by
  intro G1 h1 H1 l w
  have hl := r.length
  have p := hP G1 h1 H1 l w
  refine ⟨by rw [hl]; exact wk.stops H1 p, fun i hi => ⟨wk.goes i H1 (by omega) p, fun x H2 y => ?_⟩⟩
  obtain ⟨rfl, e⟩ := wk.yields i H1 x H2 (by omega) p y
  obtain ⟨a, e2, ra⟩ := r.getV e
  exact ⟨G1, a, .refl _, w, e2, ra.monoL l⟩
theorem si_lst (h : SE X W iter m) : SI X W tg iter (mItL m) := by
  refine ⟨(pi_list h.pe).weak fun σ H Q ⟨G, h, env, w, re, p⟩ => ⟨G, h, env, w, re, ?_⟩⟩
  unfold mItL M.bnd rd at p
  cases e : m env h with
  | bad => rw [e] at p; exact p
  | exc c fs h1 => rw [e] at p; exact p
  | ok x h1 =>
    rw [e] at p
    intro G' H' z l w' r
    cases x with
    | lst xs =>
      cases r with
      | @lst _ a vs hF rs =>
        have hS : SqL X.K H' a vs := .inl (.inl (w'.F _ _ hF))
        exact ⟨a, rfl, ⟨vs, hS⟩, p G' H' _ l w' (walk_iok walk_list (fun G1 h1 H1 l1 w1 => .inl (.inl (w1.F _ _ (l1.F _ _ hF)))) rs)⟩
    | _ => exact p.elim
theorem si_tup (h : SE X W iter m) : SI X W tg iter (mItT m) := by
  refine ⟨(pi_tup h.pe).weak fun σ H Q ⟨G, h, env, w, re, p⟩ => ⟨G, h, env, w, re, ?_⟩⟩
  unfold mItT M.bnd rd at p
  cases e : m env h with
  | bad => rw [e] at p; exact p
  | exc c fs h1 => rw [e] at p; exact p
  | ok x h1 =>
    rw [e] at p
    intro G' H' z l w' r
    cases x with
    | tup xs =>
      cases r with
      | @tup _ a vs hF rs =>
        exact ⟨a, rfl, ⟨vs, sameT w'.F hF⟩, p G' H' _ l w' (walk_iok walk_tup (fun G1 h1 H1 l1 w1 => sameT w1.F (sameT l1.F hF)) rs)⟩
    | _ => exact p.elim
/-- either, as it comes -/
def mItS (m : EM AV) : EM (List AV) := fun env => (m env).bnd fun x => rd fun _ => match x with
  | .lst xs => some xs
  | .tup xs => some xs
  | _ => none
theorem _root_.L2.PI.orS {t u : TI} (p : PI X tg iter t) (q : PI X tg iter u) : PI X tg iter (fun σ H R => t σ H R ∨ u σ H R) := ⟨fun pins s σ H R I h => h.elim (p.run pins s σ H R I) (q.run pins s σ H R I)⟩
theorem si_seq (h : SE X W iter m) : SI X W tg iter (mItS m) := by
  refine ⟨(L2.PI.orS (pi_list h.pe) (pi_tup h.pe)).weak fun σ H Q ⟨G, h1, env, w, re, p⟩ => ?_⟩
  have pl := (si_lst (tg := tg) h).pi
  unfold mItS M.bnd rd at p
  cases e : m env h1 with
  | bad => rw [e] at p; exact p.elim
  | exc c fs h2 =>
    rw [e] at p
    refine .inl ⟨G, h1, env, w, re, ?_⟩
    rw [e]; exact p
  | ok x h2 =>
    rw [e] at p
    cases x with
    | lst xs =>
      refine .inl ⟨G, h1, env, w, re, ?_⟩
      rw [e]
      intro G' H' z l w' r
      cases r with
      | @lst _ a vs hF rs =>
        have hS : SqL X.K H' a vs := .inl (.inl (w'.F _ _ hF))
        exact ⟨a, rfl, ⟨vs, hS⟩, p G' H' _ l w' (walk_iok walk_list (fun G1 h1 H1 l1 w1 => .inl (.inl (w1.F _ _ (l1.F _ _ hF)))) rs)⟩
    | tup xs =>
      refine .inr ⟨G, h1, env, w, re, ?_⟩
      rw [e]
      intro G' H' z l w' r
      cases r with
      | @tup _ a vs hF rs => exact ⟨a, rfl, ⟨vs, sameT w'.F hF⟩, p G' H' _ l w' (walk_iok walk_tup (fun G1 h1 H1 l1 w1 => sameT w1.F (sameT l1.F hF)) rs)⟩
    | _ => exact p.elim
end
end Sim

set_option Elab.async false
set_option linter.all false
set_option maxRecDepth 100000
set_option maxHeartbeats 2000000
namespace Sim
open PySem PySem.Spec L2
open PyProof.Rows hiding St
variable [TabT]

/-! ### new lists -/
def tSF (X : Cx) (W : WX) (m : EM (List AV)) : TE := fun σ H Q => ∃ G h env, WI X.K X.mg G h H ∧ RE X.K X.mg G env σ ∧ match m env h with
  | .ok xs h' => ∀ G' H' p vs, G.le G' → WI X.K X.mg G' h' H' → H' p = none → Rs X.K X.mg G' xs vs → Q (.ref p) (upd H' p (.lst vs))
  | .exc c fs h' => ∀ G' H' cls d, G.le G' → WI X.K X.mg G' h' H' → XR X.K X.mg G' c fs cls d → W cls d σ H'
  | .bad => False
/-- an expression that makes a new list -/
structure SF (X : Cx) (W : WX) (e : Expr) (m : EM (List AV)) : Prop where
  pe : PE X e (tSF X W m)
def mLs (m : EM (List AV)) : EM AV := fun env => (m env).bnd fun xs => M.ret (.lst xs)
def mLC (m : EM (List AV)) : EM AV := fun env => (m env).bnd newC
def noexc {α : Type} (m : M α) : M α := fun h => match m h with
  | .exc _ _ _ => .bad
  | r => r
abbrev noW : WX := fun _ _ _ _ => False

section
variable {X : Cx} {W : WX} {k : Nat} {e : Expr} {m : EM (List AV)}
/-- .. that does not change -/
theorem se_ls (h : SF X W e m) : SE X W e (mLs m) := by
  refine ⟨h.pe.weak fun σ H Q ⟨G, h, env, w, re, p⟩ => ⟨G, h, env, w, re, ?_⟩⟩
  unfold mLs M.bnd at p
  cases e : m env h with
  | bad => rw [e] at p; exact p
  | exc c fs h1 => rw [e] at p; exact p
  | ok xs h1 =>
    rw [e] at p
    intro G' H' a vs l w' ha rs
    have le : G'.le (G'.addF a (.lst vs)) := Gh.addF_le (w'.freeF ha)
    exact p _ _ _ (l.trans le) (w'.newF ha) (.lst upd_same (rs.mono le))
/-- .. that may change -/
theorem se_lc (h : SF X W e m) : SE X W e (mLC m) := by
  refine ⟨h.pe.weak fun σ H Q ⟨G, h, env, w, re, p⟩ => ⟨G, h, env, w, re, ?_⟩⟩
  unfold mLC M.bnd at p
  cases e : m env h with
  | bad => rw [e] at p; exact p
  | exc c fs h1 => rw [e] at p; exact p
  | ok xs h1 =>
    rw [e] at p
    intro G' H' a vs l w' ha rs
    obtain ⟨le, w2, r2⟩ := w'.newL ha rs
    exact p _ _ _ (l.trans le) w2 r2
variable {es : List Expr} {as : EM (List AV)} {pos : Pos}
def mDisp (m : EM (List AV)) : EM (List AV) := fun env => (m env).bnd fun xs => rd fun _ => if small xs then some xs else none
theorem sf_disp (ha : SA X W es as) : SF X W (.List es pos) (mDisp as) := by
  refine ⟨(pe_lst ha.pa).weak fun σ H Q ⟨G, h, env, w, re, p⟩ => ⟨G, h, env, w, re, ?_⟩⟩
  unfold mDisp M.bnd rd at p
  cases e : as env h with
  | bad => rw [e] at p; exact p
  | exc c fs h1 => rw [e] at p; exact p
  | ok xs h1 =>
    rw [e] at p
    intro G1 H1 vs l1 w1 rs
    dsimp only at p
    by_cases hs : small xs = true
    · rw [if_pos hs] at p
      exact ⟨by rw [← rs.length]; exact of_decide_eq_true hs, fun a ha => p G1 H1 a vs l1 w1 ha rs⟩
    · rw [if_neg hs] at p; exact p.elim

/-! ### comprehensions -/
def lcL (g : GT) (t : EM Bool) (e : EM AV) (env : AEnv) : List AV → M (List AV)
  | [] => M.ret []
  | x :: xs => match g x env with
    | none => M.bad
    | some e' => (noexc (t e')).bnd fun b => if b = true then (noexc (e e')).bnd fun y => (lcL g t e env xs).bnd fun ys => M.ret (y :: ys) else lcL g t e env xs
def mLc (vs : List Nat) (mi : EM (List AV)) (g : GT) (t : EM Bool) (e : EM AV) : EM (List AV) := fun env => (mi env).bnd fun xs => if small xs then lcL g t e (wipeE env vs) xs else M.bad
theorem noexc_ne {α : Type} (m : M α) (h : Hs) (c : Str) (fs : List (Str × AV)) (h' : Hs) : noexc m h ≠ .exc c fs h' := by
  intro q
  unfold noexc at q
  cases e : m h with
  | ok a h1 => rw [e] at q; cases q
  | exc c fs h1 => rw [e] at q; cases q
  | bad => rw [e] at q; cases q
theorem bnd_ne {α β : Type} {m : M α} {f : α → M β} (hm : ∀ h c fs h', m h ≠ .exc c fs h') (hf : ∀ a h c fs h', f a h ≠ .exc c fs h') (h : Hs) (c : Str) (fs : List (Str × AV)) (h' : Hs) : M.bnd m f h ≠ .exc c fs h' := by
  intro q
  unfold M.bnd at q
  cases e : m h with
  | ok a h1 => rw [e] at q; exact hf _ _ _ _ _ q
  | exc c fs h1 => exact hm _ _ _ _ e
  | bad => rw [e] at q; cases q
theorem lcL_ne {g : GT} {t : EM Bool} {e : EM AV} {env : AEnv} : ∀ (xs : List AV) (h : Hs) (c : Str) (fs : List (Str × AV)) (h' : Hs), lcL g t e env xs h ≠ .exc c fs h'
  | [], h, c, fs, h' => fun q => by cases q
  | x :: xs, h, c, fs, h' => by
    unfold lcL
    cases g x env with
    | none => intro q; cases q
    | some e' =>
      refine bnd_ne (noexc_ne _) (fun b h c fs h' => ?_) h c fs h'
      by_cases hb : b = true
      · rw [if_pos hb]
        exact bnd_ne (noexc_ne _) (fun y h c fs h' => bnd_ne (lcL_ne xs) (fun ys h c fs h' q => by cases q) h c fs h') h c fs h'
      · rw [if_neg hb]
        exact lcL_ne xs h c fs h'
theorem post_noexc {α β : Type} {RR : Gh → α → β → Prop} {G : Gh} {σ : L2.St} {Q : β → Hp → Prop} {W' : WX} {mm : M α} {h : Hs} (p : post X W RR G σ Q (noexc mm h)) : post X W' RR G σ Q (mm h) := by
  unfold noexc at p
  cases e : mm h with
  | ok a h1 => rw [e] at p; exact p
  | exc c fs h1 => rw [e] at p; exact p.elim
  | bad => rw [e] at p; exact p
end
/-- the block's context -/
abbrev blkX (X : Cx) (scope : Scope) (s : Shared) (H : Hp) (C : Addr) (cl : List (Str × Addr)) (fp : List Addr) : Cx := X.blk s H scope (compEnvC scope cl C X.env) fp
section
variable {X : Cx} {W : WX} {k : Nat}
theorem Ok.blk (O : Ok X W k) (scope : Scope) (s : Shared) (H : Hp) (C : Addr) (cl : List (Str × Addr)) (fp : List Addr) : Ok (blkX X scope s H C cl fp) noW k where
  nd := O.nd
  tk := fun u s' ⟨_, _, _, _, _, _, _, _, _, _, _, _, _, _, _, _, z⟩ => z.elim
  hr := O.hr
  calm := O.calm
  po := PassesOwn.never
structure STs (X : Cx) (W : WX) (ifs : List Expr) (m : EM Bool) : Prop where
  pts : PTs X ifs (tST X W m)
def mYes : EM Bool := fun _ => M.ret true
theorem sts_nil : STs X W [] mYes := ⟨⟨fun pins s σ H Q I ⟨G, h, env, w, re, p⟩ => pts_nil.run pins s σ H Q I (p G H true (.refl G) w rfl)⟩⟩
theorem sts_one {c : Expr} {m : EM Bool} (h : ST X W c m) : STs X W [c] m := ⟨pts_one h.pt⟩
def Gh.hold (G : Gh) (D : Addr) (vs : List V) : Gh := { G with Z := upd G.Z D (.lst vs) }
theorem Gh.hold_lt (G : Gh) (D : Addr) (vs : List V) : G.lt (G.hold D vs) := ⟨Same.refl _, fun _ _ q => q, rfl⟩
theorem Gh.hold_gt (G : Gh) (D : Addr) (vs : List V) : (G.hold D vs).lt G := ⟨Same.refl _, fun _ _ q => q, rfl⟩
theorem CellOk.conv {K : PySem.W.Frag} {mg : Str → Option Value} {G G' : Gh} {H H' : Hp} {n : Nat} {c : Cell} (x : CellOk K mg G H n c) (l : G.lt G') (hF : ∀ a, G.mu n = some a → G.F a = none → G'.F a = none) (hZ : ∀ a, G.mu n = some a → G.Z a = none → G'.Z a = none) (hH : ∀ a o, G.mu n = some a → H a = some o → H' a = some o) : CellOk K mg G' H' n c := by
  cases c with
  | lst xs => obtain ⟨a, vs, h1, h2, hz, h3, h4⟩ := x; exact ⟨a, vs, l.mu _ _ h1, hF a h1 h2, hZ a h1 hz, hH a _ h1 h3, h4.monoL l⟩
  | dct kvs =>
    obtain ⟨a, h1, h2, hz, ⟨vks, h3, h4⟩ | ⟨vks, h3, h4⟩⟩ := x
    · exact ⟨a, l.mu _ _ h1, hF a h1 h2, hZ a h1 hz, .inl ⟨vks, hH a _ h1 h3, h4.monoL l⟩⟩
    · exact ⟨a, l.mu _ _ h1, hF a h1 h2, hZ a h1 hz, .inr ⟨vks, hH a _ h1 h3, h4.monoL l⟩⟩
  | ins c fs => obtain ⟨a, C, dx, vfs, h1, h2, hz, hc, h3, h4⟩ := x; exact ⟨a, C, dx, vfs, l.mu _ _ h1, hF a h1 h2, hZ a h1 hz, hc, hH a _ h1 h3, h4.monoL l⟩
  | frz v => obtain ⟨a, o, h1, h2, h3⟩ := x; exact ⟨a, o, l.mu _ _ h1, l.F _ _ h2, h3.monoL l⟩
/-- a new list is held aside -/
theorem WI.hold {K : PySem.W.Frag} {mg : Str → Option Value} {G : Gh} {h : Hs} {H : Hp} {D : Addr} {vs : List V} (w : WI K mg G h H) (e : H D = none) : WI K mg (G.hold D vs) h (upd H D (.lst vs)) := by
  have hF := w.freeF e
  have hZ := w.freeZ e
  have hM := w.freeM e
  refine ⟨fun b u q => ?_, fun b u q => ?_, fun b u q => ?_, fun n c hc => ?_, w.bnd, w.inj, tabs_new w.tb.T e, w.tb.nF, fun b ps q => ?_⟩
  · have q2 : G.F b = some u := q
    rw [upd_ne (ne_of_none q2 hF)]; exact w.F b u q2
  · have q2 : upd G.Z D (.lst vs) b = some u := q
    by_cases hb : b = D
    · subst hb; rw [upd_same] at q2 ⊢; exact q2
    · rw [upd_ne hb] at q2 ⊢; exact w.Z b u q2
  · have q2 : upd G.Z D (.lst vs) b = some u := q
    by_cases hb : b = D
    · subst hb; exact hF
    · rw [upd_ne hb] at q2; exact w.FZ b u q2
  · refine (w.cells n c hc).conv (G.hold_lt D vs) (fun a _ q => q) (fun a ha q => ?_) (fun a o ha q => ?_)
    · show upd G.Z D (.lst vs) a = none
      rw [upd_ne (fun z => hM n (by rw [ha, z]))]; exact q
    · rw [upd_ne (fun z => hM n (by rw [ha, z]))]; exact q
  · have q2 : upd G.Z D (.lst vs) b = some (.tbl ps) := q
    by_cases hb : b = D
    · subst hb; rw [upd_same] at q2; cases q2
    · rw [upd_ne hb] at q2; exact w.tb.nZ b ps q2
def offH (H : Hp) (D : Addr) : Hp := fun b => if b = D then none else H b
theorem offH_upd {H : Hp} {D : Addr} {o : HO} (e : H D = some o) : upd (offH H D) D o = H := by
  funext b
  by_cases hb : b = D
  · subst hb; rw [upd_same, e]
  · rw [upd_ne hb]; unfold offH; rw [if_neg hb]
theorem offH_at {H : Hp} {D : Addr} : offH H D D = none := by unfold offH; rw [if_pos rfl]
/-- what is held is let go -/
theorem WI.letgo {K : PySem.W.Frag} {mg : Str → Option Value} {G : Gh} {h : Hs} {H : Hp} {D : Addr} {vs : List V} (w : WI K mg (G.hold D vs) h H) (hZ : G.Z D = none) : H D = some (.lst vs) ∧ WI K mg G h (offH H D) := by
  have zD : (G.hold D vs).Z D = some (.lst vs) := by show upd G.Z D (.lst vs) D = _; rw [upd_same]
  have hF : G.F D = none := w.FZ D _ zD
  refine ⟨w.Z D _ zD, fun b u q => ?_, fun b u q => ?_, fun b u q => ?_, fun n c hc => ?_, w.bnd, w.inj, ?_, w.tb.nF, fun b ps q => ?_⟩
  · unfold offH; rw [if_neg (ne_of_none q hF)]; exact w.F b u q
  · unfold offH; rw [if_neg (ne_of_none q hZ)]
    refine w.Z b u ?_
    show upd G.Z D (.lst vs) b = some u
    rw [upd_ne (ne_of_none q hZ)]; exact q
  · refine w.FZ b u ?_
    show upd G.Z D (.lst vs) b = some u
    rw [upd_ne (ne_of_none q hZ)]; exact q
  · have dZ : ∀ a, (G.hold D vs).Z a = none → a ≠ D ∧ G.Z a = none := fun a q => by
      have q2 : upd G.Z D (.lst vs) a = none := q
      by_cases ha : a = D
      · subst ha; rw [upd_same] at q2; cases q2
      · rw [upd_ne ha] at q2; exact ⟨ha, q2⟩
    have x := w.cells n c hc
    have key : ∀ a o, (G.hold D vs).mu n = some a → H a = some o → ((G.hold D vs).Z a = none ∨ ∃ u, (G.hold D vs).F a = some u) → offH H D a = some o := fun a o _ ho hh => by
      unfold offH
      rw [if_neg ?_]
      · exact ho
      · rcases hh with hh | ⟨u, hh⟩
        · exact (dZ a hh).1
        · exact ne_of_none (H := G.F) hh hF
    cases c with
    | lst xs => obtain ⟨a, ws, h1, h2, hz, h3, h4⟩ := x; exact ⟨a, ws, h1, h2, (dZ a hz).2, key a _ h1 h3 (.inl hz), h4.monoL (G.hold_gt D vs)⟩
    | dct kvs =>
      obtain ⟨a, h1, h2, hz, ⟨vks, h3, h4⟩ | ⟨vks, h3, h4⟩⟩ := x
      · exact ⟨a, h1, h2, (dZ a hz).2, .inl ⟨vks, key a _ h1 h3 (.inl hz), h4.monoL (G.hold_gt D vs)⟩⟩
      · exact ⟨a, h1, h2, (dZ a hz).2, .inr ⟨vks, key a _ h1 h3 (.inl hz), h4.monoL (G.hold_gt D vs)⟩⟩
    | ins c fs => obtain ⟨a, C, dx, vfs, h1, h2, hz, hc2, h3, h4⟩ := x; exact ⟨a, C, dx, vfs, h1, h2, (dZ a hz).2, hc2, key a _ h1 h3 (.inl hz), h4.monoL (G.hold_gt D vs)⟩
    | frz v => obtain ⟨a, o, h1, h2, h3⟩ := x; exact ⟨a, o, h1, h2, h3.monoL (G.hold_gt D vs)⟩
  · have hD := w.Z D _ zD
    refine tabs_stay w.tb.T (fun b ps q => ?_) (fun b f q => ?_) <;>
    · unfold offH
      rw [if_neg (fun z => by rw [z, hD] at q; cases q)]
      exact q
  · refine w.tb.nZ b ps ?_
    show upd G.Z D (.lst vs) b = _
    rw [upd_ne (ne_of_none q hZ)]; exact q
theorem Gh.lt.trans {A B C : Gh} (h : A.lt B) (k : B.lt C) : A.lt C := ⟨h.F.trans k.F, fun n a e => k.mu n a (h.mu n a e), k.T.trans h.T⟩
theorem RE.monoL {K : PySem.W.Frag} {mg : Str → Option Value} {G G' : Gh} (l : G.lt G') : ∀ {es : AEnv} {σ : L2.St}, RE K mg G es σ → RE K mg G' es σ
  | _, _, .nil => .nil
  | _, _, .no t => .no (RE.monoL l t)
  | _, _, .yes r t => .yes (r.monoL l) (RE.monoL l t)
theorem unhold {G : Gh} {D : Addr} {vs : List V} {G2 : Gh} (l : (G.hold D vs).le G2) : G.le { G2 with Z := G.Z } ∧ G2 = ({ G2 with Z := G.Z } : Gh).hold D vs := by
  refine ⟨⟨l.F, l.mu, rfl, l.T⟩, ?_⟩
  have e : G2.Z = upd G.Z D (.lst vs) := l.Z
  obtain ⟨F, mu, Z, T⟩ := G2
  have e2 : Z = upd G.Z D (.lst vs) := e
  subst e2
  rfl
theorem wipe_idem : ∀ (vs : List Nat) (σ : L2.St), wipe (wipe σ vs) vs = wipe σ vs := by
  have q : ∀ (us vs : List Nat) (σ : L2.St), (∀ i ∈ us, i ∈ vs) → wipe (wipe σ us) vs = wipe σ vs := by
    intro us
    induction us with
    | nil => intro vs σ _; rfl
    | cons u us ih =>
      intro vs σ hs
      show wipe ((wipe σ us).set u none) vs = wipe σ vs
      rw [wipe_set (hs u List.mem_cons_self), ih vs σ fun i hi => hs i (List.mem_cons_of_mem _ hi)]
  exact fun vs σ => q vs vs σ fun _ hi => hi
theorem tLc_of {own : List (Str × Nat)} {mi : EM (List AV)} {ow : List Nat} {g : GT} {bt : EM Bool} {me : EM AV} (how : ∀ i ∈ ow, i ∈ own.map (·.2)) {σ : L2.St} {H : Hp} {Q : VK} (t : tSF X W (mLc (own.map (·.2)) mi g bt me) σ H Q) :
    tLc (tSI X W mi) (tSG X ow g) (tST X noW bt) (tSE X noW me) (own.map (·.2)) σ H Q := by
  obtain ⟨G, h, env, w, re, p⟩ := t
  refine ⟨G, h, env, w, re, ?_⟩
  unfold mLc M.bnd at p
  cases e : mi env h with
  | bad => rw [e] at p; exact p
  | exc c fs h1 => rw [e] at p; exact p
  | ok xs h1 =>
    rw [e] at p
    dsimp only at p
    by_cases hsm : small xs = true
    · rw [if_pos hsm] at p
      have hlen : xs.length ≤ sizeLine := of_decide_eq_true hsm
      intro G' H' J l w' ik D hD
      have hZD := w'.freeZ hD
      -- what is left: from as, xs' at store h2
      refine ⟨fun i m H2 => ∃ G1 h2 as vacc, G'.le G1 ∧ Rs X.K X.mg G1 as vacc ∧ WI X.K X.mg (G1.hold D vacc) h2 H2 ∧ as.length ≤ i ∧ m = xs.length - i ∧ i ≤ xs.length ∧
          (match ((lcL g bt me (wipeE env (own.map (·.2))) (xs.drop i)).bnd fun ys => M.ret (as ++ ys)) h2 with
            | .ok zs h' => ∀ G3 H3 p vs, G1.le G3 → WI X.K X.mg G3 h' H3 → H3 p = none → Rs X.K X.mg G3 zs vs → Q (.ref p) (upd H3 p (.lst vs))
            | _ => False), ⟨xs.length, G', h1, [], [], .refl _, .nil, w'.hold hD, Nat.le_refl _, by simp, Nat.zero_le _, ?_⟩, ?_⟩
      · rw [List.drop_zero]
        unfold M.bnd
        cases e2 : lcL g bt me (wipeE env (own.map (·.2))) xs h1 with
        | ok zs h3 => rw [e2] at p; exact fun G3 H3 q vs l3 => p G3 H3 q vs (l.trans l3)
        | exc c fs h3 =>
          exfalso
          exact lcL_ne xs h1 c fs h3 e2
        | bad => rw [e2] at p; exact p
      · rintro i m H2 ⟨G1, h2, as, vacc, l1, ra, w2, hal, rfl, hi2, p2⟩
        have hZ1 : G1.Z D = none := by rw [l1.Z]; exact hZD
        obtain ⟨stop, go⟩ := ik (G1.hold D vacc) h2 H2 (l1.lt.trans (G1.hold_lt D vacc)) w2
        by_cases hlt : i < xs.length
        · obtain ⟨go1, yld⟩ := go i hlt
          refine .inr ⟨go1, fun H3 => ∃ G1 h2 as vacc, G'.le G1 ∧ Rs X.K X.mg G1 as vacc ∧ WI X.K X.mg (G1.hold D vacc) h2 H3 ∧ as.length ≤ i + 1 ∧
              (match ((lcL g bt me (wipeE env (own.map (·.2))) (xs.drop (i + 1))).bnd fun ys => M.ret (as ++ ys)) h2 with
                | .ok zs h' => ∀ G3 H3 p vs, G1.le G3 → WI X.K X.mg G3 h' H3 → H3 p = none → Rs X.K X.mg G3 zs vs → Q (.ref p) (upd H3 p (.lst vs))
                | _ => False), ?_, ?_⟩
          · rintro H3 ⟨G2, h3, as2, vacc2, q1, q2, q3, q4, q5⟩
            exact ⟨xs.length - (i + 1), by omega, G2, h3, as2, vacc2, q1, q2, q3, q4, rfl, hlt, q5⟩
          · intro x H3 y
            obtain ⟨G2, a, l2, w3, ea, rx⟩ := yld x H3 y
            have ed : xs.drop i = a :: xs.drop (i + 1) := by
              rw [List.drop_eq_getElem_cons hlt]
              rw [List.getElem?_eq_getElem hlt] at ea
              rw [Option.some.inj ea]
            rw [ed] at p2
            unfold lcL at p2
            have rew : RE X.K X.mg G2 (wipeE env (own.map (·.2))) (wipe σ (own.map (·.2))) := (((re.mono (l.trans l1)).wipe _).monoL (G1.hold_lt D vacc)).mono l2
            cases eg : g a (wipeE env (own.map (·.2))) with
            | none => rw [eg] at p2; exact p2.elim
            | some e2 =>
              rw [eg] at p2
              dsimp only at p2
              refine ⟨G2, h2, _, a, e2, w3, rew, rx, eg, fun G3 H4 σ3 l3 w4 re3 bu => ⟨by rw [bu _ how]; exact wipe_idem _ _, ?_⟩⟩
              refine ⟨G3, h2, e2, w4, re3, ?_⟩
              -- the test
              unfold M.bnd at p2
              cases et : noexc (bt e2) h2 with
              | bad => rw [et] at p2; exact p2.elim
              | exc c fs h3 => rw [et] at p2; exact p2.elim
              | ok b h3 =>
                rw [et] at p2
                dsimp only at p2
                have et2 : bt e2 h2 = .ok b h3 := by
                  unfold noexc at et
                  split at et
                  · cases et
                  · exact et
                rw [et2]
                intro G4 H5 b' l4 w5 rb
                subst rb
                by_cases hb : b = true
                · rw [if_pos hb] at p2 ⊢
                  refine ⟨G4, h3, e2, w5, re3.mono l4, ?_⟩
                  cases ee : noexc (me e2) h3 with
                  | bad => rw [ee] at p2; exact p2.elim
                  | exc c fs h4 => rw [ee] at p2; exact p2.elim
                  | ok yv h4 =>
                    rw [ee] at p2
                    dsimp only at p2
                    have ee2 : me e2 h3 = .ok yv h4 := by
                      unfold noexc at ee
                      split at ee
                      · cases ee
                      · exact ee
                    rw [ee2]
                    intro G5 H6 yy l5 w6 ry
                    -- the list grows
                    obtain ⟨lu, eu⟩ := unhold (l2.trans (l3.trans (l4.trans l5)))
                    rw [eu] at w6
                    obtain ⟨hDD, w7⟩ := w6.letgo (by show G1.Z D = none; exact hZ1)
                    refine ⟨vacc, hDD, ?_, ({ G5 with Z := G1.Z } : Gh), h4, as ++ [yv], vacc ++ [yy], l1.trans lu, ?_, ?_, ?_, ?_⟩
                    · rw [← ra.length]; omega
                    · exact Rs.append (ra.mono lu) (.cons (R.monoL (G := G5) (G' := { G5 with Z := G1.Z }) ⟨Same.refl _, fun _ _ q => q, rfl⟩ ry) .nil)
                    · have w8 := w7.hold (D := D) (vs := vacc ++ [yy]) offH_at
                      have eqh : upd (offH H6 D) D (.lst (vacc ++ [yy])) = upd H6 D (.lst (vacc ++ [yy])) := by
                        funext b
                        by_cases hb2 : b = D
                        · subst hb2; rw [upd_same, upd_same]
                        · rw [upd_ne hb2, upd_ne hb2]; unfold offH; rw [if_neg hb2]
                      rw [eqh] at w8
                      exact w8
                    · rw [List.length_append, List.length_singleton]; omega
                    · cases er : lcL g bt me (wipeE env (own.map (·.2))) (xs.drop (i + 1)) h4 with
                      | bad => rw [er] at p2; exact p2.elim
                      | exc c fs h5 => rw [er] at p2; exact p2.elim
                      | ok zs h5 =>
                        rw [er] at p2
                        have p3 : ∀ G3 H3 p vs, G1.le G3 → WI X.K X.mg G3 h5 H3 → H3 p = none → Rs X.K X.mg G3 (as ++ yv :: zs) vs → Q (.ref p) (upd H3 p (.lst vs)) := p2
                        unfold M.bnd
                        rw [er]
                        intro G6 H7 pp vs l6 w9 hp rs
                        have rs' : Rs X.K X.mg G6 (as ++ yv :: zs) vs := by
                          have e1 : as ++ [yv] ++ zs = as ++ yv :: zs := by rw [List.append_assoc]; rfl
                          rw [← e1]; exact rs
                        exact p3 G6 H7 pp vs (lu.trans l6) w9 hp rs'
                · rw [if_neg hb] at p2 ⊢
                  obtain ⟨lu, eu⟩ := unhold (l2.trans (l3.trans l4))
                  rw [eu] at w5
                  refine ⟨({ G4 with Z := G1.Z } : Gh), h3, as, vacc, l1.trans lu, ra.mono lu, w5, by omega, ?_⟩
                  cases er : lcL g bt me (wipeE env (own.map (·.2))) (xs.drop (i + 1)) h3 with
                  | bad => rw [er] at p2; exact p2.elim
                  | exc c fs h5 => rw [er] at p2; exact p2.elim
                  | ok zs h5 =>
                    rw [er] at p2
                    have p3 : ∀ G3 H3 p vs, G1.le G3 → WI X.K X.mg G3 h5 H3 → H3 p = none → Rs X.K X.mg G3 (as ++ zs) vs → Q (.ref p) (upd H3 p (.lst vs)) := p2
                    unfold M.bnd
                    rw [er]
                    exact fun G6 H7 pp vs l6 => p3 G6 H7 pp vs (lu.trans l6)
        · have ei : i = xs.length := by omega
          subst ei
          rw [List.drop_length] at p2
          refine .inl ⟨stop, ?_⟩
          obtain ⟨hDD, w7⟩ := w2.letgo hZ1
          have p3 : ∀ G3 H3 p vs, G1.le G3 → WI X.K X.mg G3 h2 H3 → H3 p = none → Rs X.K X.mg G3 (as ++ []) vs → Q (.ref p) (upd H3 p (.lst vs)) := p2
          have q := p3 G1 (offH H2 D) D vacc (.refl _) w7 offH_at (by rw [List.append_nil]; exact ra)
          rw [offH_upd hDD] at q
          exact q
    · rw [if_neg hsm] at p; exact p.elim
theorem sf_lc {elt tg iter : Expr} {ifs : List Expr} {scope : Scope} {own : List (Str × Nat)} {pos : Pos} {mi : EM (List AV)} {ow : List Nat} {g : GT} {bt : EM Bool} {me : EM AV} (O : Ok X W k) (hi : SI X W tg iter mi) (ok : BlkOk X.N X.env.scope scope own) (how : ∀ i ∈ ow, i ∈ own.map (·.2))
    (hg : ∀ s H C cl fp, SG (blkX X scope s H C cl fp) tg ow g) (ht : ∀ s H C cl fp, STs (blkX X scope s H C cl fp) noW ifs bt) (he : ∀ s H C cl fp, SE (blkX X scope s H C cl fp) noW elt me) (hs : ∀ x, foldedSetIterable iter X.env x = pure x := by intro _; rfl) :
    SF X W (.ListComp elt [⟨tg, iter, ifs, 0⟩] scope pos) (mLc (own.map (·.2)) mi g bt me) :=
  ⟨(pe_lc (tt := tST X noW bt) (g := tSG X ow g) (te := tSE X noW me) O.calm O.nd hi.pi ok (fun s H C cl fp => (hg s H C cl fp).pg) (fun s H C cl fp => (ht s H C cl fp).pts) (fun s H C cl fp => (he s H C cl fp).pe) hs).weak fun σ H Q t => tLc_of how t⟩
end
end Sim

set_option Elab.async false
set_option linter.all false
set_option maxRecDepth 100000
set_option maxHeartbeats 2000000
namespace Sim
open PySem PySem.Spec L2
open PyProof.Rows hiding St
variable [TabT]

/-! ### values without cells -/
mutual
def noC : AV → Bool
  | .tup xs => noCs xs
  | .lst xs => noCs xs
  | .dct kvs => noCk kvs
  | .obj _ fs => noCf fs
  | .cell _ => false
  | _ => true
def noCs : List AV → Bool
  | [] => true
  | x :: xs => noC x && noCs xs
def noCk : List (AV × AV) → Bool
  | [] => true
  | (_, y) :: xs => noC y && noCk xs
def noCf : List (Str × AV) → Bool
  | [] => true
  | (_, y) :: xs => noC y && noCf xs
end
def noCC : Cell → Bool
  | .lst xs => noCs xs
  | .dct kvs => noCk kvs
  | .ins _ fs => noCf fs
  | .frz v => noC v
section
variable {K : PySem.W.Frag} {mg : Str → Option Value} {G G' : Gh}
mutual
theorem R.lower (l : Same G.F G'.F) : ∀ {x : AV} {v : V}, noC x = true → R K mg G x v → R K mg G' x v
  | _, _, _, .non => .non
  | _, _, _, .bl b => .bl b
  | _, _, _, .int b => .int b
  | _, _, _, .str b => .str b
  | _, _, _, .ty b => .ty b
  | _, _, e, .tup h t => .tup (sameT l h) (Rs.lower l (by simpa [noC] using e) t)
  | _, _, e, .lst h t => .lst (l _ _ h) (Rs.lower l (by simpa [noC] using e) t)
  | _, _, e, .obj h e2 t => .obj h (l _ _ e2) (Rf.lower l (by simpa [noC] using e) t)
  | _, _, e, .dctK e2 t => .dctK (l _ _ e2) (RkK.lower l (by simpa [noC] using e) t)
  | _, _, e, .dctT e2 t => .dctT (l _ _ e2) (RkT.lower l (by simpa [noC] using e) t)
  | _, _, _, .scr h => .scr (l.seq h)
  | _, _, e, .cell h => by simp [noC] at e
theorem Rs.lower (l : Same G.F G'.F) : ∀ {x : List AV} {v : List V}, noCs x = true → Rs K mg G x v → Rs K mg G' x v
  | _, _, _, .nil => .nil
  | _, _, e, .cons h t => by
    rw [noCs, Bool.and_eq_true] at e
    exact .cons (R.lower l e.1 h) (Rs.lower l e.2 t)
theorem Rf.lower (l : Same G.F G'.F) : ∀ {x : List (Str × AV)} {v : List (Str × V)}, noCf x = true → Rf K mg G x v → Rf K mg G' x v
  | _, _, _, .nil => .nil
  | _, _, e, .cons h t => by
    rw [noCf, Bool.and_eq_true] at e
    exact .cons (R.lower l e.1 h) (Rf.lower l e.2 t)
theorem RkK.lower (l : Same G.F G'.F) : ∀ {x : List (AV × AV)} {v : List (Key × V)}, noCk x = true → RkK K mg G x v → RkK K mg G' x v
  | _, _, _, .nil => .nil
  | _, _, e, .int h t => by
    rw [noCk, Bool.and_eq_true] at e
    exact .int (R.lower l e.1 h) (RkK.lower l e.2 t)
  | _, _, e, .str h t => by
    rw [noCk, Bool.and_eq_true] at e
    exact .str (R.lower l e.1 h) (RkK.lower l e.2 t)
theorem RkT.lower (l : Same G.F G'.F) : ∀ {x : List (AV × AV)} {v : List (List Key × V)}, noCk x = true → RkT K mg G x v → RkT K mg G' x v
  | _, _, _, .nil => .nil
  | _, _, e, .cons h t => by
    rw [noCk, Bool.and_eq_true] at e
    exact .cons (R.lower l e.1 h) (RkT.lower l e.2 t)
end
end

/-! ### a def's promise -/
abbrev FM := List AV → M AV
def postF (K : PySem.W.Frag) (mg : Str → Option Value) (G : Gh) (Q : VK) (E : XK) : Res AV → Prop
  | .ok v h' => ∀ G' H' z, G.le G' → WI K mg G' h' H' → R K mg G' v z → Q z H'
  | .exc c fs h' => ∀ G' H' cls d, G.le G' → WI K mg G' h' H' → XR K mg G' c fs cls d → E cls d H'
  | .bad => False
def spM (K : PySem.W.Frag) (mg : Str → Option Value) (n : Nat) (m : FM) : Sp := fun vs H Q E => vs.length = n ∧ ∃ G h avs, WI K mg G h H ∧ Rs K mg G avs vs ∧ postF K mg G Q E (m avs h)
/-- a body's worth as a def's -/
def bodyM (n : Nat) (s : SM) : FM := fun avs h => match s (avs.map some ++ List.replicate n none) h with
  | .nx _ h' => .ok .non h'
  | .rt v h' => .ok v h'
  | .exc c fs _ h' => .exc c fs h'
  | _ => .bad
abbrev fnW (E : XK) : WX := fun cls d _ H => E cls d H
section
variable {P : Program} {w : World} {K : PySem.W.Frag} {mg : Str → Option Value} {base : Heap}
/-- THE RULE for a def -/
theorem fn_mk {x qual : Str} {st : Stmt} {f : Addr} {fd : FuncData} {N ps : List Str} {k : Nat} {s : SM} (F : L2.Fun K x qual st f fd) (S : FnScope N ps (defScope st))
    (hb : ∀ (cdv : Value) (A : Around) (outer : List Env) (sh : Shared) (H : Hp) (E : XK), Ok (cxOf (L2.CX P w) P w K mg base N qual (defScope st) f cdv A outer sh H E) (fnW E) k → SSs (cxOf (L2.CX P w) P w K mg base N qual (defScope st) f cdv A outer sh H E) (fnW E) (defBody st) s) :
    FnOk P w K mg base (L2.CX P w) (k + 1) f fd ps (spM K mg ps.length (bodyM (N.length - ps.length) s)) := by
  refine F.okX S (fun vs H Q E h => h.1) (fun cdv A outer sh H vs Q E hr h => ?_)
  obtain ⟨hl, G, h0, avs, w', rs, p⟩ := h
  refine ⟨_, (hb cdv A outer sh H E ⟨S.nd, takes_of rfl rfl rfl rfl, hr, rfl, passes_of rfl⟩).pss, ?_⟩
  have hl2 := rs.length
  refine ⟨G, h0, avs.map some ++ List.replicate (N.length - ps.length) none, w', ?_, ?_⟩
  · show RE K mg G _ (L2.start N vs)
    unfold L2.start
    rw [hl]
    exact RE.start _ rs
  · unfold bodyM at p
    cases e : s (avs.map some ++ List.replicate (N.length - ps.length) none) h0 with
    | nx e1 h1 => rw [e] at p; exact fun G' H' σ' l w re => p G' H' _ l w .non
    | rt v h1 => rw [e] at p; exact p
    | exc c fs e1 h1 => rw [e] at p; exact fun G' H' σ' cls d l w re => p G' H' cls d l w
    | bk e1 h1 => rw [e] at p; exact p.elim
    | ct e1 h1 => rw [e] at p; exact p.elim
    | bad => rw [e] at p; exact p.elim
end

/-! ### calls -/
/-- it works on the same cells -/
def callS (n : Nat) (m : FM) : FM := fun avs => if avs.length = n then m avs else M.bad
/-- it works on none -/
def callP (n : Nat) (m : FM) : FM := fun avs h => if avs.length = n ∧ noCs avs = true then (match m avs [] with
  | .ok v _ => if noC v then .ok v h else .bad
  | .exc c fs _ => if noCf fs then .exc c fs h else .bad
  | .bad => .bad) else .bad
/-- it works on the cell that is its first argument -/
def callH (n : Nat) (m : FM) : FM := fun avs h => match avs with
  | .cell i :: r => (match h[i]? with
    | some c => if avs.length = n ∧ noCs r = true ∧ noCC c = true then (match m (.cell 0 :: r) [c] with
      | .ok v (c' :: _) => if noC v && noCC c' then .ok v (h.set i c') else .bad
      | .exc x fs (c' :: _) => if noCf fs && noCC c' then .exc x fs (h.set i c') else .bad
      | _ => .bad) else .bad
    | none => .bad)
  | _ => .bad
/-- a way of calling is right where from it the promise follows -/
def CallOk (K : PySem.W.Frag) (mg : Str → Option Value) (n : Nat) (m mc : FM) : Prop := ∀ (G : Gh) (h : Hs) (H : Hp) (avs : List AV) (vs : List V) (Q : VK) (E : XK), WI K mg G h H → Rs K mg G avs vs → postF K mg G Q E (mc avs h) → spM K mg n m vs H Q E
section
variable {K : PySem.W.Frag} {mg : Str → Option Value} {n : Nat} {m : FM}
theorem call_s : CallOk K mg n m (callS n m) := fun G h H avs vs Q E w r p => by
  unfold callS at p
  split at p
  · rename_i hl
    exact ⟨by rw [← r.length]; exact hl, G, h, avs, w, r, p⟩
  · exact p.elim
open Classical in
/-- the cells that live, as others see them -/
noncomputable def aside (G : Gh) (H : Hp) (p : Nat → Prop) : Hp := fun b => if (∃ i, p i ∧ G.mu i = some b ∧ G.F b = none) then H b else G.Z b
theorem aside_live {G : Gh} {H : Hp} {p : Nat → Prop} {b : Addr} {i : Nat} (hp : p i) (h1 : G.mu i = some b) (h2 : G.F b = none) : aside G H p b = H b := by
  unfold aside
  rw [if_pos ⟨i, hp, h1, h2⟩]
theorem aside_not {G : Gh} {H : Hp} {p : Nat → Prop} {b : Addr} (h : ∀ i, p i → G.mu i = some b → G.F b ≠ none) : aside G H p b = G.Z b := by
  unfold aside
  rw [if_neg]
  rintro ⟨i, hp, h1, h2⟩
  exact h i hp h1 h2
theorem aside_cases (G : Gh) (H : Hp) (p : Nat → Prop) (b : Addr) : (aside G H p b = H b ∧ ∃ i, p i ∧ G.mu i = some b ∧ G.F b = none) ∨ (aside G H p b = G.Z b ∧ ∀ i, p i → G.mu i = some b → G.F b ≠ none) := by
  by_cases h : ∃ i, p i ∧ G.mu i = some b ∧ G.F b = none
  · obtain ⟨i, hp, h1, h2⟩ := h
    exact .inl ⟨aside_live hp h1 h2, i, hp, h1, h2⟩
  · have h' : ∀ i, p i → G.mu i = some b → G.F b ≠ none := fun i hp h1 h2 => h ⟨i, hp, h1, h2⟩
    exact .inr ⟨aside_not h', h'⟩
/-- a live cell is not held by others -/
theorem WI.liveZ {G : Gh} {h : Hs} {H : Hp} (w : WI K mg G h H) {i : Nat} {b : Addr} (h1 : G.mu i = some b) (h2 : G.F b = none) : G.Z b = none := by
  have hl := w.bnd i b h1
  have x := w.cells i h[i] (List.getElem?_eq_getElem hl)
  cases e : h[i] with
  | lst xs => rw [e] at x; obtain ⟨a, _, q, _, z, _⟩ := x; rw [h1] at q; cases q; exact z
  | dct xs => rw [e] at x; obtain ⟨a, q, _, z, _⟩ := x; rw [h1] at q; cases q; exact z
  | ins c xs => rw [e] at x; obtain ⟨a, _, _, _, q, _, z, _⟩ := x; rw [h1] at q; cases q; exact z
  | frz v => rw [e] at x; obtain ⟨a, o, q, z, _⟩ := x; rw [h1] at q; cases q; rw [h2] at z; cases z
/-- the caller's world, its cells put aside -/
theorem WI.aside {G : Gh} {h : Hs} {H : Hp} (w : WI K mg G h H) (p : Nat → Prop) : Same (aside G H p) H ∧ (∀ a o, Sim.aside G H p a = some o → G.F a = none) ∧ ∀ a ps, Sim.aside G H p a ≠ some (.tbl ps) := by
  refine ⟨fun b o q => ?_, fun b o q => ?_, fun b ps q => ?_⟩
  · rcases aside_cases G H p b with ⟨e, _⟩ | ⟨e, _⟩
    · rw [← e]; exact q
    · rw [e] at q; exact w.Z b o q
  · rcases aside_cases G H p b with ⟨e, i, _, _, h2⟩ | ⟨e, _⟩
    · exact h2
    · rw [e] at q; exact w.FZ b o q
  · rcases aside_cases G H p b with ⟨e, i, _, h1, h2⟩ | ⟨e, _⟩
    · obtain ⟨u, k1, k2, _⟩ := w.kind (w.bnd i b h1) h1 h2
      rw [e, k1] at q
      exact k2 ps (Option.some.inj q)
    · rw [e] at q; exact w.tb.nZ b ps q
/-- .. and taken back -/
theorem WI.back {G G1 : Gh} {h h1 : Hs} {H H1 : Hp} {p : Nat → Prop} (w : WI K mg G h H) (w1 : WI K mg G1 h1 H1) (hF : Same G.F G1.F) (hZ : G1.Z = Sim.aside G H p) (hT : G1.T = G.T) :
    G.le { F := G1.F, mu := G.mu, Z := G.Z, T := G.T } ∧ Same G1.F H1 ∧ Same G.Z H1 ∧ (∀ a o, G.Z a = some o → G1.F a = none) ∧ (∀ i c, p i → h[i]? = some c → CellOk K mg { F := G1.F, mu := G.mu, Z := G.Z, T := G.T } H1 i c) ∧ TbOk { F := G1.F, mu := G.mu, Z := G.Z, T := G.T } H1 := by
  have le : G.le { F := G1.F, mu := G.mu, Z := G.Z, T := G.T } := ⟨hF, fun _ _ q => q, rfl, rfl⟩
  have notLive : ∀ b o, G.Z b = some o → Sim.aside G H p b = G.Z b := fun b o q => aside_not fun i _ h1 h2 => by
    have := w.liveZ h1 h2
    rw [q] at this; cases this
  refine ⟨le, w1.F, fun b o q => ?_, fun b o q => ?_, fun i c hp hc => ?_, w1.tb.T, w1.tb.nF, w.tb.nZ⟩
  · refine w1.Z b o ?_
    rw [hZ, notLive b o q]; exact q
  · refine w1.FZ b o ?_
    rw [hZ, notLive b o q]; exact q
  · refine (w.cells i c hc).stay le (fun a ha hn => ?_) (fun a o ha ho => ?_)
    · obtain ⟨u, hu⟩ := w.there ha
      refine w1.FZ a u ?_
      rw [hZ, aside_live hp ha hn]; exact hu
    · cases e : G.F a with
      | none =>
        refine w1.Z a o ?_
        rw [hZ, aside_live hp ha e]; exact ho
      | some u =>
        have q := w.F a u e
        rw [ho] at q
        cases q
        exact w1.F a o (hF a o e)
theorem call_p : CallOk K mg n m (callP n m) := fun G h H avs vs Q E w r p => by
  unfold callP at p
  split at p
  · rename_i hl
    have wz := w.aside fun _ => True
    refine ⟨by rw [← r.length]; exact hl.1, { F := G.F, mu := fun _ => none, Z := aside G H fun _ => True, T := G.T }, [], avs, ⟨w.F, wz.1, wz.2.1, fun _ _ q => by simp at q, fun _ _ q => (nomatch q), fun _ _ _ q => (nomatch q), w.tb.T, w.tb.nF, wz.2.2⟩, Rs.lower (G := G) (G' := { F := G.F, mu := fun _ => none, Z := Sim.aside G H fun _ => True, T := G.T }) (Same.refl G.F) hl.2 r, ?_⟩
    have fin : ∀ {G1 : Gh} {h1 : Hs} {H1 : Hp}, ({ F := G.F, mu := fun _ => none, Z := aside G H fun _ => True, T := G.T } : Gh).le G1 → WI K mg G1 h1 H1 → G.le { F := G1.F, mu := G.mu, Z := G.Z, T := G.T } ∧ WI K mg { F := G1.F, mu := G.mu, Z := G.Z, T := G.T } h H1 := fun {G1 h1 H1} l w1 => by
      obtain ⟨b1, b2, b3, b4, b5, b6⟩ := w.back w1 l.F l.Z l.T
      exact ⟨b1, b2, b3, b4, fun i c hc => b5 i c trivial hc, w.bnd, w.inj, b6⟩
    cases e : m avs [] with
    | bad => rw [e] at p; exact p
    | ok v h1 =>
      rw [e] at p
      dsimp only at p
      split at p
      · rename_i hv
        intro G1 H1 z l w1 rv
        obtain ⟨le, w2⟩ := fin l w1
        exact p _ H1 z le w2 (R.lower (G := G1) (G' := { F := G1.F, mu := G.mu, Z := G.Z, T := G.T }) (Same.refl G1.F) hv rv)
      · exact p.elim
    | exc c fs h1 =>
      rw [e] at p
      dsimp only at p
      split at p
      · rename_i hv
        intro G1 H1 cls d l w1 x
        obtain ⟨le, w2⟩ := fin l w1
        obtain ⟨C, x1, x2, x3⟩ := x
        refine p _ H1 cls d le w2 ⟨C, x1, x2, ?_⟩
        rcases x3 with x3 | ⟨a, vfs, x4, x5, x6⟩
        · exact .inl x3
        · exact .inr ⟨a, vfs, x4, x5, Rf.lower (G := G1) (G' := { F := G1.F, mu := G.mu, Z := G.Z, T := G.T }) (Same.refl G1.F) hv x6.1, x6.2⟩
      · exact p.elim
  · exact p.elim
theorem CellOk.lower {G G' : Gh} {H : Hp} {i j : Nat} {c : Cell} (x : CellOk K mg G H i c) (hc : noCC c = true) (hF : G'.F = G.F) (hm : ∀ a, G.mu i = some a → G'.mu j = some a) (hZ : ∀ a, G.mu i = some a → G.F a = none → G'.Z a = none) : CellOk K mg G' H j c := by
  have s : Same G.F G'.F := by rw [hF]; exact Same.refl _
  cases c with
  | lst xs => obtain ⟨a, vs, h1, h2, hz, h3, h4⟩ := x; exact ⟨a, vs, hm a h1, by rw [hF]; exact h2, hZ a h1 h2, h3, h4.lower s (by simpa [noCC] using hc)⟩
  | dct kvs =>
    obtain ⟨a, h1, h2, hz, ⟨vks, h3, h4⟩ | ⟨vks, h3, h4⟩⟩ := x
    · exact ⟨a, hm a h1, by rw [hF]; exact h2, hZ a h1 h2, .inl ⟨vks, h3, h4.lower s (by simpa [noCC] using hc)⟩⟩
    · exact ⟨a, hm a h1, by rw [hF]; exact h2, hZ a h1 h2, .inr ⟨vks, h3, h4.lower s (by simpa [noCC] using hc)⟩⟩
  | ins c fs => obtain ⟨a, C, dx, vfs, h1, h2, hz, hc2, h3, h4⟩ := x; exact ⟨a, C, dx, vfs, hm a h1, by rw [hF]; exact h2, hZ a h1 h2, hc2, h3, h4.lower s (by simpa [noCC] using hc)⟩
  | frz v => obtain ⟨a, o, h1, h2, h3⟩ := x; exact ⟨a, o, hm a h1, by rw [hF]; exact h2, h3.lower s (by simpa [noCC] using hc)⟩
theorem CellOk.mu0 {G : Gh} {H : Hp} {i : Nat} {c : Cell} (x : CellOk K mg G H i c) : ∃ a, G.mu i = some a := by
  obtain ⟨a, o, h, _⟩ := x.at
  exact ⟨a, h⟩
theorem call_h : CallOk K mg n m (callH n m) := fun G h H avs vs Q E w r p => by
  unfold callH at p
  split at p
  · rename_i i r0
    cases e0 : h[i]? with
    | none => rw [e0] at p; exact p.elim
    | some c =>
      rw [e0] at p
      dsimp only at p
      split at p
      · rename_i hl
        obtain ⟨hl1, hl2, hl3⟩ := hl
        cases r with
        | @cons _ _ v0 vs0 rc rt =>
          cases rc with
          | @cell _ a hm =>
            have wz := w.aside fun j => j ≠ i
            have nz : G.F a = none → aside G H (fun j => j ≠ i) a = none := fun hf => by
              rw [aside_not fun j hj h1 _ => hj (w.inj j i a h1 hm)]
              exact w.liveZ hm hf
            refine ⟨by rw [← hl1]; rw [List.length_cons, List.length_cons, rt.length], { F := G.F, mu := fun j => if j = 0 then some a else none, Z := aside G H fun j => j ≠ i, T := G.T }, [c], .cell 0 :: r0, ⟨w.F, wz.1, wz.2.1, fun j c' q => ?_, fun j b q => ?_, fun j k b q q2 => ?_, w.tb.T, w.tb.nF, wz.2.2⟩,
              .cons (.cell (by show (if 0 = 0 then some a else none) = some a; rw [if_pos rfl])) (Rs.lower (G := G) (G' := { F := G.F, mu := fun j => if j = 0 then some a else none, Z := Sim.aside G H fun j => j ≠ i, T := G.T }) (Same.refl G.F) hl2 rt), ?_⟩
            · cases j with
              | succ j => simp at q
              | zero =>
                cases q
                refine (w.cells i c e0).lower hl3 rfl (fun b hb => ?_) (fun b hb hf => ?_)
                · show (if 0 = 0 then some a else none) = some b
                  rw [if_pos rfl, ← hm]; exact hb
                · rw [hm] at hb; cases hb; exact nz hf
            · have q2 : (if j = 0 then some a else none) = some b := q
              split at q2
              · rename_i hj; subst hj; simp
              · cases q2
            · have q3 : (if j = 0 then some a else none) = some b := q
              have q4 : (if k = 0 then some a else none) = some b := q2
              split at q3 <;> split at q4
              · omega
              · cases q4
              · cases q3
              · cases q3
            · have fin : ∀ {G1 : Gh} {h1 : Hs} {H1 : Hp} {c' : Cell} {r1 : Hs}, h1 = c' :: r1 → noCC c' = true → ({ F := G.F, mu := fun j => if j = 0 then some a else none, Z := aside G H fun j => j ≠ i, T := G.T } : Gh).le G1 → WI K mg G1 h1 H1 → G.le { F := G1.F, mu := G.mu, Z := G.Z, T := G.T } ∧ WI K mg { F := G1.F, mu := G.mu, Z := G.Z, T := G.T } (h.set i c') H1 := fun {G1 h1 H1 c' r1} eh hc' l w1 => by
                obtain ⟨b1, b2, b3, b4, b5, b6⟩ := w.back w1 l.F l.Z l.T
                have hil : i < h.length := w.bnd i a hm
                refine ⟨b1, b2, b3, b4, fun j c2 hc2 => ?_, fun j b q => by rw [List.length_set]; exact w.bnd j b q, w.inj, b6⟩
                by_cases hj : j = i
                · subst hj
                  rw [List.getElem?_set_self hil] at hc2
                  cases hc2
                  have x := w1.cells 0 c' (by rw [eh]; rfl)
                  have m0 : G1.mu 0 = some a := l.mu 0 a (by show (if 0 = 0 then some a else none) = some a; rw [if_pos rfl])
                  refine x.lower hc' rfl (fun b hb => ?_) (fun b hb hf => ?_)
                  · rw [m0] at hb; cases hb; exact hm
                  · rw [m0] at hb; cases hb
                    show G.Z a = none
                    cases e : G.F a with
                    | none => exact w.liveZ hm e
                    | some u => rw [l.F a u e] at hf; cases hf
                · rw [List.getElem?_set_ne (Ne.symm hj)] at hc2
                  exact b5 j c2 hj hc2
              cases e : m (.cell 0 :: r0) [c] with
              | bad => rw [e] at p; exact p
              | ok v h1 =>
                rw [e] at p
                cases h1 with
                | nil => exact p.elim
                | cons c' r1 =>
                  dsimp only at p
                  split at p
                  · rename_i hv
                    rw [Bool.and_eq_true] at hv
                    intro G1 H1 z l w1 rv
                    obtain ⟨le, w2⟩ := fin rfl hv.2 l w1
                    exact p _ H1 z le w2 (R.lower (G := G1) (G' := { F := G1.F, mu := G.mu, Z := G.Z, T := G.T }) (Same.refl G1.F) hv.1 rv)
                  · exact p.elim
              | exc x fs h1 =>
                rw [e] at p
                cases h1 with
                | nil => exact p.elim
                | cons c' r1 =>
                  dsimp only at p
                  split at p
                  · rename_i hv
                    rw [Bool.and_eq_true] at hv
                    intro G1 H1 cls d l w1 x
                    obtain ⟨le, w2⟩ := fin rfl hv.2 l w1
                    obtain ⟨C, x1, x2, x3⟩ := x
                    refine p _ H1 cls d le w2 ⟨C, x1, x2, ?_⟩
                    rcases x3 with x3 | ⟨b, vfs, x4, x5, x6⟩
                    · exact .inl x3
                    · exact .inr ⟨b, vfs, x4, x5, Rf.lower (G := G1) (G' := { F := G1.F, mu := G.mu, Z := G.Z, T := G.T }) (Same.refl G1.F) hv.1 x6.1, x6.2⟩
                  · exact p.elim
      · exact p.elim
  · exact p.elim
end

section
variable {X : Cx} {W : WX} {k j : Nat}
def mCall (mc : FM) (as : EM (List AV)) : EM AV := fun env => (as env).bnd mc
theorem tSA_call {n : Nat} {m mc : FM} (hc : CallOk X.K X.mg n m mc) {as : EM (List AV)} {σ : L2.St} {H : Hp} {Q : VK} (p : tSE X W (mCall mc as) σ H Q) : tSA X W as σ H fun vs H1 => spM X.K X.mg n m vs H1 Q (WE W σ) := by
  obtain ⟨G, h, env, w, re, p⟩ := p
  refine ⟨G, h, env, w, re, post_bnd p fun avs h1 G1 H1 vs l1 w1 rs p1 => ?_⟩
  refine hc G1 h1 H1 avs vs Q (WE W σ) w1 rs ?_
  cases e : mc avs h1 with
  | ok v h2 => rw [e] at p1; exact p1
  | exc c fs h2 => rw [e] at p1; exact p1
  | bad => rw [e] at p1; exact p1
theorem se_call {f : Addr} {fd : FuncData} {ps : List Str} {x : Str} {p pos : Pos} {e : Expr} {es : List Expr} {as : EM (List AV)} {n : Nat} {m mc : FM} (O : Ok X W j) (hc : CallOk X.K X.mg n m mc) (F : FnOk X.prog X.w X.K X.mg X.base (L2.CX X.prog X.w) k f fd ps (spM X.K X.mg n m)) (hk : k ≤ j)
    (hm : X.mg x = some (.ref f)) (kp : PySem.W.keepIn X.K (.ref f) = true) (hb : Binds X.K fd ps []) (ha : SA X W (e :: es) as) (hg : Gl X x := by rfl)
    (hdb : (x == ("__debug__" : Str)) = false := by decide) (he : starEach (e :: es) X.env = (false, eval e X.env) :: starEach es X.env := by rfl) (hpl : (backTo pos (starEach es X.env)).any (·.1) = false := by rfl) : SE X W (.Call (.Name x p) (e :: es) [] pos) (mCall mc as) :=
  ⟨(pe_callS F (O.hr.mono hk) hg hm kp hb (fun σ => passAt O.tk σ) ha.pa hdb he hpl).weak fun σ H Q q => tSA_call hc q⟩
end
end Sim

set_option Elab.async false
set_option linter.all false
set_option maxRecDepth 100000
set_option maxHeartbeats 2000000
namespace Sim
open PySem PySem.Spec L2
open PyProof.Rows hiding St
variable [TabT]

/-! ### operators -/
def addA (_ : Hs) (x y : AV) : Option AV := match x, y with
  | .int i, .int j => some (.int (i + j))
  | .str a, .str b => if a.length + b.length ≤ sizeLine then some (.str (a ++ b)) else none
  | .tup a, .tup b => if small (a ++ b) then some (.tup (a ++ b)) else none
  | .lst a, .lst b => if small (a ++ b) then some (.lst (a ++ b)) else none
  | _, _ => none
def subA (_ : Hs) (x y : AV) : Option AV := match x, y with
  | .int i, .int j => some (.int (i - j))
  | _, _ => none
/-- |i| < 2 ^ k, told by small numbers (so that nothing is ever counted down from 2 ^ k) -/
def lg (i : Int) (k : Nat) : Bool := decide (i.natAbs.log2 < k)
omit [TabT] in
theorem lg_abs {i : Int} {k : Nat} (hk : 0 < k) : lg i k = true ↔ i.natAbs < 2 ^ k := by
  unfold lg
  rw [decide_eq_true_iff]
  by_cases h : i.natAbs = 0
  · rw [h]
    exact ⟨fun _ => Nat.two_pow_pos k, fun _ => by rw [Nat.log2_zero]; exact hk⟩
  · exact Nat.log2_lt h
omit [TabT] in
theorem lg_of {i : Int} {k : Nat} (hk : 0 < k) (h : lg i k = true) : -(2 ^ k) < i ∧ i < 2 ^ k := by
  have := (lg_abs hk).mp h
  have e : ((2 ^ k : Nat) : Int) = 2 ^ k := by rw [Int.natCast_pow]; rfl
  rw [← e]
  omega
omit [TabT] in
theorem lg_mk {i : Int} {k : Nat} (hk : 0 < k) (h1 : -(2 ^ k) < i) (h2 : i < 2 ^ k) : lg i k = true := by
  refine (lg_abs hk).mpr ?_
  have e : ((2 ^ k : Nat) : Int) = 2 ^ k := by rw [Int.natCast_pow]; rfl
  rw [← e] at h1 h2
  omega
def fits (i j : Int) : Bool := lg i 64 || lg j 64
omit [TabT] in
theorem fits_ok {i j : Int} (h : fits i j = true) : CMul i j := by
  unfold CMul
  unfold fits at h
  rcases Bool.or_eq_true _ _ |>.mp h with h | h
  · exact .inl (lg_of (by decide) h)
  · exact .inr (lg_of (by decide) h)
def mulA (_ : Hs) (x y : AV) : Option AV := match x, y with
  | .int i, .int j => if fits i j then some (.int (i * j)) else none
  | .tup xs, .int k => if xs ≠ [] ∧ 2 ≤ k ∧ k ≤ 1000 ∧ xs.length ≤ 1000 then some (.tup (List.replicate k.toNat xs).flatten) else none
  | .lst xs, .int k => if 0 ≤ k ∧ lg k 63 = true ∧ xs.length * k.toNat ≤ sizeLine then some (.lst (List.replicate k.toNat xs).flatten) else none
  | _, _ => none
def fdivA (_ : Hs) (x y : AV) : Option AV := match x, y with
  | .int i, .int j => if 0 < j ∧ lg j 9000 = true then some (.int (i / j)) else none
  | _, _ => none
def modA (_ : Hs) (x y : AV) : Option AV := match x, y with
  | .int i, .int j => if 0 < j then some (.int (i % j)) else none
  | _, _ => none
def powA (_ : Hs) (x y : AV) : Option AV := match x, y with
  | .int i, .int j => if 0 ≤ j ∧ lg j 19 = true ∧ lg i 64 = true then some (.int (i ^ j.toNat)) else none
  | _, _ => none
def shlA (_ : Hs) (x y : AV) : Option AV := match x, y with
  | .int i, .int j => if 0 ≤ j ∧ lg j 19 = true ∧ lg i 64 = true then some (.int (i * 2 ^ j.toNat)) else none
  | _, _ => none
def shrA (_ : Hs) (x y : AV) : Option AV := match x, y with
  | .int i, .int j => if 0 ≤ j then some (.int (i / 2 ^ j.toNat)) else none
  | _, _ => none
def andA (_ : Hs) (x y : AV) : Option AV := match x, y with
  | .int i, .int j => some (.int (Builtin.bitAnd i j))
  | _, _ => none
def orA (_ : Hs) (x y : AV) : Option AV := match x, y with
  | .int i, .int j => some (.int (Builtin.bitOr i j))
  | _, _ => none
def xorA (_ : Hs) (x y : AV) : Option AV := match x, y with
  | .int i, .int j => some (.int (Builtin.bitXor i j))
  | _, _ => none
def negA (_ : Hs) (x : AV) : Option AV := match x with
  | .int i => some (.int (-i))
  | _ => none
theorem Rs.rep {K : PySem.W.Frag} {mg : Str → Option Value} {G : Gh} {xs : List AV} {vs : List V} (h : Rs K mg G xs vs) : ∀ k : Nat, Rs K mg G (List.replicate k xs).flatten (List.replicate k vs).flatten
  | 0 => .nil
  | k + 1 => by
    rw [List.replicate_succ, List.replicate_succ, List.flatten_cons, List.flatten_cons]
    exact Rs.append h (Rs.rep h k)
theorem Rs.ne {K : PySem.W.Frag} {mg : Str → Option Value} {G : Gh} {xs : List AV} {vs : List V} (h : Rs K mg G xs vs) : xs = [] ↔ vs = [] := by
  cases h <;> simp
section
variable {X : Cx} {W : WX} {k : Nat}
theorem r2_int {f : Value → Value → Sem Value} {C : Int → Int → Prop} {r : Int → Int → Int} {g : Hs → AV → AV → Option AV} (ho : OpR X f (rI C fun i j => .int (r i j)))
    (hg : ∀ h x y c, g h x y = some c → ∃ i j, x = .int i ∧ y = .int j ∧ C i j ∧ c = .int (r i j)) : OpR X f (r2 X.K X.mg g) := by
  intro pins s σ H x y v u Q I rx ry ⟨G, h, a, b, c, w, ra, rb, e, q⟩
  obtain ⟨i, j, rfl, rfl, hC, rfl⟩ := hg h a b c e
  cases ra
  cases rb
  exact ho pins s σ H _ _ v u Q I rx ry ⟨i, j, rfl, rfl, hC, q G H _ (.refl G) w (.int _)⟩
theorem r2_int0 {f : Value → Value → Sem Value} {r : Int → Int → Int} {g : Hs → AV → AV → Option AV} (ho : OpR X f (rI0 fun i j => .int (r i j)))
    (hg : ∀ h x y c, g h x y = some c → ∃ i j, x = .int i ∧ y = .int j ∧ c = .int (r i j)) : OpR X f (r2 X.K X.mg g) := by
  intro pins s σ H x y v u Q I rx ry ⟨G, h, a, b, c, w, ra, rb, e, q⟩
  obtain ⟨i, j, rfl, rfl, rfl⟩ := hg h a b c e
  cases ra
  cases rb
  exact ho pins s σ H _ _ v u Q I rx ry ⟨i, j, rfl, rfl, q G H _ (.refl G) w (.int _)⟩
theorem op_addA : OpR X (binaryOp .Add) (r2 X.K X.mg addA) := by
  intro pins s σ H x y v u Q I rx ry ⟨G, h, a, b, c, w, ra, rb, e, q⟩
  unfold addA at e
  split at e
  · cases ra; cases rb; cases e
    exact op_add pins s σ H _ _ v u Q I rx ry ⟨_, _, rfl, rfl, q G H _ (.refl G) w (.int _)⟩
  · split at e
    · rename_i hl
      cases ra; cases rb; cases e
      exact op_add_str pins s σ H _ _ v u Q I rx ry ⟨_, _, rfl, rfl, hl, q G H _ (.refl G) w (.str _)⟩
    · cases e
  · split at e
    · rename_i hl
      cases e
      cases ra with
      | @tup xs pa vs ha rs =>
        cases rb with
        | @tup ys pb us hb ss =>
          have h1 := sameT w.F ha
          have h2 := sameT w.F hb
          refine op_catA pins s σ H _ _ v u Q I rx ry ⟨pa, pb, vs, us, rfl, rfl, h1, h2, ?_, fun e1 => ?_, fun e1 e2 => ?_, fun e1 e2 p hp => ?_⟩
          · have := of_decide_eq_true hl
            rw [List.length_append, rs.length, ss.length] at this
            exact this
          · have e3 := rs.ne.mpr e1
            refine q G H _ (.refl G) w ?_
            rw [e3]
            exact .tup hb ss
          · have e3 := ss.ne.mpr e2
            refine q G H _ (.refl G) w ?_
            rw [e3, List.append_nil]
            exact .tup ha rs
          · have le : G.le (G.addF p (.tup (vs ++ us))) := Gh.addF_le (w.freeF hp)
            exact q _ _ _ le (w.newF hp) (.tup (.inl (.inl upd_same)) ((Rs.append rs ss).mono le))
    · cases e
  · split at e
    · rename_i hl
      cases e
      cases ra with
      | @lst xs pa vs ha rs =>
        cases rb with
        | @lst ys pb us hb ss =>
          refine op_cat pins s σ H _ _ v u Q I rx ry ⟨pa, pb, vs, us, rfl, rfl, w.F _ _ ha, w.F _ _ hb, ?_, fun p hp => ?_⟩
          · have := of_decide_eq_true hl
            rw [List.length_append, rs.length, ss.length] at this
            exact this
          · have le : G.le (G.addF p (.lst (vs ++ us))) := Gh.addF_le (w.freeF hp)
            exact q _ _ _ le (w.newF hp) (.lst upd_same ((Rs.append rs ss).mono le))
    · cases e
  · cases e
theorem op_subA : OpR X (binaryOp .Sub) (r2 X.K X.mg subA) := r2_int0 op_sub fun h x y c e => by
  unfold subA at e; split at e
  · cases e; exact ⟨_, _, rfl, rfl, rfl⟩
  · cases e
theorem op_mulA : OpR X (binaryOp .Mult) (r2 X.K X.mg mulA) := by
  intro pins s σ H x y v u Q I rx ry ⟨G, h, a, b, c, w, ra, rb, e, q⟩
  unfold mulA at e
  split at e
  · split at e
    · rename_i hc
      cases ra; cases rb; cases e
      exact op_mul pins s σ H _ _ v u Q I rx ry ⟨_, _, rfl, rfl, fits_ok hc, q G H _ (.refl G) w (.int _)⟩
    · cases e
  · split at e
    · rename_i hc
      cases e
      cases rb
      cases ra with
      | @tup xs pa vs ha rs =>
        refine op_repT pins s σ H _ _ v u Q I rx ry ⟨pa, _, vs, rfl, rfl, sameT w.F ha, fun z => hc.1 (rs.ne.mpr z), hc.2.1, hc.2.2.1, by rw [← rs.length]; exact hc.2.2.2, fun p hp => ?_⟩
        exact q (G.addF p _) _ _ (Gh.addF_le (w.freeF hp)) (w.newF hp) (.tup (.inl (.inl upd_same)) ((Rs.rep rs _).mono (Gh.addF_le (w.freeF hp))))
    · cases e
  · split at e
    · rename_i hc
      cases e
      cases rb
      cases ra with
      | @lst xs pa vs ha rs =>
        refine op_rep pins s σ H _ _ v u Q I rx ry ⟨pa, _, vs, rfl, rfl, w.F _ _ ha, by omega, (lg_of (by decide) hc.2.1).2, by rw [← rs.length]; exact hc.2.2, fun p hp => ?_⟩
        exact q (G.addF p _) _ _ (Gh.addF_le (w.freeF hp)) (w.newF hp) (.lst upd_same ((Rs.rep rs _).mono (Gh.addF_le (w.freeF hp))))
    · cases e
  · cases e
theorem op_fdivA : OpR X (binaryOp .FloorDiv) (r2 X.K X.mg fdivA) := by
  intro pins s σ H x y v u Q I rx ry ⟨G, h, a, b, c, w, ra, rb, e, q⟩
  unfold fdivA at e
  split at e
  · split at e
    · rename_i hc
      cases ra; cases rb; cases e
      exact op_fdivW pins s σ H _ _ v u Q I rx ry ⟨_, _, rfl, rfl, ⟨hc.1, of_decide_eq_true hc.2⟩, q G H _ (.refl G) w (.int _)⟩
    · cases e
  · cases e
theorem op_modA : OpR X (binaryOp .Mod) (r2 X.K X.mg modA) := r2_int op_mod fun h x y c e => by
  unfold modA at e; split at e
  · split at e
    · rename_i hc; cases e; exact ⟨_, _, rfl, rfl, hc, rfl⟩
    · cases e
  · cases e
theorem op_powA : OpR X (binaryOp .Pow) (r2 X.K X.mg powA) := r2_int op_pow fun h x y c e => by
  unfold powA at e; split at e
  · split at e
    · rename_i hc; cases e; exact ⟨_, _, rfl, rfl, ⟨hc.1, by have := (lg_of (by decide) hc.2.1).2; omega, (lg_abs (by decide)).mp hc.2.2⟩, rfl⟩
    · cases e
  · cases e
theorem op_shlA : OpR X (binaryOp .LShift) (r2 X.K X.mg shlA) := r2_int op_shl fun h x y c e => by
  unfold shlA at e; split at e
  · split at e
    · rename_i hc; cases e; exact ⟨_, _, rfl, rfl, ⟨hc.1, by have := (lg_of (by decide) hc.2.1).2; omega, (lg_abs (by decide)).mp hc.2.2⟩, rfl⟩
    · cases e
  · cases e
theorem op_shrA : OpR X (binaryOp .RShift) (r2 X.K X.mg shrA) := r2_int op_shr fun h x y c e => by
  unfold shrA at e; split at e
  · split at e
    · rename_i hc; cases e; exact ⟨_, _, rfl, rfl, hc, rfl⟩
    · cases e
  · cases e
theorem op_andA : OpR X (binaryOp .BitAnd) (r2 X.K X.mg andA) := r2_int0 op_and fun h x y c e => by
  unfold andA at e; split at e
  · cases e; exact ⟨_, _, rfl, rfl, rfl⟩
  · cases e
theorem op_orA : OpR X (binaryOp .BitOr) (r2 X.K X.mg orA) := r2_int0 op_or fun h x y c e => by
  unfold orA at e; split at e
  · cases e; exact ⟨_, _, rfl, rfl, rfl⟩
  · cases e
theorem op_xorA : OpR X (binaryOp .BitXor) (r2 X.K X.mg xorA) := r2_int0 op_xor fun h x y c e => by
  unfold xorA at e; split at e
  · cases e; exact ⟨_, _, rfl, rfl, rfl⟩
  · cases e
theorem un_negA : UnR X (unaryOp .USub) (r1 X.K X.mg negA) := by
  intro pins s σ H x v Q I rx ⟨G, h, a, c, w, ra, e, q⟩
  unfold negA at e
  split at e
  · cases ra; cases e
    exact un_neg pins s σ H _ v Q I rx ⟨_, rfl, q G H _ (.refl G) w (.int _)⟩
  · cases e
end

/-! ### comparisons -/
mutual
def dat : AV → PyData
  | .non => .none
  | .bl b => .bool b
  | .int i => .int i
  | .str x => .str x
  | .tup xs => .tuple (dats xs)
  | .lst xs => .list (dats xs)
  | _ => .dict []
def dats : List AV → List PyData
  | [] => []
  | x :: xs => dat x :: dats xs
end
/-- a cell that holds a list, read -/
def der (h : Hs) : AV → AV
  | .cell n => (match h[n]? with
    | some (.lst xs) => .lst xs
    | some (.frz v) => v
    | _ => .cell n)
  | a => a
section
variable {K : PySem.W.Frag} {mg : Str → Option Value} {G : Gh} {H : Hp}
mutual
theorem R.dp (hF : Same G.F H) : ∀ {x : AV} {v : V}, R K mg G x v → (dat x).canLay0 = true → Dp K H v (dat x)
  | _, _, .non, _ => by rw [dat]; exact .non
  | _, _, .bl b, _ => by rw [dat]; exact .bl b
  | _, _, .int b, _ => by rw [dat]; exact .int b
  | _, _, .str b, _ => by rw [dat]; exact .str b
  | _, _, .ty b, e => by simp [dat, PyData.canLay0] at e
  | _, _, .tup h t, e => by
    rw [dat] at e ⊢
    rw [PyData.canLay0] at e
    exact .tup (sameT hF h) (Rs.dp hF t e)
  | _, _, .lst h t, e => by
    rw [dat] at e ⊢
    rw [PyData.canLay0] at e
    exact .lst (.inl (.inl (hF _ _ h))) (Rs.dp hF t e)
  | _, _, .obj h e2 t, e => by simp [dat, PyData.canLay0] at e
  | _, _, .dctK e2 t, e => by simp [dat, PyData.canLay0] at e
  | _, _, .dctT e2 t, e => by simp [dat, PyData.canLay0] at e
  | _, _, .scr h, e => by simp [dat, PyData.canLay0] at e
  | _, _, .cell h, e => by simp [dat, PyData.canLay0] at e
theorem Rs.dp (hF : Same G.F H) : ∀ {x : List AV} {v : List V}, Rs K mg G x v → PyData.canLayAll0 (dats x) = true → DpAll K H v (dats x)
  | _, _, .nil, _ => by rw [dats]; exact .nil
  | _, _, .cons h t, e => by
    rw [dats] at e ⊢
    rw [PyData.canLayAll0, Bool.and_eq_true] at e
    exact .cons (R.dp hF h e.1) (Rs.dp hF t e.2)
end
theorem R.der {h : Hs} {x : AV} {v : V} (w : WI K mg G h H) (r : R K mg G x v) (e : (dat (Sim.der h x)).canLay0 = true) : Dp K H v (dat (Sim.der h x)) := by
  cases r with
  | @cell n a hm =>
    have eq : Sim.der h (.cell n) = (match h[n]? with | some (.lst xs) => .lst xs | some (.frz v) => v | _ => .cell n) := rfl
    rw [eq] at e ⊢
    cases hn : h[n]? with
    | none => rw [hn] at e; simp [dat, PyData.canLay0] at e
    | some c =>
      rw [hn] at e
      cases c with
      | lst xs =>
        obtain ⟨b, vs, h1, h2, hz, h3, h4⟩ := w.cells n _ hn
        rw [hm] at h1
        cases h1
        dsimp only at e ⊢
        rw [dat] at e ⊢
        rw [PyData.canLay0] at e
        exact .lst (.inl (.inl h3)) (Rs.dp w.F h4 e)
      | frz u =>
        obtain ⟨b, o, h1, h2, h3⟩ := w.cells n _ hn
        rw [hm] at h1
        cases h1
        exact h3.dp w.F e
      | dct kvs => simp [dat, PyData.canLay0] at e
      | ins c fs => simp [dat, PyData.canLay0] at e
  | tup h1 h2 => exact (R.tup h1 h2).dp w.F e
  | lst h1 h2 => exact (R.lst h1 h2).dp w.F e
  | non => exact R.dp (G := G) (mg := mg) w.F .non e
  | bl b => exact R.dp (G := G) (mg := mg) w.F (.bl b) e
  | int b => exact R.dp (G := G) (mg := mg) w.F (.int b) e
  | str b => exact R.dp (G := G) (mg := mg) w.F (.str b) e
  | ty b => exact R.dp (G := G) (mg := mg) w.F (.ty b) e
  | obj a b c => exact (R.obj a b c).dp w.F e
  | dctK a b => exact (R.dctK a b).dp w.F e
  | dctT a b => exact (R.dctT a b).dp w.F e
  | scr a => exact R.dp (G := G) (mg := mg) w.F (.scr a) e
end
def eqA (h : Hs) (x y : AV) : Option AV := if SeqAt.shaped (dat (der h x)) = true ∧ SeqAt.shaped (dat (der h y)) = true then some (.bl (PyData.eqv (dat (der h x)) (dat (der h y)))) else none
def neA (h : Hs) (x y : AV) : Option AV := if SeqAt.shaped (dat (der h x)) = true ∧ SeqAt.shaped (dat (der h y)) = true then some (.bl (!PyData.eqv (dat (der h x)) (dat (der h y)))) else none
/-- the ints that a tuple of ints holds -/
def ints? : List AV → Option (List Int)
  | [] => some []
  | .int i :: xs => (ints? xs).map (i :: ·)
  | _ :: _ => none
theorem ints_of : ∀ {xs : List AV} {ns : List Int}, ints? xs = some ns → xs = ns.map AV.int
  | [], ns, e => by cases e; rfl
  | .int i :: xs, ns, e => by
    unfold ints? at e
    cases e2 : ints? xs with
    | none => rw [e2] at e; cases e
    | some ms => rw [e2] at e; cases e; rw [ints_of e2]; rfl
  | .non :: _, _, e => by cases e
  | .bl _ :: _, _, e => by cases e
  | .str _ :: _, _, e => by cases e
  | .ty _ :: _, _, e => by cases e
  | .tup _ :: _, _, e => by cases e
  | .lst _ :: _, _, e => by cases e
  | .dct _ :: _, _, e => by cases e
  | .obj _ _ :: _, _, e => by cases e
  | .scr _ :: _, _, e => by cases e
  | .cell _ :: _, _, e => by cases e
theorem ints_map : ∀ (ns : List Int), ints? (ns.map AV.int) = some ns
  | [] => rfl
  | n :: ns => by rw [List.map_cons, ints?, ints_map ns]; rfl
def ltA (_ : Hs) (x y : AV) : Option AV := match x, y with
  | .int i, .int j => some (.bl (decide (i < j)))
  | .tup xs, .tup ys => (ints? xs).bind fun ns => (ints? ys).map fun ms => .bl (HT.lexLt ns ms)
  | _, _ => none
def leA (_ : Hs) (x y : AV) : Option AV := match x, y with
  | .int i, .int j => some (.bl (decide (i ≤ j)))
  | _, _ => none
def gtA (_ : Hs) (x y : AV) : Option AV := match x, y with
  | .int i, .int j => some (.bl (decide (j < i)))
  | _, _ => none
def geA (_ : Hs) (x y : AV) : Option AV := match x, y with
  | .int i, .int j => some (.bl (decide (j ≤ i)))
  | _, _ => none
def isNB : AV → Bool
  | .non => true
  | _ => false
def isNA (_ : Hs) (x y : AV) : Option AV := match y with
  | .non => some (.bl (isNB x))
  | .bl b => (match x with | .bl a => some (.bl (decide (a = b))) | _ => none)
  | _ => none
def notNA (_ : Hs) (x y : AV) : Option AV := match y with
  | .non => some (.bl (!isNB x))
  | .bl b => (match x with | .bl a => some (.bl (!decide (a = b))) | _ => none)
  | _ => none
/-- what a list or a tuple holds -/
def seqOf (h : Hs) (x : AV) : Option (List AV) := match der h x with
  | .tup xs => some xs
  | .lst xs => some xs
  | _ => none
def inB (h : Hs) (x y : AV) : Option Bool := match y with
  | .str b => (match x with | .str a => some (!(Builtin.Str.occurrences b a 0 b.length 1).isEmpty) | _ => none)
  | _ => if SeqAt.shaped (dat x) = true ∧ SeqAt.shaped (dat (der h y)) = true then (seqOf h y).map fun ys => (dats ys).any fun z => PyData.eqv z (dat x) else none
def inA (h : Hs) (x y : AV) : Option AV := (inB h x y).map .bl
def notInA (h : Hs) (x y : AV) : Option AV := (inB h x y).map fun b => .bl (!b)
section
variable {X : Cx} {W : WX} {k j : Nat}
theorem op_eqA (hu : X.A.units + 64 < cLine) : OpR X (compareOp .Eq) (r2 X.K X.mg eqA) := by
  intro pins s σ H x y v u Q I rx ry ⟨G, h, a, b, c, w, ra, rb, e, q⟩
  unfold eqA at e
  split at e
  · rename_i hc
    cases e
    exact op_eqD hu pins s σ H x y v u Q I rx ry ⟨_, _, ra.der w (SeqAt.canLay_of_shaped hc.1), rb.der w (SeqAt.canLay_of_shaped hc.2), hc.1, hc.2, q G H _ (.refl G) w (.bl _)⟩
  · cases e
theorem op_neA (hu : X.A.units + 64 < cLine) : OpR X (compareOp .NotEq) (r2 X.K X.mg neA) := by
  intro pins s σ H x y v u Q I rx ry ⟨G, h, a, b, c, w, ra, rb, e, q⟩
  unfold neA at e
  split at e
  · rename_i hc
    cases e
    exact op_neD hu pins s σ H x y v u Q I rx ry ⟨_, _, ra.der w (SeqAt.canLay_of_shaped hc.1), rb.der w (SeqAt.canLay_of_shaped hc.2), hc.1, hc.2, q G H _ (.refl G) w (.bl _)⟩
  · cases e
theorem op_ltA (hu : X.A.units < cLine) : OpR X (compareOp .Lt) (r2 X.K X.mg ltA) := by
  intro pins s σ H x y v u Q I rx ry ⟨G, h, a, b, c, w, ra, rb, e, q⟩
  unfold ltA at e
  split at e
  · cases ra; cases rb; cases e
    exact op_lt pins s σ H _ _ v u Q I rx ry ⟨_, _, rfl, rfl, q G H _ (.refl G) w (.bl _)⟩
  · rename_i xs ys
    cases e1 : ints? xs with
    | none => rw [e1] at e; cases e
    | some ns =>
      cases e2 : ints? ys with
      | none => rw [e1, e2] at e; cases e
      | some ms =>
        rw [e1, e2] at e
        have e3 : c = .bl (HT.lexLt ns ms) := (Option.some.inj e).symm
        subst e3
        have hx := ints_of e1
        have hy := ints_of e2
        subst hx hy
        cases ra with
        | @tup _ pa vs ha rs =>
          cases rb with
          | @tup _ pb us hb ss =>
            have i1 := rs.ints
            have i2 := ss.ints
            subst i1 i2
            exact op_ltT hu pins s σ H _ _ v u Q I rx ry ⟨pa, pb, ns, ms, rfl, rfl, sameT w.F ha, sameT w.F hb, q G H _ (.refl G) w (.bl _)⟩
  · cases e
theorem op_leA : OpR X (compareOp .LtE) (r2 X.K X.mg leA) := by
  intro pins s σ H x y v u Q I rx ry ⟨G, h, a, b, c, w, ra, rb, e, q⟩
  unfold leA at e
  split at e
  · cases ra; cases rb; cases e
    exact op_le pins s σ H _ _ v u Q I rx ry ⟨_, _, rfl, rfl, q G H _ (.refl G) w (.bl _)⟩
  · cases e
theorem op_gtA : OpR X (compareOp .Gt) (r2 X.K X.mg gtA) := by
  intro pins s σ H x y v u Q I rx ry ⟨G, h, a, b, c, w, ra, rb, e, q⟩
  unfold gtA at e
  split at e
  · cases ra; cases rb; cases e
    exact op_gt pins s σ H _ _ v u Q I rx ry ⟨_, _, rfl, rfl, q G H _ (.refl G) w (.bl _)⟩
  · cases e
theorem op_geA : OpR X (compareOp .GtE) (r2 X.K X.mg geA) := by
  intro pins s σ H x y v u Q I rx ry ⟨G, h, a, b, c, w, ra, rb, e, q⟩
  unfold geA at e
  split at e
  · cases ra; cases rb; cases e
    exact op_ge pins s σ H _ _ v u Q I rx ry ⟨_, _, rfl, rfl, q G H _ (.refl G) w (.bl _)⟩
  · cases e
theorem R.isN {K : PySem.W.Frag} {mg : Str → Option Value} {G : Gh} {a : AV} {x : V} (r : R K mg G a x) : decide (x = .non) = isNB a := by
  cases r <;> simp [isNB]
theorem op_isA : OpR X (compareOp .Is) (r2 X.K X.mg isNA) := by
  intro pins s σ H x y v u Q I rx ry ⟨G, h, a, b, c, w, ra, rb, e, q⟩
  unfold isNA at e
  split at e
  · cases rb; cases e
    refine op_isN pins s σ H _ _ v u Q I rx ry ⟨rfl, q G H _ (.refl G) w ?_⟩
    rw [ra.isN]
    exact .bl _
  · split at e
    · cases rb; cases ra; cases e
      exact op_isBl pins s σ H _ _ v u Q I rx ry ⟨_, _, rfl, rfl, q G H _ (.refl G) w (.bl _)⟩
    · cases e
  · cases e
theorem op_isnotA : OpR X (compareOp .IsNot) (r2 X.K X.mg notNA) := by
  intro pins s σ H x y v u Q I rx ry ⟨G, h, a, b, c, w, ra, rb, e, q⟩
  unfold notNA at e
  split at e
  · cases rb; cases e
    refine op_notN pins s σ H _ _ v u Q I rx ry ⟨rfl, q G H _ (.refl G) w ?_⟩
    rw [ra.isN]
    exact .bl _
  · split at e
    · cases rb; cases ra; cases e
      exact op_notBl pins s σ H _ _ v u Q I rx ry ⟨_, _, rfl, rfl, q G H _ (.refl G) w (.bl _)⟩
    · cases e
  · cases e
end
end Sim

set_option Elab.async false
set_option linter.all false
set_option maxRecDepth 100000
set_option maxHeartbeats 2000000
namespace Sim
open PySem PySem.Spec L2
open PyProof.Rows hiding St
variable [TabT]

theorem der_cases {h : Hs} {y : AV} {ys : List AV} (e : seqOf h y = some ys) : der h y = .lst ys ∨ der h y = .tup ys := by
  unfold seqOf at e
  split at e
  · rename_i xs q; cases e; exact .inr q
  · rename_i xs q; cases e; exact .inl q
  · cases e
section
variable {X : Cx} {W : WX} {k j : Nat}
theorem inB_seq {h : Hs} {x y : AV} {b : Bool} (e : inB h x y = some b) (hy : ∀ z, y ≠ .str z) : SeqAt.shaped (dat x) = true ∧ SeqAt.shaped (dat (der h y)) = true ∧ ∃ ys, seqOf h y = some ys ∧ b = (dats ys).any fun z => PyData.eqv z (dat x) := by
  unfold inB at e
  split at e
  · exact absurd rfl (hy _)
  · split at e
    · rename_i hc
      cases e1 : seqOf h y with
      | none => rw [e1] at e; cases e
      | some ys => rw [e1] at e; cases e; exact ⟨hc.1, hc.2, ys, rfl, rfl⟩
    · cases e
theorem op_inG (neg : Bool) (hu : X.A.units + 65 < cLine) : OpR X (compareOp (if neg then .NotIn else .In)) (r2 X.K X.mg fun h x y => (inB h x y).map fun b => .bl (if neg then !b else b)) := by
  intro pins s σ H x y v u Q I rx ry ⟨G, h, a, b, c, w, ra, rb, e, q⟩
  dsimp only at e
  cases e1 : inB h a b with
  | none => rw [e1] at e; cases e
  | some bb =>
    rw [e1] at e
    have ec : c = .bl (if neg then !bb else bb) := (Option.some.inj e).symm
    subst ec
    have q0 := q G H _ (.refl G) w (.bl _)
    by_cases hy : ∃ z, b = .str z
    · obtain ⟨z, rfl⟩ := hy
      cases a with
      | str a =>
        cases ra; cases rb
        unfold inB at e1
        cases e1
        cases neg with
        | true => exact op_notIn_str pins s σ H _ _ v u Q I rx ry ⟨_, _, rfl, rfl, q0⟩
        | false => exact op_in_str pins s σ H _ _ v u Q I rx ry ⟨_, _, rfl, rfl, q0⟩
      | _ => unfold inB at e1; cases e1
    · obtain ⟨s1, s2, ys, e3, e4⟩ := inB_seq e1 fun z q => hy ⟨z, q⟩
      subst e4
      have d1 := ra.dp w.F (SeqAt.canLay_of_shaped s1)
      have d2 := rb.der w (SeqAt.canLay_of_shaped s2)
      obtain ⟨as, r1⟩ := Dp.reads I _ x v d1 rx
      obtain ⟨bs, r2⟩ := Dp.reads I _ y u d2 ry
      rcases der_cases e3 with e5 | e5
      · rw [e5, dat] at r2 s2
        cases neg with
        | true => exact SeqAt.notIn_list_reads r2 r1 (SeqAt.canLay_of_shaped s2) (SeqAt.canLay_of_shaped s1) (room_in_shaped s1 hu) ⟨.bl _, H, I, rfl, q0⟩
        | false => exact SeqAt.in_list_reads r2 r1 (SeqAt.canLay_of_shaped s2) (SeqAt.canLay_of_shaped s1) (room_in_shaped s1 hu) ⟨.bl _, H, I, rfl, q0⟩
      · rw [e5, dat] at r2 s2
        cases neg with
        | true => exact SeqAt.notIn_tuple_reads r2 r1 (SeqAt.canLay_of_shaped s2) (SeqAt.canLay_of_shaped s1) (room_in_shaped s1 hu) ⟨.bl _, H, I, rfl, q0⟩
        | false => exact SeqAt.in_tuple_reads r2 r1 (SeqAt.canLay_of_shaped s2) (SeqAt.canLay_of_shaped s1) (room_in_shaped s1 hu) ⟨.bl _, H, I, rfl, q0⟩
theorem op_inA (hu : X.A.units + 65 < cLine) : OpR X (compareOp .In) (r2 X.K X.mg inA) := op_inG false hu
theorem op_notInA (hu : X.A.units + 65 < cLine) : OpR X (compareOp .NotIn) (r2 X.K X.mg notInA) := op_inG true hu

/-! ### what stands in a list or a tuple -/
theorem R.seq {K : PySem.W.Frag} {mg : Str → Option Value} {G : Gh} {h : Hs} {H : Hp} {x : AV} {v : V} {xs : List AV} (w : WI K mg G h H) (r : R K mg G x v) (e : seqOf h x = some xs) :
    ∃ a vs, v = .ref a ∧ Rs K mg G xs vs ∧ ((Sim.der h x = .lst xs ∧ H a = some (.lst vs)) ∨ (Sim.der h x = .tup xs ∧ SqT K G.F a vs)) := by
  cases r with
  | @tup ys a vs ha rs => cases e; exact ⟨a, vs, rfl, rs, .inr ⟨rfl, ha⟩⟩
  | @lst ys a vs ha rs => cases e; exact ⟨a, vs, rfl, rs, .inl ⟨rfl, w.F _ _ ha⟩⟩
  | @cell n a hm =>
    have eq : Sim.der h (.cell n) = (match h[n]? with | some (.lst xs) => .lst xs | some (.frz v) => v | _ => .cell n) := rfl
    unfold seqOf at e
    rw [eq] at e
    cases hn : h[n]? with
    | none => rw [hn] at e; cases e
    | some c =>
      rw [hn] at e
      cases c with
      | lst ys =>
        cases e
        obtain ⟨b, vs, h1, h2, hz, h3, h4⟩ := w.cells n _ hn
        rw [hm] at h1
        cases h1
        exact ⟨a, vs, rfl, h4, .inl ⟨by rw [eq, hn], h3⟩⟩
      | frz u =>
        obtain ⟨b, o, h1, h2, h3⟩ := w.cells n _ hn
        rw [hm] at h1
        cases h1
        dsimp only at e
        cases u with
        | tup ys => cases e; cases h3 with | @tup _ _ vs ha rs => exact ⟨a, vs, rfl, rs, .inr ⟨by rw [eq, hn], ha⟩⟩
        | lst ys => cases e; cases h3 with | @lst _ _ vs ha rs => exact ⟨a, vs, rfl, rs, .inl ⟨by rw [eq, hn], w.F _ _ ha⟩⟩
        | _ => cases e
      | dct kvs => cases e
      | ins c fs => cases e
  | _ => cases e
theorem Rs.atI {K : PySem.W.Frag} {mg : Str → Option Value} {G : Gh} {xs : List AV} {vs : List V} {i : Int} {c : AV} (r : Rs K mg G xs vs) (e : L2.atI xs i = some c) : ∃ v, L2.atI vs i = some v ∧ R K mg G c v := by
  unfold L2.atI at e ⊢
  rw [← r.length]
  cases h : ixN xs.length i with
  | none => rw [h] at e; cases e
  | some j => rw [h] at e; exact r.get e
def ixA (h : Hs) (x y : AV) : Option AV := match y with
  | .int i => (match x with
    | .str z => if z.length ≤ sizeLine then (atI z.cps.toList i).map fun c => .str ⟨#[c]⟩ else none
    | _ => (seqOf h x).bind fun xs => atI xs i)
  | _ => none
theorem ix_A : IxR X (r2 X.K X.mg ixA) := by
  intro ve se pins s σ H x y v u Q I rx ry ⟨G, h, a, b, c, w, ra, rb, e, q⟩ hs
  unfold ixA at e
  split at e
  · rename_i i
    cases rb
    split at e
    · rename_i z
      cases ra
      split at e
      · rename_i hz
        cases e2 : L2.atI z.cps.toList i with
        | none => rw [e2] at e; cases e
        | some cc =>
          rw [e2] at e
          cases e
          exact ix_str ve se pins s σ H _ _ v u Q I rx ry ⟨z, i, cc, rfl, rfl, hz, e2, q G H _ (.refl G) w (.str _)⟩ hs
      · cases e
    · cases e2 : seqOf h a with
      | none => rw [e2] at e; cases e
      | some xs =>
        rw [e2] at e
        obtain ⟨p, vs, rfl, rs, hq⟩ := ra.seq w e2
        obtain ⟨vv, e3, rc⟩ := rs.atI (show L2.atI xs i = some c from e)
        rcases hq with ⟨_, hq⟩ | ⟨_, hq⟩
        · exact ix_list ve se pins s σ H _ _ v u Q I rx ry ⟨p, vs, i, vv, rfl, rfl, .inl (.inl hq), e3, q G H _ (.refl G) w rc⟩ hs
        · exact ix_tup ve se pins s σ H _ _ v u Q I rx ry ⟨p, vs, i, vv, rfl, rfl, sameT w.F hq, e3, q G H _ (.refl G) w rc⟩ hs
  · cases e
variable {a b c e : Expr} {m ma mb : EM AV} {pos : Pos}
theorem se_ix (ha : SE X W a ma) (hb : SE X W b mb) (hs : PlainIx b := by exact fun _ _ => rfl) : SE X W (.Subscript a b pos) (m2 ixA ma mb) :=
  ⟨(pe_ix ix_A ha.pe hb.pe hs).weak fun σ H Q p => tt2 p⟩

/-! ### slices -/
abbrev EO := EM (Option Int)
def tSO (X : Cx) (W : WX) (m : EO) : TO := fun σ H Q => ∃ G h env, WI X.K X.mg G h H ∧ RE X.K X.mg G env σ ∧ post X W (fun _ (a b : Option Int) => a = b) G σ Q (m env h)
structure SO (X : Cx) (W : WX) (e : Option Expr) (m : EO) : Prop where
  po : PO X e (tSO X W m)
theorem _root_.L2.PO.weak {e : Option Expr} {t t' : TO} (p : PO X e t) (h : ∀ σ H Q, t' σ H Q → t σ H Q) : PO X e t' := ⟨fun pins s σ H Q I q => p.run pins s σ H Q I (h σ H Q q)⟩
def oNo : EO := fun _ => M.ret none
def oYes (m : EM AV) : EO := fun env => (m env).bnd fun x => rd fun _ => match x with
  | .int i => some (some i)
  | _ => none
theorem so_no : SO X W none oNo := ⟨po_none.weak fun σ H Q ⟨G, h, env, w, re, p⟩ => p G H none (.refl G) w rfl⟩
theorem so_yes (h : SE X W e m) : SO X W (some e) (oYes m) := by
  refine ⟨(po_some h.pe).weak fun σ H Q ⟨G, h, env, w, re, p⟩ => ⟨G, h, env, w, re, post_bnd p fun a h1 G1 H1 x l1 w1 ra p1 => ?_⟩⟩
  obtain ⟨c, e, q⟩ := post_rd p1
  cases a with
  | int i => cases ra; exact ⟨i, rfl, q G1 H1 (some i) (.refl G1) w1 (Option.some.inj e).symm⟩
  | _ => cases e
def cutA {α : Type} (xs : List α) (lo hi : Option Int) : List α := (xs.drop (HT.sIx xs.length 0 lo)).take (HT.sIx xs.length xs.length hi - HT.sIx xs.length 0 lo)
def slA (h : Hs) (x : AV) (lo hi : Option Int) : Option AV := match der h x with
  | .tup xs => some (.tup (cutA xs lo hi))
  | .lst xs => some (.lst (cutA xs lo hi))
  | .scr ns => some (.lst ((cutA ns lo hi).map .int))
  | _ => none
def mSl (a : EM AV) (lo hi : EO) : EM AV := fun env => (a env).bnd fun x => (lo env).bnd fun l => (hi env).bnd fun u => rd fun h => slA h x l u
theorem Rs.cut {K : PySem.W.Frag} {mg : Str → Option Value} {G : Gh} {xs : List AV} {vs : List V} (r : Rs K mg G xs vs) (lo hi : Option Int) : Rs K mg G (cutA xs lo hi) (cutV vs lo hi) := by
  unfold cutA cutV
  rw [r.length]
  exact (r.drop _).take _
theorem map_cut (ns : List Int) (lo hi : Option Int) : cutV (ns.map V.int) lo hi = (cutA ns lo hi).map V.int := by
  unfold cutA cutV
  rw [List.length_map, List.map_take, List.map_drop]
theorem se_sl {lo hi : Option Expr} {ml mh : EO} {p2 : Pos} (ha : SE X W a ma) (hl : SO X W lo ml) (hh : SO X W hi mh) : SE X W (.Subscript a (.Slice lo hi none p2) pos) (mSl ma ml mh) := by
  refine ⟨(pe_slice (SlR.or sl_list sl_tupA) ha.pe hl.po hh.po).weak fun σ H Q ⟨G, h, env, w, re, p⟩ => ⟨G, h, env, w, re, post_bnd p fun a h1 G1 H1 x l1 w1 ra p1 => ⟨G1, h1, env, w1, re.mono l1, post_bnd p1 fun lo' h2 G2 H2 lv l2 w2 e2 p2 => ⟨G2, h2, env, w2, (re.mono l1).mono l2, post_bnd p2 fun hi' h3 G3 H3 hv l3 w3 e3 p3 => ?_⟩⟩⟩⟩
  subst e2 e3
  obtain ⟨c, e, q⟩ := post_rd p3
  have r3 : R X.K X.mg G3 a x := (ra.mono l2).mono l3
  have fL : ∀ {p : Addr} {xs : List AV} {vs : List V}, x = .ref p → Rs X.K X.mg G3 xs vs → H3 p = some (.lst vs) → c = .lst (cutA xs lo' hi') → rSlL X.K x lo' hi' H3 Q := fun {p xs vs} ex rs hp ec => by
    subst ec
    exact ⟨p, vs, ex, .inl (.inl hp), fun p2 hp2 => q (G3.addF p2 _) _ _ (Gh.addF_le (w3.freeF hp2)) (w3.newF hp2) (.lst upd_same ((rs.cut _ _).mono (Gh.addF_le (w3.freeF hp2))))⟩
  have fT : ∀ {p : Addr} {xs : List AV} {vs : List V}, x = .ref p → Rs X.K X.mg G3 xs vs → SqT X.K G3.F p vs → c = .tup (cutA xs lo' hi') → rSlA X.K x lo' hi' H3 Q := fun {p xs vs} ex rs hp ec => by
    subst ec
    refine ⟨p, vs, ex, sameT w3.F hp, fun hw => ?_, fun _ p2 hp2 => q (G3.addF p2 _) _ _ (Gh.addF_le (w3.freeF hp2)) (w3.newF hp2) (.tup (.inl (.inl upd_same)) ((rs.cut _ _).mono (Gh.addF_le (w3.freeF hp2))))⟩
    have e4 : cutA xs lo' hi' = xs := by
      unfold cutA
      rw [rs.length, hw.1, hw.2, List.drop_zero, Nat.sub_zero, ← rs.length, List.take_length]
    refine q G3 H3 _ (.refl G3) w3 ?_
    rw [e4]
    exact .tup hp rs
  unfold slA at e
  cases r3 with
  | @tup ys p vs hp rs => exact .inr (fT rfl rs hp (Option.some.inj e).symm)
  | @lst ys p vs hp rs => exact .inl (fL rfl rs (w3.F _ _ hp) (Option.some.inj e).symm)
  | @scr ns p hp =>
    have ec : c = .lst ((cutA ns lo' hi').map .int) := (Option.some.inj e).symm
    subst ec
    refine .inl ⟨p, ns.map V.int, rfl, w3.F.seq hp, fun p2 hp2 => q (G3.addF p2 _) _ _ (Gh.addF_le (w3.freeF hp2)) (w3.newF hp2) (.lst upd_same ?_)⟩
    rw [map_cut]
    exact Rs.of_ints _
  | @cell n p hm =>
    have eq : Sim.der h3 (.cell n) = (match h3[n]? with | some (.lst xs) => .lst xs | some (.frz v) => v | _ => .cell n) := rfl
    rw [eq] at e
    cases hn : h3[n]? with
    | none => rw [hn] at e; cases e
    | some cc =>
      rw [hn] at e
      cases cc with
      | lst ys =>
        obtain ⟨b, vs, g1, g2, gz, g3, g4⟩ := w3.cells n _ hn
        rw [hm] at g1
        cases g1
        exact .inl (fL rfl g4 g3 (Option.some.inj e).symm)
      | frz u =>
        obtain ⟨b, o, g1, g2, g3⟩ := w3.cells n _ hn
        rw [hm] at g1
        cases g1
        dsimp only at e
        cases u with
        | tup ys => cases g3 with | @tup _ _ vs ha rs => exact .inr (fT rfl rs ha (Option.some.inj e).symm)
        | lst ys => cases g3 with | @lst _ _ vs ha rs => exact .inl (fL rfl rs (w3.F _ _ ha) (Option.some.inj e).symm)
        | scr ns => cases g3 with
          | @scr _ _ hp =>
            have ec : c = .lst ((cutA ns lo' hi').map .int) := (Option.some.inj e).symm
            subst ec
            refine .inl ⟨p, ns.map V.int, rfl, w3.F.seq hp, fun p2 hp2 => q (G3.addF p2 _) _ _ (Gh.addF_le (w3.freeF hp2)) (w3.newF hp2) (.lst upd_same ?_)⟩
            rw [map_cut]
            exact Rs.of_ints _
        | cell m => cases e
        | _ => cases e
      | dct kvs => cases e
      | ins c fs => cases e
  | _ => cases e

/-! ### built-in functions -/
theorem se_callB {x : Str} {p : Pos} {es : List Expr} {id : String} {g : Hs → List AV → Option AV} {as : EM (List AV)} (hc : CallR X (.builtin id) (rN X.K X.mg g)) (hm : X.mg x = none) (hv : bootBuiltins x = some (.builtin id)) (ha : SA X W (e :: es) as) (hg : Gl X x := by rfl)
    (hn : x ≠ "__name__" := by decide) (hdb : (x == ("__debug__" : Str)) = false := by decide) (he : starEach (e :: es) X.env = (false, eval e X.env) :: starEach es X.env := by rfl) (hpl : (backTo pos (starEach es X.env)).any (·.1) = false := by rfl) :
    SE X W (.Call (.Name x p) (e :: es) [] pos) (mN g as) := by
  refine ⟨(pe_callB hc hg hm hv ha.pa hn hdb he hpl).weak fun σ H Q ⟨G, h, env, w, re, p⟩ => ⟨G, h, env, w, re, post_bnd p fun xs h1 G1 H1 vs l1 w1 rs p1 => ?_⟩⟩
  obtain ⟨c, e, q⟩ := post_rd p1
  exact ⟨G1, h1, xs, c, w1, rs, e, q⟩
theorem se_callTy {x : Str} {p : Pos} {es : List Expr} {T : String} {g : Hs → List AV → Option AV} {as : EM (List AV)} (hc : CallR X (.type T) (rN X.K X.mg g)) (hm : X.mg x = none) (hv : bootBuiltins x = some (.type T)) (ha : SA X W (e :: es) as) (hg : Gl X x := by rfl)
    (hn : x ≠ "__name__" := by decide) (hdb : (x == ("__debug__" : Str)) = false := by decide) (he : starEach (e :: es) X.env = (false, eval e X.env) :: starEach es X.env := by rfl) (hpl : (backTo pos (starEach es X.env)).any (·.1) = false := by rfl) :
    SE X W (.Call (.Name x p) (e :: es) [] pos) (mN g as) := by
  refine ⟨(pe_callTy hc hg hm hv ha.pa hn hdb he hpl).weak fun σ H Q ⟨G, h, env, w, re, p⟩ => ⟨G, h, env, w, re, post_bnd p fun xs h1 G1 H1 vs l1 w1 rs p1 => ?_⟩⟩
  obtain ⟨c, e, q⟩ := post_rd p1
  exact ⟨G1, h1, xs, c, w1, rs, e, q⟩
def lenA (h : Hs) (xs : List AV) : Option AV := match xs with
  | [.str z] => if z.length ≤ sizeLine then some (.int z.length) else none
  | [x] => (seqOf h x).map fun ys => .int ys.length
  | _ => none
theorem call_lenA : CallR X (.builtin "len") (rN X.K X.mg lenA) := by
  intro pins s σ H xs us Q I r ⟨G, h, as, c, w, rs, e, q⟩
  unfold lenA at e
  split at e
  · rename_i z
    split at e
    · rename_i hz
      cases e
      cases rs with | cons r1 t => cases t; cases r1; exact call_len_str pins s σ H _ us Q I r ⟨z, rfl, hz, q G H _ (.refl G) w (.int _)⟩
    · cases e
  · rename_i x _
    cases e2 : seqOf h x with
    | none => rw [e2] at e; cases e
    | some ys =>
      rw [e2] at e
      cases e
      cases rs with
      | cons r1 t =>
        cases t
        obtain ⟨p, vs, rfl, rr, hq⟩ := r1.seq w e2
        refine call_len_seq pins s σ H _ us Q I r ⟨p, vs, rfl, hq.imp (fun z => .inl (.inl z.2)) (fun z => sameT w.F z.2), q G H _ (.refl G) w ?_⟩
        dsimp only
        rw [rr.length]
        exact .int _
  · cases e
def absA (_ : Hs) (xs : List AV) : Option AV := match xs with
  | [.int i] => some (.int (if i < 0 then -i else i))
  | _ => none
theorem call_absA : CallR X (.builtin "abs") (rN X.K X.mg absA) := by
  intro pins s σ H xs us Q I r ⟨G, h, as, c, w, rs, e, q⟩
  unfold absA at e
  split at e
  · cases e
    cases rs with | cons r1 t => cases t; cases r1; exact call_abs pins s σ H _ us Q I r ⟨_, rfl, q G H _ (.refl G) w (.int _)⟩
  · cases e
def intA (_ : Hs) (xs : List AV) : Option AV := match xs with
  | [.int i] => some (.int i)
  | [.bl k] => some (.int (if k then 1 else 0))
  | _ => none
theorem call_intA : CallR X (.type "int") (rN X.K X.mg intA) := by
  intro pins s σ H xs us Q I r ⟨G, h, as, c, w, rs, e, q⟩
  unfold intA at e
  split at e
  · cases e
    cases rs with | cons r1 t => cases t; cases r1; exact call_int1 pins s σ H _ us Q I r (.inl ⟨_, rfl, q G H _ (.refl G) w (.int _)⟩)
  · cases e
    cases rs with | cons r1 t => cases t; cases r1; exact call_int1 pins s σ H _ us Q I r (.inr ⟨_, rfl, q G H _ (.refl G) w (.int _)⟩)
  · cases e
/-- max, min: of two ints, of a list of ints -/
def lmax : List Int → Int
  | [] => 0
  | [x] => x
  | x :: y :: r => let m := lmax (y :: r); if m > x then m else x
def lmin : List Int → Int
  | [] => 0
  | [x] => x
  | x :: y :: r => let m := lmin (y :: r); if m < x then m else x
theorem lmax_spec : ∀ (x : Int) (r : List Int), lmax (x :: r) ∈ x :: r ∧ ∀ y ∈ x :: r, y ≤ lmax (x :: r)
  | x, [] => by simp [lmax]
  | x, y :: r => by
    obtain ⟨h1, h2⟩ := lmax_spec y r
    have e : lmax (x :: y :: r) = if lmax (y :: r) > x then lmax (y :: r) else x := rfl
    rw [e]
    split
    · refine ⟨List.mem_cons_of_mem _ h1, fun z hz => ?_⟩
      rcases List.mem_cons.mp hz with rfl | hz
      · omega
      · exact h2 z hz
    · refine ⟨List.mem_cons_self, fun z hz => ?_⟩
      rcases List.mem_cons.mp hz with rfl | hz
      · omega
      · have := h2 z hz; omega
theorem lmin_spec : ∀ (x : Int) (r : List Int), lmin (x :: r) ∈ x :: r ∧ ∀ y ∈ x :: r, lmin (x :: r) ≤ y
  | x, [] => by simp [lmin]
  | x, y :: r => by
    obtain ⟨h1, h2⟩ := lmin_spec y r
    have e : lmin (x :: y :: r) = if lmin (y :: r) < x then lmin (y :: r) else x := rfl
    rw [e]
    split
    · refine ⟨List.mem_cons_of_mem _ h1, fun z hz => ?_⟩
      rcases List.mem_cons.mp hz with rfl | hz
      · omega
      · exact h2 z hz
    · refine ⟨List.mem_cons_self, fun z hz => ?_⟩
      rcases List.mem_cons.mp hz with rfl | hz
      · omega
      · have := h2 z hz; omega
def lstOf (h : Hs) (x : AV) : Option (List AV) := match der h x with
  | .lst xs => some xs
  | _ => none
theorem R.lstOf {K : PySem.W.Frag} {mg : Str → Option Value} {G : Gh} {h : Hs} {H : Hp} {x : AV} {v : V} {xs : List AV} (w : WI K mg G h H) (r : R K mg G x v) (e : Sim.lstOf h x = some xs) :
    ∃ a vs, v = .ref a ∧ Rs K mg G xs vs ∧ H a = some (.lst vs) := by
  cases r with
  | @lst ys a vs ha rs => cases e; exact ⟨a, vs, rfl, rs, w.F _ _ ha⟩
  | @cell n a hm =>
    have eq : Sim.der h (.cell n) = (match h[n]? with | some (.lst xs) => .lst xs | some (.frz v) => v | _ => .cell n) := rfl
    unfold Sim.lstOf at e
    rw [eq] at e
    cases hn : h[n]? with
    | none => rw [hn] at e; cases e
    | some c =>
      rw [hn] at e
      cases c with
      | lst ys =>
        cases e
        obtain ⟨b, vs, h1, h2, hz, h3, h4⟩ := w.cells n _ hn
        rw [hm] at h1
        cases h1
        exact ⟨a, vs, rfl, h4, h3⟩
      | frz u =>
        obtain ⟨b, o, h1, h2, h3⟩ := w.cells n _ hn
        rw [hm] at h1
        cases h1
        dsimp only at e
        cases u with
        | lst ys => cases e; cases h3 with | @lst _ _ vs ha rs => exact ⟨a, vs, rfl, rs, w.F _ _ ha⟩
        | _ => cases e
      | dct kvs => cases e
      | ins c fs => cases e
  | _ => cases e
def maxA (h : Hs) (xs : List AV) : Option AV := match xs with
  | [.int i, .int j] => some (.int (if j > i then j else i))
  | [x] => (lstOf h x).bind fun ys => (ints? ys).bind fun ns => if 0 < ns.length then some (.int (lmax ns)) else none
  | _ => none
def minA (h : Hs) (xs : List AV) : Option AV := match xs with
  | [.int i, .int j] => some (.int (if j < i then j else i))
  | [x] => (lstOf h x).bind fun ys => (ints? ys).bind fun ns => if 0 < ns.length then some (.int (lmin ns)) else none
  | _ => none
def sumA (h : Hs) (xs : List AV) : Option AV := match xs with
  | [x] => (lstOf h x).bind fun ys => (ints? ys).map fun ns => .int ns.sum
  | _ => none
theorem ints_args {h : Hs} {x : AV} {β : Type} {f : List Int → Option β} {c : β} (e : ((lstOf h x).bind fun ys => (ints? ys).bind f) = some c) : ∃ ns, lstOf h x = some (ns.map AV.int) ∧ f ns = some c := by
  cases e1 : lstOf h x with
  | none => rw [e1] at e; cases e
  | some ys =>
    rw [e1] at e
    cases e2 : ints? ys with
    | none =>
      have e' : ((ints? ys).bind f) = some c := e
      rw [e2] at e'; cases e'
    | some ns =>
      have e' : ((ints? ys).bind f) = some c := e
      rw [e2] at e'
      exact ⟨ns, by rw [ints_of e2], e'⟩
theorem call_maxA (hc : X.calm = true) : CallR X (.builtin "max") (rN X.K X.mg maxA) := by
  intro pins s σ H xs us Q I r ⟨G, h, as, c, w, rs, e, q⟩
  unfold maxA at e
  split at e
  · cases e
    cases rs with | cons r1 t => cases t with | cons r2 t => cases t; cases r1; cases r2; exact call_max2 hc pins s σ H _ us Q I r ⟨_, _, rfl, q G H _ (.refl G) w (.int _)⟩
  · obtain ⟨ns, e1, e2⟩ := ints_args e
    split at e2
    · rename_i hn
      cases e2
      cases rs with
      | cons r1 t =>
        cases t
        obtain ⟨p, vs, rfl, rr, hq⟩ := r1.lstOf w e1
        have iv := rr.ints
        subst iv
        refine cr_max hc pins s σ H _ us Q I r ⟨p, ns, rfl, .inl (.inl hq), hn, fun m hm hle => ?_⟩
        have em : m = lmax ns := by
          cases ns with
          | nil => simp at hn
          | cons x r =>
            obtain ⟨h1, h2⟩ := lmax_spec x r
            have a1 := hle _ h1
            have a2 := h2 _ hm
            omega
        subst em
        exact q G H _ (.refl G) w (.int _)
    · cases e2
  · cases e
theorem call_minA (hc : X.calm = true) : CallR X (.builtin "min") (rN X.K X.mg minA) := by
  intro pins s σ H xs us Q I r ⟨G, h, as, c, w, rs, e, q⟩
  unfold minA at e
  split at e
  · cases e
    cases rs with | cons r1 t => cases t with | cons r2 t => cases t; cases r1; cases r2; exact call_min2 hc pins s σ H _ us Q I r ⟨_, _, rfl, q G H _ (.refl G) w (.int _)⟩
  · obtain ⟨ns, e1, e2⟩ := ints_args e
    split at e2
    · rename_i hn
      cases e2
      cases rs with
      | cons r1 t =>
        cases t
        obtain ⟨p, vs, rfl, rr, hq⟩ := r1.lstOf w e1
        have iv := rr.ints
        subst iv
        refine cr_min hc pins s σ H _ us Q I r ⟨p, ns, rfl, .inl (.inl hq), hn, fun m hm hle => ?_⟩
        have em : m = lmin ns := by
          cases ns with
          | nil => simp at hn
          | cons x r =>
            obtain ⟨h1, h2⟩ := lmin_spec x r
            have a1 := hle _ h1
            have a2 := h2 _ hm
            omega
        subst em
        exact q G H _ (.refl G) w (.int _)
    · cases e2
  · cases e
theorem call_sumA (hc : X.calm = true) : CallR X (.builtin "sum") (rN X.K X.mg sumA) := by
  intro pins s σ H xs us Q I r ⟨G, h, as, c, w, rs, e, q⟩
  unfold sumA at e
  split at e
  · obtain ⟨ns, e1, e2⟩ := ints_args (f := fun ns => some (AV.int ns.sum)) (by rw [← e]; congr 1; funext ys; cases ints? ys <;> rfl)
    cases e2
    cases rs with
    | cons r1 t =>
      cases t
      obtain ⟨p, vs, rfl, rr, hq⟩ := r1.lstOf w e1
      have iv := rr.ints
      subst iv
      exact cr_sum hc pins s σ H _ us Q I r ⟨p, ns, rfl, .inl (.inl hq), q G H _ (.refl G) w (.int _)⟩
  · cases e
/-- the bools that a list holds -/
def bls? : List AV → Option (List Bool)
  | [] => some []
  | .bl i :: xs => (bls? xs).map (i :: ·)
  | _ :: _ => none
theorem bls_of : ∀ {xs : List AV} {ns : List Bool}, bls? xs = some ns → xs = ns.map AV.bl
  | [], ns, e => by cases e; rfl
  | .bl i :: xs, ns, e => by
    unfold bls? at e
    cases e2 : bls? xs with
    | none => rw [e2] at e; cases e
    | some ms => rw [e2] at e; cases e; rw [bls_of e2]; rfl
  | .non :: _, _, e => by cases e
  | .int _ :: _, _, e => by cases e
  | .str _ :: _, _, e => by cases e
  | .ty _ :: _, _, e => by cases e
  | .tup _ :: _, _, e => by cases e
  | .lst _ :: _, _, e => by cases e
  | .dct _ :: _, _, e => by cases e
  | .obj _ _ :: _, _, e => by cases e
  | .scr _ :: _, _, e => by cases e
  | .cell _ :: _, _, e => by cases e
theorem bls_map : ∀ (ns : List Bool), bls? (ns.map AV.bl) = some ns
  | [] => rfl
  | n :: ns => by rw [List.map_cons, bls?, bls_map ns]; rfl
def anyA (h : Hs) (xs : List AV) : Option AV := match xs with
  | [x] => (lstOf h x).bind fun ys => (bls? ys).map fun ns => .bl (ns.any id)
  | _ => none
def allA (h : Hs) (xs : List AV) : Option AV := match xs with
  | [x] => (lstOf h x).bind fun ys => (bls? ys).map fun ns => .bl (ns.all id)
  | _ => none
theorem bls_args {h : Hs} {x : AV} {f : List Bool → AV} {c : AV} (e : ((lstOf h x).bind fun ys => (bls? ys).map f) = some c) : ∃ ns, lstOf h x = some (ns.map AV.bl) ∧ c = f ns := by
  cases e1 : lstOf h x with
  | none => rw [e1] at e; cases e
  | some ys =>
    rw [e1] at e
    cases e2 : bls? ys with
    | none =>
      have e' : ((bls? ys).map f) = some c := e
      rw [e2] at e'; cases e'
    | some ns =>
      have e' : ((bls? ys).map f) = some c := e
      rw [e2] at e'
      exact ⟨ns, by rw [bls_of e2], (Option.some.inj e').symm⟩
theorem call_anyA (hc : X.calm = true) : CallR X (.builtin "any") (rN X.K X.mg anyA) := by
  intro pins s σ H xs us Q I r ⟨G, h, as, c, w, rs, e, q⟩
  unfold anyA at e
  split at e
  · obtain ⟨ns, e1, rfl⟩ := bls_args e
    cases rs with
    | cons r1 t =>
      cases t
      obtain ⟨p, vs, rfl, rr, hq⟩ := r1.lstOf w e1
      have iv := rr.bls
      subst iv
      exact cr_any hc pins s σ H _ us Q I r ⟨p, ns, rfl, .inl (.inl hq), q G H _ (.refl G) w (.bl _)⟩
  · cases e
theorem call_allA (hc : X.calm = true) : CallR X (.builtin "all") (rN X.K X.mg allA) := by
  intro pins s σ H xs us Q I r ⟨G, h, as, c, w, rs, e, q⟩
  unfold allA at e
  split at e
  · obtain ⟨ns, e1, rfl⟩ := bls_args e
    cases rs with
    | cons r1 t =>
      cases t
      obtain ⟨p, vs, rfl, rr, hq⟩ := r1.lstOf w e1
      have iv := rr.bls
      subst iv
      exact cr_all hc pins s σ H _ us Q I r ⟨p, ns, rfl, .inl (.inl hq), q G H _ (.refl G) w (.bl _)⟩
  · cases e
/-- tuple(x) of a list or a tuple -/
def tupleA (h : Hs) (xs : List AV) : Option AV := match xs with
  | [x] => (seqOf h x).map .tup
  | _ => none
theorem call_tupleA : CallR X (.type "tuple") (rN X.K X.mg tupleA) := by
  intro pins s σ H xs us Q I r ⟨G, h, as, c, w, rs, e, q⟩
  unfold tupleA at e
  split at e
  · rename_i x
    cases e2 : seqOf h x with
    | none => rw [e2] at e; cases e
    | some ys =>
      rw [e2] at e
      cases e
      cases rs with
      | cons r1 t =>
        cases t
        obtain ⟨p, vs, rfl, rr, hq⟩ := r1.seq w e2
        refine call_tuple_of pins s σ H _ us Q I r ⟨p, vs, rfl, ?_⟩
        rcases hq with ⟨_, hq⟩ | ⟨_, hq⟩
        · exact .inl ⟨.inl (.inl hq), fun p2 hp2 => q (G.addF p2 _) _ _ (Gh.addF_le (w.freeF hp2)) (w.newF hp2) (.tup (.inl (.inl upd_same)) (rr.mono (Gh.addF_le (w.freeF hp2))))⟩
        · exact .inr ⟨sameT w.F hq, q G H _ (.refl G) w (.tup hq rr)⟩
  · cases e
end
end Sim

set_option Elab.async false
set_option linter.all false
set_option maxRecDepth 100000
set_option maxHeartbeats 2000000
namespace Sim
open PySem PySem.Spec L2
open PyProof.Rows hiding St
variable [TabT]

/-! ### methods of a list that may change -/
/-- what a method asks and does: the other arguments, what the list held -> the answer, what it holds -/
abbrev LM := Hs → List AV → List AV → Option (AV × List AV)
def rL (K : PySem.W.Frag) (mg : Str → Option Value) (g : LM) : V → List V → Hp → VK → Prop := fun x xs H Q => ∃ G h n ys as c zs, WI K mg G h H ∧ R K mg G (.cell n) x ∧ h[n]? = some (.lst ys) ∧ Rs K mg G as xs ∧ g h as ys = some (c, zs) ∧
  ∀ G' H' z, G.le G' → WI K mg G' (h.set n (.lst zs)) H' → R K mg G' c z → Q z H'
def updL (g : LM) (x : AV) (as : List AV) : M AV := fun h => match x with
  | .cell n => (match h[n]? with
    | some (.lst ys) => (match g h as ys with
      | some (c, zs) => .ok c (h.set n (.lst zs))
      | none => .bad)
    | _ => .bad)
  | _ => .bad
def chkL (x : AV) : M Unit := rd fun h => (lstOf h x).map fun _ => ()
def mLM (g : LM) (o : EM AV) (as : EM (List AV)) : EM AV := fun env => (o env).bnd fun x => (chkL x).bnd fun _ => (as env).bnd fun ys => updL g x ys
def mLM0 (g : LM) (o : EM AV) : EM AV := fun env => (o env).bnd fun x => updL g x []
theorem rd_bnd {X : Cx} {W : WX} {α β β' : Type} {RB : Gh → β → β' → Prop} {G : Gh} {σ : L2.St} {Q : β' → Hp → Prop} {g : Hs → Option α} {f : α → M β} {h : Hs} (p : post X W RB G σ Q (M.bnd (rd g) f h)) : ∃ c, g h = some c ∧ post X W RB G σ Q (f c h) := by
  have e : M.bnd (rd g) f h = (match g h with | some c => f c h | none => .bad) := by
    unfold M.bnd rd
    cases g h <;> rfl
  rw [e] at p
  cases e2 : g h with
  | none => rw [e2] at p; exact p.elim
  | some c => rw [e2] at p; exact ⟨c, rfl, p⟩
theorem updL_ok {g : LM} {x : AV} {as : List AV} {h : Hs} {X : Cx} {W : WX} {G : Gh} {σ : L2.St} {Q : VK} (p : post X W (R X.K X.mg) G σ Q (updL g x as h)) : ∃ n ys c zs, x = .cell n ∧ h[n]? = some (.lst ys) ∧ g h as ys = some (c, zs) ∧
    ∀ G' H' z, G.le G' → WI X.K X.mg G' (h.set n (.lst zs)) H' → R X.K X.mg G' c z → Q z H' := by
  unfold updL at p
  cases x with
  | cell n =>
    dsimp only at p
    cases e : h[n]? with
    | none => rw [e] at p; exact p.elim
    | some cc =>
      rw [e] at p
      cases cc with
      | lst ys =>
        dsimp only at p
        cases e2 : g h as ys with
        | none => rw [e2] at p; exact p.elim
        | some cz =>
          obtain ⟨c, zs⟩ := cz
          rw [e2] at p
          exact ⟨n, ys, c, zs, rfl, e, e2, p⟩
      | _ => exact p.elim
  | _ => exact p.elim
theorem R.cellL {K : PySem.W.Frag} {mg : Str → Option Value} {G : Gh} {h : Hs} {H : Hp} {n : Nat} {v : V} {ys : List AV} (w : WI K mg G h H) (r : R K mg G (.cell n) v) (e : h[n]? = some (.lst ys)) :
    ∃ a vs, v = .ref a ∧ G.mu n = some a ∧ G.F a = none ∧ G.Z a = none ∧ H a = some (.lst vs) ∧ Rs K mg G ys vs ∧ n < h.length := by
  cases r with
  | @cell _ a hm =>
    obtain ⟨b, vs, h1, h2, hz, h3, h4⟩ := w.cells n _ e
    rw [hm] at h1
    cases h1
    exact ⟨a, vs, rfl, hm, h2, hz, h3, h4, w.bnd n a hm⟩
/-- .. is written -/
theorem WI.putL {K : PySem.W.Frag} {mg : Str → Option Value} {G : Gh} {h : Hs} {H : Hp} {n : Nat} {a : Addr} {zs : List AV} {ws : List V} (w : WI K mg G h H) (hn : n < h.length) (e : G.mu n = some a) (hF : G.F a = none) (hZ : G.Z a = none) (r : Rs K mg G zs ws) : WI K mg G (h.set n (.lst zs)) (upd H a (.lst ws)) :=
  w.put hn e hF hZ ⟨a, ws, e, hF, hZ, upd_same, r⟩
section
variable {X : Cx} {W : WX} {k j : Nat}
variable {a b c e o : Expr} {m ma mb mo : EM AV} {pos apos cpos : Pos} {es : List Expr} {as : EM (List AV)}
theorem se_lm {name : Str} {nid : String} {g : LM} (pa : PlainAttrs "list") (slot : Slot "list" name nid) (hty : typeOf (.builtin nid) = pure (.type "method_descriptor")) (hm : MtR X nid (rL X.K X.mg g)) (ho : SE X W o mo) (ha : SA X W (e :: es) as)
    (hbase : attributeBase o name X.env (eval o X.env) = eval o X.env := by rfl)
    (hfew : ((backTo cpos (starEach (e :: es) X.env)).all (fun x => !x.1) && (backToKw cpos (keywordEach [] X.env)).all (fun x => x.1.isSome)
      && decide ((e :: es).length + ([] : List Keyword).length + (if ([] : List Keyword).isEmpty then 0 else 1) < 30)) = true := by rfl)
    (hline : (apos.endLine == cpos.line) = true := by rfl) (hs : starEach (e :: es) X.env = (false, eval e X.env) :: starEach es X.env := by rfl) (hplain : (backTo cpos (starEach es X.env)).any (·.1) = false := by rfl) :
    SE X W (.Call (.Attribute o name apos) (e :: es) [] cpos) (mLM g mo as) := by
  refine ⟨(pe_bm pa slot hty hm ho.pe ha.pa hbase hfew hline hs hplain).weak fun σ H Q ⟨G, h, env, w, re, p⟩ => ⟨G, h, env, w, re, post_bnd p fun x h1 G1 H1 xv l1 w1 rx p1 => ?_⟩⟩
  obtain ⟨u, e2, p1⟩ := rd_bnd p1
  cases e3 : lstOf h1 x with
  | none => rw [e3] at e2; cases e2
  | some ys =>
    obtain ⟨ad, vs, rfl, rs, hq⟩ := rx.lstOf w1 e3
    refine ⟨.inl ⟨rfl, vs, .inl (.inl hq)⟩, G1, h1, env, w1, re.mono l1, post_bnd p1 fun xs h3 G3 H3 ws l3 w3 rs3 p3 => ?_⟩
    obtain ⟨n, ys3, c, zs, rfl, e4, e5, q⟩ := updL_ok p3
    exact ⟨G3, h3, n, ys3, xs, c, zs, w3, rx.mono l3, e4, rs3, e5, q⟩
theorem se_lm0 {name : Str} {nid : String} {g : LM} (pa : PlainAttrs "list") (slot : Slot "list" name nid) (hty : typeOf (.builtin nid) = pure (.type "method_descriptor")) (hm : MtR X nid (rL X.K X.mg g)) (ho : SE X W o mo)
    (hbase : attributeBase o name X.env (eval o X.env) = eval o X.env := by rfl) (hline : (apos.endLine == cpos.line) = true := by rfl) :
    SE X W (.Call (.Attribute o name apos) [] [] cpos) (mLM0 g mo) := by
  refine ⟨(pe_bm0 pa slot hty hm ho.pe hbase hline).weak fun σ H Q ⟨G, h, env, w, re, p⟩ => ⟨G, h, env, w, re, post_bnd p fun x h1 G1 H1 xv l1 w1 rx p1 => ?_⟩⟩
  obtain ⟨n, ys, c, zs, rfl, e4, e5, q⟩ := updL_ok p1
  obtain ⟨ad, vs, rfl, hm2, hF, hZ, hq, rs, hn⟩ := R.cellL w1 rx e4
  exact ⟨.inl ⟨rfl, vs, .inl (.inl hq)⟩, G1, h1, n, ys, [], c, zs, w1, rx, e4, .nil, e5, q⟩
def appendA : LM := fun _ as ys => match as with
  | [y] => if ys.length < sizeLine then some (.non, ys ++ [y]) else none
  | _ => none
theorem mt_appendA : MtR X "list.append" (rL X.K X.mg appendA) := by
  intro pins s σ H x xs v us Q I rx rxs ⟨G, h, n, ys, as, c, zs, w, ra, e, rs, ge, q⟩
  unfold appendA at ge
  split at ge
  · rename_i y
    split at ge
    · rename_i hl
      cases ge
      obtain ⟨a, vs, rfl, hm, hF, hZ, hq, rr, hn⟩ := R.cellL w ra e
      cases rs with
      | cons r1 t =>
        cases t
        refine mt_append pins s σ H _ _ v us Q I rx rxs ⟨a, vs, _, rfl, rfl, hq, by rw [← rr.length]; exact hl, ?_⟩
        exact q G _ _ (.refl G) (w.putL hn hm hF hZ (Rs.append rr (.cons r1 .nil))) .non
    · cases ge
  · cases ge
def extendA : LM := fun h as ys => match as with
  | [y] => (lstOf h y).bind fun zs => if ys.length + zs.length ≤ sizeLine then some (.non, ys ++ zs) else none
  | _ => none
theorem mt_extendA : MtR X "list.extend" (rL X.K X.mg extendA) := by
  intro pins s σ H x xs v us Q I rx rxs ⟨G, h, n, ys, as, c, zs, w, ra, e, rs, ge, q⟩
  unfold extendA at ge
  split at ge
  · rename_i y
    cases e2 : lstOf h y with
    | none => rw [e2] at ge; cases ge
    | some ts =>
      rw [e2] at ge
      have ge' : (if ys.length + ts.length ≤ sizeLine then some (AV.non, ys ++ ts) else none) = some (c, zs) := ge
      split at ge'
      · rename_i hl
        cases ge'
        obtain ⟨a, vs, rfl, hm, hF, hZ, hq, rr, hn⟩ := R.cellL w ra e
        cases rs with
        | cons r1 t =>
          cases t
          obtain ⟨b, ws, rfl, rb, hqb⟩ := r1.lstOf w e2
          refine mt_extend pins s σ H _ _ v us Q I rx rxs ⟨a, b, vs, ws, rfl, rfl, hq, hqb, by rw [← rr.length, ← rb.length]; exact hl, ?_⟩
          exact q G _ _ (.refl G) (w.putL hn hm hF hZ (Rs.append rr rb)) .non
      · cases ge'
  · cases ge
def popA : LM := fun _ as ys => match as with
  | [] => (ys[ys.length - 1]?).map fun y => (y, ys.dropLast)
  | [.int i] => (ixN ys.length i).bind fun k => (ys[k]?).map fun y => (y, ys.eraseIdx k)
  | _ => none
theorem mt_popA : MtR X "list.pop" (rL X.K X.mg popA) := by
  intro pins s σ H x xs v us Q I rx rxs ⟨G, h, n, ys, as, c, zs, w, ra, e, rs, ge, q⟩
  obtain ⟨a, vs, rfl, hm, hF, hZ, hq, rr, hn⟩ := R.cellL w ra e
  unfold popA at ge
  split at ge
  · cases e2 : ys[ys.length - 1]? with
    | none => rw [e2] at ge; cases ge
    | some y =>
      rw [e2] at ge
      cases ge
      cases rs
      obtain ⟨yv, e3, ry⟩ := rr.get e2
      rw [rr.length] at e3
      refine mt_pop pins s σ H _ _ v us Q I rx rxs ⟨a, vs, yv, rfl, rfl, hq, e3, ?_⟩
      exact q G _ _ (.refl G) (w.putL hn hm hF hZ rr.dropLast) ry
  · rename_i i
    cases e1 : ixN ys.length i with
    | none => rw [e1] at ge; cases ge
    | some k =>
      rw [e1] at ge
      cases e2 : ys[k]? with
      | none =>
        have ge' : (ys[k]?).map (fun y => (y, ys.eraseIdx k)) = some (c, zs) := ge
        rw [e2] at ge'; cases ge'
      | some y =>
        have ge' : (ys[k]?).map (fun y => (y, ys.eraseIdx k)) = some (c, zs) := ge
        rw [e2] at ge'
        cases ge'
        cases rs with
        | cons r1 t =>
          cases t
          cases r1
          obtain ⟨yv, e3, ry⟩ := rr.get e2
          obtain ⟨g1, g2, g3, g4⟩ := ixN_seq e1
          have hz := (I.lstM hq).1
          have hlen := rr.length
          have hsl := sizeLine_eq
          refine mt_popAt pins s σ H _ _ v us Q I rx rxs ⟨a, vs, i, k, yv, rfl, rfl, hq, by omega, by omega, by rw [← rr.length]; exact g1, e3, ?_⟩
          exact q G _ _ (.refl G) (w.putL hn hm hF hZ (rr.eraseIdx k)) ry
  · cases ge
/-- xs[i] = v -/
def putIx (x i v : AV) (h : Hs) : Option Hs := match x, i with
  | .cell n, .int j => (match h[n]? with
    | some (.lst ys) => (ixN ys.length j).map fun k => h.set n (.lst (ys.set k v))
    | _ => none)
  | _, _ => none
def sPutIx (m mo mi : EM AV) : SM := sThen m fun v => sThen mo fun x => sThen mi fun i env h => match putIx x i v h with
  | some h' => .nx env h'
  | none => .bad
theorem ss_putIx {i : Expr} {mi : EM AV} (he : SE X W e m) (ho : SE X W o mo) (hi : SE X W i mi)
    (hs : swapsWithSole [.Subscript o i apos] e pos.line X.env = pure false := by rfl) (hw : swappedStores [.Subscript o i apos] e X.env = pure none := by rfl) (h1 : (assignEach [.Subscript o i apos] X.env).map (·.2) = [assign (.Subscript o i apos) X.env] := by rfl)
    (hp : ∀ (T : TSet) (to ti : TE), PE X o to → PE X i ti → PSet X T → PG X (.Subscript o i apos) (gSub to ti T) := by exact fun _ _ _ h1 h2 h3 => pg_sub h1 h2 h3) : SS X W (.Assign [.Subscript o i apos] e pos) (sPutIx m mo mi) := by
  refine ⟨(ps_asg he.pe (hp rSetL _ _ ho.pe hi.pe set_list) hs hw h1).weak fun D σ H ⟨G, h, env, w, re, p⟩ => ⟨G, h, env, w, re, postS_then re p fun a h1 G1 H1 z l1 w1 r1 re1 p1 => ?_⟩⟩
  refine ⟨G1, h1, env, w1, re1, postS_then re1 p1 fun x h2 G2 H2 xv l2 w2 rx re2 p2 => ?_⟩
  refine ⟨G2, h2, env, w2, re2, postS_then re2 p2 fun ix h3 G3 H3 iv l3 w3 ri re3 p3 => ?_⟩
  cases e4 : putIx x ix a h3 with
  | none => rw [e4] at p3; exact p3.elim
  | some h4 =>
    rw [e4] at p3
    unfold putIx at e4
    split at e4
    · rename_i n jj
      cases e5 : h3[n]? with
      | none => rw [e5] at e4; cases e4
      | some cc =>
        rw [e5] at e4
        cases cc with
        | lst ys =>
          dsimp only at e4
          cases e6 : ixN ys.length jj with
          | none => rw [e6] at e4; cases e4
          | some kk =>
            rw [e6] at e4
            cases e4
            obtain ⟨ad, vs, rfl, hm, hF, hZ, hq, rr, hn⟩ := R.cellL w3 (rx.mono l3) e5
            cases ri
            refine ⟨ad, vs, jj, kk, rfl, rfl, hq, by rw [← rr.length]; exact e6, ?_⟩
            exact p3 G3 _ _ (.refl G3) (w3.putL hn hm hF hZ (rr.set (r1.mono (l2.trans l3)) kk)) re3
        | _ => cases e4
    · cases e4
/-- x += e, ints -/
def sAug (i : Nat) (f : Int → Int → Int) (m : EM AV) : SM := fun env h => match env[i]? with
  | some (some (.int a)) => sThen m (fun v env h => match v with
    | .int b => .nx (env.set i (some (.int (f a b)))) h
    | _ => .bad) env h
  | _ => .bad
theorem ss_aug {i : Nat} {x : Str} {op : Operator} {f : Int → Int → Int} {pos' : Pos} (hN : X.N.Nodup) (hi : X.N[i]? = some x) (hx : Loc X.env.scope x) (he : SE X W e m) (ho : PIp X op (ipI f))
    (hf : X.fn x = true ∨ X.env.scope.names.lookup x = some .local := by first | exact .inl rfl | exact .inr rfl | assumption) : SS X W (.AugAssign (.Name x pos') op e pos) (sAug i f m) := by
  refine ⟨(ps_aug hN hi hx he.pe ho hf).weak fun D σ H ⟨G, h, env, w, re, p⟩ => ?_⟩
  unfold sAug at p
  split at p
  · rename_i av e1
    obtain ⟨v, e2, rv⟩ := re.get e1
    cases rv
    refine ⟨_, e2, G, h, env, w, re, postS_then re p fun b h1 G1 H1 z l1 w1 r1 re1 p1 => ?_⟩
    cases b with
    | int b =>
      cases r1
      exact ⟨_, _, rfl, rfl, p1 G1 H1 _ (.refl G1) w1 (re1.set (.int _) i)⟩
    | _ => exact p1.elim
  · exact p.elim

/-! ### what a for walks, further -/
def rngL (lo hi : Int) : List AV := (List.range (hi - lo).toNat).map fun (i : Nat) => .int (lo + i)
def inR (i : Int) : Bool := lg i 62
omit [TabT] in
theorem inR_of {i : Int} (h : inR i = true) : -(2 ^ 62) ≤ i ∧ i < 2 ^ 62 := ⟨Int.le_of_lt (lg_of (by decide) h).1, (lg_of (by decide) h).2⟩
def int? : AV → Option Int
  | .int j => some j
  | _ => none
def mRng1 (m : EM AV) : EM (List AV) := fun env => (m env).bnd fun x => rd fun _ => (int? x).bind fun j => if inR j = true then some (rngL 0 j) else none
def mRng2 (m m2 : EM AV) : EM (List AV) := fun env => (m env).bnd fun x => (m2 env).bnd fun y => rd fun _ => (int? x).bind fun i => (int? y).bind fun j => if inR i = true ∧ inR j = true then some (rngL i j) else none
theorem int_of {x : AV} {j : Int} (e : int? x = some j) : x = .int j := by
  unfold int? at e
  split at e
  · cases e; rfl
  · cases e
theorem rngL_length (lo hi : Int) : (rngL lo hi).length = (hi - lo).toNat := by
  unfold rngL
  rw [List.length_map, List.length_range]
theorem rng_iok {G : Gh} {lo hi : Int} : IOk X G (Itr lo (hi - lo).toNat) (rngL lo hi) := by
  intro G1 h1 H1 l w
  rw [rngL_length]
  refine ⟨Nat.le_refl _, fun i hi2 => ⟨hi2, fun x H2 y => ?_⟩⟩
  obtain ⟨rfl, rfl⟩ := y
  refine ⟨G1, .int (lo + i), .refl _, w, ?_, .int _⟩
  unfold rngL
  rw [List.getElem?_map, List.getElem?_range hi2]
  rfl
theorem postI {m : EM (List AV)} {σ : L2.St} {RR : It → Hp → Prop} {G : Gh} {h : Hs} {env : AEnv} (p : match m env h with
  | .ok xs h' => ∀ G' H' J, G.le G' → WI X.K X.mg G' h' H' → IOk X G' J xs → RR J H'
  | .exc c fs h' => ∀ G' H' cls d, G.le G' → WI X.K X.mg G' h' H' → XR X.K X.mg G' c fs cls d → W cls d σ H'
  | .bad => False) : post X W (fun G xs J => IOk X G J xs) G σ (fun J H => RR J H) (m env h) := by
  cases e : m env h with
  | ok xs h' => rw [e] at p; exact p
  | exc c fs h' => rw [e] at p; exact p
  | bad => rw [e] at p; exact p
theorem si_rng1 {tg : Expr} {p : Pos} (hm : X.mg "range" = none) (ha : SE X W a ma) (hg : Gl X "range" := by rfl) (hs : starEach [a] X.env = [(false, eval a X.env)] := by rfl) (hs2 : starEach [a] X.env = (false, eval a X.env) :: starEach [] X.env := by rfl) : SI X W tg (.Call (.Name "range" p) [a] [] pos) (mRng1 ma) := by
  refine ⟨(pi_range1 hg hm (pa_cons ha.pe pa_nil hs2) hs).weak fun σ H Q ⟨G, h, env, w, re, p⟩ => ⟨G, h, env, w, re, post_bnd (postI p) fun x h1 G1 H1 v l1 w1 rx p1 => ?_⟩⟩
  obtain ⟨c, e, q⟩ := post_rd p1
  cases e1 : int? x with
  | none => rw [e1] at e; cases e
  | some j =>
    rw [e1] at e
    have e' : (if inR j = true then some (rngL 0 j) else none) = some c := e
    split at e'
    · rename_i hj
      cases e'
      have := int_of e1
      subst this
      cases rx
      obtain ⟨b1, b2⟩ := inR_of hj
      refine ⟨j, rfl, b1, b2, q G1 H1 _ (.refl G1) w1 ?_⟩
      have q := rng_iok (X := X) (G := G1) (lo := 0) (hi := j)
      rw [Int.sub_zero] at q
      exact q
    · cases e'
theorem si_rng2 {tg : Expr} {p : Pos} (hm : X.mg "range" = none) (ha : SE X W a ma) (hb : SE X W b mb) (hg : Gl X "range" := by rfl) (hs : starEach [a, b] X.env = [(false, eval a X.env), (false, eval b X.env)] := by rfl) (hs2 : starEach [b] X.env = [(false, eval b X.env)] := by rfl)
    (h1 : starEach [a, b] X.env = (false, eval a X.env) :: starEach [b] X.env := by rfl) (h2 : starEach [b] X.env = (false, eval b X.env) :: starEach [] X.env := by rfl) : SI X W tg (.Call (.Name "range" p) [a, b] [] pos) (mRng2 ma mb) := by
  refine ⟨(pi_range2 hg hm (pa_cons ha.pe (pa_cons hb.pe pa_nil h2) h1) hs hs2).weak fun σ H Q ⟨G, h, env, w, re, p⟩ => ⟨G, h, env, w, re, post_bnd (postI p) fun x h1 G1 H1 v l1 w1 rx p1 => ⟨G1, h1, env, w1, re.mono l1, post_bnd p1 fun y h2 G2 H2 u l2 w2 ry p2 => ?_⟩⟩⟩
  obtain ⟨c, e, q⟩ := post_rd p2
  cases e1 : int? x with
  | none => rw [e1] at e; cases e
  | some i =>
    cases e2 : int? y with
    | none => rw [e1, e2] at e; cases e
    | some j =>
      rw [e1, e2] at e
      have e' : (if inR i = true ∧ inR j = true then some (rngL i j) else none) = some c := e
      split at e'
      · rename_i hj
        cases e'
        have := int_of e1
        subst this
        have := int_of e2
        subst this
        cases rx
        cases ry
        obtain ⟨b1, b2⟩ := inR_of hj.1
        obtain ⟨b3, b4⟩ := inR_of hj.2
        exact ⟨i, j, rfl, ⟨b1, b2, b3, b4⟩, q G2 H2 _ (.refl G2) w2 rng_iok⟩
      · cases e'
end
end Sim

set_option Elab.async false
set_option linter.all false
set_option maxRecDepth 100000
set_option maxHeartbeats 2000000
namespace L2
open PySem PySem.Spec PyProof.Rows
/-- the tuple at a as it stands at each turn, the items in new pairs -/
def IteT (K : PySem.W.Frag) (a : Addr) : It :=
  ⟨fun i H => ∃ (xs : List V) (x : V), SqT K H a xs ∧ xs[i]? = some x, fun i H v H' => ∃ T x, v = .ref T ∧ H T = none ∧ H' = upd H T (.tup [.int (i : Nat), x]) ∧ ∀ xs, SqT K H a xs → xs[i]? = some x, fun i H => ∃ xs : List V, SqT K H a xs ∧ xs.length ≤ i⟩
theorem isTup_isTuple {h : Heap} {a : Addr} {its : Array Value} (x : IsTup h a its) : h.IsTuple a its := by
  obtain ⟨o, e, c, n, d⟩ := x
  exact ⟨o, e, c, n, d⟩
theorem turn_enumT {P : Program} {w : World} {K : PySem.W.Frag} {elts : List Expr} {kk : Nat} {tpos : Pos} (a e it : Addr) :
    Turn P w K (.Tuple elts kk tpos) (IteT K a) [e, it] e (fun i h => (∃ old, IsEnum h e it ((i : Nat) : Int) old) ∧ h.IsTupleIter it a i ∧ e ≠ it ∧ a ≠ it ∧ a ≠ e) where
  mem := by simp
  obj := fun i h st b hb => by
    obtain ⟨⟨old, he⟩, ⟨o, ho, hc, hd⟩, _⟩ := st
    have e' : b = e ∨ b = it := by simpa using hb
    rcases e' with z | z
    · rw [z]; exact ⟨_, he, fun v q => nomatch q⟩
    · rw [z]; exact ⟨o, ho, fun v q => by rw [hd] at q; cases q⟩
  keep := fun i h h' st k => let ⟨⟨old, he⟩, hi, hne⟩ := st; ⟨⟨old, k e (by simp) _ he⟩, hi.at fun o q => k it (by simp) o q, hne⟩
  item := by
    intro X hP hw hK hc i pins s σ H E I hf st hg
    subst hP hw hK
    obtain ⟨⟨old, he⟩, hit, hne, hai, hae⟩ := st
    obtain ⟨xs, x, hq, hx⟩ := hg
    obtain ⟨its, rv, p, hz⟩ := I.tuple hq
    obtain ⟨u, hu, ru⟩ := rv.get hx
    have hel : e < s.heap.objs.size := Heap.lt_size he
    have hil : it < s.heap.objs.size := by obtain ⟨_, q, _⟩ := hit; exact Heap.lt_size q
    have hlt : i < its.toArray.size := by
      have := (List.getElem?_eq_some_iff.mp hu).1
      simpa using this
    have D : Draws X.prog X.w X.A.in1 it [it, a] its.toArray.size (fun i v => its.toArray[i]? = some v) (fun i h => h.IsTupleIter it a i ∧ h.IsTuple a its.toArray) := Draws.tuple (show X.A.in1.handled = none from I.ok.hd hc) it a hai its.toArray
    refine wpAny_pyNext_enum_itemD D he ⟨hit, isTup_isTuple p⟩ hlt hne (by simp only [List.mem_cons, List.not_mem_nil, or_false, not_or]; exact ⟨hne, Ne.symm hae⟩) fun x' h' tk hP ho hst hT hsz hk => ?_
    have hxu : x' = u := by
      have hP' : its[i]? = some x' := by simpa using hP
      rw [hu] at hP'
      exact (Option.some.inj hP').symm
    subst hxu
    refine ⟨_, rfl, wpAny_letOwnedTupleGo_enum (s := { s with heap := h', toks := tk + 1 }) ho fun h'' he' sb => ?_⟩
    have hT2 : h''.get? s.heap.objs.size = some { cls := .type "tuple", data := .seq #[.int i tk, x'] } := (sb.2 _ (Nat.ne_of_gt hel)).trans hT
    have new : ObjOk X.prog X.w (upd H s.heap.objs.size (.tup [.int (i : Nat), x])) h'' s.heap.objs.size (.tup [.int (i : Nat), x]) :=
      ⟨by show 2 ≤ sizeLine; decide, [.int i tk, x'], .cons ⟨_, rfl⟩ (.cons ru .nil), ⟨_, hT2, rfl, _, rfl⟩⟩
    have I1 : Inv X pins σ (upd H s.heap.objs.size (.tup [.int (i : Nat), x])) { s with heap := h'', toks := tk + 1 } :=
      I.turnedNew (ch := [e, it]) (fun b ob hb q => (sb.2 b (fun z => hb (by simp [z]))).trans (hk b ob (fun z => hb (by simp [z])) (fun z => hb (by simp [z])) q)) hf (Nat.le_refl _) new
    refine ⟨.ref s.heap.objs.size, _, I1, rfl, ⟨_, x, rfl, I.hok.fresh (Nat.le_refl _), rfl, fun ys hy => by rw [I.tuple_inj hy hq]; exact hx⟩, ⟨⟨x', ?_⟩, hst.1.at fun o q => (sb.2 it (Ne.symm hne)).trans q, hne, hai, hae⟩, fun b hb => ?_⟩
    · have e1 : ((i + 1 : Nat) : Int) = (i : Int) + 1 := by omega
      rw [e1]; exact he'
    · have hb' : b < s.heap.objs.size := by
        have e' : b = e ∨ b = it := by simpa using hb
        rcases e' with z | z
        · rw [z]; exact hel
        · rw [z]; exact hil
      rw [upd_ne (Nat.ne_of_lt hb')]
      exact (hf b hb).1
  done := by
    intro X hP hw hK hc i pins s σ H E I hf st hg
    subst hP hw hK
    obtain ⟨⟨old, he⟩, hit, hne, hai, hae⟩ := st
    obtain ⟨xs, hq, hx⟩ := hg
    obtain ⟨its, rv, p, hz⟩ := I.tuple hq
    obtain ⟨f0, f1, f2, f3, f4, f5⟩ := hf it (by simp)
    have hl := rv.length
    have hend : its.toArray[i]? = none := by simp; omega
    have hT : s.TypeIs (.ref e) "enumerate" := ⟨_, he, rfl⟩
    unfold pyNext
    refine wpAny_bind (wpAny_attempt (wpAny_callSpecial?_slot (name := Str.ofString "__next__") hT F.slot_enumerate_next
      (wpAny_call_entry F.slot_enumerate_next hT F.entry_enumerate_next ?_ (F.args_enumerate_next_1 _))))
    show wpAny _ _ (field (.ref e) 2 >>= _) _ _ _
    refine wpAny_bind (wpAny_field he rfl (x := .ref it) rfl ?_)
    refine wpAny_bind (wpAny_nextOf_tuple_end (show X.A.in1.handled = none from I.ok.hd hc) hit (isTup_isTuple p) hend fun h' x he' hx' => ?_)
    obtain ⟨o, ho, hc'⟩ := hx'
    refine wpAny_bind (wpAny_isInstance (T := "StopIteration") (b := true) ⟨o, ho, hc'⟩ isSubtype_stop ?_)
    exact wpAny_pure ⟨rfl, I.turned (t' := s.toks) (fun b o hb q => he' b o hb q) f0 f1 f3 f4 f5⟩
  self := fun A i s Q E st h => let ⟨⟨_, he⟩, _⟩ := st; wpAny_pyIter_enum he h
theorem meets_enumerate_newT (l : Addr) (items : Array Value) (n : Nat) (dct : Option Addr) (sl : Array (Option Value)) :
    Meets (Builtin.«enumerate.__new__» ⟨[.type "enumerate", .ref l], []⟩) (fun _ R s => s.heap.get? l = some { cls := .type "tuple", dict := dct, data := .seq items n, slots := sl } ∧
      R (.ok (.ret (.ref (s.heap.push { cls := .type "tuple_iterator", data := .fields #[.ref l, .int 0 0] }).objs.size)))
        { s with heap := (s.heap.push { cls := .type "tuple_iterator", data := .fields #[.ref l, .int 0 0] }).push { cls := .type "enumerate", data := .fields #[.none, .bool false, .ref s.heap.objs.size, rawInt 0, .none, .none] } }) :=
  .of_wp fun prog w A R s h => by
    obtain ⟨hp, g, d, tk, os⟩ := s; obtain ⟨hl, h⟩ := h
    have hsub := sub_enumerate
    have hL : Heap.IsTuple (Shared.heap ⟨hp, g, d, tk, os⟩) l items := ⟨_, hl, rfl, n, rfl⟩
    wp_walk using AutoSeq1.wpAny_loadPart' hl
    refine wpAny_stack_any fun st => wpAny_pure ?_
    split
    · rename_i c _ _ _ _ _
      cases (c == Value.type "enumerate")
      · wp_walk using AutoSeq1.wpAny_loadPart' hl, wpAny_pyIter_tuple hL
        exact ⟨_, rfl, h⟩
      · wp_walk using AutoSeq1.wpAny_loadPart' hl, wpAny_pyIter_tuple hL
        exact ⟨_, rfl, h⟩
    · wp_walk using AutoSeq1.wpAny_loadPart' hl, wpAny_pyIter_tuple hL
      exact ⟨_, rfl, h⟩
theorem call_enumerate_tuple {prog : Program} {w : World} {A : Around} {E : Value → Shared → Prop} {s : Shared} {l : Addr} {items : Array Value} {Q : Value → Shared → Prop} (hL : s.heap.IsTuple l items)
    (h : ∀ h', IsEnum h' (s.heap.objs.size + 1) s.heap.objs.size 0 .none → h'.IsTupleIter s.heap.objs.size l 0 → h'.objs.size = s.heap.objs.size + 2 →
      (∀ b o, s.heap.get? b = some o → h'.get? b = some o) → Q (.ref (s.heap.objs.size + 1)) { s with heap := h' }) :
    wpAny (model prog w) A (call (.type "enumerate") [.ref l]) Q E s := by
  obtain ⟨⟨c, dct, dt, sl⟩, hl, hc, n, hd⟩ := hL
  replace hc : c = .type "tuple" := hc
  replace hd : dt = .seq items n := hd
  subst hc hd
  refine callType_new F.called_enumerate (by decide) (F.typeCall_enumerate_1 _) (F.newCall_enumerate_1 _) (fun obj => F.args_object_init_2 obj _) F.entry_enumerate_new
    (meets_enumerate_newT l items n dct sl) ⟨hl, ?_⟩
  have hz : (s.heap.push { cls := .type "tuple_iterator", data := .fields #[.ref l, .int 0 0] }).objs.size = s.heap.objs.size + 1 := Heap.size_push ..
  show _ ∧ _
  rw [hz]
  have he : IsEnum ((s.heap.push { cls := .type "tuple_iterator", data := .fields #[.ref l, .int 0 0] }).push
      { cls := .type "enumerate", data := .fields #[.none, .bool false, .ref s.heap.objs.size, rawInt 0, .none, .none] }) (s.heap.objs.size + 1) s.heap.objs.size 0 .none := by
    have := Heap.get?_push_size (s.heap.push { cls := .type "tuple_iterator", data := .fields #[.ref l, .int 0 0] })
      (o := { cls := .type "enumerate", data := .fields #[.none, .bool false, .ref s.heap.objs.size, rawInt 0, .none, .none] }) rfl
    rw [hz] at this; exact this
  refine ⟨⟨_, he, rfl⟩, h _ he ⟨_, Heap.get?_push_of_some _ (Heap.get?_push_size _ rfl), rfl, rfl⟩ (by rw [Heap.size_push, hz]) fun b o x => Heap.get?_push_of_some _ (Heap.get?_push_of_some _ x)⟩
def iEnumT (K : PySem.W.Frag) (ta : TA) : TI := fun σ H R => ta σ H fun vs H1 => ∃ a xs, vs = [.ref a] ∧ SqT K H1 a xs ∧ R (IteT K a) H1
theorem pi_enumT {X : Cx} {e : Expr} {ta : TA} {p pos tpos : Pos} {elts : List Expr} {kk : Nat} (hg : Gl X "enumerate") (hm : X.mg "enumerate" = none) (ha : PA X [e] ta) (hs : starEach [e] X.env = [(false, eval e X.env)] := by rfl) :
    PI X (.Tuple elts kk tpos) (.Call (.Name "enumerate" p) [e] [] pos) (iEnumT X.K ta) := by
  refine ⟨fun pins s σ H R I h => ?_⟩
  refine Call_ (ld_blt I hg hm boot_enumerate (PyProof.Rows.callWith_type1 (thn (ha.run pos pins s σ H _ I h) fun us s1 ⟨vs, H1, I1, r1, q1⟩ => ?_) hs rfl))
  obtain ⟨a, xs, ex, hq, q⟩ := q1
  subst ex
  cases r1 with
  | cons r rr =>
    cases rr
    cases r
    obtain ⟨its, rv, p', hz⟩ := I1.tuple hq
    have hal : a < s1.heap.objs.size := p'.lt
    refine call_enumerate_tuple (isTup_isTuple p') fun h' he hit hsz hk => wpAny_pyIter_enum he ?_
    have I2 : L2.Inv X pins σ H1 { s1 with heap := h' } := I1.kept (t' := s1.toks) hk
    refine ⟨s1.heap.objs.size + 1, [s1.heap.objs.size + 1, s1.heap.objs.size], _, _, H1, rfl, I2, turn_enumT a (s1.heap.objs.size + 1) s1.heap.objs.size, ⟨⟨.none, he⟩, hit, Nat.succ_ne_self _, Nat.ne_of_lt hal, Nat.ne_of_lt (Nat.lt_succ_of_lt hal)⟩, fun b hb => ?_, q⟩
    have e' : b = s1.heap.objs.size + 1 ∨ b = s1.heap.objs.size := by simpa using hb
    have hle : s1.heap.objs.size ≤ b := by
      rcases e' with z | z
      · rw [z]; exact Nat.le_add_right _ _
      · rw [z]; exact Nat.le_refl _
    exact I1.fpOk hle (I1.hok.fresh hle)
end L2
namespace Sim
open PySem PySem.Spec L2
open PyProof.Rows hiding St
variable [TabT]
/-! ### enumerate, zip -/
def enumL (i : Nat) : List AV → List AV
  | [] => []
  | x :: xs => .tup [.int (i : Nat), x] :: enumL (i + 1) xs
theorem enumL_length : ∀ (xs : List AV) (i : Nat), (enumL i xs).length = xs.length
  | [], _ => rfl
  | _ :: xs, i => by unfold enumL; rw [List.length_cons, List.length_cons, enumL_length xs]
theorem enumL_get : ∀ (xs : List AV) (i j : Nat) (x : AV), xs[j]? = some x → (enumL i xs)[j]? = some (.tup [.int ((i + j : Nat) : Int), x])
  | [], _, _, _, e => by simp at e
  | y :: xs, i, 0, x, e => by simp at e; subst e; rfl
  | y :: xs, i, j + 1, x, e => by
    have e2 : xs[j]? = some x := by simpa using e
    have h := enumL_get xs (i + 1) j x e2
    unfold enumL
    rw [List.getElem?_cons_succ, h]
    have : i + 1 + j = i + (j + 1) := by omega
    rw [this]
/-- a list or a tuple that never changes -/
def seqF : AV → Option (List AV)
  | .lst xs => some xs
  | .tup xs => some xs
  | _ => none
def mEnum (m : EM AV) : EM (List AV) := fun env => (m env).bnd fun x => rd fun _ => (seqF x).map (enumL 0)
section
variable {X : Cx} {W : WX} {k j : Nat}
variable {a b c e : Expr} {m ma mb : EM AV} {pos : Pos}
theorem pair_new {G : Gh} {h : Hs} {H : Hp} {T : Addr} {x y : V} {ax ay : AV} (w : WI X.K X.mg G h H) (e : H T = none) (rx : R X.K X.mg G ax x) (ry : R X.K X.mg G ay y) : ∃ G2, G.le G2 ∧ WI X.K X.mg G2 h (upd H T (.tup [x, y])) ∧ R X.K X.mg G2 (.tup [ax, ay]) (.ref T) :=
  ⟨G.addF T (.tup [x, y]), Gh.addF_le (w.freeF e), w.newF e, .tup (.inl (.inl upd_same)) (.cons (rx.mono (Gh.addF_le (w.freeF e))) (.cons (ry.mono (Gh.addF_le (w.freeF e))) .nil))⟩
theorem enum_iokL {G : Gh} {a : Addr} {vs : List V} {xs : List AV} (hF : G.F a = some (.lst vs)) (r : Rs X.K X.mg G xs vs) : IOk X G (Ite X.K a) (enumL 0 xs) := by
  intro G1 h1 H1 l w
  have hq : SqL X.K H1 a vs := .inl (.inl (w.F _ _ (l.F _ _ hF)))
  have hl := r.length
  rw [enumL_length]
  refine ⟨⟨vs, hq, by omega⟩, fun i hi => ⟨⟨vs, vs[i]'(by omega), hq, by simp [show i < vs.length by omega]⟩, fun x H2 y => ?_⟩⟩
  obtain ⟨T, u, rfl, nT, rfl, hu⟩ := y
  obtain ⟨av, e2, ra⟩ := r.getV (hu vs hq)
  obtain ⟨G2, l2, w2, r2⟩ := pair_new w nT (.int (i : Nat)) (ra.monoL l)
  refine ⟨G2, _, l2, w2, ?_, r2⟩
  rw [enumL_get xs 0 i av e2, Nat.zero_add]
theorem enum_iokT {G : Gh} {a : Addr} {vs : List V} {xs : List AV} (hF : SqT X.K G.F a vs) (r : Rs X.K X.mg G xs vs) : IOk X G (IteT X.K a) (enumL 0 xs) := by
  intro G1 h1 H1 l w
  have hq : SqT X.K H1 a vs := sameT w.F (sameT l.F hF)
  have hl := r.length
  rw [enumL_length]
  refine ⟨⟨vs, hq, by omega⟩, fun i hi => ⟨⟨vs, vs[i]'(by omega), hq, by simp [show i < vs.length by omega]⟩, fun x H2 y => ?_⟩⟩
  obtain ⟨T, u, rfl, nT, rfl, hu⟩ := y
  obtain ⟨av, e2, ra⟩ := r.getV (hu vs hq)
  obtain ⟨G2, l2, w2, r2⟩ := pair_new w nT (.int (i : Nat)) (ra.monoL l)
  refine ⟨G2, _, l2, w2, ?_, r2⟩
  rw [enumL_get xs 0 i av e2, Nat.zero_add]
/-- the first value decides: one of two walks -/
theorem si_enum {elts : List Expr} {kk : Nat} {tpos p : Pos} (hm : X.mg "enumerate" = none) (he : SE X W e m) (hg : Gl X "enumerate" := by rfl) (hs : starEach [e] X.env = [(false, eval e X.env)] := by rfl) (hs2 : starEach [e] X.env = (false, eval e X.env) :: starEach [] X.env := by rfl) :
    SI X W (.Tuple elts kk tpos) (.Call (.Name "enumerate" p) [e] [] pos) (mEnum m) := by
  refine ⟨(L2.PI.orS (pi_enum hg hm (pa_cons he.pe pa_nil hs2) hs) (pi_enumT hg hm (pa_cons he.pe pa_nil hs2) hs)).weak fun σ H Q ⟨G, h, env, w, re, p⟩ => ?_⟩
  have key : ∀ {x : AV} {h1 : Hs}, m env h = .ok x h1 → ∃ xs, seqF x = some xs ∧ ∀ G' H' J, G.le G' → WI X.K X.mg G' h1 H' → IOk X G' J (enumL 0 xs) → Q J H' := fun {x h1} e1 => by
    have p2 := postI p
    unfold mEnum M.bnd at p2
    rw [e1] at p2
    obtain ⟨c, e2, q⟩ := post_rd p2
    cases e3 : seqF x with
    | none => rw [e3] at e2; cases e2
    | some xs => rw [e3] at e2; cases e2; exact ⟨xs, rfl, q⟩
  have gen : ∀ (Q' : V → Hp → Prop), (∀ x h1 G1 H1 v, m env h = .ok x h1 → G.le G1 → WI X.K X.mg G1 h1 H1 → R X.K X.mg G1 x v → Q' v H1) → tSE X W m σ H Q' := fun Q' hq => by
    refine ⟨G, h, env, w, re, ?_⟩
    have p2 := postI p
    unfold mEnum M.bnd at p2
    cases e1 : m env h with
    | bad => rw [e1] at p2; exact p2
    | exc c fs h1 => rw [e1] at p2; exact p2
    | ok x h1 => exact fun G1 H1 v l1 w1 r1 => hq x h1 G1 H1 v e1 l1 w1 r1
  by_cases ht : ∃ xs h1, m env h = .ok (.tup xs) h1
  · obtain ⟨xs0, h0, e0⟩ := ht
    refine .inr (gen _ fun x h1 G1 H1 v e1 l1 w1 r1 => ?_)
    obtain ⟨xs, e2, q⟩ := key e1
    rw [e0] at e1
    cases e1
    cases e2
    cases r1 with
    | @tup _ a vs ha rs => exact ⟨a, vs, rfl, sameT w1.F ha, q G1 H1 _ l1 w1 (enum_iokT ha rs)⟩
  · refine .inl (gen _ fun x h1 G1 H1 v e1 l1 w1 r1 => ?_)
    obtain ⟨xs, e2, q⟩ := key e1
    cases x with
    | tup ys => exact absurd ⟨ys, h1, e1⟩ ht
    | lst ys =>
      cases e2
      cases r1 with
      | @lst _ a vs ha rs => exact ⟨a, vs, rfl, .inl (.inl (w1.F _ _ ha)), q G1 H1 _ l1 w1 (enum_iokL ha rs)⟩
    | _ => cases e2

/-! ### isinstance of built-in types -/
def tyOf (h : Hs) (x : AV) : Option String := match der h x with
  | .non => some "NoneType"
  | .bl _ => some "bool"
  | .int _ => some "int"
  | .str _ => some "str"
  | .tup _ => some "tuple"
  | .lst _ => some "list"
  | _ => none
def isTy (a b : String) : Bool := a == b || (a == "bool" && b == "int")
def known (b : String) : Bool := b == "int" || b == "bool" || b == "tuple" || b == "list" || b == "str" || b == "dict"
def tys? : List AV → Option (List String)
  | [] => some []
  | .ty n :: r => if known n then (tys? r).map (n :: ·) else none
  | _ => none
def isiA (h : Hs) (xs : List AV) : Option AV := match xs with
  | [x, .ty b] => (tyOf h x).bind fun a => if known b then some (.bl (isTy a b)) else none
  | [x, .tup cs] => (tyOf h x).bind fun a => (tys? cs).map fun bs => .bl (bs.any (isTy a))
  | _ => none
theorem kitT (a b : String) (ha : a ∈ ["NoneType", "bool", "int", "str", "tuple", "list", "dict"]) (hb : known b = true) : kitB a b = some (isTy a b) := by
  have hb2 : b ∈ ["int", "bool", "tuple", "list", "str", "dict"] := by
    unfold known at hb
    simp only [Bool.or_eq_true, beq_iff_eq] at hb
    simp only [List.mem_cons, List.not_mem_nil, or_false]
    rcases hb with ((((h | h) | h) | h) | h) | h <;> simp [h]
  revert a b
  have : ∀ a ∈ ["NoneType", "bool", "int", "str", "tuple", "list", "dict"], ∀ b ∈ ["int", "bool", "tuple", "list", "str", "dict"], kitB a b = some (isTy a b) := by decide +kernel
  exact fun a b ha _ hb2 => this a ha b hb2
theorem R.tyx {G : Gh} {h : Hs} {H : Hp} {x : AV} {v : V} {t : String} (w : WI X.K X.mg G h H) (r : R X.K X.mg G x v) (e : tyOf h x = some t) : TyX X.K H v (.type t) ∧ t ∈ ["NoneType", "bool", "int", "str", "tuple", "list", "dict"] := by
  have tupX : ∀ {a : Addr} {vs : List V}, SqT X.K G.F a vs → TyX X.K H (.ref a) (.type "tuple") := fun {a vs} hq => by
    rcases sameT w.F hq with (q | ⟨o, q⟩) | ⟨o, its, n, q, c, _⟩
    · exact .base (.tup q)
    · exact .fTuple q
    · exact .kTuple q c
  have dK : ∀ {a : Addr} {o : Obj} {kvs : List (Key × V)}, G.F a = some (.frz o (.dK kvs)) → TyX X.K H (.ref a) (.type "dict") := fun {a o kvs} hq => .fDict (w.F _ _ hq)
  unfold tyOf at e
  cases r with
  | non => cases e; exact ⟨.base .non, by simp⟩
  | bl b => cases e; exact ⟨.base (.bl b), by simp⟩
  | int b => cases e; exact ⟨.base (.int b), by simp⟩
  | str b => cases e; exact ⟨.base (.str b), by simp⟩
  | ty b => cases e
  | @tup xs a vs ha rs => cases e; exact ⟨tupX ha, by simp⟩
  | @lst xs a vs ha rs => cases e; exact ⟨.base (.lst (w.F _ _ ha)), by simp⟩
  | obj _ _ _ => cases e
  | dctK _ _ => cases e
  | dctT _ _ => cases e
  | scr _ => cases e
  | @cell n a hm =>
    have eq : Sim.der h (.cell n) = (match h[n]? with | some (.lst xs) => .lst xs | some (.frz v) => v | _ => .cell n) := rfl
    rw [eq] at e
    cases hn : h[n]? with
    | none => rw [hn] at e; cases e
    | some c =>
      rw [hn] at e
      cases c with
      | lst ys =>
        cases e
        obtain ⟨b, vs, h1, h2, hz, h3, h4⟩ := w.cells n _ hn
        rw [hm] at h1
        cases h1
        exact ⟨.base (.lst h3), by simp⟩
      | frz u =>
        obtain ⟨b, o, h1, h2, h3⟩ := w.cells n _ hn
        rw [hm] at h1
        cases h1
        dsimp only at e
        cases u with
        | tup ys => cases e; cases h3 with | @tup _ _ vs ha rs => exact ⟨tupX ha, by simp⟩
        | lst ys => cases e; cases h3 with | @lst _ _ vs ha rs => exact ⟨.base (.lst (w.F _ _ ha)), by simp⟩
        | non => cases h3
        | bl _ => cases h3
        | int _ => cases h3
        | str _ => cases h3
        | ty _ => cases h3
        | _ => cases e
      | dct kvs => cases e
      | ins c fs => cases e
theorem kitAny_of {K : PySem.W.Frag} {a : String} (ha : a ∈ ["NoneType", "bool", "int", "str", "tuple", "list", "dict"]) : ∀ {cs : List AV} {bs : List String}, tys? cs = some bs → PySem.W.kitAny K (.type a) (bs.map Value.type) = some (bs.any (isTy a))
  | [], bs, e => by cases e; rfl
  | .ty n :: r, bs, e => by
    unfold tys? at e
    split at e
    · rename_i hk
      cases e2 : tys? r with
      | none => rw [e2] at e; cases e
      | some b2 =>
        rw [e2] at e
        cases e
        have h1 : PySem.W.kitOne K (.type a) (.type n) = some (isTy a n) := kit_ty (kitT a n ha hk)
        exact kitAny_cons h1 (fun hf => by rw [kitAny_of ha e2, List.any_cons, hf, Bool.false_or]) (fun ht => by rw [List.any_cons, ht, Bool.true_or])
    · cases e
  | .non :: _, _, e => by cases e
  | .bl _ :: _, _, e => by cases e
  | .str _ :: _, _, e => by cases e
  | .int _ :: _, _, e => by cases e
  | .tup _ :: _, _, e => by cases e
  | .lst _ :: _, _, e => by cases e
  | .dct _ :: _, _, e => by cases e
  | .obj _ _ :: _, _, e => by cases e
  | .scr _ :: _, _, e => by cases e
  | .cell _ :: _, _, e => by cases e
theorem Rs.tys {G : Gh} : ∀ {cs : List AV} {bs : List String} {vs : List V}, tys? cs = some bs → Rs X.K X.mg G cs vs → vs = bs.map V.ty ∧ Paired ClsV vs (bs.map Value.type)
  | [], bs, _, e, .nil => by cases e; exact ⟨rfl, .nil⟩
  | .ty n :: r, bs, _, e, .cons r1 t => by
    unfold tys? at e
    split at e
    · cases e2 : tys? r with
      | none => rw [e2] at e; cases e
      | some b2 =>
        rw [e2] at e
        cases e
        obtain ⟨h1, h2⟩ := Rs.tys e2 t
        cases r1
        exact ⟨by rw [h1]; rfl, .cons (.ty n) h2⟩
    · cases e
  | .non :: _, _, _, e, _ => by cases e
  | .bl _ :: _, _, _, e, _ => by cases e
  | .str _ :: _, _, _, e, _ => by cases e
  | .int _ :: _, _, _, e, _ => by cases e
  | .tup _ :: _, _, _, e, _ => by cases e
  | .lst _ :: _, _, _, e, _ => by cases e
  | .dct _ :: _, _, _, e, _ => by cases e
  | .obj _ _ :: _, _, _, e, _ => by cases e
  | .scr _ :: _, _, _, e, _ => by cases e
  | .cell _ :: _, _, _, e, _ => by cases e
/-- a tuple just made, not of the written part -/
theorem call_isiTG : CallR X (.builtin "isinstance") (fun xs H Q => ∃ (x : V) (tp : Addr) (cs : List V) (t : Value) (us : List Value) (b : Bool), xs = [x, .ref tp] ∧ SqT X.K H tp cs ∧ Paired ClsV cs us ∧ TyX X.K H x t ∧ PySem.W.kitAny X.K t us = some b ∧ Q (.bl b) H) := by
  intro pins s σ H xs us Q I r ⟨x, tp, cs, t, ws, b, ex, hS, k, ty, e, q⟩
  subst ex
  obtain ⟨u1, u2, rfl, r1, r2⟩ := vals2 r
  cases (show u2 = Value.ref tp from r2)
  obtain ⟨P, Z, p, hx⟩ := kit_of I r1 ty
  obtain ⟨its, rv, ⟨o, h1, h2, n, h3⟩, _⟩ := I.tuple hS
  have e3 := ClsV.all k rv
  subst e3
  obtain ⟨oc, od, dt, sl⟩ := o
  simp only at h2 h3
  subst h2 h3
  exact PySem.W.kia_tup Z I.kIn p h1 e hx fun tk => ⟨.bl b, H, I.tok tk, rfl, q⟩
theorem call_isiA : CallR X (.builtin "isinstance") (rN X.K X.mg isiA) := by
  intro pins s σ H xs us Q I r ⟨G, h, as, c, w, rs, e, q⟩
  unfold isiA at e
  split at e
  · rename_i x b
    cases rs with
    | cons rx t =>
      cases t with
      | cons rb t =>
        cases t
        cases rb
        cases e1 : tyOf h x with
        | none => rw [e1] at e; cases e
        | some a =>
          rw [e1] at e
          have e' : (if known b = true then some (AV.bl (isTy a b)) else none) = some c := e
          split at e'
          · rename_i hk
            cases e'
            obtain ⟨t1, t2⟩ := rx.tyx w e1
            exact call_isi pins s σ H _ us Q I r ⟨_, _, _, _, _, rfl, .ty b, t1, kit_ty (kitT a b t2 hk), q G H _ (.refl G) w (.bl _)⟩
          · cases e'
  · rename_i x cs
    cases rs with
    | cons rx t =>
      cases t with
      | cons rb t =>
        cases t
        cases rb with
        | @tup _ tp vs ha rr =>
          cases e1 : tyOf h x with
          | none => rw [e1] at e; cases e
          | some a =>
            rw [e1] at e
            cases e2 : tys? cs with
            | none => rw [e2] at e; cases e
            | some bs =>
              rw [e2] at e
              have e' : c = .bl (bs.any (isTy a)) := (Option.some.inj e).symm
              subst e'
              obtain ⟨t1, t2⟩ := rx.tyx w e1
              obtain ⟨v1, v2⟩ := Rs.tys e2 rr
              exact call_isiTG pins s σ H _ us Q I r ⟨_, tp, vs, _, _, _, rfl, sameT w.F ha, v2, t1, kitAny_of t2 e2, q G H _ (.refl G) w (.bl _)⟩
  · cases e
/-- a built-in type's name -/
theorem se_tyn {x : Str} {T : String} (hm : X.mg x = none) (hv : bootBuiltins x = some (.type T)) (hg : Gl X x := by rfl) (hn : x ≠ "__name__" := by decide) (hd : (x == ("__debug__" : Str)) = false := by decide) : SE X W (.Name x pos) (mC (.ty T)) :=
  se_c (pe_bltn (v := .ty T) hg hm hv rfl hn hd) fun _ => .ty T

/-! ### x.bit_length() -/
def bitsA (_ : Hs) (x : AV) : Option AV := (int? x).map fun i => .int (Builtin.Int.intBits i : Nat)
theorem se_bits {o : Expr} {apos : Pos} (ho : SE X W o m) (hbase : attributeBase o "bit_length" X.env (eval o X.env) = eval o X.env := by rfl) (hline : (apos.endLine == pos.line) = true := by rfl) : SE X W (.Call (.Attribute o "bit_length" apos) [] [] pos) (m1 bitsA m) := by
  refine ⟨(pe_bits ho.pe hbase hline).weak fun σ H Q ⟨G, h, env, w, re, p⟩ => ⟨G, h, env, w, re, post_bnd p fun a h1 G1 H1 x l1 w1 ra p1 => ?_⟩⟩
  obtain ⟨c, e, q⟩ := post_rd p1
  unfold bitsA at e
  cases e1 : int? a with
  | none => rw [e1] at e; cases e
  | some i =>
    rw [e1] at e
    cases e
    have := int_of e1
    subst this
    cases ra
    exact ⟨i, rfl, q G1 H1 _ (.refl G1) w1 (.int _)⟩

/-! ### functions that make a new list -/
def rF (K : PySem.W.Frag) (mg : Str → Option Value) (g : Hs → List AV → Option (List AV)) : List V → Hp → VK → Prop := fun vs H Q => ∃ G h as xs, WI K mg G h H ∧ Rs K mg G as vs ∧ g h as = some xs ∧
  ∀ G' H' p ws, G.le G' → WI K mg G' h H' → H' p = none → Rs K mg G' xs ws → Q (.ref p) (upd H' p (.lst ws))
def mNL (g : Hs → List AV → Option (List AV)) (as : EM (List AV)) : EM (List AV) := fun env => (as env).bnd fun x => rd fun h => g h x
variable {es : List Expr} {as : EM (List AV)}
theorem postSF {m : EM (List AV)} {σ : L2.St} {Q : VK} {G : Gh} {h : Hs} {env : AEnv} (p : match m env h with
  | .ok xs h' => ∀ G' H' p vs, G.le G' → WI X.K X.mg G' h' H' → H' p = none → Rs X.K X.mg G' xs vs → Q (.ref p) (upd H' p (.lst vs))
  | .exc c fs h' => ∀ G' H' cls d, G.le G' → WI X.K X.mg G' h' H' → XR X.K X.mg G' c fs cls d → W cls d σ H'
  | .bad => False) : post X W (Rs X.K X.mg) G σ (fun vs H => ∀ p, H p = none → Q (.ref p) (upd H p (.lst vs))) (m env h) := by
  cases e : m env h with
  | ok xs h' => rw [e] at p; exact fun G' H' vs l w r a ha => p G' H' a vs l w ha r
  | exc c fs h' => rw [e] at p; exact p
  | bad => rw [e] at p; exact p
theorem sf_callB {x : Str} {p : Pos} {id : String} {g : Hs → List AV → Option (List AV)} (hc : CallR X (.builtin id) (rF X.K X.mg g)) (hm : X.mg x = none) (hv : bootBuiltins x = some (.builtin id)) (ha : SA X W (e :: es) as) (hg : Gl X x := by rfl)
    (hn : x ≠ "__name__" := by decide) (hdb : (x == ("__debug__" : Str)) = false := by decide) (he : starEach (e :: es) X.env = (false, eval e X.env) :: starEach es X.env := by rfl) (hpl : (backTo pos (starEach es X.env)).any (·.1) = false := by rfl) :
    SF X W (.Call (.Name x p) (e :: es) [] pos) (mNL g as) := by
  refine ⟨(pe_callB hc hg hm hv ha.pa hn hdb he hpl).weak fun σ H Q ⟨G, h, env, w, re, p⟩ => ⟨G, h, env, w, re, post_bnd (postSF p) fun xs h1 G1 H1 vs l1 w1 rs p1 => ?_⟩⟩
  obtain ⟨c, e, q⟩ := post_rd p1
  exact ⟨G1, h1, xs, c, w1, rs, e, fun G' H' p ws l w ha r => q G' H' ws l w r p ha⟩
theorem sf_callTy {x : Str} {p : Pos} {T : String} {g : Hs → List AV → Option (List AV)} (hc : CallR X (.type T) (rF X.K X.mg g)) (hm : X.mg x = none) (hv : bootBuiltins x = some (.type T)) (ha : SA X W (e :: es) as) (hg : Gl X x := by rfl)
    (hn : x ≠ "__name__" := by decide) (hdb : (x == ("__debug__" : Str)) = false := by decide) (he : starEach (e :: es) X.env = (false, eval e X.env) :: starEach es X.env := by rfl) (hpl : (backTo pos (starEach es X.env)).any (·.1) = false := by rfl) :
    SF X W (.Call (.Name x p) (e :: es) [] pos) (mNL g as) := by
  refine ⟨(pe_callTy hc hg hm hv ha.pa hn hdb he hpl).weak fun σ H Q ⟨G, h, env, w, re, p⟩ => ⟨G, h, env, w, re, post_bnd (postSF p) fun xs h1 G1 H1 vs l1 w1 rs p1 => ?_⟩⟩
  obtain ⟨c, e, q⟩ := post_rd p1
  exact ⟨G1, h1, xs, c, w1, rs, e, fun G' H' p ws l w ha r => q G' H' ws l w r p ha⟩
def listA (h : Hs) (xs : List AV) : Option (List AV) := match xs with
  | [x] => seqOf h x
  | _ => none
theorem call_listA : CallR X (.type "list") (rF X.K X.mg listA) := by
  intro pins s σ H xs us Q I r ⟨G, h, as, c, w, rs, e, q⟩
  unfold listA at e
  split at e
  · cases rs with
    | cons r1 t =>
      cases t
      obtain ⟨p, vs, rfl, rr, hq⟩ := r1.seq w e
      exact call_list_of pins s σ H _ us Q I r ⟨p, vs, rfl, hq.imp (fun z => .inl (.inl z.2)) (fun z => sameT w.F z.2), fun l hl => q G H l vs (.refl G) w hl rr⟩
  · cases e
def rgOk (a b : Int) : Bool := inR a && inR b && decide ((b - a).toNat ≤ 2 ^ 24)
def mListRg1 (m : EM AV) : EM (List AV) := fun env => (m env).bnd fun x => rd fun _ => (int? x).bind fun j => if rgOk 0 j = true then some (rngL 0 j) else none
def mListRg2 (m m2 : EM AV) : EM (List AV) := fun env => (m env).bnd fun x => (m2 env).bnd fun y => rd fun _ => (int? x).bind fun i => (int? y).bind fun j => if rgOk i j = true then some (rngL i j) else none
theorem rgOk_of {a b : Int} (h : rgOk a b = true) : RgOk a b := by
  unfold rgOk at h
  rw [Bool.and_eq_true, Bool.and_eq_true] at h
  obtain ⟨⟨h1, h2⟩, h3⟩ := h
  obtain ⟨a1, a2⟩ := inR_of h1
  obtain ⟨b1, b2⟩ := inR_of h2
  exact ⟨a1, a2, b1, b2, of_decide_eq_true h3⟩
end
end Sim

set_option Elab.async false
set_option linter.all false
set_option maxRecDepth 100000
set_option maxHeartbeats 2000000
namespace SrtT
open PySem PyProof.Rows SrtO L2
/-- v is a tuple of these ints -/
def TI (h : Heap) (v : Value) (ns : List Int) : Prop := ∃ a items, v = .ref a ∧ IsTup h a items ∧ IntsAre items.toList ns
theorem TI.keeps {h h' : Heap} {v : Value} {ns : List Int} (x : TI h v ns) (k : ∀ b o, h.get? b = some o → o.cls = .type "tuple" → h'.get? b = some o) : TI h' v ns := by
  obtain ⟨a, items, e, ⟨o, h1, h2, n, h3⟩, i⟩ := x
  exact ⟨a, items, e, ⟨o, k a o h1 h2, h2, n, h3⟩, i⟩
section
variable {prog : Program} {w : World} {A : Around} {E : Value → Shared → Prop} {s : Shared}
theorem lex_walk {b : Bool} {xs ys : List Value} {ns ms : List Int} (i : Nat) (hx : IntsAre xs ns) (hy : IntsAre ys ms) {Q : Bool → Shared → Prop} {fin : Bool} (hf : ∀ k, ns.take k = ms.take k → (k = ns.length ∨ k = ms.length) → fin = HT.lexLt (ns.drop k) (ms.drop k))
    (h : Q (HT.lexLt ns ms) s) : PySem.W.KatLex prog w A b fin Q (xs.zip ys) i s := by
  induction hx generalizing ys ms i with
  | nil =>
    rw [List.zip_nil_left]
    have e := hf 0 rfl (.inl rfl)
    refine PySem.W.kat_nil ?_
    rw [e]
    exact h
  | @cons n t vs ns' hv ih =>
    cases hy with
    | nil =>
      rw [List.zip_nil_right]
      have e := hf 0 rfl (.inr rfl)
      refine PySem.W.kat_nil ?_
      rw [e]
      exact h
    | @cons m u ws ms' hw =>
      rw [List.zip_cons_cons]
      refine PySem.W.kat_cons (SeqAt.EqAt.int_int n t m u prog w _ _ ?_)
      refine PySem.W.kat_go (fun e1 => ?_) (fun e1 => ?_)
      · have ex : n = m := by simpa using e1
        subst ex
        refine PySem.W.kat_yes (ih (i + 1) hw (fun k hk hl => ?_) ?_)
        · have q := hf (k + 1) (by rw [List.take_succ_cons, List.take_succ_cons, hk]) (by simpa using hl)
          rw [q, List.drop_succ_cons, List.drop_succ_cons]
        · rw [HT.lexLt_cons, if_pos rfl] at h
          exact h
      · have ex : ¬ n = m := by simpa using e1
        rw [HT.lexLt_cons, if_neg ex] at h
        exact PySem.W.kat_no (TS.oneLt_ints _ h)
theorem fin_ok {ns ms : List Int} {a b : Nat} (ha : a = ns.length) (hb : b = ms.length) : ∀ k, ns.take k = ms.take k → (k = ns.length ∨ k = ms.length) → decide (a < b) = HT.lexLt (ns.drop k) (ms.drop k) := by
  intro k hk hl
  subst ha hb
  have h1 : (ns.take k).length = (ms.take k).length := by rw [hk]
  rw [List.length_take, List.length_take] at h1
  rcases hl with hl | hl
  · have e1 : ns.drop k = [] := List.drop_eq_nil_of_le (by omega)
    rw [e1]
    cases e2 : ms.drop k with
    | nil =>
      have : ms.length ≤ k := List.drop_eq_nil_iff.mp e2
      rw [HT.lexLt_nil_nil]
      exact decide_eq_false (by omega)
    | cons m r =>
      have : ¬ ms.length ≤ k := fun q => by rw [List.drop_eq_nil_of_le q] at e2; cases e2
      rw [HT.lexLt_nil_cons]
      exact decide_eq_true (by omega)
  · have e1 : ms.drop k = [] := List.drop_eq_nil_of_le (by omega)
    rw [e1]
    cases e2 : ns.drop k with
    | nil =>
      have : ns.length ≤ k := List.drop_eq_nil_iff.mp e2
      rw [HT.lexLt_nil_nil]
      exact decide_eq_false (by omega)
    | cons m r =>
      have : ¬ ns.length ≤ k := fun q => by rw [List.drop_eq_nil_of_le q] at e2; cases e2
      rw [HT.lexLt_cons_nil]
      exact decide_eq_false (by omega)
theorem lt_tuples {b : Bool} {v u : Value} {ns ms : List Int} {Q : Bool → Shared → Prop} (hv : TI s.heap v ns) (hu : TI s.heap u ms) (h : Q (HT.lexLt ns ms) s) : wpAny (model prog w) A (keyLt' (tuples' b) v u) Q E s := by
  obtain ⟨a, xs, rfl, ⟨o, h1, h2, n, h3⟩, i1⟩ := hv
  obtain ⟨c, ys, rfl, ⟨o', h1', h2', n', h3'⟩, i2⟩ := hu
  refine PySem.W.kat_lt h1 h3 h1' h3' ?_
  exact lex_walk 0 i1 i2 (fin_ok (by rw [← i1.length]; simp) (by rw [← i2.length]; simp)) h
theorem lt_general {v u : Value} {ns ms : List Int} {Q : Bool → Shared → Prop} (hc : A.units < cLine) (hv : TI s.heap v ns) (hu : TI s.heap u ms) (h : Q (HT.lexLt ns ms) s) : wpAny (model prog w) A (keyLt' general' v u) Q E s := by
  obtain ⟨a, xs, rfl, t1, i1⟩ := hv
  obtain ⟨c, ys, rfl, t2, i2⟩ := hu
  exact PySem.W.kat_one _ _ (HT.lt_tupInts (Q := PySem.W.BoolBack Q) t1 t2 i1 i2 hc h)
theorem lt_oneType {v u : Value} {ns ms : List Int} {Q : Bool → Shared → Prop} (hc : A.units < cLine) (hv : TI s.heap v ns) (hu : TI s.heap u ms) (h : Q (HT.lexLt ns ms) s) : wpAny (model prog w) A (keyLt' oneType' v u) Q E s := by
  obtain ⟨a, xs, rfl, t1, i1⟩ := hv
  obtain ⟨c, ys, rfl, t2, i2⟩ := hu
  obtain ⟨⟨cls, dd, data, sl⟩, ho, hc1, n, hd⟩ := id t1
  obtain ⟨⟨cls2, dd2, data2, sl2⟩, ho2, hc2, n2, hd2⟩ := id t2
  simp only at hc1 hd hc2 hd2
  subst hc1 hd hc2 hd2
  rw [keyLt'_oneType, oneLt'_eq]
  simp only [if_true]
  refine wpAny_bind (wpAny_cRoomFor hc ?_)
  refine wpAny_bind (wpAny_callSpecialIfBound?_slot (T := "tuple") (name := "__lt__") ⟨_, ho, rfl⟩ PySem.F.slot_tuple_lt (call_meets PySem.F.slot_tuple_lt ⟨_, ho, rfl⟩ PySem.F.entry_tuple_lt (PySem.F.args_tuple_lt_2 _ _) (HT.tuple_lt_ints a c xs ys n n2 dd dd2 sl sl2 ns ms i1 i2) ⟨ho, ho2, ?_⟩))
  exact wpAny_truthy_bool h
/-- the firsts of tuples of ints -/
theorem firsts_tup : ∀ (vs : List Value) (k : Value → List Int) {M : Model} {Q : List (Option Value) → Shared → Prop}, (∀ v ∈ vs, TI s.heap v (k v)) →
    (∀ fs : List (Option Value), fs.length = vs.length → (∀ (i : Nat) (v : Value), vs[i]? = some v → ∃ f, fs[i]? = some f ∧ ((k v = [] ∧ f = none) ∨ ∃ x t, f = some (.int x t) ∧ k v ≠ [])) → Q fs s) → wpAny M A (vs.mapM firstOfTuple') Q E s
  | [], k, M, Q, _, h => by rw [List.mapM_nil]; exact wpAny_pure (h [] rfl fun i v e => by simp at e)
  | v :: vs, k, M, Q, hv, h => by
    obtain ⟨a, items, e, ⟨o, h1, h2, n, h3⟩, hi⟩ := hv v List.mem_cons_self
    rw [List.mapM_cons]
    refine wpAny_bind ?_
    rw [PySem.W.kas_first_eq, e]
    refine wpAny_bind (PySem.W.Looks.here (show PySem.W.Looks M s.heap (typeOf (.ref a)) o.cls from (PySem.W.Looks.ld h1).andThen .now) ?_)
    rw [h2, if_neg (by first | decide | simp)]
    refine wpAny_bind (listItems_at h1 h3 (wpAny_pure ?_))
    refine wpAny_bind (firsts_tup vs k (fun u hu => hv u (List.mem_cons_of_mem _ hu)) fun fs hl hf => wpAny_pure (h _ (by simp [hl]) fun i u eu => ?_))
    cases i with
    | zero =>
      simp at eu
      subst eu
      refine ⟨_, rfl, ?_⟩
      obtain ⟨l⟩ := items
      generalize k v = ns at hi
      cases hi with
      | nil => exact .inl ⟨rfl, rfl⟩
      | @cons x t _ _ _ => exact .inr ⟨x, t, rfl, by simp⟩
    | succ i =>
      obtain ⟨f, h4, h5⟩ := hf i u (by simpa using eu)
      exact ⟨f, by simpa using h4, h5⟩
open Classical in
/-- the kind that a run over such keys finds -/
noncomputable def kindT (k : Value → List Int) (vs : List Value) : SortKind := if ∀ v ∈ vs, k v ≠ [] then tuples' true else match vs with
  | v :: _ => if k v = [] then oneType' else general'
  | [] => general'
theorem tup_kind {vs : List Value} {k : Value → List Int} {M : Model} {Q : SortKind → Shared → Prop} (h2 : 2 ≤ vs.length) (hv : ∀ v ∈ vs, TI s.heap v (k v)) (hQ : Q (kindT k vs) s) : wpAny M A (keyKind' vs.toArray) Q E s := by
  rw [keyKind'_eq, List.mapM_toArray, map_eq_pure_bind]
  refine wpAny_bind (wpAny_bind (firsts_tup vs k hv fun fs hl hf => wpAny_pure ?_))
  by_cases hne : ∀ v ∈ vs, k v ≠ []
  · have hfi : ∀ f ∈ fs, ∃ x t, f = some (Value.int x t) := fun f hm => by
      obtain ⟨i, hi, he⟩ := List.getElem_of_mem hm
      have hvi : i < vs.length := by omega
      obtain ⟨f', h4, h5⟩ := hf i vs[i] (List.getElem?_eq_getElem hvi)
      rw [List.getElem?_eq_getElem hi] at h4
      have e4 : f = f' := by rw [← he]; exact Option.some.inj h4
      subst e4
      rcases h5 with ⟨h5, _⟩ | ⟨x, t, h5, _⟩
      · exact absurd h5 (hne _ (List.getElem_mem hvi))
      · exact ⟨x, t, h5⟩
    obtain ⟨ts, hts, hk⟩ : ∃ ts : List Value, fs = ts.map some ∧ ∀ f ∈ ts, ∃ x t, f = Value.int x t := by
      clear hf hl
      induction fs with
      | nil => exact ⟨[], rfl, fun f hm => by cases hm⟩
      | cons f fs ih =>
        obtain ⟨ts, h6, h7⟩ := ih fun f hm => hfi f (List.mem_cons_of_mem _ hm)
        obtain ⟨x, t, h8⟩ := hfi f List.mem_cons_self
        refine ⟨.int x t :: ts, by rw [h6, h8]; rfl, fun g hg => ?_⟩
        rcases List.mem_cons.mp hg with rfl | hg
        · exact ⟨x, t, rfl⟩
        · exact h7 g hg
    subst hts
    have hall : (((ts.map some).toArray.all (·.isSome))) = true := by simp
    rw [if_pos hall]
    refine wpAny_bind (wpAny_rule ?_)
    have hfm : ((ts.map some).toArray.filterMap id) = ts.toArray := by simp
    rw [hfm, oneTypeOnly'_eq, List.mapM_toArray, map_eq_pure_bind]
    refine wpAny_bind (wpAny_bind (wpAny_bind (PySem.W.kas_mapM (r := Value.type "int") _ (fun f hm Q' hq => ?_) (wpAny_pure ?_))))
    · obtain ⟨x, t, rfl⟩ := hk f hm
      exact (PySem.W.Looks.now (M := M) (h := s.heap)).here hq
    · cases ts with
      | nil =>
        rw [List.length_map] at hl
        simp at hl
        omega
      | cons f ts =>
        have h0 : (List.map (fun _ => Value.type "int") (f :: ts)).toArray[0]? = some (Value.type "int") := by simp
        have hall2 : ((List.map (fun _ => Value.type "int") (f :: ts)).toArray.all fun x => x == Value.type "int") = true := by
          simp only [List.all_toArray, List.all_map, List.all_eq_true]
          intro _ _
          rfl
        rw [h0]
        dsimp only
        rw [if_pos hall2]
        have e : kindT k vs = tuples' true := by unfold kindT; rw [if_pos hne]
        rw [e] at hQ
        exact wpAny_pure (wpAny_pure hQ)
  · have hall : ¬ (fs.toArray.all (·.isSome)) = true := fun hall => hne fun v hm => by
      have hall' : ∀ f ∈ fs, f.isSome = true := by simpa using hall
      obtain ⟨i, hi, he⟩ := List.getElem_of_mem hm
      obtain ⟨f', h4, h5⟩ := hf i v (by rw [List.getElem?_eq_getElem hi, he])
      rcases h5 with ⟨_, h5⟩ | ⟨x, t, _, h6⟩
      · have := hall' f' (List.mem_of_getElem? h4)
        rw [h5] at this; cases this
      · exact h6
    rw [if_neg hall]
    cases vs with
    | nil => simp at h2
    | cons v0 rest =>
      obtain ⟨f0, h4, h5⟩ := hf 0 v0 rfl
      have hz : fs.toArray[0]? = some f0 := by simpa using h4
      rw [hz]
      rcases h5 with ⟨h5, h6⟩ | ⟨x, t, h5, h6⟩
      · subst h6
        rw [if_neg (by simp)]
        rw [oneTypeOnly'_eq, List.mapM_toArray, map_eq_pure_bind]
        refine wpAny_bind (wpAny_bind (wpAny_bind (PySem.W.kas_mapM (r := Value.type "tuple") _ (fun f hm Q' hq => ?_) (wpAny_pure ?_))))
        · obtain ⟨a, items, rfl, ⟨o, g1, g2, n, g3⟩, hi⟩ := hv f hm
          exact (show PySem.W.Looks M s.heap (typeOf (.ref a)) (.type "tuple") from by rw [← g2]; exact (PySem.W.Looks.ld g1).andThen .now).here hq
        · have h0 : (List.map (fun _ => Value.type "tuple") (v0 :: rest)).toArray[0]? = some (Value.type "tuple") := by simp
          have hall2 : ((List.map (fun _ => Value.type "tuple") (v0 :: rest)).toArray.all fun x => x == Value.type "tuple") = true := by
            simp only [List.all_toArray, List.all_map, List.all_eq_true]
            intro _ _
            rfl
          rw [h0]
          dsimp only
          rw [if_pos hall2]
          have e : kindT k (v0 :: rest) = oneType' := by unfold kindT; rw [if_neg hne]; dsimp only; rw [if_pos h5]
          rw [e] at hQ
          exact wpAny_pure (wpAny_pure hQ)
      · subst h5
        rw [if_pos (by simp)]
        have e : kindT k (v0 :: rest) = general' := by unfold kindT; rw [if_neg hne]; dsimp only; rw [if_neg h6]
        rw [e] at hQ
        exact wpAny_pure hQ
theorem lt_kind {v u : Value} {ns ms : List Int} {Q : Bool → Shared → Prop} {k : Value → List Int} {vs : List Value} (hc : A.units < cLine) (hv : TI s.heap v ns) (hu : TI s.heap u ms) (h : Q (HT.lexLt ns ms) s) : wpAny (model prog w) A (keyLt' (kindT k vs) v u) Q E s := by
  unfold kindT
  split
  · exact lt_tuples hv hu h
  · split
    · split
      · exact lt_oneType hc hv hu h
      · exact lt_general hc hv hu h
    · exact lt_general hc hv hu h
theorem tups_sortable {a : Addr} {vs : List Value} {k : Value → List Int} (h2 : 2 ≤ vs.length) (hu : A.units < cLine) (hv : ∀ v ∈ vs, TI s.heap v (k v)) (ha : ∀ o, s.heap.get? a = some o → o.cls ≠ .type "tuple") : SortableO prog w A s a vs fun v u => HT.lexLt (k v) (k u) := by
  intro h' keep
  have hv' : ∀ v ∈ vs, TI h' v (k v) := fun v hm => (hv v hm).keeps fun b o e c => keep b o (fun z => by subst z; exact ha o e c) e
  refine ⟨kindT k vs, fun Q E hq => tup_kind (s := { s with heap := h' }) h2 hv' hq, fun p q hp hq => ?_⟩
  exact lt_kind (s := { s with heap := h' }) (Q := fun r s' => s' = { s with heap := h' } ∧ r = HT.lexLt (k p.1) (k q.1)) hu (hv' p.1 hp) (hv' q.1 hq) ⟨rfl, rfl⟩
end
end SrtT

set_option Elab.async false
set_option linter.all false
set_option maxRecDepth 100000
set_option maxHeartbeats 2000000
namespace Sim
open PySem PySem.Spec L2
open PyProof.Rows hiding St
variable [TabT]

/-! ### insertion sort, and that a sorted rearrangement is the only one -/
def ins {α : Type} (lt : α → α → Bool) (x : α) : List α → List α
  | [] => [x]
  | y :: r => if lt y x then y :: ins lt x r else x :: y :: r
def isort {α : Type} (lt : α → α → Bool) : List α → List α
  | [] => []
  | x :: r => ins lt x (isort lt r)
theorem ins_perm {α : Type} {lt : α → α → Bool} (x : α) : ∀ l : List α, (ins lt x l).Perm (x :: l)
  | [] => .refl _
  | y :: r => by
    unfold ins
    split
    · exact ((ins_perm x r).cons y).trans (.swap x y r)
    · exact .refl _
theorem isort_perm {α : Type} {lt : α → α → Bool} : ∀ l : List α, (isort lt l).Perm l
  | [] => .refl _
  | x :: r => (ins_perm x _).trans ((isort_perm r).cons x)
/-- a total order: who is neither below nor above is the same -/
structure Tot {α : Type} (lt : α → α → Bool) : Prop where
  asym : ∀ x y, lt x y = true → lt y x = false
  tr : ∀ x y z, lt y x = false → lt z y = false → lt z x = false
  eq : ∀ x y, lt x y = false → lt y x = false → x = y
abbrev Sd {α : Type} (lt : α → α → Bool) (l : List α) : Prop := l.Pairwise fun x y => lt y x = false
theorem ins_sd {α : Type} {lt : α → α → Bool} (O : Tot lt) (x : α) : ∀ l : List α, Sd lt l → Sd lt (ins lt x l)
  | [], _ => List.pairwise_singleton _ _
  | y :: r, h => by
    unfold ins
    obtain ⟨h1, h2⟩ := List.pairwise_cons.mp h
    split
    · rename_i hl
      refine List.pairwise_cons.mpr ⟨fun z hz => ?_, ins_sd O x r h2⟩
      rcases List.mem_cons.mp ((ins_perm x r).mem_iff.mp hz) with e | hz
      · rw [e]; exact O.asym _ _ hl
      · exact h1 z hz
    · rename_i hl
      have hl' : lt y x = false := by simpa using hl
      refine List.pairwise_cons.mpr ⟨fun z hz => ?_, h⟩
      rcases List.mem_cons.mp hz with e | hz
      · rw [e]; exact hl'
      · exact O.tr x y z hl' (h1 z hz)
theorem isort_sd {α : Type} {lt : α → α → Bool} (O : Tot lt) : ∀ l : List α, Sd lt (isort lt l)
  | [] => List.Pairwise.nil
  | x :: r => ins_sd O x _ (isort_sd O r)
theorem sd_unique {α : Type} {lt : α → α → Bool} (O : Tot lt) : ∀ {l m : List α}, l.Perm m → Sd lt l → Sd lt m → l = m
  | [], m, p, _, _ => by rw [p.nil_eq]
  | x :: l, m, p, h1, h2 => by
    cases m with
    | nil => exact absurd p.symm.nil_eq (by simp)
    | cons y m =>
      obtain ⟨a1, a2⟩ := List.pairwise_cons.mp h1
      obtain ⟨b1, b2⟩ := List.pairwise_cons.mp h2
      have e : x = y := by
        have hx : x ∈ y :: m := p.mem_iff.mp List.mem_cons_self
        have hy : y ∈ x :: l := p.mem_iff.mpr List.mem_cons_self
        rcases List.mem_cons.mp hx with e | hx
        · exact e
        · rcases List.mem_cons.mp hy with e | hy
          · exact e.symm
          · exact O.eq x y (b1 x hx) (a1 y hy)
      subst e
      rw [sd_unique O (List.Perm.cons_inv p) a2 b2]
theorem lexTot : Tot HT.lexLt := ⟨NtL.lex_asym, NtL.lex_tr, fun xs => by
  induction xs with
  | nil =>
    intro ys h1 h2
    cases ys with
    | nil => rfl
    | cons y ys => rw [HT.lexLt_nil_cons] at h1; cases h1
  | cons x xs ih =>
    intro ys h1 h2
    cases ys with
    | nil => rw [HT.lexLt_nil_cons] at h2; cases h2
    | cons y ys =>
      rw [HT.lexLt_cons] at h1 h2
      by_cases e : x = y
      · subst e
        rw [if_pos rfl] at h1 h2
        rw [ih ys h1 h2]
      · rw [if_neg e] at h1
        rw [if_neg (Ne.symm e)] at h2
        have a := of_decide_eq_false h1
        have b := of_decide_eq_false h2
        exact absurd (show x = y by omega) e⟩
def ltI (a b : Int) : Bool := decide (a < b)
theorem intTot : Tot ltI := ⟨fun x y h => by have := of_decide_eq_true h; exact decide_eq_false (by omega), fun x y z h1 h2 => by
  have a := of_decide_eq_false h1
  have b := of_decide_eq_false h2
  exact decide_eq_false (by omega), fun x y h1 h2 => by
  have a := of_decide_eq_false h1
  have b := of_decide_eq_false h2
  omega⟩

/-! ### sorted -/
/-- the tuples of ints that a list holds -/
def tups? : List AV → Option (List (List Int))
  | [] => some []
  | .tup xs :: r => (ints? xs).bind fun ns => (tups? r).map (ns :: ·)
  | _ :: _ => none
def tupA (ns : List Int) : AV := .tup (ns.map .int)
theorem tups_of : ∀ {xs : List AV} {nss : List (List Int)}, tups? xs = some nss → xs = nss.map tupA
  | [], nss, e => by cases e; rfl
  | .tup ys :: r, nss, e => by
    unfold tups? at e
    cases e1 : ints? ys with
    | none => rw [e1] at e; cases e
    | some ns =>
      rw [e1] at e
      have e' : ((tups? r).map (ns :: ·)) = some nss := e
      cases e2 : tups? r with
      | none => rw [e2] at e'; cases e'
      | some ms => rw [e2] at e'; cases e'; rw [tups_of e2, ints_of e1]; rfl
  | .non :: _, _, e => by cases e
  | .bl _ :: _, _, e => by cases e
  | .int _ :: _, _, e => by cases e
  | .str _ :: _, _, e => by cases e
  | .ty _ :: _, _, e => by cases e
  | .lst _ :: _, _, e => by cases e
  | .dct _ :: _, _, e => by cases e
  | .obj _ _ :: _, _, e => by cases e
  | .scr _ :: _, _, e => by cases e
  | .cell _ :: _, _, e => by cases e
theorem tups_map : ∀ (nss : List (List Int)), tups? (nss.map tupA) = some nss
  | [] => rfl
  | n :: ns => by
    rw [List.map_cons]
    show ((ints? (n.map AV.int)).bind fun a => (tups? (ns.map tupA)).map (a :: ·)) = _
    rw [ints_map, tups_map ns] <;> rfl
def sortA (h : Hs) (xs : List AV) : Option (List AV) := match xs with
  | [x] => (lstOf h x).bind fun ys => match ints? ys with
    | some ns => some ((isort ltI ns).map .int)
    | none => (tups? ys).map fun nss => (isort HT.lexLt nss).map tupA
  | _ => none
section
variable {X : Cx} {W : WX} {k j : Nat}
open Classical in
noncomputable def keyOf (h : Heap) (v : Value) : List Int := if hh : ∃ ns, SrtT.TI h v ns then Classical.choose hh else []
theorem ti_inj {h : Heap} {v : Value} {ns ms : List Int} (a : SrtT.TI h v ns) (b : SrtT.TI h v ms) : ns = ms := by
  obtain ⟨p, xs, rfl, ⟨o, h1, h2, n, h3⟩, i1⟩ := a
  obtain ⟨q, ys, e, ⟨o', h1', h2', n', h3'⟩, i2⟩ := b
  cases e
  rw [h1] at h1'
  cases h1'
  rw [h3] at h3'
  cases h3'
  have : ∀ {us : List Value} {ns ms : List Int}, IntsAre us ns → IntsAre us ms → ns = ms := by
    intro us ns ms a
    induction a generalizing ms with
    | nil => intro b; cases b; rfl
    | cons n t _ ih => intro b; cases b with | cons _ _ b => rw [ih b]
  exact this i1 i2
theorem keyOf_eq {h : Heap} {v : Value} {ns : List Int} (a : SrtT.TI h v ns) : keyOf h v = ns := by
  unfold keyOf
  have hh : ∃ ns, SrtT.TI h v ns := ⟨ns, a⟩
  rw [dif_pos hh]
  exact ti_inj (Classical.choose_spec hh) a
/-- what is known of each of some tuples -/
theorem tups_raw {pins : List (Addr × Obj)} {s : Shared} {σ : L2.St} {H : Hp} {G : Gh} {h : Hs} (I : L2.Inv X pins σ H s) (w : WI X.K X.mg G h H) : ∀ {nss : List (List Int)} {vs : List V} {us : List Value}, Rs X.K X.mg G (nss.map tupA) vs → Vals vs us →
    us.map (keyOf s.heap) = nss ∧ (∀ u ∈ us, SrtT.TI s.heap u (keyOf s.heap u) ∧ ∃ a, u = .ref a ∧ R X.K X.mg G (tupA (keyOf s.heap u)) (.ref a))
  | [], _, _, .nil, .nil => ⟨rfl, fun u hu => by cases hu⟩
  | ns :: nss, _, _, .cons r t, .cons ru rt => by
    rename_i v vs u us
    obtain ⟨h1, h2⟩ := tups_raw I w t rt
    have r' := r
    unfold tupA at r
    cases r with
    | @tup _ a ws ha rs =>
      have iv := rs.ints
      subst iv
      cases ru
      obtain ⟨its, rv, it, hz⟩ := I.tuple (sameT w.F ha)
      have ti : SrtT.TI s.heap (.ref a) ns := ⟨a, its.toArray, rfl, it, by simpa using rv.ints⟩
      have ek := keyOf_eq ti
      refine ⟨by rw [List.map_cons, h1, ek], fun u hu => ?_⟩
      rcases List.mem_cons.mp hu with e | hu
      · subst e
        rw [ek]
        exact ⟨ti, a, rfl, r'⟩
      · exact h2 u hu
theorem rs_of_keys {G : Gh} {hp : Heap} : ∀ {us : List Value}, (∀ u ∈ us, ∃ a, u = .ref a ∧ R X.K X.mg G (tupA (keyOf hp u)) (.ref a)) → Rs X.K X.mg G ((us.map (keyOf hp)).map tupA) (us.map bkV)
  | [], _ => .nil
  | u :: us, h => by
    obtain ⟨a, e, r⟩ := h u List.mem_cons_self
    refine .cons ?_ (rs_of_keys fun u hu => h u (List.mem_cons_of_mem _ hu))
    rw [e] at r ⊢
    exact r
theorem call_sortT (hu : X.A.units + 64 < cLine) : CallR X (.builtin "sorted") (fun vs H Q => ∃ (G : Gh) (h : Hs) (nss : List (List Int)) (a : Addr) (ws : List V), WI X.K X.mg G h H ∧ Rs X.K X.mg G (nss.map tupA) ws ∧ vs = [.ref a] ∧ SqL X.K H a ws ∧
    ∀ G' H' p ws', G.le G' → WI X.K X.mg G' h H' → H' p = none → Rs X.K X.mg G' ((isort HT.lexLt nss).map tupA) ws' → Q (.ref p) (upd H' p (.lst ws'))) := by
  intro pins s σ H vs us Q I r ⟨G, h, nss, a, ws, w, rs, e, hs, q⟩
  subst e
  rw [Vals.ref1 r]
  obtain ⟨its, rv, hl, hz⟩ := I.list hs
  obtain ⟨t1, t2⟩ := tups_raw I w rs rv
  refine SrtO.sorted_ord (NtL.swo_lexL (keyOf s.heap)) hl.isList (by rw [← rv.length]; exact hz) (fun h2 h₁ a' ha' kk => ?_) fun out g1 g2 => ?_
  · refine SrtT.tups_sortable (s := { s with heap := h₁ }) h2 (by show X.A.units + 1 + 1 < cLine; omega) (fun v hv => (t2 v hv).1.keeps fun b o e _ => (kk b o e).2) fun o e => ?_
    have e' : some o = some (seqObj "list" its.toArray 0) := e.symm.trans ha'
    cases e'
    intro c
    exact absurd (Value.type.inj c) (by decide)
  · obtain ⟨ep, he'⟩ := PyProof.Rows.sortedAll_at s.heap its out.toArray
    have hmem : ∀ u ∈ out, ∃ a, u = Value.ref a ∧ R X.K X.mg G (tupA (keyOf s.heap u)) (.ref a) := fun u hu => (t2 u (g2.perm.mem_iff.mp hu)).2
    have hk : out.map (keyOf s.heap) = isort HT.lexLt nss := by
      refine sd_unique lexTot ?_ ?_ (isort_sd lexTot _)
      · refine (g2.perm.map _).trans ?_
        rw [t1]
        exact (isort_perm nss).symm
      · exact List.pairwise_map.mpr g1
    have rs' := rs_of_keys (X := X) (G := G) (hp := s.heap) hmem
    rw [hk] at rs'
    have hlen : (out.map bkV).length ≤ sizeLine := by
      rw [List.length_map, g2.perm.length_eq, ← rv.length]
      exact hz
    exact ⟨.ref _, upd H (s.heap.objs.size + 1) (.lst (out.map bkV)), I.laid (t' := s.toks) (fun _ _ => PyProof.Rows.sortedAll_old) (Nat.le_succ _) ⟨hlen, out, ep, bkV_vals (fun u hu => by obtain ⟨a, e, _⟩ := hmem u hu; exact ⟨a, e⟩), by exact he'⟩, rfl,
      q G H _ _ (.refl G) w (I.hok.fresh (Nat.le_succ _)) rs'⟩
theorem ints_tups {ns : List Int} {nss : List (List Int)} : ints? (nss.map tupA) = some ns → nss = [] := by
  cases nss with
  | nil => intro _; rfl
  | cons n r => intro e; rw [List.map_cons] at e; cases e
/-- sorted(x) of a list of ints, or of tuples of ints -/
theorem call_sortA (hu : X.A.units + 64 < cLine) : CallR X (.builtin "sorted") (rF X.K X.mg sortA) := by
  intro pins s σ H xs us Q I r ⟨G, h, as, c, w, rs, e, q⟩
  unfold sortA at e
  split at e
  · rename_i x
    cases e1 : lstOf h x with
    | none => rw [e1] at e; cases e
    | some ys =>
      rw [e1] at e
      cases rs with
      | cons r1 t =>
        cases t
        obtain ⟨p, vs, rfl, rr, hq⟩ := r1.lstOf w e1
        · have hq' : SqL X.K H p vs := .inl (.inl hq)
          cases e2 : ints? ys with
          | some ns =>
            have e' : some ((isort ltI ns).map AV.int) = some c := by
              have q2 : (match ints? ys with | some ns => some ((isort ltI ns).map AV.int) | none => (tups? ys).map fun nss => (isort HT.lexLt nss).map tupA) = some c := e
              rw [e2] at q2
              exact q2
            cases e'
            have ey := ints_of e2
            subst ey
            have iv := rr.ints
            subst iv
            refine cr_sortedI pins s σ H _ us Q I r ⟨p, ns, rfl, hq', fun ns' p2 g1 g2 g3 => ?_⟩
            have ek : ns' = isort ltI ns := sd_unique intTot (g1.trans (isort_perm ns).symm) (g2.imp fun h => decide_eq_false (by omega)) (isort_sd intTot _)
            rw [ek]
            exact q G H p2 _ (.refl G) w g3 (Rs.of_ints _)
          | none =>
            have e' : (tups? ys).map (fun nss => (isort HT.lexLt nss).map tupA) = some c := by
              have q2 : (match ints? ys with | some ns => some ((isort ltI ns).map AV.int) | none => (tups? ys).map fun nss => (isort HT.lexLt nss).map tupA) = some c := e
              rw [e2] at q2
              exact q2
            cases e3 : tups? ys with
            | none => rw [e3] at e'; cases e'
            | some nss =>
              rw [e3] at e'
              cases e'
              have ey := tups_of e3
              subst ey
              exact call_sortT hu pins s σ H _ us Q I r ⟨G, h, nss, p, vs, w, rr, rfl, hq', q⟩
  · cases e
end
end Sim

set_option Elab.async false
set_option linter.all false
set_option maxRecDepth 100000
set_option maxHeartbeats 2000000
namespace Sim
open PySem PySem.Spec L2
open PyProof.Rows hiding St
variable [TabT]
/-! ### raise X() -/
abbrev veIn (K : PySem.W.Frag) (C : Addr) : Bool := PySem.W.excIn K C [.type "ValueError", .type "Exception", .type "BaseException", .type "object"] "ValueError.__new__"
structure ExF (K : PySem.W.Frag) (mg : Str → Option Value) (x : Str) (C : Addr) : Prop where
  g : mg x = some (.ref C)
  q : veIn K C = true
  k : PySem.W.keepIn K (.ref C) = true
  s : PySem.W.subIn K (.ref C) (.type "BaseException") = some true
  t : PySem.W.typeIn K (.ref C) = some (.type "type")
def sExc (c : Str) : SM := fun env h => .exc c [] env h
section
variable {X : Cx} {W : WX} {k : Nat}
theorem pmk_own0 {C : Addr} {x : Str} {p pos : Pos} (f : ExF X.K X.mg x C) (hg : Gl X x) (hdb : (x == ("__debug__" : Str)) = false := by decide) :
    PMk X (.Call (.Name x p) [] [] pos) (fun σ H Q => Q (.ref C) none H) := by
  intro pins s σ H Q I h
  refine wpAny_Call_Name_kw (ld_glob I hg f.g ?_ hdb)
  refine PySem.W.callWith_K0 I.kIn f.k ?_
  show wpAny _ _ (call (.ref C) []) _ _ _
  obtain ⟨bm, N, nm, qn, bs, hdct, sn, sub, ab, col, dd, k0, k1, k2, k3, k5, mN, hC, hN, hni, T⟩ := exc_obj I.kIn f.q
  refine wpAny_call_exc_subT PySem.F.excBase_ValueError T hC hN hni (fun h' e hm => ?_) (by simp)
  exact mk_of I hm (raises_own f.s f.t) h (I.hok.gone hm.new)
theorem ss_raise0 {C : Addr} {x : Str} {p pos pos2 : Pos} (O : Ok X W k) (f : ExF X.K X.mg x C) (hg : Gl X x := by rfl) (hdb : (x == ("__debug__" : Str)) = false := by decide) :
    SS X W (.Raise (some (.Call (.Name x p) [] [] pos)) none pos2) (sExc x) := ⟨(ps_raise O.calm O.tk (pmk_own0 f hg hdb)).weak fun D σ H ⟨G, h, env, w, re, p⟩ => p G H σ (.ref C) none (.refl G) w re ⟨C, f.g, rfl, .inl ⟨rfl, rfl⟩⟩⟩
end
/-! ### try: .. except X as e: .. except Y as e: .. -/
def endD (D : Ends) (i : Nat) : Ends := { nx := fun σ' H' => D.nx (σ'.set i none) H', rt := D.rt, bk := fun σ' H' => D.bk (σ'.set i none) H', ct := fun σ' H' => D.ct (σ'.set i none) H' }
/-- what the clauses wish of an exception of the body, one after the other -/
def wManyN (K : PySem.W.Frag) (Wout : WX) (D : Ends) (i : Nat) : List (Value × (Addr → Value → Option Addr → TS)) → WX
  | [] => Wout
  | (c, ts) :: r => fun cls d σ H => ∃ b, PySem.W.exmOne K cls c = some b ∧ (b = true → ∀ a, H a = none → ts a cls d (endD D i) (σ.set i (some (.ref a))) H) ∧ (b = false → wManyN K Wout D i r cls d σ H)
inductive HdsN (X : Cx) (n : Str) : List ExceptHandler → List (Value × (Addr → Value → Option Addr → TS)) → Prop
  | nil : HdsN X n [] []
  | cons {x : Str} {c : Value} {ts : Addr → Value → Option Addr → TS} {b₀ : Stmt} {suite : List Stmt} {np pos' : Pos} {hds : List ExceptHandler} {l : List (Value × (Addr → Value → Option Addr → TS))} (hc : Names X x c)
      (hsu : ∀ (a : Addr) (oe : Obj) (cls : Value) (d : Option Addr) (pn : List (Addr × Obj)), Zc cls d oe → (∃ vs, oe.data = .fields vs) → PSs (X.suite a ((a, oe) :: pn)) (b₀ :: suite) (ts a cls d)) (r : HdsN X n hds l) :
      HdsN X n (.ExceptHandler (some (.Name x np)) (some n) (b₀ :: suite) pos' :: hds) ((c, ts) :: l)
section
variable {X : Cx} {n : Str} {i : Nat} {body : List Stmt} {h₀ : ExceptHandler} {hds : List ExceptHandler} {l : List (Value × (Addr → Value → Option Addr → TS))} {pos : Pos} {tb : WX → TS} {Wout : WX}
theorem ps_tryN (hs : X.stack = X.env :: X.outer) (hf : X.env.frame = some X.env.locals) (hN : X.N.Nodup) (hi : X.N[i]? = some n) (hln : X.env.kindOf n = some .local) (tk : Takes X Wout)
    (hb : ∀ (W : WX) (pn : List (Addr × Obj)) (xe : Value → Shared → Prop), Takes (X.tr pn xe) W → PassesOwn (model X.prog X.w) X.A X.env xe → PSs (X.tr pn xe) body (tb W))
    (hh : HdsN X n (h₀ :: hds) l) : PS X (.Try body (h₀ :: hds) [] [] pos) (fun D σ H => tb (wManyN X.K Wout D i l) D σ H) := by
  refine ⟨fun pins s σ H D I h => ?_⟩
  have ok := I.ok
  have hloc : Loc X.env.scope n := .inl hln
  have hfr : X.A.frames = some (X.env :: X.outer) := by rw [ok.frames, hs]
  refine wpAny_Try_except ?_
  refine wpAny_mono ((hb (wManyN X.K Wout D i l) (X.pn ++ pins) (fun e s₁ => wpAny (model X.prog X.w) X.A (noteFrame e X.env) (fun _ s₂ => wpAny (model X.prog X.w) X.A (setFlight e none) (fun _ s₃ =>
    wpAny (model X.prog X.w) X.A (handleBy e X.env (h₀ :: hds)) (SP X pins D) X.xe s₃) X.xe s₂) X.xe s₁) (fun u s' xx => ?_) PassesOwn.looking).run [] s σ H D (I.toTry _) h) (fun f s1 hsp => ?_) (fun e s1 he => he)
  · -- the catch
    obtain ⟨a, B, sI, pins', σ', H', cls, d, rfl, J', nb, up, sky, na, os, ag, w⟩ := xx
    have J : L2.Inv X pins σ' H' sI := J'.ofTry ok
    have sky' : Sky B (X.env :: X.outer) a (Zc cls d) X.env.locals s'.heap := by rw [← hs]; exact sky
    show wpAny (model X.prog X.w) X.A (noteFrame (.ref a) X.env) _ _ _
    refine Sky.land Zc.steady hfr hf sky' fun h3 fl3 up3 => ?_
    have J3 : L2.Inv X pins σ' H' { s' with heap := h3 } := J.landed nb fl3.1 (up.trans up3) os ag
    obtain ⟨oe3, vs3, he3, hz3, hd3⟩ := fl3.there
    have notFr : ∀ {h : Heap} {o : Obj} {vs : Array Value}, h.FunFrames B (X.env :: X.outer) → h.get? a = some o → o.data = .fields vs → a ∉ frs (X.env :: X.outer) := fun {h o vs} ff e dd hm => by
      obtain ⟨_, o', e', hnf⟩ := ff.mem hm
      rw [e] at e'; cases e'
      exact hnf _ dd
    have nfr := notFr fl3.2.2.1 he3 hd3
    have nL : a ≠ X.env.locals := fun z => nfr (List.mem_filterMap.mpr ⟨X.env, List.mem_cons_self, by rw [hf, z]⟩)
    have nF : a ∉ X.fs := fun hm => by
      obtain ⟨e, he, q⟩ := List.mem_filterMap.mp hm
      exact nfr (List.mem_filterMap.mpr ⟨e, List.mem_cons_of_mem _ he, q⟩)
    have S3 := J3.suite he3 hd3 na nL nF
    have go : ∀ {hds' : List ExceptHandler} {l' : List (Value × (Addr → Value → Option Addr → TS))}, HdsN X n hds' l' → wManyN X.K Wout D i l' cls d σ' H' →
        wpAny (model X.prog X.w) X.A (handleBy (.ref a) X.env hds') (SP X pins D) X.xe { s' with heap := h3 } := by
      intro hds' l' hk
      induction hk with
      | nil =>
        intro w
        refine wpAny_handleBy_nil ?_
        obtain ⟨k1, k2, k3, oe, vs, T, oT, ts', he, hz, hd, h1, hr⟩ := id fl3
        unfold PySem.passOn
        refine wpAny_bind (wpAny_field he hd h1 ?_)
        rw [if_neg (show ¬ ((Value.ref T == Value.none) = true) from by simp)]
        have fin : wpAny (model X.prog X.w) X.A (setFlight (.ref a) X.env.frame) (fun _ s4 => wpAny (model X.prog X.w) X.A (throw (.ref a) : Sem Flow) (SP X pins D) X.xe s4) X.xe { s' with heap := h3 } := by
          rw [hf]
          refine HandSPX.setFlight_upZ fl3 fun h4 hh4 up4 => wpAny_throw (tk _ _ ?_)
          exact ⟨a, B, sI, pins, σ', H', cls, d, rfl, J, nb, (up.trans up3).trans up4, .inr (.inr (by rw [hs]; exact hh4)), na, os, ag, w⟩
        first
          | exact wpAny_bind (wpAny_pure (wpAny_bind fin))
          | exact wpAny_bind fin
      | @cons x c ts b₀ suite np pos' hds2 l2 hc hsu r ih =>
        intro w
        obtain ⟨b, hb1, hyes, hno⟩ := w
        refine wpAny_handleBy_cons (codeAny_handlers_test ?_) (by intro q; cases q)
        have LT : PySem.W.Looks (model X.prog X.w) h3 (typeOf (.ref a)) cls := fun A Q E s k q => wpAny_typeOf_ref (k _ _ he3) (by rw [hz3.1]; exact q)
        have LM := PySem.W.exm_one (M := model X.prog X.w) (J3.kIn) LT hb1
        have test : ∀ {Q : Value → Shared → Prop} {E : Value → Shared → Prop}, Q c { s' with heap := h3 } → wpAny (model X.prog X.w) (X.A.mark (some (.ref a))) (eval (.Name x np) X.env) Q E { s' with heap := h3 } := fun {Q E} q => by
          obtain ⟨hg, hdbg, hm | ⟨hm, hv, hnn⟩⟩ := hc
          · exact ld_glob (X := X.suite a ((a, oe3) :: (X.pn ++ pins))) S3 hg hm q hdbg
          · exact ld_blt (X := X.suite a ((a, oe3) :: (X.pn ++ pins))) S3 hg hm hv q hnn hdbg
        refine test (LM.here ?_)
        cases b with
        | true =>
          refine codeAny_handlers_suite_as ?_
          refine HandSPX.lands_againZ fl3 fun h4 fl4 up4 => ?_
          have J4 : L2.Inv X pins σ' H' { s' with heap := h4 } := J.landed nb fl4.1 ((up.trans up3).trans up4) os ag
          obtain ⟨oe4, vs4, he4, hz4, hd4⟩ := fl4.there
          have S4 := J4.suite he4 hd4 na nL nF
          refine store_ok (X := X.suite a ((a, oe4) :: (X.pn ++ pins))) (v := .ref a) S4 hN hi hloc rfl (fun s5 S5 => ?_) (.inr hln)
          refine wpAny_mono ((hsu a oe4 cls d (X.pn ++ pins) hz4 ⟨_, hd4⟩).run [] s5 _ H' _ S5 (hyes rfl a na)) (fun f s6 hsp => ?_) (fun _ _ z => False.elim z)
          have end_ : ∀ {σ6 : L2.St} {H6 : Hp} {Q : Shared → Prop}, L2.Inv (X.suite a ((a, oe4) :: (X.pn ++ pins))) [] σ6 H6 s6 → (∀ s7, L2.Inv X pins (σ6.set i none) H6 s7 → Q s7) →
              wpAny (model X.prog X.w) X.A (do bindName X.env n .none; unbindBehindTheSuite X.env n pos') (fun _ s7 => Q s7) X.xe s6 := fun {σ6 H6 Q} S6 hq => gone_ok (S6.unsuite ok) hN hi hln hq
          cases f with
          | next =>
            obtain ⟨σ6, H6, S6, q6⟩ := hsp
            exact end_ S6 fun s7 J7 => ⟨_, _, J7, q6⟩
          | brk =>
            obtain ⟨σ6, H6, S6, q6⟩ := hsp
            exact end_ S6 fun s7 J7 => ⟨_, _, J7, q6⟩
          | cont =>
            obtain ⟨σ6, H6, S6, q6⟩ := hsp
            exact end_ S6 fun s7 J7 => ⟨_, _, J7, q6⟩
          | ret u =>
            obtain ⟨v6, σ6, H6, S6, r6, q6⟩ := hsp
            exact end_ S6 fun s7 J7 => ⟨_, _, _, J7, r6, q6⟩
        | false =>
          show wpAny _ X.A (handleBy (.ref a) X.env hds2) _ _ _
          exact ih (hno rfl)
    exact go hh w
  · cases f with
    | next =>
      obtain ⟨σ', H', J', q⟩ := hsp
      exact wpAny_execs_nil ⟨σ', H', J'.ofTry ok, q⟩
    | brk =>
      obtain ⟨σ', H', J', q⟩ := hsp
      exact ⟨σ', H', J'.ofTry ok, q⟩
    | cont =>
      obtain ⟨σ', H', J', q⟩ := hsp
      exact ⟨σ', H', J'.ofTry ok, q⟩
    | ret u =>
      obtain ⟨v, σ', H', J', r, q⟩ := hsp
      exact ⟨v, σ', H', J'.ofTry ok, r, q⟩
end

/-! ### word = '..' if isinstance(e, X) else '..' -/
/-- what is asked of the raised class -/
structure IsE (K : PySem.W.Frag) (CL : Addr) (cls : Value) (d : Option Addr) : Prop where
  ex : ∃ Dc, cls = .ref Dc ∧ d = none ∧ ExcC K Dc ∧ PySem.W.kitOne K (.ref Dc) (.ref CL) = some true
def tsA (K : PySem.W.Frag) (CL : Addr) (i j : Nat) (w : Str) : Addr → Value → Option Addr → TS := fun a cls d D σ H => σ[i]? = some (some (.ref a)) ∧ IsE K CL cls d ∧ D.nx (σ.set j (some (.str w))) H
theorem suiteA {X : Cx} {a CL : Addr} {oe : Obj} {cls : Value} {d : Option Addr} {pn : List (Addr × Obj)} {i j j1 j2 : Nat} {e word lot w w2 : Str} {p1 p2 p3 p4 p5 p6 p7 p8 p9 : Pos} (hz : Zc cls d oe) (hf : ∃ vs, oe.data = .fields vs)
    (hN : X.N.Nodup) (hi : X.N[i]? = some e) (hj : X.N[j]? = some word) (hje : X.env.scope.names.lookup word = some .local) (hve : X.env.scope.names.lookup e = some .local)
    (gL : Gl X lot) (mL : X.mg lot = some (.ref CL)) (gi : Gl X "isinstance") (mi : X.mg "isinstance" = none) (d1 : (e == ("__debug__" : Str)) = false) (d2 : (e == ("__classdict__" : Str)) = false) (d3 : (lot == ("__debug__" : Str)) = false) :
    PSs (X.suite a ((a, oe) :: pn)) [.Assign [.Name word p1] (.IfExp (.Call (.Name "isinstance" p2) [.Name e p3, .Name lot p4] [] p5) (.Constant (.str w) j1 p6) (.Constant (.str w2) j2 p7) p8) p9] (tsA X.K CL i j w a cls d) := by
  refine ⟨fun pins s σ H D I h => ?_⟩
  obtain ⟨h1, ⟨Dc, rfl, rfl, h2, h3⟩, h4⟩ := h
  have c := pss_one (ps_set (X := X.suite a ((a, oe) :: pn)) (pos := p9) (pos' := p1) hN hj (.inl hje) (pe_ifExp (pos := p8) (pt_val (pe_callB (pos := p5) (p := p2) (call_isE (X := X) (pn := pn) h2 hz hf) gi mi (by rfl)
    (pa_cons (pe_var (pos := p3) hi (.inl hve) d1 d2) (pa_cons (pe_glob (v := .ref CL) (pos := p4) gL mL rfl d3) pa_nil)))) (pe_str (j := j1) (pos := p6) (x := w)) (pe_str (j := j2) (pos := p7) (x := w2))) (by rfl) (.inr hje))
  refine c.run pins s σ H D I ?_
  exact ⟨.ref a, h1, .ref CL, .ref CL, true, rfl, fun u hu => hu, h3, true, rfl, h4⟩

def pickA (K : PySem.W.Frag) (CL : Addr) (cls : Value) (d : Option Addr) (P : Str → Prop) : List (Addr × Str) → Prop
  | [] => False
  | (C, w) :: r => ∃ b, PySem.W.exmOne K cls (.ref C) = some b ∧ (b = true → IsE K CL cls d ∧ P w) ∧ (b = false → pickA K CL cls d P r)
theorem pickA.mono {K : PySem.W.Frag} {CL : Addr} {cls : Value} {d : Option Addr} {P Q : Str → Prop} (h : ∀ w, P w → Q w) : ∀ {l : List (Addr × Str)}, pickA K CL cls d P l → pickA K CL cls d Q l
  | [], x => x
  | (C, w) :: r, ⟨b, h1, h2, h3⟩ => ⟨b, h1, fun e => ⟨(h2 e).1, h _ (h2 e).2⟩, fun e => pickA.mono h (h3 e)⟩
def ttA (K : PySem.W.Frag) (CL : Addr) (hs : List (Addr × Str)) (dn : Str) : (XK → Hp → VK → Prop) → Hp → VK → Prop := fun tl H Q =>
  tl (fun cls d H' => pickA K CL cls d (fun w => Q (.str w) H') hs) H fun _ H' => ∃ v : V, some (some (V.str dn)) = some (some v) ∧ Q v H'
abbrev nA : List Str := ["call", "word", "e"]
theorem wMany_pick {K : PySem.W.Frag} {CL : Addr} {Wout : WX} {D : Ends} {cls : Value} {d : Option Addr} {y0 y1 y2 : Option V} {H : Hp} : ∀ {hs : List (Addr × Str)}, pickA K CL cls d (fun w => D.nx [y0, some (.str w), none] H) hs →
    wManyN K Wout D 2 (hs.map fun p => (.ref p.1, tsA K CL 2 1 p.2)) cls d [y0, y1, y2] H
  | [], h => h.elim
  | (C, w) :: r, ⟨b, h1, h2, h3⟩ => ⟨b, h1, fun e a _ => ⟨rfl, (h2 e).1, (h2 e).2⟩, fun e => wMany_pick (h3 e)⟩
theorem takes_len {X : Cx} {W : WX} (tk : Takes X W) : Takes X (fun cls d σ H => σ.length = X.N.length → W cls d σ H) := fun e s' x => by
  obtain ⟨a, B, sI, pins', σ', H', cls, d, r, J', nb, up, sky, na, os, ag, w⟩ := x
  exact tk e s' ⟨a, B, sI, pins', σ', H', cls, d, r, J', nb, up, sky, na, os, ag, w J'.len⟩
theorem givesA {X : Cx} {x q dn w0 : Str} {sg : Scope} {g CL : Addr} {cdg : Value} {hs : List (Addr × Str)} {h₀ : ExceptHandler} {hds : List ExceptHandler} {j1 j2 : Nat} {p1 p2 p3 p4 p5 p6 p7 p8 p9 p10 p11 p12 : Pos}
    (S : FnScope nA ["call"] sg) (l1 : sg.names.lookup ("word" : Str) = some .local) (l2 : sg.names.lookup ("e" : Str) = some .local)
    (hh : ∀ (A : Around) (outer : List Env) (s : Shared) (H : Hp), HdsN (cxOf C8.CX0 X.prog X.w X.K X.mg X.base nA x sg g cdg A outer s H C8.E0).nox "e" (h₀ :: hds) (hs.map fun p => (.ref p.1, tsA X.K CL 2 1 p.2))) :
    LamX.GivesTo X nA x sg g cdg [.Assign [.Name "word" p1] (.Constant (.str w0) j1 p2) p3, .Try [.Expr (.Call (.Name "call" p4) [] [] p5) p6, .Assign [.Name "word" p7] (.Constant (.str dn) j2 p8) p9] (h₀ :: hds) [] [] p10, .Return (some (.Name "word" p11)) p12] "call" q (ttA X.K CL hs dn) := by
  intro f c' s H Q tl act hc h
  refine ⟨_, pss_cons (ps_set (i := 1) S.nd rfl (.inl l1) pe_str (by rfl) (.inr l1)) (pss_cons (ps_tryN (X := (cxOf C8.CX0 X.prog X.w X.K X.mg X.base nA x sg g cdg X.A X.stack s H C8.E0).nox) (i := 2)
      (tb := fun W D σ H => ∃ Ech : XK, (∀ cls d σ' H', Ech cls d H' → σ'.length = 3 → W cls d σ' H') ∧ σ[0]? = some (some (.ref f)) ∧ H c' = some (LamX.CodeO c' q) ∧ tl Ech H fun _ H' => D.nx (σ.set 1 (some (.str dn))) H')
      rfl rfl S.nd rfl l2 LamX.takes0 (fun W pn xe tk _ => ?_) (hh _ _ _ _)) (pss_one (ps_ret (pe_var (i := 1) rfl (.inl l1) (by decide) (by decide))))), ?_⟩
  · refine ⟨fun pins s' σ H' D I h' => ?_⟩
    obtain ⟨Ech, hW, h1, h2, h3⟩ := h'
    have hp := act _ pn xe Ech p4 p5 (takes_len tk) hW
    have hq := pss_cons (ps_expr (pos := p6) hp (by rfl)) (pss_one (ps_set (i := 1) (pos := p9) (pos' := p7) S.nd rfl (.inl l1) (pe_str (j := j2) (pos := p8) (x := dn)) (by rfl) (.inr l1)))
    exact hq.run pins s' σ H' D I ⟨h1, h2, h3⟩
  · refine ⟨fun cls d H' => pickA X.K CL cls d (fun w => Q (.str w) H') hs, fun cls d σ' H' hp hl => ?_, rfl, hc, ?_⟩
    · match σ', hl with
      | [y0, y1, y2], _ => exact wMany_pick (hp.mono fun w hw => ⟨_, rfl, hw⟩)
    · exact h

/-! ### x(lambda: ..) -/
def mLamA (hit : Str → Option Str) (dn : Str) (m : EM AV) : EM AV := fun env h => match m env h with
  | .ok _ h' => .ok (.str dn) h'
  | .exc c [] h' => (match hit c with | some w => .ok (.str w) h' | none => .bad)
  | _ => .bad
def HitOk (K : PySem.W.Frag) (mg : Str → Option Value) (CL : Addr) (hs : List (Addr × Str)) (hit : Str → Option Str) : Prop := ∀ c w D, hit c = some w → mg c = some (.ref D) → pickA K CL (.ref D) none (· = w) hs
theorem WI.extN {K : PySem.W.Frag} {mg : Str → Option Value} {G : Gh} {h : Hs} {H H1 : Hp} (w : WI K mg G h H) (e : LamX.ExtN H H1) (t : LamX.Tabs TabT.T H1) : WI K mg G h H1 := by
  refine ⟨fun b o q => e _ _ (w.F b o q) fun ps z => w.tb.nF b ps (by rw [q, z]), fun b o q => e _ _ (w.Z b o q) fun ps z => w.tb.nZ b ps (by rw [q, z]), w.FZ, fun n c hc => ?_, w.bnd, w.inj, t, w.tb.nF, w.tb.nZ⟩
  refine (w.cells n c hc).stay (Gh.le.refl _) (fun _ _ q => q) (fun a o ha ho => e _ _ ho fun ps z => ?_)
  cases hF : G.F a with
  | none =>
    obtain ⟨u, k1, k2, _⟩ := w.kind (w.bnd n a ha) ha hF
    rw [ho] at k1
    cases k1
    exact k2 ps z
  | some u =>
    have q := w.F a u hF
    rw [ho] at q
    cases q
    exact w.tb.nF a ps (by rw [hF, z])
theorem se_lamA {X : Cx} {W : WX} {j k : Nat} {hs : List (Addr × Str)} {hit : Str → Option Str} {dn : Str} {m : EM AV} {CL : Addr} {x a : Str} {g c P : Addr} {pg : Arguments} {bg : List Stmt} {sg : Scope} {dV kV doc pm cdv ct oc : Value} {an od : Option Addr} {osl : Array (Option Value)} {Ng : List Str}
    {params : Arguments} {body : Expr} {scope : Scope} {p lpos pos : Pos} (O : Ok X W j) (hj : k + 2 ≤ j) (hg : Gl X x) (hm : X.mg x = some (.ref g)) (hk : PySem.W.keepIn X.K (.ref g) = true)
    (lk : X.K.lookup g = some ⟨oc, od, .func (PySem.W.fnOf x x pg bg sg dV kV doc pm an cdv ct), osl⟩) (hcg : PySem.W.codeIn X.K cdv x = true) (hb : L2.Binds X.K (PySem.W.fnOf x x pg bg sg dV kV doc pm an cdv ct) [a] []) (Sg : FnScope Ng [a] sg) (hNg : Ng[0]? = some a) (hva : Vis sg a)
    (hG : LamX.GivesTo X Ng x sg g cdv bg a (X.env.qual ++ "<lambda>") (ttA X.K CL hs dn))
    (TB : LamX.TabB X.base X.mg c P) (hcode : X.env.code = .ref c) (hmT : (P, X.env.qual ++ "<lambda>") ∈ TabT.T) (hu : ∀ p ∈ TabT.T, p.1 = P → p.2 = X.env.qual ++ "<lambda>") (L : LamX.LamS X.env.scope scope) (hdef : defaultsOf params X.env = ([], []))
    (hbind : ∀ (q : Str) (cl : List (Str × Addr)) (pm cv ctv : Value), bindArgs (PySem.W.kla_fn "<lambda>" q params body scope cl pm cv ctv) ⟨[], []⟩ = pure [])
    (hH : HitOk X.K X.mg CL hs hit)
    (hbody : ∀ (A : Around) (outer : List Env) (s : Shared) (H : Hp) (E : XK) (f c' : Addr), Ok (LamX.lamCx X A outer s H E scope f c') (fnW E) k → SE (LamX.lamCx X A outer s H E scope f c') (fnW E) body m)
    (hdb : (x == ("__debug__" : Str)) = false := by decide) (hd : (a == ("__debug__" : Str)) = false := by decide) (hcd : (a == ("__classdict__" : Str)) = false := by decide) :
    SE X W (.Call (.Name x p) [.Lambda params body scope lpos] [] pos) (mLamA hit dn m) := by
  refine ⟨(LamX.pe_lamcall (T := TabT.T) (k := k) (t := fun E => tSE X (fnW E) m) hg hm hk lk hcg hb Sg hNg hva hG TB hcode hmT hu (O.hr.mono hj) L hdef hbind (fun A outer s H E f c' hr => ?_) hdb hd hcd).weak fun σ H Q ⟨G, h, env, w, re, p⟩ => ?_⟩
  · exact (hbody A outer s H E f c' ⟨O.nd, takes_of rfl rfl rfl rfl, hr, rfl, passes_of rfl⟩).pe
  · refine ⟨w.tb.T, fun H1 e t1 => ?_⟩
    refine ⟨G, h, env, w.extN e t1, re, ?_⟩
    unfold mLamA at p
    cases q : m env h with
    | bad => rw [q] at p; exact p.elim
    | ok v h1 =>
      rw [q] at p
      exact fun G' H' z l w' r => ⟨_, rfl, p G' H' (.str dn) l w' (.str dn)⟩
    | exc c fs h1 =>
      rw [q] at p
      cases fs with
      | cons f fs => exact p.elim
      | nil =>
        dsimp only at p
        cases hc : hit c with
        | none => rw [hc] at p; exact p.elim
        | some wd =>
          rw [hc] at p
          intro G' H' cls d l w' xr
          obtain ⟨D, x1, x2, x3⟩ := xr
          rcases x3 with ⟨_, rfl⟩ | ⟨_, _, _, _, _, z⟩
          · subst x2
            exact (hH c wd D hc x1).mono fun w0 e0 => by subst e0; exact p G' H' (.str _) l w' (.str _)
          · exact absurd rfl z
theorem se_lamF {X : Cx} {W : WX} {j k : Nat} {hs : List (Addr × Str)} {hit : Str → Option Str} {dn : Str} {m : EM AV} {CL : Addr} {x a q0 : Str} {g c P : Addr} {st : Stmt} {fd : FuncData} {Ng : List Str}
    {params : Arguments} {body : Expr} {scope : Scope} {p lpos pos : Pos} (O : Ok X W j) (hj : k + 2 ≤ j) (hm : X.mg x = some (.ref g)) (F : L2.Fun X.K x x st g fd) (hb : L2.Binds X.K fd [a] []) (Sg : FnScope Ng [a] (defScope st)) (hNg : Ng[0]? = some a) (hva : Vis (defScope st) a)
    (hG : ∀ cdv, LamX.GivesTo X Ng x (defScope st) g cdv (defBody st) a (X.env.qual ++ "<lambda>") (ttA X.K CL hs dn))
    (TB : LamX.TabB X.base X.mg c P) (hcode : X.env.code = .ref c) (hq : X.env.qual = q0) (hmT : (P, q0 ++ "<lambda>") ∈ TabT.T) (hu : ∀ p ∈ TabT.T, p.1 = P → p.2 = q0 ++ "<lambda>") (L : LamX.LamS X.env.scope scope) (hH : HitOk X.K X.mg CL hs hit)
    (hbody : ∀ (A : Around) (outer : List Env) (s : Shared) (H : Hp) (E : XK) (f c' : Addr), Ok (LamX.lamCx X A outer s H E scope f c') (fnW E) k → SE (LamX.lamCx X A outer s H E scope f c') (fnW E) body m)
    (hg : Gl X x := by rfl) (hdef : defaultsOf params X.env = ([], []) := by rfl)
    (hbind : ∀ (q : Str) (cl : List (Str × Addr)) (pm cv ctv : Value), bindArgs (PySem.W.kla_fn "<lambda>" q params body scope cl pm cv ctv) ⟨[], []⟩ = pure [] := by intros; rfl)
    (hdb : (x == ("__debug__" : Str)) = false := by decide) (hd : (a == ("__debug__" : Str)) = false := by decide) (hcd : (a == ("__classdict__" : Str)) = false := by decide) :
    SE X W (.Call (.Name x p) [.Lambda params body scope lpos] [] pos) (mLamA hit dn m) := by
  subst hq
  obtain ⟨oc, od, kV, doc, pm, an, cdv, ct, osl, rfl, lk, hcd'⟩ := F.ex
  exact se_lamA O hj hg hm F.kp lk hcd' hb Sg hNg hva (hG cdv) TB hcode hmT hu L hdef hbind hH hbody hdb hd hcd
theorem hit_of {K : PySem.W.Frag} {mg : Str → Option Value} {CL : Addr} {hs : List (Addr × Str)} {tab : List (Str × Str)} (h : ∀ p ∈ tab, ∀ D, mg p.1 = some (.ref D) → pickA K CL (.ref D) none (· = p.2) hs) : HitOk K mg CL hs fun c => tab.lookup c :=
  fun c w D e m => h (c, w) (PySem.mem_of_lookup e) D m
/-- THE RULE for a def, its code object told -/
theorem fn_mkC {P : Program} {w : World} {K : PySem.W.Frag} {mg : Str → Option Value} {base : Heap} {x qual : Str} {st : Stmt} {f : Addr} {fd : FuncData} {N ps : List Str} {k : Nat} {s : SM} (F : L2.Fun K x qual st f fd) (S : FnScope N ps (defScope st))
    (hb : ∀ (cdv : Value) (A : Around) (outer : List Env) (sh : Shared) (H : Hp) (E : XK), fd.code = cdv → Ok (cxOf (L2.CX P w) P w K mg base N qual (defScope st) f cdv A outer sh H E) (fnW E) k → SSs (cxOf (L2.CX P w) P w K mg base N qual (defScope st) f cdv A outer sh H E) (fnW E) (defBody st) s) :
    FnOk P w K mg base (L2.CX P w) (k + 1) f fd ps (spM K mg ps.length (bodyM (N.length - ps.length) s)) := by
  obtain ⟨oc, od, kV, doc, pm, an, cdv, ct, osl, rfl, lk, hcd⟩ := F.ex
  refine fn_of lk hcd S (fun vs H Q E h => h.1) fun A outer sh H vs Q E hr h => ?_
  obtain ⟨hl, G, h0, avs, w', rs, p⟩ := h
  refine ⟨_, (hb cdv A outer sh H E rfl ⟨S.nd, takes_of rfl rfl rfl rfl, hr, rfl, passes_of rfl⟩).pss, ?_⟩
  have hl2 := rs.length
  refine ⟨G, h0, avs.map some ++ List.replicate (N.length - ps.length) none, w', ?_, ?_⟩
  · show RE K mg G _ (L2.start N vs)
    unfold L2.start
    rw [hl]
    exact RE.start _ rs
  · unfold bodyM at p
    cases e : s (avs.map some ++ List.replicate (N.length - ps.length) none) h0 with
    | nx e1 h1 => rw [e] at p; exact fun G' H' σ' l w re => p G' H' _ l w .non
    | rt v h1 => rw [e] at p; exact p
    | exc c fs e1 h1 => rw [e] at p; exact fun G' H' σ' cls d l w re => p G' H' cls d l w
    | bk e1 h1 => rw [e] at p; exact p.elim
    | ct e1 h1 => rw [e] at p; exact p.elim
    | bad => rw [e] at p; exact p.elim
theorem qual_cx {CX : CXT} {P : Program} {w : World} {K : PySem.W.Frag} {mg : Str → Option Value} {base : Heap} {N : List Str} {q : Str} {sc : Scope} {f : Addr} {cd : Value} {A : Around} {outer : List Env} {sh : Shared} {H : Hp} {E : XK} : (cxOf CX P w K mg base N q sc f cd A outer sh H E).env.qual = q ++ ".<locals>." := rfl
end Sim

set_option Elab.async false
set_option linter.all false
set_option maxRecDepth 100000
set_option maxHeartbeats 2000000
namespace Sim
open PySem PySem.Spec L2
open PyProof.Rows hiding St
variable [TabT]
def setAll : AEnv → List Nat → List AV → AEnv
  | env, i :: is, x :: xs => setAll (env.set i (some x)) is xs
  | env, _, _ => env
def sPar (as : EM (List AV)) (is : List Nat) : SM := sThen as fun xs env h => if xs.length = is.length then .nx (setAll env is xs) h else .bad
section
variable {X : Cx} {W : WX} {k : Nat}
theorem tLs_of {m : EM (List AV)} {i : Nat} {D : Ends} {σ : L2.St} {H : Hp} (t : tSS X W (sSet i (mLs m)) D σ H) : tSF X W m σ H fun x H1 => D.nx (σ.set i (some x)) H1 := by
  obtain ⟨G, h, env, w, re, p⟩ := t
  refine ⟨G, h, env, w, re, ?_⟩
  unfold sSet sThen mLs M.bnd at p
  cases e : m env h with
  | bad => rw [e] at p; exact p
  | exc c fs h1 => rw [e] at p; exact fun G' H' cls d l w' x => p G' H' σ cls d l w' (re.mono l) x
  | ok xs h1 =>
    rw [e] at p
    intro G' H' a vs l w' ha rs
    have le : G'.le (G'.addF a (.lst vs)) := Gh.addF_le (w'.freeF ha)
    exact p _ _ _ (l.trans le) (w'.newF ha) ((re.mono (l.trans le)).set (.lst upd_same (rs.mono le)) i)
theorem tLC_of {m : EM (List AV)} {i : Nat} {D : Ends} {σ : L2.St} {H : Hp} (t : tSS X W (sSet i (mLC m)) D σ H) : tSF X W m σ H fun x H1 => D.nx (σ.set i (some x)) H1 := by
  obtain ⟨G, h, env, w, re, p⟩ := t
  refine ⟨G, h, env, w, re, ?_⟩
  unfold sSet sThen mLC M.bnd at p
  cases e : m env h with
  | bad => rw [e] at p; exact p
  | exc c fs h1 => rw [e] at p; exact fun G' H' cls d l w' x => p G' H' σ cls d l w' (re.mono l) x
  | ok xs h1 =>
    rw [e] at p
    intro G' H' a vs l w' ha rs
    obtain ⟨le, w2, r2⟩ := w'.newL ha rs
    exact p _ _ _ (l.trans le) w2 ((re.mono (l.trans le)).set r2 i)
section
variable {elt tg iter : Expr} {ifs : List Expr} {scope : Scope} {own : List (Str × Nat)} {pos py spos : Pos} {mi : EM (List AV)} {ow : List Nat} {g : GT} {bt : EM Bool} {me : EM AV} {i : Nat} {y : Str}
theorem ss_setLs (O : Ok X W k) (hy : X.N[i]? = some y) (hyl : X.env.scope.names.lookup y = some .local) (hsw : swapsWith (.ListComp elt [⟨tg, iter, ifs, 0⟩] scope pos) (some (.Name y py)) spos.line X.env = pure true)
    (hi : SI X W tg iter mi) (ok : BlkOk X.N X.env.scope scope own) (how : ∀ i ∈ ow, i ∈ own.map (·.2))
    (hg : ∀ s H C cl fp, SG (blkX X scope s H C cl fp) tg ow g) (ht : ∀ s H C cl fp, STs (blkX X scope s H C cl fp) noW ifs bt) (he : ∀ s H C cl fp, SE (blkX X scope s H C cl fp) noW elt me) (hs : ∀ x, foldedSetIterable iter X.env x = pure x := by intro _; rfl) :
    SS X W (.Assign [.Name y py] (.ListComp elt [⟨tg, iter, ifs, 0⟩] scope pos) spos) (sSet i (mLs (mLc (own.map (·.2)) mi g bt me))) :=
  ⟨(ps_setLc (tt := tST X noW bt) (g := tSG X ow g) (te := tSE X noW me) O.calm O.nd hy hyl hsw hi.pi ok (fun s H C cl fp => (hg s H C cl fp).pg) (fun s H C cl fp => (ht s H C cl fp).pts) (fun s H C cl fp => (he s H C cl fp).pe) hs).weak fun D σ H t => tLc_of how (tLs_of t)⟩
theorem ss_setLC (O : Ok X W k) (hy : X.N[i]? = some y) (hyl : X.env.scope.names.lookup y = some .local) (hsw : swapsWith (.ListComp elt [⟨tg, iter, ifs, 0⟩] scope pos) (some (.Name y py)) spos.line X.env = pure true)
    (hi : SI X W tg iter mi) (ok : BlkOk X.N X.env.scope scope own) (how : ∀ i ∈ ow, i ∈ own.map (·.2))
    (hg : ∀ s H C cl fp, SG (blkX X scope s H C cl fp) tg ow g) (ht : ∀ s H C cl fp, STs (blkX X scope s H C cl fp) noW ifs bt) (he : ∀ s H C cl fp, SE (blkX X scope s H C cl fp) noW elt me) (hs : ∀ x, foldedSetIterable iter X.env x = pure x := by intro _; rfl) :
    SS X W (.Assign [.Name y py] (.ListComp elt [⟨tg, iter, ifs, 0⟩] scope pos) spos) (sSet i (mLC (mLc (own.map (·.2)) mi g bt me))) :=
  ⟨(ps_setLc (tt := tST X noW bt) (g := tSG X ow g) (te := tSE X noW me) O.calm O.nd hy hyl hsw hi.pi ok (fun s H C cl fp => (hg s H C cl fp).pg) (fun s H C cl fp => (ht s H C cl fp).pts) (fun s H C cl fp => (he s H C cl fp).pe) hs).weak fun D σ H t => tLc_of how (tLC_of t)⟩
end
theorem ss_par2 {i j : Nat} {x y : Str} {a b : Expr} {as : EM (List AV)} {px py pt pos : Pos} {kt k2 pt2} (O : Ok X W k) (hi : X.N[i]? = some x) (hj : X.N[j]? = some y) (hij : i ≠ j) (hx : X.env.scope.names.lookup x = some .local) (hy : X.env.scope.names.lookup y = some .local)
    (ha : SA X W [a, b] as) (hw : swappedStores [.Tuple [.Name x px, .Name y py] kt pt] (.Tuple [a, b] k2 pt2) X.env = pure (some [x, y])) (hs : swapsWithSole [.Tuple [.Name x px, .Name y py] kt pt] (.Tuple [a, b] k2 pt2) pos.line X.env = pure false := by rfl) :
    SS X W (.Assign [.Tuple [.Name x px, .Name y py] kt pt] (.Tuple [a, b] k2 pt2) pos) (sPar as [i, j]) := by
  refine ⟨(ps_par O.calm O.nd hi hj hij hx hy ha.pa hw hs).weak fun D σ H ⟨G, h, env, w, re, p⟩ => ⟨G, h, env, w, re, postS_then re p fun xs h1 G1 H1 zs l1 w1 r1 re1 p1 => ?_⟩⟩
  split at p1
  · rename_i hl
    match xs, zs, r1, hl with
    | [a, b], [v, w'], .cons ra (.cons rb .nil), _ => exact ⟨v, w', rfl, p1 G1 H1 _ (.refl G1) w1 ((re1.set ra i).set rb j)⟩
  · exact p1.elim
theorem ss_par3 {i j l : Nat} {x y z : Str} {a b c : Expr} {as : EM (List AV)} {px py pz pt pos : Pos} {kt k2 pt2} (O : Ok X W k) (hi : X.N[i]? = some x) (hj : X.N[j]? = some y) (hl : X.N[l]? = some z) (hij : i ≠ j) (hil : i ≠ l) (hjl : j ≠ l)
    (hx : X.env.scope.names.lookup x = some .local) (hy : X.env.scope.names.lookup y = some .local) (hz : X.env.scope.names.lookup z = some .local)
    (ha : SA X W [a, b, c] as) (hw : swappedStores [.Tuple [.Name x px, .Name y py, .Name z pz] kt pt] (.Tuple [a, b, c] k2 pt2) X.env = pure (some [x, y, z])) (hs : swapsWithSole [.Tuple [.Name x px, .Name y py, .Name z pz] kt pt] (.Tuple [a, b, c] k2 pt2) pos.line X.env = pure false := by rfl) :
    SS X W (.Assign [.Tuple [.Name x px, .Name y py, .Name z pz] kt pt] (.Tuple [a, b, c] k2 pt2) pos) (sPar as [i, j, l]) := by
  refine ⟨(ps_par3 O.calm O.nd hi hj hl hij hil hjl hx hy hz ha.pa hw hs).weak fun D σ H ⟨G, h, env, w, re, p⟩ => ⟨G, h, env, w, re, postS_then re p fun xs h1 G1 H1 zs l1 w1 r1 re1 p1 => ?_⟩⟩
  split at p1
  · rename_i hl
    match xs, zs, r1, hl with
    | [a, b, c], [u, v, w'], .cons ra (.cons rb (.cons rc .nil)), _ => exact ⟨u, v, w', rfl, p1 G1 H1 _ (.refl G1) w1 (((re1.set ra i).set rb j).set rc l)⟩
  · exact p1.elim
end
end Sim

set_option Elab.async false
set_option linter.all false
set_option maxRecDepth 100000
set_option maxHeartbeats 2000000
namespace Sim
open PySem PySem.Spec L2
open PyProof.Rows hiding St
variable [TabT]
/-! ### a list that may change, walked -/
def contL (h : Hs) (n : Nat) : Option (List AV) := match h[n]? with
  | some (.lst ys) => some ys
  | some (.frz (.lst ys)) => some ys
  | _ => none
def lcC (g : GT) (t : EM Bool) (e : EM AV) (env : AEnv) (n : Nat) : Nat → Nat → M (List AV)
  | 0, i => fun h => match contL h n with
    | none => .bad
    | some ys => if i = ys.length then .ok [] h else .bad
  | f + 1, i => fun h => match contL h n with
    | none => .bad
    | some ys => match ys[i]? with
      | none => if i = ys.length then .ok [] h else .bad
      | some x => match g x env with
        | none => .bad
        | some e' => ((noexc (t e')).bnd fun b => if b = true then (noexc (e e')).bnd fun y => (lcC g t e env n f (i + 1)).bnd fun ys => M.ret (y :: ys) else lcC g t e env n f (i + 1)) h
def mLcC (vs : List Nat) (mi : EM AV) (g : GT) (t : EM Bool) (e : EM AV) : EM (List AV) := fun env => (mi env).bnd fun x => match x with
  | .cell n => fun h => match contL h n with
    | none => .bad
    | some ys => if small ys then lcC g t e (wipeE env vs) n ys.length 0 h else .bad
  | _ => M.bad
section
variable {X : Cx} {W : WX} {k : Nat}
theorem lcC_ne {g : GT} {t : EM Bool} {e : EM AV} {env : AEnv} {n : Nat} : ∀ (f i : Nat) (h : Hs) (c : Str) (fs : List (Str × AV)) (h' : Hs), lcC g t e env n f i h ≠ .exc c fs h'
  | 0, i, h, c, fs, h' => by
    unfold lcC
    cases contL h n with
    | none => intro q; cases q
    | some ys =>
      dsimp only
      split <;> (intro q; cases q)
  | f + 1, i, h, c, fs, h' => by
    unfold lcC
    cases contL h n with
    | none => intro q; cases q
    | some ys =>
      dsimp only
      cases ys[i]? with
      | none => dsimp only; split <;> (intro q; cases q)
      | some x =>
        dsimp only
        cases g x env with
        | none => intro q; cases q
        | some e' =>
          dsimp only
          refine bnd_ne (noexc_ne _) (fun b h c fs h' => ?_) h c fs h'
          by_cases hb : b = true
          · rw [if_pos hb]
            exact bnd_ne (noexc_ne _) (fun y h c fs h' => bnd_ne (lcC_ne f (i + 1)) (fun ys h c fs h' q => by cases q) h c fs h') h c fs h'
          · rw [if_neg hb]
            exact lcC_ne f (i + 1) h c fs h'
def IOc (X : Cx) (G : Gh) (J : It) (n : Nat) : Prop := ∀ G1 h1 H1, G.lt G1 → WI X.K X.mg G1 h1 H1 → ∀ ys, contL h1 n = some ys → J.stop ys.length H1 ∧
  ∀ i, i < ys.length → J.go i H1 ∧ ∀ x H2, J.yld i H1 x H2 → ∃ G2 a, G1.le G2 ∧ WI X.K X.mg G2 h1 H2 ∧ ys[i]? = some a ∧ R X.K X.mg G2 a x
def tSIc (X : Cx) (W : WX) (m : EM AV) : TI := fun σ H R => ∃ G h env, WI X.K X.mg G h H ∧ RE X.K X.mg G env σ ∧ match m env h with
  | .ok (.cell n) h' => (contL h' n).isSome = true ∧ ∀ G' H' J, G.le G' → WI X.K X.mg G' h' H' → IOc X G' J n → R J H'
  | .ok _ _ => False
  | .exc c fs h' => ∀ G' H' cls d, G.le G' → WI X.K X.mg G' h' H' → XR X.K X.mg G' c fs cls d → W cls d σ H'
  | .bad => False
structure SIc (X : Cx) (W : WX) (tg iter : Expr) (m : EM AV) : Prop where
  pi : PI X tg iter (tSIc X W m)
variable {tg iter : Expr}
theorem contL_at {K : PySem.W.Frag} {mg : Str → Option Value} {G : Gh} {h : Hs} {H : Hp} {n : Nat} {a : Addr} {ys : List AV} (w : WI K mg G h H) (e : G.mu n = some a) (c : contL h n = some ys) : ∃ vs, H a = some (.lst vs) ∧ Rs K mg G ys vs := by
  unfold contL at c
  cases q : h[n]? with
  | none => rw [q] at c; cases c
  | some cc =>
    rw [q] at c
    have x := w.cells n cc q
    cases cc with
    | lst zs =>
      cases c
      obtain ⟨b, vs, h1, _, _, h2, h3⟩ := x
      rw [e] at h1; cases h1
      exact ⟨vs, h2, h3⟩
    | frz v =>
      cases v with
      | lst zs =>
        cases c
        obtain ⟨b, o, h1, h2, h3⟩ := x
        rw [e] at h1; cases h1
        cases h3 with
        | @lst _ _ vs hF rs => exact ⟨vs, w.F _ _ hF, rs⟩
      | _ => cases c
    | dct _ => cases c
    | ins _ _ => cases c
theorem sic_cell {m : EM AV} (h : SE X W iter m) : SIc X W tg iter m := by
  refine ⟨(pi_list h.pe).weak fun σ H Q ⟨G, h0, env, w, re, p⟩ => ⟨G, h0, env, w, re, ?_⟩⟩
  cases e : m env h0 with
  | bad => rw [e] at p; exact p
  | exc c fs h1 => rw [e] at p; exact p
  | ok x h1 =>
    rw [e] at p
    intro G' H' z l w' r
    cases x with
    | cell n =>
      cases r with
      | @cell _ a hm =>
        have p' : (contL h1 n).isSome = true ∧ ∀ G' H' J, G.le G' → WI X.K X.mg G' h1 H' → IOc X G' J n → Q J H' := p
        obtain ⟨ys0, e0⟩ := Option.isSome_iff_exists.mp p'.1
        obtain ⟨vs0, q0, _⟩ := contL_at w' hm e0
        refine ⟨a, rfl, ⟨vs0, .inl (.inl q0)⟩, p'.2 G' H' _ l w' fun G1 h2 H1 l1 w1 ys ec => ?_⟩
        obtain ⟨vs, q1, rs⟩ := contL_at w1 (l1.mu _ _ hm) ec
        have hS : SqL X.K H1 a vs := .inl (.inl q1)
        have hl := rs.length
        refine ⟨by rw [hl]; exact walk_list.stops H1 hS, fun i hi => ⟨walk_list.goes i H1 (by omega) hS, fun x H2 y => ?_⟩⟩
        obtain ⟨rfl, e⟩ := walk_list.yields i H1 x H2 (by omega) hS y
        obtain ⟨b, e2, rb⟩ := rs.getV e
        exact ⟨G1, b, .refl _, w1, e2, rb⟩
    | _ => exact p.elim
theorem tLcC_of {own : List (Str × Nat)} {mi : EM AV} {ow : List Nat} {g : GT} {bt : EM Bool} {me : EM AV} (how : ∀ i ∈ ow, i ∈ own.map (·.2)) {σ : L2.St} {H : Hp} {Q : VK} (t : tSF X W (mLcC (own.map (·.2)) mi g bt me) σ H Q) :
    tLc (tSIc X W mi) (tSG X ow g) (tST X noW bt) (tSE X noW me) (own.map (·.2)) σ H Q := by
  obtain ⟨G, h, env, w, re, p⟩ := t
  refine ⟨G, h, env, w, re, ?_⟩
  unfold mLcC M.bnd at p
  cases e : mi env h with
  | bad => rw [e] at p; exact p
  | exc c fs h1 => rw [e] at p; exact p
  | ok x h1 =>
    rw [e] at p
    cases x with
    | cell n =>
      dsimp only at p
      cases ec : contL h1 n with
      | none => rw [ec] at p; exact p.elim
      | some xs0 =>
      rw [ec] at p
      dsimp only at p
      by_cases hsm : small xs0 = true
      · rw [if_pos hsm] at p
        have hlen : xs0.length ≤ sizeLine := of_decide_eq_true hsm
        refine ⟨by rw [ec]; rfl, ?_⟩
        intro G' H' J l w' ik D hD
        have hZD := w'.freeZ hD
        -- what is left: from as, xs' at store h2
        refine ⟨fun i m H2 => ∃ G1 h2 as vacc, G'.le G1 ∧ Rs X.K X.mg G1 as vacc ∧ WI X.K X.mg (G1.hold D vacc) h2 H2 ∧ as.length ≤ i ∧ m = xs0.length - i ∧ i ≤ xs0.length ∧
            (match ((lcC g bt me (wipeE env (own.map (·.2))) n (xs0.length - i) i).bnd fun ys => M.ret (as ++ ys)) h2 with
              | .ok zs h' => ∀ G3 H3 p vs, G1.le G3 → WI X.K X.mg G3 h' H3 → H3 p = none → Rs X.K X.mg G3 zs vs → Q (.ref p) (upd H3 p (.lst vs))
              | _ => False), ⟨xs0.length, G', h1, [], [], .refl _, .nil, w'.hold hD, Nat.le_refl _, by simp, Nat.zero_le _, ?_⟩, ?_⟩
        · rw [Nat.sub_zero]
          unfold M.bnd
          cases e2 : lcC g bt me (wipeE env (own.map (·.2))) n xs0.length 0 h1 with
          | ok zs h3 => rw [e2] at p; exact fun G3 H3 q vs l3 => p G3 H3 q vs (l.trans l3)
          | exc c fs h3 =>
            exfalso
            exact lcC_ne _ _ h1 c fs h3 e2
          | bad => rw [e2] at p; exact p
        · rintro i m H2 ⟨G1, h2, as, vacc, l1, ra, w2, hal, rfl, hi2, p2⟩
          have hZ1 : G1.Z D = none := by rw [l1.Z]; exact hZD
          cases ey : contL h2 n with
          | none =>
            have z : lcC g bt me (wipeE env (own.map (·.2))) n (xs0.length - i) i h2 = .bad := by
              cases xs0.length - i <;> (unfold lcC; rw [ey])
            unfold M.bnd at p2
            rw [z] at p2
            exact p2.elim
          | some ys =>
          obtain ⟨stop, go⟩ := ik (G1.hold D vacc) h2 H2 (l1.lt.trans (G1.hold_lt D vacc)) w2 ys ey
          cases ex : ys[i]? with
          | some x0 =>
            have hlt : i < ys.length := (List.getElem?_eq_some_iff.mp ex).1
            have hlt2 : i < xs0.length := by
              refine Nat.lt_of_not_le fun hh => ?_
              have z : lcC g bt me (wipeE env (own.map (·.2))) n (xs0.length - i) i h2 = .bad := by
                rw [show xs0.length - i = 0 by omega]
                unfold lcC
                rw [ey]
                dsimp only
                rw [if_neg (by omega)]
              unfold M.bnd at p2
              rw [z] at p2
              exact p2.elim
            obtain ⟨go1, yld⟩ := go i hlt
            refine .inr ⟨go1, fun H3 => ∃ G1 h2 as vacc, G'.le G1 ∧ Rs X.K X.mg G1 as vacc ∧ WI X.K X.mg (G1.hold D vacc) h2 H3 ∧ as.length ≤ i + 1 ∧
                (match ((lcC g bt me (wipeE env (own.map (·.2))) n (xs0.length - (i + 1)) (i + 1)).bnd fun ys => M.ret (as ++ ys)) h2 with
                  | .ok zs h' => ∀ G3 H3 p vs, G1.le G3 → WI X.K X.mg G3 h' H3 → H3 p = none → Rs X.K X.mg G3 zs vs → Q (.ref p) (upd H3 p (.lst vs))
                  | _ => False), ?_, ?_⟩
            · rintro H3 ⟨G2, h3, as2, vacc2, q1, q2, q3, q4, q5⟩
              exact ⟨xs0.length - (i + 1), by omega, G2, h3, as2, vacc2, q1, q2, q3, q4, rfl, hlt2, q5⟩
            · intro x H3 y
              obtain ⟨G2, a, l2, w3, ea, rx⟩ := yld x H3 y
              have ex2 : x0 = a := by rw [ex] at ea; exact Option.some.inj ea
              subst ex2
              rw [show xs0.length - i = (xs0.length - (i + 1)) + 1 by omega] at p2
              unfold M.bnd at p2
              unfold lcC at p2
              rw [ey] at p2
              dsimp only at p2
              rw [ex] at p2
              dsimp only at p2
              have rew : RE X.K X.mg G2 (wipeE env (own.map (·.2))) (wipe σ (own.map (·.2))) := (((re.mono (l.trans l1)).wipe _).monoL (G1.hold_lt D vacc)).mono l2
              cases eg : g x0 (wipeE env (own.map (·.2))) with
              | none => rw [eg] at p2; exact p2.elim
              | some e2 =>
                rw [eg] at p2
                dsimp only at p2
                refine ⟨G2, h2, _, x0, e2, w3, rew, rx, eg, fun G3 H4 σ3 l3 w4 re3 bu => ⟨by rw [bu _ how]; exact wipe_idem _ _, ?_⟩⟩
                refine ⟨G3, h2, e2, w4, re3, ?_⟩
                -- the test
                unfold M.bnd at p2
                cases et : noexc (bt e2) h2 with
                | bad => rw [et] at p2; exact p2.elim
                | exc c fs h3 => rw [et] at p2; exact p2.elim
                | ok b h3 =>
                  rw [et] at p2
                  dsimp only at p2
                  have et2 : bt e2 h2 = .ok b h3 := by
                    unfold noexc at et
                    split at et
                    · cases et
                    · exact et
                  rw [et2]
                  intro G4 H5 b' l4 w5 rb
                  subst rb
                  by_cases hb : b = true
                  · rw [if_pos hb] at p2 ⊢
                    refine ⟨G4, h3, e2, w5, re3.mono l4, ?_⟩
                    cases ee : noexc (me e2) h3 with
                    | bad => rw [ee] at p2; exact p2.elim
                    | exc c fs h4 => rw [ee] at p2; exact p2.elim
                    | ok yv h4 =>
                      rw [ee] at p2
                      dsimp only at p2
                      have ee2 : me e2 h3 = .ok yv h4 := by
                        unfold noexc at ee
                        split at ee
                        · cases ee
                        · exact ee
                      rw [ee2]
                      intro G5 H6 yy l5 w6 ry
                      -- the list grows
                      obtain ⟨lu, eu⟩ := unhold (l2.trans (l3.trans (l4.trans l5)))
                      rw [eu] at w6
                      obtain ⟨hDD, w7⟩ := w6.letgo (by show G1.Z D = none; exact hZ1)
                      refine ⟨vacc, hDD, ?_, ({ G5 with Z := G1.Z } : Gh), h4, as ++ [yv], vacc ++ [yy], l1.trans lu, ?_, ?_, ?_, ?_⟩
                      · rw [← ra.length]; omega
                      · exact Rs.append (ra.mono lu) (.cons (R.monoL (G := G5) (G' := { G5 with Z := G1.Z }) ⟨Same.refl _, fun _ _ q => q, rfl⟩ ry) .nil)
                      · have w8 := w7.hold (D := D) (vs := vacc ++ [yy]) offH_at
                        have eqh : upd (offH H6 D) D (.lst (vacc ++ [yy])) = upd H6 D (.lst (vacc ++ [yy])) := by
                          funext b
                          by_cases hb2 : b = D
                          · subst hb2; rw [upd_same, upd_same]
                          · rw [upd_ne hb2, upd_ne hb2]; unfold offH; rw [if_neg hb2]
                        rw [eqh] at w8
                        exact w8
                      · rw [List.length_append, List.length_singleton]; omega
                      · cases er : lcC g bt me (wipeE env (own.map (·.2))) n (xs0.length - (i + 1)) (i + 1) h4 with
                        | bad => rw [er] at p2; exact p2.elim
                        | exc c fs h5 => rw [er] at p2; exact p2.elim
                        | ok zs h5 =>
                          rw [er] at p2
                          have p3 : ∀ G3 H3 p vs, G1.le G3 → WI X.K X.mg G3 h5 H3 → H3 p = none → Rs X.K X.mg G3 (as ++ yv :: zs) vs → Q (.ref p) (upd H3 p (.lst vs)) := p2
                          unfold M.bnd
                          rw [er]
                          intro G6 H7 pp vs l6 w9 hp rs
                          have rs' : Rs X.K X.mg G6 (as ++ yv :: zs) vs := by
                            have e1 : as ++ [yv] ++ zs = as ++ yv :: zs := by rw [List.append_assoc]; rfl
                            rw [← e1]; exact rs
                          exact p3 G6 H7 pp vs (lu.trans l6) w9 hp rs'
                  · rw [if_neg hb] at p2 ⊢
                    obtain ⟨lu, eu⟩ := unhold (l2.trans (l3.trans l4))
                    rw [eu] at w5
                    refine ⟨({ G4 with Z := G1.Z } : Gh), h3, as, vacc, l1.trans lu, ra.mono lu, w5, by omega, ?_⟩
                    cases er : lcC g bt me (wipeE env (own.map (·.2))) n (xs0.length - (i + 1)) (i + 1) h3 with
                    | bad => rw [er] at p2; exact p2.elim
                    | exc c fs h5 => rw [er] at p2; exact p2.elim
                    | ok zs h5 =>
                      rw [er] at p2
                      have p3 : ∀ G3 H3 p vs, G1.le G3 → WI X.K X.mg G3 h5 H3 → H3 p = none → Rs X.K X.mg G3 (as ++ zs) vs → Q (.ref p) (upd H3 p (.lst vs)) := p2
                      unfold M.bnd
                      rw [er]
                      exact fun G6 H7 pp vs l6 => p3 G6 H7 pp vs (lu.trans l6)
          | none =>
            have ei : i = ys.length := by
              refine Classical.byContradiction fun hh => ?_
              have z : lcC g bt me (wipeE env (own.map (·.2))) n (xs0.length - i) i h2 = .bad := by
                cases xs0.length - i with
                | zero => unfold lcC; rw [ey]; dsimp only; rw [if_neg hh]
                | succ f => unfold lcC; rw [ey]; dsimp only; rw [ex]; dsimp only; rw [if_neg hh]
              unfold M.bnd at p2
              rw [z] at p2
              exact p2.elim
            have z : lcC g bt me (wipeE env (own.map (·.2))) n (xs0.length - i) i h2 = .ok [] h2 := by
              cases xs0.length - i with
              | zero => unfold lcC; rw [ey]; dsimp only; rw [if_pos ei]
              | succ f => unfold lcC; rw [ey]; dsimp only; rw [ex]; dsimp only; rw [if_pos ei]
            unfold M.bnd at p2
            rw [z] at p2
            rw [ei]
            refine .inl ⟨stop, ?_⟩
            obtain ⟨hDD, w7⟩ := w2.letgo hZ1
            have p3 : ∀ G3 H3 p vs, G1.le G3 → WI X.K X.mg G3 h2 H3 → H3 p = none → Rs X.K X.mg G3 (as ++ []) vs → Q (.ref p) (upd H3 p (.lst vs)) := p2
            have q := p3 G1 (offH H2 D) D vacc (.refl _) w7 offH_at (by rw [List.append_nil]; exact ra)
            rw [offH_upd hDD] at q
            exact q
      · rw [if_neg hsm] at p; exact p.elim
    | _ => exact p.elim

theorem sf_lcC {elt : Expr} {ifs : List Expr} {scope : Scope} {own : List (Str × Nat)} {pos : Pos} {mi : EM AV} {ow : List Nat} {g : GT} {bt : EM Bool} {me : EM AV} (O : Ok X W k) (hi : SIc X W tg iter mi) (ok : BlkOk X.N X.env.scope scope own) (how : ∀ i ∈ ow, i ∈ own.map (·.2))
    (hg : ∀ s H C cl fp, SG (blkX X scope s H C cl fp) tg ow g) (ht : ∀ s H C cl fp, STs (blkX X scope s H C cl fp) noW ifs bt) (he : ∀ s H C cl fp, SE (blkX X scope s H C cl fp) noW elt me) (hs : ∀ x, foldedSetIterable iter X.env x = pure x := by intro _; rfl) :
    SF X W (.ListComp elt [⟨tg, iter, ifs, 0⟩] scope pos) (mLcC (own.map (·.2)) mi g bt me) :=
  ⟨(pe_lc (tt := tST X noW bt) (g := tSG X ow g) (te := tSE X noW me) O.calm O.nd hi.pi ok (fun s H C cl fp => (hg s H C cl fp).pg) (fun s H C cl fp => (ht s H C cl fp).pts) (fun s H C cl fp => (he s H C cl fp).pe) hs).weak fun σ H Q t => tLcC_of how t⟩
end
theorem Ok.u64 {X : Cx} {W : WX} {k : Nat} (O : Ok X W k) : X.A.units + 64 < cLine := O.hr.units
theorem Ok.u65 {X : Cx} {W : WX} {k : Nat} (O : Ok X W k) : X.A.units + 65 < cLine := by have := O.hr.un; omega
theorem Ok.u0 {X : Cx} {W : WX} {k : Nat} (O : Ok X W k) : X.A.units < cLine := O.hr.units0
end Sim

set_option Elab.async false
set_option linter.all false
set_option maxRecDepth 100000
set_option maxHeartbeats 2000000
namespace Sim
open PySem PySem.Spec L2
open PyProof.Rows hiding St
variable [TabT]
/-! SimQ: own classes: attributes, stores, making, methods, own ==. -/
/-- each of these classes is plain and has no f of its own -/
def FldOk (K : PySem.W.Frag) (mg : Str → Option Value) (cs : List Str) (f : Str) : Prop := ∀ c ∈ cs, ∃ C, mg c = some (.ref C) ∧ Cls K C ∧ NoAttr K C f
theorem FldOk.nil {K : PySem.W.Frag} {mg : Str → Option Value} {f : Str} : FldOk K mg [] f := fun _ h => nomatch h
theorem FldOk.cons {K : PySem.W.Frag} {mg : Str → Option Value} {f c : Str} {C : Addr} {cs : List Str} (g : mg c = some (.ref C)) (cl : Cls K C) (na : NoAttr K C f) (r : FldOk K mg cs f) : FldOk K mg (c :: cs) f := fun d hd => by
  rcases List.mem_cons.mp hd with e | e
  · subst e; exact ⟨C, g, cl, na⟩
  · exact r d e
/-- an instance: its class, its attributes -/
def insOf (h : Hs) : AV → Option (Str × List (Str × AV))
  | .obj c fs => some (c, fs)
  | .cell n => match h[n]? with
    | some (.ins c fs) => some (c, fs)
    | some (.frz (.obj c fs)) => some (c, fs)
    | _ => none
  | _ => none
def fldA (cs : List Str) (f : Str) (h : Hs) (x : AV) : Option AV := match insOf h x with
  | some (c, fs) => if c ∈ cs then fs.lookup f else none
  | none => none
section
variable {K : PySem.W.Frag} {mg : Str → Option Value} {G G' : Gh} {h : Hs} {H : Hp}
theorem R.ins {x : AV} {v : V} {c : Str} {fs : List (Str × AV)} (w : WI K mg G h H) (r : R K mg G x v) (e : insOf h x = some (c, fs)) :
    ∃ a C dx vfs, v = .ref a ∧ mg c = some (.ref C) ∧ H a = some (.ins C dx vfs) ∧ Rf K mg G fs vfs := by
  cases r with
  | @obj c0 C a dx fs0 vfs hc he t => cases e; exact ⟨a, C, dx, vfs, rfl, hc, w.F _ _ he, t⟩
  | @cell n a hm =>
    have eq : insOf h (.cell n) = (match h[n]? with | some (.ins c fs) => some (c, fs) | some (.frz (.obj c fs)) => some (c, fs) | _ => none) := rfl
    rw [eq] at e
    cases hn : h[n]? with
    | none => rw [hn] at e; cases e
    | some c1 =>
      rw [hn] at e
      cases c1 with
      | lst ys => cases e
      | dct ys => cases e
      | ins c2 fs2 =>
        cases e
        obtain ⟨b, C, dx, vfs, h1, h2, hz, hc, h3, h4⟩ := w.cells n _ hn
        rw [hm] at h1; cases h1
        exact ⟨a, C, dx, vfs, rfl, hc, h3, h4⟩
      | frz u =>
        obtain ⟨b, o, h1, h2, h3⟩ := w.cells n _ hn
        rw [hm] at h1; cases h1
        cases u with
        | obj c2 fs2 =>
          cases e
          cases h3 with | @obj _ C _ dx _ vfs hc he t => exact ⟨a, C, dx, vfs, rfl, hc, w.F _ _ he, t⟩
        | _ => cases e
  | _ => cases e
theorem Rf.put {f : Str} {x : AV} {v : V} (r : R K mg G x v) : ∀ {fs : List (Str × AV)} {vfs : List (Str × V)}, Rf K mg G fs vfs → Rf K mg G (putA f x fs) (putF f v vfs)
  | _, _, .nil => .cons r .nil
  | (g, y) :: fs, (_, w) :: vfs, .cons q t => by
    show Rf K mg G (if g = f then (g, x) :: fs else (g, y) :: putA f x fs) (if g = f then (g, v) :: vfs else (g, w) :: putF f v vfs)
    by_cases e : g = f
    · rw [if_pos e, if_pos e]; exact .cons r t
    · rw [if_neg e, if_neg e]; exact .cons q (Rf.put r t)
end
section
variable {X : Cx} {W : WX} {k : Nat} {e o : Expr} {m mo : EM AV} {pos pos' : Pos}
theorem se_fld {cs : List Str} {f : Str} (ok : FldOk X.K X.mg cs f) (he : SE X W e m) (hb : attributeBase e f X.env (eval e X.env) = eval e X.env := by rfl) : SE X W (.Attribute e f pos) (m1 (fldA cs f) m) := by
  refine ⟨(pe_fld he.pe hb).weak fun σ H Q ⟨G, h, env, w, re, p⟩ => ⟨G, h, env, w, re, post_bnd p fun a h1 G1 H1 x l1 w1 ra p1 => ?_⟩⟩
  obtain ⟨c, e1, q⟩ := post_rd p1
  unfold fldA at e1
  cases e2 : insOf h1 a with
  | none => rw [e2] at e1; cases e1
  | some cf =>
    obtain ⟨cn, fs⟩ := cf
    rw [e2] at e1
    dsimp only at e1
    split at e1
    · rename_i hc
      obtain ⟨ad, C, dx, vfs, rfl, g, hH, rf⟩ := ra.ins w1 e2
      obtain ⟨C2, g2, cl, na⟩ := ok cn hc
      rw [g] at g2
      cases g2
      obtain ⟨v, l, rv⟩ := rf.look e1
      exact ⟨ad, C, dx, vfs, v, rfl, hH, cl, na, l, q G1 H1 v (.refl G1) w1 rv⟩
    · cases e1
/-- o.f = e, o a cell -/
def sFldS (cs : List Str) (f : Str) (mv mo : EM AV) : SM := sThen mv fun v => sThen mo fun o env h => match o with
  | .cell n => (match h[n]? with
    | some (.ins c fs) => if c ∈ cs ∧ fs.length < 1000 then .nx env (h.set n (.ins c (putA f v fs))) else .bad
    | _ => .bad)
  | _ => .bad
theorem ss_fld {cs : List Str} {f : Str} {p2 : Pos} (ok : FldOk X.K X.mg cs f) (hv : SE X W e m) (ho : SE X W o mo) (hs : swapsWith e (some (.Attribute o f p2)) pos.line X.env = pure false := by rfl) : SS X W (.Assign [.Attribute o f p2] e pos) (sFldS cs f m mo) := by
  refine ⟨(ps_fld ho.pe hv.pe hs).weak fun D σ H ⟨G, h, env, w, re, p⟩ => ?_⟩
  unfold sFldS at p
  refine ⟨G, h, env, w, re, postS_then re p fun v h1 G1 H1 y l1 w1 rv re1 p1 => ⟨G1, h1, env, w1, re1, postS_then re1 p1 fun ov h2 G2 H2 x l2 w2 ro re2 p2 => ?_⟩⟩
  cases ov with
  | cell n =>
    dsimp only at p2
    cases hn : h2[n]? with
    | none => rw [hn] at p2; exact p2.elim
    | some c1 =>
      rw [hn] at p2
      cases c1 with
      | ins cn fs =>
        dsimp only at p2
        split at p2
        · rename_i hc
          cases ro with
          | @cell _ a hm =>
            obtain ⟨b, C, dx, vfs, h1', h2', hz, g, h3, h4⟩ := w2.cells n _ hn
            rw [hm] at h1'; cases h1'
            obtain ⟨C2, g2, cl, na⟩ := ok cn hc.1
            rw [g] at g2; cases g2
            refine ⟨a, C, dx, vfs, rfl, h3, cl, na, by rw [← h4.length]; exact hc.2, ?_⟩
            have hl : n < h2.length := w2.bnd n _ hm
            refine p2 G2 _ σ (.refl G2) (w2.put hl hm h2' hz ⟨a, C, dx, _, hm, h2', hz, g, upd_same, Rf.put (rv.mono l2) h4⟩) re2
        · exact p2.elim
      | lst _ => exact p2.elim
      | dct _ => exact p2.elim
      | frz _ => exact p2.elim
  | _ => exact p2.elim
end
/-! ### an instance is made -/
/-- C(..): __init__ fills it, from then on it does not change -/
def mMake (n : Nat) (c : Str) (m : FM) (as : EM (List AV)) : EM AV := fun env => (as env).bnd fun avs h =>
  if avs.length + 1 = n ∧ noCs avs = true then (match m (.cell 0 :: avs) [.ins c []] with
    | .ok .non (.ins c' fs :: _) => if c' = c ∧ noCf fs = true then .ok (.obj c fs) h else .bad
    | .exc x fs _ => if noCf fs then .exc x fs h else .bad
    | _ => .bad) else .bad
def tMakeS (C : Addr) (sp : Sp) (E : L2.St → XK) (t : TA) : TE := fun σ H Q => t σ H fun vs H1 => ∀ x dx, H1 x = none → H1 dx = none → dx ≠ x →
  sp (.ref x :: vs) (upd (upd H1 dx (.own x)) x (.ins C dx [])) (fun v H2 => v = .non ∧ Q (.ref x) H2) (E σ)
section
variable {X : Cx} {W : WX} {j k : Nat} {f C : Addr} {fd : FuncData} {ps : List Str} {sp : Sp} {E : L2.St → XK} {x : Str} {p pos apos : Pos} {e o : Expr} {es : List Expr} {t : TA} {ta : TE}
theorem run_makeS {pins : List (Addr × Obj)} {σ : L2.St} {H : Hp} {s : Shared} {Q : VK} {us : List Value} {vs : List V} (M : Mk X.K C f) (F : FnOk X.prog X.w X.K X.mg X.base (L2.CX X.prog X.w) k f fd ps sp) (hr : Room (k + 1) X.A) (hb : Binds X.K fd ps [])
    (hx : PassesAt (L2.CX X.prog X.w) X σ (E σ)) (I : Inv X pins σ H s) (r : Vals vs us)
    (h : ∀ x dx, H x = none → H dx = none → dx ≠ x → sp (.ref x :: vs) (upd (upd H dx (.own x)) x (.ins C dx [])) (fun v H2 => v = .non ∧ Q (.ref x) H2) (E σ)) :
    wpAny (model X.prog X.w) X.A (call (.ref C) us) (EP X pins σ Q) X.xe s := by
  have hq := h (s.heap.objs.size + 1) s.heap.objs.size (I.hok.fresh (Nat.le_succ _)) (I.hok.fresh (Nat.le_refl _)) (Nat.ne_of_lt (Nat.lt_succ_self _))
  have I2 := Inv.made (C := C) I
  have r2 : Vals (V.ref (s.heap.objs.size + 1) :: vs) (Value.ref (s.heap.objs.size + 1) :: us) := .cons rfl r
  have hl : (Value.ref (s.heap.objs.size + 1) :: us).length = ps.length := by
    have e := r2.length
    rw [F.len _ _ _ _ hq] at e
    exact e.symm
  have b := hb _ (Value.ref (s.heap.objs.size + 1) :: us) I2.kIn (by rw [List.append_nil]; exact hl)
  rw [List.append_nil] at b
  refine wpAny_call (make_map (f := f) I.kIn M.makes M.init (beq_iff_eq.mp M.fn) (codeAny_mono (F.run _ X.stack _ _ ⟨Value.ref (s.heap.objs.size + 1) :: us, []⟩ (Value.ref (s.heap.objs.size + 1) :: us) _ _ (E σ) (hr.make C us [])
    (I2.env0.make C us []) b r2 hq) fun r s' hq' => ?_))
  cases r with
  | error e => exact hx pins _ _ e s' I2 hq'
  | ok fl =>
    cases fl with
    | ret u =>
      obtain ⟨v, H', I3, rv, ev, q3⟩ := I2.after hq'
      subst ev
      exact ⟨rv, ⟨V.ref (s.heap.objs.size + 1), H', I3, rfl, q3⟩⟩
    | next => exact False.elim hq'
    | brk => exact False.elim hq'
    | cont => exact False.elim hq'
theorem pe_makeS (M : Mk X.K C f) (F : FnOk X.prog X.w X.K X.mg X.base (L2.CX X.prog X.w) k f fd ps sp) (hr : Room (k + 1) X.A) (hg : Gl X x) (hm : X.mg x = some (.ref C)) (hb : Binds X.K fd ps []) (hx : ∀ σ, PassesAt (L2.CX X.prog X.w) X σ (E σ))
    (ha : PA X (e :: es) t) (hdb : (x == ("__debug__" : Str)) = false := by decide) (he : starEach (e :: es) X.env = (false, eval e X.env) :: starEach es X.env := by rfl) (hpl : (backTo pos (starEach es X.env)).any (·.1) = false := by rfl) :
    PE X (.Call (.Name x p) (e :: es) [] pos) (tMakeS C sp E t) := by
  refine ⟨fun pins s σ H Q I h => ?_⟩
  refine wpAny_Call_Name_kw (ld_glob I hg hm ?_ hdb)
  refine PySem.W.callWith_K (h₀ := X.base) I.ok.mod.kin M.kp (thn (ha.run pos pins s σ H _ I h) fun us s1 ⟨vs, H1, I1, r, q⟩ => ⟨I1.kIn, ?_⟩) he hpl
  exact run_makeS M F hr hb (hx σ) I1 r q
variable {n : Nat} {c : Str} {m : FM} {as : EM (List AV)}
theorem tMake_of (hm : X.mg c = some (.ref C)) {σ : L2.St} {H : Hp} {Q : VK} (t : tSE X W (mMake n c m as) σ H Q) : tMakeS C (spM X.K X.mg n m) (WE W) (tSA X W as) σ H Q := by
  obtain ⟨G, h, env, w, re, p⟩ := t
  refine ⟨G, h, env, w, re, post_bnd p fun avs h1 G1 H1 vs l1 w1 rs p1 a dx ha hdx hne => ?_⟩
  by_cases hl : avs.length + 1 = n ∧ noCs avs = true
  · rw [if_pos hl] at p1
    have wa := w1.newF (o := .own a) hdx (fun ps z => by cases z)
    have la : G1.le (G1.addF dx (.own a)) := Gh.addF_le (w1.freeF hdx)
    have hax : upd H1 dx (.own a) a = none := by rw [upd_ne (Ne.symm hne)]; exact ha
    generalize upd H1 dx (.own a) = Ha at wa hax ⊢
    generalize G1.addF dx (.own a) = Ga at wa la ⊢
    have wz := wa.aside fun _ => True
    have w0 : WI X.K X.mg { F := Ga.F, mu := fun _ => none, Z := Sim.aside Ga Ha fun _ => True, T := Ga.T } [] Ha :=
      ⟨wa.F, wz.1, wz.2.1, fun _ _ q => by simp at q, fun _ _ q => (nomatch q), fun _ _ _ q => (nomatch q), wa.tb.T, wa.tb.nF, wz.2.2⟩
    have hF0 : Ga.F a = none := wa.freeF hax
    have hZ0 : Sim.aside Ga Ha (fun _ => True) a = none := wz.1.free hax
    have w2 := w0.newC (p := a) (o := .ins C dx []) (c := .ins c []) hax ⟨a, C, dx, [], by show (if (0 : Nat) = 0 then some a else none) = some a; rw [if_pos rfl], hF0, hZ0, hm, upd_same, .nil⟩
    refine ⟨by rw [List.length_cons, ← rs.length]; exact hl.1, _, _, .cell 0 :: avs, w2, .cons (.cell (by show (if (0 : Nat) = 0 then some a else none) = some a; rw [if_pos rfl])) (Rs.lower (by exact la.F) hl.2 rs), ?_⟩
    show postF X.K X.mg _ _ _ (m (.cell 0 :: avs) [.ins c []])
    have fin : ∀ {Gz : Gh} {hz : Hs} {Hz : Hp}, Same Ga.F Gz.F → Gz.Z = Sim.aside Ga Ha (fun _ => True) → Gz.T = Ga.T → WI X.K X.mg Gz hz Hz → G1.le { F := Gz.F, mu := Ga.mu, Z := Ga.Z, T := Ga.T } ∧ WI X.K X.mg { F := Gz.F, mu := Ga.mu, Z := Ga.Z, T := Ga.T } h1 Hz := fun {Gz hz Hz} e1 e2 e3 wq => by
      obtain ⟨b1, b2, b3, b4, b5, b6⟩ := wa.back wq e1 e2 e3
      exact ⟨la.trans b1, b2, b3, b4, fun i c hc => b5 i c trivial hc, wa.bnd, wa.inj, b6⟩
    cases e : m (.cell 0 :: avs) [.ins c []] with
    | bad => rw [e] at p1; exact p1
    | exc x fs h2 =>
      rw [e] at p1
      dsimp only at p1
      split at p1
      · rename_i hv
        intro G2 H2 cls d l wq xr
        obtain ⟨le, w3⟩ := fin l.F l.Z l.T wq
        obtain ⟨C2, x1, x2, x3⟩ := xr
        refine p1 _ H2 cls d le w3 ⟨C2, x1, x2, ?_⟩
        rcases x3 with x3 | ⟨b, vfs, x4, x5, x6⟩
        · exact .inl x3
        · exact .inr ⟨b, vfs, x4, x5, Rf.lower (G := G2) (G' := { F := G2.F, mu := Ga.mu, Z := Ga.Z, T := Ga.T }) (Same.refl G2.F) hv x6.1, x6.2⟩
      · exact p1.elim
    | ok v h2 =>
      rw [e] at p1
      cases v with
      | non =>
        cases h2 with
        | nil => exact p1.elim
        | cons c1 r =>
          cases c1 with
          | ins c' fs =>
            dsimp only at p1
            split at p1
            · rename_i hv
              obtain ⟨rfl, hv⟩ := hv
              intro G2 H2 z l wq rz
              cases rz
              refine ⟨rfl, ?_⟩
              have m0 : G2.mu 0 = some a := l.mu 0 a (by show (if (0 : Nat) = 0 then some a else none) = some a; rw [if_pos rfl])
              obtain ⟨G3, l3, w3, r3⟩ := R.frz (x := .cell 0) (a := .obj c' fs) (h' := .frz (.obj c' fs) :: r) wq (.cell m0) rfl
              obtain ⟨le, w4⟩ := fin (l.trans l3).F (l.trans l3).Z (l.trans l3).T w3
              exact p1 _ H2 _ le w4 (R.lower (G := G3) (G' := { F := G3.F, mu := Ga.mu, Z := Ga.Z, T := Ga.T }) (Same.refl G3.F) (by rw [noC]; exact hv) r3)
            · exact p1.elim
          | lst _ => exact p1.elim
          | dct _ => exact p1.elim
          | frz _ => exact p1.elim
      | _ => exact p1.elim
  · rw [if_neg hl] at p1; exact p1.elim
theorem se_make (O : Ok X W j) (M : Mk X.K C f) (F : FnOk X.prog X.w X.K X.mg X.base (L2.CX X.prog X.w) k f fd ps (spM X.K X.mg n m)) (hk : k + 1 ≤ j) (hm : X.mg c = some (.ref C)) (hb : Binds X.K fd ps []) (ha : SA X W (e :: es) as) (hg : Gl X c := by rfl)
    (hdb : (c == ("__debug__" : Str)) = false := by decide) (he : starEach (e :: es) X.env = (false, eval e X.env) :: starEach es X.env := by rfl) (hpl : (backTo pos (starEach es X.env)).any (·.1) = false := by rfl) :
    SE X W (.Call (.Name c p) (e :: es) [] pos) (mMake n c m as) :=
  ⟨(pe_makeS M F (O.hr.mono hk) hg hm hb (fun σ => passAt O.tk σ) ha.pa hdb he hpl).weak fun σ H Q q => tMake_of hm q⟩
/-! ### methods -/
def tMethS (C : Addr) (m : Str) (sp : Sp) (E : L2.St → XK) (ta : TE) (t : TA) : TE := fun σ H Q => ta σ H fun x H1 => ∃ a dx fs, x = .ref a ∧ H1 a = some (.ins C dx fs) ∧ fs.lookup m = none ∧
  t σ H1 fun vs H2 => sp (x :: vs) H2 Q (E σ)
theorem pe_methSS {m : Str} {pl : Sem Bool} (he : PE X o ta) (c : Cls X.K C) (hm : Meth X.K C m f) (F : FnOk X.prog X.w X.K X.mg X.base (L2.CX X.prog X.w) k f fd ps sp) (hr : Room k X.A) (hb : Binds X.K fd ps []) (hx : ∀ σ, PassesAt (L2.CX X.prog X.w) X σ (E σ)) (ha : PA X (e :: es) t)
    (hst : starEach (e :: es) X.env = (false, eval e X.env) :: starEach es X.env := by rfl) (hpl : (backTo pos (starEach es X.env)).any (·.1) = false := by rfl)
    (ht : eval (.Call (.Attribute o m apos) (e :: es) [] pos) X.env = (do
      let ov ← eval o X.env
      standAt apos.atName
      let (f, first) ← holding [ov] (getMethod ov m pl)
      callWith pos f first (backTo pos (starEach (e :: es) X.env)) (backToKw pos (keywordEach [] X.env))) := by rfl) :
    PE X (.Call (.Attribute o m apos) (e :: es) [] pos) (tMethS C m sp E ta t) := by
  refine ⟨fun pins s σ H Q I h => ?_⟩
  refine PySem.W.methodCall_KW (pl := pl) (thn (he.run pins s σ H _ I h) fun u s1 ⟨x, H1, I1, rx, a, dx, fs, ex, ea, l, q⟩ => ?_) ht
  subst ex
  obtain rfl : u = Value.ref a := rx
  refine getmeth_ok I1 ea c hm l ?_
  refine PySem.W.callWith_K (first := [.ref a]) (h₀ := X.base) I.ok.mod.kin hm.kp (thn (ha.run pos pins s1 σ H1 _ I1 q) fun us s2 ⟨vs, H2, I2, r, q2⟩ => ⟨I2.kIn, ?_⟩) hst hpl
  exact run_fnS (us := .ref a :: us) (vs := .ref a :: vs) F hr hb (hx σ) I2 (.cons rfl r) q2
theorem pe_methSS0 {m : Str} {pl : Sem Bool} (he : PE X o ta) (c : Cls X.K C) (hm : Meth X.K C m f) (F : FnOk X.prog X.w X.K X.mg X.base (L2.CX X.prog X.w) k f fd ps sp) (hr : Room k X.A) (hb : Binds X.K fd ps []) (hx : ∀ σ, PassesAt (L2.CX X.prog X.w) X σ (E σ))
    (ht : eval (.Call (.Attribute o m apos) [] [] pos) X.env = (do
      let ov ← eval o X.env
      standAt apos.atName
      let (f, first) ← holding [ov] (getMethod ov m pl)
      callWith pos f first (backTo pos (starEach [] X.env)) (backToKw pos (keywordEach [] X.env))) := by rfl) :
    PE X (.Call (.Attribute o m apos) [] [] pos) (tMethS C m sp E ta tNil) := by
  refine ⟨fun pins s σ H Q I h => ?_⟩
  refine PySem.W.methodCall_KW (pl := pl) (thn (he.run pins s σ H _ I h) fun u s1 ⟨x, H1, I1, rx, a, dx, fs, ex, ea, l, q⟩ => ?_) ht
  subst ex
  obtain rfl : u = Value.ref a := rx
  refine getmeth_ok I1 ea c hm l ?_
  exact PySem.W.callWith_K0 (first := [.ref a]) I1.kIn hm.kp (run_fnS (us := [.ref a]) (vs := [.ref a]) F hr hb (hx σ) I1 (.cons rfl .nil) q)
/-- o.m(..), o of the class c: mc the way of calling -/
def mMeth (c mn : Str) (mc : FM) (mo : EM AV) (as : EM (List AV)) : EM AV := fun env => (mo env).bnd fun o h => match insOf h o with
  | some (c', fs) => if c' = c ∧ fs.lookup mn = none then ((as env).bnd fun avs => mc (o :: avs)) h else .bad
  | none => .bad
theorem Rf.none {K : PySem.W.Frag} {mg : Str → Option Value} {G : Gh} {fs : List (Str × AV)} {vfs : List (Str × V)} {f : Str} (r : Rf K mg G fs vfs) (e : fs.lookup f = none) : vfs.lookup f = none := r.lookN e
theorem tMeth_of {mn : Str} {mc : FM} {mo : EM AV} (hC : X.mg c = some (.ref C)) (hc : CallOk X.K X.mg n m mc) {σ : L2.St} {H : Hp} {Q : VK} (t : tSE X W (mMeth c mn mc mo as) σ H Q) : tMethS C mn (spM X.K X.mg n m) (WE W) (tSE X W mo) (tSA X W as) σ H Q := by
  obtain ⟨G, h, env, w, re, p⟩ := t
  refine ⟨G, h, env, w, re, post_bnd p fun ov h1 G1 H1 v l1 w1 ro p1 => ?_⟩
  cases e : insOf h1 ov with
  | none => rw [e] at p1; exact p1.elim
  | some cf =>
    obtain ⟨c', fs⟩ := cf
    rw [e] at p1
    dsimp only at p1
    split at p1
    · rename_i hcc
      obtain ⟨rfl, hn⟩ := hcc
      obtain ⟨a, C2, dx, vfs, rfl, g, hH, rf⟩ := ro.ins w1 e
      rw [hC] at g
      cases g
      refine ⟨a, dx, vfs, rfl, hH, rf.none hn, G1, h1, env, w1, re.mono l1, post_bnd p1 fun avs h2 G2 H2 vs l2 w2 rs p2 => ?_⟩
      refine hc G2 h2 H2 (ov :: avs) (.ref a :: vs) Q (WE W σ) w2 (.cons (ro.mono l2) rs) ?_
      cases e2 : mc (ov :: avs) h2 with
      | ok v h3 => rw [e2] at p2; exact p2
      | exc c fs h3 => rw [e2] at p2; exact p2
      | bad => rw [e2] at p2; exact p2
    · exact p1.elim
theorem se_meth {mn : Str} {mc : FM} {mo : EM AV} (O : Ok X W j) (hc : CallOk X.K X.mg n m mc) (hC : X.mg c = some (.ref C)) (cl : Cls X.K C) (hm : Meth X.K C mn f) (F : FnOk X.prog X.w X.K X.mg X.base (L2.CX X.prog X.w) k f fd ps (spM X.K X.mg n m)) (hk : k ≤ j) (hb : Binds X.K fd ps [])
    (ho : SE X W o mo) (ha : SA X W (e :: es) as) (hst : starEach (e :: es) X.env = (false, eval e X.env) :: starEach es X.env := by rfl) (hpl : (backTo pos (starEach es X.env)).any (·.1) = false := by rfl)
    {pl : Sem Bool} (ht : eval (.Call (.Attribute o mn apos) (e :: es) [] pos) X.env = (do
      let ov ← eval o X.env
      standAt apos.atName
      let (f, first) ← holding [ov] (getMethod ov mn pl)
      callWith pos f first (backTo pos (starEach (e :: es) X.env)) (backToKw pos (keywordEach [] X.env))) := by rfl) :
    SE X W (.Call (.Attribute o mn apos) (e :: es) [] pos) (mMeth c mn mc mo as) :=
  ⟨(pe_methSS (pl := pl) ho.pe cl hm F (O.hr.mono hk) hb (fun σ => passAt O.tk σ) ha.pa hst hpl ht).weak fun σ H Q q => tMeth_of hC hc q⟩
theorem se_meth0 {mn : Str} {mc : FM} {mo : EM AV} (O : Ok X W j) (hc : CallOk X.K X.mg n m mc) (hC : X.mg c = some (.ref C)) (cl : Cls X.K C) (hm : Meth X.K C mn f) (F : FnOk X.prog X.w X.K X.mg X.base (L2.CX X.prog X.w) k f fd ps (spM X.K X.mg n m)) (hk : k ≤ j) (hb : Binds X.K fd ps [])
    (ho : SE X W o mo)
    {pl : Sem Bool} (ht : eval (.Call (.Attribute o mn apos) [] [] pos) X.env = (do
      let ov ← eval o X.env
      standAt apos.atName
      let (f, first) ← holding [ov] (getMethod ov mn pl)
      callWith pos f first (backTo pos (starEach [] X.env)) (backToKw pos (keywordEach [] X.env))) := by rfl) :
    SE X W (.Call (.Attribute o mn apos) [] [] pos) (mMeth c mn mc mo aNil) :=
  ⟨(pe_methSS0 (pl := pl) ho.pe cl hm F (O.hr.mono hk) hb (fun σ => passAt O.tk σ) ht).weak fun σ H Q q => by
    obtain ⟨G, h, env, w, re, p⟩ := tMeth_of (as := aNil) hC hc q
    refine ⟨G, h, env, w, re, ?_⟩
    cases e : mo env h with
    | ok v h' =>
      rw [e] at p
      intro G' H' z l w' r
      obtain ⟨a, dx, fs, h1, h2, h3, G2, h4, env2, w2, re2, p2⟩ := p G' H' z l w' r
      exact ⟨a, dx, fs, h1, h2, h3, p2 G2 H' [] (.refl _) w2 .nil⟩
    | exc x fs h' => rw [e] at p; exact p
    | bad => rw [e] at p; exact p⟩
/-! ### own == -/
/-- a == b by the class's own __eq__ -/
def mEqO (c : Str) (mc : FM) (ma mb : EM AV) : EM AV := fun env => (ma env).bnd fun x => (mb env).bnd fun y h => match insOf h x, insOf h y with
  | some (c1, _), some (c2, _) => if c1 = c ∧ c2 = c then (match mc [x, y] h with
    | .ok (.bl k) h' => .ok (.bl k) h'
    | _ => .bad) else .bad
  | _, _ => .bad
def rEqO (X : Cx) (c : Str) (n : Nat) (m mc : FM) : R2 := fun x y H Q => ∃ G h a b c1 f1 c2 f2, WI X.K X.mg G h H ∧ R X.K X.mg G a x ∧ R X.K X.mg G b y ∧ insOf h a = some (c1, f1) ∧ insOf h b = some (c2, f2) ∧ c1 = c ∧ c2 = c ∧
  ∃ k h', mc [a, b] h = .ok (.bl k) h' ∧ ∀ G' H', G.le G' → WI X.K X.mg G' h' H' → Q (.bl k) H'
theorem op_eqO {mc : FM} (O : Ok X W j) (hc : CallOk X.K X.mg n m mc) (hC : X.mg c = some (.ref C)) (F : FnOk X.prog X.w X.K X.mg X.base (L2.CX X.prog X.w) k f fd ps (spM X.K X.mg n m)) (hk : k ≤ j) (hb : Binds X.K fd ps [])
    (hs : PySem.W.findIn X.K (.ref C) "__eq__" = some (some (.ref f))) (hf : PySem.W.isFn X.K (.ref f) = true) : OpR X (compareOp .Eq) (rEqO X c n m mc) := by
  intro pins s σ H x y v u Q I rx ry hq
  obtain ⟨G, h, a, b, c1, f1, c2, f2, w, ra, rb, e1, e2, rfl, rfl, kk, h', em, q⟩ := hq
  obtain ⟨xa, C1, dx, vfs, rfl, g1, hA, _⟩ := ra.ins w e1
  obtain ⟨xb, C2, dy, vgs, rfl, g2, hB, _⟩ := rb.ins w e2
  rw [hC] at g1 g2
  cases g1
  cases g2
  cases rx
  cases ry
  obtain ⟨mA, J, _⟩ := ins_get I.hok hA
  obtain ⟨mB, J', _⟩ := ins_get I.hok hB
  obtain ⟨od, J, _⟩ := J.look
  obtain ⟨od', J', _⟩ := J'.look
  obtain ⟨mm, hF⟩ := I.fr
  show wpAny (model X.prog X.w) X.A (richCompare .Eq (.ref xa) (.ref xb)) (EP X pins σ Q) X.xe s
  refine PySem.W.cmp_K (op := .Eq) (tb := .ref C) (O.hr.mono hk).units0 hF I.ok.mod.kin J J'.type (by simp [PySem.W.notFirst]) hs hf ?_
  have hsp : spM X.K X.mg n m [.ref xa, .ref xb] H (fun v H' => v = .bl kk ∧ Q v H') (WE (fun _ _ _ _ => False) σ) := by
    refine hc G h H [a, b] [.ref xa, .ref xb] _ _ w (.cons ra (.cons rb .nil)) ?_
    rw [em]
    intro G' H' z l w' r
    cases r
    exact ⟨rfl, q G' H' l w'⟩
  have hl := F.len _ _ _ _ hsp
  have r2 : Vals [V.ref xa, V.ref xb] [Value.ref xa, Value.ref xb] := .cons rfl (.cons rfl .nil)
  have hb2 := hb s [.ref xa, .ref xb] I.kIn (by simpa using hl)
  rw [List.append_nil] at hb2
  refine wpAny_call (codeAny_mono (F.run X.A X.stack s H ⟨[.ref xa, .ref xb], []⟩ [.ref xa, .ref xb] [.ref xa, .ref xb] _ (WE (fun _ _ _ _ => False) σ) (O.hr.mono hk) I.env0 hb2 r2 hsp) fun r s' hq => ?_)
  cases r with
  | error e => exact passAt LamX.takes0 σ pins H s e s' I hq
  | ok fl =>
    cases fl with
    | ret w =>
      obtain ⟨z, H', I', rz, ez, ex⟩ := I.after hq
      subst ez
      cases rz
      exact ⟨.bl kk, H', I', rfl, ex⟩
    | next => exact False.elim hq
    | brk => exact False.elim hq
    | cont => exact False.elim hq
variable {a b : Expr} {ma mb : EM AV}
theorem tEqO {mc : FM} {σ : L2.St} {H : Hp} {Q : VK} (p : tSE X W (mEqO c mc ma mb) σ H Q) : tSE X W ma σ H fun x H1 => tSE X W mb σ H1 fun y H2 => rEqO X c n m mc x y H2 Q := by
  obtain ⟨G, h, env, w, re, p⟩ := p
  refine ⟨G, h, env, w, re, post_bnd p fun a h1 G1 H1 x l1 w1 ra p1 => ⟨G1, h1, env, w1, re.mono l1, post_bnd p1 fun b h2 G2 H2 y l2 w2 rb p2 => ?_⟩⟩
  cases e1 : insOf h2 a with
  | none => rw [e1] at p2; exact p2.elim
  | some cf1 =>
    cases e2 : insOf h2 b with
    | none => rw [e1, e2] at p2; exact p2.elim
    | some cf2 =>
      rw [e1, e2] at p2
      obtain ⟨c1, f1⟩ := cf1
      obtain ⟨c2, f2⟩ := cf2
      dsimp only at p2
      split at p2
      · rename_i hcc
        cases e3 : mc [a, b] h2 with
        | bad => rw [e3] at p2; exact p2.elim
        | exc x fs h3 => rw [e3] at p2; exact p2.elim
        | ok v h3 =>
          rw [e3] at p2
          cases v with
          | bl kk => exact ⟨G2, h2, a, b, c1, f1, c2, f2, w2, ra.mono l2, rb, e1, e2, hcc.1, hcc.2, kk, h3, e3, fun G' H' l w' => p2 G' H' (.bl kk) l w' (.bl kk)⟩
          | _ => exact p2.elim
      · exact p2.elim
theorem se_eqO {mc : FM} (O : Ok X W j) (hc : CallOk X.K X.mg n m mc) (hC : X.mg c = some (.ref C)) (F : FnOk X.prog X.w X.K X.mg X.base (L2.CX X.prog X.w) k f fd ps (spM X.K X.mg n m)) (hk : k ≤ j) (hb : Binds X.K fd ps [])
    (hs : PySem.W.findIn X.K (.ref C) "__eq__" = some (some (.ref f))) (hf : PySem.W.isFn X.K (.ref f) = true) (ha : SE X W a ma) (hb' : SE X W b mb) (hm : behindInMarks .Eq b = false := by first | exact nobehind _ (by decide) (by decide) | rfl) :
    SE X W (.Compare a [.Eq] [b] pos) (mEqO c mc ma mb) := ⟨(pe_cmpR (op_eqO O hc hC F hk hb hs hf) ha.pe hb'.pe hm).weak fun σ H Q p => tEqO p⟩
theorem st_eqO {mc : FM} (O : Ok X W j) (hc : CallOk X.K X.mg n m mc) (hC : X.mg c = some (.ref C)) (F : FnOk X.prog X.w X.K X.mg X.base (L2.CX X.prog X.w) k f fd ps (spM X.K X.mg n m)) (hk : k ≤ j) (hb : Binds X.K fd ps [])
    (hs : PySem.W.findIn X.K (.ref C) "__eq__" = some (some (.ref f))) (hf : PySem.W.isFn X.K (.ref f) = true) (ha : SE X W a ma) (hb' : SE X W b mb) (hm : behindInMarks .Eq b = false := by first | exact nobehind _ (by decide) (by decide) | rfl) :
    ST X W (.Compare a [.Eq] [b] pos) (mT (mEqO c mc ma mb)) := by
  refine ⟨(pt_cmpR (op_eqO O hc hC F hk hb hs hf) ha.pe hb'.pe hm).weak fun σ H Q p => ?_⟩
  refine tEqO (Q := fun x H' => ∃ k, x = .bl k ∧ Q k H') ?_
  obtain ⟨G, h, env, w, re, p⟩ := p
  refine ⟨G, h, env, w, re, post_bnd p fun a h1 G1 H1 x l1 w1 ra p1 => ?_⟩
  obtain ⟨c, e, q⟩ := post_rd p1
  cases a with
  | bl b0 => cases ra; exact ⟨b0, rfl, q G1 H1 b0 (.refl G1) w1 (Option.some.inj e).symm⟩
  | _ => cases e
end
end Sim

set_option Elab.async false
set_option linter.all false
set_option maxRecDepth 100000
set_option maxHeartbeats 2000000
namespace Sim
open PySem PySem.Spec L2
open PyProof.Rows hiding St
variable [TabT]
/-! SimR: dict comprehensions over keys that are ints or texts; dicts as cells. -/
def kA : Key → AV
  | .inl i => .int i
  | .inr z => .str z
def keyA? : AV → Option Key
  | .int i => some (.inl i)
  | .str z => some (.inr z)
  | _ => none
theorem keyA_of {x : AV} {k : Key} (e : keyA? x = some k) : x = kA k := by
  cases x <;> first | (cases e; done) | (cases e; rfl)
def putG {κ β : Type} [DecidableEq κ] (kvs : List (κ × β)) (k : κ) (v : β) : List (κ × β) :=
  if (kvs.any fun kv => decide (kv.1 = k)) = true then kvs.map (fun kv => if kv.1 = k then (kv.1, v) else kv) else kvs ++ [(k, v)]
def avK (kvs : List (Key × AV)) : List (AV × AV) := kvs.map fun p => (kA p.1, p.2)
section
variable {K : PySem.W.Frag} {mg : Str → Option Value} {G G' : Gh}
theorem R.key {k : Key} {v : V} (r : R K mg G (kA k) v) : v = kV k := by
  cases k <;> (cases r; rfl)
theorem R.ofKey (k : Key) : R K mg G (kA k) (kV k) := by
  cases k
  · exact .int _
  · exact .str _
theorem RkK.consK {k : Key} {x : AV} {v : V} {xs : List (AV × AV)} {vs : List (Key × V)} (r : R K mg G x v) (t : RkK K mg G xs vs) : RkK K mg G ((kA k, x) :: xs) ((k, v) :: vs) := by
  cases k
  · exact .int r t
  · exact .str r t
theorem RkK.unK {k : Key} {x : AV} {kvs : List (Key × AV)} {vs : List (Key × V)} (t : RkK K mg G (avK ((k, x) :: kvs)) vs) : ∃ v ws, vs = (k, v) :: ws ∧ R K mg G x v ∧ RkK K mg G (avK kvs) ws := by
  cases k with
  | inl i => cases t with | int r t => exact ⟨_, _, rfl, r, t⟩
  | inr i => cases t with | str r t => exact ⟨_, _, rfl, r, t⟩
theorem RkK.len : ∀ {kvs : List (Key × AV)} {vs : List (Key × V)}, RkK K mg G (avK kvs) vs → kvs.length = vs.length
  | [], _, .nil => rfl
  | (k, x) :: kvs, vs, t => by
    obtain ⟨v, ws, rfl, r, t⟩ := t.unK
    rw [List.length_cons, List.length_cons, RkK.len t]
theorem RkK.keys : ∀ {kvs : List (Key × AV)} {vs : List (Key × V)}, RkK K mg G (avK kvs) vs → vs.map (·.1) = kvs.map (·.1)
  | [], _, .nil => rfl
  | (k, x) :: kvs, vs, t => by
    obtain ⟨v, ws, rfl, r, t⟩ := t.unK
    rw [List.map_cons, List.map_cons, RkK.keys t]
theorem any_key {κ β : Type} [DecidableEq κ] (k : κ) (kvs : List (κ × β)) : (kvs.any fun kv => decide (kv.1 = k)) = (kvs.map (·.1)).any fun j => decide (j = k) := by
  rw [List.any_map]; rfl
theorem RkK.snoc {k : Key} {x : AV} {v : V} (r : R K mg G x v) : ∀ {kvs : List (Key × AV)} {vs : List (Key × V)}, RkK K mg G (avK kvs) vs → RkK K mg G (avK (kvs ++ [(k, x)])) (vs ++ [(k, v)])
  | [], _, .nil => .consK r .nil
  | (j, y) :: kvs, vs, t => by
    obtain ⟨w, ws, rfl, q, t⟩ := t.unK
    exact .consK q (RkK.snoc r t)
theorem RkK.repl {k : Key} {x : AV} {v : V} (r : R K mg G x v) : ∀ {kvs : List (Key × AV)} {vs : List (Key × V)}, RkK K mg G (avK kvs) vs → RkK K mg G (avK (kvs.map fun kv => if kv.1 = k then (kv.1, x) else kv)) (vs.map fun kv => if kv.1 = k then (kv.1, v) else kv)
  | [], _, .nil => .nil
  | (j, y) :: kvs, vs, t => by
    obtain ⟨w, ws, rfl, q, t⟩ := t.unK
    rw [List.map_cons, List.map_cons]
    by_cases e : j = k
    · rw [if_pos e, if_pos e]; exact .consK r (RkK.repl r t)
    · rw [if_neg e, if_neg e]; exact .consK q (RkK.repl r t)
theorem RkK.put {k : Key} {x : AV} {v : V} (r : R K mg G x v) {kvs : List (Key × AV)} {vs : List (Key × V)} (t : RkK K mg G (avK kvs) vs) : RkK K mg G (avK (putG kvs k x)) (putK vs k v) := by
  unfold putG putK
  have e : (vs.any fun kv => decide (kv.1 = k)) = (kvs.any fun kv => decide (kv.1 = k)) := by rw [any_key, any_key, t.keys]
  rw [e]
  split
  · exact t.repl r
  · exact t.snoc r
end
theorem putG_len {κ β : Type} [DecidableEq κ] (kvs : List (κ × β)) (k : κ) (v : β) : (putG kvs k v).length ≤ kvs.length + 1 := by
  unfold putG
  split
  · rw [List.length_map]; omega
  · rw [List.length_append, List.length_singleton]; omega
/-! ### a new dict -/
def tSD (X : Cx) (W : WX) (m : EM (List (Key × AV))) : TE := fun σ H Q => ∃ G h env, WI X.K X.mg G h H ∧ RE X.K X.mg G env σ ∧ match m env h with
  | .ok kvs h' => ∀ G' H' p vs, G.le G' → WI X.K X.mg G' h' H' → H' p = none → RkK X.K X.mg G' (avK kvs) vs → Q (.ref p) (upd H' p (.dK vs))
  | .exc c fs h' => ∀ G' H' cls d, G.le G' → WI X.K X.mg G' h' H' → XR X.K X.mg G' c fs cls d → W cls d σ H'
  | .bad => False
structure SD (X : Cx) (W : WX) (e : Expr) (m : EM (List (Key × AV))) : Prop where
  pe : PE X e (tSD X W m)
def newD (kvs : List (Key × AV)) : M AV := fun h => .ok (.cell h.length) (h ++ [.dct (avK kvs)])
def mDC (m : EM (List (Key × AV))) : EM AV := fun env => (m env).bnd newD
theorem WI.newD {K : PySem.W.Frag} {mg : Str → Option Value} {G : Gh} {h : Hs} {H : Hp} {p : Addr} {xs : List (Key × AV)} {vs : List (Key × V)} (w : WI K mg G h H) (e : H p = none) (r : RkK K mg G (avK xs) vs) :
    G.le (G.addM h.length p) ∧ WI K mg (G.addM h.length p) (h ++ [.dct (avK xs)]) (upd H p (.dK vs)) ∧ R K mg (G.addM h.length p) (.cell h.length) (.ref p) := by
  have l : G.le (G.addM h.length p) := Gh.addM_le w.muN
  have m0 : (G.addM h.length p).mu h.length = some p := by show (if h.length = h.length then some p else G.mu h.length) = some p; rw [if_pos rfl]
  exact ⟨l, w.newC e ⟨p, m0, w.freeF e, w.freeZ e, .inl ⟨vs, upd_same, r.mono l⟩⟩, .cell m0⟩
section
variable {X : Cx} {W : WX} {k : Nat} {e : Expr}
theorem se_dC {m : EM (List (Key × AV))} (h : SD X W e m) : SE X W e (mDC m) := by
  refine ⟨h.pe.weak fun σ H Q ⟨G, h, env, w, re, p⟩ => ⟨G, h, env, w, re, ?_⟩⟩
  unfold mDC M.bnd at p
  cases e : m env h with
  | bad => rw [e] at p; exact p
  | exc c fs h1 => rw [e] at p; exact p
  | ok xs h1 =>
    rw [e] at p
    intro G' H' a vs l w' ha rs
    obtain ⟨le, w2, r2⟩ := w'.newD ha rs
    exact p _ _ _ (l.trans le) w2 r2
/-- {} -/
def mD0 : EM (List (Key × AV)) := fun _ => M.ret []
theorem sd_nil {pos : Pos} : SD X W (.Dict [] [] pos) mD0 := ⟨pe_dnewK.weak fun σ H Q ⟨G, h, env, w, re, p⟩ => fun d hd => p G H d [] (.refl G) w hd .nil⟩
/-! ### {k: v for ..} -/
def dcL (g : GT) (t : EM Bool) (ek ev : EM AV) (env : AEnv) : List (Key × AV) → List AV → M (List (Key × AV))
  | acc, [] => M.ret acc
  | acc, x :: xs => match g x env with
    | none => M.bad
    | some e' => (noexc (t e')).bnd fun b => if b = true then (noexc (ek e')).bnd fun y => (noexc (ev e')).bnd fun z => (match keyA? y with
      | some kk => dcL g t ek ev env (putG acc kk z) xs
      | none => M.bad) else dcL g t ek ev env acc xs
def mDc (vs : List Nat) (mi : EM (List AV)) (g : GT) (t : EM Bool) (ek ev : EM AV) : EM (List (Key × AV)) := fun env => (mi env).bnd fun xs => if small xs then dcL g t ek ev (wipeE env vs) [] xs else M.bad
theorem dcL_ne {g : GT} {t : EM Bool} {ek ev : EM AV} {env : AEnv} : ∀ (xs : List AV) (acc : List (Key × AV)) (h : Hs) (c : Str) (fs : List (Str × AV)) (h' : Hs), dcL g t ek ev env acc xs h ≠ .exc c fs h'
  | [], acc, h, c, fs, h' => fun q => by cases q
  | x :: xs, acc, h, c, fs, h' => by
    unfold dcL
    cases g x env with
    | none => intro q; cases q
    | some e' =>
      refine bnd_ne (noexc_ne _) (fun b h c fs h' => ?_) h c fs h'
      by_cases hb : b = true
      · rw [if_pos hb]
        refine bnd_ne (noexc_ne _) (fun y h c fs h' => bnd_ne (noexc_ne _) (fun z h c fs h' => ?_) h c fs h') h c fs h'
        cases keyA? y with
        | none => intro q; cases q
        | some kk => exact dcL_ne xs _ h c fs h'
      · rw [if_neg hb]
        exact dcL_ne xs acc h c fs h'
theorem noexc_inv {α : Type} {m : M α} {h : Hs} {a : α} {h' : Hs} (e : noexc m h = .ok a h') : m h = .ok a h' := by
  unfold noexc at e
  split at e
  · cases e
  · exact e
def Gh.holdD (G : Gh) (D : Addr) (vs : List (Key × V)) : Gh := { G with Z := upd G.Z D (.dK vs) }
theorem Gh.holdD_lt (G : Gh) (D : Addr) (vs : List (Key × V)) : G.lt (G.holdD D vs) := ⟨Same.refl _, fun _ _ q => q, rfl⟩
theorem Gh.holdD_gt (G : Gh) (D : Addr) (vs : List (Key × V)) : (G.holdD D vs).lt G := ⟨Same.refl _, fun _ _ q => q, rfl⟩
theorem WI.holdD {K : PySem.W.Frag} {mg : Str → Option Value} {G : Gh} {h : Hs} {H : Hp} {D : Addr} {vs : List (Key × V)} (w : WI K mg G h H) (e : H D = none) : WI K mg (G.holdD D vs) h (upd H D (.dK vs)) := by
  have hF := w.freeF e
  have hZ := w.freeZ e
  have hM := w.freeM e
  refine ⟨fun b u q => ?_, fun b u q => ?_, fun b u q => ?_, fun n c hc => ?_, w.bnd, w.inj, tabs_new w.tb.T e, w.tb.nF, fun b ps q => ?_⟩
  · have q2 : G.F b = some u := q
    rw [upd_ne (ne_of_none q2 hF)]; exact w.F b u q2
  · have q2 : upd G.Z D (.dK vs) b = some u := q
    by_cases hb : b = D
    · subst hb; rw [upd_same] at q2 ⊢; exact q2
    · rw [upd_ne hb] at q2 ⊢; exact w.Z b u q2
  · have q2 : upd G.Z D (.dK vs) b = some u := q
    by_cases hb : b = D
    · subst hb; exact hF
    · rw [upd_ne hb] at q2; exact w.FZ b u q2
  · refine (w.cells n c hc).conv (G.holdD_lt D vs) (fun a _ q => q) (fun a ha q => ?_) (fun a o ha q => ?_)
    · show upd G.Z D (.dK vs) a = none
      rw [upd_ne (fun z => hM n (by rw [ha, z]))]; exact q
    · rw [upd_ne (fun z => hM n (by rw [ha, z]))]; exact q
  · have q2 : upd G.Z D (.dK vs) b = some (.tbl ps) := q
    by_cases hb : b = D
    · subst hb; rw [upd_same] at q2; cases q2
    · rw [upd_ne hb] at q2; exact w.tb.nZ b ps q2
theorem WI.letgoD {K : PySem.W.Frag} {mg : Str → Option Value} {G : Gh} {h : Hs} {H : Hp} {D : Addr} {vs : List (Key × V)} (w : WI K mg (G.holdD D vs) h H) (hZ : G.Z D = none) : H D = some (.dK vs) ∧ WI K mg G h (offH H D) := by
  have zD : (G.holdD D vs).Z D = some (.dK vs) := by show upd G.Z D (.dK vs) D = _; rw [upd_same]
  have hF : G.F D = none := w.FZ D _ zD
  refine ⟨w.Z D _ zD, fun b u q => ?_, fun b u q => ?_, fun b u q => ?_, fun n c hc => ?_, w.bnd, w.inj, ?_, w.tb.nF, fun b ps q => ?_⟩
  · unfold offH; rw [if_neg (ne_of_none q hF)]; exact w.F b u q
  · unfold offH; rw [if_neg (ne_of_none q hZ)]
    refine w.Z b u ?_
    show upd G.Z D (.dK vs) b = some u
    rw [upd_ne (ne_of_none q hZ)]; exact q
  · refine w.FZ b u ?_
    show upd G.Z D (.dK vs) b = some u
    rw [upd_ne (ne_of_none q hZ)]; exact q
  · have dZ : ∀ a, (G.holdD D vs).Z a = none → a ≠ D ∧ G.Z a = none := fun a q => by
      have q2 : upd G.Z D (.dK vs) a = none := q
      by_cases ha : a = D
      · subst ha; rw [upd_same] at q2; cases q2
      · rw [upd_ne ha] at q2; exact ⟨ha, q2⟩
    have x := w.cells n c hc
    have key : ∀ a o, (G.holdD D vs).mu n = some a → H a = some o → ((G.holdD D vs).Z a = none ∨ ∃ u, (G.holdD D vs).F a = some u) → offH H D a = some o := fun a o _ ho hh => by
      unfold offH
      rw [if_neg ?_]
      · exact ho
      · rcases hh with hh | ⟨u, hh⟩
        · exact (dZ a hh).1
        · exact ne_of_none (H := G.F) hh hF
    cases c with
    | lst xs => obtain ⟨a, ws, h1, h2, hz, h3, h4⟩ := x; exact ⟨a, ws, h1, h2, (dZ a hz).2, key a _ h1 h3 (.inl hz), h4.monoL (G.holdD_gt D vs)⟩
    | dct kvs =>
      obtain ⟨a, h1, h2, hz, ⟨vks, h3, h4⟩ | ⟨vks, h3, h4⟩⟩ := x
      · exact ⟨a, h1, h2, (dZ a hz).2, .inl ⟨vks, key a _ h1 h3 (.inl hz), h4.monoL (G.holdD_gt D vs)⟩⟩
      · exact ⟨a, h1, h2, (dZ a hz).2, .inr ⟨vks, key a _ h1 h3 (.inl hz), h4.monoL (G.holdD_gt D vs)⟩⟩
    | ins c fs => obtain ⟨a, C, dx, vfs, h1, h2, hz, hc2, h3, h4⟩ := x; exact ⟨a, C, dx, vfs, h1, h2, (dZ a hz).2, hc2, key a _ h1 h3 (.inl hz), h4.monoL (G.holdD_gt D vs)⟩
    | frz v => obtain ⟨a, o, h1, h2, h3⟩ := x; exact ⟨a, o, h1, h2, h3.monoL (G.holdD_gt D vs)⟩
  · have hD := w.Z D _ zD
    refine tabs_stay w.tb.T (fun b ps q => ?_) (fun b f q => ?_) <;>
    · unfold offH
      rw [if_neg (fun z => by rw [z, hD] at q; cases q)]
      exact q
  · refine w.tb.nZ b ps ?_
    show upd G.Z D (.dK vs) b = _
    rw [upd_ne (ne_of_none q hZ)]; exact q
theorem unholdD {G : Gh} {D : Addr} {vs : List (Key × V)} {G2 : Gh} (l : (G.holdD D vs).le G2) : G.le { G2 with Z := G.Z } ∧ G2 = ({ G2 with Z := G.Z } : Gh).holdD D vs := by
  refine ⟨⟨l.F, l.mu, rfl, l.T⟩, ?_⟩
  have e : G2.Z = upd G.Z D (.dK vs) := l.Z
  obtain ⟨F, mu, Z, T⟩ := G2
  have e2 : Z = upd G.Z D (.dK vs) := e
  subst e2
  rfl
theorem tDc_of {own : List (Str × Nat)} {mi : EM (List AV)} {ow : List Nat} {g : GT} {bt : EM Bool} {mk me : EM AV} (how : ∀ i ∈ ow, i ∈ own.map (·.2)) {σ : L2.St} {H : Hp} {Q : VK} (t : tSD X W (mDc (own.map (·.2)) mi g bt mk me) σ H Q) :
    tDc (tSI X W mi) (tSG X ow g) (tST X noW bt) (tSE X noW mk) (tSE X noW me) (own.map (·.2)) σ H Q := by
  obtain ⟨G, h, env, w, re, p⟩ := t
  refine ⟨G, h, env, w, re, ?_⟩
  unfold mDc M.bnd at p
  cases e : mi env h with
  | bad => rw [e] at p; exact p
  | exc c fs h1 => rw [e] at p; exact p
  | ok xs h1 =>
    rw [e] at p
    dsimp only at p
    by_cases hsm : small xs = true
    · rw [if_pos hsm] at p
      have hlen : xs.length ≤ sizeLine := of_decide_eq_true hsm
      intro G' H' J l w' ik D hD
      have hZD := w'.freeZ hD
      refine ⟨fun i m H2 => ∃ G1 h2 as vacc, G'.le G1 ∧ RkK X.K X.mg G1 (avK as) vacc ∧ WI X.K X.mg (G1.holdD D vacc) h2 H2 ∧ as.length ≤ i ∧ m = xs.length - i ∧ i ≤ xs.length ∧
          (match dcL g bt mk me (wipeE env (own.map (·.2))) as (xs.drop i) h2 with
            | .ok zs h' => ∀ G3 H3 p vs, G1.le G3 → WI X.K X.mg G3 h' H3 → H3 p = none → RkK X.K X.mg G3 (avK zs) vs → Q (.ref p) (upd H3 p (.dK vs))
            | _ => False), ⟨xs.length, G', h1, [], [], .refl _, .nil, w'.holdD hD, Nat.le_refl _, by simp, Nat.zero_le _, ?_⟩, ?_⟩
      · rw [List.drop_zero]
        cases e2 : dcL g bt mk me (wipeE env (own.map (·.2))) [] xs h1 with
        | ok zs h3 => rw [e2] at p; exact fun G3 H3 q vs l3 => p G3 H3 q vs (l.trans l3)
        | exc c fs h3 =>
          exfalso
          exact dcL_ne xs [] h1 c fs h3 e2
        | bad => rw [e2] at p; exact p
      · rintro i m H2 ⟨G1, h2, as, vacc, l1, ra, w2, hal, rfl, hi2, p2⟩
        have hZ1 : G1.Z D = none := by rw [l1.Z]; exact hZD
        obtain ⟨stop, go⟩ := ik (G1.holdD D vacc) h2 H2 (l1.lt.trans (G1.holdD_lt D vacc)) w2
        by_cases hlt : i < xs.length
        · obtain ⟨go1, yld⟩ := go i hlt
          refine .inr ⟨go1, fun H3 => ∃ G1 h2 as vacc, G'.le G1 ∧ RkK X.K X.mg G1 (avK as) vacc ∧ WI X.K X.mg (G1.holdD D vacc) h2 H3 ∧ as.length ≤ i + 1 ∧
              (match dcL g bt mk me (wipeE env (own.map (·.2))) as (xs.drop (i + 1)) h2 with
                | .ok zs h' => ∀ G3 H3 p vs, G1.le G3 → WI X.K X.mg G3 h' H3 → H3 p = none → RkK X.K X.mg G3 (avK zs) vs → Q (.ref p) (upd H3 p (.dK vs))
                | _ => False), ?_, ?_⟩
          · rintro H3 ⟨G2, h3, as2, vacc2, q1, q2, q3, q4, q5⟩
            exact ⟨xs.length - (i + 1), by omega, G2, h3, as2, vacc2, q1, q2, q3, q4, rfl, hlt, q5⟩
          · intro x H3 y
            obtain ⟨G2, a, l2, w3, ea, rx⟩ := yld x H3 y
            have ed : xs.drop i = a :: xs.drop (i + 1) := by
              rw [List.drop_eq_getElem_cons hlt]
              rw [List.getElem?_eq_getElem hlt] at ea
              rw [Option.some.inj ea]
            rw [ed] at p2
            unfold dcL at p2
            have rew : RE X.K X.mg G2 (wipeE env (own.map (·.2))) (wipe σ (own.map (·.2))) := (((re.mono (l.trans l1)).wipe _).monoL (G1.holdD_lt D vacc)).mono l2
            cases eg : g a (wipeE env (own.map (·.2))) with
            | none => rw [eg] at p2; exact p2.elim
            | some e2 =>
              rw [eg] at p2
              dsimp only at p2
              refine ⟨G2, h2, _, a, e2, w3, rew, rx, eg, fun G3 H4 σ3 l3 w4 re3 bu => ⟨by rw [bu _ how]; exact wipe_idem _ _, ?_⟩⟩
              refine ⟨G3, h2, e2, w4, re3, ?_⟩
              unfold M.bnd at p2
              cases et : noexc (bt e2) h2 with
              | bad => rw [et] at p2; exact p2.elim
              | exc c fs h3 => rw [et] at p2; exact p2.elim
              | ok b h3 =>
                rw [et] at p2
                dsimp only at p2
                rw [noexc_inv et]
                intro G4 H5 b' l4 w5 rb
                subst rb
                by_cases hb : b = true
                · rw [if_pos hb] at p2 ⊢
                  refine ⟨G4, h3, e2, w5, re3.mono l4, ?_⟩
                  cases ek : noexc (mk e2) h3 with
                  | bad => rw [ek] at p2; exact p2.elim
                  | exc c fs h4 => rw [ek] at p2; exact p2.elim
                  | ok yk h4 =>
                    rw [ek] at p2
                    dsimp only at p2
                    rw [noexc_inv ek]
                    intro G5 H6 yy l5 w6 ry
                    refine ⟨G5, h4, e2, w6, (re3.mono l4).mono l5, ?_⟩
                    cases ee : noexc (me e2) h4 with
                    | bad => rw [ee] at p2; exact p2.elim
                    | exc c fs h5 => rw [ee] at p2; exact p2.elim
                    | ok yv h5 =>
                      rw [ee] at p2
                      dsimp only at p2
                      rw [noexc_inv ee]
                      intro G6 H7 zz l6 w7 rz
                      cases eka : keyA? yk with
                      | none => rw [eka] at p2; exact p2.elim
                      | some kk =>
                        rw [eka] at p2
                        dsimp only at p2
                        have ekk := keyA_of eka
                        subst ekk
                        have eyy := ry.key
                        subst eyy
                        obtain ⟨lu, eu⟩ := unholdD (l2.trans (l3.trans (l4.trans (l5.trans l6))))
                        rw [eu] at w7
                        obtain ⟨hDD, w8⟩ := w7.letgoD (by show G1.Z D = none; exact hZ1)
                        refine ⟨vacc, kk, rfl, hDD, ?_, ({ G6 with Z := G1.Z } : Gh), h5, putG as kk yv, putK vacc kk zz, l1.trans lu, ?_, ?_, ?_, ?_⟩
                        · rw [← ra.len]; omega
                        · exact RkK.put (R.monoL (G := G6) (G' := { G6 with Z := G1.Z }) ⟨Same.refl _, fun _ _ q => q, rfl⟩ rz) (ra.mono lu)
                        · have w9 := w8.holdD (D := D) (vs := putK vacc kk zz) offH_at
                          have eqh : upd (offH H7 D) D (.dK (putK vacc kk zz)) = upd H7 D (.dK (putK vacc kk zz)) := by
                            funext b
                            by_cases hb2 : b = D
                            · subst hb2; rw [upd_same, upd_same]
                            · rw [upd_ne hb2, upd_ne hb2]; unfold offH; rw [if_neg hb2]
                          rw [eqh] at w9
                          exact w9
                        · have := putG_len as kk yv; omega
                        · cases er : dcL g bt mk me (wipeE env (own.map (·.2))) (putG as kk yv) (xs.drop (i + 1)) h5 with
                          | bad => rw [er] at p2; exact p2.elim
                          | exc c fs h5 => rw [er] at p2; exact p2.elim
                          | ok zs h6 =>
                            rw [er] at p2
                            exact fun G7 H8 pp vs l7 w9 hp rs => p2 G7 H8 pp vs (lu.trans l7) w9 hp rs
                · rw [if_neg hb] at p2 ⊢
                  obtain ⟨lu, eu⟩ := unholdD (l2.trans (l3.trans l4))
                  rw [eu] at w5
                  refine ⟨({ G4 with Z := G1.Z } : Gh), h3, as, vacc, l1.trans lu, ra.mono lu, w5, by omega, ?_⟩
                  cases er : dcL g bt mk me (wipeE env (own.map (·.2))) as (xs.drop (i + 1)) h3 with
                  | bad => rw [er] at p2; exact p2.elim
                  | exc c fs h5 => rw [er] at p2; exact p2.elim
                  | ok zs h5 =>
                    rw [er] at p2
                    exact fun G6 H7 pp vs l6 => p2 G6 H7 pp vs (lu.trans l6)
        · have ei : i = xs.length := by omega
          subst ei
          rw [List.drop_length] at p2
          refine .inl ⟨stop, ?_⟩
          obtain ⟨hDD, w7⟩ := w2.letgoD hZ1
          have q := p2 G1 (offH H2 D) D vacc (.refl _) w7 offH_at ra
          rw [offH_upd hDD] at q
          exact q
    · rw [if_neg hsm] at p; exact p.elim
theorem sd_dc {kx vx tg iter : Expr} {ifs : List Expr} {scope : Scope} {own : List (Str × Nat)} {pos : Pos} {mi : EM (List AV)} {ow : List Nat} {g : GT} {bt : EM Bool} {mk me : EM AV} (O : Ok X W k) (hi : SI X W tg iter mi) (ok : BlkOk X.N X.env.scope scope own) (how : ∀ i ∈ ow, i ∈ own.map (·.2))
    (hg : ∀ s H C cl fp, SG (blkX X scope s H C cl fp) tg ow g) (ht : ∀ s H C cl fp, STs (blkX X scope s H C cl fp) noW ifs bt) (hk : ∀ s H C cl fp, SE (blkX X scope s H C cl fp) noW kx mk) (he : ∀ s H C cl fp, SE (blkX X scope s H C cl fp) noW vx me) (hs : ∀ x, foldedSetIterable iter X.env x = pure x := by intro _; rfl) :
    SD X W (.DictComp kx vx [⟨tg, iter, ifs, 0⟩] scope pos) (mDc (own.map (·.2)) mi g bt mk me) :=
  ⟨(pe_dc (tt := tST X noW bt) (g := tSG X ow g) (tk := tSE X noW mk) (tv := tSE X noW me) O.calm O.nd hi.pi ok (fun s H C cl fp => (hg s H C cl fp).pg) (fun s H C cl fp => (ht s H C cl fp).pts) (fun s H C cl fp => (hk s H C cl fp).pe) (fun s H C cl fp => (he s H C cl fp).pe) hs).weak fun σ H Q t => tDc_of how t⟩
/-! ### list(d) -/
/-- the dict that a cell holds -/
def dctOf (h : Hs) (x : AV) : Option (List (AV × AV)) := match x with
  | .cell n => (match h[n]? with
    | some (.dct kvs) => some kvs
    | _ => none)
  | _ => none
/-- all keys ints or texts -/
def allK (kvs : List (AV × AV)) : Bool := kvs.all fun p => (keyA? p.1).isSome
theorem RkK.vals {K : PySem.W.Frag} {mg : Str → Option Value} {G : Gh} : ∀ {kvs : List (AV × AV)} {vs : List (Key × V)}, RkK K mg G kvs vs → Rs K mg G (kvs.map (·.1)) (vs.map fun kv => kV kv.1)
  | _, _, .nil => .nil
  | _, _, .int r t => .cons (.int _) (RkK.vals t)
  | _, _, .str r t => .cons (.str _) (RkK.vals t)
theorem allK_T {K : PySem.W.Frag} {mg : Str → Option Value} {G : Gh} {kvs : List (AV × AV)} {vs : List (List Key × V)} (r : RkT K mg G kvs vs) (h : allK kvs = true) : kvs = [] := by
  cases r with
  | nil => rfl
  | cons r t => simp [allK, keyA?] at h
def listDA (h : Hs) (xs : List AV) : Option (List AV) := match xs with
  | [x] => (dctOf h x).bind fun kvs => if allK kvs = true then some (kvs.map (·.1)) else none
  | _ => none
theorem call_listDA (hc : X.calm = true) : CallR X (.type "list") (rF X.K X.mg listDA) := by
  intro pins s σ H xs us Q I r ⟨G, h, as, ys, w, rs, e, q⟩
  unfold listDA at e
  split at e
  · rename_i x
    cases e1 : dctOf h x with
    | none => rw [e1] at e; cases e
    | some kvs =>
      rw [e1] at e
      have e' : (if allK kvs = true then some (kvs.map (·.1)) else none) = some ys := e
      split at e'
      · rename_i hk
        cases e'
        cases rs with
        | cons r1 t =>
          cases t
          cases r1 with
          | @cell n a hm =>
            have e2 : (match h[n]? with | some (.dct kvs) => some kvs | _ => none) = some kvs := e1
            cases hn : h[n]? with
            | none => rw [hn] at e2; cases e2
            | some c =>
              rw [hn] at e2
              cases c with
              | dct kv2 =>
                cases e2
                obtain ⟨b, h1, h2, hz, ⟨vks, h3, h4⟩ | ⟨vks, h3, h4⟩⟩ := w.cells n _ hn
                · rw [hm] at h1; cases h1
                  refine call_list_dK hc pins s σ H _ us Q I r ⟨a, vks, rfl, h3, fun p hp => ?_⟩
                  exact q G H p _ (.refl G) w hp h4.vals
                · rw [hm] at h1; cases h1
                  have e0 := allK_T h4 hk
                  subst e0
                  cases h4
                  refine call_list_dT hc pins s σ H _ us Q I r ⟨a, [], rfl, .inl h3, fun p bs hp hb => ?_⟩
                  cases hb
                  exact q G H p _ (.refl G) w hp .nil
              | lst _ => cases e2
              | ins _ _ => cases e2
              | frz _ => cases e2
          | _ => cases e1
      · cases e'
  · cases e
end
end Sim

set_option Elab.async false
set_option linter.all false
set_option maxRecDepth 100000
set_option maxHeartbeats 2000000
namespace Sim
open PySem PySem.Spec L2
open PyProof.Rows hiding St
variable [TabT]
/-! SimT: sorted(xs, key=lambda y: (len(y), y)) of tuples of ints. -/
def LamO (f : Addr) (q : Str) (params : Arguments) (body : Expr) (scope : Scope) (cl : List (Str × Addr)) (c' : Addr) : HO :=
  .ext fun h => ∃ pm ctv, h.get? f = some (PySem.W.kla_obj "<lambda>" q params body scope cl pm c' ctv)
section
variable {X : Cx} {pins : List (Addr × Obj)} {σ : L2.St} {H : Hp} {s : Shared}
/-- the lambda is made, and told of -/
theorem lam_make3 {T : List (Addr × Str)} {c P : Addr} {params : Arguments} {body : Expr} {scope : Scope} {pos : Pos} {E : Value → Shared → Prop} {Q : Value → Shared → Prop} (I : Inv X pins σ H s) (TB : LamX.TabB X.base X.mg c P) (hcode : X.env.code = .ref c)
    (hm : (P, X.env.qual ++ "<lambda>") ∈ T) (hu : ∀ p ∈ T, p.1 = P → p.2 = X.env.qual ++ "<lambda>") (hT : LamX.Tabs T H) (hdef : defaultsOf params X.env = ([], [])) (hfree : ∀ y ∈ scope.names, y.2 = .free → ∃ c, X.env.cells.lookup y.1 = some c)
    (h : ∀ (f c' : Addr) (H1 : Hp) (s' : Shared), Inv X pins σ H1 s' → LamX.ExtN H H1 → LamX.Tabs T H1 → H1 f = some (LamO f (X.env.qual ++ "<lambda>") params body scope (cloFrom X.env.cells scope.names []) c') → H1 c' = some (LamX.CodeO c' (X.env.qual ++ "<lambda>")) → Q (.ref f) s') :
    wpAny (model X.prog X.w) X.A (eval (.Lambda params body scope pos) X.env) Q E s := by
  obtain ⟨ps, hP, ht, ha⟩ := hT _ hm
  refine PySem.W.kla_eval hdef ?_
  have bP : s.heap.BuiltinsAt X.mg P := TB.bm.keeps I.bk
  have hP' : s.heap.get? P = some { cls := .none, data := .fields ps } := I.hok P _ hP
  have track : ∀ {H2 : Hp} {h2 : Heap} {tk tk2 : Nat} {pm ctv : Value} {c' : Addr}, Inv X pins σ H2 { s with heap := h2, toks := tk } → LamX.ExtN H H2 → LamX.Tabs T H2 → H2 c' = some (LamX.CodeO c' (X.env.qual ++ "<lambda>")) →
      Q (.ref h2.objs.size) { s with heap := h2.push (PySem.W.kla_obj "<lambda>" (X.env.qual ++ "<lambda>") params body scope (cloFrom X.env.cells scope.names []) pm c' ctv), toks := tk2 } := fun {H2 h2 tk tk2 pm ctv c'} I2 eN T2 hc => by
    have hn : H2 h2.objs.size = none := I2.hok.fresh (Nat.le_refl _)
    have I3 := I2.laid (a := h2.objs.size) (o := LamO h2.objs.size (X.env.qual ++ "<lambda>") params body scope (cloFrom X.env.cells scope.names []) c') (h' := h2.push (PySem.W.kla_obj "<lambda>" (X.env.qual ++ "<lambda>") params body scope (cloFrom X.env.cells scope.names []) pm c' ctv)) (t' := tk2)
      (fun b u e => Heap.get?_push_of_some _ e) (Nat.le_refl _) ⟨⟨pm, ctv, Heap.get?_push_size _ rfl⟩, ⟨_, Heap.get?_push_size _ rfl⟩, fun h1 h2 ⟨pm, ctv, a⟩ st => ⟨pm, ctv, st _ a⟩⟩
    refine h h2.objs.size c' _ _ I3 (fun b o e n => ?_) (fun p hp => (T2 p hp).ext fun b o e => ?_) upd_same ?_
    · have e2 := eN b o e n
      rw [upd_ne (ne_of_none e2 hn)]; exact e2
    · rw [upd_ne (ne_of_none e hn)]; exact e
    · rw [upd_ne (ne_of_none hc hn)]; exact hc
  cases hc : codeAmong pos ps.toList with
  | none =>
    refine PySem.W.kla_makeFunction (mg := X.mg) (c := c) (P := P) (ps := ps) (closure_ok hfree) I.ok.glob (I.mod.glob.keeps I.bk) hcode (TB.code.keeps I.bk) hP' ht hc TB.gP bP fun c' ctv h' tk hx hge hlt hrec htb => ?_
    obtain ⟨c2, oc, vs, t, e2, hoc, hd, hv⟩ := hrec
    cases e2
    have nC : H c' = none := I.hok.fresh hge
    have I1 := LamX.inv_table (t' := tk) (more := #[rawInt pos.line, rawInt pos.col, .ref c']) (h' := h') I hP (fun b o hb e => hx b o hb e) htb hge ⟨oc, vs, t, hoc, hd, hv⟩
    have hE : LamX.ExtN H (upd (upd H P (.tbl (ps ++ #[rawInt pos.line, rawInt pos.col, .ref c']))) c' (LamX.CodeO c' (X.env.qual ++ "<lambda>"))) := fun b o e n => by
      rw [upd_ne (ne_of_none e nC), upd_ne (fun z => n ps (Option.some.inj (e.symm.trans (by rw [z]; exact hP))))]
      exact e
    have eL : (ps ++ #[rawInt pos.line, rawInt pos.col, .ref c']).toList = ps.toList ++ [rawInt pos.line, rawInt pos.col, .ref c'] := by simp
    refine track I1 hE (fun p hp => ?_) upd_same
    by_cases hb : p.1 = P
    · rw [hu p hp hb, hb]
      refine ⟨_, by rw [upd_ne (ne_of_none hP nC), upd_same], by rw [eL]; exact PySem.TriplesOk_snoc _ _ _ _ ht, fun p' cv hcv => ?_⟩
      rw [eL] at hcv
      rcases LamX.among_app _ ht hcv with z | z
      · obtain ⟨c0, e1, e2⟩ := ha p' cv z
        exact ⟨c0, e1, hE _ _ e2 LamX.codeO_ne⟩
      · exact ⟨c', z, upd_same⟩
    · obtain ⟨ps', a1, a2, a3⟩ := hT p hp
      refine ⟨ps', by rw [upd_ne (ne_of_none a1 nC), upd_ne hb]; exact a1, a2, fun p' cv hcv => ?_⟩
      obtain ⟨c0, e1, e2⟩ := a3 p' cv hcv
      exact ⟨c0, e1, hE _ _ e2 LamX.codeO_ne⟩
  | some cv =>
    obtain ⟨c', e, hco⟩ := ha pos cv hc
    subst e
    refine PySem.W.kla_makeFunctionHit (mg := X.mg) (c := c) (P := P) (ps := ps) (closure_ok hfree) I.ok.glob (I.mod.glob.keeps I.bk) hcode (TB.code.keeps I.bk) hP' ht hc bP fun ctv h' tk hx hsz => ?_
    have I1 : Inv X pins σ H { s with heap := h', toks := tk } := I.kept fun b o e => hx b o e
    exact track I1 (LamX.ExtN.refl H) hT hco
end
/-! ### the key (len(y), y) -/
def kLen (ns : List Int) : PyData := .tuple [.int ns.length, .tuple (ns.map .int)]
/-- what the lambda's names are -/
structure KeyS (scope : Scope) (y : Str) : Prop where
  kind : scope.kind = .function
  co : scope.isCoroutine = false
  gen : scope.isGenerator = false
  nocell : ∀ z ∈ scope.names, z.2 ≠ .cell
  loc : scope.names.lookup y = some NameKind.local
  len : scope.names.lookup ("len" : Str) = some NameKind.globalImplicit
  nofree : ∀ z ∈ scope.names, z.2 ≠ .free
theorem reads_ints {h : Heap} {us : List Value} {ns : List Int} (i : IntsAre us ns) : ReadsAll h us (ns.map .int) [] := by
  induction i with
  | nil => exact .nil
  | cons n t _ ih => exact ReadsAll.cons (.int n t) ih
section
variable {P : Program} {w : World} {A : Around}
abbrev keyBody (y : Str) (k1 : Nat) (q1 q2 q3 q4 q5 : Pos) : Expr := .Tuple [.Call (.Name "len" q1) [.Name y q2] [] q3, .Name y q4] k1 q5
theorem key_body {s : Shared} {env : Env} {E : Value → Shared → Prop} {y : Str} {k1 : Nat} {q1 q2 q3 q4 q5 : Pos} {v : Value} {ns : List Int} {m mg : Str → Option Value} {mb : Str → Option Value} (hk : env.scope.kind = .function) (hkl : env.kindOf "len" = some .globalImplicit) (hky : env.kindOf y = some .local)
    (hm : s.heap.Ns env.locals m) (hv : m y = some v) (gl : s.heap.Ns env.globals mg) (bl : s.heap.Ns env.builtins mb) (ml : mg "len" = none) (mbl : mb "len" = bootBuiltins "len") (ti : SrtT.TI s.heap v ns) (hz : ns.length ≤ sizeLine)
    (hd : (y == ("__debug__" : Str)) = false) :
    wpAny (model P w) A (eval (keyBody y k1 q1 q2 q3 q4 q5) env) (PySem.W.KeyPure (kLen ns) s) E s := by
  obtain ⟨a, items, rfl, it, ia⟩ := ti
  have hlen : items.size = ns.length := by rw [← ia.length, Array.length_toList]
  have hz2 := hz
  rw [sizeLine_eq] at hz2
  have two : 2 ≤ sizeLine := by rw [sizeLine_eq]; decide
  refine wpAny_Tuple_spliced ?_
  show wpAny _ _ (spliced ((false, eval (.Call (.Name "len" q1) [.Name y q2] [] q3) env) :: backTo q5 (starEach [.Name y q4] env))) _ _ s
  refine Calls.spliced_cons (wpAny_Call_Name_kw (Calls.Name_function_global hk hkl (Calls.loadGlobal_builtin gl ml bl (mbl.trans PySem.boot_len) ?_) (by decide)))
  refine PyProof.Rows.callWith_builtin1 ?_
  show wpAny _ _ (spliced ((false, eval (.Name y q2) env) :: backTo q3 (starEach [] env))) _ _ s
  refine Calls.spliced_cons (wpAny_Name (wpAny_loadName_local hk hky hm hv ?_) hd)
  refine Calls.spliced_nil (len_tuple it (by rw [hlen]; omega) ?_)
  show wpAny _ _ (spliced ((false, eval (.Name y q4) env) :: backTo q5 (starEach [] env))) _ _ _
  refine Calls.spliced_cons (wpAny_Name (wpAny_loadName_local hk hky hm hv ?_) hd)
  refine Calls.spliced_nil ⟨two, ?_⟩
  refine ⟨_, _, rfl, fun b o e => Heap.get?_push_of_some _ e, ?_⟩
  obtain ⟨o, h1, h2, n, h3⟩ := it
  have q : Reads (s.heap.push { cls := .type "tuple", data := .seq [Value.int items.size (s.toks + 1), .ref a].toArray }) (.ref s.heap.objs.size) (.tuple [.int ns.length, .tuple (ns.map .int)]) [] := by
    refine Reads.tuple (Heap.get?_push_size _ rfl) rfl rfl ?_
    have r1 : Reads (s.heap.push { cls := .type "tuple", data := .seq [Value.int items.size (s.toks + 1), .ref a].toArray }) (.int items.size (s.toks + 1)) (.int ns.length) [] := by
      rw [hlen]; exact .int _ _
    have r2 : Reads (s.heap.push { cls := .type "tuple", data := .seq [Value.int items.size (s.toks + 1), .ref a].toArray }) (.ref a) (.tuple (ns.map .int)) [] := Reads.tuple (Heap.get?_push_of_some _ h1) h2 h3 (reads_ints ia)
    exact ReadsAll.cons r1 (ReadsAll.cons r2 .nil)
  exact q
end
/-! ### the order -/
def ltLen (a b : List Int) : Bool := decide (a.length < b.length) || (decide (a.length = b.length) && HT.lexLt a b)
theorem eqv_all_ints : ∀ a b : List Int, PyData.eqvAll (a.map .int) (b.map .int) = decide (a = b)
  | [], [] => rfl
  | [], _ :: _ => rfl
  | _ :: _, [] => rfl
  | x :: xs, y :: ys => by
    rw [List.map_cons, List.map_cons, PyData.eqvAll, eqv_all_ints xs ys]
    show ((x == y) && _) = _
    by_cases h : x = y
    · subst h; simp
    · simp [h]
theorem alike_ints : ∀ a b : List Int, PySem.W.alikeAll (a.map .int) (b.map .int) = true
  | [], _ => by cases ‹List Int› <;> rfl
  | _ :: _, [] => rfl
  | x :: xs, y :: ys => by rw [List.map_cons, List.map_cons, PySem.W.alikeAll, alike_ints xs ys]; rfl
theorem lex_ints : ∀ a b : List Int, PyProof.Rows.lexLt itemOrd (PySem.W.keyToksAll (a.map .int)) (PySem.W.keyToksAll (b.map .int)) = HT.lexLt a b
  | [], [] => by rfl
  | [], y :: ys => by rfl
  | x :: xs, [] => by rfl
  | x :: xs, y :: ys => by
    rw [List.map_cons, List.map_cons]
    by_cases h : x = y
    · subst h
      rw [PySem.W.dataLt_all_yes (x := .int x) (y := .int x) rfl (beq_self_eq_true x), lex_ints xs ys]
      simp [HT.lexLt]
    · rw [PySem.W.dataLt_all_no (x := .int x) (y := .int y) rfl (beq_eq_false_iff_ne.mpr h), PySem.W.dataLt_int]
      simp [HT.lexLt, h]
theorem tot_irr {α : Type} {lt : α → α → Bool} (O : Tot lt) (x : α) : lt x x = false := by
  cases h : lt x x with
  | false => rfl
  | true => rw [O.asym x x h] at h; cases h
theorem kLen_lt (a b : List Int) : PySem.W.dataLt (kLen a) (kLen b) = ltLen a b := by
  unfold kLen ltLen
  rw [PySem.W.dataLt_tuple]
  by_cases h : a.length = b.length
  · rw [PySem.W.dataLt_all_yes (x := .int a.length) (y := .int b.length) rfl (by rw [h]; exact beq_self_eq_true _)]
    have l1 : decide (a.length < b.length) = false := decide_eq_false (by omega)
    rw [l1, Bool.false_or, decide_eq_true h, Bool.true_and]
    by_cases e : a = b
    · subst e
      rw [PySem.W.dataLt_all_yes (x := .tuple (a.map .int)) (y := .tuple (a.map .int)) (alike_ints a a) (by show PyData.eqvAll _ _ = true; rw [eqv_all_ints, decide_eq_true rfl])]
      rw [tot_irr lexTot a]
      rfl
    · rw [PySem.W.dataLt_all_no (x := .tuple (a.map .int)) (y := .tuple (b.map .int)) (alike_ints a b) (by show PyData.eqvAll _ _ = false; rw [eqv_all_ints, decide_eq_false e])]
      rw [PySem.W.dataLt_tuple, lex_ints]
  · rw [PySem.W.dataLt_all_no (x := .int a.length) (y := .int b.length) rfl (beq_eq_false_iff_ne.mpr (by omega)), PySem.W.dataLt_int, decide_eq_false h, Bool.false_and, Bool.or_false]
    exact decide_eq_decide.mpr (by omega)
theorem lenTot : Tot ltLen := by
  refine ⟨fun x y h => ?_, fun x y z h1 h2 => ?_, fun x y h1 h2 => ?_⟩
  · unfold ltLen at h ⊢
    rcases Nat.lt_trichotomy x.length y.length with l | l | l
    · rw [decide_eq_false (by omega), decide_eq_false (by omega)]; rfl
    · rw [decide_eq_false (by omega), decide_eq_true l, Bool.false_or, Bool.true_and] at h
      rw [decide_eq_false (by omega), decide_eq_true l.symm, lexTot.asym _ _ h]; rfl
    · rw [decide_eq_false (by omega), decide_eq_false (by omega)] at h; cases h
  · unfold ltLen at h1 h2 ⊢
    rw [Bool.or_eq_false_iff, decide_eq_false_iff_not, Bool.and_eq_false_iff, decide_eq_false_iff_not] at h1 h2 ⊢
    refine ⟨by omega, ?_⟩
    rcases h1.2 with q1 | q1
    · exact .inl (by omega)
    · rcases h2.2 with q2 | q2
      · exact .inl (by omega)
      · exact .inr (lexTot.tr _ _ _ q1 q2)
  · unfold ltLen at h1 h2
    rw [Bool.or_eq_false_iff, decide_eq_false_iff_not, Bool.and_eq_false_iff, decide_eq_false_iff_not] at h1 h2
    have e : x.length = y.length := by omega
    rcases h1.2 with q1 | q1
    · exact absurd e q1
    · rcases h2.2 with q2 | q2
      · exact absurd e.symm q2
      · exact lexTot.eq _ _ q1 q2
theorem each_of {hp : Heap} (M : List Value) : ∀ {us : List Value} {nss : List (List Int)}, us.map (keyOf hp) = nss → (∀ u ∈ us, SrtT.TI hp u (keyOf hp u)) → (∀ u ∈ us, u ∈ M) → PySem.W.EachIs (fun u ns => SrtT.TI hp u ns ∧ u ∈ M) us nss
  | [], _, rfl, _, _ => .nil
  | u :: us, _, rfl, h, hm => .cons ⟨h u List.mem_cons_self, hm u List.mem_cons_self⟩ (each_of M rfl (fun v hv => h v (List.mem_cons_of_mem _ hv)) fun v hv => hm v (List.mem_cons_of_mem _ hv))
theorem each_keys {hp : Heap} {M : List Value} : ∀ {us : List Value} {nss : List (List Int)}, PySem.W.EachIs (fun u ns => SrtT.TI hp u ns ∧ u ∈ M) us nss → us.map (keyOf hp) = nss ∧ ∀ u ∈ us, u ∈ M
  | [], [], _ => ⟨rfl, fun _ h => nomatch h⟩
  | [], _ :: _, h => by cases h
  | _ :: _, [], h => by cases h
  | u :: us, n :: ns, h => by
    cases h with
    | cons h1 t =>
      obtain ⟨e1, e2⟩ := each_keys t
      refine ⟨by rw [List.map_cons, keyOf_eq h1.1, e1], fun v hv => ?_⟩
      rcases List.mem_cons.mp hv with e | e
      · rw [e]; exact h1.2
      · exact e2 v e
/-- what is asked of a key -/
structure KeyR (k : List Int → PyData) (lt : List Int → List Int → Bool) : Prop where
  tot : Tot lt
  dl : ∀ a b, PySem.W.dataLt (k a) (k b) = lt a b
  al : ∀ nss : List (List Int), PySem.W.AllAlike (nss.map k)
  so : ∀ nss : List (List Int), PySem.W.Sortable (nss.map k)
  dep : ∀ a, (k a).depth ≤ 3
theorem depth_ints' : ∀ ns : List Int, PyData.depthAll (ns.map PyData.int) = 0
  | [] => rfl
  | n :: ns => by rw [List.map_cons, PyData.depthAll, depth_ints' ns]; rfl
theorem keyR_len : KeyR kLen ltLen where
  tot := lenTot
  dl := kLen_lt
  al := fun nss d hd d' hd' => by
    obtain ⟨a, _, rfl⟩ := List.mem_map.mp hd
    obtain ⟨b, _, rfl⟩ := List.mem_map.mp hd'
    show PySem.W.alikeAll _ _ = true
    rw [PySem.W.alikeAll, PySem.W.alikeAll]
    show (true && (PySem.W.alikeAll _ _ && true)) = true
    rw [alike_ints]
    rfl
  so := fun nss => .inl fun d hd => by
    obtain ⟨a, _, rfl⟩ := List.mem_map.mp hd
    exact ⟨_, _, rfl⟩
  dep := fun a => by
    unfold kLen
    simp only [PyData.depth, PyData.depthAll, depth_ints']
    decide
section
variable {X : Cx} {W : WX} {j k : Nat}
/-- what sorting by the key gives -/
def rSortL (X : Cx) (lt : List Int → List Int → Bool) : V → Hp → VK → Prop := fun v H Q => ∃ (G : Gh) (h : Hs) (nss : List (List Int)) (a : Addr) (ws : List V), WI X.K X.mg G h H ∧ Rs X.K X.mg G (nss.map tupA) ws ∧ v = .ref a ∧ SqL X.K H a ws ∧ (∀ ns ∈ nss, ns.length ≤ sizeLine) ∧
    ∀ G' H' p ws', G.le G' → WI X.K X.mg G' h H' → H' p = none → Rs X.K X.mg G' ((isort lt nss).map tupA) ws' → Q (.ref p) (upd H' p (.lst ws'))
theorem sort_run {pins : List (Addr × Obj)} {s : Shared} {σ : L2.St} {H : Hp} {v : V} {u : Value} {f : Addr} {key : List Int → PyData} {lt : List Int → List Int → Bool} {Q : VK} (kr : KeyR key lt) (hu : X.A.units + 64 < cLine) (I : Inv X pins σ H s) (ru : RelV v u) (h : rSortL X lt v H Q)
    (turn : ∀ (u : Value) (ns : List Int), ns.length ≤ sizeLine → SrtT.TI s.heap u ns → ∀ (hh : Heap) (tk : Nat), (∀ b o, s.heap.get? b = some o → hh.get? b = some o) →
      wpAny (model X.prog X.w) X.A.in1.in1 (call (.ref f) [u]) (PySem.W.KeyPure (key ns) { s with heap := hh, toks := tk }) (fun _ _ => False) { s with heap := hh, toks := tk }) :
    wpAny (model X.prog X.w) X.A (call (.builtin "sorted") [u] [(Str.ofString "key", .ref f)]) (EP X pins σ Q) X.xe s := by
  obtain ⟨G, hs, nss, a, ws, w, rs, rfl, hl, hsz, q⟩ := h
  obtain rfl : u = Value.ref a := ru
  obtain ⟨its, rv, hlst, hz⟩ := I.list hl
  obtain ⟨t1, t2⟩ := tups_raw I w rs rv
  have hlen : nss.length = its.length := by rw [← t1, List.length_map]
  refine PySem.W.sorted_key_data (β := List Int) (bs := nss) (R := fun u ns => SrtT.TI s.heap u ns ∧ u ∈ its) (b := false) key hlst.isList (each_of its t1 (fun u hu => (t2 u hu).1) fun u hu => hu) (kr.al nss) (kr.so nss) (by rw [hlen, ← rv.length]; exact hz) (fun x _ => by have := kr.dep x; omega)
    (PyProof.Rows.ksk_s1 _ _) (fun _ => PyProof.Rows.ksk_l1 _ _) (fun x => PyProof.Rows.ksk_t1 f x) (fun u ns hR hx hh tk kp => turn u ns (hsz ns hx) hR.1 hh tk kp) fun out c h' tk kp hn hD ho hE => ?_
  obtain ⟨hk, hin⟩ := each_keys hE
  have hle : ∀ a b, PySem.W.dataLe false key a b = !lt b a := fun a b => by rw [← kr.dl b a]; rfl
  have hsort : nss.mergeSort (PySem.W.dataLe false key) = isort lt nss := by
    refine sd_unique kr.tot ((List.mergeSort_perm _ _).trans (isort_perm nss).symm) ?_ (isort_sd kr.tot _)
    have hp := List.pairwise_mergeSort (le := PySem.W.dataLe false key) (fun a b c h1 h2 => by
      rw [hle] at h1 h2 ⊢
      have e1 : lt b a = false := by simpa using h1
      have e2 : lt c b = false := by simpa using h2
      rw [kr.tot.tr _ _ _ e1 e2]; rfl) (fun a b => by
      rw [hle, hle]
      cases e : lt b a with
      | false => rfl
      | true => rw [kr.tot.asym _ _ e]; rfl) nss
    exact hp.imp fun {a b} h => by rw [hle] at h; simpa using h
  rw [hsort] at hk
  have hmem : ∀ u ∈ out, ∃ a, u = Value.ref a ∧ R X.K X.mg G (tupA (keyOf s.heap u)) (.ref a) := fun u hu => (t2 u (hin u hu)).2
  have rs' := rs_of_keys (X := X) (G := G) (hp := s.heap) hmem
  rw [hk] at rs'
  have hlen2 : (out.map bkV).length ≤ sizeLine := by
    rw [List.length_map, ho, hlen, ← rv.length]; exact hz
  exact ⟨.ref _, upd H (s.heap.objs.size + 1) (.lst (out.map bkV)), I.laid (t' := tk) kp (Nat.le_succ _) ⟨hlen2, out, c, bkV_vals (fun u hu => by obtain ⟨a, e, _⟩ := hmem u hu; exact ⟨a, e⟩), by exact hD⟩, rfl,
      q G H _ _ (.refl G) w (I.hok.fresh (Nat.le_succ _)) rs'⟩

theorem lam_key {pins : List (Addr × Obj)} {s : Shared} {σ : L2.St} {H : Hp} {f c' : Addr} {y : Str} {k1 : Nat} {q1 q2 q3 q4 q5 : Pos} {params : Arguments} {scope : Scope} {cl : List (Str × Addr)} (I : Inv X pins σ H s) (S : KeyS scope y) (ml : X.mg "len" = none) (hr : Room 1 X.A)
    (hf : H f = some (LamO f (X.env.qual ++ "<lambda>") params (keyBody y k1 q1 q2 q3 q4 q5) scope cl c')) (hc : H c' = some (LamX.CodeO c' (X.env.qual ++ "<lambda>")))
    (hbind : ∀ (q : Str) (cl : List (Str × Addr)) (pm cv ctv v : Value), bindArgs (PySem.W.kla_fn "<lambda>" q params (keyBody y k1 q1 q2 q3 q4 q5) scope cl pm cv ctv) ⟨[v], []⟩ = pure [(y, v)]) (hd : (y == ("__debug__" : Str)) = false) :
    ∀ (u : Value) (ns : List Int), ns.length ≤ sizeLine → SrtT.TI s.heap u ns → ∀ (hh : Heap) (tk : Nat), (∀ b o, s.heap.get? b = some o → hh.get? b = some o) →
      wpAny (model X.prog X.w) X.A.in1.in1 (call (.ref f) [u]) (PySem.W.KeyPure (kLen ns) { s with heap := hh, toks := tk }) (fun _ _ => False) { s with heap := hh, toks := tk } := by
  intro u ns hz ti hh tk kp
  have I3 : Inv X pins σ H { s with heap := hh, toks := tk } := I.kept kp
  obtain ⟨⟨pm, ctv, hfo⟩, _, _⟩ := (show ObjOk X.prog X.w H hh f (LamO f (X.env.qual ++ "<lambda>") params (keyBody y k1 q1 q2 q3 q4 q5) scope cl c') from I3.hok f _ hf)
  obtain ⟨⟨oc, vs, t, hoc, hdc, hvc⟩, _, _⟩ := (show ObjOk X.prog X.w H hh c' (LamX.CodeO c' (X.env.qual ++ "<lambda>")) from I3.hok c' _ hc)
  have hdep : X.A.in1.in1.depth < recursionLimit := hr.depth
  refine wpAny_call (PySem.W.kla_callFunE (s := { s with heap := hh, toks := tk }) hdep hfo rfl S.co S.gen rfl ⟨c', oc, vs, t, rfl, hoc, hdc, hvc⟩ ?_)
  rw [hbind]
  refine wpAny_pure (wpAny_newFunctionEnv (fun z hz' => S.nocell z hz') (fun z hz' => ?_) (fun h₁ hns hsb => ⟨I3.nolimit.fresh _ hsb, ?_⟩) S.kind)
  · rcases List.mem_singleton.mp hz' with rfl
    exact S.loc
  have kp1 : ∀ b o, hh.get? b = some o → h₁.get? b = some o := fun b o e => hsb.extBut b o (Nat.ne_of_lt (Heap.lt_size e)) (Heap.get?_push_of_some _ e)
  obtain ⟨mb, hb1, hb2⟩ := I3.mod.blt
  refine PySem.W.kla_codeExpr (wpAny_mono (key_body (s := { s with heap := h₁, toks := tk + [(y, u)].length }) (mg := X.mg) (mb := mb) (v := u) (ns := ns) S.kind S.len S.loc hns ?_ ((I3.mod.glob.keeps I3.bk).keeps kp1) ((hb1.keeps I3.bk).keeps kp1) ml (hb2 _ (by decide)) (ti.keeps fun b o e _ => kp1 b o (kp b o e)) hz hd) (fun v s' hq => ?_) fun e s' hq => hq)
  · show ([(y, u)] : List (Str × Value)).reverse.lookup y = some u
    simp
  · obtain ⟨h', tk', rfl, k2, r⟩ := hq
    exact ⟨h', tk', rfl, fun b o e => k2 b o (kp1 b o e), r⟩
/-- sorted(e, key=lambda y: (len(y), y)) -/
theorem pe_sortLam {c P : Addr} {q0 : Str} {e : Expr} {te : TE} {y : Str} {k1 : Nat} {q1 q2 q3 q4 q5 lpos kpos p pos : Pos} {params : Arguments} {scope : Scope} (hc : X.calm = true) (hu : X.A.units + 64 < cLine) (hr : Room 1 X.A) (TB : LamX.TabB X.base X.mg c P) (hcode : X.env.code = .ref c) (hq : X.env.qual = q0)
    (hmT : (P, q0 ++ "<lambda>") ∈ TabT.T) (huT : ∀ p ∈ TabT.T, p.1 = P → p.2 = q0 ++ "<lambda>") (S : KeyS scope y) (ms : X.mg "sorted" = none) (ml : X.mg "len" = none) (he : PE X e te) (hg : Gl X "sorted")
    (hdef : defaultsOf params X.env = ([], [])) (hbind : ∀ (q : Str) (cl : List (Str × Addr)) (pm cv ctv v : Value), bindArgs (PySem.W.kla_fn "<lambda>" q params (keyBody y k1 q1 q2 q3 q4 q5) scope cl pm cv ctv) ⟨[v], []⟩ = pure [(y, v)])
    (hd : (y == ("__debug__" : Str)) = false) (hst : starEach [e] X.env = (false, eval e X.env) :: starEach [] X.env) :
    PE X (.Call (.Name "sorted" p) [e] [⟨some "key", .Lambda params (keyBody y k1 q1 q2 q3 q4 q5) scope lpos, kpos⟩] pos) (fun σ H Q => te σ H fun v H1 => LamX.Tabs TabT.T H1 ∧ ∀ H2, LamX.ExtN H1 H2 → LamX.Tabs TabT.T H2 → rSortL X ltLen v H2 Q) := by
  subst hq
  refine ⟨fun pins s σ H Q I h => ?_⟩
  refine wpAny_Call_Name_kw (ld_blt I hg ms (show bootBuiltins ("sorted" : Str) = some (.builtin "sorted") by rfl) ?_)
  have ha : PA X [e] (tCons te tNil) := pa_cons he pa_nil hst
  let Q1 : List V → Hp → Prop := fun vs H1 => match vs with
    | [v] => LamX.Tabs TabT.T H1 ∧ ∀ H2, LamX.ExtN H1 H2 → LamX.Tabs TabT.T H2 → rSortL X ltLen v H2 Q
    | _ => False
  refine PyProof.Rows.callWith_kw (thn (ha.run pos pins s σ H Q1 I h) fun us s1 ⟨vs, H1, I1, r1, q⟩ => ?_) (by rw [hst]; rfl) (by rw [hst]; rfl) (by rfl) (by rfl)
  cases r1 with
  | nil => exact q.elim
  | @cons v u vs us ru rt =>
    cases rt with
    | cons _ _ => exact q.elim
    | nil =>
      obtain ⟨t1, q⟩ := q
      show wpAny _ _ (evalAll ((do let v ← eval (.Lambda params (keyBody y k1 q1 q2 q3 q4 q5) scope lpos) X.env; standAt pos; pure v) :: (backToKw pos (keywordEach [] X.env)).map (·.2))) _ _ s1
      refine wpAny_evalAll_cons (wpAny_bind (lam_make3 I1 TB hcode hmT huT t1 hdef (fun z hz e => absurd e (S.nofree z hz)) fun f c' H2 s2 I2 eN t2 hf hc' => wpAny_bind (wpAny_standAt (wpAny_pure ?_))))
      refine wpAny_evalAll_nil ?_
      show wpAny _ _ (call (.builtin "sorted") [u] [(Str.ofString "key", .ref f)]) _ _ _
      exact sort_run keyR_len hu I2 ru (q H2 eN t2) (lam_key I2 S ml hr hf hc' hbind hd)
/-- what sorting by the key gives, told of contents -/
def sortLenA (h : Hs) (x : AV) : Option (List AV) := (lstOf h x).bind fun ys => (tups? ys).bind fun nss => if nss.all (fun ns => decide (ns.length ≤ sizeLine)) then some ((isort ltLen nss).map tupA) else none
def mSortLen (m : EM AV) : EM (List AV) := fun env => (m env).bnd fun x => rd fun h => sortLenA h x
theorem sf_sortLen {c P : Addr} {q0 : Str} {e : Expr} {m : EM AV} {y : Str} {k1 : Nat} {q1 q2 q3 q4 q5 lpos kpos p pos : Pos} {params : Arguments} {scope : Scope} (O : Ok X W j) (hj : 1 ≤ j) (TB : LamX.TabB X.base X.mg c P) (hcode : X.env.code = .ref c) (hq : X.env.qual = q0)
    (hmT : (P, q0 ++ "<lambda>") ∈ TabT.T) (huT : ∀ p ∈ TabT.T, p.1 = P → p.2 = q0 ++ "<lambda>") (S : KeyS scope y) (ms : X.mg "sorted" = none) (ml : X.mg "len" = none) (he : SE X W e m) (hg : Gl X "sorted" := by rfl)
    (hdef : defaultsOf params X.env = ([], []) := by rfl) (hbind : ∀ (q : Str) (cl : List (Str × Addr)) (pm cv ctv v : Value), bindArgs (PySem.W.kla_fn "<lambda>" q params (keyBody y k1 q1 q2 q3 q4 q5) scope cl pm cv ctv) ⟨[v], []⟩ = pure [(y, v)] := by intros; rfl)
    (hd : (y == ("__debug__" : Str)) = false := by decide) (hst : starEach [e] X.env = (false, eval e X.env) :: starEach [] X.env := by rfl) :
    SF X W (.Call (.Name "sorted" p) [e] [⟨some "key", .Lambda params (keyBody y k1 q1 q2 q3 q4 q5) scope lpos, kpos⟩] pos) (mSortLen m) := by
  refine ⟨(pe_sortLam O.calm O.u64 (O.hr.mono hj) TB hcode hq hmT huT S ms ml he.pe hg hdef hbind hd hst).weak fun σ H Q ⟨G, h, env, w, re, p⟩ => ⟨G, h, env, w, re, post_bnd (postSF p) fun x h1 G1 H1 v l1 w1 rx p1 => ⟨w1.tb.T, fun H2 eN t2 => ?_⟩⟩⟩
  obtain ⟨ys, e1, q⟩ := post_rd p1
  unfold sortLenA at e1
  cases e2 : lstOf h1 x with
  | none => rw [e2] at e1; cases e1
  | some zs =>
    rw [e2] at e1
    have e1' : ((tups? zs).bind fun nss => if nss.all (fun ns => decide (ns.length ≤ sizeLine)) then some ((isort ltLen nss).map tupA) else none) = some ys := e1
    cases e3 : tups? zs with
    | none => rw [e3] at e1'; cases e1'
    | some nss =>
      rw [e3] at e1'
      have e1'' : (if nss.all (fun ns => decide (ns.length ≤ sizeLine)) then some ((isort ltLen nss).map tupA) else none) = some ys := e1'
      split at e1''
      · rename_i hs
        cases e1''
        have w2 := w1.extN eN t2
        obtain ⟨a, vs, rfl, rs, hH⟩ := rx.lstOf w2 e2
        rw [tups_of e3] at rs
        exact ⟨G1, h1, nss, a, vs, w2, rs, rfl, .inl (.inl hH), fun ns hn => of_decide_eq_true (List.all_eq_true.mp hs ns hn), fun G' H' p ws' l w' hp rs' => q G' H' ws' l w' rs' p hp⟩
      · cases e1''
end
end Sim

set_option Elab.async false
set_option linter.all false
set_option maxRecDepth 100000
set_option maxHeartbeats 2000000
namespace Sim
open PySem PySem.Spec L2
open PyProof.Rows hiding St
variable [TabT]
/-! SimU: isinstance of own classes; statements that are never reached. -/
section
variable {X : Cx} {W : WX} {j k : Nat}
/-- what isinstance asks of an instance's class C1 and the class C -/
structure IsOk (K : PySem.W.Frag) (C1 C : Addr) (b : Bool) : Prop where
  cl : Cls K C1
  ha : PySem.W.findIn K (.ref C1) "__class__" = some (some (.builtin "object.__class__"))
  hn : PySem.W.specialIn K (.builtin "object.__class__") "__get__" = some (some (.builtin "getset_descriptor.__get__"))
  htk : PySem.W.takesIn K (.builtin "object.__class__") = some true
  hm : PySem.W.mroIn K C1 (.type "object") = some true
  me : PySem.W.kitOne K (.ref C1) (.ref C) = some b
/-- isinstance(x, C): told by a table of the own classes -/
def isoA (tab : List (Str × Bool)) (h : Hs) (x : AV) : Option AV := match insOf h x with
  | some (c, _) => (tab.lookup c).map .bl
  | none => none
def IsTab (K : PySem.W.Frag) (mg : Str → Option Value) (C : Addr) (tab : List (Str × Bool)) : Prop := ∀ p ∈ tab, ∃ C1, mg p.1 = some (.ref C1) ∧ IsOk K C1 C p.2
theorem IsTab.nil {K : PySem.W.Frag} {mg : Str → Option Value} {C : Addr} : IsTab K mg C [] := fun _ h => nomatch h
theorem IsTab.cons {K : PySem.W.Frag} {mg : Str → Option Value} {C C1 : Addr} {c : Str} {b : Bool} {tab : List (Str × Bool)} (g : mg c = some (.ref C1)) (o : IsOk K C1 C b) (r : IsTab K mg C tab) : IsTab K mg C ((c, b) :: tab) := fun p hp => by
  rcases List.mem_cons.mp hp with e | e
  · subst e; exact ⟨C1, g, o⟩
  · exact r p e
theorem se_isO {C : Addr} {c : Str} {tab : List (Str × Bool)} {a : Expr} {ma : EM AV} {p p2 pos : Pos} (it : IsTab X.K X.mg C tab) (gC : X.mg c = some (.ref C)) (hm : X.mg "isinstance" = none) (ha : SE X W a ma) (hg : Gl X "isinstance" := by rfl) (hgC : Gl X c := by rfl) (hdC : (c == ("__debug__" : Str)) = false := by decide)
    (he : starEach [a, .Name c p2] X.env = (false, eval a X.env) :: starEach [.Name c p2] X.env := by rfl) (he2 : starEach [.Name c p2] X.env = (false, eval (.Name c p2) X.env) :: starEach [] X.env := by rfl) (hpl : (backTo pos (starEach [.Name c p2] X.env)).any (·.1) = false := by rfl) :
    SE X W (.Call (.Name "isinstance" p) [a, .Name c p2] [] pos) (m1 (isoA tab) ma) := by
  refine ⟨(pe_callB call_isi hg hm (show bootBuiltins ("isinstance" : Str) = some (.builtin "isinstance") by rfl) (pa_cons ha.pe (pa_cons (pe_glob (v := .ref C) hgC gC rfl hdC) pa_nil he2) he) (by decide) (by decide) he hpl).weak fun σ H Q ⟨G, h, env, w, re, p⟩ => ⟨G, h, env, w, re, post_bnd p fun x h1 G1 H1 v l1 w1 rx p1 => ?_⟩⟩
  obtain ⟨c1, e1, q⟩ := post_rd p1
  unfold isoA at e1
  cases e2 : insOf h1 x with
  | none => rw [e2] at e1; cases e1
  | some cf =>
    obtain ⟨cn, fs⟩ := cf
    rw [e2] at e1
    dsimp only at e1
    cases e3 : tab.lookup cn with
    | none => rw [e3] at e1; cases e1
    | some b =>
      rw [e3] at e1
      cases e1
      obtain ⟨ad, C2, dx, vfs, rfl, g, hH, _⟩ := rx.ins w1 e2
      obtain ⟨C1, g1, ok⟩ := it _ (PySem.mem_of_lookup e3)
      rw [g] at g1
      cases g1
      exact ⟨.ref ad, .ref C, .ref C2, .ref C, b, rfl, .own C, .base (.ins hH ok.cl ok.ha ok.hn ok.htk ok.hm), ok.me, q G1 H1 _ (.refl G1) w1 (.bl b)⟩
/-- never reached -/
def sNever : SM := fun _ _ => .bad
theorem ss_never {st : Stmt} : SS X W st sNever := ⟨ps_never.weak fun D σ H ⟨G, h, env, w, re, p⟩ => p⟩

/-! ### list(range(..)), tuple(range(..)) -/
theorem Rs.rg {G : Gh} (a b : Int) : Rs X.K X.mg G (rngL a b) (rgV a b) := by
  unfold rngL rgV
  generalize List.range (b - a).toNat = l
  induction l with
  | nil => exact .nil
  | cons i l ih => exact .cons (.int _) ih
theorem sf_listRg1 {a : Expr} {ma : EM AV} {p p1 pos1 pos : Pos} (O : Ok X W k) (ml : X.mg "list" = none) (mr : X.mg "range" = none) (ha : SE X W a ma) (hgl : Gl X "list" := by rfl) (hgr : Gl X "range" := by rfl)
    (na : starEach [a] X.env = (false, eval a X.env) :: starEach [] X.env := by rfl) (nb : starEach [.Call (.Name "range" p1) [a] [] pos1] X.env = (false, eval (.Call (.Name "range" p1) [a] [] pos1) X.env) :: starEach [] X.env := by rfl) :
    SF X W (.Call (.Name "list" p) [.Call (.Name "range" p1) [a] [] pos1] [] pos) (mListRg1 ma) := by
  refine ⟨(pe_listRg O.calm hgl ml (prg_1 hgr mr ha.pe na) nb).weak fun σ H Q ⟨G, h, env, w, re, p⟩ => ⟨G, h, env, w, re, post_bnd (postSF p) fun x h1 G1 H1 v l1 w1 rx p1 => ?_⟩⟩
  obtain ⟨ys, e1, q⟩ := post_rd p1
  cases x with
  | int n =>
    cases rx
    have e2 : (if rgOk 0 n = true then some (rngL 0 n) else none) = some ys := e1
    split at e2
    · rename_i hk
      cases e2
      exact ⟨n, rfl, rgOk_of hk, fun p hp => q G1 H1 _ (.refl G1) w1 (Rs.rg 0 n) p hp⟩
    · cases e2
  | bl b =>
    cases b <;> (exfalso; revert e1; show ¬ (((int? _).bind _) = _); simp [int?])
  | _ => cases e1
theorem se_tupRg1 {a : Expr} {ma : EM AV} {p p1 pos1 pos : Pos} (O : Ok X W k) (ml : X.mg "tuple" = none) (mr : X.mg "range" = none) (ha : SE X W a ma) (hgl : Gl X "tuple" := by rfl) (hgr : Gl X "range" := by rfl)
    (na : starEach [a] X.env = (false, eval a X.env) :: starEach [] X.env := by rfl) (nb : starEach [.Call (.Name "range" p1) [a] [] pos1] X.env = (false, eval (.Call (.Name "range" p1) [a] [] pos1) X.env) :: starEach [] X.env := by rfl) :
    SE X W (.Call (.Name "tuple" p) [.Call (.Name "range" p1) [a] [] pos1] [] pos) (fun env => (mListRg1 ma env).bnd fun xs => M.ret (.tup xs)) := by
  refine ⟨(pe_tupRg O.calm hgl ml (prg_1 hgr mr ha.pe na) nb).weak fun σ H Q ⟨G, h, env, w, re, p⟩ => ?_⟩
  have p' : post X W (Rs X.K X.mg) G σ (fun vs H => ∀ p, H p = none → Q (.ref p) (upd H p (.tup vs))) (mListRg1 ma env h) := post_bnd p fun xs h1 G1 H1 vs l1 w1 rs p1 p hp => by
    exact p1 (G1.addF p (.tup vs)) _ (.ref p) (Gh.addF_le (w1.freeF hp)) (w1.newF hp) (.tup (.inl (.inl upd_same)) (rs.mono (Gh.addF_le (w1.freeF hp))))
  refine ⟨G, h, env, w, re, post_bnd p' fun x h1 G1 H1 v l1 w1 rx p1 => ?_⟩
  obtain ⟨ys, e1, q⟩ := post_rd p1
  cases x with
  | int n =>
    cases rx
    have e2 : (if rgOk 0 n = true then some (rngL 0 n) else none) = some ys := e1
    split at e2
    · rename_i hk
      cases e2
      exact ⟨n, rfl, rgOk_of hk, fun p hp => q G1 H1 _ (.refl G1) w1 (Rs.rg 0 n) p hp⟩
    · cases e2
  | bl b =>
    cases b <;> (exfalso; revert e1; show ¬ (((int? _).bind _) = _); simp [int?])
  | _ => cases e1
end
/-- an own class -/
structure ClsF (K : PySem.W.Frag) (mg : Str → Option Value) (c : Str) (C : Addr) : Prop where
  g : mg c = some (.ref C)
  cl : Cls K C
  mks : PySem.W.makesIn K C = true
  kp : PySem.W.keepIn K (.ref C) = true
  ha : PySem.W.findIn K (.ref C) "__class__" = some (some (.builtin "object.__class__"))
  hn : PySem.W.specialIn K (.builtin "object.__class__") "__get__" = some (some (.builtin "getset_descriptor.__get__"))
  htk : PySem.W.takesIn K (.builtin "object.__class__") = some true
  hm : PySem.W.mroIn K C (.type "object") = some true
theorem ClsF.isOk {K : PySem.W.Frag} {mg : Str → Option Value} {c : Str} {C1 C : Addr} {b : Bool} (x : ClsF K mg c C1) (me : PySem.W.kitOne K (.ref C1) (.ref C) = some b) : IsOk K C1 C b := ⟨x.cl, x.ha, x.hn, x.htk, x.hm, me⟩
theorem fn_bad {P : Program} {w : World} {K : PySem.W.Frag} {mg : Str → Option Value} {base : Heap} {CX : CXT} {k : Nat} {f : Addr} {fd : FuncData} {ps : List Str} {n : Nat} (hn : ps.length = n) : FnOk P w K mg base CX k f fd ps (spM K mg n (fun _ _ => .bad)) :=
  ⟨fun vs H Q E h => by rw [h.1, hn], fun A outer s H args us vs Q E hr he hb hv h => by
    obtain ⟨_, G, h0, avs, _, _, z⟩ := h
    exact z.elim⟩
theorem lvl_le {a b n : Nat} (h : a ≤ b) : a ≤ b + n := Nat.le_trans h (Nat.le_add_right b n)
end Sim

set_option Elab.async false
set_option linter.all false
set_option maxRecDepth 100000
set_option maxHeartbeats 2000000
/-! SimS: what the M-code computes, in plain Lean. -/
namespace Sim
open PySem L2
theorem eqA_int {h : Hs} {a b : Int} : eqA h (.int a) (.int b) = some (.bl (decide (a = b))) := rfl
theorem neA_int {h : Hs} {a b : Int} : neA h (.int a) (.int b) = some (.bl (!decide (a = b))) := rfl
theorem ltA_int {h : Hs} {a b : Int} : ltA h (.int a) (.int b) = some (.bl (decide (a < b))) := rfl
theorem leA_int {h : Hs} {a b : Int} : leA h (.int a) (.int b) = some (.bl (decide (a ≤ b))) := rfl
theorem gtA_int {h : Hs} {a b : Int} : gtA h (.int a) (.int b) = some (.bl (decide (b < a))) := rfl
theorem geA_int {h : Hs} {a b : Int} : geA h (.int a) (.int b) = some (.bl (decide (b ≤ a))) := rfl
theorem addA_int {h : Hs} {a b : Int} : addA h (.int a) (.int b) = some (.int (a + b)) := rfl
theorem subA_int {h : Hs} {a b : Int} : subA h (.int a) (.int b) = some (.int (a - b)) := rfl
theorem negA_int {h : Hs} {a : Int} : negA h (.int a) = some (.int (-a)) := rfl
theorem intA_int {h : Hs} {a : Int} : intA h [.int a] = some (.int a) := rfl
theorem isTrue {h : Hs} {b : Bool} : isNA h (.bl b) (.bl true) = some (.bl b) := by cases b <;> rfl
theorem isNotTrue {h : Hs} {b : Bool} : notNA h (.bl b) (.bl true) = some (.bl (!b)) := by cases b <;> rfl
theorem mulA_r {h : Hs} {a b : Int} (hb : -(2 ^ 64) < b ∧ b < 2 ^ 64) : mulA h (.int a) (.int b) = some (.int (a * b)) := by
  unfold mulA; dsimp only; rw [if_pos]; unfold fits; rw [lg_mk (k := 64) (by decide) hb.1 hb.2, Bool.or_true]
theorem mulA_l {h : Hs} {a b : Int} (hb : -(2 ^ 64) < a ∧ a < 2 ^ 64) : mulA h (.int a) (.int b) = some (.int (a * b)) := by
  unfold mulA; dsimp only; rw [if_pos]; unfold fits; rw [lg_mk (k := 64) (by decide) hb.1 hb.2, Bool.true_or]
theorem modA_int {h : Hs} {a b : Int} (hb : 0 < b) : modA h (.int a) (.int b) = some (.int (a % b)) := by unfold modA; dsimp only; rw [if_pos hb]
theorem lg_9000 {b : Int} (h : b.natAbs < 1073741824) : lg b 9000 = true := by
  refine (lg_abs (k := 9000) (by decide)).mpr (Nat.lt_of_lt_of_le (m := 2 ^ 30) h ?_)
  exact Nat.pow_le_pow_right (by decide) (by decide)
theorem fdivA_int {h : Hs} {a b : Int} (hb : 0 < b) (h2 : b < 1073741824) : fdivA h (.int a) (.int b) = some (.int (a / b)) := by unfold fdivA; dsimp only; rw [if_pos ⟨hb, lg_9000 (by omega)⟩]
theorem lenA_lst {h : Hs} {xs : List AV} : lenA h [.lst xs] = some (.int xs.length) := rfl
theorem lenA_tup {h : Hs} {xs : List AV} : lenA h [.tup xs] = some (.int xs.length) := rfl
theorem atI_pos {xs : List AV} {j : Int} {a : AV} (h0 : 0 ≤ j) (e : xs[j.toNat]? = some a) : L2.atI xs j = some a := by
  have hl := (List.getElem?_eq_some_iff.mp e).1
  unfold L2.atI L2.ixN
  rw [if_pos h0, if_pos (by omega)]
  exact e
theorem ixA_lst {h : Hs} {xs : List AV} {j : Int} {a : AV} (h0 : 0 ≤ j) (e : xs[j.toNat]? = some a) : ixA h (.lst xs) (.int j) = some a := atI_pos h0 e
theorem ixA_tup {h : Hs} {xs : List AV} {j : Int} {a : AV} (h0 : 0 ≤ j) (e : xs[j.toNat]? = some a) : ixA h (.tup xs) (.int j) = some a := atI_pos h0 e
theorem p18 {h : Hs} : powA h (.int 10) (.int 18) = some (.int (10 ^ 18)) := rfl
theorem p6 {h : Hs} : powA h (.int 10) (.int 6) = some (.int 1000000) := rfl
theorem maxA_int {h : Hs} {a b : Int} : maxA h [.int a, .int b] = some (.int (if a < b then b else a)) ∨ True := .inr trivial
/-! ### calls -/
theorem callP_ok {n : Nat} {m : FM} {avs : List AV} {v : AV} {h h' : Hs} (e : m avs [] = .ok v h') (hn : avs.length = n) (h1 : noCs avs = true) (h2 : noC v = true) : callP n m avs h = .ok v h := by
  unfold callP
  rw [if_pos ⟨hn, h1⟩, e]
  dsimp only
  rw [if_pos h2]
theorem callP_exc {n : Nat} {m : FM} {avs : List AV} {c : Str} {h h' : Hs} (e : m avs [] = .exc c [] h') (hn : avs.length = n) (h1 : noCs avs = true) : callP n m avs h = .exc c [] h := by
  unfold callP
  rw [if_pos ⟨hn, h1⟩, e]
  dsimp only
  rw [if_pos (by rfl)]
theorem callH_ok {n : Nat} {m : FM} {i : Nat} {avs : List AV} {c c' : Cell} {v : AV} {h r : Hs} (hc : h[i]? = some c) (e : m (.cell 0 :: avs) [c] = .ok v (c' :: r)) (hn : avs.length + 1 = n) (h1 : noCs avs = true) (h2 : noCC c = true) (h3 : noC v = true) (h4 : noCC c' = true) :
    callH n m (.cell i :: avs) h = .ok v (h.set i c') := by
  unfold callH
  dsimp only
  rw [hc]
  dsimp only
  rw [if_pos ⟨hn, h1, h2⟩, e]
  dsimp only
  rw [h3, h4]
  rfl
theorem noCs_map {α : Type} {f : α → AV} (hf : ∀ x, noC (f x) = true) : ∀ xs : List α, noCs (xs.map f) = true
  | [] => rfl
  | x :: xs => by rw [List.map_cons, noCs, hf, noCs_map hf xs]; rfl
theorem noCs_all {xs : List AV} (h : ∀ x ∈ xs, noC x = true) : noCs xs = true := by
  induction xs with
  | nil => rfl
  | cons x xs ih => rw [noCs, h x List.mem_cons_self, ih fun y hy => h y (List.mem_cons_of_mem _ hy)]; rfl
theorem noCs_mem {xs : List AV} (h : noCs xs = true) {x : AV} (hx : x ∈ xs) : noC x = true := by
  induction xs with
  | nil => cases hx
  | cons y ys ih =>
    rw [noCs, Bool.and_eq_true] at h
    rcases List.mem_cons.mp hx with e | e
    · rw [e]; exact h.1
    · exact ih h.2 e
/-! ### comprehensions -/
theorem noexc_ok {α : Type} {m : M α} {h : Hs} {a : α} {h' : Hs} (e : m h = .ok a h') : noexc m h = .ok a h' := by unfold noexc; rw [e]
theorem lcL_pure {g : GT} {t : EM Bool} {e : EM AV} {env : AEnv} {h : Hs} {p : AV → Bool} {f : AV → AV} : ∀ {xs : List AV}, (∀ x ∈ xs, ∃ e', g x env = some e' ∧ t e' h = .ok (p x) h ∧ (p x = true → e e' h = .ok (f x) h)) → lcL g t e env xs h = .ok ((xs.filter p).map f) h
  | [], _ => rfl
  | x :: xs, hx => by
    obtain ⟨e', h1, h2, h3⟩ := hx x List.mem_cons_self
    have ih := lcL_pure (xs := xs) fun y hy => hx y (List.mem_cons_of_mem _ hy)
    unfold lcL
    rw [h1]
    dsimp only [M.bnd]
    rw [noexc_ok h2]
    dsimp only
    cases hp : p x with
    | true =>
      rw [if_pos rfl]
      dsimp only [M.bnd]
      rw [noexc_ok (h3 hp)]
      dsimp only
      rw [ih]
      dsimp only [M.ret]
      rw [List.filter_cons_of_pos hp, List.map_cons]
    | false =>
      rw [if_neg (by decide), ih, List.filter_cons_of_neg (by rw [hp]; decide)]
theorem lcL_map {g : GT} {e : EM AV} {env : AEnv} {h : Hs} {f : AV → AV} {xs : List AV} (hx : ∀ x ∈ xs, ∃ e', g x env = some e' ∧ e e' h = .ok (f x) h) : lcL g mYes e env xs h = .ok (xs.map f) h := by
  have := lcL_pure (g := g) (t := mYes) (e := e) (env := env) (h := h) (p := fun _ => true) (f := f) (xs := xs) fun x hx' => by
    obtain ⟨e', h1, h2⟩ := hx x hx'
    exact ⟨e', h1, rfl, fun _ => h2⟩
  rw [this, List.filter_eq_self.mpr fun _ _ => rfl]
theorem mLc_ok {vs : List Nat} {mi : EM (List AV)} {g : GT} {t : EM Bool} {e : EM AV} {env : AEnv} {h h1 h2 : Hs} {xs ys : List AV} (hi : mi env h = .ok xs h1) (hs : xs.length ≤ sizeLine) (hl : lcL g t e (wipeE env vs) xs h1 = .ok ys h2) : mLc vs mi g t e env h = .ok ys h2 := by
  unfold mLc M.bnd
  rw [hi]
  dsimp only
  rw [if_pos (show small xs = true from decide_eq_true hs)]
  exact hl
theorem lcC_pure {g : GT} {t : EM Bool} {e : EM AV} {env : AEnv} {n : Nat} {h : Hs} {ys : List AV} (hc : contL h n = some ys) {p : AV → Bool} {f : AV → AV} (hx : ∀ x ∈ ys, ∃ e', g x env = some e' ∧ t e' h = .ok (p x) h ∧ (p x = true → e e' h = .ok (f x) h)) :
    ∀ (k i : Nat), i + k = ys.length → lcC g t e env n k i h = .ok (((ys.drop i).filter p).map f) h
  | 0, i, hi => by
    unfold lcC
    rw [hc]
    dsimp only
    rw [if_pos (by omega), List.drop_of_length_le (by omega)]
    rfl
  | k + 1, i, hi => by
    have hlt : i < ys.length := by omega
    obtain ⟨e', h1, h2, h3⟩ := hx ys[i] (List.getElem_mem hlt)
    have ih := lcC_pure (g := g) (t := t) (e := e) (env := env) hc hx k (i + 1) (by omega)
    unfold lcC
    rw [hc]
    dsimp only
    rw [List.getElem?_eq_getElem hlt]
    dsimp only
    rw [h1]
    dsimp only [M.bnd]
    rw [noexc_ok h2]
    dsimp only
    rw [List.drop_eq_getElem_cons hlt]
    cases hp : p ys[i] with
    | true =>
      rw [if_pos rfl]
      dsimp only [M.bnd]
      rw [noexc_ok (h3 hp)]
      dsimp only
      rw [ih]
      dsimp only [M.ret]
      rw [List.filter_cons_of_pos hp, List.map_cons]
    | false =>
      rw [if_neg (by decide), ih, List.filter_cons_of_neg (by rw [hp]; decide)]
theorem mLcC_ok {vs : List Nat} {mi : EM AV} {g : GT} {t : EM Bool} {e : EM AV} {env : AEnv} {n : Nat} {h h1 h2 : Hs} {ys zs : List AV} (hi : mi env h = .ok (.cell n) h1) (hc : contL h1 n = some ys) (hs : ys.length ≤ sizeLine) (hl : lcC g t e (wipeE env vs) n ys.length 0 h1 = .ok zs h2) : mLcC vs mi g t e env h = .ok zs h2 := by
  unfold mLcC M.bnd
  rw [hi]
  dsimp only
  rw [hc]
  dsimp only
  rw [if_pos (show small ys = true from decide_eq_true hs)]
  exact hl
/-- a comprehension whose elements change the store: what each makes is good -/
theorem lcL_inv {g : GT} {e : EM AV} {env : AEnv} (I : Hs → Prop) (P : AV → Prop) : ∀ {xs : List AV} {h : Hs}, (∀ x ∈ xs, ∀ h, I h → ∃ e' v h', g x env = some e' ∧ e e' h = .ok v h' ∧ P v ∧ I h') → I h → ∃ vs h', lcL g mYes e env xs h = .ok vs h' ∧ vs.length = xs.length ∧ (∀ v ∈ vs, P v) ∧ I h'
  | [], h, _, hi => ⟨[], h, rfl, rfl, (fun _ hv => nomatch hv), hi⟩
  | x :: xs, h, hx, hi => by
    obtain ⟨e', v, h1, q1, q2, q3, q4⟩ := hx x List.mem_cons_self h hi
    obtain ⟨vs, h2, r1, r2, r3, r4⟩ := lcL_inv I P (xs := xs) (h := h1) (fun y hy => hx y (List.mem_cons_of_mem _ hy)) q4
    refine ⟨v :: vs, h2, ?_, by rw [List.length_cons, List.length_cons, r2], fun u hu => ?_, r4⟩
    · unfold lcL
      rw [q1]
      dsimp only [M.bnd]
      rw [noexc_ok (show mYes e' h = .ok true h from rfl)]
      dsimp only
      rw [if_pos rfl]
      dsimp only [M.bnd]
      rw [noexc_ok q2]
      dsimp only
      rw [r1]
      rfl
    · rcases List.mem_cons.mp hu with z | z
      · rw [z]; exact q3
      · exact r3 u z
/-! ### loops -/
theorem sForL_inv {g : GT} {b : SM} (I : Nat → AEnv → Hs → Prop) (R : AV → Hs → Prop) : ∀ {xs : List AV} {i : Nat} {env : AEnv} {h : Hs},
    (∀ j x env h, xs[j]? = some x → I (i + j) env h → ∃ e', g x env = some e' ∧ ((∃ e2 h2, (b e' h = .nx e2 h2 ∨ b e' h = .ct e2 h2) ∧ I (i + j + 1) e2 h2) ∨ ∃ v h2, b e' h = .rt v h2 ∧ R v h2)) → I i env h →
    (∃ e2 h2, sForL g b xs env h = .nx e2 h2 ∧ I (i + xs.length) e2 h2) ∨ ∃ v h2, sForL g b xs env h = .rt v h2 ∧ R v h2
  | [], i, env, h, _, hi => .inl ⟨env, h, rfl, hi⟩
  | x :: xs, i, env, h, hx, hi => by
    obtain ⟨e', q1, q2⟩ := hx 0 x env h rfl hi
    rcases q2 with ⟨e2, h2, q3, q4⟩ | ⟨v, h2, q3, q4⟩
    · have ih := sForL_inv (g := g) (b := b) I R (xs := xs) (i := i + 1) (env := e2) (h := h2) (fun j y env h e hI => by
        have := hx (j + 1) y env h (by simpa using e) (by rw [show i + (j + 1) = i + 1 + j by omega]; exact hI)
        rw [show i + (j + 1) + 1 = i + 1 + j + 1 by omega] at this
        exact this) q4
      rw [show i + (x :: xs).length = i + 1 + xs.length by rw [List.length_cons]; omega]
      have st : sForL g b (x :: xs) env h = sForL g b xs e2 h2 := by
        rw [sForL]
        dsimp only
        rw [q1]
        dsimp only
        rcases q3 with q3 | q3 <;> rw [q3]
      rw [st]
      exact ih
    · refine .inr ⟨v, h2, ?_, q4⟩
      rw [sForL]
      dsimp only
      rw [q1]
      dsimp only
      rw [q3]
theorem sForL_all {g : GT} {b : SM} (I : Nat → AEnv → Hs → Prop) {xs : List AV} {env : AEnv} {h : Hs}
    (hx : ∀ j x env h, xs[j]? = some x → I j env h → ∃ e', g x env = some e' ∧ ∃ e2 h2, (b e' h = .nx e2 h2 ∨ b e' h = .ct e2 h2) ∧ I (j + 1) e2 h2) (hi : I 0 env h) :
    ∃ e2 h2, sForL g b xs env h = .nx e2 h2 ∧ I xs.length e2 h2 := by
  rcases sForL_inv (g := g) (b := b) I (fun _ _ => False) (xs := xs) (i := 0) (env := env) (h := h) (fun j x env h e hI => by
    rw [Nat.zero_add] at hI ⊢
    obtain ⟨e', q1, q2⟩ := hx j x env h e hI
    exact ⟨e', q1, .inl q2⟩) hi with q | ⟨_, _, _, z⟩
  · rw [Nat.zero_add] at q; exact q
  · exact z.elim
theorem sWhile_inv {t : EM Bool} {b : SM} (I : Nat → AEnv → Hs → Prop) (Q : AEnv → Hs → Prop) (step : ∀ m env h, I m env h → (∃ h', t env h = .ok false h' ∧ Q env h') ∨ (∃ h1, t env h = .ok true h1 ∧ ∃ e2 h2 m', (b env h1 = .nx e2 h2 ∨ b env h1 = .ct e2 h2) ∧ I m' e2 h2 ∧ m' < m)) :
    ∀ (n m : Nat) (env : AEnv) (h : Hs), I m env h → m < n → ∃ e2 h2, sWhile n t b env h = .nx e2 h2 ∧ Q e2 h2
  | 0, m, _, _, _, hn => absurd hn (Nat.not_lt_zero _)
  | n + 1, m, env, h, hi, hn => by
    rcases step m env h hi with ⟨h', e, q⟩ | ⟨h1, e, e2, h2, m', r, i2, l⟩
    · refine ⟨env, h', ?_, q⟩
      unfold sWhile sThen
      rw [e]
      rfl
    · obtain ⟨e3, h3, r3, q3⟩ := sWhile_inv I Q step n m' e2 h2 i2 (by omega)
      refine ⟨e3, h3, ?_, q3⟩
      unfold sWhile sThen
      rw [e]
      dsimp only
      rw [if_pos rfl]
      rcases r with r | r <;> (rw [r]; exact r3)
theorem rngL_len (a b : Int) : (rngL a b).length = (b - a).toNat := by unfold rngL; simp
theorem rngL_get {a b : Int} {j : Nat} {x : AV} (e : (rngL a b)[j]? = some x) : x = .int (a + j) ∧ a + j < b := by
  have hl := (List.getElem?_eq_some_iff.mp e).1
  rw [rngL_len] at hl
  unfold rngL at e
  rw [List.getElem?_map, List.getElem?_range hl] at e
  cases e
  exact ⟨rfl, by omega⟩
end Sim

set_option Elab.async false
set_option linter.all false
set_option maxRecDepth 100000
set_option maxHeartbeats 2000000
/-! SimS2: tuples of ints, in M-code. -/
namespace Sim
open PySem L2
abbrev intsA (ns : List Int) : List AV := ns.map .int
theorem dats_len : ∀ xs : List AV, (dats xs).length = xs.length
  | [] => rfl
  | x :: xs => by rw [dats, List.length_cons, List.length_cons, dats_len xs]
theorem lay_ints : ∀ ns : List Int, PyData.canLayAll0 (dats (ns.map .int)) = true
  | [] => rfl
  | n :: ns => by rw [List.map_cons, dats, PyData.canLayAll0, lay_ints ns]; rfl
theorem depth_ints : ∀ ns : List Int, PyData.depthAll (dats (ns.map .int)) = 0
  | [] => rfl
  | n :: ns => by rw [List.map_cons, dats, PyData.depthAll, depth_ints ns]; rfl
theorem dat_tup (ns : List Int) : dat (tupA ns) = .tuple (dats (ns.map .int)) := rfl
theorem shaped_int (i : Int) : SeqAt.shaped (dat (.int i)) = true := rfl
theorem shaped_tup (ns : List Int) : SeqAt.shaped (dat (tupA ns)) = true := by
  rw [dat_tup]
  unfold SeqAt.shaped
  rw [PyData.canLay0, lay_ints, PyData.depth, depth_ints]
  rfl
theorem lay_tups : ∀ nss : List (List Int), PyData.canLayAll0 (dats (nss.map tupA)) = true
  | [] => rfl
  | n :: ns => by rw [List.map_cons, dats, PyData.canLayAll0, lay_tups ns, dat_tup, PyData.canLay0, lay_ints]; rfl
theorem depth_tups : ∀ nss : List (List Int), PyData.depthAll (dats (nss.map tupA)) ≤ 1
  | [] => Nat.zero_le _
  | n :: ns => by
    rw [List.map_cons, dats, PyData.depthAll, dat_tup, PyData.depth, depth_ints]
    exact Nat.max_le.mpr ⟨Nat.le_refl _, depth_tups ns⟩
theorem shaped_lst_tups (nss : List (List Int)) : SeqAt.shaped (dat (.lst (nss.map tupA))) = true := by
  show SeqAt.shaped (.list (dats (nss.map tupA))) = true
  unfold SeqAt.shaped
  rw [PyData.canLay0, lay_tups, PyData.depth, Bool.true_and]
  have := depth_tups nss
  exact decide_eq_true (by omega)
theorem eqv_int (a b : Int) : PyData.eqv (dat (.int a)) (dat (.int b)) = decide (a = b) := by
  show (a == b) = _
  by_cases h : a = b
  · rw [h, decide_eq_true rfl]; exact beq_self_eq_true b
  · rw [decide_eq_false h]; exact beq_eq_false_iff_ne.mpr h
theorem eqvAll_ints : ∀ a b : List Int, PyData.eqvAll (dats (a.map .int)) (dats (b.map .int)) = decide (a = b)
  | [], [] => rfl
  | [], _ :: _ => rfl
  | _ :: _, [] => rfl
  | x :: xs, y :: ys => by
    rw [List.map_cons, List.map_cons, dats, dats, PyData.eqvAll, eqvAll_ints xs ys, eqv_int]
    by_cases h : x = y
    · subst h
      simp
    · simp [h]
theorem eqv_tup (a b : List Int) : PyData.eqv (dat (tupA a)) (dat (tupA b)) = decide (a = b) := by
  rw [dat_tup, dat_tup, PyData.eqv, eqvAll_ints]
theorem any_ints (p : Int) : ∀ d : List Int, ((dats (d.map .int)).any fun z => PyData.eqv z (dat (.int p))) = d.contains p
  | [] => rfl
  | x :: xs => by
    rw [List.map_cons, dats, List.any_cons, any_ints p xs, List.contains_cons, eqv_int]
    congr 1
    by_cases h : x = p
    · subst h; simp
    · rw [decide_eq_false h]; exact (beq_eq_false_iff_ne.mpr (Ne.symm h)).symm
theorem inA_tup {h : Hs} {p : Int} {d : List Int} : inA h (.int p) (tupA d) = some (.bl (d.contains p)) := by
  have e : inB h (.int p) (tupA d) = some (d.contains p) := by
    unfold inB tupA
    show (if SeqAt.shaped (dat (.int p)) = true ∧ SeqAt.shaped (dat (tupA d)) = true then (some (d.map AV.int)).map (fun ys => (dats ys).any fun z => PyData.eqv z (dat (.int p))) else none) = _
    rw [if_pos ⟨rfl, shaped_tup d⟩, Option.map_some, any_ints]
  unfold inA
  rw [e]
  rfl
theorem any_tups (p : List Int) : ∀ d : List (List Int), ((dats (d.map tupA)).any fun z => PyData.eqv z (dat (tupA p))) = d.contains p
  | [] => rfl
  | x :: xs => by
    rw [List.map_cons, dats, List.any_cons, any_tups p xs, List.contains_cons, eqv_tup]
    congr 1
    by_cases h : x = p
    · subst h; simp
    · rw [decide_eq_false h]; exact (beq_eq_false_iff_ne.mpr (Ne.symm h)).symm
/-- a tuple in a live list of tuples -/
theorem notInA_cell {h : Hs} {n : Nat} {p : List Int} {d : List (List Int)} (e : h[n]? = some (.lst (d.map tupA))) : notInA h (tupA p) (.cell n) = some (.bl (!d.contains p)) := by
  have ed : der h (.cell n) = .lst (d.map tupA) := by unfold der; dsimp only; rw [e]
  have e : inB h (tupA p) (.cell n) = some (d.contains p) := by
    unfold inB
    dsimp only
    rw [ed, if_pos ⟨shaped_tup p, shaped_lst_tups d⟩]
    unfold seqOf
    rw [ed]
    show some ((dats (d.map tupA)).any fun z => PyData.eqv z (dat (tupA p))) = _
    rw [any_tups]
  unfold notInA
  rw [e]
  rfl
theorem bls_map2 : ∀ (ns : List Bool), bls? (ns.map AV.bl) = some ns
  | [] => rfl
  | n :: ns => by rw [List.map_cons, bls?, bls_map2 ns]; rfl
theorem anyA_bls {h : Hs} {bs : List Bool} : anyA h [.lst (bs.map .bl)] = some (.bl (bs.any id)) := by
  unfold anyA
  show ((bls? (bs.map .bl)).map fun ns => AV.bl (ns.any id)) = _
  rw [bls_map2]
  rfl
theorem allA_bls {h : Hs} {bs : List Bool} : allA h [.lst (bs.map .bl)] = some (.bl (bs.all id)) := by
  unfold allA
  show ((bls? (bs.map .bl)).map fun ns => AV.bl (ns.all id)) = _
  rw [bls_map2]
  rfl
end Sim

set_option Elab.async false
set_option linter.all false
set_option maxRecDepth 100000
set_option maxHeartbeats 2000000
/-! SimS3: more of what the M-code computes. -/
namespace Sim
open PySem L2
theorem lcL_j {α : Type} {g : GT} {t : EM Bool} {e : EM AV} {env : AEnv} {h : Hs} (j : α → AV) (p : α → Bool) (f : α → AV) : ∀ (xs : List α), (∀ x ∈ xs, ∃ e', g (j x) env = some e' ∧ t e' h = .ok (p x) h ∧ (p x = true → e e' h = .ok (f x) h)) → lcL g t e env (xs.map j) h = .ok ((xs.filter p).map f) h
  | [], _ => rfl
  | x :: xs, hx => by
    obtain ⟨e', h1, h2, h3⟩ := hx x List.mem_cons_self
    have ih := lcL_j j p f xs fun y hy => hx y (List.mem_cons_of_mem _ hy)
    rw [List.map_cons]
    unfold lcL
    rw [h1]
    dsimp only [M.bnd]
    rw [noexc_ok h2]
    dsimp only
    cases hp : p x with
    | true =>
      rw [if_pos rfl]
      dsimp only [M.bnd]
      rw [noexc_ok (h3 hp)]
      dsimp only
      rw [ih]
      dsimp only [M.ret]
      rw [List.filter_cons_of_pos hp, List.map_cons]
    | false =>
      rw [if_neg (by decide), ih, List.filter_cons_of_neg (by rw [hp]; decide)]
theorem mLc_jf {α : Type} {vs : List Nat} {mi : EM (List AV)} {g : GT} {t : EM Bool} {e : EM AV} {env : AEnv} {h h' : Hs} {xs : List α} (j : α → AV) (p : α → Bool) (f : α → AV) (hi : mi env h = .ok (xs.map j) h') (hs : xs.length ≤ sizeLine)
    (hx : ∀ x ∈ xs, ∃ e', g (j x) (wipeE env vs) = some e' ∧ t e' h' = .ok (p x) h' ∧ (p x = true → e e' h' = .ok (f x) h')) : mLc vs mi g t e env h = .ok ((xs.filter p).map f) h' :=
  mLc_ok hi (by rw [List.length_map]; exact hs) (lcL_j j p f xs hx)
theorem mLc_jm {α : Type} {vs : List Nat} {mi : EM (List AV)} {g : GT} {e : EM AV} {env : AEnv} {h h' : Hs} {xs : List α} (j : α → AV) (f : α → AV) (hi : mi env h = .ok (xs.map j) h') (hs : xs.length ≤ sizeLine)
    (hx : ∀ x ∈ xs, ∃ e', g (j x) (wipeE env vs) = some e' ∧ e e' h' = .ok (f x) h') : mLc vs mi g mYes e env h = .ok (xs.map f) h' := by
  have q := mLc_jf (t := mYes) (e := e) j (fun _ => true) f hi hs fun x hx' => by
    obtain ⟨e', a, b⟩ := hx x hx'
    exact ⟨e', a, rfl, fun _ => b⟩
  rw [List.filter_eq_self.mpr fun _ _ => rfl] at q
  exact q
theorem dcL_j {α : Type} {g : GT} {ek ev : EM AV} {env : AEnv} {h : Hs} (j : α → AV) (k : α → Key) (v : α → AV) : ∀ (xs : List α) (acc : List (Key × AV)), (∀ x ∈ xs, ∃ e', g (j x) env = some e' ∧ ek e' h = .ok (kA (k x)) h ∧ ev e' h = .ok (v x) h) →
    dcL g mYes ek ev env acc (xs.map j) h = .ok (xs.foldl (fun a x => putG a (k x) (v x)) acc) h
  | [], acc, _ => rfl
  | x :: xs, acc, hx => by
    obtain ⟨e', h1, h2, h3⟩ := hx x List.mem_cons_self
    have ih := dcL_j j k v xs (putG acc (k x) (v x)) fun y hy => hx y (List.mem_cons_of_mem _ hy)
    rw [List.map_cons, List.foldl_cons]
    unfold dcL
    rw [h1]
    dsimp only [M.bnd]
    rw [noexc_ok (show mYes e' h = .ok true h from rfl)]
    dsimp only
    rw [if_pos rfl]
    dsimp only [M.bnd]
    rw [noexc_ok h2]
    dsimp only
    rw [noexc_ok h3]
    dsimp only
    have : keyA? (kA (k x)) = some (k x) := by cases k x <;> rfl
    rw [this]
    exact ih
theorem mDc_j {α : Type} {vs : List Nat} {mi : EM (List AV)} {g : GT} {ek ev : EM AV} {env : AEnv} {h h' : Hs} {xs : List α} (j : α → AV) (k : α → Key) (v : α → AV) (hi : mi env h = .ok (xs.map j) h') (hs : xs.length ≤ sizeLine)
    (hx : ∀ x ∈ xs, ∃ e', g (j x) (wipeE env vs) = some e' ∧ ek e' h' = .ok (kA (k x)) h' ∧ ev e' h' = .ok (v x) h') : mDc vs mi g mYes ek ev env h = .ok (xs.foldl (fun a x => putG a (k x) (v x)) []) h' := by
  unfold mDc M.bnd
  rw [hi]
  dsimp only
  rw [if_pos (show small (xs.map j) = true from decide_eq_true (by rw [List.length_map]; exact hs))]
  exact dcL_j j k v xs [] hx
theorem putG_keys {κ β : Type} [DecidableEq κ] (kvs : List (κ × β)) (k : κ) (v : β) : (putG kvs k v).map (·.1) = if k ∈ kvs.map (·.1) then kvs.map (·.1) else kvs.map (·.1) ++ [k] := by
  unfold putG
  have e : (kvs.any fun kv => decide (kv.1 = k)) = decide (k ∈ kvs.map (·.1)) := by
    rw [Bool.eq_iff_iff, List.any_eq_true, decide_eq_true_iff, List.mem_map]
    constructor
    · rintro ⟨x, h1, h2⟩; exact ⟨x, h1, of_decide_eq_true h2⟩
    · rintro ⟨x, h1, h2⟩; exact ⟨x, h1, decide_eq_true h2⟩
  rw [e]
  by_cases h : k ∈ kvs.map (·.1)
  · rw [if_pos (decide_eq_true h), if_pos h, List.map_map]
    refine List.map_congr_left fun x _ => ?_
    show (if x.1 = k then (x.1, v) else x).1 = x.1
    split <;> rfl
  · rw [if_neg (by rw [decide_eq_false h]; decide), if_neg h, List.map_append]
    rfl
theorem fold_keys {κ β α : Type} [DecidableEq κ] (k : α → κ) (v : α → β) : ∀ (xs : List α) (acc : List (κ × β)), (acc.map (·.1)).Nodup → ((xs.foldl (fun a x => putG a (k x) (v x)) acc).map (·.1)).Nodup ∧ ∀ y, y ∈ (xs.foldl (fun a x => putG a (k x) (v x)) acc).map (·.1) ↔ y ∈ acc.map (·.1) ∨ ∃ x ∈ xs, k x = y
  | [], acc, nd => ⟨nd, fun y => by simp⟩
  | x :: xs, acc, nd => by
    have nd2 : ((putG acc (k x) (v x)).map (·.1)).Nodup := by
      rw [putG_keys]
      split
      · exact nd
      · rename_i h
        rw [List.nodup_append]
        refine ⟨nd, by simp, fun a ha b hb e => ?_⟩
        rw [List.mem_singleton] at hb
        subst hb
        subst e
        exact h ha
    obtain ⟨h1, h2⟩ := fold_keys k v xs (putG acc (k x) (v x)) nd2
    refine ⟨h1, fun y => ?_⟩
    rw [List.foldl_cons, h2 y, putG_keys]
    constructor
    · rintro (h | ⟨z, hz, e⟩)
      · split at h
        · exact .inl h
        · rcases List.mem_append.mp h with h | h
          · exact .inl h
          · rw [List.mem_singleton] at h
            exact .inr ⟨x, List.mem_cons_self, h.symm⟩
      · exact .inr ⟨z, List.mem_cons_of_mem _ hz, e⟩
    · rintro (h | ⟨z, hz, e⟩)
      · refine .inl ?_
        split
        · exact h
        · exact List.mem_append_left _ h
      · rcases List.mem_cons.mp hz with r | hz
        · subst r
          refine .inl ?_
          subst e
          split
          · assumption
          · exact List.mem_append_right _ List.mem_cons_self
        · exact .inr ⟨z, hz, e⟩
/-! ### built-ins -/
theorem sumA_ints {h : Hs} {ns : List Int} : sumA h [.lst (ns.map .int)] = some (.int ns.sum) := by
  letI : TabT := ⟨[]⟩
  unfold sumA
  show ((ints? (ns.map .int)).map fun ns => AV.int ns.sum) = _
  rw [ints_map]
  rfl
theorem sortA_ints {h : Hs} {ns : List Int} : sortA h [.lst (ns.map .int)] = some ((isort ltI ns).map .int) := by
  letI : TabT := ⟨[]⟩
  unfold sortA
  show (match ints? (ns.map AV.int) with | some ns => some ((isort ltI ns).map AV.int) | none => (tups? (ns.map AV.int)).map fun nss => (isort HT.lexLt nss).map tupA) = _
  rw [ints_map]
theorem sortA_tups {h : Hs} {nss : List (List Int)} : sortA h [.lst (nss.map tupA)] = some ((isort HT.lexLt nss).map tupA) := by
  letI : TabT := ⟨[]⟩
  letI : TabT := ⟨[]⟩
  unfold sortA
  show (match ints? (nss.map tupA) with | some ns => some ((isort ltI ns).map AV.int) | none => (tups? (nss.map tupA)).map fun nss => (isort HT.lexLt nss).map tupA) = _
  cases nss with
  | nil => rfl
  | cons n r =>
    have : ints? ((n :: r).map tupA) = none := rfl
    rw [this, tups_map]
    rfl
theorem tupleA_lst {h : Hs} {xs : List AV} : tupleA h [.lst xs] = some (.tup xs) := rfl
theorem isort_map {α β : Type} (f : α → β) (lt : β → β → Bool) : ∀ l : List α, isort lt (l.map f) = (isort (fun a b => lt (f a) (f b)) l).map f
  | [] => rfl
  | x :: l => by
    rw [List.map_cons, isort, isort, isort_map f lt l]
    generalize isort (fun a b => lt (f a) (f b)) l = m
    induction m with
    | nil => rfl
    | cons y m ih =>
      rw [List.map_cons]
      unfold ins
      by_cases h : lt (f y) (f x) = true
      · rw [if_pos h, if_pos h, List.map_cons, ← ih]
      · rw [if_neg h, if_neg h]
        rfl
/-! ### bits -/
theorem andA_nat {h : Hs} {a b : Nat} : andA h (.int a) (.int b) = some (.int ((a &&& b : Nat) : Int)) := by
  unfold andA Builtin.bitAnd
  dsimp only
  rw [decide_eq_true (by omega : (0 : Int) ≤ a), decide_eq_true (by omega : (0 : Int) ≤ b)]
  rfl
theorem orA_nat {h : Hs} {a b : Nat} : orA h (.int a) (.int b) = some (.int ((a ||| b : Nat) : Int)) := by
  unfold orA Builtin.bitOr Builtin.bitAnd Builtin.bitNot
  dsimp only
  rw [decide_eq_false (by omega : ¬ (0 : Int) ≤ -(a : Int) - 1), decide_eq_false (by omega : ¬ (0 : Int) ≤ -(b : Int) - 1)]
  dsimp only
  rw [show (-(-(a : Int) - 1) - 1).toNat = a by omega, show (-(-(b : Int) - 1) - 1).toNat = b by omega]
  congr 2
  omega
theorem shlA_one {h : Hs} {p : Nat} (hp : p < 2 ^ 19) : shlA h (.int 1) (.int p) = some (.int ((2 ^ p : Nat) : Int)) := by
  unfold shlA
  dsimp only
  rw [if_pos ⟨by omega, lg_mk (k := 19) (by decide) (by omega) (by omega), by decide⟩]
  rw [Int.toNat_natCast, Int.one_mul, Int.natCast_pow]
  rfl
theorem shrA_nat {h : Hs} {a p : Nat} : shrA h (.int a) (.int p) = some (.int ((a / 2 ^ p : Nat) : Int)) := by
  unfold shrA
  dsimp only
  rw [if_pos (by omega), Int.toNat_natCast, Int.natCast_ediv, Int.natCast_pow]
  rfl
theorem bitsA_nat {h : Hs} {a : Nat} : bitsA h (.int a) = some (.int (Builtin.Int.intBits a : Nat)) := rfl
theorem lt_intBits (a : Nat) : a < 2 ^ Builtin.Int.intBits a := by
  unfold Builtin.Int.intBits
  by_cases h : a = 0
  · subst h; decide
  · have : ((a : Int) == 0) = false := beq_eq_false_iff_ne.mpr (by omega)
    rw [this, if_neg (by decide), Int.natAbs_natCast]
    exact Nat.lt_log2_self
theorem intBits_le (a : Nat) : Builtin.Int.intBits a ≤ a := by
  unfold Builtin.Int.intBits
  by_cases h : a = 0
  · subst h; decide
  · have : ((a : Int) == 0) = false := beq_eq_false_iff_ne.mpr (by omega)
    rw [this, if_neg (by decide), Int.natAbs_natCast]
    exact (Nat.log2_lt h).mpr Nat.lt_two_pow_self
theorem rngL_nat (n : Nat) : rngL 0 n = (List.range n).map fun i : Nat => AV.int i := by
  unfold rngL
  rw [show ((n : Int) - 0).toNat = n by omega]
  refine List.map_congr_left fun i _ => ?_
  rw [Int.zero_add]
end Sim

set_option Elab.async false
set_option linter.all false
set_option maxRecDepth 100000
set_option maxHeartbeats 2000000
/-! SimS4: comprehensions whose test has a state of its own. -/
namespace Sim
open PySem L2
/-- whatever the test tells, the answer is a part of what is gone over -/
theorem lcL_sub {g : GT} {t : EM Bool} {e : EM AV} {env : AEnv} (I : Hs → Prop) : ∀ {xs : List AV} {h : Hs}, (∀ x ∈ xs, ∀ h, I h → ∃ e' b h', g x env = some e' ∧ t e' h = .ok b h' ∧ e e' h' = .ok x h' ∧ I h') → I h → ∃ ys h', lcL g t e env xs h = .ok ys h' ∧ ys.Sublist xs ∧ I h'
  | [], h, _, hI => ⟨[], h, rfl, List.Sublist.refl _, hI⟩
  | x :: xs, h, hx, hI => by
    obtain ⟨e', b, h1, q1, q2, q3, q4⟩ := hx x List.mem_cons_self h hI
    obtain ⟨ys, h2, r1, r2, r3⟩ := lcL_sub (g := g) (t := t) (e := e) (env := env) I (xs := xs) (h := h1) (fun y hy => hx y (List.mem_cons_of_mem _ hy)) q4
    unfold lcL
    rw [q1]
    dsimp only [M.bnd]
    rw [noexc_ok q2]
    dsimp only
    cases b with
    | true =>
      rw [if_pos rfl]
      dsimp only [M.bnd]
      rw [noexc_ok q3]
      dsimp only
      rw [r1]
      exact ⟨x :: ys, h2, rfl, r2.cons_cons x, r3⟩
    | false =>
      rw [if_neg (by decide), r1]
      exact ⟨ys, h2, rfl, r2.cons x, r3⟩
end Sim

set_option Elab.async false
set_option linter.all false
set_option maxRecDepth 100000
set_option maxHeartbeats 2000000
namespace Sim
open PySem PySem.Spec L2
open PyProof.Rows hiding St
/-! ### the end of a row -/
def EndAt (l : PySem.W.OpenLaw) (w : World) (K : PySem.W.Frag) (mg : Str → Option Value) (h : Heap) (fa : Addr) (x : Str) (k : Nat) (f : FM) : Prop :=
  ∃ (fd : FuncData) (cs : List (Addr × Addr × Str)), (∀ p ∈ cs, h.get? p.2.1 = some { cls := .none, data := .fields #[] }) ∧ (∀ p ∈ cs, K.lookup p.2.1 = none) ∧ (∀ p ∈ cs, PySem.W.CodeHd h p.1 p.2.1) ∧ (∀ (s : Shared) (u : Value), BindsTo s fd ⟨[u], []⟩ [(x, u)]) ∧
    ∀ base : Heap, K.In base → base.Ns mainGlobals mg → (∀ p ∈ cs, LamX.TabB base mg p.1 p.2.1) → FnOk l.prog w K mg base (L2.CX l.prog w) k fa fd [x] (@spM ⟨cs.map (·.2)⟩ K mg 1 f)
theorem end_sp {K : PySem.W.Frag} {mg : Str → Option Value} {T : List (Addr × Str)} {f : FM} {H : Hp} {a : Addr} {ns : List Int} (hT : ∀ p ∈ T, H p.1 = some (.tbl #[])) (hS : SqL K H a (ns.map V.int)) (hf : ∃ h', f [.scr ns] [] = .ok (.bl true) h') :
    @spM ⟨T⟩ K mg 1 f [.ref a] H (fun v _ => v = .bl true) fun _ _ _ => False := by
  letI : TabT := ⟨T⟩
  obtain ⟨h', hf⟩ := hf
  let F : Hp := fun b => match H b with | some (.tbl _) => none | o => o
  have hF : ∀ b o, F b = some o → H b = some o ∧ ∀ ps, o ≠ .tbl ps := fun b o e => by
    have e2 : (match H b with | some (.tbl _) => none | o => o) = some o := e
    cases q : H b with
    | none => rw [q] at e2; cases e2
    | some u =>
      rw [q] at e2
      cases u <;> first | (cases e2; done) | (cases e2; exact ⟨rfl, fun _ z => by cases z⟩)
  have hF2 : ∀ b o, H b = some o → (∀ ps, o ≠ .tbl ps) → F b = some o := fun b o e n => by
    show (match H b with | some (.tbl _) => none | o => o) = some o
    rw [e]
    cases o <;> first | rfl | exact absurd rfl (n _)
  have N1 : ∀ {β : Type} {o : β}, (none : Option β) = some o → False := fun {β o} e => nomatch e
  have w : WI K mg { F := F, mu := fun _ => none, Z := fun _ => none, T := [] } [] H := by
    refine ⟨fun b o e => (hF b o e).1, fun b o e => (N1 e).elim, fun b o e => (N1 e).elim, fun n c e => ?_, fun n b e => (N1 e).elim, fun n m b e => (N1 e).elim, ⟨fun p hp => LamX.TabS.nil (hT p hp), fun b ps e => (hF b _ e).2 ps rfl, fun b ps e => N1 e⟩⟩
    simp at e
  refine ⟨rfl, { F := F, mu := fun _ => none, Z := fun _ => none, T := [] }, [], [.scr ns], w, .cons (.scr ?_) .nil, ?_⟩
  · rcases hS with (h | ⟨o, h⟩) | h
    · exact .inl (.inl (hF2 _ _ h fun ps z => by cases z))
    · exact .inl (.inr ⟨o, hF2 _ _ h fun ps z => by cases z⟩)
    · exact .inr h
  · rw [hf]
    intro G' H' z l w' r
    cases r
    rfl
theorem walk_end {l : PySem.W.OpenLaw} {n k : Nat} {q : Program} {loose : List Str} {XP : (Str → Option Value) → Heap → Prop} {YP : World → Heap → Prop} {d : DefRec} {K : Params → PySem.W.Frag} {x : Str} {f : FM}
    (hn : l.most = some n) (hn2 : n ≤ sizeLine) (hdf : d.params.defaults = []) (hr : Room k callerA) (hY : ∀ (w : World) (h : Heap), YP w h → (K w.params).In h)
    (F : ∀ (w : World) (s₀ : Shared) (mg mb : Str → Option Value) (fa : Addr) (h : Heap), PySem.W.Ground q loose [] XP w s₀ mg mb h → YP w h → (K w.params).In h → h.Ns mainGlobals mg → mg d.name = some (.ref fa) → EndAt l w (K w.params) mg h fa x k f)
    (hf : ∀ ns : List Int, ns.length ≤ n → (∀ z ∈ ns, Builtin.Int.intBits z ≤ 1048576) → ∃ h', f [.scr ns] [] = .ok (.bl true) h') :
    PySem.W.WalkO q loose XP YP l.row.toRowW d [] (fun f vs => PySem.call f vs) := by
  refine Att.attach_callB hn hdf fun w s₀ s₁ mg mb fa o pm cd doc a vs ns G Y ho hd hcd hmg hobj hints hlen hbits hg => ?_
  have KX := hY w _ Y
  obtain ⟨fd, cs, hT, nT, C, hb, hF⟩ := F w s₀ mg mb fa _ G Y KX G.T.g hmg
  have m2 : ∀ p ∈ cs.map (fun p => (p.1, p.2.1)), ∃ p0 ∈ cs, p = (p0.1, p0.2.1) := fun p hp => by
    obtain ⟨p0, h1, h2⟩ := List.mem_map.mp hp
    exact ⟨p0, h1, h2.symm⟩
  refine LamX.law_callTs (cs := cs.map (fun p => (p.1, p.2.1))) KX G.T.g G.T.b G.T.builtins G.T.nolimit hg (fun p hp => ?_) (fun p hp => ?_) (fun p hp => ?_) G.T.bmain hobj hints (Nat.le_trans hlen hn2) hr (fun base b1 b2 b3 => hF base b1 b2 fun p hp => b3 (p.1, p.2.1) (List.mem_map.mpr ⟨p, hp, rfl⟩)) hb (fun H hH hS => end_sp (fun p hp => ?_) hS (hf ns hlen hbits)) fun H e s' h => ?_
  · obtain ⟨p0, h1, rfl⟩ := m2 p hp; exact hT p0 h1
  · obtain ⟨p0, h1, rfl⟩ := m2 p hp; exact nT p0 h1
  · obtain ⟨p0, h1, rfl⟩ := m2 p hp; exact C p0 h1
  · obtain ⟨p0, h1, rfl⟩ := List.mem_map.mp hp
    exact hH (p0.1, p0.2.1) (List.mem_map.mpr ⟨p0, h1, rfl⟩)
  · obtain ⟨_, _, _, _, _, _, _, _, _, _, _, _, z⟩ := h
    exact z

/-! ### what the top has written -/
structure FunF (K : PySem.W.Frag) (mg : Str → Option Value) (x : Str) (st : Stmt) (ps : List Str) where
  a : Addr
  d : FuncData
  F : L2.Fun K x x st a d
  b : Binds K d ps []
  g : mg x = some (.ref a)
  bs : ∀ (s : Shared) (us : List Value), us.length = ps.length → BindsTo s d ⟨us, []⟩ (ps.zip us)
section
variable {K : PySem.W.Frag} {mg : Str → Option Value} {h : Heap}
theorem funF_mk {x : Str} {st : Stmt} {ps : List Str} {f : Addr} {od an : Option Addr} {sl : Array (Option Value)} {oc kV dc pm cd ct : Value} (X : K.In h) (G : h.Ns mainGlobals mg)
    (hb : ∀ (kV doc pm : Value) (an : Option Addr) (cdv ct : Value) (us : List Value), us.length = ps.length → bindArgs (PySem.W.fnOf x x (defArgs st) (defBody st) (defScope st) .none kV doc pm an cdv ct) ⟨us, []⟩ = pure (ps.zip us))
    (a : PySem.W.nsIn K mainGlobals x = some (some (.ref f))) (l : K.lookup f = some ⟨oc, od, .func (PySem.W.fnOf x x (defArgs st) (defBody st) (defScope st) .none kV dc pm an cd ct), sl⟩) (c : PySem.W.codeIn K cd x = true) (k : PySem.W.keepIn K (.ref f) = true) : Nonempty (FunF K mg x st ps) :=
  ⟨⟨f, _, fun_mk l c k, (fun_mk l c k).binds hb, PySem.W.mg_of X G a, fun s us hl => .of_eq (hb _ _ _ _ _ _ us hl)⟩⟩
/-- .. of a def that makes lambdas -/
structure FunL (K : PySem.W.Frag) (mg : Str → Option Value) (h : Heap) (x : Str) (st : Stmt) (ps : List Str) extends FunF K mg x st ps where
  c : Addr
  P : Addr
  hc : d.code = .ref c
  C : PySem.W.CodeHd h c P
  e : h.get? P = some { cls := .none, data := .fields #[] }
  n : K.lookup P = none
theorem funL_mk {x : Str} {st : Stmt} {ps : List Str} {f c P : Addr} {od an : Option Addr} {sl : Array (Option Value)} {oc kV dc pm ct : Value} (X : K.In h) (G : h.Ns mainGlobals mg)
    (hb : ∀ (kV doc pm : Value) (an : Option Addr) (cdv ct : Value) (us : List Value), us.length = ps.length → bindArgs (PySem.W.fnOf x x (defArgs st) (defBody st) (defScope st) .none kV doc pm an cdv ct) ⟨us, []⟩ = pure (ps.zip us))
    (a : PySem.W.nsIn K mainGlobals x = some (some (.ref f))) (l : K.lookup f = some ⟨oc, od, .func (PySem.W.fnOf x x (defArgs st) (defBody st) (defScope st) .none kV dc pm an (.ref c) ct), sl⟩) (cc : PySem.W.codeIn K (.ref c) x = true) (k : PySem.W.keepIn K (.ref f) = true)
    (hT : h.get? P = some (PySem.W.tabObj #[])) (hC : PySem.W.codeHdIn K c P = true) (n : K.lookup P = none) : Nonempty (FunL K mg h x st ps) :=
  ⟨{ a := f, d := _, F := fun_mk l cc k, b := (fun_mk l cc k).binds hb, g := PySem.W.mg_of X G a, bs := fun s us hl => .of_eq (hb _ _ _ _ _ _ us hl), c := c, P := P, hc := rfl, C := PySem.W.codeHd_of_K X hC, e := hT, n := n }⟩
structure ExcF (K : PySem.W.Frag) (mg : Str → Option Value) (x : Str) where
  a : Addr
  e : ExF K mg x a
theorem excF_mk {x : Str} {C : Addr} (X : K.In h) (G : h.Ns mainGlobals mg) (a : PySem.W.nsIn K mainGlobals x = some (some (.ref C))) (q : veIn K C = true) (k : PySem.W.keepIn K (.ref C) = true) (s : PySem.W.subIn K (.ref C) (.type "BaseException") = some true) (t : PySem.W.typeIn K (.ref C) = some (.type "type")) :
    ∃ E : ExcF K mg x, E.a = C := ⟨⟨C, PySem.W.mg_of X G a, q, k, s, t⟩, rfl⟩
theorem loose_int {lv : List (Str × PySem.W.WData)} {p : Program} {x : Str} {i : Int} (X : PySem.W.XL p lv mg h) (m : (x, PySem.W.WData.int i) ∈ lv) : ∃ t, mg x = some (.int i t) := by
  obtain ⟨v, e, r⟩ := X.2.val _ m
  cases r
  exact ⟨_, e⟩
end
theorem end_mk {l : PySem.W.OpenLaw} {w : World} {K : PySem.W.Frag} {mg : Str → Option Value} {h : Heap} {fa : Addr} {n x : Str} {st : Stmt} {k : Nat} {f : FM} (Fl : FunF K mg n st [x]) (hfa : mg n = some (.ref fa)) (cs : List (Addr × Addr × Str))
    (h1 : ∀ p ∈ cs, h.get? p.2.1 = some { cls := .none, data := .fields #[] }) (h2 : ∀ p ∈ cs, K.lookup p.2.1 = none) (h3 : ∀ p ∈ cs, PySem.W.CodeHd h p.1 p.2.1)
    (hF : ∀ base : Heap, K.In base → base.Ns mainGlobals mg → (∀ p ∈ cs, LamX.TabB base mg p.1 p.2.1) → FnOk l.prog w K mg base (L2.CX l.prog w) k Fl.a Fl.d [x] (@spM ⟨cs.map (·.2)⟩ K mg 1 f)) : EndAt l w K mg h fa x k f := by
  cases hfa.symm.trans Fl.g
  exact ⟨Fl.d, cs, h1, h2, h3, fun s u => Fl.bs s [u] rfl, hF⟩
theorem with_K {K : PySem.W.Frag} {h : Heap} (X : K.In h) {p : PySem.W.Frag → Prop} (q : p K) : p K := q
theorem lit_int {K : PySem.W.Frag} {mg : Str → Option Value} {h : Heap} {x : Str} {i : Int} {t : Tok} (X : K.In h) (G : h.Ns mainGlobals mg) (a : PySem.W.nsIn K mainGlobals x = some (some (.int i t))) : ∃ t, mg x = some (.int i t) := ⟨t, PySem.W.mg_of X G a⟩
end Sim

set_option Elab.async false
set_option linter.all false
set_option maxRecDepth 100000
set_option maxHeartbeats 2000000
namespace Sim
open PySem PySem.Spec L2
open PyProof.Rows hiding St
/-! SimZ2: what the top has written: defs under another name, methods, makers of lambdas with their tables told. -/
/-- a def x, met under the module's name g -/
structure FunG (K : PySem.W.Frag) (mg : Str → Option Value) (g x : Str) (st : Stmt) (ps : List Str) where
  a : Addr
  d : FuncData
  F : L2.Fun K x x st a d
  b : Binds K d ps []
  g : mg g = some (.ref a)
/-- a method x of the qualified name q -/
structure FunM (K : PySem.W.Frag) (C : Addr) (x q : Str) (st : Stmt) (ps : List Str) where
  a : Addr
  d : FuncData
  F : L2.Fun K x q st a d
  b : Binds K d ps []
  at_ : PySem.W.findIn K (.ref C) x = some (some (.ref a))
  fn : PySem.W.isFn K (.ref a) = true
/-- a maker of lambdas, its table at P -/
structure FunLP (K : PySem.W.Frag) (mg : Str → Option Value) (h : Heap) (g x : Str) (st : Stmt) (ps : List Str) (P : Addr) where
  a : Addr
  d : FuncData
  F : L2.Fun K x x st a d
  b : Binds K d ps []
  g : mg g = some (.ref a)
  bs : ∀ (s : Shared) (us : List Value), us.length = ps.length → BindsTo s d ⟨us, []⟩ (ps.zip us)
  c : Addr
  hc : d.code = .ref c
  C : PySem.W.CodeHd h c P
  e : h.get? P = some { cls := .none, data := .fields #[] }
  n : K.lookup P = none
def FunLP.P {K : PySem.W.Frag} {mg : Str → Option Value} {h : Heap} {g x : Str} {st : Stmt} {ps : List Str} {P : Addr} (F : FunLP K mg h g x st ps P) : Addr := P
def FunLP.toFunF {K : PySem.W.Frag} {mg : Str → Option Value} {h : Heap} {x : Str} {st : Stmt} {ps : List Str} {P : Addr} (F : FunLP K mg h x x st ps P) : FunF K mg x st ps := ⟨F.a, F.d, F.F, F.b, F.g, F.bs⟩
section
variable {K : PySem.W.Frag} {mg : Str → Option Value} {h : Heap}
theorem funG_mk {g x : Str} {st : Stmt} {ps : List Str} {f : Addr} {od an : Option Addr} {sl : Array (Option Value)} {oc kV dc pm cd ct : Value} (X : K.In h) (G : h.Ns mainGlobals mg)
    (hb : ∀ (kV doc pm : Value) (an : Option Addr) (cdv ct : Value) (us : List Value), us.length = ps.length → bindArgs (PySem.W.fnOf x x (defArgs st) (defBody st) (defScope st) .none kV doc pm an cdv ct) ⟨us, []⟩ = pure (ps.zip us))
    (a : PySem.W.nsIn K mainGlobals g = some (some (.ref f))) (l : K.lookup f = some ⟨oc, od, .func (PySem.W.fnOf x x (defArgs st) (defBody st) (defScope st) .none kV dc pm an cd ct), sl⟩) (c : PySem.W.codeIn K cd x = true) (k : PySem.W.keepIn K (.ref f) = true) : Nonempty (FunG K mg g x st ps) :=
  ⟨⟨f, _, fun_mk l c k, (fun_mk l c k).binds hb, PySem.W.mg_of X G a⟩⟩
theorem funM_mk {C : Addr} {x q : Str} {st : Stmt} {ps : List Str} {f : Addr} {od an : Option Addr} {sl : Array (Option Value)} {oc kV dc pm cd ct : Value}
    (hb : ∀ (kV doc pm : Value) (an : Option Addr) (cdv ct : Value) (us : List Value), us.length = ps.length → bindArgs (PySem.W.fnOf x q (defArgs st) (defBody st) (defScope st) .none kV doc pm an cdv ct) ⟨us, []⟩ = pure (ps.zip us))
    (a : PySem.W.findIn K (.ref C) x = some (some (.ref f))) (i : PySem.W.isFn K (.ref f) = true) (l : K.lookup f = some ⟨oc, od, .func (PySem.W.fnOf x q (defArgs st) (defBody st) (defScope st) .none kV dc pm an cd ct), sl⟩) (c : PySem.W.codeIn K cd q = true) (k : PySem.W.keepIn K (.ref f) = true) : Nonempty (FunM K C x q st ps) :=
  ⟨⟨f, _, fun_mk l c k, (fun_mk l c k).binds hb, a, i⟩⟩
theorem funLP_mk {g x : Str} {st : Stmt} {ps : List Str} {f c P : Addr} {od an : Option Addr} {sl : Array (Option Value)} {oc kV dc pm ct : Value} (X : K.In h) (G : h.Ns mainGlobals mg)
    (hb : ∀ (kV doc pm : Value) (an : Option Addr) (cdv ct : Value) (us : List Value), us.length = ps.length → bindArgs (PySem.W.fnOf x x (defArgs st) (defBody st) (defScope st) .none kV doc pm an cdv ct) ⟨us, []⟩ = pure (ps.zip us))
    (a : PySem.W.nsIn K mainGlobals g = some (some (.ref f))) (l : K.lookup f = some ⟨oc, od, .func (PySem.W.fnOf x x (defArgs st) (defBody st) (defScope st) .none kV dc pm an (.ref c) ct), sl⟩) (cc : PySem.W.codeIn K (.ref c) x = true) (k : PySem.W.keepIn K (.ref f) = true)
    (hT : h.get? P = some (PySem.W.tabObj #[])) (hC : PySem.W.codeHdIn K c P = true) (n : K.lookup P = none) : Nonempty (FunLP K mg h g x st ps P) :=
  ⟨{ a := f, d := _, F := fun_mk l cc k, b := (fun_mk l cc k).binds hb, g := PySem.W.mg_of X G a, bs := fun s us hl => .of_eq (hb _ _ _ _ _ _ us hl), c := c, hc := rfl, C := PySem.W.codeHd_of_K X hC, e := hT, n := n }⟩
theorem clsF_mk {c : Str} {C : Addr} (X : K.In h) (G : h.Ns mainGlobals mg) (a : PySem.W.nsIn K mainGlobals c = some (some (.ref C))) (pg : PySem.W.plainGet K C Str.empty = true) (hd : PySem.W.hasDictIn K C = true) (po : PySem.W.plainOver K C = true)
    (sa : PySem.W.findIn K (.ref C) "__setattr__" = some (some (.builtin "object.__setattr__"))) (mk : PySem.W.makesIn K C = true) (kp : PySem.W.keepIn K (.ref C) = true) (ha : PySem.W.findIn K (.ref C) "__class__" = some (some (.builtin "object.__class__")))
    (hn : PySem.W.specialIn K (.builtin "object.__class__") "__get__" = some (some (.builtin "getset_descriptor.__get__"))) (htk : PySem.W.takesIn K (.builtin "object.__class__") = some true) (hm : PySem.W.mroIn K C (.type "object") = some true) : ∃ C, ClsF K mg c C :=
  ⟨C, PySem.W.mg_of X G a, ⟨pg, hd, po, sa⟩, mk, kp, ha, hn, htk, hm⟩
end
/-- a method's def at y -/
def FunY (K : PySem.W.Frag) (y : Addr) (x q : Str) (st : Stmt) (ps : List Str) : Prop := ∃ d : FuncData, L2.Fun K x q st y d ∧ Binds K d ps []
theorem funY_mk {K : PySem.W.Frag} {x q : Str} {st : Stmt} {ps : List Str} {f : Addr} {od an : Option Addr} {sl : Array (Option Value)} {oc kV dc pm cd ct : Value}
    (hb : ∀ (kV doc pm : Value) (an : Option Addr) (cdv ct : Value) (us : List Value), us.length = ps.length → bindArgs (PySem.W.fnOf x q (defArgs st) (defBody st) (defScope st) .none kV doc pm an cdv ct) ⟨us, []⟩ = pure (ps.zip us))
    (l : K.lookup f = some ⟨oc, od, .func (PySem.W.fnOf x q (defArgs st) (defBody st) (defScope st) .none kV dc pm an cd ct), sl⟩) (c : PySem.W.codeIn K cd q = true) (k : PySem.W.keepIn K (.ref f) = true) : FunY K f x q st ps :=
  ⟨_, fun_mk l c k, (fun_mk l c k).binds hb⟩
end Sim

set_option Elab.async false
set_option linter.all false
set_option maxRecDepth 100000
set_option maxHeartbeats 2000000
/-! MB: crowds as bits, in plain Lean. -/
namespace MB
open Sim
def crn (n b : Nat) : List Int := ((List.range n).filter fun i => b.testBit i).map fun i : Nat => (i : Int)
def cr (b : Nat) : List Int := crn b b
theorem crn_succ (n b : Nat) : crn (n + 1) b = crn n b ++ (if b.testBit n then [(n : Int)] else []) := by
  unfold crn
  rw [List.range_succ, List.filter_append, List.map_append]
  congr 1
  by_cases h : b.testBit n = true
  · rw [if_pos h, List.filter_cons_of_pos h]; rfl
  · rw [if_neg h, List.filter_cons_of_neg h]; rfl
theorem crn_ext {n a b : Nat} (h : ∀ i, i < n → a.testBit i = b.testBit i) : crn n a = crn n b := by
  induction n with
  | zero => rfl
  | succ n ih => rw [crn_succ, crn_succ, ih fun i hi => h i (by omega), h n (by omega)]
theorem crn_more {n b : Nat} (h : b < 2 ^ n) : ∀ k, crn (n + k) b = crn n b
  | 0 => rfl
  | k + 1 => by
    rw [← Nat.add_assoc, crn_succ, crn_more h k]
    have : b.testBit (n + k) = false := Nat.testBit_lt_two_pow (Nat.lt_of_lt_of_le h (Nat.pow_le_pow_right (by decide) (by omega)))
    rw [this]
    simp
theorem crn_cr {n b : Nat} (h : b < 2 ^ n) : crn n b = cr b := by
  have hb : b < 2 ^ b := Nat.lt_two_pow_self
  unfold cr
  rcases Nat.le_total n b with l | l
  · obtain ⟨k, rfl⟩ : ∃ k, b = n + k := ⟨b - n, by omega⟩
    rw [crn_more h k]
  · obtain ⟨k, rfl⟩ : ∃ k, n = b + k := ⟨n - b, by omega⟩
    rw [crn_more hb k]
theorem mem_crn {n b : Nat} {x : Int} : x ∈ crn n b ↔ ∃ i : Nat, i < n ∧ b.testBit i = true ∧ x = i := by
  unfold crn
  rw [List.mem_map]
  constructor
  · rintro ⟨i, hi, rfl⟩
    rw [List.mem_filter, List.mem_range] at hi
    exact ⟨i, hi.1, hi.2, rfl⟩
  · rintro ⟨i, h1, h2, rfl⟩
    exact ⟨i, List.mem_filter.mpr ⟨List.mem_range.mpr h1, h2⟩, rfl⟩
theorem mem_cr {b : Nat} {x : Int} : x ∈ cr b ↔ ∃ i : Nat, b.testBit i = true ∧ x = i := by
  unfold cr
  rw [mem_crn]
  constructor
  · rintro ⟨i, _, h2, rfl⟩; exact ⟨i, h2, rfl⟩
  · rintro ⟨i, h2, rfl⟩
    refine ⟨i, ?_, h2, rfl⟩
    have h3 := Nat.ge_two_pow_of_testBit h2
    exact Nat.lt_of_lt_of_le Nat.lt_two_pow_self h3
theorem cr_contains (b i : Nat) : (cr b).contains (i : Int) = b.testBit i := by
  cases h : b.testBit i with
  | true =>
    rw [List.contains_iff_mem]
    exact mem_cr.mpr ⟨i, h, rfl⟩
  | false =>
    rw [Bool.eq_false_iff]
    intro q
    rw [List.contains_iff_mem, mem_cr] at q
    obtain ⟨j, h1, h2⟩ := q
    have : i = j := by omega
    subst this
    rw [h] at h1; cases h1
theorem cr_inj {a b : Nat} (h : cr a = cr b) : a = b := by
  refine Nat.eq_of_testBit_eq fun i => ?_
  rw [← cr_contains, ← cr_contains, h]
theorem crn_sorted (n b : Nat) : (crn n b).Pairwise (· < ·) := by
  unfold crn
  refine List.pairwise_map.mpr ?_
  refine List.Pairwise.imp (R := fun (a b : Nat) => a < b) (fun h => by omega) ?_
  exact List.Pairwise.filter _ List.pairwise_lt_range
theorem cr_sorted (b : Nat) : (cr b).Pairwise (· < ·) := crn_sorted b b
theorem cr_range {n b : Nat} (h : b < 2 ^ n) {x : Int} (hx : x ∈ cr b) : 0 ≤ x ∧ x < n := by
  obtain ⟨i, h1, rfl⟩ := mem_cr.mp hx
  refine ⟨by omega, ?_⟩
  have h2 := Nat.ge_two_pow_of_testBit h1
  have : i < n := (Nat.pow_lt_pow_iff_right (by decide)).mp (Nat.lt_of_le_of_lt h2 h)
  omega
theorem cr_len (b : Nat) : (cr b).length ≤ b := by
  unfold cr crn
  rw [List.length_map]
  exact Nat.le_trans (List.length_filter_le _ _) (Nat.le_of_eq List.length_range)
theorem cr_len_n {n b : Nat} (h : b < 2 ^ n) : (cr b).length ≤ n := by
  rw [← crn_cr h]
  unfold crn
  rw [List.length_map]
  exact Nat.le_trans (List.length_filter_le _ _) (Nat.le_of_eq List.length_range)
/-- the sum of the bits -/
theorem crn_sum (n b : Nat) : ((crn n b).map fun p => (2 : Int) ^ p.toNat).sum = ((b % 2 ^ n : Nat) : Int) := by
  induction n with
  | zero => simp [crn, Nat.mod_one]
  | succ n ih =>
    rw [crn_succ, List.map_append, List.sum_append, ih, Nat.mod_pow_succ, Nat.testBit_eq_decide_div_mod_eq]
    have h2 : b / 2 ^ n % 2 < 2 := Nat.mod_lt _ (by decide)
    by_cases h : b / 2 ^ n % 2 = 1
    · rw [decide_eq_true h, if_pos rfl, h, Nat.mul_one]
      simp
    · rw [decide_eq_false h, if_neg (by decide), show b / 2 ^ n % 2 = 0 by omega]
      simp
theorem cr_sum (b : Nat) : ((cr b).map fun p => (2 : Int) ^ p.toNat).sum = (b : Int) := by
  unfold cr
  rw [crn_sum, Nat.mod_eq_of_lt Nat.lt_two_pow_self]
theorem cr_double {k b : Nat} (h : b < 2 ^ k) : cr (b + 2 ^ k) = cr b ++ [(k : Int)] := by
  have h2 : b + 2 ^ k < 2 ^ (k + 1) := by rw [Nat.pow_succ]; omega
  rw [← crn_cr h2, crn_succ, ← crn_cr h]
  have e1 : crn k (b + 2 ^ k) = crn k b := crn_ext fun i hi => by
    rw [Nat.add_comm, Nat.testBit_two_pow_add_gt hi]
  have e2 : (b + 2 ^ k).testBit k = true := by
    rw [Nat.add_comm, Nat.testBit_two_pow_add_eq, Nat.testBit_lt_two_pow h]; rfl
  rw [e1, e2, if_pos rfl]
/-- all crowds, as they are doubled -/
theorem crowds_double (k : Nat) : (List.range (2 ^ (k + 1))).map cr = (List.range (2 ^ k)).map cr ++ ((List.range (2 ^ k)).map cr).map (· ++ [(k : Int)]) := by
  rw [Nat.pow_succ, Nat.mul_two, List.range_add, List.map_append, List.map_map, List.map_map]
  congr 1
  refine List.map_congr_left fun b hb => ?_
  rw [List.mem_range] at hb
  show cr (2 ^ k + b) = cr b ++ [(k : Int)]
  rw [Nat.add_comm, cr_double hb]
/-- any part of the first n is a crowd -/
theorem sub_cr : ∀ (n : Nat) (l : List Int), l.Sublist ((List.range n).map fun i : Nat => (i : Int)) → ∃ b, b < 2 ^ n ∧ l = cr b
  | 0, l, h => by
    have : l = [] := by simpa using h
    exact ⟨0, by decide, this⟩
  | n + 1, l, h => by
    rw [List.range_succ, List.map_append, List.sublist_append_iff] at h
    obtain ⟨l1, l2, rfl, h1, h2⟩ := h
    obtain ⟨b, hb, rfl⟩ := sub_cr n l1 h1
    have h3 : l2 = [] ∨ l2 = [(n : Int)] := by
      have h2' : l2.Sublist [(n : Int)] := h2
      have hl := h2'.length_le
      rw [List.length_singleton] at hl
      cases l2 with
      | nil => exact .inl rfl
      | cons x r =>
        cases r with
        | nil => exact .inr (by have := h2'.subset List.mem_cons_self; rw [List.mem_singleton] at this; rw [this])
        | cons _ _ => simp at hl
    rcases h3 with rfl | rfl
    · exact ⟨b, by rw [Nat.pow_succ]; omega, by rw [List.append_nil]⟩
    · exact ⟨b + 2 ^ n, by rw [Nat.pow_succ]; omega, (cr_double hb).symm⟩
/-! ### within -/
def wi (m b : Nat) : Bool := (b &&& m) == m
theorem wi_iff {m b : Nat} : wi m b = true ↔ ∀ i, m.testBit i = true → b.testBit i = true := by
  unfold wi
  rw [beq_iff_eq]
  constructor
  · intro h i hi
    rw [← h, Nat.testBit_and, Bool.and_eq_true] at hi
    exact hi.1
  · intro h
    refine Nat.eq_of_testBit_eq fun i => ?_
    rw [Nat.testBit_and]
    cases hm : m.testBit i with
    | false => simp
    | true => rw [h i hm]; rfl
theorem wi_refl (b : Nat) : wi b b = true := wi_iff.mpr fun _ h => h
theorem wi_trans {a b c : Nat} (h : wi a b = true) (k : wi b c = true) : wi a c = true := wi_iff.mpr fun i hi => wi_iff.mp k i (wi_iff.mp h i hi)
theorem wi_le {m b : Nat} (h : wi m b = true) : m ≤ b := by
  unfold wi at h
  rw [beq_iff_eq] at h
  rw [← h]
  exact Nat.and_le_left
theorem wi_all (m b : Nat) : ((cr m).all fun p => (cr b).contains p) = wi m b := by
  rw [Bool.eq_iff_iff, List.all_eq_true, wi_iff]
  constructor
  · intro h i hi
    have := h i (mem_cr.mpr ⟨i, hi, rfl⟩)
    rwa [cr_contains] at this
  · intro h x hx
    obtain ⟨i, hi, rfl⟩ := mem_cr.mp hx
    rw [cr_contains]
    exact h i hi
/-! ### books -/
def clr (Ls : List Nat) (b : Nat) : Bool := !(Ls.any fun m => wi m b)
theorem clr_iff {Ls : List Nat} {b : Nat} : clr Ls b = true ↔ ∀ m ∈ Ls, wi m b = false := by
  unfold clr
  rw [Bool.not_eq_true', List.any_eq_false]
  constructor
  · intro h m hm; exact Bool.eq_false_iff.mpr (h m hm)
  · intro h m hm; rw [h m hm]; decide
theorem clr_false {Ls : List Nat} {b : Nat} : clr Ls b = false ↔ ∃ m ∈ Ls, wi m b = true := by
  unfold clr
  rw [Bool.not_eq_false', List.any_eq_true]
theorem clr_mono {Ls : List Nat} {a b : Nat} (h : wi a b = true) (k : clr Ls b = true) : clr Ls a = true := by
  rw [clr_iff] at k ⊢
  intro m hm
  have := k m hm
  rw [Bool.eq_false_iff] at this ⊢
  exact fun q => this (wi_trans q h)
/-- those within which no other one is -/
def mini (ms : List Nat) : List Nat := ms.filter fun b => !(ms.any fun o => !(o == b) && wi o b)
theorem mini_below {ms : List Nat} : ∀ (k b : Nat), b ≤ k → b ∈ ms → ∃ o ∈ mini ms, wi o b = true := by
  intro k
  induction k with
  | zero =>
    intro b hb hm
    have : b = 0 := by omega
    subst this
    refine ⟨0, ?_, wi_refl 0⟩
    refine List.mem_filter.mpr ⟨hm, ?_⟩
    rw [Bool.not_eq_true', List.any_eq_false]
    intro o ho q
    rw [Bool.and_eq_true, Bool.not_eq_true'] at q
    have := wi_le q.2
    have : o = 0 := by omega
    subst this
    simp at q
  | succ k ih =>
    intro b hb hm
    by_cases h : (ms.any fun o => !(o == b) && wi o b) = true
    · rw [List.any_eq_true] at h
      obtain ⟨o, ho, q⟩ := h
      rw [Bool.and_eq_true, Bool.not_eq_true', beq_eq_false_iff_ne] at q
      have := wi_le q.2
      obtain ⟨o2, h1, h2⟩ := ih o (by omega) ho
      exact ⟨o2, h1, wi_trans h2 q.2⟩
    · refine ⟨b, List.mem_filter.mpr ⟨hm, ?_⟩, wi_refl b⟩
      rw [Bool.not_eq_true']
      exact Bool.eq_false_iff.mpr h
theorem clr_mini (ms : List Nat) (b : Nat) : clr (mini ms) b = clr ms b := by
  cases h : clr ms b with
  | true =>
    rw [clr_iff] at h ⊢
    exact fun m hm => h m (List.mem_filter.mp hm).1
  | false =>
    rw [clr_false] at h ⊢
    obtain ⟨m, hm, w⟩ := h
    obtain ⟨o, h1, h2⟩ := mini_below m m (Nat.le_refl _) hm
    exact ⟨o, h1, wi_trans h2 w⟩
theorem clr_mem {Ls Ms : List Nat} (h : ∀ m, m ∈ Ls ↔ m ∈ Ms) (b : Nat) : clr Ls b = clr Ms b := by
  rw [Bool.eq_iff_iff, clr_iff, clr_iff]
  exact ⟨fun k m hm => k m ((h m).mpr hm), fun k m hm => k m ((h m).mp hm)⟩
/-- no lot is within another one -/
def Anti (Ls : List Nat) : Prop := ∀ m ∈ Ls, ∀ o ∈ Ls, wi o m = true → o = m
theorem anti_mini (ms : List Nat) : Anti (mini ms) := by
  intro m hm o ho w
  have h1 := (List.mem_filter.mp hm).2
  have h2 := (List.mem_filter.mp ho).1
  rw [Bool.not_eq_true', List.any_eq_false] at h1
  by_cases e : o = m
  · exact e
  · exact absurd (show (!(o == m) && wi o m) = true by rw [w, beq_eq_false_iff_ne.mpr e]; rfl) (h1 o h2)
/-- the lots are told by what is clear -/
theorem anti_mem {Ls Ms : List Nat} {n : Nat} (hL : Anti Ls) (hM : Anti Ms) (bL : ∀ m ∈ Ls, m < 2 ^ n) (h : ∀ b, b < 2 ^ n → clr Ls b = clr Ms b) (m : Nat) (hm : m ∈ Ls) : m ∈ Ms := by
  have h1 : clr Ls m = false := clr_false.mpr ⟨m, hm, wi_refl m⟩
  rw [h m (bL m hm), clr_false] at h1
  obtain ⟨o, ho, w⟩ := h1
  have h2 : clr Ms o = false := clr_false.mpr ⟨o, ho, wi_refl o⟩
  rw [← h o (Nat.lt_of_le_of_lt (wi_le w) (bL m hm)), clr_false] at h2
  obtain ⟨p, hp, w2⟩ := h2
  have e := hL m hm p hp (wi_trans w2 w)
  subst e
  have e2 : o = p := Nat.le_antisymm (wi_le w) (wi_le w2)
  rw [← e2]; exact ho
end MB

set_option Elab.async false
set_option linter.all false
set_option maxRecDepth 100000
set_option maxHeartbeats 2000000
namespace LW
open PySem PySem.Spec L2 Sim
open PyProof.Rows hiding St
def topS (i : Nat) : Stmt := PySem.Challenge.pw_clearhall_k93_whole_books_told_apart.main.body.getD i (.Pass ⟨0, 0, 0, 0⟩)
def fuel : Nat := 2097152
abbrev scp0 : Scope := { kind := PySem.ScopeKind.function, names := [(PySem.Str.ofString ".0", PySem.NameKind.local), (PySem.Str.ofString "bits", PySem.NameKind.cell), (PySem.Str.ofString "any", PySem.NameKind.globalImplicit), (PySem.Str.ofString "masks", PySem.NameKind.cell)], isGenerator := false, isCoroutine := false, more := [] }
abbrev scp1 : Scope := { kind := PySem.ScopeKind.function, names := [(PySem.Str.ofString ".0", PySem.NameKind.local), (PySem.Str.ofString "bits", PySem.NameKind.cell), (PySem.Str.ofString "any", PySem.NameKind.globalImplicit), (PySem.Str.ofString "some", PySem.NameKind.cell)], isGenerator := false, isCoroutine := false, more := [] }
abbrev scp2 : Scope := { kind := PySem.ScopeKind.function, names := [(PySem.Str.ofString ".0", PySem.NameKind.local), (PySem.Str.ofString "lot", PySem.NameKind.local), (PySem.Str.ofString "all", PySem.NameKind.globalImplicit), (PySem.Str.ofString "crowd", PySem.NameKind.cell)], isGenerator := false, isCoroutine := false, more := [] }
abbrev scp3 : Scope := { kind := PySem.ScopeKind.function, names := [(PySem.Str.ofString ".0", PySem.NameKind.local), (PySem.Str.ofString "lot", PySem.NameKind.local), (PySem.Str.ofString "all", PySem.NameKind.globalImplicit), (PySem.Str.ofString "lots", PySem.NameKind.cell), (PySem.Str.ofString "place", PySem.NameKind.cell)], isGenerator := false, isCoroutine := false, more := [] }
structure Facts (K : PySem.W.Frag) (mg : Str → Option Value) where
  a_is_integer : Addr
  d_is_integer : FuncData
  F_is_integer : L2.Fun K "is_integer" "is_integer" (topS 10) a_is_integer d_is_integer
  b_is_integer : Binds K d_is_integer ["thing"] []
  g_is_integer : mg "is_integer" = some (.ref a_is_integer)
  k_is_integer : PySem.W.keepIn K (.ref a_is_integer) = true
  a_is_within : Addr
  d_is_within : FuncData
  F_is_within : L2.Fun K "is_within" "is_within" (topS 11) a_is_within d_is_within
  b_is_within : Binds K d_is_within ["thing", "least", "most"] []
  g_is_within : mg "is_within" = some (.ref a_is_within)
  k_is_within : PySem.W.keepIn K (.ref a_is_within) = true
  a_is_listed : Addr
  d_is_listed : FuncData
  F_is_listed : L2.Fun K "is_listed" "is_listed" (topS 12) a_is_listed d_is_listed
  b_is_listed : Binds K d_is_listed ["thing"] []
  g_is_listed : mg "is_listed" = some (.ref a_is_listed)
  k_is_listed : PySem.W.keepIn K (.ref a_is_listed) = true
  a_are_ascending : Addr
  d_are_ascending : FuncData
  F_are_ascending : L2.Fun K "are_ascending" "are_ascending" (topS 13) a_are_ascending d_are_ascending
  b_are_ascending : Binds K d_are_ascending ["things"] []
  g_are_ascending : mg "are_ascending" = some (.ref a_are_ascending)
  k_are_ascending : PySem.W.keepIn K (.ref a_are_ascending) = true
  a_are_persons : Addr
  d_are_persons : FuncData
  F_are_persons : L2.Fun K "are_persons" "are_persons" (topS 14) a_are_persons d_are_persons
  b_are_persons : Binds K d_are_persons ["people", "thing"] []
  g_are_persons : mg "are_persons" = some (.ref a_are_persons)
  k_are_persons : PySem.W.keepIn K (.ref a_are_persons) = true
  a_is_crowd : Addr
  d_is_crowd : FuncData
  F_is_crowd : L2.Fun K "is_crowd" "is_crowd" (topS 15) a_is_crowd d_is_crowd
  b_is_crowd : Binds K d_is_crowd ["people", "thing"] []
  g_is_crowd : mg "is_crowd" = some (.ref a_is_crowd)
  k_is_crowd : PySem.W.keepIn K (.ref a_is_crowd) = true
  a_is_lot : Addr
  d_is_lot : FuncData
  F_is_lot : L2.Fun K "is_lot" "is_lot" (topS 16) a_is_lot d_is_lot
  b_is_lot : Binds K d_is_lot ["people", "thing"] []
  g_is_lot : mg "is_lot" = some (.ref a_is_lot)
  k_is_lot : PySem.W.keepIn K (.ref a_is_lot) = true
  a_check_crowd : Addr
  d_check_crowd : FuncData
  F_check_crowd : L2.Fun K "check_crowd" "check_crowd" (topS 17) a_check_crowd d_check_crowd
  b_check_crowd : Binds K d_check_crowd ["people", "thing"] []
  g_check_crowd : mg "check_crowd" = some (.ref a_check_crowd)
  k_check_crowd : PySem.W.keepIn K (.ref a_check_crowd) = true
  a_check_people : Addr
  d_check_people : FuncData
  F_check_people : L2.Fun K "check_people" "check_people" (topS 18) a_check_people d_check_people
  b_check_people : Binds K d_check_people ["thing", "most"] []
  g_check_people : mg "check_people" = some (.ref a_check_people)
  k_check_people : PySem.W.keepIn K (.ref a_check_people) = true
  a_check_many : Addr
  d_check_many : FuncData
  F_check_many : L2.Fun K "check_many" "check_many" (topS 19) a_check_many d_check_many
  b_check_many : Binds K d_check_many ["number", "most"] []
  g_check_many : mg "check_many" = some (.ref a_check_many)
  k_check_many : PySem.W.keepIn K (.ref a_check_many) = true
  a_bits_of : Addr
  d_bits_of : FuncData
  F_bits_of : L2.Fun K "bits_of" "bits_of" (topS 20) a_bits_of d_bits_of
  b_bits_of : Binds K d_bits_of ["crowd"] []
  g_bits_of : mg "bits_of" = some (.ref a_bits_of)
  k_bits_of : PySem.W.keepIn K (.ref a_bits_of) = true
  a_crowd_of : Addr
  d_crowd_of : FuncData
  F_crowd_of : L2.Fun K "crowd_of" "crowd_of" (topS 21) a_crowd_of d_crowd_of
  b_crowd_of : Binds K d_crowd_of ["bits"] []
  g_crowd_of : mg "crowd_of" = some (.ref a_crowd_of)
  k_crowd_of : PySem.W.keepIn K (.ref a_crowd_of) = true
  a_size_of : Addr
  d_size_of : FuncData
  F_size_of : L2.Fun K "size_of" "size_of" (topS 22) a_size_of d_size_of
  b_size_of : Binds K d_size_of ["bits"] []
  g_size_of : mg "size_of" = some (.ref a_size_of)
  k_size_of : PySem.W.keepIn K (.ref a_size_of) = true
  a_holds : Addr
  d_holds : FuncData
  F_holds : L2.Fun K "holds" "holds" (topS 23) a_holds d_holds
  b_holds : Binds K d_holds ["bits", "some"] []
  g_holds : mg "holds" = some (.ref a_holds)
  k_holds : PySem.W.keepIn K (.ref a_holds) = true
  a_all_of : Addr
  d_all_of : FuncData
  F_all_of : L2.Fun K "all_of" "all_of" (topS 24) a_all_of d_all_of
  b_all_of : Binds K d_all_of ["people"] []
  g_all_of : mg "all_of" = some (.ref a_all_of)
  k_all_of : PySem.W.keepIn K (.ref a_all_of) = true
  a_first_wrong_lot : Addr
  d_first_wrong_lot : FuncData
  F_first_wrong_lot : L2.Fun K "first_wrong_lot" "first_wrong_lot" (topS 28) a_first_wrong_lot d_first_wrong_lot
  b_first_wrong_lot : Binds K d_first_wrong_lot ["people", "lots"] []
  g_first_wrong_lot : mg "first_wrong_lot" = some (.ref a_first_wrong_lot)
  k_first_wrong_lot : PySem.W.keepIn K (.ref a_first_wrong_lot) = true
  a_is_clear_bits : Addr
  d_is_clear_bits : FuncData
  F_is_clear_bits : L2.Fun K "is_clear_bits" "is_clear_bits" (topS 31) a_is_clear_bits d_is_clear_bits
  b_is_clear_bits : Binds K d_is_clear_bits ["book", "bits"] []
  g_is_clear_bits : mg "is_clear_bits" = some (.ref a_is_clear_bits)
  k_is_clear_bits : PySem.W.keepIn K (.ref a_is_clear_bits) = true
  a_minimal : Addr
  d_minimal : FuncData
  F_minimal : L2.Fun K "minimal" "minimal" (topS 32) a_minimal d_minimal
  b_minimal : Binds K d_minimal ["heaps"] []
  g_minimal : mg "minimal" = some (.ref a_minimal)
  k_minimal : PySem.W.keepIn K (.ref a_minimal) = true
  a_Book_keep : Addr
  d_Book_keep : FuncData
  F_Book_keep : L2.Fun K "keep" "Book.keep" (inClass (topS 29) 1) a_Book_keep d_Book_keep
  b_Book_keep : Binds K d_Book_keep ["self", "people", "lots"] []
  fn_Book_keep : PySem.W.isFn K (.ref a_Book_keep) = true
  a_RawBook___init__ : Addr
  d_RawBook___init__ : FuncData
  F_RawBook___init__ : L2.Fun K "__init__" "RawBook.__init__" (inClass (topS 30) 0) a_RawBook___init__ d_RawBook___init__
  b_RawBook___init__ : Binds K d_RawBook___init__ ["self", "people", "lots"] []
  fn_RawBook___init__ : PySem.W.isFn K (.ref a_RawBook___init__) = true
  a_made_of : Addr
  d_made_of : FuncData
  F_made_of : L2.Fun K "made_of" "made_of" (topS 33) a_made_of d_made_of
  b_made_of : Binds K d_made_of ["people", "heaps"] []
  g_made_of : mg "made_of" = some (.ref a_made_of)
  k_made_of : PySem.W.keepIn K (.ref a_made_of) = true
  a_book_of : Addr
  d_book_of : FuncData
  F_book_of : L2.Fun K "book_of" "book_of" (topS 34) a_book_of d_book_of
  b_book_of : Binds K d_book_of ["people", "heaps"] []
  g_book_of : mg "book_of" = some (.ref a_book_of)
  k_book_of : PySem.W.keepIn K (.ref a_book_of) = true
  a_check_same_gaps : Addr
  d_check_same_gaps : FuncData
  F_check_same_gaps : L2.Fun K "check_same" "check_same" (topS 37) a_check_same_gaps d_check_same_gaps
  b_check_same_gaps : Binds K d_check_same_gaps ["one", "other"] []
  g_check_same_gaps : mg "check_same_gaps" = some (.ref a_check_same_gaps)
  k_check_same_gaps : PySem.W.keepIn K (.ref a_check_same_gaps) = true
  a_unlike_bits : Addr
  d_unlike_bits : FuncData
  F_unlike_bits : L2.Fun K "unlike_bits" "unlike_bits" (topS 39) a_unlike_bits d_unlike_bits
  b_unlike_bits : Binds K d_unlike_bits ["one", "other"] []
  g_unlike_bits : mg "unlike_bits" = some (.ref a_unlike_bits)
  k_unlike_bits : PySem.W.keepIn K (.ref a_unlike_bits) = true
  a_unlike_crowds : Addr
  d_unlike_crowds : FuncData
  F_unlike_crowds : L2.Fun K "unlike_crowds" "unlike_crowds" (topS 40) a_unlike_crowds d_unlike_crowds
  b_unlike_crowds : Binds K d_unlike_crowds ["one", "other"] []
  g_unlike_crowds : mg "unlike_crowds" = some (.ref a_unlike_crowds)
  k_unlike_crowds : PySem.W.keepIn K (.ref a_unlike_crowds) = true
  a_gap : Addr
  d_gap : FuncData
  F_gap : L2.Fun K "gap" "gap" (topS 41) a_gap d_gap
  b_gap : Binds K d_gap ["one", "other"] []
  g_gap : mg "gap" = some (.ref a_gap)
  k_gap : PySem.W.keepIn K (.ref a_gap) = true
  a_is_finer : Addr
  d_is_finer : FuncData
  F_is_finer : L2.Fun K "is_finer" "is_finer" (topS 42) a_is_finer d_is_finer
  b_is_finer : Binds K d_is_finer ["one", "other"] []
  g_is_finer : mg "is_finer" = some (.ref a_is_finer)
  k_is_finer : PySem.W.keepIn K (.ref a_is_finer) = true
  a_lots_of : Addr
  d_lots_of : FuncData
  F_lots_of : L2.Fun K "lots_of" "lots_of" (topS 43) a_lots_of d_lots_of
  b_lots_of : Binds K d_lots_of ["people"] []
  g_lots_of : mg "lots_of" = some (.ref a_lots_of)
  k_lots_of : PySem.W.keepIn K (.ref a_lots_of) = true
  a_goes_beside : Addr
  d_goes_beside : FuncData
  F_goes_beside : L2.Fun K "goes_beside" "goes_beside" (topS 44) a_goes_beside d_goes_beside
  b_goes_beside : Binds K d_goes_beside ["bits", "mask"] []
  g_goes_beside : mg "goes_beside" = some (.ref a_goes_beside)
  k_goes_beside : PySem.W.keepIn K (.ref a_goes_beside) = true
  a_count_from : Addr
  d_count_from : FuncData
  F_count_from : L2.Fun K "count_from" "count_from" (topS 45) a_count_from d_count_from
  b_count_from : Binds K d_count_from ["some"] []
  g_count_from : mg "count_from" = some (.ref a_count_from)
  k_count_from : PySem.W.keepIn K (.ref a_count_from) = true
  a_books_in_all : Addr
  d_books_in_all : FuncData
  F_books_in_all : L2.Fun K "books_in_all" "books_in_all" (topS 46) a_books_in_all d_books_in_all
  b_books_in_all : Binds K d_books_in_all ["people"] []
  g_books_in_all : mg "books_in_all" = some (.ref a_books_in_all)
  k_books_in_all : PySem.W.keepIn K (.ref a_books_in_all) = true
  a_least_of : Addr
  d_least_of : FuncData
  F_least_of : L2.Fun K "least_of" "least_of" (topS 48) a_least_of d_least_of
  b_least_of : Binds K d_least_of ["masks"] []
  g_least_of : mg "least_of" = some (.ref a_least_of)
  k_least_of : PySem.W.keepIn K (.ref a_least_of) = true
  a_book_with : Addr
  d_book_with : FuncData
  F_book_with : L2.Fun K "book_with" "book_with" (topS 50) a_book_with d_book_with
  b_book_with : Binds K d_book_with ["people", "masks"] []
  g_book_with : mg "book_with" = some (.ref a_book_with)
  k_book_with : PySem.W.keepIn K (.ref a_book_with) = true
  a_left_out : Addr
  d_left_out : FuncData
  F_left_out : L2.Fun K "left_out" "left_out" (topS 51) a_left_out d_left_out
  b_left_out : Binds K d_left_out ["book", "crowd"] []
  g_left_out : mg "left_out" = some (.ref a_left_out)
  k_left_out : PySem.W.keepIn K (.ref a_left_out) = true
  a_check_same_twobooks : Addr
  d_check_same_twobooks : FuncData
  F_check_same_twobooks : L2.Fun K "check_same" "check_same" (topS 53) a_check_same_twobooks d_check_same_twobooks
  b_check_same_twobooks : Binds K d_check_same_twobooks ["one", "other"] []
  g_check_same_twobooks : mg "check_same_twobooks" = some (.ref a_check_same_twobooks)
  k_check_same_twobooks : PySem.W.keepIn K (.ref a_check_same_twobooks) = true
  a_both : Addr
  d_both : FuncData
  F_both : L2.Fun K "both" "both" (topS 55) a_both d_both
  b_both : Binds K d_both ["one", "other"] []
  g_both : mg "both" = some (.ref a_both)
  k_both : PySem.W.keepIn K (.ref a_both) = true
  a_either : Addr
  d_either : FuncData
  F_either : L2.Fun K "either" "either" (topS 56) a_either d_either
  b_either : Binds K d_either ["one", "other"] []
  g_either : mg "either" = some (.ref a_either)
  k_either : PySem.W.keepIn K (.ref a_either) = true
  a__law_hand : Addr
  d__law_hand : FuncData
  F__law_hand : L2.Fun K "_law_hand" "_law_hand" (topS 58) a__law_hand d__law_hand
  b__law_hand : Binds K d__law_hand ["script"] []
  g__law_hand : mg "_law_hand" = some (.ref a__law_hand)
  k__law_hand : PySem.W.keepIn K (.ref a__law_hand) = true
  a__law_draw : Addr
  d__law_draw : FuncData
  F__law_draw : L2.Fun K "_law_draw" "_law_draw" (topS 59) a__law_draw d__law_draw
  b__law_draw : Binds K d__law_draw ["hand", "many"] []
  g__law_draw : mg "_law_draw" = some (.ref a__law_draw)
  k__law_draw : PySem.W.keepIn K (.ref a__law_draw) = true
  a__law_any : Addr
  d__law_any : FuncData
  F__law_any : L2.Fun K "_law_any" "_law_any" (topS 60) a__law_any d__law_any
  b__law_any : Binds K d__law_any ["hand", "some"] []
  g__law_any : mg "_law_any" = some (.ref a__law_any)
  k__law_any : PySem.W.keepIn K (.ref a__law_any) = true
  a__law_crowds : Addr
  d__law_crowds : FuncData
  F__law_crowds : L2.Fun K "_law_crowds" "_law_crowds" (topS 61) a__law_crowds d__law_crowds
  b__law_crowds : Binds K d__law_crowds ["people"] []
  g__law_crowds : mg "_law_crowds" = some (.ref a__law_crowds)
  k__law_crowds : PySem.W.keepIn K (.ref a__law_crowds) = true
  a__law_is_clear : Addr
  d__law_is_clear : FuncData
  F__law_is_clear : L2.Fun K "_law_is_clear" "_law_is_clear" (topS 62) a__law_is_clear d__law_is_clear
  b__law_is_clear : Binds K d__law_is_clear ["book", "crowd"] []
  g__law_is_clear : mg "_law_is_clear" = some (.ref a__law_is_clear)
  k__law_is_clear : PySem.W.keepIn K (.ref a__law_is_clear) = true
  a__law_of : Addr
  d__law_of : FuncData
  F__law_of : L2.Fun K "_law_of" "_law_of" (topS 63) a__law_of d__law_of
  b__law_of : Binds K d__law_of ["hand", "people"] []
  g__law_of : mg "_law_of" = some (.ref a__law_of)
  k__law_of : PySem.W.keepIn K (.ref a__law_of) = true
  a__law_books : Addr
  d__law_books : FuncData
  F__law_books : L2.Fun K "_law_books" "_law_books" (topS 64) a__law_books d__law_books
  b__law_books : Binds K d__law_books ["people"] []
  g__law_books : mg "_law_books" = some (.ref a__law_books)
  k__law_books : PySem.W.keepIn K (.ref a__law_books) = true
  a__law_word : Addr
  d__law_word : FuncData
  F__law_word : L2.Fun K "_law_word" "_law_word" (topS 65) a__law_word d__law_word
  b__law_word : Binds K d__law_word ["call"] []
  g__law_word : mg "_law_word" = some (.ref a__law_word)
  k__law_word : PySem.W.keepIn K (.ref a__law_word) = true
  a_Book___init__ : Addr
  d_Book___init__ : FuncData
  F_Book___init__ : L2.Fun K "__init__" "Book.__init__" (inClass (topS 29) 0) a_Book___init__ d_Book___init__
  b_Book___init__ : Binds K d_Book___init__ ["self", "people", "lots"] []
  fn_Book___init__ : PySem.W.isFn K (.ref a_Book___init__) = true
  a_Book___eq__ : Addr
  d_Book___eq__ : FuncData
  F_Book___eq__ : L2.Fun K "__eq__" "Book.__eq__" (inClass (topS 29) 2) a_Book___eq__ d_Book___eq__
  b_Book___eq__ : Binds K d_Book___eq__ ["self", "other"] []
  fn_Book___eq__ : PySem.W.isFn K (.ref a_Book___eq__) = true
  a_law : Addr
  d_law : FuncData
  F_law : L2.Fun K "law" "law" (topS 66) a_law d_law
  b_law : Binds K d_law ["script"] []
  g_law : mg "law" = some (.ref a_law)
  k_law : PySem.W.keepIn K (.ref a_law) = true
  z_abs : mg "abs" = none
  z_all : mg "all" = none
  z_any : mg "any" = none
  z_bool : mg "bool" = none
  z_enumerate : mg "enumerate" = none
  z_int : mg "int" = none
  z_isinstance : mg "isinstance" = none
  z_len : mg "len" = none
  z_list : mg "list" = none
  z_range : mg "range" = none
  z_sorted : mg "sorted" = none
  z_sum : mg "sum" = none
  z_tuple : mg "tuple" = none
  t_MOST_COUNTED : Tok
  c_MOST_COUNTED : mg "MOST_COUNTED" = some (.int 5 t_MOST_COUNTED)
  t_MOST_HEAPS : Tok
  c_MOST_HEAPS : mg "MOST_HEAPS" = some (.int 200 t_MOST_HEAPS)
  t_MOST_LOTS : Tok
  c_MOST_LOTS : mg "MOST_LOTS" = some (.int 60 t_MOST_LOTS)
  t_MOST_PEOPLE : Tok
  c_MOST_PEOPLE : mg "MOST_PEOPLE" = some (.int 12 t_MOST_PEOPLE)
  x_LotError : Addr
  g_LotError : mg "LotError" = some (.ref x_LotError)
  x_NoCrowd : Addr
  e_NoCrowd : ExF K mg "NoCrowd" x_NoCrowd
  x_NoHeaps : Addr
  e_NoHeaps : ExF K mg "NoHeaps" x_NoHeaps
  x_NoPeople : Addr
  e_NoPeople : ExF K mg "NoPeople" x_NoPeople
  x_OtherPeople : Addr
  e_OtherPeople : ExF K mg "OtherPeople" x_OtherPeople
  hd_OtherPeople : PySem.W.hasDictIn K x_OtherPeople = true
  xc_OtherPeople : ExcC K x_OtherPeople
  ki_OtherPeople : PySem.W.kitOne K (.ref x_OtherPeople) (.ref x_LotError) = some true
  hd_NoPeople : PySem.W.hasDictIn K x_NoPeople = true
  xc_NoPeople : ExcC K x_NoPeople
  ki_NoPeople : PySem.W.kitOne K (.ref x_NoPeople) (.ref x_LotError) = some true
  s_OtherPeople_OtherPeople : PySem.W.subIn K (.ref x_OtherPeople) (.ref x_OtherPeople) = some true
  s_NoPeople_OtherPeople : PySem.W.subIn K (.ref x_NoPeople) (.ref x_OtherPeople) = some false
  s_NoPeople_NoPeople : PySem.W.subIn K (.ref x_NoPeople) (.ref x_NoPeople) = some true
  A_Book : Addr
  C_Book : ClsF K mg "Book" A_Book
  A_RawBook : Addr
  C_RawBook : ClsF K mg "RawBook" A_RawBook
  at_Book___init__ : PySem.W.findIn K (.ref A_Book) "__init__" = some (some (.ref a_Book___init__))
  at_Book_keep : PySem.W.findIn K (.ref A_Book) "keep" = some (some (.ref a_Book_keep))
  at_RawBook___eq__ : PySem.W.findIn K (.ref A_RawBook) "__eq__" = some (some (.ref a_Book___eq__))
  at_RawBook___init__ : PySem.W.findIn K (.ref A_RawBook) "__init__" = some (some (.ref a_RawBook___init__))
  at_RawBook_keep : PySem.W.findIn K (.ref A_RawBook) "keep" = some (some (.ref a_Book_keep))
  na_Book_lots : NoAttr K A_Book "lots"
  na_Book_masks : NoAttr K A_Book "masks"
  na_Book_people : NoAttr K A_Book "people"
  na_RawBook_lots : NoAttr K A_RawBook "lots"
  na_RawBook_masks : NoAttr K A_RawBook "masks"
  na_RawBook_people : NoAttr K A_RawBook "people"
  is_Book_Book : PySem.W.kitOne K (.ref A_Book) (.ref A_Book) = some true
  is_RawBook_Book : PySem.W.kitOne K (.ref A_RawBook) (.ref A_Book) = some true
  cc__law_crowds : Addr
  tt__law_crowds : Addr
  cd__law_crowds : d__law_crowds.code = .ref cc__law_crowds
  cc_law : Addr
  tt_law : Addr
  cd_law : d_law.code = .ref cc_law
theorem Facts.mt_Book_keep [TabT] {K : PySem.W.Frag} {mg : Str → Option Value} (T : Facts K mg) : Meth K T.A_Book "keep" T.a_Book_keep := ⟨T.at_Book_keep, T.fn_Book_keep, T.F_Book_keep.kp⟩
theorem Facts.mt_RawBook_keep [TabT] {K : PySem.W.Frag} {mg : Str → Option Value} (T : Facts K mg) : Meth K T.A_RawBook "keep" T.a_Book_keep := ⟨T.at_RawBook_keep, T.fn_Book_keep, T.F_Book_keep.kp⟩
theorem Facts.fld_lots [TabT] {K : PySem.W.Frag} {mg : Str → Option Value} (T : Facts K mg) : FldOk K mg ["Book", "RawBook"] "lots" := .cons T.C_Book.g T.C_Book.cl T.na_Book_lots (.cons T.C_RawBook.g T.C_RawBook.cl T.na_RawBook_lots (.nil))
theorem Facts.fld_masks [TabT] {K : PySem.W.Frag} {mg : Str → Option Value} (T : Facts K mg) : FldOk K mg ["Book", "RawBook"] "masks" := .cons T.C_Book.g T.C_Book.cl T.na_Book_masks (.cons T.C_RawBook.g T.C_RawBook.cl T.na_RawBook_masks (.nil))
theorem Facts.fld_people [TabT] {K : PySem.W.Frag} {mg : Str → Option Value} (T : Facts K mg) : FldOk K mg ["Book", "RawBook"] "people" := .cons T.C_Book.g T.C_Book.cl T.na_Book_people (.cons T.C_RawBook.g T.C_RawBook.cl T.na_RawBook_people (.nil))
theorem Facts.iso_Book [TabT] {K : PySem.W.Frag} {mg : Str → Option Value} (T : Facts K mg) : IsTab K mg T.A_Book [("Book", true), ("RawBook", true)] := .cons T.C_Book.g (T.C_Book.isOk T.is_Book_Book) (.cons T.C_RawBook.g (T.C_RawBook.isOk T.is_RawBook_Book) (.nil))
structure TBs [TabT] {K : PySem.W.Frag} {mg : Str → Option Value} (T : Facts K mg) (base : Heap) : Prop where
  tb__law_crowds : LamX.TabB base mg T.cc__law_crowds T.tt__law_crowds
  m__law_crowds : (T.tt__law_crowds, ("_law_crowds" : Str) ++ ".<locals>." ++ "<lambda>") ∈ TabT.T
  u__law_crowds : ∀ p ∈ TabT.T, p.1 = T.tt__law_crowds → p.2 = ("_law_crowds" : Str) ++ ".<locals>." ++ "<lambda>"
  tb_law : LamX.TabB base mg T.cc_law T.tt_law
  m_law : (T.tt_law, ("law" : Str) ++ ".<locals>." ++ "<lambda>") ∈ TabT.T
  u_law : ∀ p ∈ TabT.T, p.1 = T.tt_law → p.2 = ("law" : Str) ++ ".<locals>." ++ "<lambda>"
section
variable [TabT] {P : Program} {w : World} {K : PySem.W.Frag} {mg : Str → Option Value} {base : Heap}

/-! ### is_integer -/
abbrev s_is_integer : Stmt := topS 10
abbrev N_is_integer : List Str := ["thing"]
theorem sc_is_integer : FnScope N_is_integer ["thing"] (defScope s_is_integer) := ⟨rfl, rfl, rfl, by decide +kernel, rfl, by decide +kernel, by decide +kernel⟩

def m_is_integer : SM :=
  sRet (mAndV (mN isiA (aCons (mV 0) (aCons (mC (.ty "int")) aNil))) (mNotV (mN isiA (aCons (mV 0) (aCons (mC (.ty "bool")) aNil)))))
def f_is_integer : FM := bodyM 0 m_is_integer
theorem ok_is_integer (T : Facts K mg) (B : TBs T base) : FnOk P w K mg base (L2.CX P w) 1 T.a_is_integer T.d_is_integer ["thing"] (spM K mg 1 f_is_integer) := fn_mk T.F_is_integer sc_is_integer fun cdv A outer sh H E O =>
  sss_one (ss_ret (se_and (se_callB call_isiA T.z_isinstance (by rfl) (sa_cons (se_v 0) (sa_cons (se_tyn T.z_int (by rfl)) sa_nil))) (se_one (se_not (se_callB call_isiA T.z_isinstance (by rfl) (sa_cons (se_v 0) (sa_cons (se_tyn T.z_bool (by rfl)) sa_nil)))))))


/-! ### is_within -/
abbrev s_is_within : Stmt := topS 11
abbrev N_is_within : List Str := ["thing", "least", "most"]
theorem sc_is_within : FnScope N_is_within ["thing", "least", "most"] (defScope s_is_within) := ⟨rfl, rfl, rfl, by decide +kernel, rfl, by decide +kernel, by decide +kernel⟩

def m_is_within : SM :=
  sRet (mAndV (mCall (callP 1 f_is_integer) (aCons (mV 0) aNil)) (mChain leA leA (mV 1) (mV 0) (mV 2)))
def f_is_within : FM := bodyM 0 m_is_within
theorem ok_is_within (T : Facts K mg) (B : TBs T base) : FnOk P w K mg base (L2.CX P w) 2 T.a_is_within T.d_is_within ["thing", "least", "most"] (spM K mg 3 f_is_within) := fn_mk T.F_is_within sc_is_within fun cdv A outer sh H E O =>
  sss_one (ss_ret (se_and (se_call O call_p (ok_is_integer T B) (by decide) T.g_is_integer T.k_is_integer T.b_is_integer (sa_cons (se_v 0) sa_nil)) (se_one (se_chain op_leA op_leA (se_v 1) (se_v 0) (se_v 2)))))


/-! ### is_listed -/
abbrev s_is_listed : Stmt := topS 12
abbrev N_is_listed : List Str := ["thing"]
theorem sc_is_listed : FnScope N_is_listed ["thing"] (defScope s_is_listed) := ⟨rfl, rfl, rfl, by decide +kernel, rfl, by decide +kernel, by decide +kernel⟩

def m_is_listed : SM :=
  sRet (mN isiA (aCons (mV 0) (aCons (mTup (aCons (mC (.ty "list")) (aCons (mC (.ty "tuple")) aNil))) aNil)))
def f_is_listed : FM := bodyM 0 m_is_listed
theorem ok_is_listed (T : Facts K mg) (B : TBs T base) : FnOk P w K mg base (L2.CX P w) 1 T.a_is_listed T.d_is_listed ["thing"] (spM K mg 1 f_is_listed) := fn_mk T.F_is_listed sc_is_listed fun cdv A outer sh H E O =>
  sss_one (ss_ret (se_callB call_isiA T.z_isinstance (by rfl) (sa_cons (se_v 0) (sa_cons (se_tup (sa_cons (se_tyn T.z_list (by rfl)) (sa_cons (se_tyn T.z_tuple (by rfl)) sa_nil))) sa_nil))))


/-! ### are_ascending -/
abbrev s_are_ascending : Stmt := topS 13
abbrev N_are_ascending : List Str := ["things", "at"]
theorem sc_are_ascending : FnScope N_are_ascending ["things"] (defScope s_are_ascending) := ⟨rfl, rfl, rfl, by decide +kernel, rfl, by decide +kernel, by decide +kernel⟩
def K_are_ascending_0 : EM (List AV) :=
  mLc [1] (mRng2 (mC (.int 1)) (mN lenA (aCons (mV 0) aNil))) (gN 1) mYes (m2 ltA (m2 ixA (mV 0) (m2 subA (mV 1) (mC (.int 1)))) (m2 ixA (mV 0) (mV 1)))
def m_are_ascending : SM :=
  sRet (mN allA (aCons (mLs K_are_ascending_0) aNil))
def f_are_ascending : FM := bodyM 1 m_are_ascending
theorem ok_are_ascending (T : Facts K mg) (B : TBs T base) : FnOk P w K mg base (L2.CX P w) 1 T.a_are_ascending T.d_are_ascending ["things"] (spM K mg 1 f_are_ascending) := fn_mk T.F_are_ascending sc_are_ascending fun cdv A outer sh H E O =>
  sss_one (ss_ret (se_callB (call_allA O.calm) T.z_all (by rfl) (sa_cons (se_ls (sf_lc (own := [("at", 1)]) (ow := [1]) O (si_rng2 T.z_range se_int (se_callB call_lenA T.z_len (by rfl) (sa_cons (se_v 0) sa_nil))) (blkOk_by (N := N_are_ascending) (sc := (defScope s_are_ascending)) (own := [("at", 1)]) (by decide +kernel)) (by decide) (fun s1 H1 C1 cl1 fp1 => sg_n (i := 1) (O.blk _ s1 H1 C1 cl1 fp1).nd rfl (.inl rfl)) (fun s1 H1 C1 cl1 fp1 => sts_nil) (fun s1 H1 C1 cl1 fp1 => se_cmp (op_ltA (O.blk _ s1 H1 C1 cl1 fp1).u0) (se_ix (se_v 0) (se_op op_subA (se_v 1) se_int)) (se_ix (se_v 0) (se_v 1))))) sa_nil)))


/-! ### are_persons -/
abbrev s_are_persons : Stmt := topS 14
abbrev N_are_persons : List Str := ["people", "thing", "person"]
theorem sc_are_persons : FnScope N_are_persons ["people", "thing"] (defScope s_are_persons) := ⟨rfl, rfl, rfl, by decide +kernel, rfl, by decide +kernel, by decide +kernel⟩
def K_are_persons_0 : EM (List AV) :=
  mLc [2] (mItS (mV 1)) (gN 2) mYes (mCall (callP 3 f_is_within) (aCons (mV 2) (aCons (mC (.int 0)) (aCons (m2 subA (mV 0) (mC (.int 1))) aNil))))
def m_are_persons : SM :=
  sRet (mAndV (mN isiA (aCons (mV 1) (aCons (mC (.ty "tuple")) aNil))) (mN allA (aCons (mLs K_are_persons_0) aNil)))
def f_are_persons : FM := bodyM 1 m_are_persons
theorem ok_are_persons (T : Facts K mg) (B : TBs T base) : FnOk P w K mg base (L2.CX P w) 3 T.a_are_persons T.d_are_persons ["people", "thing"] (spM K mg 2 f_are_persons) := fn_mk T.F_are_persons sc_are_persons fun cdv A outer sh H E O =>
  sss_one (ss_ret (se_and (se_callB call_isiA T.z_isinstance (by rfl) (sa_cons (se_v 1) (sa_cons (se_tyn T.z_tuple (by rfl)) sa_nil))) (se_one (se_callB (call_allA O.calm) T.z_all (by rfl) (sa_cons (se_ls (sf_lc (own := [("person", 2)]) (ow := [2]) O (si_seq (se_v 1)) (blkOk_by (N := N_are_persons) (sc := (defScope s_are_persons)) (own := [("person", 2)]) (by decide +kernel)) (by decide) (fun s1 H1 C1 cl1 fp1 => sg_n (i := 2) (O.blk _ s1 H1 C1 cl1 fp1).nd rfl (.inl rfl)) (fun s1 H1 C1 cl1 fp1 => sts_nil) (fun s1 H1 C1 cl1 fp1 => se_call (O.blk _ s1 H1 C1 cl1 fp1) call_p (ok_is_within T B) (by decide) T.g_is_within T.k_is_within T.b_is_within (sa_cons (se_v 2) (sa_cons se_int (sa_cons (se_op op_subA (se_v 0) se_int) sa_nil)))))) sa_nil)))))


/-! ### is_crowd -/
abbrev s_is_crowd : Stmt := topS 15
abbrev N_is_crowd : List Str := ["people", "thing"]
theorem sc_is_crowd : FnScope N_is_crowd ["people", "thing"] (defScope s_is_crowd) := ⟨rfl, rfl, rfl, by decide +kernel, rfl, by decide +kernel, by decide +kernel⟩

def m_is_crowd : SM :=
  sRet (mAndV (mCall (callP 2 f_are_persons) (aCons (mV 0) (aCons (mV 1) aNil))) (mCall (callP 1 f_are_ascending) (aCons (mV 1) aNil)))
def f_is_crowd : FM := bodyM 0 m_is_crowd
theorem ok_is_crowd (T : Facts K mg) (B : TBs T base) : FnOk P w K mg base (L2.CX P w) 4 T.a_is_crowd T.d_is_crowd ["people", "thing"] (spM K mg 2 f_is_crowd) := fn_mk T.F_is_crowd sc_is_crowd fun cdv A outer sh H E O =>
  sss_one (ss_ret (se_and (se_call O call_p (ok_are_persons T B) (by decide) T.g_are_persons T.k_are_persons T.b_are_persons (sa_cons (se_v 0) (sa_cons (se_v 1) sa_nil))) (se_one (se_call O call_p (ok_are_ascending T B) (by decide) T.g_are_ascending T.k_are_ascending T.b_are_ascending (sa_cons (se_v 1) sa_nil)))))


/-! ### is_lot -/
abbrev s_is_lot : Stmt := topS 16
abbrev N_is_lot : List Str := ["people", "thing"]
theorem sc_is_lot : FnScope N_is_lot ["people", "thing"] (defScope s_is_lot) := ⟨rfl, rfl, rfl, by decide +kernel, rfl, by decide +kernel, by decide +kernel⟩

def m_is_lot : SM :=
  sRet (mAndV (mCall (callP 2 f_is_crowd) (aCons (mV 0) (aCons (mV 1) aNil))) (m2 gtA (mN lenA (aCons (mV 1) aNil)) (mC (.int 1))))
def f_is_lot : FM := bodyM 0 m_is_lot
theorem ok_is_lot (T : Facts K mg) (B : TBs T base) : FnOk P w K mg base (L2.CX P w) 5 T.a_is_lot T.d_is_lot ["people", "thing"] (spM K mg 2 f_is_lot) := fn_mk T.F_is_lot sc_is_lot fun cdv A outer sh H E O =>
  sss_one (ss_ret (se_and (se_call O call_p (ok_is_crowd T B) (by decide) T.g_is_crowd T.k_is_crowd T.b_is_crowd (sa_cons (se_v 0) (sa_cons (se_v 1) sa_nil))) (se_one (se_cmp op_gtA (se_callB call_lenA T.z_len (by rfl) (sa_cons (se_v 1) sa_nil)) se_int))))


/-! ### check_crowd -/
abbrev s_check_crowd : Stmt := topS 17
abbrev N_check_crowd : List Str := ["people", "thing"]
theorem sc_check_crowd : FnScope N_check_crowd ["people", "thing"] (defScope s_check_crowd) := ⟨rfl, rfl, rfl, by decide +kernel, rfl, by decide +kernel, by decide +kernel⟩

def m_check_crowd : SM :=
  sIf (mNot (mT (mCall (callP 2 f_is_crowd) (aCons (mV 0) (aCons (mV 1) aNil))))) (sExc "NoCrowd") sNext
def f_check_crowd : FM := bodyM 0 m_check_crowd
theorem ok_check_crowd (T : Facts K mg) (B : TBs T base) : FnOk P w K mg base (L2.CX P w) 5 T.a_check_crowd T.d_check_crowd ["people", "thing"] (spM K mg 2 f_check_crowd) := fn_mk T.F_check_crowd sc_check_crowd fun cdv A outer sh H E O =>
  sss_one (ss_if (st_not (st_val (se_call O call_p (ok_is_crowd T B) (by decide) T.g_is_crowd T.k_is_crowd T.b_is_crowd (sa_cons (se_v 0) (sa_cons (se_v 1) sa_nil))))) (sss_one (ss_raise0 O T.e_NoCrowd)) sss_nil)


/-! ### check_people -/
abbrev s_check_people : Stmt := topS 18
abbrev N_check_people : List Str := ["thing", "most"]
theorem sc_check_people : FnScope N_check_people ["thing", "most"] (defScope s_check_people) := ⟨rfl, rfl, rfl, by decide +kernel, rfl, by decide +kernel, by decide +kernel⟩

def m_check_people : SM :=
  sIf (mNot (mT (mCall (callP 3 f_is_within) (aCons (mV 0) (aCons (mC (.int 1)) (aCons (mV 1) aNil)))))) (sExc "NoPeople") sNext
def f_check_people : FM := bodyM 0 m_check_people
theorem ok_check_people (T : Facts K mg) (B : TBs T base) : FnOk P w K mg base (L2.CX P w) 3 T.a_check_people T.d_check_people ["thing", "most"] (spM K mg 2 f_check_people) := fn_mk T.F_check_people sc_check_people fun cdv A outer sh H E O =>
  sss_one (ss_if (st_not (st_val (se_call O call_p (ok_is_within T B) (by decide) T.g_is_within T.k_is_within T.b_is_within (sa_cons (se_v 0) (sa_cons se_int (sa_cons (se_v 1) sa_nil)))))) (sss_one (ss_raise0 O T.e_NoPeople)) sss_nil)


/-! ### check_many -/
abbrev s_check_many : Stmt := topS 19
abbrev N_check_many : List Str := ["number", "most"]
theorem sc_check_many : FnScope N_check_many ["number", "most"] (defScope s_check_many) := ⟨rfl, rfl, rfl, by decide +kernel, rfl, by decide +kernel, by decide +kernel⟩

def m_check_many : SM :=
  sIf (mT (m2 gtA (mV 0) (mV 1))) sNever sNext
def f_check_many : FM := bodyM 0 m_check_many
theorem ok_check_many (T : Facts K mg) (B : TBs T base) : FnOk P w K mg base (L2.CX P w) 1 T.a_check_many T.d_check_many ["number", "most"] (spM K mg 2 f_check_many) := fn_mk T.F_check_many sc_check_many fun cdv A outer sh H E O =>
  sss_one (ss_if (st_cmp op_gtA (se_v 0) (se_v 1)) (sss_one ss_never) sss_nil)


/-! ### bits_of -/
abbrev s_bits_of : Stmt := topS 20
abbrev N_bits_of : List Str := ["crowd", "person"]
theorem sc_bits_of : FnScope N_bits_of ["crowd"] (defScope s_bits_of) := ⟨rfl, rfl, rfl, by decide +kernel, rfl, by decide +kernel, by decide +kernel⟩
def K_bits_of_0 : EM (List AV) :=
  mLc [1] (mItS (mV 0)) (gN 1) mYes (m2 shlA (mC (.int 1)) (mV 1))
def m_bits_of : SM :=
  sRet (mN sumA (aCons (mLs K_bits_of_0) aNil))
def f_bits_of : FM := bodyM 1 m_bits_of
theorem ok_bits_of (T : Facts K mg) (B : TBs T base) : FnOk P w K mg base (L2.CX P w) 1 T.a_bits_of T.d_bits_of ["crowd"] (spM K mg 1 f_bits_of) := fn_mk T.F_bits_of sc_bits_of fun cdv A outer sh H E O =>
  sss_one (ss_ret (se_callB (call_sumA O.calm) T.z_sum (by rfl) (sa_cons (se_ls (sf_lc (own := [("person", 1)]) (ow := [1]) O (si_seq (se_v 0)) (blkOk_by (N := N_bits_of) (sc := (defScope s_bits_of)) (own := [("person", 1)]) (by decide +kernel)) (by decide) (fun s1 H1 C1 cl1 fp1 => sg_n (i := 1) (O.blk _ s1 H1 C1 cl1 fp1).nd rfl (.inl rfl)) (fun s1 H1 C1 cl1 fp1 => sts_nil) (fun s1 H1 C1 cl1 fp1 => se_op op_shlA se_int (se_v 1)))) sa_nil)))


/-! ### crowd_of -/
abbrev s_crowd_of : Stmt := topS 21
abbrev N_crowd_of : List Str := ["bits", "person"]
theorem sc_crowd_of : FnScope N_crowd_of ["bits"] (defScope s_crowd_of) := ⟨rfl, rfl, rfl, by decide +kernel, rfl, by decide +kernel, by decide +kernel⟩
def K_crowd_of_0 : EM (List AV) :=
  mLc [1] (mRng1 (m1 bitsA (mV 0))) (gN 1) (mT (m2 eqA (m2 andA (m2 shrA (mV 0) (mV 1)) (mC (.int 1))) (mC (.int 1)))) (mV 1)
def m_crowd_of : SM :=
  sRet (mN tupleA (aCons (mLs K_crowd_of_0) aNil))
def f_crowd_of : FM := bodyM 1 m_crowd_of
theorem ok_crowd_of (T : Facts K mg) (B : TBs T base) : FnOk P w K mg base (L2.CX P w) 1 T.a_crowd_of T.d_crowd_of ["bits"] (spM K mg 1 f_crowd_of) := fn_mk T.F_crowd_of sc_crowd_of fun cdv A outer sh H E O =>
  sss_one (ss_ret (se_callTy call_tupleA T.z_tuple (by rfl) (sa_cons (se_ls (sf_lc (own := [("person", 1)]) (ow := [1]) O (si_rng1 T.z_range (se_bits (se_v 0))) (blkOk_by (N := N_crowd_of) (sc := (defScope s_crowd_of)) (own := [("person", 1)]) (by decide +kernel)) (by decide) (fun s1 H1 C1 cl1 fp1 => sg_n (i := 1) (O.blk _ s1 H1 C1 cl1 fp1).nd rfl (.inl rfl)) (fun s1 H1 C1 cl1 fp1 => sts_one (st_cmp (op_eqA (O.blk _ s1 H1 C1 cl1 fp1).u64) (se_op op_andA (se_op op_shrA (se_v 0) (se_v 1)) se_int) se_int)) (fun s1 H1 C1 cl1 fp1 => se_v 1))) sa_nil)))


/-! ### size_of -/
abbrev s_size_of : Stmt := topS 22
abbrev N_size_of : List Str := ["bits", "many"]
theorem sc_size_of : FnScope N_size_of ["bits"] (defScope s_size_of) := ⟨rfl, rfl, rfl, by decide +kernel, rfl, by decide +kernel, by decide +kernel⟩
def B_size_of_0 : SM :=
  sSeq (sSet 0 (m2 andA (mV 0) (m2 subA (mV 0) (mC (.int 1)))))
  (sAug 1 (fun i j => i + j) (mC (.int 1)))
def L_size_of_1 : SM :=
  sWhile fuel (mT (m2 gtA (mV 0) (mC (.int 0)))) B_size_of_0
def m_size_of : SM :=
  sSeq (sSet 1 (mC (.int 0)))
  (sSeq L_size_of_1
  (sRet (mV 1)))
def f_size_of : FM := bodyM 1 m_size_of
theorem ok_size_of (T : Facts K mg) (B : TBs T base) : FnOk P w K mg base (L2.CX P w) 1 T.a_size_of T.d_size_of ["bits"] (spM K mg 1 f_size_of) := fn_mk T.F_size_of sc_size_of fun cdv A outer sh H E O =>
  sss_cons (ss_set (i := 1) O.nd rfl (.inl rfl) se_int)
  (sss_cons (ss_while O (st_cmp op_gtA (se_v 0) se_int) (sss_cons (ss_set (i := 0) O.nd rfl (.inl rfl) (se_op op_andA (se_v 0) (se_op op_subA (se_v 0) se_int)))
  (sss_one (ss_aug (i := 1) O.nd rfl (.inl rfl) se_int ip_add))))
  (sss_one (ss_ret (se_v 1))))


/-! ### holds -/
abbrev s_holds : Stmt := topS 23
abbrev N_holds : List Str := ["bits", "some"]
theorem sc_holds : FnScope N_holds ["bits", "some"] (defScope s_holds) := ⟨rfl, rfl, rfl, by decide +kernel, rfl, by decide +kernel, by decide +kernel⟩

def m_holds : SM :=
  sRet (m2 eqA (m2 andA (mV 0) (mV 1)) (mV 1))
def f_holds : FM := bodyM 0 m_holds
theorem ok_holds (T : Facts K mg) (B : TBs T base) : FnOk P w K mg base (L2.CX P w) 1 T.a_holds T.d_holds ["bits", "some"] (spM K mg 2 f_holds) := fn_mk T.F_holds sc_holds fun cdv A outer sh H E O =>
  sss_one (ss_ret (se_cmp (op_eqA O.u64) (se_op op_andA (se_v 0) (se_v 1)) (se_v 1)))


/-! ### all_of -/
abbrev s_all_of : Stmt := topS 24
abbrev N_all_of : List Str := ["people"]
theorem sc_all_of : FnScope N_all_of ["people"] (defScope s_all_of) := ⟨rfl, rfl, rfl, by decide +kernel, rfl, by decide +kernel, by decide +kernel⟩

def m_all_of : SM :=
  sRet (m2 subA (m2 shlA (mC (.int 1)) (mV 0)) (mC (.int 1)))
def f_all_of : FM := bodyM 0 m_all_of
theorem ok_all_of (T : Facts K mg) (B : TBs T base) : FnOk P w K mg base (L2.CX P w) 1 T.a_all_of T.d_all_of ["people"] (spM K mg 1 f_all_of) := fn_mk T.F_all_of sc_all_of fun cdv A outer sh H E O =>
  sss_one (ss_ret (se_op op_subA (se_op op_shlA se_int (se_v 0)) se_int))


/-! ### first_wrong_lot -/
abbrev s_first_wrong_lot : Stmt := topS 28
abbrev N_first_wrong_lot : List Str := ["people", "lots", "found", "at", "lot", "bits", "other"]
theorem sc_first_wrong_lot : FnScope N_first_wrong_lot ["people", "lots"] (defScope s_first_wrong_lot) := ⟨rfl, rfl, rfl, by decide +kernel, rfl, by decide +kernel, by decide +kernel⟩
def K_first_wrong_lot_0 : EM (List AV) :=
  mLcC [6] (mV 2) (gN 6) mYes (mOrV (mCall (callP 2 f_holds) (aCons (mV 5) (aCons (mV 6) aNil))) (mCall (callP 2 f_holds) (aCons (mV 6) (aCons (mV 5) aNil))))
def B_first_wrong_lot_1 : SM :=
  sSeq (sIf (mOr (mNot (mT (mCall (callP 2 f_is_lot) (aCons (mV 0) (aCons (mV 4) aNil))))) (mAnd (mT (m2 gtA (mV 3) (mC (.int 0)))) (mNot (mT (m2 ltA (m2 ixA (mV 1) (m2 subA (mV 3) (mC (.int 1)))) (mV 4)))))) (sRet (mV 3)) sNext)
  (sSeq (sSet 5 (mCall (callP 1 f_bits_of) (aCons (mV 4) aNil)))
  (sSeq (sIf (mT (mN anyA (aCons (mLs K_first_wrong_lot_0) aNil))) (sRet (mV 3)) sNext)
  (sExpr (mLM appendA (mV 2) (aCons (mV 5) aNil)))))
def L_first_wrong_lot_2 : SM :=
  sFor (mEnum (mV 1)) (gT [gN 3, gN 4]) B_first_wrong_lot_1
def m_first_wrong_lot : SM :=
  sSeq (sSet 2 (mLstC aNil))
  (sSeq L_first_wrong_lot_2
  (sRet (mC .non)))
def f_first_wrong_lot : FM := bodyM 5 m_first_wrong_lot
theorem ok_first_wrong_lot (T : Facts K mg) (B : TBs T base) : FnOk P w K mg base (L2.CX P w) 6 T.a_first_wrong_lot T.d_first_wrong_lot ["people", "lots"] (spM K mg 2 f_first_wrong_lot) := fn_mk T.F_first_wrong_lot sc_first_wrong_lot fun cdv A outer sh H E O =>
  sss_cons (ss_set (i := 2) O.nd rfl (.inl rfl) (se_lstC sa_nil))
  (sss_cons (ss_for O (si_enum T.z_enumerate (se_v 1)) (sg_tup O (sgs_cons (sg_n (i := 3) O.nd rfl (.inl rfl)) (sgs_cons (sg_n (i := 4) O.nd rfl (.inl rfl)) sgs_nil))) (sss_cons (ss_if (sw_st (sw_or (st_not (st_val (se_call O call_p (ok_is_lot T B) (by decide) T.g_is_lot T.k_is_lot T.b_is_lot (sa_cons (se_v 0) (sa_cons (se_v 4) sa_nil))))) (sw_or1 (sw_st (sw_and (st_cmp op_gtA (se_v 3) se_int) (sw_and1 (st_not (st_cmp (op_ltA O.u0) (se_ix (se_v 1) (se_op op_subA (se_v 3) se_int)) (se_v 4))))))))) (sss_one (ss_ret (se_v 3))) sss_nil)
  (sss_cons (ss_set (i := 5) O.nd rfl (.inr rfl) (se_call O call_p (ok_bits_of T B) (by decide) T.g_bits_of T.k_bits_of T.b_bits_of (sa_cons (se_v 4) sa_nil)))
  (sss_cons (ss_if (st_val (se_callB (call_anyA O.calm) T.z_any (by rfl) (sa_cons (se_ls (sf_lcC (own := [("other", 6)]) (ow := [6]) O (sic_cell (se_v 2)) (blkOk_by (N := N_first_wrong_lot) (sc := (defScope s_first_wrong_lot)) (own := [("other", 6)]) (by decide +kernel)) (by decide) (fun s1 H1 C1 cl1 fp1 => sg_n (i := 6) (O.blk _ s1 H1 C1 cl1 fp1).nd rfl (.inl rfl)) (fun s1 H1 C1 cl1 fp1 => sts_nil) (fun s1 H1 C1 cl1 fp1 => se_or (se_call (O.blk _ s1 H1 C1 cl1 fp1) call_p (ok_holds T B) (by decide) T.g_holds T.k_holds T.b_holds (sa_cons (se_v 5) (sa_cons (se_v 6) sa_nil))) (se_one (se_call (O.blk _ s1 H1 C1 cl1 fp1) call_p (ok_holds T B) (by decide) T.g_holds T.k_holds T.b_holds (sa_cons (se_v 6) (sa_cons (se_v 5) sa_nil))))))) sa_nil))) (sss_one (ss_ret (se_v 3))) sss_nil)
  (sss_one (ss_expr (se_lm PySem.F.plainAttrs_list PySem.F.slot_list_append PySem.F.type_list_append mt_appendA (se_v 2) (sa_cons (se_v 5) sa_nil))))))))
  (sss_one (ss_ret se_non)))


/-! ### is_clear_bits -/
abbrev s_is_clear_bits : Stmt := topS 31
abbrev N_is_clear_bits : List Str := ["book", "bits", "mask"]
theorem sc_is_clear_bits : FnScope N_is_clear_bits ["book", "bits"] (defScope s_is_clear_bits) := ⟨rfl, rfl, rfl, by decide +kernel, rfl, by decide +kernel, by decide +kernel⟩
def K_is_clear_bits_0 : EM (List AV) :=
  mLc [2] (mItS (m1 (fldA ["Book", "RawBook"] "masks") (mV 0))) (gN 2) mYes (mCall (callP 2 f_holds) (aCons (mV 1) (aCons (mV 2) aNil)))
def m_is_clear_bits : SM :=
  sRet (mNotV (mN anyA (aCons (mLs K_is_clear_bits_0) aNil)))
def f_is_clear_bits : FM := bodyM 1 m_is_clear_bits
theorem ok_is_clear_bits (T : Facts K mg) (B : TBs T base) : FnOk P w K mg base (L2.CX P w) 2 T.a_is_clear_bits T.d_is_clear_bits ["book", "bits"] (spM K mg 2 f_is_clear_bits) := fn_mk T.F_is_clear_bits sc_is_clear_bits fun cdv A outer sh H E O =>
  sss_one (ss_ret (se_not (se_callB (call_anyA O.calm) T.z_any (by rfl) (sa_cons (se_ls (sf_lc (own := [("mask", 2)]) (ow := [2]) O (si_seq (se_fld T.fld_masks (se_v 0))) (blkOk_by (N := N_is_clear_bits) (sc := (defScope s_is_clear_bits)) (own := [("mask", 2)]) (by decide +kernel)) (by decide) (fun s1 H1 C1 cl1 fp1 => sg_n (i := 2) (O.blk _ s1 H1 C1 cl1 fp1).nd rfl (.inl rfl)) (fun s1 H1 C1 cl1 fp1 => sts_nil) (fun s1 H1 C1 cl1 fp1 => se_call (O.blk _ s1 H1 C1 cl1 fp1) call_p (ok_holds T B) (by decide) T.g_holds T.k_holds T.b_holds (sa_cons (se_v 1) (sa_cons (se_v 2) sa_nil))))) sa_nil))))


/-! ### minimal -/
abbrev s_minimal : Stmt := topS 32
abbrev N_minimal : List Str := ["heaps", "masks", "least", "bits", "heap", "other"]
theorem sc_minimal : FnScope N_minimal ["heaps"] (defScope s_minimal) := ⟨rfl, rfl, rfl, by decide +kernel, rfl, by decide +kernel, by decide +kernel⟩
def K_minimal_0 : EM (List (Key × AV)) :=
  mDc [4] (mItS (mV 0)) (gN 4) mYes (mCall (callP 1 f_bits_of) (aCons (mV 4) aNil)) (mC (.bl true))
def K_minimal_1 : EM (List AV) :=
  mLc [5] (mItS (mV 1)) (gN 5) mYes (mAndV (m2 neA (mV 5) (mV 3)) (mCall (callP 2 f_holds) (aCons (mV 3) (aCons (mV 5) aNil))))
def K_minimal_2 : EM (List AV) :=
  mLc [3] (mItS (mV 1)) (gN 3) (mNot (mT (mN anyA (aCons (mLs K_minimal_1) aNil)))) (mV 3)
def K_minimal_3 : EM (List AV) :=
  mLc [3] (mItS (mV 2)) (gN 3) mYes (mCall (callP 1 f_crowd_of) (aCons (mV 3) aNil))
def m_minimal : SM :=
  sSeq (sSet 1 (mLs (mNL sortA (aCons (mLs (mNL listDA (aCons (mDC K_minimal_0) aNil))) aNil))))
  (sSeq (sSet 2 (mLs K_minimal_2))
  (sRet (mN tupleA (aCons (mLs (mNL sortA (aCons (mLs K_minimal_3) aNil))) aNil))))
def f_minimal : FM := bodyM 5 m_minimal
theorem ok_minimal (T : Facts K mg) (B : TBs T base) : FnOk P w K mg base (L2.CX P w) 2 T.a_minimal T.d_minimal ["heaps"] (spM K mg 1 f_minimal) := fn_mk T.F_minimal sc_minimal fun cdv A outer sh H E O =>
  sss_cons (ss_set (i := 1) O.nd rfl (.inr rfl) (se_ls (sf_callB (call_sortA O.u64) T.z_sorted (by rfl) (sa_cons (se_ls (sf_callTy (call_listDA O.calm) T.z_list (by rfl) (sa_cons (se_dC (sd_dc (own := [("heap", 4)]) (ow := [4]) O (si_seq (se_v 0)) (blkOk_by (N := N_minimal) (sc := (defScope s_minimal)) (own := [("heap", 4)]) (by decide +kernel)) (by decide) (fun s1 H1 C1 cl1 fp1 => sg_n (i := 4) (O.blk _ s1 H1 C1 cl1 fp1).nd rfl (.inl rfl)) (fun s1 H1 C1 cl1 fp1 => sts_nil) (fun s1 H1 C1 cl1 fp1 => se_call (O.blk _ s1 H1 C1 cl1 fp1) call_p (ok_bits_of T B) (by decide) T.g_bits_of T.k_bits_of T.b_bits_of (sa_cons (se_v 4) sa_nil)) (fun s1 H1 C1 cl1 fp1 => se_bl))) sa_nil))) sa_nil))))
  (sss_cons (ss_setLs (i := 2) (own := [("bits", 3)]) (ow := [3]) O rfl rfl (sw_true rfl rfl rfl (by decide +kernel)) (si_seq (se_v 1)) (blkOk_by (N := N_minimal) (sc := (defScope s_minimal)) (own := [("bits", 3)]) (by decide +kernel)) (by decide) (fun s2 H2 C2 cl2 fp2 => sg_n (i := 3) (O.blk _ s2 H2 C2 cl2 fp2).nd rfl (.inr rfl)) (fun s2 H2 C2 cl2 fp2 => sts_one (st_not (st_val (se_callB (call_anyA (O.blk _ s2 H2 C2 cl2 fp2).calm) T.z_any (by rfl) (sa_cons (se_ls (sf_lc (own := [("other", 5)]) (ow := [5]) (O.blk _ s2 H2 C2 cl2 fp2) (si_seq (se_v 1)) (blkOk_by (N := N_minimal) (sc := scp0) (own := [("other", 5)]) (by decide +kernel)) (by decide) (fun s3 H3 C3 cl3 fp3 => sg_n (i := 5) ((O.blk _ s2 H2 C2 cl2 fp2).blk _ s3 H3 C3 cl3 fp3).nd rfl (.inl rfl)) (fun s3 H3 C3 cl3 fp3 => sts_nil) (fun s3 H3 C3 cl3 fp3 => se_and (se_cmp (op_neA ((O.blk _ s2 H2 C2 cl2 fp2).blk _ s3 H3 C3 cl3 fp3).u64) (se_v 5) (se_v 3)) (se_one (se_call ((O.blk _ s2 H2 C2 cl2 fp2).blk _ s3 H3 C3 cl3 fp3) call_p (ok_holds T B) (by decide) T.g_holds T.k_holds T.b_holds (sa_cons (se_v 3) (sa_cons (se_v 5) sa_nil))))))) sa_nil))))) (fun s2 H2 C2 cl2 fp2 => se_v 3))
  (sss_one (ss_ret (se_callTy call_tupleA T.z_tuple (by rfl) (sa_cons (se_ls (sf_callB (call_sortA O.u64) T.z_sorted (by rfl) (sa_cons (se_ls (sf_lc (own := [("bits", 3)]) (ow := [3]) O (si_seq (se_v 2)) (blkOk_by (N := N_minimal) (sc := (defScope s_minimal)) (own := [("bits", 3)]) (by decide +kernel)) (by decide) (fun s4 H4 C4 cl4 fp4 => sg_n (i := 3) (O.blk _ s4 H4 C4 cl4 fp4).nd rfl (.inl rfl)) (fun s4 H4 C4 cl4 fp4 => sts_nil) (fun s4 H4 C4 cl4 fp4 => se_call (O.blk _ s4 H4 C4 cl4 fp4) call_p (ok_crowd_of T B) (by decide) T.g_crowd_of T.k_crowd_of T.b_crowd_of (sa_cons (se_v 3) sa_nil)))) sa_nil))) sa_nil)))))


/-! ### Book_keep -/
abbrev s_Book_keep : Stmt := inClass (topS 29) 1
abbrev N_Book_keep : List Str := ["self", "people", "lots", "lot"]
theorem sc_Book_keep : FnScope N_Book_keep ["self", "people", "lots"] (defScope s_Book_keep) := ⟨rfl, rfl, rfl, by decide +kernel, rfl, by decide +kernel, by decide +kernel⟩
def K_Book_keep_0 : EM (List AV) :=
  mLc [3] (mItS (mV 2)) (gN 3) mYes (mCall (callP 1 f_bits_of) (aCons (mV 3) aNil))
def m_Book_keep : SM :=
  sSeq (sFldS ["Book", "RawBook"] "people" (mV 1) (mV 0))
  (sSeq (sFldS ["Book", "RawBook"] "lots" (mV 2) (mV 0))
  (sFldS ["Book", "RawBook"] "masks" (mLs K_Book_keep_0) (mV 0)))
def f_Book_keep : FM := bodyM 1 m_Book_keep
theorem ok_Book_keep (T : Facts K mg) (B : TBs T base) : FnOk P w K mg base (L2.CX P w) 2 T.a_Book_keep T.d_Book_keep ["self", "people", "lots"] (spM K mg 3 f_Book_keep) := fn_mk T.F_Book_keep sc_Book_keep fun cdv A outer sh H E O =>
  sss_cons (ss_fld T.fld_people (se_v 1) (se_v 0))
  (sss_cons (ss_fld T.fld_lots (se_v 2) (se_v 0))
  (sss_one (ss_fld T.fld_masks (se_ls (sf_lc (own := [("lot", 3)]) (ow := [3]) O (si_seq (se_v 2)) (blkOk_by (N := N_Book_keep) (sc := (defScope s_Book_keep)) (own := [("lot", 3)]) (by decide +kernel)) (by decide) (fun s1 H1 C1 cl1 fp1 => sg_n (i := 3) (O.blk _ s1 H1 C1 cl1 fp1).nd rfl (.inl rfl)) (fun s1 H1 C1 cl1 fp1 => sts_nil) (fun s1 H1 C1 cl1 fp1 => se_call (O.blk _ s1 H1 C1 cl1 fp1) call_p (ok_bits_of T B) (by decide) T.g_bits_of T.k_bits_of T.b_bits_of (sa_cons (se_v 3) sa_nil)))) (se_v 0))))


/-! ### RawBook___init__ -/
abbrev s_RawBook___init__ : Stmt := inClass (topS 30) 0
abbrev N_RawBook___init__ : List Str := ["self", "people", "lots"]
theorem sc_RawBook___init__ : FnScope N_RawBook___init__ ["self", "people", "lots"] (defScope s_RawBook___init__) := ⟨rfl, rfl, rfl, by decide +kernel, rfl, by decide +kernel, by decide +kernel⟩

def m_RawBook___init__ : SM :=
  sExpr (mMeth "RawBook" "keep" (callH 3 f_Book_keep) (mV 0) (aCons (mV 1) (aCons (mV 2) aNil)))
def f_RawBook___init__ : FM := bodyM 0 m_RawBook___init__
theorem ok_RawBook___init__ (T : Facts K mg) (B : TBs T base) : FnOk P w K mg base (L2.CX P w) 3 T.a_RawBook___init__ T.d_RawBook___init__ ["self", "people", "lots"] (spM K mg 3 f_RawBook___init__) := fn_mk T.F_RawBook___init__ sc_RawBook___init__ fun cdv A outer sh H E O =>
  sss_one (ss_expr (se_meth O call_h T.C_RawBook.g T.C_RawBook.cl T.mt_RawBook_keep (ok_Book_keep T B) (by decide) T.b_Book_keep (se_v 0) (sa_cons (se_v 1) (sa_cons (se_v 2) sa_nil))))


/-! ### made_of -/
abbrev s_made_of : Stmt := topS 33
abbrev N_made_of : List Str := ["people", "heaps", "lots"]
theorem sc_made_of : FnScope N_made_of ["people", "heaps"] (defScope s_made_of) := ⟨rfl, rfl, rfl, by decide +kernel, rfl, by decide +kernel, by decide +kernel⟩

def m_made_of : SM :=
  sSeq (sSet 2 (mCall (callP 1 f_minimal) (aCons (mV 1) aNil)))
  (sSeq (sExpr (mCall (callP 2 f_check_many) (aCons (mN lenA (aCons (mV 2) aNil)) (aCons (mC (.int 60)) aNil))))
  (sRet (mMake 3 "RawBook" f_RawBook___init__ (aCons (mV 0) (aCons (mV 2) aNil)))))
def f_made_of : FM := bodyM 1 m_made_of
theorem ok_made_of (T : Facts K mg) (B : TBs T base) : FnOk P w K mg base (L2.CX P w) 5 T.a_made_of T.d_made_of ["people", "heaps"] (spM K mg 2 f_made_of) := fn_mk T.F_made_of sc_made_of fun cdv A outer sh H E O =>
  sss_cons (ss_set (i := 2) O.nd rfl (.inl rfl) (se_call O call_p (ok_minimal T B) (by decide) T.g_minimal T.k_minimal T.b_minimal (sa_cons (se_v 1) sa_nil)))
  (sss_cons (ss_expr (se_call O call_p (ok_check_many T B) (by decide) T.g_check_many T.k_check_many T.b_check_many (sa_cons (se_callB call_lenA T.z_len (by rfl) (sa_cons (se_v 2) sa_nil)) (sa_cons (se_gint T.c_MOST_LOTS) sa_nil))))
  (sss_one (ss_ret (se_make O ⟨T.C_RawBook.mks, T.at_RawBook___init__, T.fn_RawBook___init__, T.C_RawBook.kp⟩ (ok_RawBook___init__ T B) (by decide) T.C_RawBook.g T.b_RawBook___init__ (sa_cons (se_v 0) (sa_cons (se_v 2) sa_nil))))))


/-! ### book_of -/
abbrev s_book_of : Stmt := topS 34
abbrev N_book_of : List Str := ["people", "heaps", "heap"]
theorem sc_book_of : FnScope N_book_of ["people", "heaps"] (defScope s_book_of) := ⟨rfl, rfl, rfl, by decide +kernel, rfl, by decide +kernel, by decide +kernel⟩
def K_book_of_0 : EM (List AV) :=
  mLc [2] (mItS (mV 1)) (gN 2) mYes (mCall (callP 2 f_is_lot) (aCons (mV 0) (aCons (mV 2) aNil)))
def m_book_of : SM :=
  sSeq (sExpr (mCall (callP 2 f_check_people) (aCons (mV 0) (aCons (mC (.int 12)) aNil))))
  (sSeq (sIf (mOr (mNot (mT (mCall (callP 1 f_is_listed) (aCons (mV 1) aNil)))) (mOr (mT (m2 gtA (mN lenA (aCons (mV 1) aNil)) (mC (.int 200)))) (mNot (mT (mN allA (aCons (mLs K_book_of_0) aNil)))))) (sExc "NoHeaps") sNext)
  (sRet (mCall (callP 2 f_made_of) (aCons (mV 0) (aCons (mV 1) aNil)))))
def f_book_of : FM := bodyM 1 m_book_of
theorem ok_book_of (T : Facts K mg) (B : TBs T base) : FnOk P w K mg base (L2.CX P w) 6 T.a_book_of T.d_book_of ["people", "heaps"] (spM K mg 2 f_book_of) := fn_mk T.F_book_of sc_book_of fun cdv A outer sh H E O =>
  sss_cons (ss_expr (se_call O call_p (ok_check_people T B) (by decide) T.g_check_people T.k_check_people T.b_check_people (sa_cons (se_v 0) (sa_cons (se_gint T.c_MOST_PEOPLE) sa_nil))))
  (sss_cons (ss_if (sw_st (sw_or (st_not (st_val (se_call O call_p (ok_is_listed T B) (by decide) T.g_is_listed T.k_is_listed T.b_is_listed (sa_cons (se_v 1) sa_nil)))) (sw_or (st_cmp op_gtA (se_callB call_lenA T.z_len (by rfl) (sa_cons (se_v 1) sa_nil)) (se_gint T.c_MOST_HEAPS)) (sw_or1 (st_not (st_val (se_callB (call_allA O.calm) T.z_all (by rfl) (sa_cons (se_ls (sf_lc (own := [("heap", 2)]) (ow := [2]) O (si_seq (se_v 1)) (blkOk_by (N := N_book_of) (sc := (defScope s_book_of)) (own := [("heap", 2)]) (by decide +kernel)) (by decide) (fun s1 H1 C1 cl1 fp1 => sg_n (i := 2) (O.blk _ s1 H1 C1 cl1 fp1).nd rfl (.inl rfl)) (fun s1 H1 C1 cl1 fp1 => sts_nil) (fun s1 H1 C1 cl1 fp1 => se_call (O.blk _ s1 H1 C1 cl1 fp1) call_p (ok_is_lot T B) (by decide) T.g_is_lot T.k_is_lot T.b_is_lot (sa_cons (se_v 0) (sa_cons (se_v 2) sa_nil))))) sa_nil)))))))) (sss_one (ss_raise0 O T.e_NoHeaps)) sss_nil)
  (sss_one (ss_ret (se_call O call_p (ok_made_of T B) (by decide) T.g_made_of T.k_made_of T.b_made_of (sa_cons (se_v 0) (sa_cons (se_v 1) sa_nil))))))


/-! ### check_same_gaps -/
abbrev s_check_same_gaps : Stmt := topS 37
abbrev N_check_same_gaps : List Str := ["one", "other"]
theorem sc_check_same_gaps : FnScope N_check_same_gaps ["one", "other"] (defScope s_check_same_gaps) := ⟨rfl, rfl, rfl, by decide +kernel, rfl, by decide +kernel, by decide +kernel⟩

def m_check_same_gaps : SM :=
  sIf (mT (m2 neA (m1 (fldA ["Book", "RawBook"] "people") (mV 0)) (m1 (fldA ["Book", "RawBook"] "people") (mV 1)))) (sExc "OtherPeople") sNext
def f_check_same_gaps : FM := bodyM 0 m_check_same_gaps
theorem ok_check_same_gaps (T : Facts K mg) (B : TBs T base) : FnOk P w K mg base (L2.CX P w) 1 T.a_check_same_gaps T.d_check_same_gaps ["one", "other"] (spM K mg 2 f_check_same_gaps) := fn_mk T.F_check_same_gaps sc_check_same_gaps fun cdv A outer sh H E O =>
  sss_one (ss_if (st_cmp (op_neA O.u64) (se_fld T.fld_people (se_v 0)) (se_fld T.fld_people (se_v 1))) (sss_one (ss_raise0 O T.e_OtherPeople)) sss_nil)


/-! ### unlike_bits -/
abbrev s_unlike_bits : Stmt := topS 39
abbrev N_unlike_bits : List Str := ["one", "other", "some", "bits"]
theorem sc_unlike_bits : FnScope N_unlike_bits ["one", "other"] (defScope s_unlike_bits) := ⟨rfl, rfl, rfl, by decide +kernel, rfl, by decide +kernel, by decide +kernel⟩
def K_unlike_bits_0 : EM (List AV) :=
  mLc [3] (mItS (mV 2)) (gN 3) (mT (m2 neA (mCall (callP 2 f_is_clear_bits) (aCons (mV 0) (aCons (mV 3) aNil))) (mCall (callP 2 f_is_clear_bits) (aCons (mV 1) (aCons (mV 3) aNil))))) (mV 3)
def m_unlike_bits : SM :=
  sSeq (sSet 2 (mLs (mListRg1 (m2 addA (mCall (callP 1 f_all_of) (aCons (m1 (fldA ["Book", "RawBook"] "people") (mV 0)) aNil)) (mC (.int 1))))))
  (sRet (mLs K_unlike_bits_0))
def f_unlike_bits : FM := bodyM 2 m_unlike_bits
theorem ok_unlike_bits (T : Facts K mg) (B : TBs T base) : FnOk P w K mg base (L2.CX P w) 3 T.a_unlike_bits T.d_unlike_bits ["one", "other"] (spM K mg 2 f_unlike_bits) := fn_mk T.F_unlike_bits sc_unlike_bits fun cdv A outer sh H E O =>
  sss_cons (ss_set (i := 2) O.nd rfl (.inl rfl) (se_ls (sf_listRg1 O T.z_list T.z_range (se_op op_addA (se_call O call_p (ok_all_of T B) (by decide) T.g_all_of T.k_all_of T.b_all_of (sa_cons (se_fld T.fld_people (se_v 0)) sa_nil)) se_int))))
  (sss_one (ss_ret (se_ls (sf_lc (own := [("bits", 3)]) (ow := [3]) O (si_seq (se_v 2)) (blkOk_by (N := N_unlike_bits) (sc := (defScope s_unlike_bits)) (own := [("bits", 3)]) (by decide +kernel)) (by decide) (fun s1 H1 C1 cl1 fp1 => sg_n (i := 3) (O.blk _ s1 H1 C1 cl1 fp1).nd rfl (.inl rfl)) (fun s1 H1 C1 cl1 fp1 => sts_one (st_cmp (op_neA (O.blk _ s1 H1 C1 cl1 fp1).u64) (se_call (O.blk _ s1 H1 C1 cl1 fp1) call_p (ok_is_clear_bits T B) (by decide) T.g_is_clear_bits T.k_is_clear_bits T.b_is_clear_bits (sa_cons (se_v 0) (sa_cons (se_v 3) sa_nil))) (se_call (O.blk _ s1 H1 C1 cl1 fp1) call_p (ok_is_clear_bits T B) (by decide) T.g_is_clear_bits T.k_is_clear_bits T.b_is_clear_bits (sa_cons (se_v 1) (sa_cons (se_v 3) sa_nil))))) (fun s1 H1 C1 cl1 fp1 => se_v 3)))))


/-! ### unlike_crowds -/
abbrev s_unlike_crowds : Stmt := topS 40
abbrev N_unlike_crowds : List Str := ["one", "other", "bits"]
theorem sc_unlike_crowds : FnScope N_unlike_crowds ["one", "other"] (defScope s_unlike_crowds) := ⟨rfl, rfl, rfl, by decide +kernel, rfl, by decide +kernel, by decide +kernel⟩
def K_unlike_crowds_0 : EM (List AV) :=
  mLc [2] (mItS (mCall (callP 2 f_unlike_bits) (aCons (mV 0) (aCons (mV 1) aNil)))) (gN 2) mYes (mCall (callP 1 f_crowd_of) (aCons (mV 2) aNil))
def m_unlike_crowds : SM :=
  sSeq (sExpr (mCall (callP 2 f_check_same_gaps) (aCons (mV 0) (aCons (mV 1) aNil))))
  (sRet (mLs (mNL sortA (aCons (mLs K_unlike_crowds_0) aNil))))
def f_unlike_crowds : FM := bodyM 1 m_unlike_crowds
theorem ok_unlike_crowds (T : Facts K mg) (B : TBs T base) : FnOk P w K mg base (L2.CX P w) 4 T.a_unlike_crowds T.d_unlike_crowds ["one", "other"] (spM K mg 2 f_unlike_crowds) := fn_mk T.F_unlike_crowds sc_unlike_crowds fun cdv A outer sh H E O =>
  sss_cons (ss_expr (se_call O call_p (ok_check_same_gaps T B) (by decide) T.g_check_same_gaps T.k_check_same_gaps T.b_check_same_gaps (sa_cons (se_v 0) (sa_cons (se_v 1) sa_nil))))
  (sss_one (ss_ret (se_ls (sf_callB (call_sortA O.u64) T.z_sorted (by rfl) (sa_cons (se_ls (sf_lc (own := [("bits", 2)]) (ow := [2]) O (si_seq (se_call O call_p (ok_unlike_bits T B) (by decide) T.g_unlike_bits T.k_unlike_bits T.b_unlike_bits (sa_cons (se_v 0) (sa_cons (se_v 1) sa_nil)))) (blkOk_by (N := N_unlike_crowds) (sc := (defScope s_unlike_crowds)) (own := [("bits", 2)]) (by decide +kernel)) (by decide) (fun s1 H1 C1 cl1 fp1 => sg_n (i := 2) (O.blk _ s1 H1 C1 cl1 fp1).nd rfl (.inl rfl)) (fun s1 H1 C1 cl1 fp1 => sts_nil) (fun s1 H1 C1 cl1 fp1 => se_call (O.blk _ s1 H1 C1 cl1 fp1) call_p (ok_crowd_of T B) (by decide) T.g_crowd_of T.k_crowd_of T.b_crowd_of (sa_cons (se_v 2) sa_nil)))) sa_nil)))))


/-! ### gap -/
abbrev s_gap : Stmt := topS 41
abbrev N_gap : List Str := ["one", "other"]
theorem sc_gap : FnScope N_gap ["one", "other"] (defScope s_gap) := ⟨rfl, rfl, rfl, by decide +kernel, rfl, by decide +kernel, by decide +kernel⟩

def m_gap : SM :=
  sSeq (sExpr (mCall (callP 2 f_check_same_gaps) (aCons (mV 0) (aCons (mV 1) aNil))))
  (sRet (mN lenA (aCons (mCall (callP 2 f_unlike_bits) (aCons (mV 0) (aCons (mV 1) aNil))) aNil)))
def f_gap : FM := bodyM 0 m_gap
theorem ok_gap (T : Facts K mg) (B : TBs T base) : FnOk P w K mg base (L2.CX P w) 4 T.a_gap T.d_gap ["one", "other"] (spM K mg 2 f_gap) := fn_mk T.F_gap sc_gap fun cdv A outer sh H E O =>
  sss_cons (ss_expr (se_call O call_p (ok_check_same_gaps T B) (by decide) T.g_check_same_gaps T.k_check_same_gaps T.b_check_same_gaps (sa_cons (se_v 0) (sa_cons (se_v 1) sa_nil))))
  (sss_one (ss_ret (se_callB call_lenA T.z_len (by rfl) (sa_cons (se_call O call_p (ok_unlike_bits T B) (by decide) T.g_unlike_bits T.k_unlike_bits T.b_unlike_bits (sa_cons (se_v 0) (sa_cons (se_v 1) sa_nil))) sa_nil))))


/-! ### is_finer -/
abbrev s_is_finer : Stmt := topS 42
abbrev N_is_finer : List Str := ["one", "other", "mask"]
theorem sc_is_finer : FnScope N_is_finer ["one", "other"] (defScope s_is_finer) := ⟨rfl, rfl, rfl, by decide +kernel, rfl, by decide +kernel, by decide +kernel⟩
def K_is_finer_0 : EM (List AV) :=
  mLc [2] (mItS (m1 (fldA ["Book", "RawBook"] "masks") (mV 1))) (gN 2) mYes (mCall (callP 2 f_is_clear_bits) (aCons (mV 0) (aCons (mV 2) aNil)))
def m_is_finer : SM :=
  sSeq (sExpr (mCall (callP 2 f_check_same_gaps) (aCons (mV 0) (aCons (mV 1) aNil))))
  (sRet (mNotV (mN anyA (aCons (mLs K_is_finer_0) aNil))))
def f_is_finer : FM := bodyM 1 m_is_finer
theorem ok_is_finer (T : Facts K mg) (B : TBs T base) : FnOk P w K mg base (L2.CX P w) 3 T.a_is_finer T.d_is_finer ["one", "other"] (spM K mg 2 f_is_finer) := fn_mk T.F_is_finer sc_is_finer fun cdv A outer sh H E O =>
  sss_cons (ss_expr (se_call O call_p (ok_check_same_gaps T B) (by decide) T.g_check_same_gaps T.k_check_same_gaps T.b_check_same_gaps (sa_cons (se_v 0) (sa_cons (se_v 1) sa_nil))))
  (sss_one (ss_ret (se_not (se_callB (call_anyA O.calm) T.z_any (by rfl) (sa_cons (se_ls (sf_lc (own := [("mask", 2)]) (ow := [2]) O (si_seq (se_fld T.fld_masks (se_v 1))) (blkOk_by (N := N_is_finer) (sc := (defScope s_is_finer)) (own := [("mask", 2)]) (by decide +kernel)) (by decide) (fun s1 H1 C1 cl1 fp1 => sg_n (i := 2) (O.blk _ s1 H1 C1 cl1 fp1).nd rfl (.inl rfl)) (fun s1 H1 C1 cl1 fp1 => sts_nil) (fun s1 H1 C1 cl1 fp1 => se_call (O.blk _ s1 H1 C1 cl1 fp1) call_p (ok_is_clear_bits T B) (by decide) T.g_is_clear_bits T.k_is_clear_bits T.b_is_clear_bits (sa_cons (se_v 0) (sa_cons (se_v 2) sa_nil))))) sa_nil)))))


/-! ### lots_of -/
abbrev s_lots_of : Stmt := topS 43
abbrev N_lots_of : List Str := ["people", "bits"]
theorem sc_lots_of : FnScope N_lots_of ["people"] (defScope s_lots_of) := ⟨rfl, rfl, rfl, by decide +kernel, rfl, by decide +kernel, by decide +kernel⟩
def K_lots_of_0 : EM (List AV) :=
  mLc [1] (mRng1 (m2 addA (mCall (callP 1 f_all_of) (aCons (mV 0) aNil)) (mC (.int 1)))) (gN 1) (mT (m2 gtA (mCall (callP 1 f_size_of) (aCons (mV 1) aNil)) (mC (.int 1)))) (mV 1)
def m_lots_of : SM :=
  sRet (mLs K_lots_of_0)
def f_lots_of : FM := bodyM 1 m_lots_of
theorem ok_lots_of (T : Facts K mg) (B : TBs T base) : FnOk P w K mg base (L2.CX P w) 2 T.a_lots_of T.d_lots_of ["people"] (spM K mg 1 f_lots_of) := fn_mk T.F_lots_of sc_lots_of fun cdv A outer sh H E O =>
  sss_one (ss_ret (se_ls (sf_lc (own := [("bits", 1)]) (ow := [1]) O (si_rng1 T.z_range (se_op op_addA (se_call O call_p (ok_all_of T B) (by decide) T.g_all_of T.k_all_of T.b_all_of (sa_cons (se_v 0) sa_nil)) se_int)) (blkOk_by (N := N_lots_of) (sc := (defScope s_lots_of)) (own := [("bits", 1)]) (by decide +kernel)) (by decide) (fun s1 H1 C1 cl1 fp1 => sg_n (i := 1) (O.blk _ s1 H1 C1 cl1 fp1).nd rfl (.inl rfl)) (fun s1 H1 C1 cl1 fp1 => sts_one (st_cmp op_gtA (se_call (O.blk _ s1 H1 C1 cl1 fp1) call_p (ok_size_of T B) (by decide) T.g_size_of T.k_size_of T.b_size_of (sa_cons (se_v 1) sa_nil)) se_int)) (fun s1 H1 C1 cl1 fp1 => se_v 1))))


/-! ### goes_beside -/
abbrev s_goes_beside : Stmt := topS 44
abbrev N_goes_beside : List Str := ["bits", "mask"]
theorem sc_goes_beside : FnScope N_goes_beside ["bits", "mask"] (defScope s_goes_beside) := ⟨rfl, rfl, rfl, by decide +kernel, rfl, by decide +kernel, by decide +kernel⟩

def m_goes_beside : SM :=
  sRet (mAndV (mNotV (mCall (callP 2 f_holds) (aCons (mV 0) (aCons (mV 1) aNil)))) (mNotV (mCall (callP 2 f_holds) (aCons (mV 1) (aCons (mV 0) aNil)))))
def f_goes_beside : FM := bodyM 0 m_goes_beside
theorem ok_goes_beside (T : Facts K mg) (B : TBs T base) : FnOk P w K mg base (L2.CX P w) 2 T.a_goes_beside T.d_goes_beside ["bits", "mask"] (spM K mg 2 f_goes_beside) := fn_mk T.F_goes_beside sc_goes_beside fun cdv A outer sh H E O =>
  sss_one (ss_ret (se_and (se_not (se_call O call_p (ok_holds T B) (by decide) T.g_holds T.k_holds T.b_holds (sa_cons (se_v 0) (sa_cons (se_v 1) sa_nil)))) (se_one (se_not (se_call O call_p (ok_holds T B) (by decide) T.g_holds T.k_holds T.b_holds (sa_cons (se_v 1) (sa_cons (se_v 0) sa_nil)))))))


/-! ### count_from -/
abbrev s_count_from : Stmt := topS 45
abbrev N_count_from : List Str := ["some", "first", "rest", "beside", "mask"]
theorem sc_count_from : FnScope N_count_from ["some"] (defScope s_count_from) := ⟨rfl, rfl, rfl, by decide +kernel, rfl, by decide +kernel, by decide +kernel⟩
def K_count_from_0 (rec : FM) : EM (List AV) :=
  mLc [4] (mItS (mV 2)) (gN 4) (mT (mCall (callP 2 f_goes_beside) (aCons (mV 1) (aCons (mV 4) aNil)))) (mV 4)
def m_count_from (rec : FM) : SM :=
  sSeq (sIf (mT (m2 eqA (mN lenA (aCons (mV 0) aNil)) (mC (.int 0)))) (sRet (mC (.int 1))) sNext)
  (sSeq (sAsg (mTup (aCons (m2 ixA (mV 0) (mC (.int 0))) (aCons (mSl (mV 0) (oYes (mC (.int 1))) oNo) aNil))) (gT [gN 1, gN 2]))
  (sSeq (sSet 3 (mLs (K_count_from_0 rec)))
  (sSeq (sIf (mT (m2 eqA (mN lenA (aCons (mV 3) aNil)) (mN lenA (aCons (mV 2) aNil)))) (sRet (m2 mulA (mC (.int 2)) (mCall (callP 1 rec) (aCons (mV 2) aNil)))) sNext)
  (sRet (m2 addA (mCall (callP 1 rec) (aCons (mV 2) aNil)) (mCall (callP 1 rec) (aCons (mV 3) aNil)))))))
def f_count_from : Nat → FM
  | 0 => fun _ _ => .bad
  | n + 1 => bodyM 4 (m_count_from (f_count_from n))
theorem ok_count_from (T : Facts K mg) (B : TBs T base) : ∀ n : Nat, FnOk P w K mg base (L2.CX P w) (3 + n) T.a_count_from T.d_count_from ["some"] (spM K mg 1 (f_count_from n))
  | 0 => fn_bad rfl
  | n + 1 => fn_mk T.F_count_from sc_count_from fun cdv A outer sh H E O =>
    sss_cons (ss_if (st_cmp (op_eqA O.u64) (se_callB call_lenA T.z_len (by rfl) (sa_cons (se_v 0) sa_nil)) se_int) (sss_one (ss_ret se_int)) sss_nil)
      (sss_cons (ss_asg (se_tup (sa_cons (se_ix (se_v 0) se_int) (sa_cons (se_sl (se_v 0) (so_yes se_int) so_no) sa_nil))) (sg_tup O (sgs_cons (sg_n (i := 1) O.nd rfl (.inr rfl)) (sgs_cons (sg_n (i := 2) O.nd rfl (.inl rfl)) sgs_nil))))
      (sss_cons (ss_setLs (i := 3) (own := [("mask", 4)]) (ow := [4]) O rfl rfl (sw_true rfl rfl rfl (by decide +kernel)) (si_seq (se_v 2)) (blkOk_by (N := N_count_from) (sc := (defScope s_count_from)) (own := [("mask", 4)]) (by decide +kernel)) (by decide) (fun s1 H1 C1 cl1 fp1 => sg_n (i := 4) (O.blk _ s1 H1 C1 cl1 fp1).nd rfl (.inl rfl)) (fun s1 H1 C1 cl1 fp1 => sts_one (st_val (se_call (O.blk _ s1 H1 C1 cl1 fp1) call_p (ok_goes_beside T B) (lvl_le (by decide)) T.g_goes_beside T.k_goes_beside T.b_goes_beside (sa_cons (se_v 1) (sa_cons (se_v 4) sa_nil))))) (fun s1 H1 C1 cl1 fp1 => se_v 4))
      (sss_cons (ss_if (st_cmp (op_eqA O.u64) (se_callB call_lenA T.z_len (by rfl) (sa_cons (se_v 3) sa_nil)) (se_callB call_lenA T.z_len (by rfl) (sa_cons (se_v 2) sa_nil))) (sss_one (ss_ret (se_op op_mulA se_int (se_call O call_p (ok_count_from T B n) (Nat.le_refl _) T.g_count_from T.k_count_from T.b_count_from (sa_cons (se_v 2) sa_nil))))) sss_nil)
      (sss_one (ss_ret (se_op op_addA (se_call O call_p (ok_count_from T B n) (Nat.le_refl _) T.g_count_from T.k_count_from T.b_count_from (sa_cons (se_v 2) sa_nil)) (se_call O call_p (ok_count_from T B n) (Nat.le_refl _) T.g_count_from T.k_count_from T.b_count_from (sa_cons (se_v 3) sa_nil))))))))


/-! ### books_in_all -/
abbrev s_books_in_all : Stmt := topS 46
abbrev N_books_in_all : List Str := ["people"]
theorem sc_books_in_all : FnScope N_books_in_all ["people"] (defScope s_books_in_all) := ⟨rfl, rfl, rfl, by decide +kernel, rfl, by decide +kernel, by decide +kernel⟩

def m_books_in_all : SM :=
  sSeq (sExpr (mCall (callP 2 f_check_people) (aCons (mV 0) (aCons (mC (.int 5)) aNil))))
  (sRet (mCall (callP 1 (f_count_from 12)) (aCons (mCall (callP 1 f_lots_of) (aCons (mV 0) aNil)) aNil)))
def f_books_in_all : FM := bodyM 0 m_books_in_all
theorem ok_books_in_all (T : Facts K mg) (B : TBs T base) : FnOk P w K mg base (L2.CX P w) 16 T.a_books_in_all T.d_books_in_all ["people"] (spM K mg 1 f_books_in_all) := fn_mk T.F_books_in_all sc_books_in_all fun cdv A outer sh H E O =>
  sss_cons (ss_expr (se_call O call_p (ok_check_people T B) (by decide) T.g_check_people T.k_check_people T.b_check_people (sa_cons (se_v 0) (sa_cons (se_gint T.c_MOST_COUNTED) sa_nil))))
  (sss_one (ss_ret (se_call O call_p (ok_count_from T B 12) (by decide) T.g_count_from T.k_count_from T.b_count_from (sa_cons (se_call O call_p (ok_lots_of T B) (by decide) T.g_lots_of T.k_lots_of T.b_lots_of (sa_cons (se_v 0) sa_nil)) sa_nil))))


/-! ### least_of -/
abbrev s_least_of : Stmt := topS 48
abbrev N_least_of : List Str := ["masks", "some", "bits", "mask", "other"]
theorem sc_least_of : FnScope N_least_of ["masks"] (defScope s_least_of) := ⟨rfl, rfl, rfl, by decide +kernel, rfl, by decide +kernel, by decide +kernel⟩
def K_least_of_0 : EM (List (Key × AV)) :=
  mDc [3] (mItS (mV 0)) (gN 3) mYes (mV 3) (mC (.bl true))
def K_least_of_1 : EM (List AV) :=
  mLc [4] (mItS (mV 1)) (gN 4) mYes (mAndV (m2 neA (mV 4) (mV 2)) (mCall (callP 2 f_holds) (aCons (mV 2) (aCons (mV 4) aNil))))
def K_least_of_2 : EM (List AV) :=
  mLc [2] (mItS (mV 1)) (gN 2) (mNot (mT (mN anyA (aCons (mLs K_least_of_1) aNil)))) (mV 2)
def m_least_of : SM :=
  sSeq (sSet 1 (mLs (mNL sortA (aCons (mLs (mNL listDA (aCons (mDC K_least_of_0) aNil))) aNil))))
  (sRet (mLs K_least_of_2))
def f_least_of : FM := bodyM 4 m_least_of
theorem ok_least_of (T : Facts K mg) (B : TBs T base) : FnOk P w K mg base (L2.CX P w) 2 T.a_least_of T.d_least_of ["masks"] (spM K mg 1 f_least_of) := fn_mk T.F_least_of sc_least_of fun cdv A outer sh H E O =>
  sss_cons (ss_set (i := 1) O.nd rfl (.inr rfl) (se_ls (sf_callB (call_sortA O.u64) T.z_sorted (by rfl) (sa_cons (se_ls (sf_callTy (call_listDA O.calm) T.z_list (by rfl) (sa_cons (se_dC (sd_dc (own := [("mask", 3)]) (ow := [3]) O (si_seq (se_v 0)) (blkOk_by (N := N_least_of) (sc := (defScope s_least_of)) (own := [("mask", 3)]) (by decide +kernel)) (by decide) (fun s1 H1 C1 cl1 fp1 => sg_n (i := 3) (O.blk _ s1 H1 C1 cl1 fp1).nd rfl (.inl rfl)) (fun s1 H1 C1 cl1 fp1 => sts_nil) (fun s1 H1 C1 cl1 fp1 => se_v 3) (fun s1 H1 C1 cl1 fp1 => se_bl))) sa_nil))) sa_nil))))
  (sss_one (ss_ret (se_ls (sf_lc (own := [("bits", 2)]) (ow := [2]) O (si_seq (se_v 1)) (blkOk_by (N := N_least_of) (sc := (defScope s_least_of)) (own := [("bits", 2)]) (by decide +kernel)) (by decide) (fun s2 H2 C2 cl2 fp2 => sg_n (i := 2) (O.blk _ s2 H2 C2 cl2 fp2).nd rfl (.inr rfl)) (fun s2 H2 C2 cl2 fp2 => sts_one (st_not (st_val (se_callB (call_anyA (O.blk _ s2 H2 C2 cl2 fp2).calm) T.z_any (by rfl) (sa_cons (se_ls (sf_lc (own := [("other", 4)]) (ow := [4]) (O.blk _ s2 H2 C2 cl2 fp2) (si_seq (se_v 1)) (blkOk_by (N := N_least_of) (sc := scp1) (own := [("other", 4)]) (by decide +kernel)) (by decide) (fun s3 H3 C3 cl3 fp3 => sg_n (i := 4) ((O.blk _ s2 H2 C2 cl2 fp2).blk _ s3 H3 C3 cl3 fp3).nd rfl (.inl rfl)) (fun s3 H3 C3 cl3 fp3 => sts_nil) (fun s3 H3 C3 cl3 fp3 => se_and (se_cmp (op_neA ((O.blk _ s2 H2 C2 cl2 fp2).blk _ s3 H3 C3 cl3 fp3).u64) (se_v 4) (se_v 2)) (se_one (se_call ((O.blk _ s2 H2 C2 cl2 fp2).blk _ s3 H3 C3 cl3 fp3) call_p (ok_holds T B) (by decide) T.g_holds T.k_holds T.b_holds (sa_cons (se_v 2) (sa_cons (se_v 4) sa_nil))))))) sa_nil))))) (fun s2 H2 C2 cl2 fp2 => se_v 2)))))


/-! ### book_with -/
abbrev s_book_with : Stmt := topS 50
abbrev N_book_with : List Str := ["people", "masks", "mask"]
theorem sc_book_with : FnScope N_book_with ["people", "masks"] (defScope s_book_with) := ⟨rfl, rfl, rfl, by decide +kernel, rfl, by decide +kernel, by decide +kernel⟩
def K_book_with_0 : EM (List AV) :=
  mLc [2] (mItS (mV 1)) (gN 2) mYes (mCall (callP 1 f_crowd_of) (aCons (mV 2) aNil))
def m_book_with : SM :=
  sRet (mMake 3 "RawBook" f_RawBook___init__ (aCons (mV 0) (aCons (mN tupleA (aCons (mLs (mNL sortA (aCons (mLs K_book_with_0) aNil))) aNil)) aNil)))
def f_book_with : FM := bodyM 1 m_book_with
theorem ok_book_with (T : Facts K mg) (B : TBs T base) : FnOk P w K mg base (L2.CX P w) 5 T.a_book_with T.d_book_with ["people", "masks"] (spM K mg 2 f_book_with) := fn_mk T.F_book_with sc_book_with fun cdv A outer sh H E O =>
  sss_one (ss_ret (se_make O ⟨T.C_RawBook.mks, T.at_RawBook___init__, T.fn_RawBook___init__, T.C_RawBook.kp⟩ (ok_RawBook___init__ T B) (by decide) T.C_RawBook.g T.b_RawBook___init__ (sa_cons (se_v 0) (sa_cons (se_callTy call_tupleA T.z_tuple (by rfl) (sa_cons (se_ls (sf_callB (call_sortA O.u64) T.z_sorted (by rfl) (sa_cons (se_ls (sf_lc (own := [("mask", 2)]) (ow := [2]) O (si_seq (se_v 1)) (blkOk_by (N := N_book_with) (sc := (defScope s_book_with)) (own := [("mask", 2)]) (by decide +kernel)) (by decide) (fun s1 H1 C1 cl1 fp1 => sg_n (i := 2) (O.blk _ s1 H1 C1 cl1 fp1).nd rfl (.inl rfl)) (fun s1 H1 C1 cl1 fp1 => sts_nil) (fun s1 H1 C1 cl1 fp1 => se_call (O.blk _ s1 H1 C1 cl1 fp1) call_p (ok_crowd_of T B) (by decide) T.g_crowd_of T.k_crowd_of T.b_crowd_of (sa_cons (se_v 2) sa_nil)))) sa_nil))) sa_nil)) sa_nil))))


/-! ### left_out -/
abbrev s_left_out : Stmt := topS 51
abbrev N_left_out : List Str := ["book", "crowd", "bits", "mask"]
theorem sc_left_out : FnScope N_left_out ["book", "crowd"] (defScope s_left_out) := ⟨rfl, rfl, rfl, by decide +kernel, rfl, by decide +kernel, by decide +kernel⟩
def K_left_out_0 : EM (List AV) :=
  mLc [3] (mItS (m1 (fldA ["Book", "RawBook"] "masks") (mV 0))) (gN 3) (mT (m2 eqA (m2 andA (mV 3) (mV 2)) (mC (.int 0)))) (mV 3)
def m_left_out : SM :=
  sSeq (sExpr (mCall (callP 2 f_check_crowd) (aCons (m1 (fldA ["Book", "RawBook"] "people") (mV 0)) (aCons (mV 1) aNil))))
  (sSeq (sSet 2 (mCall (callP 1 f_bits_of) (aCons (mV 1) aNil)))
  (sRet (mCall (callP 2 f_book_with) (aCons (m1 (fldA ["Book", "RawBook"] "people") (mV 0)) (aCons (mLs K_left_out_0) aNil)))))
def f_left_out : FM := bodyM 2 m_left_out
theorem ok_left_out (T : Facts K mg) (B : TBs T base) : FnOk P w K mg base (L2.CX P w) 6 T.a_left_out T.d_left_out ["book", "crowd"] (spM K mg 2 f_left_out) := fn_mk T.F_left_out sc_left_out fun cdv A outer sh H E O =>
  sss_cons (ss_expr (se_call O call_p (ok_check_crowd T B) (by decide) T.g_check_crowd T.k_check_crowd T.b_check_crowd (sa_cons (se_fld T.fld_people (se_v 0)) (sa_cons (se_v 1) sa_nil))))
  (sss_cons (ss_set (i := 2) O.nd rfl (.inr rfl) (se_call O call_p (ok_bits_of T B) (by decide) T.g_bits_of T.k_bits_of T.b_bits_of (sa_cons (se_v 1) sa_nil)))
  (sss_one (ss_ret (se_call O call_p (ok_book_with T B) (by decide) T.g_book_with T.k_book_with T.b_book_with (sa_cons (se_fld T.fld_people (se_v 0)) (sa_cons (se_ls (sf_lc (own := [("mask", 3)]) (ow := [3]) O (si_seq (se_fld T.fld_masks (se_v 0))) (blkOk_by (N := N_left_out) (sc := (defScope s_left_out)) (own := [("mask", 3)]) (by decide +kernel)) (by decide) (fun s1 H1 C1 cl1 fp1 => sg_n (i := 3) (O.blk _ s1 H1 C1 cl1 fp1).nd rfl (.inl rfl)) (fun s1 H1 C1 cl1 fp1 => sts_one (st_cmp (op_eqA (O.blk _ s1 H1 C1 cl1 fp1).u64) (se_op op_andA (se_v 3) (se_v 2)) se_int)) (fun s1 H1 C1 cl1 fp1 => se_v 3))) sa_nil))))))


/-! ### check_same_twobooks -/
abbrev s_check_same_twobooks : Stmt := topS 53
abbrev N_check_same_twobooks : List Str := ["one", "other"]
theorem sc_check_same_twobooks : FnScope N_check_same_twobooks ["one", "other"] (defScope s_check_same_twobooks) := ⟨rfl, rfl, rfl, by decide +kernel, rfl, by decide +kernel, by decide +kernel⟩

def m_check_same_twobooks : SM :=
  sIf (mT (m2 neA (m1 (fldA ["Book", "RawBook"] "people") (mV 0)) (m1 (fldA ["Book", "RawBook"] "people") (mV 1)))) (sExc "OtherPeople") sNext
def f_check_same_twobooks : FM := bodyM 0 m_check_same_twobooks
theorem ok_check_same_twobooks (T : Facts K mg) (B : TBs T base) : FnOk P w K mg base (L2.CX P w) 1 T.a_check_same_twobooks T.d_check_same_twobooks ["one", "other"] (spM K mg 2 f_check_same_twobooks) := fn_mk T.F_check_same_twobooks sc_check_same_twobooks fun cdv A outer sh H E O =>
  sss_one (ss_if (st_cmp (op_neA O.u64) (se_fld T.fld_people (se_v 0)) (se_fld T.fld_people (se_v 1))) (sss_one (ss_raise0 O T.e_OtherPeople)) sss_nil)


/-! ### both -/
abbrev s_both : Stmt := topS 55
abbrev N_both : List Str := ["one", "other"]
theorem sc_both : FnScope N_both ["one", "other"] (defScope s_both) := ⟨rfl, rfl, rfl, by decide +kernel, rfl, by decide +kernel, by decide +kernel⟩

def m_both : SM :=
  sSeq (sExpr (mCall (callP 2 f_check_same_twobooks) (aCons (mV 0) (aCons (mV 1) aNil))))
  (sRet (mCall (callP 2 f_made_of) (aCons (m1 (fldA ["Book", "RawBook"] "people") (mV 0)) (aCons (m2 addA (mLs (mNL listA (aCons (m1 (fldA ["Book", "RawBook"] "lots") (mV 0)) aNil))) (mLs (mNL listA (aCons (m1 (fldA ["Book", "RawBook"] "lots") (mV 1)) aNil)))) aNil))))
def f_both : FM := bodyM 0 m_both
theorem ok_both (T : Facts K mg) (B : TBs T base) : FnOk P w K mg base (L2.CX P w) 6 T.a_both T.d_both ["one", "other"] (spM K mg 2 f_both) := fn_mk T.F_both sc_both fun cdv A outer sh H E O =>
  sss_cons (ss_expr (se_call O call_p (ok_check_same_twobooks T B) (by decide) T.g_check_same_twobooks T.k_check_same_twobooks T.b_check_same_twobooks (sa_cons (se_v 0) (sa_cons (se_v 1) sa_nil))))
  (sss_one (ss_ret (se_call O call_p (ok_made_of T B) (by decide) T.g_made_of T.k_made_of T.b_made_of (sa_cons (se_fld T.fld_people (se_v 0)) (sa_cons (se_op op_addA (se_ls (sf_callTy call_listA T.z_list (by rfl) (sa_cons (se_fld T.fld_lots (se_v 0)) sa_nil))) (se_ls (sf_callTy call_listA T.z_list (by rfl) (sa_cons (se_fld T.fld_lots (se_v 1)) sa_nil)))) sa_nil)))))


/-! ### either -/
abbrev s_either : Stmt := topS 56
abbrev N_either : List Str := ["one", "other", "some", "mask", "least", "there"]
theorem sc_either : FnScope N_either ["one", "other"] (defScope s_either) := ⟨rfl, rfl, rfl, by decide +kernel, rfl, by decide +kernel, by decide +kernel⟩
def K_either_0 : EM (List AV) :=
  mLc [5] (mItS (m1 (fldA ["Book", "RawBook"] "masks") (mV 1))) (gN 5) mYes (m2 orA (mV 3) (mV 5))
def B_either_1 : SM :=
  sExpr (mLM extendA (mV 2) (aCons (mLs K_either_0) aNil))
def L_either_2 : SM :=
  sFor (mItS (m1 (fldA ["Book", "RawBook"] "masks") (mV 0))) (gN 3) B_either_1
def m_either : SM :=
  sSeq (sExpr (mCall (callP 2 f_check_same_twobooks) (aCons (mV 0) (aCons (mV 1) aNil))))
  (sSeq (sSet 2 (mLstC aNil))
  (sSeq L_either_2
  (sSeq (sSet 4 (mCall (callP 1 f_least_of) (aCons (mF (mV 2)) aNil)))
  (sSeq (sExpr (mCall (callP 2 f_check_many) (aCons (mN lenA (aCons (mV 4) aNil)) (aCons (mC (.int 60)) aNil))))
  (sRet (mCall (callP 2 f_book_with) (aCons (m1 (fldA ["Book", "RawBook"] "people") (mV 0)) (aCons (mV 4) aNil))))))))
def f_either : FM := bodyM 4 m_either
theorem ok_either (T : Facts K mg) (B : TBs T base) : FnOk P w K mg base (L2.CX P w) 6 T.a_either T.d_either ["one", "other"] (spM K mg 2 f_either) := fn_mk T.F_either sc_either fun cdv A outer sh H E O =>
  sss_cons (ss_expr (se_call O call_p (ok_check_same_twobooks T B) (by decide) T.g_check_same_twobooks T.k_check_same_twobooks T.b_check_same_twobooks (sa_cons (se_v 0) (sa_cons (se_v 1) sa_nil))))
  (sss_cons (ss_set (i := 2) O.nd rfl (.inl rfl) (se_lstC sa_nil))
  (sss_cons (ss_for O (si_seq (se_fld T.fld_masks (se_v 0))) (sg_n (i := 3) O.nd rfl (.inr rfl)) (sss_one (ss_expr (se_lm PySem.F.plainAttrs_list PySem.F.slot_list_extend PySem.F.type_list_extend mt_extendA (se_v 2) (sa_cons (se_ls (sf_lc (own := [("there", 5)]) (ow := [5]) O (si_seq (se_fld T.fld_masks (se_v 1))) (blkOk_by (N := N_either) (sc := (defScope s_either)) (own := [("there", 5)]) (by decide +kernel)) (by decide) (fun s1 H1 C1 cl1 fp1 => sg_n (i := 5) (O.blk _ s1 H1 C1 cl1 fp1).nd rfl (.inl rfl)) (fun s1 H1 C1 cl1 fp1 => sts_nil) (fun s1 H1 C1 cl1 fp1 => se_op op_orA (se_v 3) (se_v 5)))) sa_nil)))))
  (sss_cons (ss_set (i := 4) O.nd rfl (.inl rfl) (se_call O call_p (ok_least_of T B) (by decide) T.g_least_of T.k_least_of T.b_least_of (sa_cons (se_frz (se_v 2)) sa_nil)))
  (sss_cons (ss_expr (se_call O call_p (ok_check_many T B) (by decide) T.g_check_many T.k_check_many T.b_check_many (sa_cons (se_callB call_lenA T.z_len (by rfl) (sa_cons (se_v 4) sa_nil)) (sa_cons (se_gint T.c_MOST_LOTS) sa_nil))))
  (sss_one (ss_ret (se_call O call_p (ok_book_with T B) (by decide) T.g_book_with T.k_book_with T.b_book_with (sa_cons (se_fld T.fld_people (se_v 0)) (sa_cons (se_v 4) sa_nil)))))))))


/-! ### _law_hand -/
abbrev s__law_hand : Stmt := topS 58
abbrev N__law_hand : List Str := ["script", "cells", "cell"]
theorem sc__law_hand : FnScope N__law_hand ["script"] (defScope s__law_hand) := ⟨rfl, rfl, rfl, by decide +kernel, rfl, by decide +kernel, by decide +kernel⟩
def K__law_hand_0 : EM (List AV) :=
  mLc [2] (mItS (mSl (mV 0) oNo (oYes (mC (.int 63))))) (gN 2) mYes (mN absA (aCons (mN intA (aCons (mV 2) aNil)) aNil))
def m__law_hand : SM :=
  sSeq (sSet 1 (mLs K__law_hand_0))
  (sRet (mLstC (aCons (mV 1) (aCons (mC (.int 0)) (aCons (mC (.int 0)) (aCons (m2 addA (mC (.int 61)) (m2 mulA (mC (.int 7)) (mN lenA (aCons (mV 1) aNil)))) (aCons (mC (.int 0)) aNil)))))))
def f__law_hand : FM := bodyM 2 m__law_hand
theorem ok__law_hand (T : Facts K mg) (B : TBs T base) : FnOk P w K mg base (L2.CX P w) 1 T.a__law_hand T.d__law_hand ["script"] (spM K mg 1 f__law_hand) := fn_mk T.F__law_hand sc__law_hand fun cdv A outer sh H E O =>
  sss_cons (ss_setLs (i := 1) (own := [("cell", 2)]) (ow := [2]) O rfl rfl (sw_true rfl rfl rfl (by decide +kernel)) (si_seq (se_sl (se_v 0) so_no (so_yes se_int))) (blkOk_by (N := N__law_hand) (sc := (defScope s__law_hand)) (own := [("cell", 2)]) (by decide +kernel)) (by decide) (fun s1 H1 C1 cl1 fp1 => sg_n (i := 2) (O.blk _ s1 H1 C1 cl1 fp1).nd rfl (.inl rfl)) (fun s1 H1 C1 cl1 fp1 => sts_nil) (fun s1 H1 C1 cl1 fp1 => se_callB call_absA T.z_abs (by rfl) (sa_cons (se_callTy call_intA T.z_int (by rfl) (sa_cons (se_v 2) sa_nil)) sa_nil)))
  (sss_one (ss_ret (se_lstC (sa_cons (se_v 1) (sa_cons se_int (sa_cons se_int (sa_cons (se_op op_addA se_int (se_op op_mulA se_int (se_callB call_lenA T.z_len (by rfl) (sa_cons (se_v 1) sa_nil)))) (sa_cons se_int sa_nil))))))))


/-! ### _law_draw -/
abbrev s__law_draw : Stmt := topS 59
abbrev N__law_draw : List Str := ["hand", "many", "cell", "digit", "number"]
theorem sc__law_draw : FnScope N__law_draw ["hand", "many"] (defScope s__law_draw) := ⟨rfl, rfl, rfl, by decide +kernel, rfl, by decide +kernel, by decide +kernel⟩

def m__law_draw : SM :=
  sSeq (sIf (mAnd (mT (m2 eqA (m2 ixA (mV 0) (mC (.int 2))) (mC (.int 0)))) (mT (m2 ltA (m2 ixA (mV 0) (mC (.int 1))) (mN lenA (aCons (m2 ixA (mV 0) (mC (.int 0))) aNil))))) (sSeq (sSet 2 (m2 ixA (m2 ixA (mV 0) (mC (.int 0))) (m2 ixA (mV 0) (mC (.int 1)))))
  (sSeq (sPutIx (m2 addA (m2 ixA (mV 0) (mC (.int 1))) (mC (.int 1))) (mV 0) (mC (.int 1)))
  (sSeq (sPutIx (m2 modA (mN intA (aCons (m2 addA (m2 addA (m2 mulA (m2 ixA (mV 0) (mC (.int 3))) (mC (.int 69621))) (m2 mulA (mV 2) (mC (.int 40692)))) (mC (.int 31))) aNil)) (mC (.int 2147483629))) (mV 0) (mC (.int 3)))
  (sIf (mT (m2 geA (mV 2) (m2 powA (mC (.int 10)) (mC (.int 18))))) (sPutIx (mV 2) (mV 0) (mC (.int 2))) sNext)))) sNext)
  (sSeq (sIf (mT (m2 gtA (m2 ixA (mV 0) (mC (.int 2))) (mC (.int 0)))) (sSeq (sSet 3 (m2 modA (mN intA (aCons (m2 ixA (mV 0) (mC (.int 2))) aNil)) (mV 1)))
  (sSeq (sPutIx (m2 fdivA (m2 ixA (mV 0) (mC (.int 2))) (mV 1)) (mV 0) (mC (.int 2)))
  (sRet (mV 3)))) sNext)
  (sSeq (sPutIx (m2 addA (m2 ixA (mV 0) (mC (.int 4))) (mC (.int 1))) (mV 0) (mC (.int 4)))
  (sSeq (sSet 4 (m2 modA (mN intA (aCons (m2 mulA (mN intA (aCons (m2 addA (m2 ixA (mV 0) (mC (.int 3))) (m2 mulA (mC (.int 7919)) (m2 ixA (mV 0) (mC (.int 4))))) aNil)) (mC (.int 48271))) aNil)) (mC (.int 2147483647))))
  (sSeq (sSet 4 (m2 modA (mN intA (aCons (m2 mulA (mV 4) (m2 addA (m2 fdivA (mV 4) (mC (.int 1009))) (mC (.int 69621)))) aNil)) (mC (.int 2147483647))))
  (sSeq (sSet 4 (m2 modA (mN intA (aCons (m2 mulA (mV 4) (m2 addA (m2 fdivA (mV 4) (mC (.int 2003))) (mC (.int 40014)))) aNil)) (mC (.int 2147483563))))
  (sRet (m2 modA (mN intA (aCons (m2 fdivA (mV 4) (mC (.int 16))) aNil)) (mV 1))))))))
def f__law_draw : FM := bodyM 3 m__law_draw
theorem ok__law_draw (T : Facts K mg) (B : TBs T base) : FnOk P w K mg base (L2.CX P w) 1 T.a__law_draw T.d__law_draw ["hand", "many"] (spM K mg 2 f__law_draw) := fn_mk T.F__law_draw sc__law_draw fun cdv A outer sh H E O =>
  sss_cons (ss_if (sw_st (sw_and (st_cmp (op_eqA O.u64) (se_ix (se_v 0) se_int) se_int) (sw_and1 (st_cmp (op_ltA O.u0) (se_ix (se_v 0) se_int) (se_callB call_lenA T.z_len (by rfl) (sa_cons (se_ix (se_v 0) se_int) sa_nil)))))) (sss_cons (ss_set (i := 2) O.nd rfl (.inl rfl) (se_ix (se_ix (se_v 0) se_int) (se_ix (se_v 0) se_int)))
  (sss_cons (ss_putIx (se_op op_addA (se_ix (se_v 0) se_int) se_int) (se_v 0) se_int)
  (sss_cons (ss_putIx (se_op op_modA (se_callTy call_intA T.z_int (by rfl) (sa_cons (se_op op_addA (se_op op_addA (se_op op_mulA (se_ix (se_v 0) se_int) se_int) (se_op op_mulA (se_v 2) se_int)) se_int) sa_nil)) se_int) (se_v 0) se_int)
  (sss_one (ss_if (st_cmp op_geA (se_v 2) (se_op op_powA se_int se_int)) (sss_one (ss_putIx (se_v 2) (se_v 0) se_int)) sss_nil))))) sss_nil)
  (sss_cons (ss_if (st_cmp op_gtA (se_ix (se_v 0) se_int) se_int) (sss_cons (ss_set (i := 3) O.nd rfl (.inl rfl) (se_op op_modA (se_callTy call_intA T.z_int (by rfl) (sa_cons (se_ix (se_v 0) se_int) sa_nil)) (se_v 1)))
  (sss_cons (ss_putIx (se_op op_fdivA (se_ix (se_v 0) se_int) (se_v 1)) (se_v 0) se_int)
  (sss_one (ss_ret (se_v 3))))) sss_nil)
  (sss_cons (ss_putIx (se_op op_addA (se_ix (se_v 0) se_int) se_int) (se_v 0) se_int)
  (sss_cons (ss_set (i := 4) O.nd rfl (.inl rfl) (se_op op_modA (se_callTy call_intA T.z_int (by rfl) (sa_cons (se_op op_mulA (se_callTy call_intA T.z_int (by rfl) (sa_cons (se_op op_addA (se_ix (se_v 0) se_int) (se_op op_mulA se_int (se_ix (se_v 0) se_int))) sa_nil)) se_int) sa_nil)) se_int))
  (sss_cons (ss_set (i := 4) O.nd rfl (.inl rfl) (se_op op_modA (se_callTy call_intA T.z_int (by rfl) (sa_cons (se_op op_mulA (se_v 4) (se_op op_addA (se_op op_fdivA (se_v 4) se_int) se_int)) sa_nil)) se_int))
  (sss_cons (ss_set (i := 4) O.nd rfl (.inl rfl) (se_op op_modA (se_callTy call_intA T.z_int (by rfl) (sa_cons (se_op op_mulA (se_v 4) (se_op op_addA (se_op op_fdivA (se_v 4) se_int) se_int)) sa_nil)) se_int))
  (sss_one (ss_ret (se_op op_modA (se_callTy call_intA T.z_int (by rfl) (sa_cons (se_op op_fdivA (se_v 4) se_int) sa_nil)) (se_v 1)))))))))


/-! ### _law_any -/
abbrev s__law_any : Stmt := topS 60
abbrev N__law_any : List Str := ["hand", "some"]
theorem sc__law_any : FnScope N__law_any ["hand", "some"] (defScope s__law_any) := ⟨rfl, rfl, rfl, by decide +kernel, rfl, by decide +kernel, by decide +kernel⟩

def m__law_any : SM :=
  sRet (m2 ixA (mV 1) (mCall (callH 2 f__law_draw) (aCons (mV 0) (aCons (mN lenA (aCons (mV 1) aNil)) aNil))))
def f__law_any : FM := bodyM 0 m__law_any
theorem ok__law_any (T : Facts K mg) (B : TBs T base) : FnOk P w K mg base (L2.CX P w) 2 T.a__law_any T.d__law_any ["hand", "some"] (spM K mg 2 f__law_any) := fn_mk T.F__law_any sc__law_any fun cdv A outer sh H E O =>
  sss_one (ss_ret (se_ix (se_v 1) (se_call O call_h (ok__law_draw T B) (by decide) T.g__law_draw T.k__law_draw T.b__law_draw (sa_cons (se_v 0) (sa_cons (se_callB call_lenA T.z_len (by rfl) (sa_cons (se_v 1) sa_nil)) sa_nil)))))


/-! ### _law_crowds -/
abbrev s__law_crowds : Stmt := topS 61
abbrev N__law_crowds : List Str := ["people", "found", "person", "crowd"]
theorem sc__law_crowds : FnScope N__law_crowds ["people"] (defScope s__law_crowds) := ⟨rfl, rfl, rfl, by decide +kernel, rfl, by decide +kernel, by decide +kernel⟩
def K__law_crowds_0 : EM (List AV) :=
  mLc [3] (mItS (mV 1)) (gN 3) mYes (m2 addA (mV 3) (mTup (aCons (mV 2) aNil)))
def B__law_crowds_1 : SM :=
  sSet 1 (m2 addA (mV 1) (mLs K__law_crowds_0))
def L__law_crowds_2 : SM :=
  sFor (mRng1 (mV 0)) (gN 2) B__law_crowds_1
def m__law_crowds : SM :=
  sSeq (sSet 1 (mLst (aCons (mTup aNil) aNil)))
  (sSeq L__law_crowds_2
  (sRet (mLs (mSortLen (mV 1)))))
def f__law_crowds : FM := bodyM 3 m__law_crowds
theorem ok__law_crowds (T : Facts K mg) (B : TBs T base) : FnOk P w K mg base (L2.CX P w) 2 T.a__law_crowds T.d__law_crowds ["people"] (spM K mg 1 f__law_crowds) := fn_mkC T.F__law_crowds sc__law_crowds fun cdv A outer sh H E hc O =>
  sss_cons (ss_set (i := 1) O.nd rfl (.inl rfl) (se_lst (sa_cons (se_tup sa_nil) sa_nil)))
  (sss_cons (ss_for O (si_rng1 T.z_range (se_v 0)) (sg_n (i := 2) O.nd rfl (.inr rfl)) (sss_one (ss_set (i := 1) O.nd rfl (.inl rfl) (se_op op_addA (se_v 1) (se_ls (sf_lc (own := [("crowd", 3)]) (ow := [3]) O (si_seq (se_v 1)) (blkOk_by (N := N__law_crowds) (sc := (defScope s__law_crowds)) (own := [("crowd", 3)]) (by decide +kernel)) (by decide) (fun s1 H1 C1 cl1 fp1 => sg_n (i := 3) (O.blk _ s1 H1 C1 cl1 fp1).nd rfl (.inl rfl)) (fun s1 H1 C1 cl1 fp1 => sts_nil) (fun s1 H1 C1 cl1 fp1 => se_op op_addA (se_v 3) (se_tup (sa_cons (se_v 2) sa_nil)))))))))
  (sss_one (ss_ret (se_ls (sf_sortLen O (by decide) B.tb__law_crowds (hc.symm.trans T.cd__law_crowds) qual_cx B.m__law_crowds B.u__law_crowds (y := "crowd") ⟨rfl, rfl, rfl, by decide +kernel, rfl, rfl, by decide +kernel⟩ T.z_sorted T.z_len (se_v 1))))))


/-! ### _law_is_clear -/
abbrev s__law_is_clear : Stmt := topS 62
abbrev N__law_is_clear : List Str := ["book", "crowd", "lot", "person"]
theorem sc__law_is_clear : FnScope N__law_is_clear ["book", "crowd"] (defScope s__law_is_clear) := ⟨rfl, rfl, rfl, by decide +kernel, rfl, by decide +kernel, by decide +kernel⟩
def K__law_is_clear_0 : EM (List AV) :=
  mLc [3] (mItS (mV 2)) (gN 3) mYes (m2 inA (mV 3) (mV 1))
def K__law_is_clear_1 : EM (List AV) :=
  mLc [2] (mItS (m1 (fldA ["Book", "RawBook"] "lots") (mV 0))) (gN 2) mYes (mN allA (aCons (mLs K__law_is_clear_0) aNil))
def m__law_is_clear : SM :=
  sRet (mNotV (mN anyA (aCons (mLs K__law_is_clear_1) aNil)))
def f__law_is_clear : FM := bodyM 2 m__law_is_clear
theorem ok__law_is_clear (T : Facts K mg) (B : TBs T base) : FnOk P w K mg base (L2.CX P w) 1 T.a__law_is_clear T.d__law_is_clear ["book", "crowd"] (spM K mg 2 f__law_is_clear) := fn_mk T.F__law_is_clear sc__law_is_clear fun cdv A outer sh H E O =>
  sss_one (ss_ret (se_not (se_callB (call_anyA O.calm) T.z_any (by rfl) (sa_cons (se_ls (sf_lc (own := [("lot", 2)]) (ow := [2]) O (si_seq (se_fld T.fld_lots (se_v 0))) (blkOk_by (N := N__law_is_clear) (sc := (defScope s__law_is_clear)) (own := [("lot", 2)]) (by decide +kernel)) (by decide) (fun s1 H1 C1 cl1 fp1 => sg_n (i := 2) (O.blk _ s1 H1 C1 cl1 fp1).nd rfl (.inl rfl)) (fun s1 H1 C1 cl1 fp1 => sts_nil) (fun s1 H1 C1 cl1 fp1 => se_callB (call_allA (O.blk _ s1 H1 C1 cl1 fp1).calm) T.z_all (by rfl) (sa_cons (se_ls (sf_lc (own := [("person", 3)]) (ow := [3]) (O.blk _ s1 H1 C1 cl1 fp1) (si_seq (se_v 2)) (blkOk_by (N := N__law_is_clear) (sc := scp2) (own := [("person", 3)]) (by decide +kernel)) (by decide) (fun s2 H2 C2 cl2 fp2 => sg_n (i := 3) ((O.blk _ s1 H1 C1 cl1 fp1).blk _ s2 H2 C2 cl2 fp2).nd rfl (.inl rfl)) (fun s2 H2 C2 cl2 fp2 => sts_nil) (fun s2 H2 C2 cl2 fp2 => se_cmp (op_inA ((O.blk _ s1 H1 C1 cl1 fp1).blk _ s2 H2 C2 cl2 fp2).u65) (se_v 3) (se_v 1)))) sa_nil)))) sa_nil))))


/-! ### _law_of -/
abbrev s__law_of : Stmt := topS 63
abbrev N__law_of : List Str := ["hand", "people", "heaps", "turn", "lot", "person"]
theorem sc__law_of : FnScope N__law_of ["hand", "people"] (defScope s__law_of) := ⟨rfl, rfl, rfl, by decide +kernel, rfl, by decide +kernel, by decide +kernel⟩
def K__law_of_0 : EM (List AV) :=
  mLc [5] (mRng1 (mV 1)) (gN 5) (mT (m2 eqA (mCall (callH 2 f__law_draw) (aCons (mV 0) (aCons (mC (.int 2)) aNil))) (mC (.int 0)))) (mV 5)
def B__law_of_1 : SM :=
  sSeq (sSet 4 (mN tupleA (aCons (mLs K__law_of_0) aNil)))
  (sExpr (mLM extendA (mV 2) (aCons (mIf (mT (m2 gtA (mN lenA (aCons (mV 4) aNil)) (mC (.int 1)))) (mLst (aCons (mV 4) aNil)) (mLst aNil)) aNil)))
def L__law_of_2 : SM :=
  sFor (mRng1 (mCall (callH 2 f__law_draw) (aCons (mV 0) (aCons (mC (.int 5)) aNil)))) (gN 3) B__law_of_1
def m__law_of : SM :=
  sSeq (sSet 2 (mLstC aNil))
  (sSeq L__law_of_2
  (sRet (mCall (callP 2 f_book_of) (aCons (mV 1) (aCons (mF (mV 2)) aNil)))))
def f__law_of : FM := bodyM 4 m__law_of
theorem ok__law_of (T : Facts K mg) (B : TBs T base) : FnOk P w K mg base (L2.CX P w) 7 T.a__law_of T.d__law_of ["hand", "people"] (spM K mg 2 f__law_of) := fn_mk T.F__law_of sc__law_of fun cdv A outer sh H E O =>
  sss_cons (ss_set (i := 2) O.nd rfl (.inl rfl) (se_lstC sa_nil))
  (sss_cons (ss_for O (si_rng1 T.z_range (se_call O call_h (ok__law_draw T B) (by decide) T.g__law_draw T.k__law_draw T.b__law_draw (sa_cons (se_v 0) (sa_cons se_int sa_nil)))) (sg_n (i := 3) O.nd rfl (.inl rfl)) (sss_cons (ss_set (i := 4) O.nd rfl (.inl rfl) (se_callTy call_tupleA T.z_tuple (by rfl) (sa_cons (se_ls (sf_lc (own := [("person", 5)]) (ow := [5]) O (si_rng1 T.z_range (se_v 1)) (blkOk_by (N := N__law_of) (sc := (defScope s__law_of)) (own := [("person", 5)]) (by decide +kernel)) (by decide) (fun s1 H1 C1 cl1 fp1 => sg_n (i := 5) (O.blk _ s1 H1 C1 cl1 fp1).nd rfl (.inl rfl)) (fun s1 H1 C1 cl1 fp1 => sts_one (st_cmp (op_eqA (O.blk _ s1 H1 C1 cl1 fp1).u64) (se_call (O.blk _ s1 H1 C1 cl1 fp1) call_h (ok__law_draw T B) (by decide) T.g__law_draw T.k__law_draw T.b__law_draw (sa_cons (se_v 0) (sa_cons se_int sa_nil))) se_int)) (fun s1 H1 C1 cl1 fp1 => se_v 5))) sa_nil)))
  (sss_one (ss_expr (se_lm PySem.F.plainAttrs_list PySem.F.slot_list_extend PySem.F.type_list_extend mt_extendA (se_v 2) (sa_cons (se_if (st_cmp op_gtA (se_callB call_lenA T.z_len (by rfl) (sa_cons (se_v 4) sa_nil)) se_int) (se_lst (sa_cons (se_v 4) sa_nil)) (se_lst sa_nil)) sa_nil))))))
  (sss_one (ss_ret (se_call O call_p (ok_book_of T B) (by decide) T.g_book_of T.k_book_of T.b_book_of (sa_cons (se_v 1) (sa_cons (se_frz (se_v 2)) sa_nil))))))


/-! ### _law_books -/
abbrev s__law_books : Stmt := topS 64
abbrev N__law_books : List Str := ["people", "lots", "many", "waiting", "some", "at", "place", "crowd", "lot", "person"]
theorem sc__law_books : FnScope N__law_books ["people"] (defScope s__law_books) := ⟨rfl, rfl, rfl, by decide +kernel, rfl, by decide +kernel, by decide +kernel⟩
def K__law_books_0 : EM (List AV) :=
  mLc [7] (mItS (mCall (callP 1 f__law_crowds) (aCons (mV 0) aNil))) (gN 7) (mT (m2 gtA (mN lenA (aCons (mV 7) aNil)) (mC (.int 1)))) (mV 7)
def K__law_books_1 : EM (List AV) :=
  mLc [9] (mItS (mV 8)) (gN 9) mYes (m2 inA (mV 9) (m2 ixA (mV 1) (mV 6)))
def K__law_books_2 : EM (List AV) :=
  mLc [8] (mItS (mV 4)) (gN 8) mYes (mN allA (aCons (mLs K__law_books_1) aNil))
def B__law_books_3 : SM :=
  sIf (mNot (mT (mN anyA (aCons (mLs K__law_books_2) aNil)))) (sExpr (mLM appendA (mV 3) (aCons (mTup (aCons (m2 addA (mV 4) (mTup (aCons (m2 ixA (mV 1) (mV 6)) aNil))) (aCons (m2 addA (mV 6) (mC (.int 1))) aNil))) aNil))) sNext
def L__law_books_4 : SM :=
  sFor (mRng2 (mV 5) (mN lenA (aCons (mV 1) aNil))) (gN 6) B__law_books_3
def B__law_books_5 : SM :=
  sSeq (sAsg (mLM0 popA (mV 3)) (gT [gN 4, gN 5]))
  (sSeq (sSet 2 (m2 addA (mV 2) (mC (.int 1))))
  L__law_books_4)
def L__law_books_6 : SM :=
  sWhile fuel (mT (m2 neA (mV 3) (mLst aNil))) B__law_books_5
def m__law_books : SM :=
  sSeq (sSet 1 (mLs K__law_books_0))
  (sSeq (sPar (aCons (mC (.int 0)) (aCons (mLstC (aCons (mTup (aCons (mTup aNil) (aCons (mC (.int 0)) aNil))) aNil)) aNil)) [2, 3])
  (sSeq L__law_books_6
  (sRet (mV 2))))
def f__law_books : FM := bodyM 9 m__law_books
theorem ok__law_books (T : Facts K mg) (B : TBs T base) : FnOk P w K mg base (L2.CX P w) 3 T.a__law_books T.d__law_books ["people"] (spM K mg 1 f__law_books) := fn_mk T.F__law_books sc__law_books fun cdv A outer sh H E O =>
  sss_cons (ss_set (i := 1) O.nd rfl (.inr rfl) (se_ls (sf_lc (own := [("crowd", 7)]) (ow := [7]) O (si_seq (se_call O call_p (ok__law_crowds T B) (by decide) T.g__law_crowds T.k__law_crowds T.b__law_crowds (sa_cons (se_v 0) sa_nil))) (blkOk_by (N := N__law_books) (sc := (defScope s__law_books)) (own := [("crowd", 7)]) (by decide +kernel)) (by decide) (fun s1 H1 C1 cl1 fp1 => sg_n (i := 7) (O.blk _ s1 H1 C1 cl1 fp1).nd rfl (.inl rfl)) (fun s1 H1 C1 cl1 fp1 => sts_one (st_cmp op_gtA (se_callB call_lenA T.z_len (by rfl) (sa_cons (se_v 7) sa_nil)) se_int)) (fun s1 H1 C1 cl1 fp1 => se_v 7))))
  (sss_cons (ss_par2 (i := 2) (j := 3) O rfl rfl (by decide) rfl rfl (sa_cons se_int (sa_cons (se_lstC (sa_cons (se_tup (sa_cons (se_tup sa_nil) (sa_cons se_int sa_nil))) sa_nil)) sa_nil)) (by rfl))
  (sss_cons (ss_while O (st_cmp (op_neA O.u64) (se_v 3) (se_lst sa_nil)) (sss_cons (ss_asg (se_lm0 PySem.F.plainAttrs_list PySem.F.slot_list_pop PySem.F.type_list_pop mt_popA (se_v 3)) (sg_tup O (sgs_cons (sg_n (i := 4) O.nd rfl (.inl rfl)) (sgs_cons (sg_n (i := 5) O.nd rfl (.inl rfl)) sgs_nil))))
  (sss_cons (ss_set (i := 2) O.nd rfl (.inl rfl) (se_op op_addA (se_v 2) se_int))
  (sss_one (ss_for O (si_rng2 T.z_range (se_v 5) (se_callB call_lenA T.z_len (by rfl) (sa_cons (se_v 1) sa_nil))) (sg_n (i := 6) O.nd rfl (.inr rfl)) (sss_one (ss_if (st_not (st_val (se_callB (call_anyA O.calm) T.z_any (by rfl) (sa_cons (se_ls (sf_lc (own := [("lot", 8)]) (ow := [8]) O (si_seq (se_v 4)) (blkOk_by (N := N__law_books) (sc := (defScope s__law_books)) (own := [("lot", 8)]) (by decide +kernel)) (by decide) (fun s2 H2 C2 cl2 fp2 => sg_n (i := 8) (O.blk _ s2 H2 C2 cl2 fp2).nd rfl (.inl rfl)) (fun s2 H2 C2 cl2 fp2 => sts_nil) (fun s2 H2 C2 cl2 fp2 => se_callB (call_allA (O.blk _ s2 H2 C2 cl2 fp2).calm) T.z_all (by rfl) (sa_cons (se_ls (sf_lc (own := [("person", 9)]) (ow := [9]) (O.blk _ s2 H2 C2 cl2 fp2) (si_seq (se_v 8)) (blkOk_by (N := N__law_books) (sc := scp3) (own := [("person", 9)]) (by decide +kernel)) (by decide) (fun s3 H3 C3 cl3 fp3 => sg_n (i := 9) ((O.blk _ s2 H2 C2 cl2 fp2).blk _ s3 H3 C3 cl3 fp3).nd rfl (.inl rfl)) (fun s3 H3 C3 cl3 fp3 => sts_nil) (fun s3 H3 C3 cl3 fp3 => se_cmp (op_inA ((O.blk _ s2 H2 C2 cl2 fp2).blk _ s3 H3 C3 cl3 fp3).u65) (se_v 9) (se_ix (se_v 1) (se_v 6))))) sa_nil)))) sa_nil)))) (sss_one (ss_expr (se_lm PySem.F.plainAttrs_list PySem.F.slot_list_append PySem.F.type_list_append mt_appendA (se_v 3) (sa_cons (se_tup (sa_cons (se_op op_addA (se_v 4) (se_tup (sa_cons (se_ix (se_v 1) (se_v 6)) sa_nil))) (sa_cons (se_op op_addA (se_v 6) se_int) sa_nil))) sa_nil)))) sss_nil)))))))
  (sss_one (ss_ret (se_v 2)))))


/-! ### _law_word -/
abbrev s__law_word : Stmt := topS 65
theorem sc__law_word : FnScope nA ["call"] (defScope s__law_word) := ⟨rfl, rfl, rfl, by decide +kernel, rfl, by decide +kernel, by decide +kernel⟩
def hit__law_word : Str → Option Str := fun c => ([("OtherPeople", "people"), ("NoPeople", "none")] : List (Str × Str)).lookup c
theorem hit_ok__law_word (T : Facts K mg) : HitOk K mg T.x_LotError [(T.x_OtherPeople, "people"), (T.x_NoPeople, "none")] hit__law_word := hit_of (List.forall_mem_cons.mpr ⟨fun D hD => by cases hD.symm.trans T.e_OtherPeople.g; exact ⟨true, PySem.W.exm_ref T.e_OtherPeople.s T.hd_OtherPeople T.e_OtherPeople.t T.s_OtherPeople_OtherPeople, fun _ => ⟨⟨_, rfl, rfl, T.xc_OtherPeople, T.ki_OtherPeople⟩, rfl⟩, fun e => by cases e⟩, List.forall_mem_cons.mpr ⟨fun D hD => by cases hD.symm.trans T.e_NoPeople.g; exact ⟨false, PySem.W.exm_ref T.e_OtherPeople.s T.hd_OtherPeople T.e_OtherPeople.t T.s_NoPeople_OtherPeople, (fun e => by cases e), fun _ => ⟨true, PySem.W.exm_ref T.e_NoPeople.s T.hd_NoPeople T.e_NoPeople.t T.s_NoPeople_NoPeople, fun _ => ⟨⟨_, rfl, rfl, T.xc_NoPeople, T.ki_NoPeople⟩, rfl⟩, fun e => by cases e⟩⟩, fun p hp => nomatch hp⟩⟩)
theorem gives__law_word (T : Facts K mg) {cdv : Value} {q : Str} {N : List Str} {qu : Str} {sc : Scope} {f : Addr} {cd : Value} {A : Around} {outer : List Env} {sh : Shared} {H : Hp} {E : XK} : LamX.GivesTo (cxOf (L2.CX P w) P w K mg base N qu sc f cd A outer sh H E) nA "_law_word" (defScope s__law_word) T.a__law_word cdv (defBody s__law_word) "call" q (ttA K T.x_LotError [(T.x_OtherPeople, "people"), (T.x_NoPeople, "none")] "done") :=
  givesA sc__law_word rfl rfl fun A outer s H => .cons ⟨rfl, by decide, .inl T.e_OtherPeople.g⟩ (fun a oe cls d pn hz hf => suiteA hz hf sc__law_word.nd rfl rfl rfl rfl rfl T.g_LotError rfl T.z_isinstance (by decide) (by decide) (by decide)) (.cons ⟨rfl, by decide, .inl T.e_NoPeople.g⟩ (fun a oe cls d pn hz hf => suiteA hz hf sc__law_word.nd rfl rfl rfl rfl rfl T.g_LotError rfl T.z_isinstance (by decide) (by decide) (by decide)) (.nil))


/-! ### Book___init__ -/
abbrev s_Book___init__ : Stmt := inClass (topS 29) 0
abbrev N_Book___init__ : List Str := ["self", "people", "lots", "at"]
theorem sc_Book___init__ : FnScope N_Book___init__ ["self", "people", "lots"] (defScope s_Book___init__) := ⟨rfl, rfl, rfl, by decide +kernel, rfl, by decide +kernel, by decide +kernel⟩

def m_Book___init__ : SM :=
  sSeq (sIf (mNot (mT (mCall (callP 3 f_is_within) (aCons (mV 1) (aCons (mC (.int 1)) (aCons (mC (.int 12)) aNil)))))) sNever sNext)
  (sSeq (sIf (mOr (mNot (mT (mN isiA (aCons (mV 2) (aCons (mC (.ty "tuple")) aNil))))) (mT (m2 gtA (mN lenA (aCons (mV 2) aNil)) (mC (.int 60))))) sNever sNext)
  (sSeq (sSet 3 (mCall (callP 2 f_first_wrong_lot) (aCons (mV 1) (aCons (mV 2) aNil))))
  (sSeq (sIf (mT (m2 notNA (mV 3) (mC .non))) sNever sNext)
  (sExpr (mMeth "Book" "keep" (callH 3 f_Book_keep) (mV 0) (aCons (mV 1) (aCons (mV 2) aNil)))))))
def f_Book___init__ : FM := bodyM 1 m_Book___init__
theorem ok_Book___init__ (T : Facts K mg) (B : TBs T base) : FnOk P w K mg base (L2.CX P w) 7 T.a_Book___init__ T.d_Book___init__ ["self", "people", "lots"] (spM K mg 3 f_Book___init__) := fn_mk T.F_Book___init__ sc_Book___init__ fun cdv A outer sh H E O =>
  sss_cons (ss_if (st_not (st_val (se_call O call_p (ok_is_within T B) (by decide) T.g_is_within T.k_is_within T.b_is_within (sa_cons (se_v 1) (sa_cons se_int (sa_cons (se_gint T.c_MOST_PEOPLE) sa_nil)))))) (sss_one ss_never) sss_nil)
  (sss_cons (ss_if (sw_st (sw_or (st_not (st_val (se_callB call_isiA T.z_isinstance (by rfl) (sa_cons (se_v 2) (sa_cons (se_tyn T.z_tuple (by rfl)) sa_nil))))) (sw_or1 (st_cmp op_gtA (se_callB call_lenA T.z_len (by rfl) (sa_cons (se_v 2) sa_nil)) (se_gint T.c_MOST_LOTS))))) (sss_one ss_never) sss_nil)
  (sss_cons (ss_set (i := 3) O.nd rfl (.inl rfl) (se_call O call_p (ok_first_wrong_lot T B) (by decide) T.g_first_wrong_lot T.k_first_wrong_lot T.b_first_wrong_lot (sa_cons (se_v 1) (sa_cons (se_v 2) sa_nil))))
  (sss_cons (ss_if (st_cmp op_isnotA (se_v 3) se_non) (sss_one ss_never) sss_nil)
  (sss_one (ss_expr (se_meth O call_h T.C_Book.g T.C_Book.cl T.mt_Book_keep (ok_Book_keep T B) (by decide) T.b_Book_keep (se_v 0) (sa_cons (se_v 1) (sa_cons (se_v 2) sa_nil))))))))


/-! ### Book___eq__ -/
abbrev s_Book___eq__ : Stmt := inClass (topS 29) 2
abbrev N_Book___eq__ : List Str := ["self", "other"]
theorem sc_Book___eq__ : FnScope N_Book___eq__ ["self", "other"] (defScope s_Book___eq__) := ⟨rfl, rfl, rfl, by decide +kernel, rfl, by decide +kernel, by decide +kernel⟩

def m_Book___eq__ : SM :=
  sRet (mAndV (m1 (isoA [("Book", true), ("RawBook", true)]) (mV 1)) (mAndV (m2 eqA (m1 (fldA ["Book", "RawBook"] "people") (mV 0)) (m1 (fldA ["Book", "RawBook"] "people") (mV 1))) (m2 eqA (m1 (fldA ["Book", "RawBook"] "lots") (mV 0)) (m1 (fldA ["Book", "RawBook"] "lots") (mV 1)))))
def f_Book___eq__ : FM := bodyM 0 m_Book___eq__
theorem ok_Book___eq__ (T : Facts K mg) (B : TBs T base) : FnOk P w K mg base (L2.CX P w) 1 T.a_Book___eq__ T.d_Book___eq__ ["self", "other"] (spM K mg 2 f_Book___eq__) := fn_mk T.F_Book___eq__ sc_Book___eq__ fun cdv A outer sh H E O =>
  sss_one (ss_ret (se_and (se_isO T.iso_Book T.C_Book.g T.z_isinstance (se_v 1)) (se_and (se_cmp (op_eqA O.u64) (se_fld T.fld_people (se_v 0)) (se_fld T.fld_people (se_v 1))) (se_one (se_cmp (op_eqA O.u64) (se_fld T.fld_lots (se_v 0)) (se_fld T.fld_lots (se_v 1)))))))


/-! ### law -/
abbrev s_law : Stmt := topS 66
abbrev N_law : List Str := ["script", "hand", "turn", "people", "other", "third", "crowds", "due", "finer", "less", "more", "book", "words", "odd", "one", "wide", "crowd"]
theorem sc_law : FnScope N_law ["script"] (defScope s_law) := ⟨rfl, rfl, rfl, by decide +kernel, rfl, by decide +kernel, by decide +kernel⟩
def K_law_0 : EM (List AV) :=
  mLc [16] (mItS (mV 6)) (gN 16) (mT (m2 neA (mCall (callP 2 f__law_is_clear) (aCons (mV 14) (aCons (mV 16) aNil))) (mCall (callP 2 f__law_is_clear) (aCons (mV 4) (aCons (mV 16) aNil))))) (mV 16)
def K_law_1 : EM (List AV) :=
  mLc [16] (mItS (mV 6)) (gN 16) (mT (mCall (callP 2 f__law_is_clear) (aCons (mV 14) (aCons (mV 16) aNil)))) (mCall (callP 2 f__law_is_clear) (aCons (mV 4) (aCons (mV 16) aNil)))
def B_law_2 : SM :=
  sIf (mOr (mNot (mT (mCall (callP 2 f_is_finer) (aCons (mV 9) (aCons (mV 11) aNil))))) (mNot (mT (mCall (callP 2 f_is_finer) (aCons (mV 11) (aCons (mV 10) aNil)))))) (sRet (mC (.bl false))) sNext
def L_law_3 : SM :=
  sFor (mItS (mTup (aCons (mV 14) (aCons (mV 4) aNil)))) (gN 11) B_law_2
def B_law_4 : SM :=
  sSeq (sSet 3 (m2 addA (mC (.int 2)) (mCall (callH 2 f__law_draw) (aCons (mV 1) (aCons (mC (.int 6)) aNil)))))
  (sSeq (sAsg (mTup (aCons (mCall (callH 2 f__law_of) (aCons (mV 1) (aCons (mV 3) aNil))) (aCons (mCall (callH 2 f__law_of) (aCons (mV 1) (aCons (mV 3) aNil))) (aCons (mCall (callH 2 f__law_of) (aCons (mV 1) (aCons (mV 3) aNil))) aNil)))) (gT [gN 14, gN 4, gN 5]))
  (sSeq (sSet 6 (mCall (callP 1 f__law_crowds) (aCons (mV 3) aNil)))
  (sSeq (sSet 7 (mLs K_law_0))
  (sSeq (sIf (mOr (mT (m2 neA (mCall (callP 2 f_unlike_crowds) (aCons (mV 14) (aCons (mV 4) aNil))) (mLs (mNL sortA (aCons (mV 7) aNil))))) (mOr (mT (m2 neA (mCall (callP 2 f_gap) (aCons (mV 14) (aCons (mV 4) aNil))) (mN lenA (aCons (mV 7) aNil)))) (mT (m2 neA (mCall (callP 2 f_gap) (aCons (mV 4) (aCons (mV 14) aNil))) (mN lenA (aCons (mV 7) aNil)))))) (sRet (mC (.bl false))) sNext)
  (sSeq (sIf (mOr (mT (m2 neA (m2 eqA (mV 7) (mLst aNil)) (mEqO "RawBook" (callP 2 f_Book___eq__) (mV 14) (mV 4)))) (mT (m2 ltA (m2 addA (mCall (callP 2 f_gap) (aCons (mV 14) (aCons (mV 5) aNil))) (mCall (callP 2 f_gap) (aCons (mV 5) (aCons (mV 4) aNil)))) (mN lenA (aCons (mV 7) aNil))))) (sRet (mC (.bl false))) sNext)
  (sSeq (sSet 8 (mN allA (aCons (mLs K_law_1) aNil)))
  (sSeq (sIf (mT (m2 neA (mCall (callP 2 f_is_finer) (aCons (mV 14) (aCons (mV 4) aNil))) (mV 8))) (sRet (mC (.bl false))) sNext)
  (sSeq (sPar (aCons (mCall (callP 2 f_both) (aCons (mV 14) (aCons (mV 4) aNil))) (aCons (mCall (callP 2 f_either) (aCons (mV 14) (aCons (mV 4) aNil))) aNil)) [9, 10])
  (sSeq L_law_3
  (sSeq (sIf (mOr (mT (m2 neA (m2 addA (mCall (callP 2 f_gap) (aCons (mV 14) (aCons (mV 9) aNil))) (mCall (callP 2 f_gap) (aCons (mV 9) (aCons (mV 4) aNil)))) (mN lenA (aCons (mV 7) aNil)))) (mT (m2 neA (m2 addA (mCall (callP 2 f_gap) (aCons (mV 14) (aCons (mV 10) aNil))) (mCall (callP 2 f_gap) (aCons (mV 10) (aCons (mV 4) aNil)))) (mN lenA (aCons (mV 7) aNil))))) (sRet (mC (.bl false))) sNext)
  (sSeq (sIf (mNot (mT (mCall (callP 2 f_is_finer) (aCons (mV 14) (aCons (mCall (callP 2 f_left_out) (aCons (mV 14) (aCons (mCall (callH 2 f__law_any) (aCons (mV 1) (aCons (mV 6) aNil))) aNil))) aNil))))) (sRet (mC (.bl false))) sNext)
  (sSeq (sAsg (mTup (aCons (mMake 3 "Book" f_Book___init__ (aCons (m2 addA (mV 3) (mC (.int 1))) (aCons (mTup aNil) aNil))) (aCons (mCall (callH 2 f__law_any) (aCons (mV 1) (aCons (mLst (aCons (mC (.int 0)) (aCons (mC (.int 6)) (aCons (m1 negA (mC (.int 1))) (aCons (mC (.bl true)) (aCons (mC .non) (aCons (mC (.str "2")) aNil))))))) aNil))) aNil))) (gT [gN 15, gN 13]))
  (sSeq (sSet 12 (mLstC (aCons (mLamA hit__law_word "done" (mCall (callP 2 f_gap) (aCons (mV 14) (aCons (mV 15) aNil)))) aNil)))
  (sSeq (sExpr (mLM appendA (mV 12) (aCons (mLamA hit__law_word "done" (mCall (callP 2 f_unlike_crowds) (aCons (mV 15) (aCons (mV 14) aNil)))) aNil)))
  (sSeq (sExpr (mLM appendA (mV 12) (aCons (mLamA hit__law_word "done" (mCall (callP 2 f_is_finer) (aCons (mV 14) (aCons (mV 15) aNil)))) aNil)))
  (sSeq (sExpr (mLM appendA (mV 12) (aCons (mLamA hit__law_word "done" (mCall (callP 1 f_books_in_all) (aCons (mV 13) aNil))) aNil)))
  (sIf (mT (m2 neA (mV 12) (mLst (aCons (mC (.str "people")) (aCons (mC (.str "people")) (aCons (mC (.str "people")) (aCons (mC (.str "none")) aNil))))))) (sRet (mC (.bl false))) sNext)))))))))))))))))
def L_law_5 : SM :=
  sFor (mRng1 (mC (.int 2))) (gN 2) B_law_4
def m_law : SM :=
  sSeq (sSet 1 (mCall (callS 1 f__law_hand) (aCons (mV 0) aNil)))
  (sSeq L_law_5
  (sSeq (sSet 3 (m2 addA (mC (.int 1)) (mCall (callH 2 f__law_draw) (aCons (mV 1) (aCons (mC (.int 4)) aNil)))))
  (sRet (m2 eqA (mCall (callP 1 f_books_in_all) (aCons (mV 3) aNil)) (mCall (callP 1 f__law_books) (aCons (mV 3) aNil))))))
def f_law : FM := bodyM 16 m_law
theorem ok_law (T : Facts K mg) (B : TBs T base) : FnOk P w K mg base (L2.CX P w) 19 T.a_law T.d_law ["script"] (spM K mg 1 f_law) := fn_mkC T.F_law sc_law fun cdv A outer sh H E hc O =>
  sss_cons (ss_set (i := 1) O.nd rfl (.inl rfl) (se_call O call_s (ok__law_hand T B) (by decide) T.g__law_hand T.k__law_hand T.b__law_hand (sa_cons (se_v 0) sa_nil)))
  (sss_cons (ss_for O (si_rng1 T.z_range se_int) (sg_n (i := 2) O.nd rfl (.inl rfl)) (sss_cons (ss_set (i := 3) O.nd rfl (.inl rfl) (se_op op_addA se_int (se_call O call_h (ok__law_draw T B) (by decide) T.g__law_draw T.k__law_draw T.b__law_draw (sa_cons (se_v 1) (sa_cons se_int sa_nil)))))
  (sss_cons (ss_asg (se_tup (sa_cons (se_call O call_h (ok__law_of T B) (by decide) T.g__law_of T.k__law_of T.b__law_of (sa_cons (se_v 1) (sa_cons (se_v 3) sa_nil))) (sa_cons (se_call O call_h (ok__law_of T B) (by decide) T.g__law_of T.k__law_of T.b__law_of (sa_cons (se_v 1) (sa_cons (se_v 3) sa_nil))) (sa_cons (se_call O call_h (ok__law_of T B) (by decide) T.g__law_of T.k__law_of T.b__law_of (sa_cons (se_v 1) (sa_cons (se_v 3) sa_nil))) sa_nil)))) (sg_tup O (sgs_cons (sg_n (i := 14) O.nd rfl (.inr rfl)) (sgs_cons (sg_n (i := 4) O.nd rfl (.inr rfl)) (sgs_cons (sg_n (i := 5) O.nd rfl (.inl rfl)) sgs_nil)))))
  (sss_cons (ss_set (i := 6) O.nd rfl (.inl rfl) (se_call O call_p (ok__law_crowds T B) (by decide) T.g__law_crowds T.k__law_crowds T.b__law_crowds (sa_cons (se_v 3) sa_nil)))
  (sss_cons (ss_setLs (i := 7) (own := [("crowd", 16)]) (ow := [16]) O rfl rfl (sw_true rfl rfl rfl (by decide +kernel)) (si_seq (se_v 6)) (blkOk_by (N := N_law) (sc := (defScope s_law)) (own := [("crowd", 16)]) (by decide +kernel)) (by decide) (fun s1 H1 C1 cl1 fp1 => sg_n (i := 16) (O.blk _ s1 H1 C1 cl1 fp1).nd rfl (.inl rfl)) (fun s1 H1 C1 cl1 fp1 => sts_one (st_cmp (op_neA (O.blk _ s1 H1 C1 cl1 fp1).u64) (se_call (O.blk _ s1 H1 C1 cl1 fp1) call_p (ok__law_is_clear T B) (by decide) T.g__law_is_clear T.k__law_is_clear T.b__law_is_clear (sa_cons (se_v 14) (sa_cons (se_v 16) sa_nil))) (se_call (O.blk _ s1 H1 C1 cl1 fp1) call_p (ok__law_is_clear T B) (by decide) T.g__law_is_clear T.k__law_is_clear T.b__law_is_clear (sa_cons (se_v 4) (sa_cons (se_v 16) sa_nil))))) (fun s1 H1 C1 cl1 fp1 => se_v 16))
  (sss_cons (ss_if (sw_st (sw_or (st_cmp (op_neA O.u64) (se_call O call_p (ok_unlike_crowds T B) (by decide) T.g_unlike_crowds T.k_unlike_crowds T.b_unlike_crowds (sa_cons (se_v 14) (sa_cons (se_v 4) sa_nil))) (se_ls (sf_callB (call_sortA O.u64) T.z_sorted (by rfl) (sa_cons (se_v 7) sa_nil)))) (sw_or (st_cmp (op_neA O.u64) (se_call O call_p (ok_gap T B) (by decide) T.g_gap T.k_gap T.b_gap (sa_cons (se_v 14) (sa_cons (se_v 4) sa_nil))) (se_callB call_lenA T.z_len (by rfl) (sa_cons (se_v 7) sa_nil))) (sw_or1 (st_cmp (op_neA O.u64) (se_call O call_p (ok_gap T B) (by decide) T.g_gap T.k_gap T.b_gap (sa_cons (se_v 4) (sa_cons (se_v 14) sa_nil))) (se_callB call_lenA T.z_len (by rfl) (sa_cons (se_v 7) sa_nil))))))) (sss_one (ss_ret se_bl)) sss_nil)
  (sss_cons (ss_if (sw_st (sw_or (st_cmp (op_neA O.u64) (se_cmp (op_eqA O.u64) (se_v 7) (se_lst sa_nil)) (se_eqO O call_p T.C_RawBook.g (ok_Book___eq__ T B) (by decide) T.b_Book___eq__ T.at_RawBook___eq__ T.fn_Book___eq__ (se_v 14) (se_v 4))) (sw_or1 (st_cmp (op_ltA O.u0) (se_op op_addA (se_call O call_p (ok_gap T B) (by decide) T.g_gap T.k_gap T.b_gap (sa_cons (se_v 14) (sa_cons (se_v 5) sa_nil))) (se_call O call_p (ok_gap T B) (by decide) T.g_gap T.k_gap T.b_gap (sa_cons (se_v 5) (sa_cons (se_v 4) sa_nil)))) (se_callB call_lenA T.z_len (by rfl) (sa_cons (se_v 7) sa_nil)))))) (sss_one (ss_ret se_bl)) sss_nil)
  (sss_cons (ss_set (i := 8) O.nd rfl (.inl rfl) (se_callB (call_allA O.calm) T.z_all (by rfl) (sa_cons (se_ls (sf_lc (own := [("crowd", 16)]) (ow := [16]) O (si_seq (se_v 6)) (blkOk_by (N := N_law) (sc := (defScope s_law)) (own := [("crowd", 16)]) (by decide +kernel)) (by decide) (fun s2 H2 C2 cl2 fp2 => sg_n (i := 16) (O.blk _ s2 H2 C2 cl2 fp2).nd rfl (.inl rfl)) (fun s2 H2 C2 cl2 fp2 => sts_one (st_val (se_call (O.blk _ s2 H2 C2 cl2 fp2) call_p (ok__law_is_clear T B) (by decide) T.g__law_is_clear T.k__law_is_clear T.b__law_is_clear (sa_cons (se_v 14) (sa_cons (se_v 16) sa_nil))))) (fun s2 H2 C2 cl2 fp2 => se_call (O.blk _ s2 H2 C2 cl2 fp2) call_p (ok__law_is_clear T B) (by decide) T.g__law_is_clear T.k__law_is_clear T.b__law_is_clear (sa_cons (se_v 4) (sa_cons (se_v 16) sa_nil))))) sa_nil)))
  (sss_cons (ss_if (st_cmp (op_neA O.u64) (se_call O call_p (ok_is_finer T B) (by decide) T.g_is_finer T.k_is_finer T.b_is_finer (sa_cons (se_v 14) (sa_cons (se_v 4) sa_nil))) (se_v 8)) (sss_one (ss_ret se_bl)) sss_nil)
  (sss_cons (ss_par2 (i := 9) (j := 10) O rfl rfl (by decide) rfl rfl (sa_cons (se_call O call_p (ok_both T B) (by decide) T.g_both T.k_both T.b_both (sa_cons (se_v 14) (sa_cons (se_v 4) sa_nil))) (sa_cons (se_call O call_p (ok_either T B) (by decide) T.g_either T.k_either T.b_either (sa_cons (se_v 14) (sa_cons (se_v 4) sa_nil))) sa_nil)) (by rfl))
  (sss_cons (ss_for O (si_seq (se_tup (sa_cons (se_v 14) (sa_cons (se_v 4) sa_nil)))) (sg_n (i := 11) O.nd rfl (.inl rfl)) (sss_one (ss_if (sw_st (sw_or (st_not (st_val (se_call O call_p (ok_is_finer T B) (by decide) T.g_is_finer T.k_is_finer T.b_is_finer (sa_cons (se_v 9) (sa_cons (se_v 11) sa_nil))))) (sw_or1 (st_not (st_val (se_call O call_p (ok_is_finer T B) (by decide) T.g_is_finer T.k_is_finer T.b_is_finer (sa_cons (se_v 11) (sa_cons (se_v 10) sa_nil)))))))) (sss_one (ss_ret se_bl)) sss_nil)))
  (sss_cons (ss_if (sw_st (sw_or (st_cmp (op_neA O.u64) (se_op op_addA (se_call O call_p (ok_gap T B) (by decide) T.g_gap T.k_gap T.b_gap (sa_cons (se_v 14) (sa_cons (se_v 9) sa_nil))) (se_call O call_p (ok_gap T B) (by decide) T.g_gap T.k_gap T.b_gap (sa_cons (se_v 9) (sa_cons (se_v 4) sa_nil)))) (se_callB call_lenA T.z_len (by rfl) (sa_cons (se_v 7) sa_nil))) (sw_or1 (st_cmp (op_neA O.u64) (se_op op_addA (se_call O call_p (ok_gap T B) (by decide) T.g_gap T.k_gap T.b_gap (sa_cons (se_v 14) (sa_cons (se_v 10) sa_nil))) (se_call O call_p (ok_gap T B) (by decide) T.g_gap T.k_gap T.b_gap (sa_cons (se_v 10) (sa_cons (se_v 4) sa_nil)))) (se_callB call_lenA T.z_len (by rfl) (sa_cons (se_v 7) sa_nil)))))) (sss_one (ss_ret se_bl)) sss_nil)
  (sss_cons (ss_if (st_not (st_val (se_call O call_p (ok_is_finer T B) (by decide) T.g_is_finer T.k_is_finer T.b_is_finer (sa_cons (se_v 14) (sa_cons (se_call O call_p (ok_left_out T B) (by decide) T.g_left_out T.k_left_out T.b_left_out (sa_cons (se_v 14) (sa_cons (se_call O call_h (ok__law_any T B) (by decide) T.g__law_any T.k__law_any T.b__law_any (sa_cons (se_v 1) (sa_cons (se_v 6) sa_nil))) sa_nil))) sa_nil))))) (sss_one (ss_ret se_bl)) sss_nil)
  (sss_cons (ss_asg (se_tup (sa_cons (se_make O ⟨T.C_Book.mks, T.at_Book___init__, T.fn_Book___init__, T.C_Book.kp⟩ (ok_Book___init__ T B) (by decide) T.C_Book.g T.b_Book___init__ (sa_cons (se_op op_addA (se_v 3) se_int) (sa_cons (se_tup sa_nil) sa_nil))) (sa_cons (se_call O call_h (ok__law_any T B) (by decide) T.g__law_any T.k__law_any T.b__law_any (sa_cons (se_v 1) (sa_cons (se_lst (sa_cons se_int (sa_cons se_int (sa_cons (se_un un_negA se_int) (sa_cons se_bl (sa_cons se_non (sa_cons se_str sa_nil))))))) sa_nil))) sa_nil))) (sg_tup O (sgs_cons (sg_n (i := 15) O.nd rfl (.inr rfl)) (sgs_cons (sg_n (i := 13) O.nd rfl (.inr rfl)) sgs_nil))))
  (sss_cons (ss_set (i := 12) O.nd rfl (.inl rfl) (se_lstC (sa_cons (se_lamF (k := 4) (q0 := ("law" : Str) ++ ".<locals>.") O (by decide) T.g__law_word T.F__law_word T.b__law_word sc__law_word rfl (.inl rfl) (fun cdv => gives__law_word T) B.tb_law (hc.symm.trans T.cd_law) qual_cx B.m_law B.u_law (LamX.lamS_by (sc := (defScope s_law)) (by decide +kernel)) (hit_ok__law_word T) (fun A3 outer3 sh3 H3 E3 f3 c3 O3 => se_call O3 call_p (ok_gap T B) (by decide) T.g_gap T.k_gap T.b_gap (sa_cons (se_v 14) (sa_cons (se_v 15) sa_nil)))) sa_nil)))
  (sss_cons (ss_expr (se_lm PySem.F.plainAttrs_list PySem.F.slot_list_append PySem.F.type_list_append mt_appendA (se_v 12) (sa_cons (se_lamF (k := 4) (q0 := ("law" : Str) ++ ".<locals>.") O (by decide) T.g__law_word T.F__law_word T.b__law_word sc__law_word rfl (.inl rfl) (fun cdv => gives__law_word T) B.tb_law (hc.symm.trans T.cd_law) qual_cx B.m_law B.u_law (LamX.lamS_by (sc := (defScope s_law)) (by decide +kernel)) (hit_ok__law_word T) (fun A4 outer4 sh4 H4 E4 f4 c4 O4 => se_call O4 call_p (ok_unlike_crowds T B) (by decide) T.g_unlike_crowds T.k_unlike_crowds T.b_unlike_crowds (sa_cons (se_v 15) (sa_cons (se_v 14) sa_nil)))) sa_nil)))
  (sss_cons (ss_expr (se_lm PySem.F.plainAttrs_list PySem.F.slot_list_append PySem.F.type_list_append mt_appendA (se_v 12) (sa_cons (se_lamF (k := 3) (q0 := ("law" : Str) ++ ".<locals>.") O (by decide) T.g__law_word T.F__law_word T.b__law_word sc__law_word rfl (.inl rfl) (fun cdv => gives__law_word T) B.tb_law (hc.symm.trans T.cd_law) qual_cx B.m_law B.u_law (LamX.lamS_by (sc := (defScope s_law)) (by decide +kernel)) (hit_ok__law_word T) (fun A5 outer5 sh5 H5 E5 f5 c5 O5 => se_call O5 call_p (ok_is_finer T B) (by decide) T.g_is_finer T.k_is_finer T.b_is_finer (sa_cons (se_v 14) (sa_cons (se_v 15) sa_nil)))) sa_nil)))
  (sss_cons (ss_expr (se_lm PySem.F.plainAttrs_list PySem.F.slot_list_append PySem.F.type_list_append mt_appendA (se_v 12) (sa_cons (se_lamF (k := 16) (q0 := ("law" : Str) ++ ".<locals>.") O (by decide) T.g__law_word T.F__law_word T.b__law_word sc__law_word rfl (.inl rfl) (fun cdv => gives__law_word T) B.tb_law (hc.symm.trans T.cd_law) qual_cx B.m_law B.u_law (LamX.lamS_by (sc := (defScope s_law)) (by decide +kernel)) (hit_ok__law_word T) (fun A6 outer6 sh6 H6 E6 f6 c6 O6 => se_call O6 call_p (ok_books_in_all T B) (by decide) T.g_books_in_all T.k_books_in_all T.b_books_in_all (sa_cons (se_v 13) sa_nil))) sa_nil)))
  (sss_one (ss_if (st_cmp (op_neA O.u64) (se_v 12) (se_lst (sa_cons se_str (sa_cons se_str (sa_cons se_str (sa_cons se_str sa_nil)))))) (sss_one (ss_ret se_bl)) sss_nil))))))))))))))))))))
  (sss_cons (ss_set (i := 3) O.nd rfl (.inl rfl) (se_op op_addA se_int (se_call O call_h (ok__law_draw T B) (by decide) T.g__law_draw T.k__law_draw T.b__law_draw (sa_cons (se_v 1) (sa_cons se_int sa_nil)))))
  (sss_one (ss_ret (se_cmp (op_eqA O.u64) (se_call O call_p (ok_books_in_all T B) (by decide) T.g_books_in_all T.k_books_in_all T.b_books_in_all (sa_cons (se_v 3) sa_nil)) (se_call O call_p (ok__law_books T B) (by decide) T.g__law_books T.k__law_books T.b__law_books (sa_cons (se_v 3) sa_nil)))))))

end
end LW

set_option Elab.async false
set_option linter.all false
set_option maxRecDepth 100000
set_option maxHeartbeats 2000000
namespace LW
open PySem L2 Sim
/-- the hand -/
def hand (cs : List Int) (i x y z : Int) : Cell := .lst [.lst (cs.map .int), .int i, .int x, .int y, .int z]
theorem ix0 {cs i x y z} : ixA [hand cs i x y z] (.cell 0) (.int 0) = some (.lst (cs.map .int)) := rfl
theorem ix1 {cs i x y z} : ixA [hand cs i x y z] (.cell 0) (.int 1) = some (.int i) := rfl
theorem ix2 {cs i x y z} : ixA [hand cs i x y z] (.cell 0) (.int 2) = some (.int x) := rfl
theorem ix3 {cs i x y z} : ixA [hand cs i x y z] (.cell 0) (.int 3) = some (.int y) := rfl
theorem ix4 {cs i x y z} : ixA [hand cs i x y z] (.cell 0) (.int 4) = some (.int z) := rfl
theorem pu1 {cs i x y z v} : putIx (.cell 0) (.int 1) (.int v) [hand cs i x y z] = some [hand cs v x y z] := rfl
theorem pu2 {cs i x y z v} : putIx (.cell 0) (.int 2) (.int v) [hand cs i x y z] = some [hand cs i v y z] := rfl
theorem pu3 {cs i x y z v} : putIx (.cell 0) (.int 3) (.int v) [hand cs i x y z] = some [hand cs i x v z] := rfl
theorem pu4 {cs i x y z v} : putIx (.cell 0) (.int 4) (.int v) [hand cs i x y z] = some [hand cs i x y v] := rfl
def HandOk (c : Cell) : Prop := ∃ (cs : List Int) (i x y z : Int), c = hand cs i x y z ∧ 0 ≤ i ∧ 0 ≤ x
def n1 (y z : Int) : Int := (y + 7919 * (z + 1)) * 48271 % 2147483647
def n2 (n : Int) : Int := n * (n / 1009 + 69621) % 2147483647
def n3 (n : Int) : Int := n * (n / 2003 + 40014) % 2147483563
theorem n1_b (y z : Int) : 0 ≤ n1 y z ∧ n1 y z < 2147483647 := by unfold n1; exact ⟨Int.emod_nonneg _ (by decide), Int.emod_lt_of_pos _ (by decide)⟩
theorem n2_b (n : Int) : 0 ≤ n2 n ∧ n2 n < 2147483647 := by unfold n2; exact ⟨Int.emod_nonneg _ (by decide), Int.emod_lt_of_pos _ (by decide)⟩
def drawN (y z many : Int) : Int := n3 (n2 (n1 y z)) / 16 % many
theorem pos_fix {n : Int} (h : 0 < n) (h2 : n < 1073741824) : True := trivial
theorem draw_ok {c : Cell} {many : Int} (hc : HandOk c) (h1 : 1 ≤ many) (h2 : many < 1073741824) : ∃ d c', f__law_draw [.cell 0, .int many] [c] = .ok (.int d) [c'] ∧ 0 ≤ d ∧ d < many ∧ HandOk c' := by
  obtain ⟨cs, i, x, y, z, rfl, hi, hx⟩ := hc
  have hm : (0 : Int) < many := by omega
  have a1 : (0 : Int) < 2147483647 := by decide
  have a2 : (0 : Int) < 2147483563 := by decide
  have a3 : (0 : Int) < 2147483629 := by decide
  have a4 : (0 : Int) < 1009 ∧ (1009 : Int) < 1073741824 := by decide
  have a5 : (0 : Int) < 2003 ∧ (2003 : Int) < 1073741824 := by decide
  have a6 : (0 : Int) < 16 ∧ (16 : Int) < 1073741824 := by decide
  have c1 : -(2 ^ 64) < (7919 : Int) ∧ (7919 : Int) < 2 ^ 64 := by decide
  have c2 : -(2 ^ 64) < (48271 : Int) ∧ (48271 : Int) < 2 ^ 64 := by decide
  have c3 : -(2 ^ 64) < (69621 : Int) ∧ (69621 : Int) < 2 ^ 64 := by decide
  have c4 : -(2 ^ 64) < (40692 : Int) ∧ (40692 : Int) < 2 ^ 64 := by decide
  have b1 : ∀ y z : Int, -(2 ^ 64) < (y + 7919 * (z + 1)) * 48271 % 2147483647 ∧ (y + 7919 * (z + 1)) * 48271 % 2147483647 < 2 ^ 64 := fun y z => by have := n1_b y z; unfold n1 at this; omega
  have b2 : ∀ n : Int, -(2 ^ 64) < n * (n / 1009 + 69621) % 2147483647 ∧ n * (n / 1009 + 69621) % 2147483647 < 2 ^ 64 := fun n => by have := n2_b n; unfold n2 at this; omega
  by_cases h0 : x = 0
  · subst h0
    by_cases hl : i < cs.length
    · obtain ⟨cell, hcell⟩ : ∃ cell, (cs.map AV.int)[i.toNat]? = some (.int cell) := ⟨cs[i.toNat]'(by omega), by rw [List.getElem?_map, List.getElem?_eq_getElem (by omega)]; rfl⟩
      by_cases h18 : (10 : Int) ^ 18 ≤ cell
      · have hp : (0 : Int) < cell := Int.lt_of_lt_of_le (by decide) h18
        refine ⟨cell % many, hand cs (i + 1) (cell / many) ((y * 69621 + cell * 40692 + 31) % 2147483629) z, ?_, Int.emod_nonneg _ (by omega), Int.emod_lt_of_pos _ hm, cs, i + 1, _, _, z, rfl, by omega, Int.ediv_nonneg (by omega) (by omega)⟩
        unfold f__law_draw m__law_draw
        simp only [bodyM, sSeq, sIf, sThen, sSet, sRet, sRetN, sNext, sExpr, sPutIx, sAsg, sPar, sAug, sExc, mAnd, mOr, mNot, mIf, mT, mB, mAndV, mOrV, mNotV, m2, m1, mN, mNL, mV, mC, mLst, mTup, mLs, mLC, mLstC, newC, mSl, oNo, oYes, mChain, mChain, mCall, aNil, aCons, M.bnd, M.ret, M.bad, rd, gN, gT, gSeq, mF, frzA, mLM, mLM0, mItS, mItL, mItT, mEnum, mRng1, mRng2, List.map_cons, List.map_nil, List.replicate, List.cons_append, List.nil_append, List.getElem?_cons_zero, List.getElem?_cons_succ, List.set_cons_zero, List.set_cons_succ, List.length_cons, List.length_nil, Option.bind_some, Option.bind_none, Option.map_some, Option.map_none, if_true, if_false, ite_true, ite_false, Bool.false_eq_true, reduceIte, reduceCtorEq, ix0, ix1, ix2, ix3, ix4, pu1, pu2, pu3, pu4, eqA_int, ltA_int, gtA_int, geA_int, lenA_lst, List.length_map, hl, decide_true, decide_false, p18, h18, hp, ixA_lst hi hcell, intA_int, addA_int, mulA_r c3, mulA_r c4, modA_int a3, modA_int hm, fdivA_int hm h2]
      · refine ⟨drawN ((y * 69621 + cell * 40692 + 31) % 2147483629) z many, hand cs (i + 1) 0 ((y * 69621 + cell * 40692 + 31) % 2147483629) (z + 1), ?_, Int.emod_nonneg _ (by omega), Int.emod_lt_of_pos _ hm, cs, i + 1, _, _, _, rfl, by omega, by omega⟩
        unfold f__law_draw m__law_draw
        simp only [bodyM, sSeq, sIf, sThen, sSet, sRet, sRetN, sNext, sExpr, sPutIx, sAsg, sPar, sAug, sExc, mAnd, mOr, mNot, mIf, mT, mB, mAndV, mOrV, mNotV, m2, m1, mN, mNL, mV, mC, mLst, mTup, mLs, mLC, mLstC, newC, mSl, oNo, oYes, mChain, mChain, mCall, aNil, aCons, M.bnd, M.ret, M.bad, rd, gN, gT, gSeq, mF, frzA, mLM, mLM0, mItS, mItL, mItT, mEnum, mRng1, mRng2, List.map_cons, List.map_nil, List.replicate, List.cons_append, List.nil_append, List.getElem?_cons_zero, List.getElem?_cons_succ, List.set_cons_zero, List.set_cons_succ, List.length_cons, List.length_nil, Option.bind_some, Option.bind_none, Option.map_some, Option.map_none, if_true, if_false, ite_true, ite_false, Bool.false_eq_true, reduceIte, reduceCtorEq, ix0, ix1, ix2, ix3, ix4, pu1, pu2, pu3, pu4, eqA_int, ltA_int, gtA_int, geA_int, lenA_lst, List.length_map, hl, decide_true, decide_false, p18, h18, ixA_lst hi hcell, intA_int, addA_int, mulA_r c3, mulA_r c4, modA_int a3, modA_int hm, fdivA_int hm h2, Int.lt_irrefl, mulA_l c1, mulA_r c2, modA_int a1, modA_int a2, fdivA_int a4.1 a4.2, fdivA_int a5.1 a5.2, fdivA_int a6.1 a6.2, mulA_l (b1 _ _), mulA_l (b2 _)]
        rfl
    · refine ⟨drawN y z many, hand cs i 0 y (z + 1), ?_, Int.emod_nonneg _ (by omega), Int.emod_lt_of_pos _ hm, cs, i, _, _, _, rfl, by omega, by omega⟩
      unfold f__law_draw m__law_draw
      simp only [bodyM, sSeq, sIf, sThen, sSet, sRet, sRetN, sNext, sExpr, sPutIx, sAsg, sPar, sAug, sExc, mAnd, mOr, mNot, mIf, mT, mB, mAndV, mOrV, mNotV, m2, m1, mN, mNL, mV, mC, mLst, mTup, mLs, mLC, mLstC, newC, mSl, oNo, oYes, mChain, mChain, mCall, aNil, aCons, M.bnd, M.ret, M.bad, rd, gN, gT, gSeq, mF, frzA, mLM, mLM0, mItS, mItL, mItT, mEnum, mRng1, mRng2, List.map_cons, List.map_nil, List.replicate, List.cons_append, List.nil_append, List.getElem?_cons_zero, List.getElem?_cons_succ, List.set_cons_zero, List.set_cons_succ, List.length_cons, List.length_nil, Option.bind_some, Option.bind_none, Option.map_some, Option.map_none, if_true, if_false, ite_true, ite_false, Bool.false_eq_true, reduceIte, reduceCtorEq, ix0, ix1, ix2, ix3, ix4, pu1, pu2, pu3, pu4, eqA_int, ltA_int, gtA_int, geA_int, lenA_lst, List.length_map, hl, decide_true, decide_false, intA_int, addA_int, modA_int hm, Int.lt_irrefl, mulA_l c1, mulA_r c2, modA_int a1, modA_int a2, fdivA_int a4.1 a4.2, fdivA_int a5.1 a5.2, fdivA_int a6.1 a6.2, mulA_l (b1 _ _), mulA_l (b2 _)]
      rfl
  · have hp : 0 < x := by omega
    refine ⟨x % many, hand cs i (x / many) y z, ?_, Int.emod_nonneg _ (by omega), Int.emod_lt_of_pos _ hm, cs, i, x / many, y, z, rfl, hi, Int.ediv_nonneg hx (by omega)⟩
    unfold f__law_draw m__law_draw
    simp only [bodyM, sSeq, sIf, sThen, sSet, sRet, sRetN, sNext, sExpr, sPutIx, sAsg, sPar, sAug, sExc, mAnd, mOr, mNot, mIf, mT, mB, mAndV, mOrV, mNotV, m2, m1, mN, mNL, mV, mC, mLst, mTup, mLs, mLC, mLstC, newC, mSl, oNo, oYes, mChain, mChain, mCall, aNil, aCons, M.bnd, M.ret, M.bad, rd, gN, gT, gSeq, mF, frzA, mLM, mLM0, mItS, mItL, mItT, mEnum, mRng1, mRng2, List.map_cons, List.map_nil, List.replicate, List.cons_append, List.nil_append, List.getElem?_cons_zero, List.getElem?_cons_succ, List.set_cons_zero, List.set_cons_succ, List.length_cons, List.length_nil, Option.bind_some, Option.bind_none, Option.map_some, Option.map_none, if_true, if_false, ite_true, ite_false, Bool.false_eq_true, reduceIte, reduceCtorEq, ix2, pu2, eqA_int, h0, hp, gtA_int, decide_true, decide_false, intA_int, modA_int hm, fdivA_int hm h2]

theorem HandOk.noCC {c : Cell} (h : HandOk c) : noCC c = true := by
  obtain ⟨cs, i, x, y, z, rfl, _, _⟩ := h
  show noCs _ = true
  rw [noCs]
  show (noCs (cs.map AV.int) && true) = true
  rw [noCs_map (fun _ => rfl)]
  rfl
theorem draw_at {h : Hs} {n : Nat} {c : Cell} {many : Int} (hn : h[n]? = some c) (hc : HandOk c) (h1 : 1 ≤ many) (h2 : many < 1073741824) : ∃ d c', callH 2 f__law_draw [.cell n, .int many] h = .ok (.int d) (h.set n c') ∧ 0 ≤ d ∧ d < many ∧ HandOk c' := by
  obtain ⟨d, c', e, q1, q2, q3⟩ := draw_ok hc h1 h2
  exact ⟨d, c', callH_ok (m := f__law_draw) (avs := [.int many]) hn e rfl rfl hc.noCC rfl q3.noCC, q1, q2, q3⟩
theorem any_ok {c : Cell} {xs : List AV} (hc : HandOk c) (h1 : 1 ≤ xs.length) (h2 : xs.length < 1073741824) : ∃ a c', f__law_any [.cell 0, .lst xs] [c] = .ok a [c'] ∧ a ∈ xs ∧ HandOk c' := by
  obtain ⟨d, c', e, q1, q2, q3⟩ := draw_at (h := [c]) (n := 0) (many := xs.length) rfl hc (by omega) (by omega)
  have hl : d.toNat < xs.length := by omega
  refine ⟨xs[d.toNat], c', ?_, List.getElem_mem hl, q3⟩
  have ix : ixA [c'] (.lst xs) (.int d) = some xs[d.toNat] := ixA_lst q1 (List.getElem?_eq_getElem hl)
  have e2 : callH 2 f__law_draw [.cell 0, .int xs.length] [c] = .ok (.int d) [c'] := e
  unfold f__law_any m__law_any
  simp only [bodyM, sRet, sThen, m2, mV, mCall, aCons, aNil, mN, M.bnd, M.ret, rd, List.map_cons, List.map_nil, List.replicate, List.cons_append, List.nil_append, List.getElem?_cons_zero, List.getElem?_cons_succ, lenA_lst, e2, ix]
theorem any_at {h : Hs} {n : Nat} {c : Cell} {xs : List AV} (hn : h[n]? = some c) (hc : HandOk c) (h1 : 1 ≤ xs.length) (h2 : xs.length < 1073741824) (hx : noCs xs = true) : ∃ a c', callH 2 f__law_any [.cell n, .lst xs] h = .ok a (h.set n c') ∧ a ∈ xs ∧ HandOk c' := by
  obtain ⟨a, c', e, q1, q2⟩ := any_ok hc h1 h2
  exact ⟨a, c', callH_ok (m := f__law_any) (avs := [.lst xs]) hn e rfl (by rw [noCs]; show (noCs xs && true) = true; rw [hx]; rfl) hc.noCC (noCs_mem hx q1) q2.noCC, q1, q2⟩
end LW

set_option Elab.async false
set_option linter.all false
set_option maxRecDepth 100000
set_option maxHeartbeats 2000000
namespace LW
open PySem L2 Sim MB
theorem within_int {i a b : Int} : f_is_within [.int i, .int a, .int b] [] = .ok (.bl (decide (a ≤ i) && decide (i ≤ b))) [] := by
  have e : callP 1 f_is_integer [.int i] [] = .ok (.bl true) [] := rfl
  unfold f_is_within m_is_within
  by_cases h1 : a ≤ i <;> simp only [bodyM, sSeq, sIf, sThen, sSet, sRet, sRetN, sNext, sExpr, sPutIx, sAsg, sPar, sAug, sExc, mAnd, mOr, mNot, mIf, mT, mB, mAndV, mOrV, mNotV, m2, m1, mN, mNL, mV, mC, mLst, mTup, mLs, mLC, mLstC, newC, mSl, oNo, oYes, mChain, mChain, mCall, aNil, aCons, M.bnd, M.ret, M.bad, rd, gN, gT, gSeq, mF, frzA, mLM, mLM0, mItS, mItL, mItT, mEnum, mRng1, mRng2, List.map_cons, List.map_nil, List.replicate, List.cons_append, List.nil_append, List.getElem?_cons_zero, List.getElem?_cons_succ, List.set_cons_zero, List.set_cons_succ, List.length_cons, List.length_nil, Option.bind_some, Option.bind_none, Option.map_some, Option.map_none, if_true, if_false, ite_true, ite_false, Bool.false_eq_true, reduceIte, reduceCtorEq, leA_int, e, h1, decide_true, decide_false, Bool.true_and, Bool.false_and]
theorem within_P {h : Hs} {i a b : Int} : callP 3 f_is_within [.int i, .int a, .int b] h = .ok (.bl (decide (a ≤ i) && decide (i ≤ b))) h := callP_ok within_int rfl rfl rfl
theorem people_ok {h : Hs} {i b : Int} (h1 : 1 ≤ i) (h2 : i ≤ b) : callP 2 f_check_people [.int i, .int b] h = .ok .non h := by
  refine callP_ok (h' := []) ?_ rfl rfl rfl
  unfold f_check_people m_check_people
  simp only [bodyM, sSeq, sIf, sThen, sSet, sRet, sRetN, sNext, sExpr, sPutIx, sAsg, sPar, sAug, sExc, mAnd, mOr, mNot, mIf, mT, mB, mAndV, mOrV, mNotV, m2, m1, mN, mNL, mV, mC, mLst, mTup, mLs, mLC, mLstC, newC, mSl, oNo, oYes, mChain, mChain, mCall, aNil, aCons, M.bnd, M.ret, M.bad, rd, gN, gT, gSeq, mF, frzA, mLM, mLM0, mItS, mItL, mItT, mEnum, mRng1, mRng2, List.map_cons, List.map_nil, List.replicate, List.cons_append, List.nil_append, List.getElem?_cons_zero, List.getElem?_cons_succ, List.set_cons_zero, List.set_cons_succ, List.length_cons, List.length_nil, Option.bind_some, Option.bind_none, Option.map_some, Option.map_none, if_true, if_false, ite_true, ite_false, Bool.false_eq_true, reduceIte, reduceCtorEq, within_P, h1, h2, decide_true, Bool.and_true, Bool.not_true]
theorem inR_small {i : Int} (h1 : -4611686018427387904 < i) (h2 : i < 4611686018427387904) : inR i = true := by
  exact lg_mk (k := 62) (by decide) (by omega) (by omega)
theorem rng1 {m : EM AV} {env : AEnv} {h h' : Hs} {n : Int} (e : m env h = .ok (.int n) h') (h0 : 0 ≤ n) (hn : n < 4611686018427387904) : mRng1 m env h = .ok (rngL 0 n) h' := by
  have hr := inR_small (i := n) (by omega) hn
  unfold mRng1 M.bnd
  rw [e]
  simp only [int?, Option.bind_some, hr, if_true, rd]
theorem rng2 {m m' : EM AV} {env : AEnv} {h h' h2 : Hs} {a n : Int} (e : m env h = .ok (.int a) h') (e2 : m' env h' = .ok (.int n) h2) (h0 : 0 ≤ a) (h1 : a < 4611686018427387904) (h0 : 0 ≤ n) (hn : n < 4611686018427387904) : mRng2 m m' env h = .ok (rngL a n) h2 := by
  have hr := inR_small (i := n) (by omega) hn
  have hr2 := inR_small (i := a) (by omega) h1
  unfold mRng2 M.bnd
  rw [e]
  dsimp only [M.bnd]
  rw [e2]
  simp only [int?, Option.bind_some, hr, hr2, and_self, if_true, rd]
theorem many_ok {h : Hs} {i b : Int} (h1 : i ≤ b) : callP 2 f_check_many [.int i, .int b] h = .ok .non h := by
  refine callP_ok (h' := []) ?_ rfl rfl rfl
  unfold f_check_many m_check_many
  have : ¬ b < i := by omega
  simp only [bodyM, sSeq, sIf, sThen, sSet, sRet, sRetN, sNext, sExpr, sPutIx, sAsg, sPar, sAug, sExc, mAnd, mOr, mNot, mIf, mT, mB, mAndV, mOrV, mNotV, m2, m1, mN, mNL, mV, mC, mLst, mTup, mLs, mLC, mLstC, newC, mSl, oNo, oYes, mChain, mChain, mCall, aNil, aCons, M.bnd, M.ret, M.bad, rd, gN, gT, gSeq, mF, frzA, mLM, mLM0, mItS, mItL, mItT, mEnum, mRng1, mRng2, List.map_cons, List.map_nil, List.replicate, List.cons_append, List.nil_append, List.getElem?_cons_zero, List.getElem?_cons_succ, List.set_cons_zero, List.set_cons_succ, List.length_cons, List.length_nil, Option.bind_some, Option.bind_none, Option.map_some, Option.map_none, if_true, if_false, ite_true, ite_false, Bool.false_eq_true, reduceIte, reduceCtorEq, gtA_int, this, decide_false]
/-! ### crowds -/
abbrev ctA (b : Nat) : AV := tupA (cr b)
theorem noC_tupA (ns : List Int) : noC (tupA ns) = true := by
  show noCs (ns.map AV.int) = true
  exact noCs_map (fun _ => rfl) ns
theorem noCs_ct (Ls : List Nat) : noCs (Ls.map ctA) = true := noCs_map (fun b => noC_tupA _) Ls
theorem small_cr {b : Nat} (hb : b < 4096) : (cr b).length ≤ sizeLine := Nat.le_trans (cr_len_n (n := 12) hb) (by decide)
theorem cr_nat {b : Nat} {x : Int} (hb : b < 4096) (hx : x ∈ cr b) : ∃ i : Nat, x = i ∧ i < 12 := by
  have := cr_range (n := 12) hb hx
  exact ⟨x.toNat, by omega, by omega⟩
theorem bits_ok {b : Nat} {h : Hs} (hb : b < 4096) : callP 1 f_bits_of [ctA b] h = .ok (.int b) h := by
  refine callP_ok (h' := []) ?_ rfl (by rw [noCs, noC_tupA]; rfl) rfl
  have e1 : K_bits_of_0 [some (ctA b), none] [] = .ok ((cr b).map fun p => AV.int ((2 : Int) ^ p.toNat)) [] := by
    unfold K_bits_of_0
    refine mLc_jm (xs := cr b) (h' := []) AV.int (fun p => AV.int ((2 : Int) ^ p.toNat)) rfl (small_cr hb) fun p hp => ⟨_, rfl, ?_⟩
    obtain ⟨i, rfl, hi⟩ := cr_nat hb hp
    have : shlA [] (.int 1) (.int i) = some (.int ((2 ^ i : Nat) : Int)) := shlA_one (Nat.lt_of_lt_of_le hi (by decide))
    simp only [wipeE, bodyM, sSeq, sIf, sThen, sSet, sRet, sRetN, sNext, sExpr, sPutIx, sAsg, sPar, sAug, sExc, mAnd, mOr, mNot, mIf, mT, mB, mAndV, mOrV, mNotV, m2, m1, mN, mNL, mV, mC, mLst, mTup, mLs, mLC, mLstC, newC, mSl, oNo, oYes, mChain, mChain, mCall, aNil, aCons, M.bnd, M.ret, M.bad, rd, gN, gT, gSeq, mF, frzA, mLM, mLM0, mItS, mItL, mItT, mEnum, mRng1, mRng2, List.map_cons, List.map_nil, List.replicate, List.cons_append, List.nil_append, List.getElem?_cons_zero, List.getElem?_cons_succ, List.set_cons_zero, List.set_cons_succ, List.length_cons, List.length_nil, Option.bind_some, Option.bind_none, Option.map_some, Option.map_none, if_true, if_false, ite_true, ite_false, Bool.false_eq_true, reduceIte, reduceCtorEq, this, Int.toNat_natCast, Int.natCast_pow]
    rfl
  unfold f_bits_of m_bits_of
  have e2 : ((cr b).map fun p => AV.int ((2 : Int) ^ p.toNat)) = ((cr b).map fun p => (2 : Int) ^ p.toNat).map AV.int := by rw [List.map_map]; rfl
  simp only [bodyM, sSeq, sIf, sThen, sSet, sRet, sRetN, sNext, sExpr, sPutIx, sAsg, sPar, sAug, sExc, mAnd, mOr, mNot, mIf, mT, mB, mAndV, mOrV, mNotV, m2, m1, mN, mNL, mV, mC, mLst, mTup, mLs, mLC, mLstC, newC, mSl, oNo, oYes, mChain, mChain, mCall, aNil, aCons, M.bnd, M.ret, M.bad, rd, gN, gT, gSeq, mF, frzA, mLM, mLM0, mItS, mItL, mItT, mEnum, mRng1, mRng2, List.map_cons, List.map_nil, List.replicate, List.cons_append, List.nil_append, List.getElem?_cons_zero, List.getElem?_cons_succ, List.set_cons_zero, List.set_cons_succ, List.length_cons, List.length_nil, Option.bind_some, Option.bind_none, Option.map_some, Option.map_none, if_true, if_false, ite_true, ite_false, Bool.false_eq_true, reduceIte, reduceCtorEq, e1, e2, sumA_ints, MB.cr_sum]
theorem crowd_ok {b : Nat} {h : Hs} (hb : b < 4096) : callP 1 f_crowd_of [.int b] h = .ok (ctA b) h := by
  refine callP_ok (h' := []) ?_ rfl rfl (noC_tupA _)
  have hk : Builtin.Int.intBits b ≤ 4096 := Nat.le_trans (intBits_le b) (Nat.le_of_lt hb)
  have e1 : K_crowd_of_0 [some (.int b), none] [] = .ok ((cr b).map AV.int) [] := by
    unfold K_crowd_of_0
    have q := mLc_jf (vs := [1]) (mi := mRng1 (m1 bitsA (mV 0))) (g := gN 1) (t := mT (m2 eqA (m2 andA (m2 shrA (mV 0) (mV 1)) (mC (.int 1))) (mC (.int 1)))) (e := mV 1) (env := [some (.int b), none]) (h := []) (h' := []) (xs := List.range (Builtin.Int.intBits b)) (fun i : Nat => AV.int i) (fun i => b.testBit i) (fun i => AV.int i) (by
      rw [rng1 (n := (Builtin.Int.intBits b : Nat)) rfl (by omega) (by omega), rngL_nat]) (by rw [List.length_range]; exact Nat.le_trans hk (by decide)) (fun i hi => by
      refine ⟨_, rfl, ?_, fun _ => rfl⟩
      have a1 : andA [] (.int ((b / 2 ^ i : Nat) : Int)) (.int 1) = some (.int ((b / 2 ^ i &&& 1 : Nat) : Int)) := andA_nat (b := 1)
      simp only [wipeE, bodyM, sSeq, sIf, sThen, sSet, sRet, sRetN, sNext, sExpr, sPutIx, sAsg, sPar, sAug, sExc, mAnd, mOr, mNot, mIf, mT, mB, mAndV, mOrV, mNotV, m2, m1, mN, mNL, mV, mC, mLst, mTup, mLs, mLC, mLstC, newC, mSl, oNo, oYes, mChain, mChain, mCall, aNil, aCons, M.bnd, M.ret, M.bad, rd, gN, gT, gSeq, mF, frzA, mLM, mLM0, mItS, mItL, mItT, mEnum, mRng1, mRng2, List.map_cons, List.map_nil, List.replicate, List.cons_append, List.nil_append, List.getElem?_cons_zero, List.getElem?_cons_succ, List.set_cons_zero, List.set_cons_succ, List.length_cons, List.length_nil, Option.bind_some, Option.bind_none, Option.map_some, Option.map_none, if_true, if_false, ite_true, ite_false, Bool.false_eq_true, reduceIte, reduceCtorEq, shrA_nat, a1, eqA_int]
      congr 1
      rw [Nat.testBit_eq_decide_div_mod_eq, Nat.and_one_is_mod]
      exact decide_eq_decide.mpr (by omega))
    rw [q, ← crn_cr (lt_intBits b)]
    unfold crn
    rw [List.map_map]
    rfl
  unfold f_crowd_of m_crowd_of
  simp only [bodyM, sSeq, sIf, sThen, sSet, sRet, sRetN, sNext, sExpr, sPutIx, sAsg, sPar, sAug, sExc, mAnd, mOr, mNot, mIf, mT, mB, mAndV, mOrV, mNotV, m2, m1, mN, mNL, mV, mC, mLst, mTup, mLs, mLC, mLstC, newC, mSl, oNo, oYes, mChain, mChain, mCall, aNil, aCons, M.bnd, M.ret, M.bad, rd, gN, gT, gSeq, mF, frzA, mLM, mLM0, mItS, mItL, mItT, mEnum, mRng1, mRng2, List.map_cons, List.map_nil, List.replicate, List.cons_append, List.nil_append, List.getElem?_cons_zero, List.getElem?_cons_succ, List.set_cons_zero, List.set_cons_succ, List.length_cons, List.length_nil, Option.bind_some, Option.bind_none, Option.map_some, Option.map_none, if_true, if_false, ite_true, ite_false, Bool.false_eq_true, reduceIte, reduceCtorEq, e1, tupleA_lst]
  rfl
theorem holds_ok {a b : Nat} {h : Hs} : callP 2 f_holds [.int a, .int b] h = .ok (.bl (wi b a)) h := by
  refine callP_ok (h' := []) ?_ rfl rfl rfl
  unfold f_holds m_holds
  simp only [bodyM, sSeq, sIf, sThen, sSet, sRet, sRetN, sNext, sExpr, sPutIx, sAsg, sPar, sAug, sExc, mAnd, mOr, mNot, mIf, mT, mB, mAndV, mOrV, mNotV, m2, m1, mN, mNL, mV, mC, mLst, mTup, mLs, mLC, mLstC, newC, mSl, oNo, oYes, mChain, mChain, mCall, aNil, aCons, M.bnd, M.ret, M.bad, rd, gN, gT, gSeq, mF, frzA, mLM, mLM0, mItS, mItL, mItT, mEnum, mRng1, mRng2, List.map_cons, List.map_nil, List.replicate, List.cons_append, List.nil_append, List.getElem?_cons_zero, List.getElem?_cons_succ, List.set_cons_zero, List.set_cons_succ, List.length_cons, List.length_nil, Option.bind_some, Option.bind_none, Option.map_some, Option.map_none, if_true, if_false, ite_true, ite_false, Bool.false_eq_true, reduceIte, reduceCtorEq, andA_nat, eqA_int]
  congr 2
  unfold wi
  rw [Bool.eq_iff_iff, decide_eq_true_iff, beq_iff_eq]
  omega
theorem all_ok {n : Nat} {h : Hs} (hn : n < 13) : callP 1 f_all_of [.int n] h = .ok (.int ((2 ^ n : Nat) - 1 : Int)) h := by
  refine callP_ok (h' := []) ?_ rfl rfl rfl
  have : shlA [] (.int 1) (.int n) = some (.int ((2 ^ n : Nat) : Int)) := shlA_one (Nat.lt_of_lt_of_le hn (by decide))
  unfold f_all_of m_all_of
  simp only [bodyM, sSeq, sIf, sThen, sSet, sRet, sRetN, sNext, sExpr, sPutIx, sAsg, sPar, sAug, sExc, mAnd, mOr, mNot, mIf, mT, mB, mAndV, mOrV, mNotV, m2, m1, mN, mNL, mV, mC, mLst, mTup, mLs, mLC, mLstC, newC, mSl, oNo, oYes, mChain, mChain, mCall, aNil, aCons, M.bnd, M.ret, M.bad, rd, gN, gT, gSeq, mF, frzA, mLM, mLM0, mItS, mItL, mItT, mEnum, mRng1, mRng2, List.map_cons, List.map_nil, List.replicate, List.cons_append, List.nil_append, List.getElem?_cons_zero, List.getElem?_cons_succ, List.set_cons_zero, List.set_cons_succ, List.length_cons, List.length_nil, Option.bind_some, Option.bind_none, Option.map_some, Option.map_none, if_true, if_false, ite_true, ite_false, Bool.false_eq_true, reduceIte, reduceCtorEq, this, subA_int]
theorem isiA_tup {h : Hs} {xs : List AV} : isiA h [.tup xs, .ty "tuple"] = some (.bl true) := rfl
theorem asc_ok {ns : List Int} {h : Hs} (hs : ns.Pairwise (· < ·)) (hl : ns.length ≤ 12) : callP 1 f_are_ascending [tupA ns] h = .ok (.bl true) h := by
  refine callP_ok (h' := []) ?_ rfl (by rw [noCs, noC_tupA]; rfl) rfl
  have e1 : K_are_ascending_0 [some (tupA ns), none] [] = .ok ((rngL 1 ns.length).map fun _ => AV.bl true) [] := by
    unfold K_are_ascending_0
    have hr : mRng2 (mC (.int 1)) (mN lenA (aCons (mV 0) aNil)) [some (tupA ns), none] [] = .ok (rngL 1 ns.length) [] := by
      refine rng2 (h' := []) rfl ?_ (by decide) (by decide) (by omega) (by omega)
      simp only [bodyM, sSeq, sIf, sThen, sSet, sRet, sRetN, sNext, sExpr, sPutIx, sAsg, sPar, sAug, sExc, mAnd, mOr, mNot, mIf, mT, mB, mAndV, mOrV, mNotV, m2, m1, mN, mNL, mV, mC, mLst, mTup, mLs, mLC, mLstC, newC, mSl, oNo, oYes, mChain, mChain, mCall, aNil, aCons, M.bnd, M.ret, M.bad, rd, gN, gT, gSeq, mF, frzA, mLM, mLM0, mItS, mItL, mItT, mEnum, mRng1, mRng2, List.map_cons, List.map_nil, List.replicate, List.cons_append, List.nil_append, List.getElem?_cons_zero, List.getElem?_cons_succ, List.set_cons_zero, List.set_cons_succ, List.length_cons, List.length_nil, Option.bind_some, Option.bind_none, Option.map_some, Option.map_none, if_true, if_false, ite_true, ite_false, Bool.false_eq_true, reduceIte, reduceCtorEq, tupA, lenA_tup, List.length_map]
    refine mLc_ok hr (by rw [rngL_len]; exact Nat.le_trans (by omega : _ ≤ 12) (by decide)) ?_
    refine lcL_map (f := fun _ => AV.bl true) fun x hx => ?_
    obtain ⟨k, hk⟩ := List.getElem?_of_mem hx
    obtain ⟨rfl, hlt⟩ := rngL_get hk
    have l1 : k < ns.length := by omega
    have l2 : k + 1 < ns.length := by omega
    have i1 : ixA [] (tupA ns) (.int (1 + (k : Int) - 1)) = some (.int ns[k]) := ixA_tup (by omega) (by rw [show (1 + (k : Int) - 1).toNat = k by omega, List.getElem?_map, List.getElem?_eq_getElem l1]; rfl)
    have i2 : ixA [] (tupA ns) (.int (1 + (k : Int))) = some (.int ns[k + 1]) := ixA_tup (by omega) (by rw [show (1 + (k : Int)).toNat = k + 1 by omega, List.getElem?_map, List.getElem?_eq_getElem l2]; rfl)
    have lt : ns[k] < ns[k + 1] := List.pairwise_iff_getElem.mp hs k (k + 1) l1 l2 (by omega)
    refine ⟨_, rfl, ?_⟩
    simp only [wipeE, bodyM, sSeq, sIf, sThen, sSet, sRet, sRetN, sNext, sExpr, sPutIx, sAsg, sPar, sAug, sExc, mAnd, mOr, mNot, mIf, mT, mB, mAndV, mOrV, mNotV, m2, m1, mN, mNL, mV, mC, mLst, mTup, mLs, mLC, mLstC, newC, mSl, oNo, oYes, mChain, mChain, mCall, aNil, aCons, M.bnd, M.ret, M.bad, rd, gN, gT, gSeq, mF, frzA, mLM, mLM0, mItS, mItL, mItT, mEnum, mRng1, mRng2, List.map_cons, List.map_nil, List.replicate, List.cons_append, List.nil_append, List.getElem?_cons_zero, List.getElem?_cons_succ, List.set_cons_zero, List.set_cons_succ, List.length_cons, List.length_nil, Option.bind_some, Option.bind_none, Option.map_some, Option.map_none, if_true, if_false, ite_true, ite_false, Bool.false_eq_true, reduceIte, reduceCtorEq, subA_int, i1, i2, ltA_int, lt, decide_true]
  unfold f_are_ascending m_are_ascending
  have e2 : ((rngL 1 ns.length).map fun _ => AV.bl true) = ((rngL 1 ns.length).map fun _ => true).map AV.bl := by rw [List.map_map]; rfl
  have e3 : ((rngL 1 ns.length).map fun _ => true).all id = true := by simp
  simp only [bodyM, sSeq, sIf, sThen, sSet, sRet, sRetN, sNext, sExpr, sPutIx, sAsg, sPar, sAug, sExc, mAnd, mOr, mNot, mIf, mT, mB, mAndV, mOrV, mNotV, m2, m1, mN, mNL, mV, mC, mLst, mTup, mLs, mLC, mLstC, newC, mSl, oNo, oYes, mChain, mChain, mCall, aNil, aCons, M.bnd, M.ret, M.bad, rd, gN, gT, gSeq, mF, frzA, mLM, mLM0, mItS, mItL, mItT, mEnum, mRng1, mRng2, List.map_cons, List.map_nil, List.replicate, List.cons_append, List.nil_append, List.getElem?_cons_zero, List.getElem?_cons_succ, List.set_cons_zero, List.set_cons_succ, List.length_cons, List.length_nil, Option.bind_some, Option.bind_none, Option.map_some, Option.map_none, if_true, if_false, ite_true, ite_false, Bool.false_eq_true, reduceIte, reduceCtorEq, e1, e2, allA_bls, e3]
theorem pers_ok {n : Nat} {b : Nat} {h : Hs} (hb : b < 2 ^ n) (hn : n ≤ 12) : callP 2 f_are_persons [.int n, ctA b] h = .ok (.bl true) h := by
  have hb2 : b < 4096 := Nat.lt_of_lt_of_le hb (Nat.pow_le_pow_right (n := 2) (by decide) hn)
  refine callP_ok (h' := []) ?_ rfl (by rw [noCs, noCs, noC_tupA]; rfl) rfl
  have e1 : K_are_persons_0 [some (.int n), some (ctA b), none] [] = .ok (((cr b).map fun _ => true).map AV.bl) [] := by
    unfold K_are_persons_0
    rw [List.map_map]
    refine mLc_jm (xs := cr b) (h' := []) AV.int (fun _ => AV.bl true) rfl (small_cr hb2) fun p hp => ⟨_, rfl, ?_⟩
    have r := cr_range hb hp
    have r1 : (0 : Int) ≤ p := r.1
    have r2 : p ≤ (n : Int) - 1 := by omega
    simp only [wipeE, bodyM, sSeq, sIf, sThen, sSet, sRet, sRetN, sNext, sExpr, sPutIx, sAsg, sPar, sAug, sExc, mAnd, mOr, mNot, mIf, mT, mB, mAndV, mOrV, mNotV, m2, m1, mN, mNL, mV, mC, mLst, mTup, mLs, mLC, mLstC, newC, mSl, oNo, oYes, mChain, mChain, mCall, aNil, aCons, M.bnd, M.ret, M.bad, rd, gN, gT, gSeq, mF, frzA, mLM, mLM0, mItS, mItL, mItT, mEnum, mRng1, mRng2, List.map_cons, List.map_nil, List.replicate, List.cons_append, List.nil_append, List.getElem?_cons_zero, List.getElem?_cons_succ, List.set_cons_zero, List.set_cons_succ, List.length_cons, List.length_nil, Option.bind_some, Option.bind_none, Option.map_some, Option.map_none, if_true, if_false, ite_true, ite_false, Bool.false_eq_true, reduceIte, reduceCtorEq, subA_int, within_P, r1, r2, decide_true, Bool.and_true]
  have e3 : ((cr b).map fun _ => true).all id = true := by simp
  have e4 : isiA [] [ctA b, .ty "tuple"] = some (.bl true) := rfl
  unfold f_are_persons m_are_persons
  simp only [bodyM, sSeq, sIf, sThen, sSet, sRet, sRetN, sNext, sExpr, sPutIx, sAsg, sPar, sAug, sExc, mAnd, mOr, mNot, mIf, mT, mB, mAndV, mOrV, mNotV, m2, m1, mN, mNL, mV, mC, mLst, mTup, mLs, mLC, mLstC, newC, mSl, oNo, oYes, mChain, mChain, mCall, aNil, aCons, M.bnd, M.ret, M.bad, rd, gN, gT, gSeq, mF, frzA, mLM, mLM0, mItS, mItL, mItT, mEnum, mRng1, mRng2, List.map_cons, List.map_nil, List.replicate, List.cons_append, List.nil_append, List.getElem?_cons_zero, List.getElem?_cons_succ, List.set_cons_zero, List.set_cons_succ, List.length_cons, List.length_nil, Option.bind_some, Option.bind_none, Option.map_some, Option.map_none, if_true, if_false, ite_true, ite_false, Bool.false_eq_true, reduceIte, reduceCtorEq, e4, e1, allA_bls, e3]
theorem iscrowd_ok {n : Nat} {b : Nat} {h : Hs} (hb : b < 2 ^ n) (hn : n ≤ 12) : callP 2 f_is_crowd [.int n, ctA b] h = .ok (.bl true) h := by
  refine callP_ok (h' := []) ?_ rfl (by rw [noCs, noCs, noC_tupA]; rfl) rfl
  unfold f_is_crowd m_is_crowd
  simp only [bodyM, sSeq, sIf, sThen, sSet, sRet, sRetN, sNext, sExpr, sPutIx, sAsg, sPar, sAug, sExc, mAnd, mOr, mNot, mIf, mT, mB, mAndV, mOrV, mNotV, m2, m1, mN, mNL, mV, mC, mLst, mTup, mLs, mLC, mLstC, newC, mSl, oNo, oYes, mChain, mChain, mCall, aNil, aCons, M.bnd, M.ret, M.bad, rd, gN, gT, gSeq, mF, frzA, mLM, mLM0, mItS, mItL, mItT, mEnum, mRng1, mRng2, List.map_cons, List.map_nil, List.replicate, List.cons_append, List.nil_append, List.getElem?_cons_zero, List.getElem?_cons_succ, List.set_cons_zero, List.set_cons_succ, List.length_cons, List.length_nil, Option.bind_some, Option.bind_none, Option.map_some, Option.map_none, if_true, if_false, ite_true, ite_false, Bool.false_eq_true, reduceIte, reduceCtorEq, pers_ok hb hn, asc_ok (cr_sorted b) (Nat.le_trans (cr_len_n hb) hn)]
theorem islot_ok {n : Nat} {b : Nat} {h : Hs} (hb : b < 2 ^ n) (hn : n ≤ 12) (h2 : 1 < (cr b).length) : callP 2 f_is_lot [.int n, ctA b] h = .ok (.bl true) h := by
  refine callP_ok (h' := []) ?_ rfl (by rw [noCs, noCs, noC_tupA]; rfl) rfl
  have e4 : lenA [] [ctA b] = some (.int (cr b).length) := by unfold ctA tupA; rw [lenA_tup, List.length_map]
  have e5 : (1 : Int) < (cr b).length := by omega
  unfold f_is_lot m_is_lot
  simp only [bodyM, sSeq, sIf, sThen, sSet, sRet, sRetN, sNext, sExpr, sPutIx, sAsg, sPar, sAug, sExc, mAnd, mOr, mNot, mIf, mT, mB, mAndV, mOrV, mNotV, m2, m1, mN, mNL, mV, mC, mLst, mTup, mLs, mLC, mLstC, newC, mSl, oNo, oYes, mChain, mChain, mCall, aNil, aCons, M.bnd, M.ret, M.bad, rd, gN, gT, gSeq, mF, frzA, mLM, mLM0, mItS, mItL, mItT, mEnum, mRng1, mRng2, List.map_cons, List.map_nil, List.replicate, List.cons_append, List.nil_append, List.getElem?_cons_zero, List.getElem?_cons_succ, List.set_cons_zero, List.set_cons_succ, List.length_cons, List.length_nil, Option.bind_some, Option.bind_none, Option.map_some, Option.map_none, if_true, if_false, ite_true, ite_false, Bool.false_eq_true, reduceIte, reduceCtorEq, iscrowd_ok hb hn, e4, gtA_int, e5, decide_true]
theorem checkcrowd_ok {n : Nat} {b : Nat} {h : Hs} (hb : b < 2 ^ n) (hn : n ≤ 12) : callP 2 f_check_crowd [.int n, ctA b] h = .ok .non h := by
  refine callP_ok (h' := []) ?_ rfl (by rw [noCs, noCs, noC_tupA]; rfl) rfl
  unfold f_check_crowd m_check_crowd
  simp only [bodyM, sSeq, sIf, sThen, sSet, sRet, sRetN, sNext, sExpr, sPutIx, sAsg, sPar, sAug, sExc, mAnd, mOr, mNot, mIf, mT, mB, mAndV, mOrV, mNotV, m2, m1, mN, mNL, mV, mC, mLst, mTup, mLs, mLC, mLstC, newC, mSl, oNo, oYes, mChain, mChain, mCall, aNil, aCons, M.bnd, M.ret, M.bad, rd, gN, gT, gSeq, mF, frzA, mLM, mLM0, mItS, mItL, mItT, mEnum, mRng1, mRng2, List.map_cons, List.map_nil, List.replicate, List.cons_append, List.nil_append, List.getElem?_cons_zero, List.getElem?_cons_succ, List.set_cons_zero, List.set_cons_succ, List.length_cons, List.length_nil, Option.bind_some, Option.bind_none, Option.map_some, Option.map_none, if_true, if_false, ite_true, ite_false, Bool.false_eq_true, reduceIte, reduceCtorEq, iscrowd_ok hb hn, Bool.not_true]
end LW

set_option Elab.async false
set_option linter.all false
set_option maxRecDepth 100000
set_option maxHeartbeats 2000000
namespace LW
open PySem L2 Sim MB
local instance tabN : TabT := ⟨[]⟩
def bk (c : Str) (n : Nat) (Ls : List Nat) : AV := .obj c [("people", .int n), ("lots", .tup (Ls.map ctA)), ("masks", .lst (Ls.map fun b : Nat => AV.int b))]
def BkC (c : Str) : Prop := c = "Book" ∨ c = "RawBook"
theorem fld_people {h : Hs} {c : Str} {n : Nat} {Ls : List Nat} (hc : BkC c) : fldA ["Book", "RawBook"] "people" h (bk c n Ls) = some (.int n) := by rcases hc with rfl | rfl <;> rfl
theorem fld_lots {h : Hs} {c : Str} {n : Nat} {Ls : List Nat} (hc : BkC c) : fldA ["Book", "RawBook"] "lots" h (bk c n Ls) = some (.tup (Ls.map ctA)) := by rcases hc with rfl | rfl <;> rfl
theorem fld_masks {h : Hs} {c : Str} {n : Nat} {Ls : List Nat} (hc : BkC c) : fldA ["Book", "RawBook"] "masks" h (bk c n Ls) = some (.lst (Ls.map fun b : Nat => AV.int b)) := by rcases hc with rfl | rfl <;> rfl
theorem noC_bk {c : Str} {n : Nat} {Ls : List Nat} : noC (bk c n Ls) = true := by
  show (noC (.int n) && (noCs (Ls.map ctA) && (noCs (Ls.map fun b : Nat => AV.int b) && true))) = true
  rw [noCs_ct, noCs_map (fun _ => rfl)]
  rfl
theorem noC1 {a : AV} (h : noC a = true) : noCs [a] = true := by rw [noCs, h]; rfl
theorem noC2 {a b : AV} (h : noC a = true) (k : noC b = true) : noCs [a, b] = true := by rw [noCs, h, noC1 k]; rfl
theorem mb12 {n b : Nat} (hb : b < 2 ^ n) (hn : n ≤ 12) : b < 4096 := Nat.lt_of_lt_of_le hb (Nat.pow_le_pow_right (n := 2) (by decide) hn)
theorem clrbits_ok {c : Str} {n b : Nat} {Ls : List Nat} {h : Hs} (hc : BkC c) (hl : Ls.length ≤ sizeLine) : callP 2 f_is_clear_bits [bk c n Ls, .int b] h = .ok (.bl (clr Ls b)) h := by
  refine callP_ok (h' := []) ?_ rfl (noC2 noC_bk rfl) rfl
  have e1 : K_is_clear_bits_0 [some (bk c n Ls), some (.int b), none] [] = .ok ((Ls.map fun m => wi m b).map AV.bl) [] := by
    unfold K_is_clear_bits_0
    rw [List.map_map]
    refine mLc_jm (xs := Ls) (h' := []) (fun m : Nat => AV.int m) (fun m => AV.bl (wi m b)) ?_ hl fun m hm => ⟨_, rfl, ?_⟩
    · simp only [bodyM, sSeq, sIf, sThen, sSet, sRet, sRetN, sNext, sExpr, sPutIx, sAsg, sPar, sAug, sExc, mAnd, mOr, mNot, mIf, mT, mB, mAndV, mOrV, mNotV, m2, m1, mN, mNL, mV, mC, mLst, mTup, mLs, mLC, mLstC, newC, mSl, oNo, oYes, mChain, mChain, mCall, aNil, aCons, M.bnd, M.ret, M.bad, rd, gN, gT, gSeq, mF, frzA, mLM, mLM0, mItS, mItL, mItT, mEnum, mRng1, mRng2, List.map_cons, List.map_nil, List.replicate, List.cons_append, List.nil_append, List.getElem?_cons_zero, List.getElem?_cons_succ, List.set_cons_zero, List.set_cons_succ, List.length_cons, List.length_nil, Option.bind_some, Option.bind_none, Option.map_some, Option.map_none, if_true, if_false, ite_true, ite_false, Bool.false_eq_true, reduceIte, reduceCtorEq, fld_masks hc]
    · simp only [wipeE, bodyM, sSeq, sIf, sThen, sSet, sRet, sRetN, sNext, sExpr, sPutIx, sAsg, sPar, sAug, sExc, mAnd, mOr, mNot, mIf, mT, mB, mAndV, mOrV, mNotV, m2, m1, mN, mNL, mV, mC, mLst, mTup, mLs, mLC, mLstC, newC, mSl, oNo, oYes, mChain, mChain, mCall, aNil, aCons, M.bnd, M.ret, M.bad, rd, gN, gT, gSeq, mF, frzA, mLM, mLM0, mItS, mItL, mItT, mEnum, mRng1, mRng2, List.map_cons, List.map_nil, List.replicate, List.cons_append, List.nil_append, List.getElem?_cons_zero, List.getElem?_cons_succ, List.set_cons_zero, List.set_cons_succ, List.length_cons, List.length_nil, Option.bind_some, Option.bind_none, Option.map_some, Option.map_none, if_true, if_false, ite_true, ite_false, Bool.false_eq_true, reduceIte, reduceCtorEq, holds_ok]
  unfold f_is_clear_bits m_is_clear_bits
  simp only [bodyM, sSeq, sIf, sThen, sSet, sRet, sRetN, sNext, sExpr, sPutIx, sAsg, sPar, sAug, sExc, mAnd, mOr, mNot, mIf, mT, mB, mAndV, mOrV, mNotV, m2, m1, mN, mNL, mV, mC, mLst, mTup, mLs, mLC, mLstC, newC, mSl, oNo, oYes, mChain, mChain, mCall, aNil, aCons, M.bnd, M.ret, M.bad, rd, gN, gT, gSeq, mF, frzA, mLM, mLM0, mItS, mItL, mItT, mEnum, mRng1, mRng2, List.map_cons, List.map_nil, List.replicate, List.cons_append, List.nil_append, List.getElem?_cons_zero, List.getElem?_cons_succ, List.set_cons_zero, List.set_cons_succ, List.length_cons, List.length_nil, Option.bind_some, Option.bind_none, Option.map_some, Option.map_none, if_true, if_false, ite_true, ite_false, Bool.false_eq_true, reduceIte, reduceCtorEq, e1, anyA_bls, List.any_map]
  rfl
/-! ### minimal -/
def ltC (a b : Nat) : Bool := HT.lexLt (cr a) (cr b)
theorem fold_len {κ β α : Type} [DecidableEq κ] (k : α → κ) (v : α → β) : ∀ (xs : List α) (acc : List (κ × β)), (xs.foldl (fun a x => putG a (k x) (v x)) acc).length ≤ acc.length + xs.length
  | [], acc => by simp
  | x :: xs, acc => by
    rw [List.foldl_cons]
    have h1 := fold_len k v xs (putG acc (k x) (v x))
    have h2 := putG_len acc (k x) (v x)
    rw [List.length_cons]
    omega
theorem keys_nat {β : Type} (hs : List Nat) (v : Nat → β) : ∃ ks : List Nat, (hs.foldl (fun (a : List (Key × β)) (x : Nat) => putG a (Sum.inl (x : Int) : Key) (v x)) []).map (·.1) = ks.map (fun m : Nat => (Sum.inl (m : Int) : Key)) ∧ ks.Nodup ∧ (∀ m, m ∈ ks ↔ m ∈ hs) ∧ ks.length ≤ hs.length := by
  obtain ⟨h1, h2⟩ := fold_keys (fun x : Nat => (Sum.inl (x : Int) : Key)) v hs [] List.nodup_nil
  have h3 := fold_len (fun x : Nat => (Sum.inl (x : Int) : Key)) v hs []
  rw [← List.length_map (f := (·.1))] at h3
  generalize (hs.foldl (fun (a : List (Key × β)) (x : Nat) => putG a (Sum.inl (x : Int) : Key) (v x)) []).map (·.1) = K at h1 h2 h3 ⊢
  let un : Key → Nat := fun k => match k with | .inl i => i.toNat | _ => 0
  have e : K = (K.map un).map (fun m : Nat => (Sum.inl (m : Int) : Key)) := by
    rw [List.map_map]
    conv => lhs; rw [← List.map_id K]
    refine List.map_congr_left fun k hk => ?_
    rcases (h2 k).mp hk with h | ⟨x, _, rfl⟩
    · cases h
    · show _ = Sum.inl _
      simp [un]
  refine ⟨K.map un, e, ?_, fun m => ?_, by rw [List.length_map]; simpa using h3⟩
  · rw [e] at h1
    exact (List.pairwise_map.mp h1).imp fun h q => h (by rw [q])
  · constructor
    · intro hm
      have : (Sum.inl (m : Int) : Key) ∈ K := by rw [e]; exact List.mem_map_of_mem hm
      rcases (h2 _).mp this with h | ⟨x, hx, q⟩
      · cases h
      · have : x = m := by have := Sum.inl.inj q; omega
        rw [← this]; exact hx
    · intro hm
      have : (Sum.inl (m : Int) : Key) ∈ K := (h2 _).mpr (.inr ⟨m, hm, rfl⟩)
      have q := List.mem_map_of_mem (f := un) this
      simpa [un] using q
structure WB (n : Nat) (Ls : List Nat) : Prop where
  lt : ∀ m ∈ Ls, m < 2 ^ n
  anti : Anti Ls
  nd : Ls.Nodup
  sd : Sd HT.lexLt (Ls.map cr)
theorem list_dct {h : Hs} {kvs : List (Key × AV)} {ks : List Nat} (e : kvs.map (·.1) = ks.map (fun m : Nat => (Sum.inl (m : Int) : Key))) : listDA (h ++ [.dct (avK kvs)]) [.cell h.length] = some ((ks.map fun m : Nat => (m : Int)).map .int) := by
  have d : dctOf (h ++ [.dct (avK kvs)]) (.cell h.length) = some (avK kvs) := by
    unfold dctOf
    dsimp only
    rw [List.getElem?_append_right (Nat.le_refl _), Nat.sub_self]
    rfl
  unfold listDA
  dsimp only
  rw [d]
  show (if allK (avK kvs) = true then some ((avK kvs).map (·.1)) else none) = _
  have a : allK (avK kvs) = true := by
    unfold allK avK
    rw [List.all_map, List.all_eq_true]
    intro p _
    show (keyA? (kA p.1)).isSome = true
    cases p.1 <;> rfl
  rw [if_pos a]
  unfold avK
  rw [List.map_map]
  have : (kvs.map ((fun p : AV × AV => p.1) ∘ fun p : Key × AV => (kA p.1, p.2))) = (kvs.map (·.1)).map kA := by rw [List.map_map]; rfl
  rw [this, e, List.map_map, List.map_map]
  rfl
theorem nodup_isort {α : Type} {lt : α → α → Bool} {l : List α} (h : l.Nodup) : (isort lt l).Nodup := (isort_perm l).symm.nodup h
theorem sd_ltC (l : List Nat) : Sd HT.lexLt ((isort ltC l).map cr) := by
  have : (isort ltC l).map cr = isort HT.lexLt (l.map cr) := (isort_map cr HT.lexLt l).symm
  rw [this]
  exact isort_sd lexTot _
/-- mini, its bits sorted -/
theorem mini_ok {n : Nat} {ms hs : List Nat} (nd : ms.Nodup) (hm : ∀ m, m ∈ ms ↔ m ∈ hs) (hb : ∀ m ∈ hs, m < 2 ^ n) : WB n (isort ltC (mini ms)) ∧ (∀ b, clr (isort ltC (mini ms)) b = clr hs b) ∧ ∀ m ∈ isort ltC (mini ms), m ∈ hs := by
  have hmem : ∀ m, m ∈ isort ltC (mini ms) ↔ m ∈ mini ms := fun m => (isort_perm _).mem_iff
  have hin : ∀ m ∈ isort ltC (mini ms), m ∈ hs := fun m h => (hm m).mp (List.mem_filter.mp ((hmem m).mp h)).1
  refine ⟨⟨fun m h => hb m (hin m h), fun m h o ho w => anti_mini ms m ((hmem m).mp h) o ((hmem o).mp ho) w, nodup_isort (List.Pairwise.filter _ nd), sd_ltC _⟩, fun b => ?_, hin⟩
  rw [clr_mem hmem, clr_mini, clr_mem hm]
theorem K_min1 {hs' : AV} {ms : List Nat} {x : Option AV} {b : Nat} {h : Hs} (hl : ms.length ≤ sizeLine) : K_minimal_1 [some hs', some (.lst (ms.map fun m : Nat => AV.int m)), x, some (.int b), none, none] h = .ok ((ms.map fun o => !(o == b) && wi o b).map AV.bl) h := by
  unfold K_minimal_1
  rw [List.map_map]
  refine mLc_jm (xs := ms) (h' := h) (fun m : Nat => AV.int m) (fun o => AV.bl (!(o == b) && wi o b)) rfl hl fun o ho => ⟨_, rfl, ?_⟩
  by_cases e : o = b
  · subst e
    have : (!(o == o) && wi o o) = false := by simp
    simp only [wipeE, bodyM, sSeq, sIf, sThen, sSet, sRet, sRetN, sNext, sExpr, sPutIx, sAsg, sPar, sAug, sExc, mAnd, mOr, mNot, mIf, mT, mB, mAndV, mOrV, mNotV, m2, m1, mN, mNL, mV, mC, mLst, mTup, mLs, mLC, mLstC, newC, mSl, oNo, oYes, mChain, mChain, mCall, aNil, aCons, M.bnd, M.ret, M.bad, rd, gN, gT, gSeq, mF, frzA, mLM, mLM0, mItS, mItL, mItT, mEnum, mRng1, mRng2, List.map_cons, List.map_nil, List.replicate, List.cons_append, List.nil_append, List.getElem?_cons_zero, List.getElem?_cons_succ, List.set_cons_zero, List.set_cons_succ, List.length_cons, List.length_nil, Option.bind_some, Option.bind_none, Option.map_some, Option.map_none, if_true, if_false, ite_true, ite_false, Bool.false_eq_true, reduceIte, reduceCtorEq, neA_int, decide_true, Bool.not_true, this]
  · have e1 : ¬ (o : Int) = b := by omega
    have : (!(o == b) && wi o b) = wi o b := by rw [beq_eq_false_iff_ne.mpr e]; rfl
    simp only [wipeE, bodyM, sSeq, sIf, sThen, sSet, sRet, sRetN, sNext, sExpr, sPutIx, sAsg, sPar, sAug, sExc, mAnd, mOr, mNot, mIf, mT, mB, mAndV, mOrV, mNotV, m2, m1, mN, mNL, mV, mC, mLst, mTup, mLs, mLC, mLstC, newC, mSl, oNo, oYes, mChain, mChain, mCall, aNil, aCons, M.bnd, M.ret, M.bad, rd, gN, gT, gSeq, mF, frzA, mLM, mLM0, mItS, mItL, mItT, mEnum, mRng1, mRng2, List.map_cons, List.map_nil, List.replicate, List.cons_append, List.nil_append, List.getElem?_cons_zero, List.getElem?_cons_succ, List.set_cons_zero, List.set_cons_succ, List.length_cons, List.length_nil, Option.bind_some, Option.bind_none, Option.map_some, Option.map_none, if_true, if_false, ite_true, ite_false, Bool.false_eq_true, reduceIte, reduceCtorEq, neA_int, e1, decide_false, Bool.not_false, holds_ok, this]
theorem minimal_ok {n : Nat} {hs : List Nat} (hn : n ≤ 12) (hb : ∀ m ∈ hs, m < 2 ^ n) (hl : hs.length ≤ 4096) : ∃ Ls, (∀ h, callP 1 f_minimal [.lst (hs.map ctA)] h = .ok (.tup (Ls.map ctA)) h) ∧ WB n Ls ∧ (∀ b, clr Ls b = clr hs b) ∧ (∀ m ∈ Ls, m ∈ hs) ∧ Ls.length ≤ hs.length := by
  obtain ⟨ks, k1, k2, k3, k4⟩ := keys_nat hs (fun _ => AV.bl true)
  have l1 : hs.length ≤ sizeLine := Nat.le_trans hl (by decide)
  let ms := isort (fun a b : Nat => ltI a b) ks
  have hms : ∀ m, m ∈ ms ↔ m ∈ hs := fun m => (isort_perm ks).mem_iff.trans (k3 m)
  have lms : ms.length ≤ hs.length := by rw [show ms.length = ks.length from (isort_perm ks).length_eq]; exact k4
  obtain ⟨w1, w2, w3⟩ := mini_ok (n := n) (hs := hs) (nodup_isort (lt := fun a b : Nat => ltI a b) k2) hms hb
  have lmi : (mini ms).length ≤ hs.length := Nat.le_trans (List.length_filter_le _ _) lms
  refine ⟨isort ltC (mini ms), fun h => callP_ok (h' := [.dct (avK (hs.foldl (fun (a : List (Key × AV)) (x : Nat) => putG a (Sum.inl (x : Int) : Key) (AV.bl true)) []))]) ?_ rfl (noC1 (noCs_ct hs)) (noCs_ct _), w1, w2, w3, by rw [(isort_perm _).length_eq]; exact lmi⟩
  have e0 : K_minimal_0 [some (.lst (hs.map ctA)), none, none, none, none, none] [] = .ok (hs.foldl (fun (a : List (Key × AV)) (x : Nat) => putG a (Sum.inl (x : Int) : Key) (AV.bl true)) []) [] := by
    unfold K_minimal_0
    refine mDc_j (xs := hs) (h' := []) ctA (fun x : Nat => (Sum.inl (x : Int) : Key)) (fun _ => AV.bl true) rfl l1 fun m hm => ⟨_, rfl, ?_, rfl⟩
    simp only [wipeE, bodyM, sSeq, sIf, sThen, sSet, sRet, sRetN, sNext, sExpr, sPutIx, sAsg, sPar, sAug, sExc, mAnd, mOr, mNot, mIf, mT, mB, mAndV, mOrV, mNotV, m2, m1, mN, mNL, mV, mC, mLst, mTup, mLs, mLC, mLstC, newC, mSl, oNo, oYes, mChain, mChain, mCall, aNil, aCons, M.bnd, M.ret, M.bad, rd, gN, gT, gSeq, mF, frzA, mLM, mLM0, mItS, mItL, mItT, mEnum, mRng1, mRng2, List.map_cons, List.map_nil, List.replicate, List.cons_append, List.nil_append, List.getElem?_cons_zero, List.getElem?_cons_succ, List.set_cons_zero, List.set_cons_succ, List.length_cons, List.length_nil, Option.bind_some, Option.bind_none, Option.map_some, Option.map_none, if_true, if_false, ite_true, ite_false, Bool.false_eq_true, reduceIte, reduceCtorEq, bits_ok (mb12 (hb m hm) hn)]
    rfl
  have es : isort ltI (ks.map fun m : Nat => (m : Int)) = ms.map fun m : Nat => (m : Int) := isort_map _ _ _
  have e1 : listDA [.dct (avK (hs.foldl (fun (a : List (Key × AV)) (x : Nat) => putG a (Sum.inl (x : Int) : Key) (AV.bl true)) []))] [.cell 0] = some ((ks.map fun m : Nat => (m : Int)).map .int) := list_dct (h := []) k1
  have em : (ms.map fun m : Nat => (m : Int)).map AV.int = ms.map fun m : Nat => AV.int m := by rw [List.map_map]; rfl
  generalize hs.foldl (fun (a : List (Key × AV)) (x : Nat) => putG a (Sum.inl (x : Int) : Key) (AV.bl true)) [] = kvs at e0 e1
  have e2 : K_minimal_2 [some (.lst (hs.map ctA)), some (.lst (ms.map fun m : Nat => AV.int m)), none, none, none, none] [.dct (avK kvs)] = .ok ((mini ms).map fun m : Nat => AV.int m) [.dct (avK kvs)] := by
    unfold K_minimal_2
    refine mLc_jf (xs := ms) (h' := [.dct (avK kvs)]) (fun m : Nat => AV.int m) (fun b => !(ms.any fun o => !(o == b) && wi o b)) (fun m : Nat => AV.int m) rfl (Nat.le_trans lms l1) fun b hb' => ⟨_, rfl, ?_, fun _ => rfl⟩
    simp only [wipeE, bodyM, sSeq, sIf, sThen, sSet, sRet, sRetN, sNext, sExpr, sPutIx, sAsg, sPar, sAug, sExc, mAnd, mOr, mNot, mIf, mT, mB, mAndV, mOrV, mNotV, m2, m1, mN, mNL, mV, mC, mLst, mTup, mLs, mLC, mLstC, newC, mSl, oNo, oYes, mChain, mChain, mCall, aNil, aCons, M.bnd, M.ret, M.bad, rd, gN, gT, gSeq, mF, frzA, mLM, mLM0, mItS, mItL, mItT, mEnum, mRng1, mRng2, List.map_cons, List.map_nil, List.replicate, List.cons_append, List.nil_append, List.getElem?_cons_zero, List.getElem?_cons_succ, List.set_cons_zero, List.set_cons_succ, List.length_cons, List.length_nil, Option.bind_some, Option.bind_none, Option.map_some, Option.map_none, if_true, if_false, ite_true, ite_false, Bool.false_eq_true, reduceIte, reduceCtorEq, K_min1 (Nat.le_trans lms l1), anyA_bls, List.any_map]
    rfl
  have e3 : K_minimal_3 [some (.lst (hs.map ctA)), some (.lst (ms.map fun m : Nat => AV.int m)), some (.lst ((mini ms).map fun m : Nat => AV.int m)), none, none, none] [.dct (avK kvs)] = .ok (((mini ms).map cr).map tupA) [.dct (avK kvs)] := by
    unfold K_minimal_3
    rw [List.map_map]
    refine mLc_jm (xs := mini ms) (h' := [.dct (avK kvs)]) (fun m : Nat => AV.int m) ctA rfl (Nat.le_trans lmi l1) fun m hm => ⟨_, rfl, ?_⟩
    have := hb m ((hms m).mp (List.mem_filter.mp hm).1)
    simp only [wipeE, bodyM, sSeq, sIf, sThen, sSet, sRet, sRetN, sNext, sExpr, sPutIx, sAsg, sPar, sAug, sExc, mAnd, mOr, mNot, mIf, mT, mB, mAndV, mOrV, mNotV, m2, m1, mN, mNL, mV, mC, mLst, mTup, mLs, mLC, mLstC, newC, mSl, oNo, oYes, mChain, mChain, mCall, aNil, aCons, M.bnd, M.ret, M.bad, rd, gN, gT, gSeq, mF, frzA, mLM, mLM0, mItS, mItL, mItT, mEnum, mRng1, mRng2, List.map_cons, List.map_nil, List.replicate, List.cons_append, List.nil_append, List.getElem?_cons_zero, List.getElem?_cons_succ, List.set_cons_zero, List.set_cons_succ, List.length_cons, List.length_nil, Option.bind_some, Option.bind_none, Option.map_some, Option.map_none, if_true, if_false, ite_true, ite_false, Bool.false_eq_true, reduceIte, reduceCtorEq, crowd_ok (mb12 this hn)]
  have e4 : (isort HT.lexLt ((mini ms).map cr)).map tupA = (isort ltC (mini ms)).map ctA := by rw [isort_map cr HT.lexLt, List.map_map]; rfl
  unfold f_minimal m_minimal
  simp only [bodyM, sSeq, sIf, sThen, sSet, sRet, sRetN, sNext, sExpr, sPutIx, sAsg, sPar, sAug, sExc, mAnd, mOr, mNot, mIf, mT, mB, mAndV, mOrV, mNotV, m2, m1, mN, mNL, mV, mC, mLst, mTup, mLs, mLC, mLstC, newC, mSl, oNo, oYes, mChain, mChain, mCall, aNil, aCons, M.bnd, M.ret, M.bad, rd, gN, gT, gSeq, mF, frzA, mLM, mLM0, mItS, mItL, mItT, mEnum, mRng1, mRng2, List.map_cons, List.map_nil, List.replicate, List.cons_append, List.nil_append, List.getElem?_cons_zero, List.getElem?_cons_succ, List.set_cons_zero, List.set_cons_succ, List.length_cons, List.length_nil, Option.bind_some, Option.bind_none, Option.map_some, Option.map_none, if_true, if_false, ite_true, ite_false, Bool.false_eq_true, reduceIte, reduceCtorEq, mDC, newD, e0, e1, sortA_ints, es, em, e2, e3, sortA_tups, tupleA_lst, e4]
/-! ### a book is made -/
theorem put2 {x v : AV} : putA "lots" v ([("people", x)] : List (Str × AV)) = ([("people", x), ("lots", v)] : List (Str × AV)) := rfl
theorem put3 {x y v : AV} : putA "masks" v ([("people", x), ("lots", y)] : List (Str × AV)) = ([("people", x), ("lots", y), ("masks", v)] : List (Str × AV)) := rfl
theorem put1 {v : AV} : putA "people" v [] = ([("people", v)] : List (Str × AV)) := rfl
theorem keep_ok {c : Str} {n : Nat} {Ls : List Nat} (hc : BkC c) (hb : ∀ m ∈ Ls, m < 4096) (hl : Ls.length ≤ sizeLine) : f_Book_keep [.cell 0, .int n, .tup (Ls.map ctA)] [.ins c []] = .ok .non [.ins c [("people", .int n), ("lots", .tup (Ls.map ctA)), ("masks", .lst (Ls.map fun b : Nat => AV.int b))]] := by
  have hm : c ∈ (["Book", "RawBook"] : List Str) := by rcases hc with rfl | rfl <;> simp
  have e1 : ∀ h : Hs, K_Book_keep_0 [some (.cell 0), some (.int n), some (.tup (Ls.map ctA)), none] h = .ok (Ls.map fun b : Nat => AV.int b) h := fun h => by
    unfold K_Book_keep_0
    refine mLc_jm (xs := Ls) (h' := h) ctA (fun b : Nat => AV.int b) rfl hl fun m hm => ⟨_, rfl, ?_⟩
    simp only [wipeE, bodyM, sSeq, sIf, sThen, sSet, sRet, sRetN, sNext, sExpr, sPutIx, sAsg, sPar, sAug, sExc, mAnd, mOr, mNot, mIf, mT, mB, mAndV, mOrV, mNotV, m2, m1, mN, mNL, mV, mC, mLst, mTup, mLs, mLC, mLstC, newC, mSl, oNo, oYes, mChain, mChain, mCall, aNil, aCons, M.bnd, M.ret, M.bad, rd, gN, gT, gSeq, mF, frzA, mLM, mLM0, mItS, mItL, mItT, mEnum, mRng1, mRng2, List.map_cons, List.map_nil, List.replicate, List.cons_append, List.nil_append, List.getElem?_cons_zero, List.getElem?_cons_succ, List.set_cons_zero, List.set_cons_succ, List.length_cons, List.length_nil, Option.bind_some, Option.bind_none, Option.map_some, Option.map_none, if_true, if_false, ite_true, ite_false, Bool.false_eq_true, reduceIte, reduceCtorEq, bits_ok (hb m hm)]
  unfold f_Book_keep m_Book_keep
  simp only [bodyM, sSeq, sIf, sThen, sSet, sRet, sRetN, sNext, sExpr, sPutIx, sAsg, sPar, sAug, sExc, mAnd, mOr, mNot, mIf, mT, mB, mAndV, mOrV, mNotV, m2, m1, mN, mNL, mV, mC, mLst, mTup, mLs, mLC, mLstC, newC, mSl, oNo, oYes, mChain, mChain, mCall, aNil, aCons, M.bnd, M.ret, M.bad, rd, gN, gT, gSeq, mF, frzA, mLM, mLM0, mItS, mItL, mItT, mEnum, mRng1, mRng2, List.map_cons, List.map_nil, List.replicate, List.cons_append, List.nil_append, List.getElem?_cons_zero, List.getElem?_cons_succ, List.set_cons_zero, List.set_cons_succ, List.length_cons, List.length_nil, Option.bind_some, Option.bind_none, Option.map_some, Option.map_none, if_true, if_false, ite_true, ite_false, Bool.false_eq_true, reduceIte, reduceCtorEq, sFldS, hm, e1, put1, put2, put3, and_self, true_and, Nat.zero_lt_succ, List.length_nil, List.length_cons, Nat.lt_irrefl, Nat.reduceAdd, Nat.reduceLT]
theorem init_ok {n : Nat} {Ls : List Nat} (hb : ∀ m ∈ Ls, m < 4096) (hl : Ls.length ≤ sizeLine) : f_RawBook___init__ [.cell 0, .int n, .tup (Ls.map ctA)] [.ins "RawBook" []] = .ok .non [.ins "RawBook" [("people", .int n), ("lots", .tup (Ls.map ctA)), ("masks", .lst (Ls.map fun b : Nat => AV.int b))]] := by
  have e1 : callH 3 f_Book_keep [.cell 0, .int n, .tup (Ls.map ctA)] [.ins "RawBook" []] = .ok .non [.ins "RawBook" [("people", .int n), ("lots", .tup (Ls.map ctA)), ("masks", .lst (Ls.map fun b : Nat => AV.int b))]] :=
    callH_ok (m := f_Book_keep) (i := 0) (c := .ins "RawBook" []) (h := [.ins "RawBook" []]) (r := []) rfl (keep_ok (.inr rfl) hb hl) rfl (noC2 rfl (noCs_ct Ls)) rfl rfl (by
      show noCf _ = true
      have := noC_bk (c := "RawBook") (n := n) (Ls := Ls)
      unfold bk at this
      rw [noC] at this
      exact this)
  unfold f_RawBook___init__ m_RawBook___init__
  simp only [bodyM, sSeq, sIf, sThen, sSet, sRet, sRetN, sNext, sExpr, sPutIx, sAsg, sPar, sAug, sExc, mAnd, mOr, mNot, mIf, mT, mB, mAndV, mOrV, mNotV, m2, m1, mN, mNL, mV, mC, mLst, mTup, mLs, mLC, mLstC, newC, mSl, oNo, oYes, mChain, mChain, mCall, aNil, aCons, M.bnd, M.ret, M.bad, rd, gN, gT, gSeq, mF, frzA, mLM, mLM0, mItS, mItL, mItT, mEnum, mRng1, mRng2, List.map_cons, List.map_nil, List.replicate, List.cons_append, List.nil_append, List.getElem?_cons_zero, List.getElem?_cons_succ, List.set_cons_zero, List.set_cons_succ, List.length_cons, List.length_nil, Option.bind_some, Option.bind_none, Option.map_some, Option.map_none, if_true, if_false, ite_true, ite_false, Bool.false_eq_true, reduceIte, reduceCtorEq, mMeth, insOf, List.lookup_nil, and_self, e1]
theorem make_ok {n : Nat} {Ls : List Nat} {as : EM (List AV)} {env : AEnv} {h h' : Hs} (ha : as env h = .ok [.int n, .tup (Ls.map ctA)] h') (hb : ∀ m ∈ Ls, m < 4096) (hl : Ls.length ≤ sizeLine) : mMake 3 "RawBook" f_RawBook___init__ as env h = .ok (bk "RawBook" n Ls) h' := by
  unfold mMake M.bnd
  rw [ha]
  dsimp only
  rw [if_pos ⟨rfl, noC2 rfl (noCs_ct Ls)⟩, init_ok hb hl]
  dsimp only
  have := noC_bk (c := "RawBook") (n := n) (Ls := Ls)
  unfold bk at this ⊢
  rw [noC] at this
  rw [if_pos ⟨rfl, this⟩]
structure MadeOf (n : Nat) (hs Ls : List Nat) : Prop where
  wb : WB n Ls
  cl : ∀ b, clr Ls b = clr hs b
  sub : ∀ m ∈ Ls, m ∈ hs
  len : Ls.length ≤ hs.length
theorem made_ok {n : Nat} {hs : List Nat} (hn : n ≤ 12) (hb : ∀ m ∈ hs, m < 2 ^ n) (hl : hs.length ≤ 60) : ∃ Ls, (∀ h, callP 2 f_made_of [.int n, .lst (hs.map ctA)] h = .ok (bk "RawBook" n Ls) h) ∧ MadeOf n hs Ls := by
  obtain ⟨Ls, m1, m2, m3, m4, m5⟩ := minimal_ok hn hb (by omega)
  refine ⟨Ls, fun h => callP_ok (h' := []) ?_ rfl (noC2 rfl (noCs_ct hs)) noC_bk, m2, m3, m4, m5⟩
  have l1 : Ls.length ≤ sizeLine := Nat.le_trans (Nat.le_trans m5 hl) (by decide)
  have e2 : lenA [] [.tup (Ls.map ctA)] = some (.int Ls.length) := by rw [lenA_tup, List.length_map]
  have e3 : callP 2 f_check_many [.int Ls.length, .int 60] [] = .ok .non [] := many_ok (by omega)
  have e4 : mMake 3 "RawBook" f_RawBook___init__ (aCons (mV 0) (aCons (mV 2) aNil)) [some (.int n), some (.lst (hs.map ctA)), some (.tup (Ls.map ctA))] [] = .ok (bk "RawBook" n Ls) [] := make_ok rfl (fun m hm => mb12 (hb m (m4 m hm)) hn) l1
  unfold f_made_of m_made_of
  simp only [bodyM, sSeq, sIf, sThen, sSet, sRet, sRetN, sNext, sExpr, sPutIx, sAsg, sPar, sAug, sExc, mAnd, mOr, mNot, mIf, mT, mB, mAndV, mOrV, mNotV, m2, m1, mN, mNL, mV, mC, mLst, mTup, mLs, mLC, mLstC, newC, mSl, oNo, oYes, mChain, mChain, mCall, aNil, aCons, M.bnd, M.ret, M.bad, rd, gN, gT, gSeq, mF, frzA, mLM, mLM0, mItS, mItL, mItT, mEnum, mRng1, mRng2, List.map_cons, List.map_nil, List.replicate, List.cons_append, List.nil_append, List.getElem?_cons_zero, List.getElem?_cons_succ, List.set_cons_zero, List.set_cons_succ, List.length_cons, List.length_nil, Option.bind_some, Option.bind_none, Option.map_some, Option.map_none, if_true, if_false, ite_true, ite_false, Bool.false_eq_true, reduceIte, reduceCtorEq, m1, e2, e3, e4]
theorem bookof_ok {n : Nat} {hs : List Nat} (h1 : 1 ≤ n) (hn : n ≤ 12) (hb : ∀ m ∈ hs, m < 2 ^ n) (h2 : ∀ m ∈ hs, 1 < (cr m).length) (hl : hs.length ≤ 60) : ∃ Ls, (∀ h, callP 2 f_book_of [.int n, .lst (hs.map ctA)] h = .ok (bk "RawBook" n Ls) h) ∧ MadeOf n hs Ls := by
  obtain ⟨Ls, q1, q2⟩ := made_ok hn hb hl
  refine ⟨Ls, fun h => callP_ok (h' := []) ?_ rfl (noC2 rfl (noCs_ct hs)) noC_bk, q2⟩
  have l1 : hs.length ≤ sizeLine := Nat.le_trans hl (by decide)
  have e1 : callP 2 f_check_people [.int n, .int 12] [] = .ok .non [] := people_ok (by omega) (by omega)
  have e2 : callP 1 f_is_listed [.lst (hs.map ctA)] [] = .ok (.bl true) [] := by
    refine callP_ok (h' := []) ?_ rfl (noC1 (noCs_ct hs)) rfl
    rfl
  have e3 : lenA [] [.lst (hs.map ctA)] = some (.int hs.length) := by rw [lenA_lst, List.length_map]
  have e4 : ¬ (200 : Int) < hs.length := by omega
  have e5 : K_book_of_0 [some (.int n), some (.lst (hs.map ctA)), none] [] = .ok ((hs.map fun _ => true).map AV.bl) [] := by
    unfold K_book_of_0
    rw [List.map_map]
    refine mLc_jm (xs := hs) (h' := []) ctA (fun _ => AV.bl true) rfl l1 fun m hm => ⟨_, rfl, ?_⟩
    simp only [wipeE, bodyM, sSeq, sIf, sThen, sSet, sRet, sRetN, sNext, sExpr, sPutIx, sAsg, sPar, sAug, sExc, mAnd, mOr, mNot, mIf, mT, mB, mAndV, mOrV, mNotV, m2, m1, mN, mNL, mV, mC, mLst, mTup, mLs, mLC, mLstC, newC, mSl, oNo, oYes, mChain, mChain, mCall, aNil, aCons, M.bnd, M.ret, M.bad, rd, gN, gT, gSeq, mF, frzA, mLM, mLM0, mItS, mItL, mItT, mEnum, mRng1, mRng2, List.map_cons, List.map_nil, List.replicate, List.cons_append, List.nil_append, List.getElem?_cons_zero, List.getElem?_cons_succ, List.set_cons_zero, List.set_cons_succ, List.length_cons, List.length_nil, Option.bind_some, Option.bind_none, Option.map_some, Option.map_none, if_true, if_false, ite_true, ite_false, Bool.false_eq_true, reduceIte, reduceCtorEq, islot_ok (hb m hm) hn (h2 m hm)]
  have e6 : (hs.map fun _ => true).all id = true := by simp
  unfold f_book_of m_book_of
  simp only [bodyM, sSeq, sIf, sThen, sSet, sRet, sRetN, sNext, sExpr, sPutIx, sAsg, sPar, sAug, sExc, mAnd, mOr, mNot, mIf, mT, mB, mAndV, mOrV, mNotV, m2, m1, mN, mNL, mV, mC, mLst, mTup, mLs, mLC, mLstC, newC, mSl, oNo, oYes, mChain, mChain, mCall, aNil, aCons, M.bnd, M.ret, M.bad, rd, gN, gT, gSeq, mF, frzA, mLM, mLM0, mItS, mItL, mItT, mEnum, mRng1, mRng2, List.map_cons, List.map_nil, List.replicate, List.cons_append, List.nil_append, List.getElem?_cons_zero, List.getElem?_cons_succ, List.set_cons_zero, List.set_cons_succ, List.length_cons, List.length_nil, Option.bind_some, Option.bind_none, Option.map_some, Option.map_none, if_true, if_false, ite_true, ite_false, Bool.false_eq_true, reduceIte, reduceCtorEq, e1, e2, e3, gtA_int, e4, decide_false, e5, allA_bls, e6, Bool.not_true, q1]
end LW

set_option Elab.async false
set_option linter.all false
set_option maxRecDepth 100000
set_option maxHeartbeats 2000000
namespace LW
open PySem L2 Sim MB
local instance tabN2 : TabT := ⟨[]⟩
/-! ### books told apart -/
theorem same_ok {c c' : Str} {n : Nat} {Ls Ms : List Nat} {h : Hs} (hc : BkC c) (hc' : BkC c') : callP 2 f_check_same_gaps [bk c n Ls, bk c' n Ms] h = .ok .non h := by
  refine callP_ok (h' := []) ?_ rfl (noC2 noC_bk noC_bk) rfl
  unfold f_check_same_gaps m_check_same_gaps
  simp only [bodyM, sSeq, sIf, sThen, sSet, sRet, sRetN, sNext, sExpr, sPutIx, sAsg, sPar, sAug, sExc, mAnd, mOr, mNot, mIf, mT, mB, mAndV, mOrV, mNotV, m2, m1, mN, mNL, mV, mC, mLst, mTup, mLs, mLC, mLstC, newC, mSl, oNo, oYes, mChain, mChain, mCall, aNil, aCons, M.bnd, M.ret, M.bad, rd, gN, gT, gSeq, mF, frzA, mLM, mLM0, mItS, mItL, mItT, mEnum, mRng1, mRng2, List.map_cons, List.map_nil, List.replicate, List.cons_append, List.nil_append, List.getElem?_cons_zero, List.getElem?_cons_succ, List.set_cons_zero, List.set_cons_succ, List.length_cons, List.length_nil, Option.bind_some, Option.bind_none, Option.map_some, Option.map_none, if_true, if_false, ite_true, ite_false, Bool.false_eq_true, reduceIte, reduceCtorEq, fld_people hc, fld_people hc', neA_int, decide_true, Bool.not_true]
theorem same2_ok {c c' : Str} {n : Nat} {Ls Ms : List Nat} {h : Hs} (hc : BkC c) (hc' : BkC c') : callP 2 f_check_same_twobooks [bk c n Ls, bk c' n Ms] h = .ok .non h := by
  refine callP_ok (h' := []) ?_ rfl (noC2 noC_bk noC_bk) rfl
  unfold f_check_same_twobooks m_check_same_twobooks
  simp only [bodyM, sSeq, sIf, sThen, sSet, sRet, sRetN, sNext, sExpr, sPutIx, sAsg, sPar, sAug, sExc, mAnd, mOr, mNot, mIf, mT, mB, mAndV, mOrV, mNotV, m2, m1, mN, mNL, mV, mC, mLst, mTup, mLs, mLC, mLstC, newC, mSl, oNo, oYes, mChain, mChain, mCall, aNil, aCons, M.bnd, M.ret, M.bad, rd, gN, gT, gSeq, mF, frzA, mLM, mLM0, mItS, mItL, mItT, mEnum, mRng1, mRng2, List.map_cons, List.map_nil, List.replicate, List.cons_append, List.nil_append, List.getElem?_cons_zero, List.getElem?_cons_succ, List.set_cons_zero, List.set_cons_succ, List.length_cons, List.length_nil, Option.bind_some, Option.bind_none, Option.map_some, Option.map_none, if_true, if_false, ite_true, ite_false, Bool.false_eq_true, reduceIte, reduceCtorEq, fld_people hc, fld_people hc', neA_int, decide_true, Bool.not_true]
theorem apart_exc {c c' : Str} {n n' : Nat} {Ls Ms : List Nat} {h : Hs} (hc : BkC c) (hc' : BkC c') (hn : n ≠ n') : callP 2 f_check_same_gaps [bk c n Ls, bk c' n' Ms] h = .exc "OtherPeople" [] h := by
  refine callP_exc (h' := []) ?_ rfl (noC2 noC_bk noC_bk)
  have : ¬ (n : Int) = n' := by omega
  unfold f_check_same_gaps m_check_same_gaps
  simp only [bodyM, sSeq, sIf, sThen, sSet, sRet, sRetN, sNext, sExpr, sPutIx, sAsg, sPar, sAug, sExc, mAnd, mOr, mNot, mIf, mT, mB, mAndV, mOrV, mNotV, m2, m1, mN, mNL, mV, mC, mLst, mTup, mLs, mLC, mLstC, newC, mSl, oNo, oYes, mChain, mChain, mCall, aNil, aCons, M.bnd, M.ret, M.bad, rd, gN, gT, gSeq, mF, frzA, mLM, mLM0, mItS, mItL, mItT, mEnum, mRng1, mRng2, List.map_cons, List.map_nil, List.replicate, List.cons_append, List.nil_append, List.getElem?_cons_zero, List.getElem?_cons_succ, List.set_cons_zero, List.set_cons_succ, List.length_cons, List.length_nil, Option.bind_some, Option.bind_none, Option.map_some, Option.map_none, if_true, if_false, ite_true, ite_false, Bool.false_eq_true, reduceIte, reduceCtorEq, fld_people hc, fld_people hc', neA_int, this, decide_false, Bool.not_false]
/-- the crowds that are clear in just one of two books -/
def un (n : Nat) (Ls Ms : List Nat) : List Nat := (List.range (2 ^ n)).filter fun b => !(decide (clr Ls b = clr Ms b))
theorem pow12 {n : Nat} (hn : n ≤ 12) : 2 ^ n ≤ 4096 := Nat.pow_le_pow_right (n := 2) (by decide) hn
theorem neA_bl {h : Hs} {a b : Bool} : neA h (.bl a) (.bl b) = some (.bl (!decide (a = b))) := by cases a <;> cases b <;> rfl
theorem unbits_ok {c c' : Str} {n : Nat} {Ls Ms : List Nat} {h : Hs} (hc : BkC c) (hc' : BkC c') (hn : n ≤ 12) (hL : Ls.length ≤ sizeLine) (hM : Ms.length ≤ sizeLine) : callP 2 f_unlike_bits [bk c n Ls, bk c' n Ms] h = .ok (.lst ((un n Ls Ms).map fun b : Nat => AV.int b)) h := by
  refine callP_ok (h' := []) ?_ rfl (noC2 noC_bk noC_bk) (noCs_map (fun _ => rfl) _)
  have p12 := pow12 hn
  have p0 : 0 < 2 ^ n := Nat.pow_pos (by decide)
  have e0 : ((2 ^ n : Nat) : Int) - 1 + 1 = (2 ^ n : Nat) := by omega
  have e1 : (if rgOk 0 ((2 ^ n : Nat) : Int) = true then some (rngL 0 ((2 ^ n : Nat) : Int)) else none) = some ((List.range (2 ^ n)).map fun b : Nat => AV.int b) := by
    rw [if_pos, rngL_nat]
    unfold rgOk
    rw [inR_small (by decide) (by decide), inR_small (i := ((2 ^ n : Nat) : Int)) (by omega) (by omega)]
    exact decide_eq_true (by omega)
  have e2 : K_unlike_bits_0 [some (bk c n Ls), some (bk c' n Ms), some (.lst ((List.range (2 ^ n)).map fun b : Nat => AV.int b)), none] [] = .ok ((un n Ls Ms).map fun b : Nat => AV.int b) [] := by
    unfold K_unlike_bits_0
    refine mLc_jf (xs := List.range (2 ^ n)) (h' := []) (fun b : Nat => AV.int b) (fun b => !(decide (clr Ls b = clr Ms b))) (fun b : Nat => AV.int b) rfl (by rw [List.length_range]; exact Nat.le_trans p12 (by decide)) fun b hb => ⟨_, rfl, ?_, fun _ => rfl⟩
    simp only [wipeE, bodyM, sSeq, sIf, sThen, sSet, sRet, sRetN, sNext, sExpr, sPutIx, sAsg, sPar, sAug, sExc, mAnd, mOr, mNot, mIf, mT, mB, mAndV, mOrV, mNotV, m2, m1, mN, mNL, mV, mC, mLst, mTup, mLs, mLC, mLstC, newC, mSl, oNo, oYes, mChain, mChain, mCall, aNil, aCons, M.bnd, M.ret, M.bad, rd, gN, gT, gSeq, mF, frzA, mLM, mLM0, mItS, mItL, mItT, mEnum, mRng1, mRng2, List.map_cons, List.map_nil, List.replicate, List.cons_append, List.nil_append, List.getElem?_cons_zero, List.getElem?_cons_succ, List.set_cons_zero, List.set_cons_succ, List.length_cons, List.length_nil, Option.bind_some, Option.bind_none, Option.map_some, Option.map_none, if_true, if_false, ite_true, ite_false, Bool.false_eq_true, reduceIte, reduceCtorEq, clrbits_ok hc hL, clrbits_ok hc' hM, neA_bl]
  unfold f_unlike_bits m_unlike_bits
  simp only [bodyM, sSeq, sIf, sThen, sSet, sRet, sRetN, sNext, sExpr, sPutIx, sAsg, sPar, sAug, sExc, mAnd, mOr, mNot, mIf, mT, mB, mAndV, mOrV, mNotV, m2, m1, mN, mNL, mV, mC, mLst, mTup, mLs, mLC, mLstC, newC, mSl, oNo, oYes, mChain, mChain, mCall, aNil, aCons, M.bnd, M.ret, M.bad, rd, gN, gT, gSeq, mF, frzA, mLM, mLM0, mItS, mItL, mItT, mEnum, mRng1, mRng2, List.map_cons, List.map_nil, List.replicate, List.cons_append, List.nil_append, List.getElem?_cons_zero, List.getElem?_cons_succ, List.set_cons_zero, List.set_cons_succ, List.length_cons, List.length_nil, Option.bind_some, Option.bind_none, Option.map_some, Option.map_none, if_true, if_false, ite_true, ite_false, Bool.false_eq_true, reduceIte, reduceCtorEq, mListRg1, fld_people hc, all_ok (Nat.lt_succ_of_le hn), addA_int, int?, e0, e1, e2]
theorem un_lt {n : Nat} {Ls Ms : List Nat} {b : Nat} (hb : b ∈ un n Ls Ms) : b < 2 ^ n := List.mem_range.mp (List.mem_filter.mp hb).1
theorem un_len {n : Nat} {Ls Ms : List Nat} : (un n Ls Ms).length ≤ 2 ^ n := Nat.le_trans (List.length_filter_le _ _) (Nat.le_of_eq List.length_range)
theorem uncrowds_ok {c c' : Str} {n : Nat} {Ls Ms : List Nat} {h : Hs} (hc : BkC c) (hc' : BkC c') (hn : n ≤ 12) (hL : Ls.length ≤ sizeLine) (hM : Ms.length ≤ sizeLine) : callP 2 f_unlike_crowds [bk c n Ls, bk c' n Ms] h = .ok (.lst ((isort HT.lexLt ((un n Ls Ms).map cr)).map tupA)) h := by
  refine callP_ok (h' := []) ?_ rfl (noC2 noC_bk noC_bk) (noCs_map noC_tupA _)
  have e1 : K_unlike_crowds_0 [some (bk c n Ls), some (bk c' n Ms), none] [] = .ok (((un n Ls Ms).map cr).map tupA) [] := by
    unfold K_unlike_crowds_0
    rw [List.map_map]
    refine mLc_jm (xs := un n Ls Ms) (h' := []) (fun b : Nat => AV.int b) ctA ?_ (Nat.le_trans un_len (Nat.le_trans (pow12 hn) (by decide))) fun b hb => ⟨_, rfl, ?_⟩
    · simp only [bodyM, sSeq, sIf, sThen, sSet, sRet, sRetN, sNext, sExpr, sPutIx, sAsg, sPar, sAug, sExc, mAnd, mOr, mNot, mIf, mT, mB, mAndV, mOrV, mNotV, m2, m1, mN, mNL, mV, mC, mLst, mTup, mLs, mLC, mLstC, newC, mSl, oNo, oYes, mChain, mChain, mCall, aNil, aCons, M.bnd, M.ret, M.bad, rd, gN, gT, gSeq, mF, frzA, mLM, mLM0, mItS, mItL, mItT, mEnum, mRng1, mRng2, List.map_cons, List.map_nil, List.replicate, List.cons_append, List.nil_append, List.getElem?_cons_zero, List.getElem?_cons_succ, List.set_cons_zero, List.set_cons_succ, List.length_cons, List.length_nil, Option.bind_some, Option.bind_none, Option.map_some, Option.map_none, if_true, if_false, ite_true, ite_false, Bool.false_eq_true, reduceIte, reduceCtorEq, unbits_ok hc hc' hn hL hM]
    · simp only [wipeE, bodyM, sSeq, sIf, sThen, sSet, sRet, sRetN, sNext, sExpr, sPutIx, sAsg, sPar, sAug, sExc, mAnd, mOr, mNot, mIf, mT, mB, mAndV, mOrV, mNotV, m2, m1, mN, mNL, mV, mC, mLst, mTup, mLs, mLC, mLstC, newC, mSl, oNo, oYes, mChain, mChain, mCall, aNil, aCons, M.bnd, M.ret, M.bad, rd, gN, gT, gSeq, mF, frzA, mLM, mLM0, mItS, mItL, mItT, mEnum, mRng1, mRng2, List.map_cons, List.map_nil, List.replicate, List.cons_append, List.nil_append, List.getElem?_cons_zero, List.getElem?_cons_succ, List.set_cons_zero, List.set_cons_succ, List.length_cons, List.length_nil, Option.bind_some, Option.bind_none, Option.map_some, Option.map_none, if_true, if_false, ite_true, ite_false, Bool.false_eq_true, reduceIte, reduceCtorEq, crowd_ok (mb12 (un_lt hb) hn)]
  unfold f_unlike_crowds m_unlike_crowds
  simp only [bodyM, sSeq, sIf, sThen, sSet, sRet, sRetN, sNext, sExpr, sPutIx, sAsg, sPar, sAug, sExc, mAnd, mOr, mNot, mIf, mT, mB, mAndV, mOrV, mNotV, m2, m1, mN, mNL, mV, mC, mLst, mTup, mLs, mLC, mLstC, newC, mSl, oNo, oYes, mChain, mChain, mCall, aNil, aCons, M.bnd, M.ret, M.bad, rd, gN, gT, gSeq, mF, frzA, mLM, mLM0, mItS, mItL, mItT, mEnum, mRng1, mRng2, List.map_cons, List.map_nil, List.replicate, List.cons_append, List.nil_append, List.getElem?_cons_zero, List.getElem?_cons_succ, List.set_cons_zero, List.set_cons_succ, List.length_cons, List.length_nil, Option.bind_some, Option.bind_none, Option.map_some, Option.map_none, if_true, if_false, ite_true, ite_false, Bool.false_eq_true, reduceIte, reduceCtorEq, same_ok hc hc', e1, sortA_tups]
theorem gap_ok {c c' : Str} {n : Nat} {Ls Ms : List Nat} {h : Hs} (hc : BkC c) (hc' : BkC c') (hn : n ≤ 12) (hL : Ls.length ≤ sizeLine) (hM : Ms.length ≤ sizeLine) : callP 2 f_gap [bk c n Ls, bk c' n Ms] h = .ok (.int (un n Ls Ms).length) h := by
  refine callP_ok (h' := []) ?_ rfl (noC2 noC_bk noC_bk) rfl
  unfold f_gap m_gap
  simp only [bodyM, sSeq, sIf, sThen, sSet, sRet, sRetN, sNext, sExpr, sPutIx, sAsg, sPar, sAug, sExc, mAnd, mOr, mNot, mIf, mT, mB, mAndV, mOrV, mNotV, m2, m1, mN, mNL, mV, mC, mLst, mTup, mLs, mLC, mLstC, newC, mSl, oNo, oYes, mChain, mChain, mCall, aNil, aCons, M.bnd, M.ret, M.bad, rd, gN, gT, gSeq, mF, frzA, mLM, mLM0, mItS, mItL, mItT, mEnum, mRng1, mRng2, List.map_cons, List.map_nil, List.replicate, List.cons_append, List.nil_append, List.getElem?_cons_zero, List.getElem?_cons_succ, List.set_cons_zero, List.set_cons_succ, List.length_cons, List.length_nil, Option.bind_some, Option.bind_none, Option.map_some, Option.map_none, if_true, if_false, ite_true, ite_false, Bool.false_eq_true, reduceIte, reduceCtorEq, same_ok hc hc', unbits_ok hc hc' hn hL hM, lenA_lst, List.length_map]
theorem finer_ok {c c' : Str} {n : Nat} {Ls Ms : List Nat} {h : Hs} (hc : BkC c) (hc' : BkC c') (hL : Ls.length ≤ sizeLine) (hM : Ms.length ≤ sizeLine) : callP 2 f_is_finer [bk c n Ls, bk c' n Ms] h = .ok (.bl (!(Ms.any fun m => clr Ls m))) h := by
  refine callP_ok (h' := []) ?_ rfl (noC2 noC_bk noC_bk) rfl
  have e1 : K_is_finer_0 [some (bk c n Ls), some (bk c' n Ms), none] [] = .ok ((Ms.map fun m => clr Ls m).map AV.bl) [] := by
    unfold K_is_finer_0
    rw [List.map_map]
    refine mLc_jm (xs := Ms) (h' := []) (fun m : Nat => AV.int m) (fun m => AV.bl (clr Ls m)) ?_ hM fun m hm => ⟨_, rfl, ?_⟩
    · simp only [bodyM, sSeq, sIf, sThen, sSet, sRet, sRetN, sNext, sExpr, sPutIx, sAsg, sPar, sAug, sExc, mAnd, mOr, mNot, mIf, mT, mB, mAndV, mOrV, mNotV, m2, m1, mN, mNL, mV, mC, mLst, mTup, mLs, mLC, mLstC, newC, mSl, oNo, oYes, mChain, mChain, mCall, aNil, aCons, M.bnd, M.ret, M.bad, rd, gN, gT, gSeq, mF, frzA, mLM, mLM0, mItS, mItL, mItT, mEnum, mRng1, mRng2, List.map_cons, List.map_nil, List.replicate, List.cons_append, List.nil_append, List.getElem?_cons_zero, List.getElem?_cons_succ, List.set_cons_zero, List.set_cons_succ, List.length_cons, List.length_nil, Option.bind_some, Option.bind_none, Option.map_some, Option.map_none, if_true, if_false, ite_true, ite_false, Bool.false_eq_true, reduceIte, reduceCtorEq, fld_masks hc']
    · simp only [wipeE, bodyM, sSeq, sIf, sThen, sSet, sRet, sRetN, sNext, sExpr, sPutIx, sAsg, sPar, sAug, sExc, mAnd, mOr, mNot, mIf, mT, mB, mAndV, mOrV, mNotV, m2, m1, mN, mNL, mV, mC, mLst, mTup, mLs, mLC, mLstC, newC, mSl, oNo, oYes, mChain, mChain, mCall, aNil, aCons, M.bnd, M.ret, M.bad, rd, gN, gT, gSeq, mF, frzA, mLM, mLM0, mItS, mItL, mItT, mEnum, mRng1, mRng2, List.map_cons, List.map_nil, List.replicate, List.cons_append, List.nil_append, List.getElem?_cons_zero, List.getElem?_cons_succ, List.set_cons_zero, List.set_cons_succ, List.length_cons, List.length_nil, Option.bind_some, Option.bind_none, Option.map_some, Option.map_none, if_true, if_false, ite_true, ite_false, Bool.false_eq_true, reduceIte, reduceCtorEq, clrbits_ok hc hL]
  unfold f_is_finer m_is_finer
  simp only [bodyM, sSeq, sIf, sThen, sSet, sRet, sRetN, sNext, sExpr, sPutIx, sAsg, sPar, sAug, sExc, mAnd, mOr, mNot, mIf, mT, mB, mAndV, mOrV, mNotV, m2, m1, mN, mNL, mV, mC, mLst, mTup, mLs, mLC, mLstC, newC, mSl, oNo, oYes, mChain, mChain, mCall, aNil, aCons, M.bnd, M.ret, M.bad, rd, gN, gT, gSeq, mF, frzA, mLM, mLM0, mItS, mItL, mItT, mEnum, mRng1, mRng2, List.map_cons, List.map_nil, List.replicate, List.cons_append, List.nil_append, List.getElem?_cons_zero, List.getElem?_cons_succ, List.set_cons_zero, List.set_cons_succ, List.length_cons, List.length_nil, Option.bind_some, Option.bind_none, Option.map_some, Option.map_none, if_true, if_false, ite_true, ite_false, Bool.false_eq_true, reduceIte, reduceCtorEq, same_ok hc hc', e1, anyA_bls, List.any_map]
  rfl
/-! ### least lots -/
theorem K_lst1 {hs' : AV} {ms : List Nat} {b : Nat} {h : Hs} (hl : ms.length ≤ sizeLine) : K_least_of_1 [some hs', some (.lst (ms.map fun m : Nat => AV.int m)), some (.int b), none, none] h = .ok ((ms.map fun o => !(o == b) && wi o b).map AV.bl) h := by
  unfold K_least_of_1
  rw [List.map_map]
  refine mLc_jm (xs := ms) (h' := h) (fun m : Nat => AV.int m) (fun o => AV.bl (!(o == b) && wi o b)) rfl hl fun o ho => ⟨_, rfl, ?_⟩
  by_cases e : o = b
  · subst e
    have : (!(o == o) && wi o o) = false := by simp
    simp only [wipeE, bodyM, sSeq, sIf, sThen, sSet, sRet, sRetN, sNext, sExpr, sPutIx, sAsg, sPar, sAug, sExc, mAnd, mOr, mNot, mIf, mT, mB, mAndV, mOrV, mNotV, m2, m1, mN, mNL, mV, mC, mLst, mTup, mLs, mLC, mLstC, newC, mSl, oNo, oYes, mChain, mChain, mCall, aNil, aCons, M.bnd, M.ret, M.bad, rd, gN, gT, gSeq, mF, frzA, mLM, mLM0, mItS, mItL, mItT, mEnum, mRng1, mRng2, List.map_cons, List.map_nil, List.replicate, List.cons_append, List.nil_append, List.getElem?_cons_zero, List.getElem?_cons_succ, List.set_cons_zero, List.set_cons_succ, List.length_cons, List.length_nil, Option.bind_some, Option.bind_none, Option.map_some, Option.map_none, if_true, if_false, ite_true, ite_false, Bool.false_eq_true, reduceIte, reduceCtorEq, neA_int, decide_true, Bool.not_true, this]
  · have e1 : ¬ (o : Int) = b := by omega
    have : (!(o == b) && wi o b) = wi o b := by rw [beq_eq_false_iff_ne.mpr e]; rfl
    simp only [wipeE, bodyM, sSeq, sIf, sThen, sSet, sRet, sRetN, sNext, sExpr, sPutIx, sAsg, sPar, sAug, sExc, mAnd, mOr, mNot, mIf, mT, mB, mAndV, mOrV, mNotV, m2, m1, mN, mNL, mV, mC, mLst, mTup, mLs, mLC, mLstC, newC, mSl, oNo, oYes, mChain, mChain, mCall, aNil, aCons, M.bnd, M.ret, M.bad, rd, gN, gT, gSeq, mF, frzA, mLM, mLM0, mItS, mItL, mItT, mEnum, mRng1, mRng2, List.map_cons, List.map_nil, List.replicate, List.cons_append, List.nil_append, List.getElem?_cons_zero, List.getElem?_cons_succ, List.set_cons_zero, List.set_cons_succ, List.length_cons, List.length_nil, Option.bind_some, Option.bind_none, Option.map_some, Option.map_none, if_true, if_false, ite_true, ite_false, Bool.false_eq_true, reduceIte, reduceCtorEq, neA_int, e1, decide_false, Bool.not_false, holds_ok, this]
/-- sorted, unlike -/
structure Nums (ms hs : List Nat) : Prop where
  nd : ms.Nodup
  mem : ∀ m, m ∈ ms ↔ m ∈ hs
  len : ms.length ≤ hs.length
theorem least_ok {hs : List Nat} (hl : hs.length ≤ 4096) : ∃ ms, Nums ms hs ∧ ∀ h, callP 1 f_least_of [.lst (hs.map fun m : Nat => AV.int m)] h = .ok (.lst ((mini ms).map fun m : Nat => AV.int m)) h := by
  obtain ⟨ks, k1, k2, k3, k4⟩ := keys_nat hs (fun _ => AV.bl true)
  have l1 : hs.length ≤ sizeLine := Nat.le_trans hl (by decide)
  let ms := isort (fun a b : Nat => ltI a b) ks
  have hms : ∀ m, m ∈ ms ↔ m ∈ hs := fun m => (isort_perm ks).mem_iff.trans (k3 m)
  have lms : ms.length ≤ hs.length := by rw [show ms.length = ks.length from (isort_perm ks).length_eq]; exact k4
  refine ⟨ms, ⟨nodup_isort k2, hms, lms⟩, fun h => callP_ok (h' := [.dct (avK (hs.foldl (fun (a : List (Key × AV)) (x : Nat) => putG a (Sum.inl (x : Int) : Key) (AV.bl true)) []))]) ?_ rfl (noC1 (noCs_map (fun _ => rfl) hs)) (noCs_map (fun _ => rfl) _)⟩
  have e0 : K_least_of_0 [some (.lst (hs.map fun m : Nat => AV.int m)), none, none, none, none] [] = .ok (hs.foldl (fun (a : List (Key × AV)) (x : Nat) => putG a (Sum.inl (x : Int) : Key) (AV.bl true)) []) [] := by
    unfold K_least_of_0
    exact mDc_j (xs := hs) (h' := []) (fun m : Nat => AV.int m) (fun x : Nat => (Sum.inl (x : Int) : Key)) (fun _ => AV.bl true) rfl l1 fun m hm => ⟨_, rfl, rfl, rfl⟩
  have es : isort ltI (ks.map fun m : Nat => (m : Int)) = ms.map fun m : Nat => (m : Int) := isort_map _ _ _
  have e1 : listDA [.dct (avK (hs.foldl (fun (a : List (Key × AV)) (x : Nat) => putG a (Sum.inl (x : Int) : Key) (AV.bl true)) []))] [.cell 0] = some ((ks.map fun m : Nat => (m : Int)).map .int) := list_dct (h := []) k1
  have em : (ms.map fun m : Nat => (m : Int)).map AV.int = ms.map fun m : Nat => AV.int m := by rw [List.map_map]; rfl
  generalize hs.foldl (fun (a : List (Key × AV)) (x : Nat) => putG a (Sum.inl (x : Int) : Key) (AV.bl true)) [] = kvs at e0 e1
  have e2 : K_least_of_2 [some (.lst (hs.map fun m : Nat => AV.int m)), some (.lst (ms.map fun m : Nat => AV.int m)), none, none, none] [.dct (avK kvs)] = .ok ((mini ms).map fun m : Nat => AV.int m) [.dct (avK kvs)] := by
    unfold K_least_of_2
    refine mLc_jf (xs := ms) (h' := [.dct (avK kvs)]) (fun m : Nat => AV.int m) (fun b => !(ms.any fun o => !(o == b) && wi o b)) (fun m : Nat => AV.int m) rfl (Nat.le_trans lms l1) fun b hb' => ⟨_, rfl, ?_, fun _ => rfl⟩
    simp only [wipeE, bodyM, sSeq, sIf, sThen, sSet, sRet, sRetN, sNext, sExpr, sPutIx, sAsg, sPar, sAug, sExc, mAnd, mOr, mNot, mIf, mT, mB, mAndV, mOrV, mNotV, m2, m1, mN, mNL, mV, mC, mLst, mTup, mLs, mLC, mLstC, newC, mSl, oNo, oYes, mChain, mChain, mCall, aNil, aCons, M.bnd, M.ret, M.bad, rd, gN, gT, gSeq, mF, frzA, mLM, mLM0, mItS, mItL, mItT, mEnum, mRng1, mRng2, List.map_cons, List.map_nil, List.replicate, List.cons_append, List.nil_append, List.getElem?_cons_zero, List.getElem?_cons_succ, List.set_cons_zero, List.set_cons_succ, List.length_cons, List.length_nil, Option.bind_some, Option.bind_none, Option.map_some, Option.map_none, if_true, if_false, ite_true, ite_false, Bool.false_eq_true, reduceIte, reduceCtorEq, K_lst1 (Nat.le_trans lms l1), anyA_bls, List.any_map]
    rfl
  unfold f_least_of m_least_of
  simp only [bodyM, sSeq, sIf, sThen, sSet, sRet, sRetN, sNext, sExpr, sPutIx, sAsg, sPar, sAug, sExc, mAnd, mOr, mNot, mIf, mT, mB, mAndV, mOrV, mNotV, m2, m1, mN, mNL, mV, mC, mLst, mTup, mLs, mLC, mLstC, newC, mSl, oNo, oYes, mChain, mChain, mCall, aNil, aCons, M.bnd, M.ret, M.bad, rd, gN, gT, gSeq, mF, frzA, mLM, mLM0, mItS, mItL, mItT, mEnum, mRng1, mRng2, List.map_cons, List.map_nil, List.replicate, List.cons_append, List.nil_append, List.getElem?_cons_zero, List.getElem?_cons_succ, List.set_cons_zero, List.set_cons_succ, List.length_cons, List.length_nil, Option.bind_some, Option.bind_none, Option.map_some, Option.map_none, if_true, if_false, ite_true, ite_false, Bool.false_eq_true, reduceIte, reduceCtorEq, mDC, newD, e0, e1, sortA_ints, es, em, e2]
theorem bookwith_ok {n : Nat} {ms : List Nat} {h : Hs} (hn : n ≤ 12) (hb : ∀ m ∈ ms, m < 2 ^ n) (hl : ms.length ≤ sizeLine) : callP 2 f_book_with [.int n, .lst (ms.map fun m : Nat => AV.int m)] h = .ok (bk "RawBook" n (isort ltC ms)) h := by
  refine callP_ok (h' := []) ?_ rfl (noC2 rfl (noCs_map (fun _ => rfl) ms)) noC_bk
  have e3 : K_book_with_0 [some (.int n), some (.lst (ms.map fun m : Nat => AV.int m)), none] [] = .ok ((ms.map cr).map tupA) [] := by
    unfold K_book_with_0
    rw [List.map_map]
    refine mLc_jm (xs := ms) (h' := []) (fun m : Nat => AV.int m) ctA rfl hl fun m hm => ⟨_, rfl, ?_⟩
    simp only [wipeE, bodyM, sSeq, sIf, sThen, sSet, sRet, sRetN, sNext, sExpr, sPutIx, sAsg, sPar, sAug, sExc, mAnd, mOr, mNot, mIf, mT, mB, mAndV, mOrV, mNotV, m2, m1, mN, mNL, mV, mC, mLst, mTup, mLs, mLC, mLstC, newC, mSl, oNo, oYes, mChain, mChain, mCall, aNil, aCons, M.bnd, M.ret, M.bad, rd, gN, gT, gSeq, mF, frzA, mLM, mLM0, mItS, mItL, mItT, mEnum, mRng1, mRng2, List.map_cons, List.map_nil, List.replicate, List.cons_append, List.nil_append, List.getElem?_cons_zero, List.getElem?_cons_succ, List.set_cons_zero, List.set_cons_succ, List.length_cons, List.length_nil, Option.bind_some, Option.bind_none, Option.map_some, Option.map_none, if_true, if_false, ite_true, ite_false, Bool.false_eq_true, reduceIte, reduceCtorEq, crowd_ok (mb12 (hb m hm) hn)]
  have e4 : (isort HT.lexLt (ms.map cr)).map tupA = (isort ltC ms).map ctA := by rw [isort_map cr HT.lexLt, List.map_map]; rfl
  have e5 := make_ok (n := n) (Ls := isort ltC ms) (as := aCons (mV 0) (aCons (mN tupleA (aCons (mLs (mNL sortA (aCons (mLs K_book_with_0) aNil))) aNil)) aNil)) (env := [some (.int n), some (.lst (ms.map fun m : Nat => AV.int m)), none]) (h := []) (h' := []) (by simp only [bodyM, sSeq, sIf, sThen, sSet, sRet, sRetN, sNext, sExpr, sPutIx, sAsg, sPar, sAug, sExc, mAnd, mOr, mNot, mIf, mT, mB, mAndV, mOrV, mNotV, m2, m1, mN, mNL, mV, mC, mLst, mTup, mLs, mLC, mLstC, newC, mSl, oNo, oYes, mChain, mChain, mCall, aNil, aCons, M.bnd, M.ret, M.bad, rd, gN, gT, gSeq, mF, frzA, mLM, mLM0, mItS, mItL, mItT, mEnum, mRng1, mRng2, List.map_cons, List.map_nil, List.replicate, List.cons_append, List.nil_append, List.getElem?_cons_zero, List.getElem?_cons_succ, List.set_cons_zero, List.set_cons_succ, List.length_cons, List.length_nil, Option.bind_some, Option.bind_none, Option.map_some, Option.map_none, if_true, if_false, ite_true, ite_false, Bool.false_eq_true, reduceIte, reduceCtorEq, e3, sortA_tups, tupleA_lst, e4]) (fun m hm => mb12 (hb m ((isort_perm ms).mem_iff.mp hm)) hn) (by rw [(isort_perm ms).length_eq]; exact hl)
  unfold f_book_with m_book_with
  simp only [bodyM, sSeq, sIf, sThen, sSet, sRet, sRetN, sNext, sExpr, sPutIx, sAsg, sPar, sAug, sExc, mAnd, mOr, mNot, mIf, mT, mB, mAndV, mOrV, mNotV, m2, m1, mN, mNL, mV, mC, mLst, mTup, mLs, mLC, mLstC, newC, mSl, oNo, oYes, mChain, mChain, mCall, aNil, aCons, M.bnd, M.ret, M.bad, rd, gN, gT, gSeq, mF, frzA, mLM, mLM0, mItS, mItL, mItT, mEnum, mRng1, mRng2, List.map_cons, List.map_nil, List.replicate, List.cons_append, List.nil_append, List.getElem?_cons_zero, List.getElem?_cons_succ, List.set_cons_zero, List.set_cons_succ, List.length_cons, List.length_nil, Option.bind_some, Option.bind_none, Option.map_some, Option.map_none, if_true, if_false, ite_true, ite_false, Bool.false_eq_true, reduceIte, reduceCtorEq, e5]
theorem eqA_nat {h : Hs} {a b : Nat} : eqA h (.int a) (.int b) = some (.bl (a == b)) := by
  rw [eqA_int]
  congr 2
  rw [Bool.eq_iff_iff, decide_eq_true_iff, beq_iff_eq]
  omega
theorem leftout_ok {c : Str} {n b : Nat} {Ls : List Nat} {h : Hs} (hc : BkC c) (hn : n ≤ 12) (hb : b < 2 ^ n) (hL : ∀ m ∈ Ls, m < 2 ^ n) (hl : Ls.length ≤ sizeLine) : callP 2 f_left_out [bk c n Ls, ctA b] h = .ok (bk "RawBook" n (isort ltC (Ls.filter fun m => (m &&& b) == 0))) h := by
  refine callP_ok (h' := []) ?_ rfl (noC2 noC_bk (noC_tupA _)) noC_bk
  have e1 : K_left_out_0 [some (bk c n Ls), some (ctA b), some (.int b), none] [] = .ok ((Ls.filter fun m => (m &&& b) == 0).map fun m : Nat => AV.int m) [] := by
    unfold K_left_out_0
    refine mLc_jf (xs := Ls) (h' := []) (fun m : Nat => AV.int m) (fun m => (m &&& b) == 0) (fun m : Nat => AV.int m) ?_ hl fun m hm => ⟨_, rfl, ?_, fun _ => rfl⟩
    · simp only [bodyM, sSeq, sIf, sThen, sSet, sRet, sRetN, sNext, sExpr, sPutIx, sAsg, sPar, sAug, sExc, mAnd, mOr, mNot, mIf, mT, mB, mAndV, mOrV, mNotV, m2, m1, mN, mNL, mV, mC, mLst, mTup, mLs, mLC, mLstC, newC, mSl, oNo, oYes, mChain, mChain, mCall, aNil, aCons, M.bnd, M.ret, M.bad, rd, gN, gT, gSeq, mF, frzA, mLM, mLM0, mItS, mItL, mItT, mEnum, mRng1, mRng2, List.map_cons, List.map_nil, List.replicate, List.cons_append, List.nil_append, List.getElem?_cons_zero, List.getElem?_cons_succ, List.set_cons_zero, List.set_cons_succ, List.length_cons, List.length_nil, Option.bind_some, Option.bind_none, Option.map_some, Option.map_none, if_true, if_false, ite_true, ite_false, Bool.false_eq_true, reduceIte, reduceCtorEq, fld_masks hc]
    · have e : eqA [] (.int ((m &&& b : Nat) : Int)) (.int 0) = some (.bl ((m &&& b) == 0)) := eqA_nat (b := 0)
      simp only [wipeE, bodyM, sSeq, sIf, sThen, sSet, sRet, sRetN, sNext, sExpr, sPutIx, sAsg, sPar, sAug, sExc, mAnd, mOr, mNot, mIf, mT, mB, mAndV, mOrV, mNotV, m2, m1, mN, mNL, mV, mC, mLst, mTup, mLs, mLC, mLstC, newC, mSl, oNo, oYes, mChain, mChain, mCall, aNil, aCons, M.bnd, M.ret, M.bad, rd, gN, gT, gSeq, mF, frzA, mLM, mLM0, mItS, mItL, mItT, mEnum, mRng1, mRng2, List.map_cons, List.map_nil, List.replicate, List.cons_append, List.nil_append, List.getElem?_cons_zero, List.getElem?_cons_succ, List.set_cons_zero, List.set_cons_succ, List.length_cons, List.length_nil, Option.bind_some, Option.bind_none, Option.map_some, Option.map_none, if_true, if_false, ite_true, ite_false, Bool.false_eq_true, reduceIte, reduceCtorEq, andA_nat, e]
  have e2 : callP 2 f_book_with [.int n, .lst ((Ls.filter fun m => (m &&& b) == 0).map fun m : Nat => AV.int m)] [] = .ok (bk "RawBook" n (isort ltC (Ls.filter fun m => (m &&& b) == 0))) [] := bookwith_ok hn (fun m hm => hL m (List.mem_filter.mp hm).1) (Nat.le_trans (List.length_filter_le _ _) hl)
  unfold f_left_out m_left_out
  simp only [bodyM, sSeq, sIf, sThen, sSet, sRet, sRetN, sNext, sExpr, sPutIx, sAsg, sPar, sAug, sExc, mAnd, mOr, mNot, mIf, mT, mB, mAndV, mOrV, mNotV, m2, m1, mN, mNL, mV, mC, mLst, mTup, mLs, mLC, mLstC, newC, mSl, oNo, oYes, mChain, mChain, mCall, aNil, aCons, M.bnd, M.ret, M.bad, rd, gN, gT, gSeq, mF, frzA, mLM, mLM0, mItS, mItL, mItT, mEnum, mRng1, mRng2, List.map_cons, List.map_nil, List.replicate, List.cons_append, List.nil_append, List.getElem?_cons_zero, List.getElem?_cons_succ, List.set_cons_zero, List.set_cons_succ, List.length_cons, List.length_nil, Option.bind_some, Option.bind_none, Option.map_some, Option.map_none, if_true, if_false, ite_true, ite_false, Bool.false_eq_true, reduceIte, reduceCtorEq, fld_people hc, checkcrowd_ok hb hn, bits_ok (mb12 hb hn), e1, e2]
end LW

set_option Elab.async false
set_option linter.all false
set_option maxRecDepth 100000
set_option maxHeartbeats 2000000
namespace LW
open PySem L2 Sim MB
local instance tabN3 : TabT := ⟨[]⟩
theorem addA_lst {h : Hs} {xs ys : List AV} (hl : (xs ++ ys).length ≤ sizeLine) : addA h (.lst xs) (.lst ys) = some (.lst (xs ++ ys)) := by
  unfold addA
  dsimp only
  rw [if_pos (show small (xs ++ ys) = true from decide_eq_true hl)]
theorem addA_tup {h : Hs} {xs ys : List AV} (hl : (xs ++ ys).length ≤ sizeLine) : addA h (.tup xs) (.tup ys) = some (.tup (xs ++ ys)) := by
  unfold addA
  dsimp only
  rw [if_pos (show small (xs ++ ys) = true from decide_eq_true hl)]
theorem listA_tup {h : Hs} {xs : List AV} : listA h [.tup xs] = some xs := rfl
theorem clr_append (Ls Ms : List Nat) (b : Nat) : clr (Ls ++ Ms) b = (clr Ls b && clr Ms b) := by
  unfold clr
  rw [List.any_append, Bool.not_or]
theorem both_ok {c c' : Str} {n : Nat} {Ls Ms : List Nat} (hc : BkC c) (hc' : BkC c') (hn : n ≤ 12) (hL : ∀ m ∈ Ls, m < 2 ^ n) (hM : ∀ m ∈ Ms, m < 2 ^ n) (hl : (Ls ++ Ms).length ≤ 60) : ∃ Bs, (∀ h, callP 2 f_both [bk c n Ls, bk c' n Ms] h = .ok (bk "RawBook" n Bs) h) ∧ MadeOf n (Ls ++ Ms) Bs := by
  obtain ⟨Bs, q1, q2⟩ := made_ok (n := n) (hs := Ls ++ Ms) hn (fun m hm => (List.mem_append.mp hm).elim (hL m) (hM m)) hl
  refine ⟨Bs, fun h => callP_ok (h' := []) ?_ rfl (noC2 noC_bk noC_bk) noC_bk, q2⟩
  have e1 : addA [] (.lst (Ls.map ctA)) (.lst (Ms.map ctA)) = some (.lst ((Ls ++ Ms).map ctA)) := by
    rw [addA_lst (by rw [← List.map_append, List.length_map]; exact Nat.le_trans hl (by decide)), List.map_append]
  unfold f_both m_both
  simp only [bodyM, sSeq, sIf, sThen, sSet, sRet, sRetN, sNext, sExpr, sPutIx, sAsg, sPar, sAug, sExc, mAnd, mOr, mNot, mIf, mT, mB, mAndV, mOrV, mNotV, m2, m1, mN, mNL, mV, mC, mLst, mTup, mLs, mLC, mLstC, newC, mSl, oNo, oYes, mChain, mChain, mCall, aNil, aCons, M.bnd, M.ret, M.bad, rd, gN, gT, gSeq, mF, frzA, mLM, mLM0, mItS, mItL, mItT, mEnum, mRng1, mRng2, List.map_cons, List.map_nil, List.replicate, List.cons_append, List.nil_append, List.getElem?_cons_zero, List.getElem?_cons_succ, List.set_cons_zero, List.set_cons_succ, List.length_cons, List.length_nil, Option.bind_some, Option.bind_none, Option.map_some, Option.map_none, if_true, if_false, ite_true, ite_false, Bool.false_eq_true, reduceIte, reduceCtorEq, same2_ok hc hc', fld_people hc, fld_lots hc, fld_lots hc', listA_tup, e1, q1]
/-! ### either -/
def ors (Ls Ms : List Nat) : List Nat := Ls.flatMap fun m => Ms.map fun o => m ||| o
theorem ors_len : ∀ (Ls Ms : List Nat), (ors Ls Ms).length = Ls.length * Ms.length
  | [], Ms => by simp [ors]
  | m :: Ls, Ms => by
    have ih := ors_len Ls Ms
    unfold ors at ih ⊢
    rw [List.flatMap_cons, List.length_append, List.length_map, ih, List.length_cons, Nat.add_mul]
    omega
theorem wi_or {m o b : Nat} : wi (m ||| o) b = (wi m b && wi o b) := by
  rw [Bool.eq_iff_iff, Bool.and_eq_true, wi_iff, wi_iff, wi_iff]
  constructor
  · intro h
    exact ⟨fun i hi => h i (by rw [Nat.testBit_or, hi]; rfl), fun i hi => h i (by rw [Nat.testBit_or, hi, Bool.or_true])⟩
  · rintro ⟨h1, h2⟩ i hi
    rw [Nat.testBit_or, Bool.or_eq_true] at hi
    exact hi.elim (h1 i) (h2 i)
theorem clr_ors (Ls Ms : List Nat) (b : Nat) : clr (ors Ls Ms) b = (clr Ls b || clr Ms b) := by
  cases h : clr (ors Ls Ms) b with
  | false =>
    rw [clr_false] at h
    obtain ⟨x, hx, w⟩ := h
    unfold ors at hx
    rw [List.mem_flatMap] at hx
    obtain ⟨m, hm, hx⟩ := hx
    rw [List.mem_map] at hx
    obtain ⟨o, ho, rfl⟩ := hx
    rw [wi_or, Bool.and_eq_true] at w
    rw [clr_false.mpr ⟨m, hm, w.1⟩, clr_false.mpr ⟨o, ho, w.2⟩]
    rfl
  | true =>
    rw [clr_iff] at h
    cases h1 : clr Ls b with
    | true => rfl
    | false =>
      cases h2 : clr Ms b with
      | true => rfl
      | false =>
        rw [clr_false] at h1 h2
        obtain ⟨m, hm, w1⟩ := h1
        obtain ⟨o, ho, w2⟩ := h2
        have := h (m ||| o) (by unfold ors; exact List.mem_flatMap.mpr ⟨m, hm, List.mem_map_of_mem ho⟩)
        rw [wi_or, w1, w2] at this
        cases this
theorem or_lt {n a b : Nat} (ha : a < 2 ^ n) (hb : b < 2 ^ n) : a ||| b < 2 ^ n := Nat.or_lt_two_pow ha hb
theorem loop_either {c c' : Str} {n : Nat} {Ls Ms : List Nat} (hc : BkC c) (hc' : BkC c') (hL : Ls.length ≤ 60) (hM : Ms.length ≤ 60) : ∃ a, L_either_2 [some (bk c n Ls), some (bk c' n Ms), some (.cell 0), none, none, none] [.lst []] = .nx [some (bk c n Ls), some (bk c' n Ms), some (.cell 0), a, none, none] [.lst ((ors Ls Ms).map fun m : Nat => AV.int m)] := by
  obtain ⟨e2, h2, q1, q2⟩ := sForL_all (g := gN 3) (b := B_either_1) (fun j env h => ∃ a, env = [some (bk c n Ls), some (bk c' n Ms), some (.cell 0), a, none, none] ∧ h = [.lst ((ors (Ls.take j) Ms).map fun m : Nat => AV.int m)]) (xs := Ls.map fun m : Nat => AV.int m) (env := [some (bk c n Ls), some (bk c' n Ms), some (.cell 0), none, none, none]) (h := [.lst []]) (fun j x env h e hI => by
    obtain ⟨a, rfl, rfl⟩ := hI
    rw [List.getElem?_map] at e
    cases hj : Ls[j]? with
    | none => rw [hj] at e; cases e
    | some m =>
      rw [hj] at e
      cases e
      have hjl := (List.getElem?_eq_some_iff.mp hj).1
      refine ⟨_, rfl, [some (bk c n Ls), some (bk c' n Ms), some (.cell 0), some (.int m), none, none], [.lst ((ors (Ls.take (j + 1)) Ms).map fun m : Nat => AV.int m)], .inl ?_, _, rfl, rfl⟩
      have e1 : K_either_0 [some (bk c n Ls), some (bk c' n Ms), some (.cell 0), some (.int m), none, none] [.lst ((ors (Ls.take j) Ms).map fun m : Nat => AV.int m)] = .ok (Ms.map fun o : Nat => AV.int ((m ||| o : Nat) : Int)) [.lst ((ors (Ls.take j) Ms).map fun m : Nat => AV.int m)] := by
        unfold K_either_0
        refine mLc_jm (xs := Ms) (h' := _) (fun m : Nat => AV.int m) (fun o : Nat => AV.int ((m ||| o : Nat) : Int)) ?_ (Nat.le_trans hM (by decide)) fun o ho => ⟨_, rfl, ?_⟩
        · simp only [bodyM, sSeq, sIf, sThen, sSet, sRet, sRetN, sNext, sExpr, sPutIx, sAsg, sPar, sAug, sExc, mAnd, mOr, mNot, mIf, mT, mB, mAndV, mOrV, mNotV, m2, m1, mN, mNL, mV, mC, mLst, mTup, mLs, mLC, mLstC, newC, mSl, oNo, oYes, mChain, mChain, mCall, aNil, aCons, M.bnd, M.ret, M.bad, rd, gN, gT, gSeq, mF, frzA, mLM, mLM0, mItS, mItL, mItT, mEnum, mRng1, mRng2, List.map_cons, List.map_nil, List.replicate, List.cons_append, List.nil_append, List.getElem?_cons_zero, List.getElem?_cons_succ, List.set_cons_zero, List.set_cons_succ, List.length_cons, List.length_nil, Option.bind_some, Option.bind_none, Option.map_some, Option.map_none, if_true, if_false, ite_true, ite_false, Bool.false_eq_true, reduceIte, reduceCtorEq, fld_masks hc']
        · simp only [wipeE, bodyM, sSeq, sIf, sThen, sSet, sRet, sRetN, sNext, sExpr, sPutIx, sAsg, sPar, sAug, sExc, mAnd, mOr, mNot, mIf, mT, mB, mAndV, mOrV, mNotV, m2, m1, mN, mNL, mV, mC, mLst, mTup, mLs, mLC, mLstC, newC, mSl, oNo, oYes, mChain, mChain, mCall, aNil, aCons, M.bnd, M.ret, M.bad, rd, gN, gT, gSeq, mF, frzA, mLM, mLM0, mItS, mItL, mItT, mEnum, mRng1, mRng2, List.map_cons, List.map_nil, List.replicate, List.cons_append, List.nil_append, List.getElem?_cons_zero, List.getElem?_cons_succ, List.set_cons_zero, List.set_cons_succ, List.length_cons, List.length_nil, Option.bind_some, Option.bind_none, Option.map_some, Option.map_none, if_true, if_false, ite_true, ite_false, Bool.false_eq_true, reduceIte, reduceCtorEq, orA_nat]
      have l1 : (ors (Ls.take j) Ms).length ≤ 60 * 60 := by
        rw [ors_len, List.length_take]
        exact Nat.mul_le_mul (by omega) hM
      have e2 : ((ors (Ls.take j) Ms).map fun m : Nat => AV.int m) ++ (Ms.map fun o : Nat => AV.int ((m ||| o : Nat) : Int)) = (ors (Ls.take (j + 1)) Ms).map fun m : Nat => AV.int m := by
        rw [List.take_add_one, hj]
        unfold ors
        rw [List.flatMap_append, List.map_append]
        congr 1
        show _ = (([m] : List Nat).flatMap fun m => Ms.map fun o => m ||| o).map _
        rw [List.flatMap_cons, List.flatMap_nil, List.append_nil, List.map_map]
        rfl
      have l2 : ((ors (Ls.take j) Ms).map fun m : Nat => AV.int m).length + (Ms.map fun o : Nat => AV.int ((m ||| o : Nat) : Int)).length ≤ sizeLine := by
        rw [List.length_map, List.length_map]
        exact Nat.le_trans (by omega : _ ≤ 3660) (by decide)
      unfold B_either_1
      simp only [bodyM, sSeq, sIf, sThen, sSet, sRet, sRetN, sNext, sExpr, sPutIx, sAsg, sPar, sAug, sExc, mAnd, mOr, mNot, mIf, mT, mB, mAndV, mOrV, mNotV, m2, m1, mN, mNL, mV, mC, mLst, mTup, mLs, mLC, mLstC, newC, mSl, oNo, oYes, mChain, mChain, mCall, aNil, aCons, M.bnd, M.ret, M.bad, rd, gN, gT, gSeq, mF, frzA, mLM, mLM0, mItS, mItL, mItT, mEnum, mRng1, mRng2, List.map_cons, List.map_nil, List.replicate, List.cons_append, List.nil_append, List.getElem?_cons_zero, List.getElem?_cons_succ, List.set_cons_zero, List.set_cons_succ, List.length_cons, List.length_nil, Option.bind_some, Option.bind_none, Option.map_some, Option.map_none, if_true, if_false, ite_true, ite_false, Bool.false_eq_true, reduceIte, reduceCtorEq, e1, chkL, updL, extendA, lstOf, der, l2, e2]) ⟨none, rfl, by rw [List.take_zero]; rfl⟩
  obtain ⟨a, rfl, rfl⟩ := q2
  rw [List.length_map, List.take_length] at q1
  refine ⟨a, ?_⟩
  have rg : mItS (m1 (fldA ["Book", "RawBook"] "masks") (mV 0)) [some (bk c n Ls), some (bk c' n Ms), some (.cell 0), none, none, none] [.lst []] = .ok (Ls.map fun m : Nat => AV.int m) [.lst []] := by simp only [bodyM, sSeq, sIf, sThen, sSet, sRet, sRetN, sNext, sExpr, sPutIx, sAsg, sPar, sAug, sExc, mAnd, mOr, mNot, mIf, mT, mB, mAndV, mOrV, mNotV, m2, m1, mN, mNL, mV, mC, mLst, mTup, mLs, mLC, mLstC, newC, mSl, oNo, oYes, mChain, mChain, mCall, aNil, aCons, M.bnd, M.ret, M.bad, rd, gN, gT, gSeq, mF, frzA, mLM, mLM0, mItS, mItL, mItT, mEnum, mRng1, mRng2, List.map_cons, List.map_nil, List.replicate, List.cons_append, List.nil_append, List.getElem?_cons_zero, List.getElem?_cons_succ, List.set_cons_zero, List.set_cons_succ, List.length_cons, List.length_nil, Option.bind_some, Option.bind_none, Option.map_some, Option.map_none, if_true, if_false, ite_true, ite_false, Bool.false_eq_true, reduceIte, reduceCtorEq, fld_masks hc]
  unfold L_either_2 sFor sThen
  rw [rg]
  exact q1
theorem either_ok {c c' : Str} {n : Nat} {Ls Ms : List Nat} (hc : BkC c) (hc' : BkC c') (hn : n ≤ 12) (hL : ∀ m ∈ Ls, m < 2 ^ n) (hM : ∀ m ∈ Ms, m < 2 ^ n) (lL : Ls.length ≤ 7) (lM : Ms.length ≤ 7) : ∃ Bs, (∀ h, callP 2 f_either [bk c n Ls, bk c' n Ms] h = .ok (bk "RawBook" n Bs) h) ∧ MadeOf n (ors Ls Ms) Bs := by
  have lo : (ors Ls Ms).length ≤ 49 := by rw [ors_len]; exact Nat.mul_le_mul lL lM
  have hb : ∀ m ∈ ors Ls Ms, m < 2 ^ n := fun x hx => by
    unfold ors at hx
    rw [List.mem_flatMap] at hx
    obtain ⟨m, hm, hx⟩ := hx
    rw [List.mem_map] at hx
    obtain ⟨o, ho, rfl⟩ := hx
    exact or_lt (hL m hm) (hM o ho)
  obtain ⟨ms, N, q1⟩ := least_ok (hs := ors Ls Ms) (by omega)
  obtain ⟨w1, w2, w3⟩ := mini_ok (n := n) (hs := ors Ls Ms) N.nd N.mem hb
  have lm : (mini ms).length ≤ (ors Ls Ms).length := Nat.le_trans (List.length_filter_le _ _) N.len
  obtain ⟨a, q2⟩ := loop_either (n := n) (Ls := Ls) (Ms := Ms) hc hc' (by omega) (by omega)
  refine ⟨isort ltC (mini ms), fun h => callP_ok (h' := [.frz (.lst ((ors Ls Ms).map fun m : Nat => AV.int m))]) ?_ rfl (noC2 noC_bk noC_bk) noC_bk, w1, w2, w3, by rw [(isort_perm _).length_eq]; exact lm⟩
  have e2 : ∀ h, lenA h [.lst ((mini ms).map fun m : Nat => AV.int m)] = some (.int (mini ms).length) := fun h => by rw [lenA_lst, List.length_map]
  have e3 : ∀ h, callP 2 f_check_many [.int (mini ms).length, .int 60] h = .ok .non h := fun h => many_ok (by omega)
  have e4 : ∀ h, callP 2 f_book_with [.int n, .lst ((mini ms).map fun m : Nat => AV.int m)] h = .ok (bk "RawBook" n (isort ltC (mini ms))) h := fun h => bookwith_ok hn (fun m hm => hb m ((N.mem m).mp (List.mem_filter.mp hm).1)) (Nat.le_trans lm (Nat.le_trans lo (by decide)))
  have sm0 : small [] = true := by decide
  unfold f_either m_either
  simp only [bodyM, sSeq, sIf, sThen, sSet, sRet, sRetN, sNext, sExpr, sPutIx, sAsg, sPar, sAug, sExc, mAnd, mOr, mNot, mIf, mT, mB, mAndV, mOrV, mNotV, m2, m1, mN, mNL, mV, mC, mLst, mTup, mLs, mLC, mLstC, newC, mSl, oNo, oYes, mChain, mChain, mCall, aNil, aCons, M.bnd, M.ret, M.bad, rd, gN, gT, gSeq, mF, frzA, mLM, mLM0, mItS, mItL, mItT, mEnum, mRng1, mRng2, List.map_cons, List.map_nil, List.replicate, List.cons_append, List.nil_append, List.getElem?_cons_zero, List.getElem?_cons_succ, List.set_cons_zero, List.set_cons_succ, List.length_cons, List.length_nil, Option.bind_some, Option.bind_none, Option.map_some, Option.map_none, if_true, if_false, ite_true, ite_false, Bool.false_eq_true, reduceIte, reduceCtorEq, same2_ok hc hc', sm0, q2, q1, e2, e3, fld_people hc, e4]
/-! ### the law's own crowds -/
def allC (n : Nat) : List Nat := isort (fun a b => ltLen (cr a) (cr b)) (List.range (2 ^ n))
theorem mem_allC {n b : Nat} : b ∈ allC n ↔ b < 2 ^ n := by
  unfold allC
  rw [(isort_perm _).mem_iff, List.mem_range]
theorem perm_allC (n : Nat) : (allC n).Perm (List.range (2 ^ n)) := isort_perm _
theorem len_allC (n : Nat) : (allC n).length = 2 ^ n := by rw [(perm_allC n).length_eq, List.length_range]
theorem loop_crowds {n : Nat} (hn : n ≤ 12) : ∃ a, L__law_crowds_2 [some (.int n), some (.lst [.tup []]), none, none] [] = .nx [some (.int n), some (.lst ((List.range (2 ^ n)).map ctA)), a, none] [] := by
  obtain ⟨e2, h2, q1, q2⟩ := sForL_all (g := gN 2) (b := B__law_crowds_1) (fun j env h => h = [] ∧ j ≤ n ∧ ∃ a, env = [some (.int n), some (.lst ((List.range (2 ^ j)).map ctA)), a, none]) (xs := rngL 0 n) (env := [some (.int n), some (.lst [.tup []]), none, none]) (h := []) (fun j x env h e hI => by
    obtain ⟨rfl, hjn, a, rfl⟩ := hI
    obtain ⟨rfl, hl⟩ := rngL_get e
    rw [Int.zero_add] at hl ⊢
    have hj : j < n := by omega
    refine ⟨_, rfl, [some (.int n), some (.lst ((List.range (2 ^ (j + 1))).map ctA)), some (.int j), none], [], .inl ?_, rfl, hj, _, rfl⟩
    have p12 : 2 ^ (j + 1) ≤ 4096 := pow12 (by omega)
    have p11 : 2 ^ j ≤ 4096 := pow12 (by omega)
    have e1 : K__law_crowds_0 [some (.int n), some (.lst ((List.range (2 ^ j)).map ctA)), some (.int j), none] [] = .ok ((List.range (2 ^ j)).map fun b => tupA (cr b ++ [(j : Int)])) [] := by
      unfold K__law_crowds_0
      refine mLc_jm (xs := List.range (2 ^ j)) (h' := []) ctA (fun b => tupA (cr b ++ [(j : Int)])) rfl (by rw [List.length_range]; exact Nat.le_trans p11 (by decide)) fun b hb => ⟨_, rfl, ?_⟩
      have hb' := List.mem_range.mp hb
      have l1 : ((cr b).map AV.int ++ [AV.int j]).length ≤ sizeLine := by
        rw [List.length_append, List.length_map]
        exact Nat.le_trans (Nat.add_le_add_right (cr_len_n hb') 1) (Nat.le_trans (by omega : j + 1 ≤ 4096) (by decide))
      have e : addA [] (ctA b) (.tup [.int j]) = some (tupA (cr b ++ [(j : Int)])) := by
        show addA [] (.tup ((cr b).map AV.int)) (.tup [.int j]) = _
        rw [addA_tup l1]
        unfold tupA
        rw [List.map_append]
        rfl
      have s1 : small [AV.int j] = true := rfl
      simp only [wipeE, bodyM, sSeq, sIf, sThen, sSet, sRet, sRetN, sNext, sExpr, sPutIx, sAsg, sPar, sAug, sExc, mAnd, mOr, mNot, mIf, mT, mB, mAndV, mOrV, mNotV, m2, m1, mN, mNL, mV, mC, mLst, mTup, mLs, mLC, mLstC, newC, mSl, oNo, oYes, mChain, mChain, mCall, aNil, aCons, M.bnd, M.ret, M.bad, rd, gN, gT, gSeq, mF, frzA, mLM, mLM0, mItS, mItL, mItT, mEnum, mRng1, mRng2, List.map_cons, List.map_nil, List.replicate, List.cons_append, List.nil_append, List.getElem?_cons_zero, List.getElem?_cons_succ, List.set_cons_zero, List.set_cons_succ, List.length_cons, List.length_nil, Option.bind_some, Option.bind_none, Option.map_some, Option.map_none, if_true, if_false, ite_true, ite_false, Bool.false_eq_true, reduceIte, reduceCtorEq, s1, e]
    have e2 : addA [] (.lst ((List.range (2 ^ j)).map ctA)) (.lst ((List.range (2 ^ j)).map fun b => tupA (cr b ++ [(j : Int)]))) = some (.lst ((List.range (2 ^ (j + 1))).map ctA)) := by
      rw [addA_lst (by rw [List.length_append, List.length_map, List.length_map, List.length_range]; exact Nat.le_trans (by omega : _ ≤ 8192) (by decide))]
      congr 2
      have := congrArg (List.map tupA) (crowds_double j)
      rw [List.map_map, List.map_append, List.map_map, List.map_map, List.map_map] at this
      exact this.symm
    unfold B__law_crowds_1
    simp only [bodyM, sSeq, sIf, sThen, sSet, sRet, sRetN, sNext, sExpr, sPutIx, sAsg, sPar, sAug, sExc, mAnd, mOr, mNot, mIf, mT, mB, mAndV, mOrV, mNotV, m2, m1, mN, mNL, mV, mC, mLst, mTup, mLs, mLC, mLstC, newC, mSl, oNo, oYes, mChain, mChain, mCall, aNil, aCons, M.bnd, M.ret, M.bad, rd, gN, gT, gSeq, mF, frzA, mLM, mLM0, mItS, mItL, mItT, mEnum, mRng1, mRng2, List.map_cons, List.map_nil, List.replicate, List.cons_append, List.nil_append, List.getElem?_cons_zero, List.getElem?_cons_succ, List.set_cons_zero, List.set_cons_succ, List.length_cons, List.length_nil, Option.bind_some, Option.bind_none, Option.map_some, Option.map_none, if_true, if_false, ite_true, ite_false, Bool.false_eq_true, reduceIte, reduceCtorEq, e1, e2]) ⟨rfl, Nat.zero_le _, none, rfl⟩
  obtain ⟨rfl, hx, a, rfl⟩ := q2
  rw [rngL_len] at q1
  rw [show ((n : Int) - 0).toNat = n by omega] at q1
  refine ⟨a, ?_⟩
  have rg : mRng1 (mV 0) [some (.int n), some (.lst [.tup []]), none, none] [] = .ok (rngL 0 n) [] := rng1 rfl (by omega) (by omega)
  unfold L__law_crowds_2 sFor sThen
  rw [rg]
  exact q1
theorem crowds_ok {n : Nat} {h : Hs} (hn : n ≤ 12) : callP 1 f__law_crowds [.int n] h = .ok (.lst ((allC n).map ctA)) h := by
  refine callP_ok (h' := []) ?_ rfl rfl (noCs_ct _)
  obtain ⟨a, q1⟩ := loop_crowds hn
  have e1 : sortLenA [] (.lst ((List.range (2 ^ n)).map ctA)) = some ((allC n).map ctA) := by
    unfold sortLenA
    show ((tups? ((List.range (2 ^ n)).map ctA)).bind fun nss => if nss.all (fun ns => decide (ns.length ≤ sizeLine)) then some ((isort ltLen nss).map tupA) else none) = _
    have : (List.range (2 ^ n)).map ctA = ((List.range (2 ^ n)).map cr).map tupA := by rw [List.map_map]; rfl
    rw [this, tups_map]
    show (if ((List.range (2 ^ n)).map cr).all (fun ns => decide (ns.length ≤ sizeLine)) then some ((isort ltLen ((List.range (2 ^ n)).map cr)).map tupA) else none) = _
    rw [if_pos, isort_map cr ltLen, List.map_map]
    · rfl
    · rw [List.all_map, List.all_eq_true]
      intro b hb
      exact decide_eq_true (small_cr (mb12 (List.mem_range.mp hb) hn))
  have s0 : small [] = true := by decide
  have s1 : small [AV.tup []] = true := by decide
  unfold f__law_crowds m__law_crowds
  simp only [bodyM, sSeq, sIf, sThen, sSet, sRet, sRetN, sNext, sExpr, sPutIx, sAsg, sPar, sAug, sExc, mAnd, mOr, mNot, mIf, mT, mB, mAndV, mOrV, mNotV, m2, m1, mN, mNL, mV, mC, mLst, mTup, mLs, mLC, mLstC, newC, mSl, oNo, oYes, mChain, mChain, mCall, aNil, aCons, M.bnd, M.ret, M.bad, rd, gN, gT, gSeq, mF, frzA, mLM, mLM0, mItS, mItL, mItT, mEnum, mRng1, mRng2, List.map_cons, List.map_nil, List.replicate, List.cons_append, List.nil_append, List.getElem?_cons_zero, List.getElem?_cons_succ, List.set_cons_zero, List.set_cons_succ, List.length_cons, List.length_nil, Option.bind_some, Option.bind_none, Option.map_some, Option.map_none, if_true, if_false, ite_true, ite_false, Bool.false_eq_true, reduceIte, reduceCtorEq, s0, s1, q1, mSortLen, e1]
theorem isclear_ok {c : Str} {n b : Nat} {Ls : List Nat} {h : Hs} (hc : BkC c) (hn : n ≤ 12) (hL : ∀ m ∈ Ls, m < 2 ^ n) (hl : Ls.length ≤ sizeLine) : callP 2 f__law_is_clear [bk c n Ls, ctA b] h = .ok (.bl (clr Ls b)) h := by
  refine callP_ok (h' := []) ?_ rfl (noC2 noC_bk (noC_tupA _)) rfl
  have e0 : ∀ m ∈ Ls, K__law_is_clear_0 [some (bk c n Ls), some (ctA b), some (ctA m), none] [] = .ok (((cr m).map fun p => (cr b).contains p).map AV.bl) [] := fun m hm => by
    unfold K__law_is_clear_0
    rw [List.map_map]
    refine mLc_jm (xs := cr m) (h' := []) AV.int (fun p => AV.bl ((cr b).contains p)) rfl (small_cr (mb12 (hL m hm) hn)) fun p hp => ⟨_, rfl, ?_⟩
    simp only [wipeE, bodyM, sSeq, sIf, sThen, sSet, sRet, sRetN, sNext, sExpr, sPutIx, sAsg, sPar, sAug, sExc, mAnd, mOr, mNot, mIf, mT, mB, mAndV, mOrV, mNotV, m2, m1, mN, mNL, mV, mC, mLst, mTup, mLs, mLC, mLstC, newC, mSl, oNo, oYes, mChain, mChain, mCall, aNil, aCons, M.bnd, M.ret, M.bad, rd, gN, gT, gSeq, mF, frzA, mLM, mLM0, mItS, mItL, mItT, mEnum, mRng1, mRng2, List.map_cons, List.map_nil, List.replicate, List.cons_append, List.nil_append, List.getElem?_cons_zero, List.getElem?_cons_succ, List.set_cons_zero, List.set_cons_succ, List.length_cons, List.length_nil, Option.bind_some, Option.bind_none, Option.map_some, Option.map_none, if_true, if_false, ite_true, ite_false, Bool.false_eq_true, reduceIte, reduceCtorEq, inA_tup]
  have e1 : K__law_is_clear_1 [some (bk c n Ls), some (ctA b), none, none] [] = .ok ((Ls.map fun m => wi m b).map AV.bl) [] := by
    unfold K__law_is_clear_1
    rw [List.map_map]
    refine mLc_jm (xs := Ls) (h' := []) ctA (fun m => AV.bl (wi m b)) ?_ hl fun m hm => ⟨_, rfl, ?_⟩
    · simp only [bodyM, sSeq, sIf, sThen, sSet, sRet, sRetN, sNext, sExpr, sPutIx, sAsg, sPar, sAug, sExc, mAnd, mOr, mNot, mIf, mT, mB, mAndV, mOrV, mNotV, m2, m1, mN, mNL, mV, mC, mLst, mTup, mLs, mLC, mLstC, newC, mSl, oNo, oYes, mChain, mChain, mCall, aNil, aCons, M.bnd, M.ret, M.bad, rd, gN, gT, gSeq, mF, frzA, mLM, mLM0, mItS, mItL, mItT, mEnum, mRng1, mRng2, List.map_cons, List.map_nil, List.replicate, List.cons_append, List.nil_append, List.getElem?_cons_zero, List.getElem?_cons_succ, List.set_cons_zero, List.set_cons_succ, List.length_cons, List.length_nil, Option.bind_some, Option.bind_none, Option.map_some, Option.map_none, if_true, if_false, ite_true, ite_false, Bool.false_eq_true, reduceIte, reduceCtorEq, fld_lots hc]
    · have e2 : ((cr m).map fun p => (cr b).contains p).all id = wi m b := by rw [List.all_map, ← wi_all]; rfl
      simp only [wipeE, bodyM, sSeq, sIf, sThen, sSet, sRet, sRetN, sNext, sExpr, sPutIx, sAsg, sPar, sAug, sExc, mAnd, mOr, mNot, mIf, mT, mB, mAndV, mOrV, mNotV, m2, m1, mN, mNL, mV, mC, mLst, mTup, mLs, mLC, mLstC, newC, mSl, oNo, oYes, mChain, mChain, mCall, aNil, aCons, M.bnd, M.ret, M.bad, rd, gN, gT, gSeq, mF, frzA, mLM, mLM0, mItS, mItL, mItT, mEnum, mRng1, mRng2, List.map_cons, List.map_nil, List.replicate, List.cons_append, List.nil_append, List.getElem?_cons_zero, List.getElem?_cons_succ, List.set_cons_zero, List.set_cons_succ, List.length_cons, List.length_nil, Option.bind_some, Option.bind_none, Option.map_some, Option.map_none, if_true, if_false, ite_true, ite_false, Bool.false_eq_true, reduceIte, reduceCtorEq, e0 m hm, allA_bls, e2]
  unfold f__law_is_clear m__law_is_clear
  simp only [bodyM, sSeq, sIf, sThen, sSet, sRet, sRetN, sNext, sExpr, sPutIx, sAsg, sPar, sAug, sExc, mAnd, mOr, mNot, mIf, mT, mB, mAndV, mOrV, mNotV, m2, m1, mN, mNL, mV, mC, mLst, mTup, mLs, mLC, mLstC, newC, mSl, oNo, oYes, mChain, mChain, mCall, aNil, aCons, M.bnd, M.ret, M.bad, rd, gN, gT, gSeq, mF, frzA, mLM, mLM0, mItS, mItL, mItT, mEnum, mRng1, mRng2, List.map_cons, List.map_nil, List.replicate, List.cons_append, List.nil_append, List.getElem?_cons_zero, List.getElem?_cons_succ, List.set_cons_zero, List.set_cons_succ, List.length_cons, List.length_nil, Option.bind_some, Option.bind_none, Option.map_some, Option.map_none, if_true, if_false, ite_true, ite_false, Bool.false_eq_true, reduceIte, reduceCtorEq, e1, anyA_bls, List.any_map]
  rfl
end LW

set_option Elab.async false
set_option linter.all false
set_option maxRecDepth 100000
set_option maxHeartbeats 2000000
namespace LW
open PySem L2 Sim MB
local instance tabN4 : TabT := ⟨[]⟩
theorem sm0 : small [] = true := by show decide (0 ≤ sizeLine) = true; decide
theorem sm1 {a : AV} : small [a] = true := by show decide (1 ≤ sizeLine) = true; decide
theorem sm2 {a b : AV} : small [a, b] = true := by show decide (2 ≤ sizeLine) = true; decide
theorem sm3 {a b c : AV} : small [a, b, c] = true := by show decide (3 ≤ sizeLine) = true; decide
theorem sm4 {a b c d : AV} : small [a, b, c, d] = true := by show decide (4 ≤ sizeLine) = true; decide
theorem sm5 {a b c d e : AV} : small [a, b, c, d, e] = true := by show decide (5 ≤ sizeLine) = true; decide
theorem sm6 {a b c d e f : AV} : small [a, b, c, d, e, f] = true := by show decide (6 ≤ sizeLine) = true; decide
theorem lt1 : (1 < sizeLine) = True := by simp; decide
theorem lt2 : (2 < sizeLine) = True := by simp; decide
theorem lt3 : (3 < sizeLine) = True := by simp; decide
theorem lt4 : (4 < sizeLine) = True := by simp; decide
/-- a book of the law -/
structure LawBk (n : Nat) (Ls : List Nat) : Prop where
  wb : WB n Ls
  len : Ls.length ≤ 4
  two : ∀ m ∈ Ls, 1 < (cr m).length
theorem K_of {n : Nat} {a3 a4 : Option AV} {c : Cell} {x : Cell} (hn : n ≤ 12) (hc : HandOk c) : ∃ b c', K__law_of_0 [some (.cell 0), some (.int n), some (.cell 1), a3, a4, none] [c, x] = .ok ((cr b).map AV.int) [c', x] ∧ b < 2 ^ n ∧ HandOk c' := by
  obtain ⟨ys, h', q1, q2, c', rfl, q4⟩ := lcL_sub (g := gN 5) (t := mT (m2 eqA (mCall (callH 2 f__law_draw) (aCons (mV 0) (aCons (mC (.int 2)) aNil))) (mC (.int 0)))) (e := mV 5) (env := wipeE [some (.cell 0), some (.int n), some (.cell 1), a3, a4, none] [5]) (fun h => ∃ c', h = [c', x] ∧ HandOk c') (xs := rngL 0 n) (h := [c, x]) (fun p hp h hI => by
    obtain ⟨c1, rfl, k1⟩ := hI
    obtain ⟨d, c2, e2, r1, r2, k2⟩ := draw_at (h := [c1, x]) (n := 0) (many := 2) rfl k1 (by decide) (by decide)
    have e2' : callH 2 f__law_draw [.cell 0, .int 2] [c1, x] = .ok (.int d) [c2, x] := e2
    refine ⟨_, decide (d = 0), [c2, x], rfl, ?_, ?_, c2, rfl, k2⟩
    · simp only [wipeE, bodyM, sSeq, sIf, sThen, sSet, sRet, sRetN, sNext, sExpr, sPutIx, sAsg, sPar, sAug, sExc, mAnd, mOr, mNot, mIf, mT, mB, mAndV, mOrV, mNotV, m2, m1, mN, mNL, mV, mC, mLst, mTup, mLs, mLC, mLstC, newC, mSl, oNo, oYes, mChain, mChain, mCall, aNil, aCons, M.bnd, M.ret, M.bad, rd, gN, gT, gSeq, mF, frzA, mLM, mLM0, mItS, mItL, mItT, mEnum, mRng1, mRng2, List.map_cons, List.map_nil, List.replicate, List.cons_append, List.nil_append, List.getElem?_cons_zero, List.getElem?_cons_succ, List.set_cons_zero, List.set_cons_succ, List.length_cons, List.length_nil, Option.bind_some, Option.bind_none, Option.map_some, Option.map_none, if_true, if_false, ite_true, ite_false, Bool.false_eq_true, reduceIte, reduceCtorEq, e2', eqA_int]
    · simp only [wipeE, bodyM, sSeq, sIf, sThen, sSet, sRet, sRetN, sNext, sExpr, sPutIx, sAsg, sPar, sAug, sExc, mAnd, mOr, mNot, mIf, mT, mB, mAndV, mOrV, mNotV, m2, m1, mN, mNL, mV, mC, mLst, mTup, mLs, mLC, mLstC, newC, mSl, oNo, oYes, mChain, mChain, mCall, aNil, aCons, M.bnd, M.ret, M.bad, rd, gN, gT, gSeq, mF, frzA, mLM, mLM0, mItS, mItL, mItT, mEnum, mRng1, mRng2, List.map_cons, List.map_nil, List.replicate, List.cons_append, List.nil_append, List.getElem?_cons_zero, List.getElem?_cons_succ, List.set_cons_zero, List.set_cons_succ, List.length_cons, List.length_nil, Option.bind_some, Option.bind_none, Option.map_some, Option.map_none, if_true, if_false, ite_true, ite_false, Bool.false_eq_true, reduceIte, reduceCtorEq]) ⟨c, rfl, hc⟩
  have e1 : rngL 0 n = ((List.range n).map fun i : Nat => (i : Int)).map AV.int := by rw [rngL_nat, List.map_map]; rfl
  rw [e1, List.sublist_map_iff] at q2
  obtain ⟨l, q2, rfl⟩ := q2
  obtain ⟨b, hb, rfl⟩ := sub_cr n l q2
  refine ⟨b, c', ?_, hb, q4⟩
  unfold K__law_of_0
  exact mLc_ok (rng1 rfl (by omega) (by omega)) (by rw [rngL_len]; exact Nat.le_trans (by omega : _ ≤ 12) (by decide)) q1
theorem loop_of {n : Nat} {d : Int} {c : Cell} (hn : n ≤ 12) (hc : HandOk c) (h0 : 0 ≤ d) (h5 : d < 5) (q : callH 2 f__law_draw [.cell 0, .int 5] [c0, .lst []] = .ok (.int d) [c, .lst []]) : ∃ c' a3 a4, ∃ hs : List Nat, L__law_of_2 [some (.cell 0), some (.int n), some (.cell 1), none, none, none] [c0, .lst []] = .nx [some (.cell 0), some (.int n), some (.cell 1), a3, a4, none] [c', .lst (hs.map ctA)] ∧ HandOk c' ∧ hs.length ≤ 4 ∧ (∀ m ∈ hs, m < 2 ^ n) ∧ ∀ m ∈ hs, 1 < (cr m).length := by
  obtain ⟨e2, h2, q1, c', a3, a4, hs, rfl, rfl, q2, q3, q4, q5⟩ := sForL_all (g := gN 3) (b := B__law_of_1) (fun j env h => ∃ c' a3 a4, ∃ hs : List Nat, env = [some (.cell 0), some (.int n), some (.cell 1), a3, a4, none] ∧ h = [c', .lst (hs.map ctA)] ∧ HandOk c' ∧ hs.length ≤ j ∧ (∀ m ∈ hs, m < 2 ^ n) ∧ ∀ m ∈ hs, 1 < (cr m).length) (xs := rngL 0 d) (env := [some (.cell 0), some (.int n), some (.cell 1), none, none, none]) (h := [c, .lst []]) (fun j x env h e hI => by
    obtain ⟨c1, a3, a4, hs, rfl, rfl, k1, l1, b1, t1⟩ := hI
    obtain ⟨rfl, hj⟩ := rngL_get e
    obtain ⟨b, c2, e2, hb, k2⟩ := K_of (n := n) (a3 := some (.int (0 + (j : Int)))) (a4 := a4) (c := c1) (x := .lst (hs.map ctA)) hn k1
    have e3 : lenA [c2, .lst (hs.map ctA)] [.tup ((cr b).map AV.int)] = some (.int (cr b).length) := by rw [lenA_tup, List.length_map]
    have l5 : j + 1 ≤ 5 := by omega
    by_cases h2 : 1 < (cr b).length
    · refine ⟨_, rfl, [some (.cell 0), some (.int n), some (.cell 1), some (.int (0 + (j : Int))), some (ctA b), none], [c2, .lst ((hs ++ [b]).map ctA)], .inl ?_, c2, _, _, hs ++ [b], rfl, rfl, k2, by simpa using l1, fun m hm => ?_, fun m hm => ?_⟩
      · have g : (1 : Int) < (cr b).length := by omega
        have e5 : (hs.map ctA) ++ [AV.tup ((cr b).map AV.int)] = (hs ++ [b]).map ctA := by rw [List.map_append]; rfl
        have l6 : (hs.map ctA).length + 1 ≤ sizeLine := by rw [List.length_map]; exact Nat.le_trans (by omega : _ ≤ 5) (by decide)
        unfold B__law_of_1
        simp only [bodyM, sSeq, sIf, sThen, sSet, sRet, sRetN, sNext, sExpr, sPutIx, sAsg, sPar, sAug, sExc, mAnd, mOr, mNot, mIf, mT, mB, mAndV, mOrV, mNotV, m2, m1, mN, mNL, mV, mC, mLst, mTup, mLs, mLC, mLstC, newC, mSl, oNo, oYes, mChain, mChain, mCall, aNil, aCons, M.bnd, M.ret, M.bad, rd, gN, gT, gSeq, mF, frzA, mLM, mLM0, mItS, mItL, mItT, mEnum, mRng1, mRng2, List.map_cons, List.map_nil, List.replicate, List.cons_append, List.nil_append, List.getElem?_cons_zero, List.getElem?_cons_succ, List.set_cons_zero, List.set_cons_succ, List.length_cons, List.length_nil, Option.bind_some, Option.bind_none, Option.map_some, Option.map_none, if_true, if_false, ite_true, ite_false, Bool.false_eq_true, reduceIte, reduceCtorEq, e2, tupleA_lst, e3, gtA_int, g, decide_true, sm1, chkL, updL, extendA, lstOf, der, l6, e5]
        rfl
      · rcases List.mem_append.mp hm with hm | hm
        · exact b1 m hm
        · rw [List.mem_singleton.mp hm]; exact hb
      · rcases List.mem_append.mp hm with hm | hm
        · exact t1 m hm
        · rw [List.mem_singleton.mp hm]; exact h2
    · refine ⟨_, rfl, [some (.cell 0), some (.int n), some (.cell 1), some (.int (0 + (j : Int))), some (ctA b), none], [c2, .lst (hs.map ctA)], .inl ?_, c2, _, _, hs, rfl, rfl, k2, by omega, b1, t1⟩
      have g : ¬ (1 : Int) < (cr b).length := by omega
      have l6 : (hs.map ctA).length ≤ sizeLine := by rw [List.length_map]; exact Nat.le_trans (by omega : _ ≤ 5) (by decide)
      unfold B__law_of_1
      simp only [bodyM, sSeq, sIf, sThen, sSet, sRet, sRetN, sNext, sExpr, sPutIx, sAsg, sPar, sAug, sExc, mAnd, mOr, mNot, mIf, mT, mB, mAndV, mOrV, mNotV, m2, m1, mN, mNL, mV, mC, mLst, mTup, mLs, mLC, mLstC, newC, mSl, oNo, oYes, mChain, mChain, mCall, aNil, aCons, M.bnd, M.ret, M.bad, rd, gN, gT, gSeq, mF, frzA, mLM, mLM0, mItS, mItL, mItT, mEnum, mRng1, mRng2, List.map_cons, List.map_nil, List.replicate, List.cons_append, List.nil_append, List.getElem?_cons_zero, List.getElem?_cons_succ, List.set_cons_zero, List.set_cons_succ, List.length_cons, List.length_nil, Option.bind_some, Option.bind_none, Option.map_some, Option.map_none, if_true, if_false, ite_true, ite_false, Bool.false_eq_true, reduceIte, reduceCtorEq, e2, tupleA_lst, e3, gtA_int, g, decide_false, sm0, chkL, updL, extendA, lstOf, der, l6, List.append_nil, Nat.add_zero]
      rfl) ⟨c, none, none, [], rfl, rfl, hc, Nat.le_refl _, (fun m hm => nomatch hm), fun m hm => nomatch hm⟩
  refine ⟨c', a3, a4, hs, ?_, q2, ?_, q4, q5⟩
  · have rg : mRng1 (mCall (callH 2 f__law_draw) (aCons (mV 0) (aCons (mC (.int 5)) aNil))) [some (.cell 0), some (.int n), some (.cell 1), none, none, none] [c0, .lst []] = .ok (rngL 0 d) [c, .lst []] := rng1 (by simp only [bodyM, sSeq, sIf, sThen, sSet, sRet, sRetN, sNext, sExpr, sPutIx, sAsg, sPar, sAug, sExc, mAnd, mOr, mNot, mIf, mT, mB, mAndV, mOrV, mNotV, m2, m1, mN, mNL, mV, mC, mLst, mTup, mLs, mLC, mLstC, newC, mSl, oNo, oYes, mChain, mChain, mCall, aNil, aCons, M.bnd, M.ret, M.bad, rd, gN, gT, gSeq, mF, frzA, mLM, mLM0, mItS, mItL, mItT, mEnum, mRng1, mRng2, List.map_cons, List.map_nil, List.replicate, List.cons_append, List.nil_append, List.getElem?_cons_zero, List.getElem?_cons_succ, List.set_cons_zero, List.set_cons_succ, List.length_cons, List.length_nil, Option.bind_some, Option.bind_none, Option.map_some, Option.map_none, if_true, if_false, ite_true, ite_false, Bool.false_eq_true, reduceIte, reduceCtorEq, q]) h0 (by omega)
    unfold L__law_of_2 sFor sThen
    rw [rg]
    exact q1
  · rw [rngL_len] at q3
    omega
theorem lawof_ok {n : Nat} {c : Cell} (h1 : 1 ≤ n) (hn : n ≤ 12) (hc : HandOk c) : ∃ Ls c' r, f__law_of [.cell 0, .int n] [c] = .ok (bk "RawBook" n Ls) (c' :: r) ∧ LawBk n Ls ∧ HandOk c' := by
  obtain ⟨d, c1, e1, r1, r2, k1⟩ := draw_at (h := [c, .lst []]) (n := 0) (many := 5) rfl hc (by decide) (by decide)
  have e1' : callH 2 f__law_draw [.cell 0, .int 5] [c, .lst []] = .ok (.int d) [c1, .lst []] := e1
  obtain ⟨c2, a3, a4, hs, q1, k2, l2, b2, t2⟩ := loop_of (n := n) (c0 := c) hn k1 r1 r2 e1'
  obtain ⟨Ls, q3, q4⟩ := bookof_ok (n := n) (hs := hs) h1 hn b2 t2 (by omega)
  refine ⟨Ls, c2, [.frz (.lst (hs.map ctA))], ?_, ⟨q4.wb, Nat.le_trans q4.len l2, fun m hm => t2 m (q4.sub m hm)⟩, k2⟩
  unfold f__law_of m__law_of
  simp only [bodyM, sSeq, sIf, sThen, sSet, sRet, sRetN, sNext, sExpr, sPutIx, sAsg, sPar, sAug, sExc, mAnd, mOr, mNot, mIf, mT, mB, mAndV, mOrV, mNotV, m2, m1, mN, mNL, mV, mC, mLst, mTup, mLs, mLC, mLstC, newC, mSl, oNo, oYes, mChain, mChain, mCall, aNil, aCons, M.bnd, M.ret, M.bad, rd, gN, gT, gSeq, mF, frzA, mLM, mLM0, mItS, mItL, mItT, mEnum, mRng1, mRng2, List.map_cons, List.map_nil, List.replicate, List.cons_append, List.nil_append, List.getElem?_cons_zero, List.getElem?_cons_succ, List.set_cons_zero, List.set_cons_succ, List.length_cons, List.length_nil, Option.bind_some, Option.bind_none, Option.map_some, Option.map_none, if_true, if_false, ite_true, ite_false, Bool.false_eq_true, reduceIte, reduceCtorEq, sm0, q1, der, q3]
theorem lawof_at {h : Hs} {n i : Nat} {c : Cell} (h1 : 1 ≤ n) (hn : n ≤ 12) (hi : h[i]? = some c) (hc : HandOk c) : ∃ Ls c', callH 2 f__law_of [.cell i, .int n] h = .ok (bk "RawBook" n Ls) (h.set i c') ∧ LawBk n Ls ∧ HandOk c' := by
  obtain ⟨Ls, c', r, e, q, k⟩ := lawof_ok h1 hn hc
  exact ⟨Ls, c', callH_ok (m := f__law_of) (avs := [.int n]) hi e rfl rfl hc.noCC noC_bk k.noCC, q, k⟩
/-! ### an empty book -/
theorem wide_ok {n : Nat} {as : EM (List AV)} {env : AEnv} {h h' : Hs} (h1 : 1 ≤ n) (hn : n ≤ 12) (ha : as env h = .ok [.int n, .tup []] h') : mMake 3 "Book" f_Book___init__ as env h = .ok (bk "Book" n []) h' := by
  have e0 : ∀ h, callP 2 f_first_wrong_lot [.int n, .tup []] h = .ok .non h := fun h => callP_ok (h' := [.lst []]) (by rfl) rfl rfl rfl
  have e1 : callH 3 f_Book_keep [.cell 0, .int n, .tup []] [.ins "Book" []] = .ok .non [.ins "Book" [("people", .int n), ("lots", .tup []), ("masks", .lst [])]] :=
    callH_ok (m := f_Book_keep) (i := 0) (c := .ins "Book" []) (h := [.ins "Book" []]) (r := []) rfl (keep_ok (c := "Book") (Ls := []) (.inl rfl) (fun m hm => nomatch hm) (Nat.zero_le _)) rfl rfl rfl rfl rfl
  have e2 : f_Book___init__ [.cell 0, .int n, .tup []] [.ins "Book" []] = .ok .non [.ins "Book" [("people", .int n), ("lots", .tup []), ("masks", .lst [])]] := by
    have w1 : decide ((1 : Int) ≤ n) = true := decide_eq_true (by omega)
    have w2 : decide ((n : Int) ≤ 12) = true := decide_eq_true (by omega)
    have w3 : isiA [.ins "Book" []] [.tup [], .ty "tuple"] = some (.bl true) := rfl
    have w4 : decide ((60 : Int) < ((0 : Nat) : Int)) = false := rfl
    have w5 : notNA [.ins "Book" []] .non .non = some (.bl false) := rfl
    unfold f_Book___init__ m_Book___init__
    simp only [bodyM, sSeq, sIf, sThen, sSet, sRet, sRetN, sNext, sExpr, sPutIx, sAsg, sPar, sAug, sExc, mAnd, mOr, mNot, mIf, mT, mB, mAndV, mOrV, mNotV, m2, m1, mN, mNL, mV, mC, mLst, mTup, mLs, mLC, mLstC, newC, mSl, oNo, oYes, mChain, mChain, mCall, aNil, aCons, M.bnd, M.ret, M.bad, rd, gN, gT, gSeq, mF, frzA, mLM, mLM0, mItS, mItL, mItT, mEnum, mRng1, mRng2, List.map_cons, List.map_nil, List.replicate, List.cons_append, List.nil_append, List.getElem?_cons_zero, List.getElem?_cons_succ, List.set_cons_zero, List.set_cons_succ, List.length_cons, List.length_nil, Option.bind_some, Option.bind_none, Option.map_some, Option.map_none, if_true, if_false, ite_true, ite_false, Bool.false_eq_true, reduceIte, reduceCtorEq, within_P, w1, w2, Bool.and_true, Bool.not_true, w3, lenA_tup, gtA_int, w4, e0, w5, mMeth, insOf, List.lookup_nil, and_self, e1]
  unfold mMake M.bnd
  rw [ha]
  dsimp only
  rw [if_pos ⟨rfl, rfl⟩, e2]
  rfl
/-! ### two books that are alike -/
theorem dats_ints_depth : ∀ nss : List (List Int), PyData.depthAll (dats (nss.map tupA)) ≤ 1 := depth_tups
theorem shaped_tup_tups (nss : List (List Int)) : SeqAt.shaped (dat (.tup (nss.map tupA))) = true := by
  show SeqAt.shaped (.tuple (dats (nss.map tupA))) = true
  unfold SeqAt.shaped
  rw [PyData.canLay0, lay_tups, PyData.depth, Bool.true_and]
  have := depth_tups nss
  exact decide_eq_true (by omega)
theorem eqvAll_tups : ∀ a b : List (List Int), PyData.eqvAll (dats (a.map tupA)) (dats (b.map tupA)) = decide (a = b)
  | [], [] => rfl
  | [], _ :: _ => rfl
  | _ :: _, [] => rfl
  | x :: xs, y :: ys => by
    rw [List.map_cons, List.map_cons, dats, dats, PyData.eqvAll, eqvAll_tups xs ys, eqv_tup]
    by_cases h : x = y
    · subst h
      simp
    · simp [h]
theorem eqv_tuptup (a b : List (List Int)) : PyData.eqv (dat (.tup (a.map tupA))) (dat (.tup (b.map tupA))) = decide (a = b) := by
  show PyData.eqv (.tuple (dats (a.map tupA))) (.tuple (dats (b.map tupA))) = _
  rw [PyData.eqv, eqvAll_tups]
theorem eqA_tuptup {h : Hs} {a b : List (List Int)} : eqA h (.tup (a.map tupA)) (.tup (b.map tupA)) = some (.bl (decide (a = b))) := by
  unfold eqA
  show (if SeqAt.shaped (dat (.tup (a.map tupA))) = true ∧ SeqAt.shaped (dat (.tup (b.map tupA))) = true then some (AV.bl (PyData.eqv (dat (.tup (a.map tupA))) (dat (.tup (b.map tupA))))) else none) = _
  rw [if_pos ⟨shaped_tup_tups a, shaped_tup_tups b⟩, eqv_tuptup]
theorem eqv_lsttup (a b : List (List Int)) : PyData.eqv (dat (.lst (a.map tupA))) (dat (.lst (b.map tupA))) = decide (a = b) := by
  show PyData.eqv (.list (dats (a.map tupA))) (.list (dats (b.map tupA))) = _
  rw [PyData.eqv, eqvAll_tups]
theorem eqA_lsttup {h : Hs} {a b : List (List Int)} : eqA h (.lst (a.map tupA)) (.lst (b.map tupA)) = some (.bl (decide (a = b))) := by
  unfold eqA
  show (if SeqAt.shaped (dat (.lst (a.map tupA))) = true ∧ SeqAt.shaped (dat (.lst (b.map tupA))) = true then some (AV.bl (PyData.eqv (dat (.lst (a.map tupA))) (dat (.lst (b.map tupA))))) else none) = _
  rw [if_pos ⟨shaped_lst_tups a, shaped_lst_tups b⟩, eqv_lsttup]
theorem neA_lsttup {h : Hs} {a b : List (List Int)} : neA h (.lst (a.map tupA)) (.lst (b.map tupA)) = some (.bl (!decide (a = b))) := by
  unfold neA
  show (if SeqAt.shaped (dat (.lst (a.map tupA))) = true ∧ SeqAt.shaped (dat (.lst (b.map tupA))) = true then some (AV.bl (!PyData.eqv (dat (.lst (a.map tupA))) (dat (.lst (b.map tupA))))) else none) = _
  rw [if_pos ⟨shaped_lst_tups a, shaped_lst_tups b⟩, eqv_lsttup]
theorem ct_tups (Ls : List Nat) : Ls.map ctA = (Ls.map cr).map tupA := by rw [List.map_map]; rfl
theorem cr_map_inj {Ls Ms : List Nat} (h : Ls.map cr = Ms.map cr) : Ls = Ms := by
  induction Ls generalizing Ms with
  | nil => cases Ms with
    | nil => rfl
    | cons _ _ => cases h
  | cons x Ls ih => cases Ms with
    | nil => cases h
    | cons y Ms =>
      rw [List.map_cons, List.map_cons, List.cons.injEq] at h
      rw [cr_inj h.1, ih h.2]
theorem bookeq_ok {n : Nat} {Ls Ms : List Nat} {h : Hs} : callP 2 f_Book___eq__ [bk "RawBook" n Ls, bk "RawBook" n Ms] h = .ok (.bl (decide (Ls = Ms))) h := by
  refine callP_ok (h' := []) ?_ rfl (noC2 noC_bk noC_bk) rfl
  have e1 : isoA [("Book", true), ("RawBook", true)] [] (bk "RawBook" n Ms) = some (.bl true) := rfl
  have e2 : decide (Ls.map cr = Ms.map cr) = decide (Ls = Ms) := decide_eq_decide.mpr ⟨cr_map_inj, fun q => by rw [q]⟩
  have hc : BkC "RawBook" := .inr rfl
  unfold f_Book___eq__ m_Book___eq__
  simp only [bodyM, sSeq, sIf, sThen, sSet, sRet, sRetN, sNext, sExpr, sPutIx, sAsg, sPar, sAug, sExc, mAnd, mOr, mNot, mIf, mT, mB, mAndV, mOrV, mNotV, m2, m1, mN, mNL, mV, mC, mLst, mTup, mLs, mLC, mLstC, newC, mSl, oNo, oYes, mChain, mChain, mCall, aNil, aCons, M.bnd, M.ret, M.bad, rd, gN, gT, gSeq, mF, frzA, mLM, mLM0, mItS, mItL, mItT, mEnum, mRng1, mRng2, List.map_cons, List.map_nil, List.replicate, List.cons_append, List.nil_append, List.getElem?_cons_zero, List.getElem?_cons_succ, List.set_cons_zero, List.set_cons_succ, List.length_cons, List.length_nil, Option.bind_some, Option.bind_none, Option.map_some, Option.map_none, if_true, if_false, ite_true, ite_false, Bool.false_eq_true, reduceIte, reduceCtorEq, e1, fld_people hc, fld_lots hc, eqA_int, decide_true, ct_tups, eqA_tuptup, e2]
theorem mEqO_ok {n : Nat} {Ls Ms : List Nat} {a b : EM AV} {env : AEnv} {h : Hs} (ha : a env h = .ok (bk "RawBook" n Ls) h) (hb : b env h = .ok (bk "RawBook" n Ms) h) : mEqO "RawBook" (callP 2 f_Book___eq__) a b env h = .ok (.bl (decide (Ls = Ms))) h := by
  unfold mEqO M.bnd
  rw [ha]
  dsimp only [M.bnd]
  rw [hb]
  dsimp only
  have e : ∀ Ks : List Nat, insOf h (bk "RawBook" n Ks) = some (("RawBook" : Str), ([("people", .int n), ("lots", .tup (Ks.map ctA)), ("masks", .lst (Ks.map fun b : Nat => AV.int b))] : List (Str × AV))) := fun _ => rfl
  rw [e, e]
  dsimp only
  rw [if_pos ⟨rfl, rfl⟩, bookeq_ok]
end LW

set_option Elab.async false
set_option linter.all false
set_option maxRecDepth 100000
set_option maxHeartbeats 2000000
namespace LW
open PySem L2 Sim MB
local instance tabN5 : TabT := ⟨[]⟩
/-! ### plain: how books lie apart -/
def due (n : Nat) (Ls Ms : List Nat) : List Nat := (allC n).filter fun b => !(decide (clr Ls b = clr Ms b))
theorem due_perm (n : Nat) (Ls Ms : List Nat) : (un n Ls Ms).Perm (due n Ls Ms) := ((perm_allC n).symm).filter _
theorem isort_of_perm {α : Type} {lt : α → α → Bool} (O : Tot lt) {l m : List α} (p : l.Perm m) : isort lt l = isort lt m := sd_unique O ((isort_perm l).trans (p.trans (isort_perm m).symm)) (isort_sd O _) (isort_sd O _)
theorem due_sort (n : Nat) (Ls Ms : List Nat) : isort HT.lexLt ((un n Ls Ms).map cr) = isort HT.lexLt ((due n Ls Ms).map cr) := isort_of_perm lexTot ((due_perm n Ls Ms).map cr)
theorem due_len (n : Nat) (Ls Ms : List Nat) : (un n Ls Ms).length = (due n Ls Ms).length := (due_perm n Ls Ms).length_eq
theorem un_comm (n : Nat) (Ls Ms : List Nat) : un n Ls Ms = un n Ms Ls := by
  unfold un
  refine List.filter_congr fun b _ => ?_
  rw [decide_eq_decide.mpr (show clr Ls b = clr Ms b ↔ clr Ms b = clr Ls b from eq_comm)]
theorem apart_tri {α : Type} (p q r : α → Bool) : ∀ l : List α, (l.filter fun x => !(decide (p x = r x))).length ≤ (l.filter fun x => !(decide (p x = q x))).length + (l.filter fun x => !(decide (q x = r x))).length
  | [] => Nat.zero_le _
  | x :: l => by
    have ih := apart_tri p q r l
    rw [List.filter_cons, List.filter_cons, List.filter_cons]
    cases p x <;> cases q x <;> cases r x <;> simp <;> omega
theorem apart_sum {α : Type} (p q r : α → Bool) : ∀ l : List α, (∀ x ∈ l, q x = (p x && r x) ∨ q x = (p x || r x)) → (l.filter fun x => !(decide (p x = q x))).length + (l.filter fun x => !(decide (q x = r x))).length = (l.filter fun x => !(decide (p x = r x))).length
  | [], _ => rfl
  | x :: l, h => by
    have ih := apart_sum p q r l fun y hy => h y (List.mem_cons_of_mem _ hy)
    have hx := h x List.mem_cons_self
    rw [List.filter_cons, List.filter_cons, List.filter_cons]
    revert hx
    cases p x <;> cases q x <;> cases r x <;> simp <;> omega
theorem un_tri (n : Nat) (Ls Ns Ms : List Nat) : (un n Ls Ms).length ≤ (un n Ls Ns).length + (un n Ns Ms).length := apart_tri (clr Ls) (clr Ns) (clr Ms) _
theorem un_and {n : Nat} {Ls Ns Ms : List Nat} (h : ∀ b, clr Ns b = (clr Ls b && clr Ms b)) : (un n Ls Ns).length + (un n Ns Ms).length = (un n Ls Ms).length := apart_sum (clr Ls) (clr Ns) (clr Ms) _ fun b _ => .inl (h b)
theorem un_or {n : Nat} {Ls Ns Ms : List Nat} (h : ∀ b, clr Ns b = (clr Ls b || clr Ms b)) : (un n Ls Ns).length + (un n Ns Ms).length = (un n Ls Ms).length := apart_sum (clr Ls) (clr Ns) (clr Ms) _ fun b _ => .inr (h b)
theorem wb_eq {n : Nat} {Ls Ms : List Nat} (hL : WB n Ls) (hM : WB n Ms) (h : ∀ b, b < 2 ^ n → clr Ls b = clr Ms b) : Ls = Ms := by
  have p : Ls.Perm Ms := (List.perm_ext_iff_of_nodup hL.nd hM.nd).mpr fun m => ⟨anti_mem hL.anti hM.anti hL.lt h m, anti_mem hM.anti hL.anti hM.lt (fun b hb => (h b hb).symm) m⟩
  exact cr_map_inj (sd_unique lexTot (p.map cr) hL.sd hM.sd)
theorem due_nil {n : Nat} {Ls Ms : List Nat} (hL : WB n Ls) (hM : WB n Ms) : due n Ls Ms = [] ↔ Ls = Ms := by
  constructor
  · intro h
    refine wb_eq hL hM fun b hb => ?_
    unfold due at h
    rw [List.filter_eq_nil_iff] at h
    have := h b (mem_allC.mpr hb)
    simpa using this
  · rintro rfl
    unfold due
    rw [List.filter_eq_nil_iff]
    intro b _
    simp
theorem finer_iff {n : Nat} {Ls Ms : List Nat} (hM : ∀ m ∈ Ms, m < 2 ^ n) : (!(Ms.any fun m => clr Ls m)) = (((allC n).filter fun b => clr Ls b).map fun b => clr Ms b).all id := by
  rw [Bool.eq_iff_iff, Bool.not_eq_true', List.any_eq_false, List.all_eq_true]
  constructor
  · intro h x hx
    obtain ⟨b, hb, rfl⟩ := List.mem_map.mp hx
    obtain ⟨hb, q⟩ := List.mem_filter.mp hb
    show clr Ms b = true
    rw [clr_iff]
    intro m hm
    rw [Bool.eq_false_iff]
    intro w
    exact h m hm (clr_mono w q)
  · intro h m hm q
    have := h _ (List.mem_map_of_mem (f := fun b => clr Ms b) (List.mem_filter.mpr ⟨mem_allC.mpr (hM m hm), q⟩))
    rw [id, clr_iff] at this
    have := this m hm
    rw [wi_refl] at this
    cases this
theorem finer_of {Ls Ms : List Nat} (h : ∀ m ∈ Ms, clr Ls m = false) : (!(Ms.any fun m => clr Ls m)) = true := by
  rw [Bool.not_eq_true', List.any_eq_false]
  intro m hm
  rw [h m hm]
  decide
theorem less_finer {Ls Bs : List Nat} (h : ∀ b, clr Bs b = true → clr Ls b = true) : (!(Ls.any fun m => clr Bs m)) = true := by
  refine finer_of fun m hm => ?_
  rw [Bool.eq_false_iff]
  intro q
  have := h m q
  rw [clr_iff] at this
  have := this m hm
  rw [wi_refl] at this
  cases this
theorem self_finer {Ls Ms : List Nat} (h : ∀ m ∈ Ms, m ∈ Ls) : (!(Ms.any fun m => clr Ls m)) = true := finer_of fun m hm => clr_false.mpr ⟨m, h m hm, wi_refl m⟩
/-! ### the comprehensions of the law -/
theorem K0_ok {s0 s1 s2 s5 s7 s8 s9 s10 s11 s12 s13 s15 : Option AV} {n : Nat} {Ls Ms : List Nat} {h : Hs} (hn : n ≤ 12) (hL : ∀ m ∈ Ls, m < 2 ^ n) (hM : ∀ m ∈ Ms, m < 2 ^ n) (lL : Ls.length ≤ sizeLine) (lM : Ms.length ≤ sizeLine) :
    K_law_0 [s0, s1, s2, some (.int n), some (bk "RawBook" n Ms), s5, some (.lst ((allC n).map ctA)), s7, s8, s9, s10, s11, s12, s13, some (bk "RawBook" n Ls), s15, none] h = .ok ((due n Ls Ms).map ctA) h := by
  have hc : BkC "RawBook" := .inr rfl
  unfold K_law_0
  refine mLc_jf (xs := allC n) (h' := h) ctA (fun b => !(decide (clr Ls b = clr Ms b))) ctA rfl (by rw [len_allC]; exact Nat.le_trans (pow12 hn) (by decide)) fun b hb => ⟨_, rfl, ?_, fun _ => rfl⟩
  simp only [wipeE, bodyM, sSeq, sIf, sThen, sSet, sRet, sRetN, sNext, sExpr, sPutIx, sAsg, sPar, sAug, sExc, mAnd, mOr, mNot, mIf, mT, mB, mAndV, mOrV, mNotV, m2, m1, mN, mNL, mV, mC, mLst, mTup, mLs, mLC, mLstC, newC, mSl, oNo, oYes, mChain, mChain, mCall, aNil, aCons, M.bnd, M.ret, M.bad, rd, gN, gT, gSeq, mF, frzA, mLM, mLM0, mItS, mItL, mItT, mEnum, mRng1, mRng2, List.map_cons, List.map_nil, List.replicate, List.cons_append, List.nil_append, List.getElem?_cons_zero, List.getElem?_cons_succ, List.set_cons_zero, List.set_cons_succ, List.length_cons, List.length_nil, Option.bind_some, Option.bind_none, Option.map_some, Option.map_none, if_true, if_false, ite_true, ite_false, Bool.false_eq_true, reduceIte, reduceCtorEq, isclear_ok hc hn hL lL, isclear_ok hc hn hM lM, neA_bl]
theorem K1_ok {s0 s1 s2 s5 s7 s8 s9 s10 s11 s12 s13 s15 : Option AV} {n : Nat} {Ls Ms : List Nat} {h : Hs} (hn : n ≤ 12) (hL : ∀ m ∈ Ls, m < 2 ^ n) (hM : ∀ m ∈ Ms, m < 2 ^ n) (lL : Ls.length ≤ sizeLine) (lM : Ms.length ≤ sizeLine) :
    K_law_1 [s0, s1, s2, some (.int n), some (bk "RawBook" n Ms), s5, some (.lst ((allC n).map ctA)), s7, s8, s9, s10, s11, s12, s13, some (bk "RawBook" n Ls), s15, none] h = .ok ((((allC n).filter fun b => clr Ls b).map fun b => clr Ms b).map AV.bl) h := by
  have hc : BkC "RawBook" := .inr rfl
  unfold K_law_1
  rw [List.map_map]
  refine mLc_jf (xs := allC n) (h' := h) ctA (fun b => clr Ls b) (fun b => AV.bl (clr Ms b)) rfl (by rw [len_allC]; exact Nat.le_trans (pow12 hn) (by decide)) fun b hb => ⟨_, rfl, ?_, fun _ => ?_⟩
  · simp only [wipeE, bodyM, sSeq, sIf, sThen, sSet, sRet, sRetN, sNext, sExpr, sPutIx, sAsg, sPar, sAug, sExc, mAnd, mOr, mNot, mIf, mT, mB, mAndV, mOrV, mNotV, m2, m1, mN, mNL, mV, mC, mLst, mTup, mLs, mLC, mLstC, newC, mSl, oNo, oYes, mChain, mChain, mCall, aNil, aCons, M.bnd, M.ret, M.bad, rd, gN, gT, gSeq, mF, frzA, mLM, mLM0, mItS, mItL, mItT, mEnum, mRng1, mRng2, List.map_cons, List.map_nil, List.replicate, List.cons_append, List.nil_append, List.getElem?_cons_zero, List.getElem?_cons_succ, List.set_cons_zero, List.set_cons_succ, List.length_cons, List.length_nil, Option.bind_some, Option.bind_none, Option.map_some, Option.map_none, if_true, if_false, ite_true, ite_false, Bool.false_eq_true, reduceIte, reduceCtorEq, isclear_ok hc hn hL lL]
  · simp only [wipeE, bodyM, sSeq, sIf, sThen, sSet, sRet, sRetN, sNext, sExpr, sPutIx, sAsg, sPar, sAug, sExc, mAnd, mOr, mNot, mIf, mT, mB, mAndV, mOrV, mNotV, m2, m1, mN, mNL, mV, mC, mLst, mTup, mLs, mLC, mLstC, newC, mSl, oNo, oYes, mChain, mChain, mCall, aNil, aCons, M.bnd, M.ret, M.bad, rd, gN, gT, gSeq, mF, frzA, mLM, mLM0, mItS, mItL, mItT, mEnum, mRng1, mRng2, List.map_cons, List.map_nil, List.replicate, List.cons_append, List.nil_append, List.getElem?_cons_zero, List.getElem?_cons_succ, List.set_cons_zero, List.set_cons_succ, List.length_cons, List.length_nil, Option.bind_some, Option.bind_none, Option.map_some, Option.map_none, if_true, if_false, ite_true, ite_false, Bool.false_eq_true, reduceIte, reduceCtorEq, isclear_ok hc hn hM lM]
/-! ### words -/
def excB (c : Str) (r : Res AV) : Bool := match r with
  | .exc d [] _ => d == c
  | _ => false
theorem excB_ok {c : Str} {r : Res AV} (h : excB c r = true) : ∃ h', r = .exc c [] h' := by
  unfold excB at h
  split at h
  · rename_i d h'
    exact ⟨h', by rw [eq_of_beq h]⟩
  · cases h
def oL : List AV := [.int 0, .int 6, .int (-1), .bl true, .non, .str "2"]
theorem odd_all : (oL.all fun s => excB "NoPeople" (f_books_in_all [s] [])) = true := by kernel_rfl
theorem odd_no : (oL.all noC) = true := by kernel_rfl
theorem odd_exc {a : AV} {h : Hs} (ha : a ∈ oL) : callP 1 f_books_in_all [a] h = .exc "NoPeople" [] h := by
  obtain ⟨h', e'⟩ := excB_ok (List.all_eq_true.mp odd_all a ha)
  exact callP_exc e' rfl (noC1 (List.all_eq_true.mp odd_no a ha))
theorem hw1 : hit__law_word "OtherPeople" = some ("people" : Str) := by kernel_rfl
theorem hw2 : hit__law_word "NoPeople" = some ("none" : Str) := by kernel_rfl
theorem gap_exc {n n' : Nat} {Ls Ms : List Nat} {c c' : Str} {h : Hs} (hc : BkC c) (hc' : BkC c') (hn : n ≠ n') : callP 2 f_gap [bk c n Ls, bk c' n' Ms] h = .exc "OtherPeople" [] h := by
  refine callP_exc (h' := []) ?_ rfl (noC2 noC_bk noC_bk)
  unfold f_gap m_gap
  simp only [bodyM, sSeq, sIf, sThen, sSet, sRet, sRetN, sNext, sExpr, sPutIx, sAsg, sPar, sAug, sExc, mAnd, mOr, mNot, mIf, mT, mB, mAndV, mOrV, mNotV, m2, m1, mN, mNL, mV, mC, mLst, mTup, mLs, mLC, mLstC, newC, mSl, oNo, oYes, mChain, mChain, mCall, aNil, aCons, M.bnd, M.ret, M.bad, rd, gN, gT, gSeq, mF, frzA, mLM, mLM0, mItS, mItL, mItT, mEnum, mRng1, mRng2, List.map_cons, List.map_nil, List.replicate, List.cons_append, List.nil_append, List.getElem?_cons_zero, List.getElem?_cons_succ, List.set_cons_zero, List.set_cons_succ, List.length_cons, List.length_nil, Option.bind_some, Option.bind_none, Option.map_some, Option.map_none, if_true, if_false, ite_true, ite_false, Bool.false_eq_true, reduceIte, reduceCtorEq, apart_exc hc hc' hn]
theorem unlike_exc {n n' : Nat} {Ls Ms : List Nat} {c c' : Str} {h : Hs} (hc : BkC c) (hc' : BkC c') (hn : n ≠ n') : callP 2 f_unlike_crowds [bk c n Ls, bk c' n' Ms] h = .exc "OtherPeople" [] h := by
  refine callP_exc (h' := []) ?_ rfl (noC2 noC_bk noC_bk)
  unfold f_unlike_crowds m_unlike_crowds
  simp only [bodyM, sSeq, sIf, sThen, sSet, sRet, sRetN, sNext, sExpr, sPutIx, sAsg, sPar, sAug, sExc, mAnd, mOr, mNot, mIf, mT, mB, mAndV, mOrV, mNotV, m2, m1, mN, mNL, mV, mC, mLst, mTup, mLs, mLC, mLstC, newC, mSl, oNo, oYes, mChain, mChain, mCall, aNil, aCons, M.bnd, M.ret, M.bad, rd, gN, gT, gSeq, mF, frzA, mLM, mLM0, mItS, mItL, mItT, mEnum, mRng1, mRng2, List.map_cons, List.map_nil, List.replicate, List.cons_append, List.nil_append, List.getElem?_cons_zero, List.getElem?_cons_succ, List.set_cons_zero, List.set_cons_succ, List.length_cons, List.length_nil, Option.bind_some, Option.bind_none, Option.map_some, Option.map_none, if_true, if_false, ite_true, ite_false, Bool.false_eq_true, reduceIte, reduceCtorEq, apart_exc hc hc' hn]
theorem finer_exc {n n' : Nat} {Ls Ms : List Nat} {c c' : Str} {h : Hs} (hc : BkC c) (hc' : BkC c') (hn : n ≠ n') : callP 2 f_is_finer [bk c n Ls, bk c' n' Ms] h = .exc "OtherPeople" [] h := by
  refine callP_exc (h' := []) ?_ rfl (noC2 noC_bk noC_bk)
  unfold f_is_finer m_is_finer
  simp only [bodyM, sSeq, sIf, sThen, sSet, sRet, sRetN, sNext, sExpr, sPutIx, sAsg, sPar, sAug, sExc, mAnd, mOr, mNot, mIf, mT, mB, mAndV, mOrV, mNotV, m2, m1, mN, mNL, mV, mC, mLst, mTup, mLs, mLC, mLstC, newC, mSl, oNo, oYes, mChain, mChain, mCall, aNil, aCons, M.bnd, M.ret, M.bad, rd, gN, gT, gSeq, mF, frzA, mLM, mLM0, mItS, mItL, mItT, mEnum, mRng1, mRng2, List.map_cons, List.map_nil, List.replicate, List.cons_append, List.nil_append, List.getElem?_cons_zero, List.getElem?_cons_succ, List.set_cons_zero, List.set_cons_succ, List.length_cons, List.length_nil, Option.bind_some, Option.bind_none, Option.map_some, Option.map_none, if_true, if_false, ite_true, ite_false, Bool.false_eq_true, reduceIte, reduceCtorEq, apart_exc hc hc' hn]
def wsA : List AV := [.str "people", .str "people", .str "people", .str "none"]
theorem words1 {c : Cell} : neA [c, .lst wsA] (.cell 1) (.lst wsA) = some (.bl false) := by kernel_rfl
theorem words2 {c d : Cell} : neA [c, d, .lst wsA] (.cell 2) (.lst wsA) = some (.bl false) := by kernel_rfl
theorem nat_of {d : Int} (h : 0 ≤ d) : ∃ n : Nat, d = n := ⟨d.toNat, by omega⟩
end LW

set_option Elab.async false
set_option linter.all false
set_option maxRecDepth 100000
set_option maxHeartbeats 4000000
namespace LW
open PySem L2 Sim MB
local instance tabN6 : TabT := ⟨[]⟩
theorem turn_ok {c : Cell} {r : Hs} {s0 s2 s3 s4 s5 s6 s7 s8 s9 s10 s11 s12 s13 s14 s15 : Option AV} (hc : HandOk c) (hr : r = [] ∨ r = [.lst wsA]) :
    ∃ c' y3 y4 y5 y6 y7 y8 y9 y10 y11 y12 y13 y14 y15, B_law_4 [s0, some (.cell 0), s2, s3, s4, s5, s6, s7, s8, s9, s10, s11, s12, s13, s14, s15, none] (c :: r) = .nx [s0, some (.cell 0), s2, y3, y4, y5, y6, y7, y8, y9, y10, y11, y12, y13, y14, y15, none] (c' :: (r ++ [.lst wsA])) ∧ HandOk c' := by
  have bc : BkC "RawBook" := .inr rfl
  have bw : BkC "Book" := .inl rfl
  obtain ⟨d1, c1, e1, a1, b1, k1⟩ := draw_at (h := c :: r) (n := 0) (many := 6) rfl hc (by decide) (by decide)
  have e1' : callH 2 f__law_draw [.cell 0, .int 6] (c :: r) = .ok (.int d1) (c1 :: r) := e1
  obtain ⟨n, hn⟩ := nat_of (d := 2 + d1) (by omega)
  have n12 : n ≤ 12 := by omega
  obtain ⟨Ls, c2, e2, w2, k2⟩ := lawof_at (h := c1 :: r) (n := n) (i := 0) (by omega) n12 rfl k1
  have e2' : callH 2 f__law_of [.cell 0, .int n] (c1 :: r) = .ok (bk "RawBook" n Ls) (c2 :: r) := e2
  obtain ⟨Ms, c3, e3, w3, k3⟩ := lawof_at (h := c2 :: r) (n := n) (i := 0) (by omega) n12 rfl k2
  have e3' : callH 2 f__law_of [.cell 0, .int n] (c2 :: r) = .ok (bk "RawBook" n Ms) (c3 :: r) := e3
  obtain ⟨Ns, c4, e4, w4, k4⟩ := lawof_at (h := c3 :: r) (n := n) (i := 0) (by omega) n12 rfl k3
  have e4' : callH 2 f__law_of [.cell 0, .int n] (c3 :: r) = .ok (bk "RawBook" n Ns) (c4 :: r) := e4
  have l4 : 4 ≤ sizeLine := by decide
  have l60 : 60 ≤ sizeLine := by decide
  have lL := Nat.le_trans w2.len l4
  have lM := Nat.le_trans w3.len l4
  have lN := Nat.le_trans w4.len l4
  have u1 := w2.len
  have u2 := w3.len
  obtain ⟨Bs, q5, m5⟩ := both_ok (n := n) (Ls := Ls) (Ms := Ms) bc bc n12 w2.wb.lt w3.wb.lt (by rw [List.length_append]; omega)
  obtain ⟨Es, q6, m6⟩ := either_ok (n := n) (Ls := Ls) (Ms := Ms) bc bc n12 w2.wb.lt w3.wb.lt (by omega) (by omega)
  have lB : Bs.length ≤ sizeLine := Nat.le_trans (Nat.le_trans m5.len (by rw [List.length_append]; omega : _ ≤ 60)) l60
  have lE : Es.length ≤ sizeLine := Nat.le_trans (Nat.le_trans m6.len (by rw [ors_len]; exact Nat.le_trans (Nat.mul_le_mul u1 u2) (by decide) : _ ≤ 60)) l60
  have cB : ∀ b, clr Bs b = (clr Ls b && clr Ms b) := fun b => by rw [m5.cl, clr_append]
  have cE : ∀ b, clr Es b = (clr Ls b || clr Ms b) := fun b => by rw [m6.cl, clr_ors]
  obtain ⟨a7, c7, e7, h7, k7⟩ := any_at (h := c4 :: r) (n := 0) (xs := (allC n).map ctA) rfl k4 (by rw [List.length_map, len_allC]; exact Nat.pow_pos (by decide)) (by rw [List.length_map, len_allC]; exact Nat.lt_of_le_of_lt (pow12 n12) (by decide)) (noCs_ct _)
  obtain ⟨b7, h7', rfl⟩ := List.mem_map.mp h7
  replace h7 : b7 < 2 ^ n := mem_allC.mp h7'
  have e7' : callH 2 f__law_any [.cell 0, .lst ((allC n).map ctA)] (c4 :: r) = .ok (ctA b7) (c7 :: r) := e7
  obtain ⟨a8, c8, e8, h8, k8⟩ := any_at (h := c7 :: r) (n := 0) (xs := oL) rfl k7 (by decide) (by decide) (by decide)
  have e8' : callH 2 f__law_any [.cell 0, .lst [.int 0, .int 6, .int (-1), .bl true, .non, .str "2"]] (c7 :: r) = .ok a8 (c8 :: r) := e8
  -- what the calls answer
  have g1 : ∀ h, callP 2 f_unlike_crowds [bk "RawBook" n Ls, bk "RawBook" n Ms] h = .ok (.lst ((isort HT.lexLt ((due n Ls Ms).map cr)).map tupA)) h := fun h => by rw [← due_sort]; exact uncrowds_ok bc bc n12 lL lM
  have g2 : ∀ h, sortA h [.lst ((due n Ls Ms).map ctA)] = some ((isort HT.lexLt ((due n Ls Ms).map cr)).map tupA) := fun h => by rw [ct_tups]; exact sortA_tups
  have g3 : ∀ h, callP 2 f_gap [bk "RawBook" n Ls, bk "RawBook" n Ms] h = .ok (.int (due n Ls Ms).length) h := fun h => by rw [← due_len]; exact gap_ok bc bc n12 lL lM
  have g4 : ∀ h, callP 2 f_gap [bk "RawBook" n Ms, bk "RawBook" n Ls] h = .ok (.int (due n Ls Ms).length) h := fun h => by rw [← due_len, un_comm]; exact gap_ok bc bc n12 lM lL
  have g5 : ∀ h, eqA h (.lst ((due n Ls Ms).map ctA)) (.lst []) = some (.bl (decide (Ls = Ms))) := fun h => by
    have := eqA_lsttup (h := h) (a := (due n Ls Ms).map cr) (b := [])
    rw [← ct_tups] at this
    rw [show (AV.lst []) = AV.lst (([] : List (List Int)).map tupA) from rfl, this, decide_eq_decide.mpr ((List.map_eq_nil_iff).trans (due_nil w2.wb w3.wb))]
  have g6 : ∀ s6 s7 s8 s9 s10 s11 s12 s13 s15 s16 h, mEqO "RawBook" (callP 2 f_Book___eq__) (mV 14) (mV 4) [s0, some (.cell 0), s2, some (.int n), some (bk "RawBook" n Ms), some (bk "RawBook" n Ns), s6, s7, s8, s9, s10, s11, s12, s13, some (bk "RawBook" n Ls), s15, s16] h = .ok (.bl (decide (Ls = Ms))) h := fun _ _ _ _ _ _ _ _ _ _ _ => mEqO_ok rfl rfl
  have g7 : ∀ h, callP 2 f_gap [bk "RawBook" n Ls, bk "RawBook" n Ns] h = .ok (.int (un n Ls Ns).length) h := fun h => gap_ok bc bc n12 lL lN
  have g8 : ∀ h, callP 2 f_gap [bk "RawBook" n Ns, bk "RawBook" n Ms] h = .ok (.int (un n Ns Ms).length) h := fun h => gap_ok bc bc n12 lN lM
  have g9 : ¬ (((un n Ls Ns).length : Int) + ((un n Ns Ms).length : Int) < ((due n Ls Ms).length : Int)) := by
    have := un_tri n Ls Ns Ms
    rw [due_len n Ls Ms] at this
    omega
  have g10 : ∀ h, callP 2 f_is_finer [bk "RawBook" n Ls, bk "RawBook" n Ms] h = .ok (.bl ((((allC n).filter fun b => clr Ls b).map fun b => clr Ms b).all id)) h := fun h => by rw [← finer_iff w3.wb.lt]; exact finer_ok bc bc lL lM
  have f1 : ∀ h, callP 2 f_is_finer [bk "RawBook" n Bs, bk "RawBook" n Ls] h = .ok (.bl true) h := fun h => by
    rw [finer_ok bc bc lB lL, less_finer fun b hb => ?_]
    rw [cB, Bool.and_eq_true] at hb
    exact hb.1
  have f2 : ∀ h, callP 2 f_is_finer [bk "RawBook" n Bs, bk "RawBook" n Ms] h = .ok (.bl true) h := fun h => by
    rw [finer_ok bc bc lB lM, less_finer fun b hb => ?_]
    rw [cB, Bool.and_eq_true] at hb
    exact hb.2
  have cEm : ∀ m ∈ Es, clr Ls m = false ∧ clr Ms m = false := fun m hm => by
    have : clr Es m = false := clr_false.mpr ⟨m, hm, wi_refl m⟩
    rw [cE, Bool.or_eq_false_iff] at this
    exact this
  have f3 : ∀ h, callP 2 f_is_finer [bk "RawBook" n Ls, bk "RawBook" n Es] h = .ok (.bl true) h := fun h => by rw [finer_ok bc bc lL lE, finer_of fun m hm => (cEm m hm).1]
  have f4 : ∀ h, callP 2 f_is_finer [bk "RawBook" n Ms, bk "RawBook" n Es] h = .ok (.bl true) h := fun h => by rw [finer_ok bc bc lM lE, finer_of fun m hm => (cEm m hm).2]
  have g11 : ∀ h, callP 2 f_gap [bk "RawBook" n Ls, bk "RawBook" n Bs] h = .ok (.int (un n Ls Bs).length) h := fun h => gap_ok bc bc n12 lL lB
  have g12 : ∀ h, callP 2 f_gap [bk "RawBook" n Bs, bk "RawBook" n Ms] h = .ok (.int (un n Bs Ms).length) h := fun h => gap_ok bc bc n12 lB lM
  have g13 : ∀ h, callP 2 f_gap [bk "RawBook" n Ls, bk "RawBook" n Es] h = .ok (.int (un n Ls Es).length) h := fun h => gap_ok bc bc n12 lL lE
  have g14 : ∀ h, callP 2 f_gap [bk "RawBook" n Es, bk "RawBook" n Ms] h = .ok (.int (un n Es Ms).length) h := fun h => gap_ok bc bc n12 lE lM
  have g15 : ((un n Ls Bs).length : Int) + ((un n Bs Ms).length : Int) = ((due n Ls Ms).length : Int) := by
    have := un_and (n := n) cB
    rw [due_len n Ls Ms] at this
    omega
  have g16 : ((un n Ls Es).length : Int) + ((un n Es Ms).length : Int) = ((due n Ls Ms).length : Int) := by
    have := un_or (n := n) cE
    rw [due_len n Ls Ms] at this
    omega
  have g17 : ∀ h, callP 2 f_left_out [bk "RawBook" n Ls, ctA b7] h = .ok (bk "RawBook" n (isort ltC (Ls.filter fun m => (m &&& b7) == 0))) h := fun h => leftout_ok bc n12 h7 w2.wb.lt lL
  have g18 : ∀ h, callP 2 f_is_finer [bk "RawBook" n Ls, bk "RawBook" n (isort ltC (Ls.filter fun m => (m &&& b7) == 0))] h = .ok (.bl true) h := fun h => by
    rw [finer_ok bc bc lL (by rw [(isort_perm _).length_eq]; exact Nat.le_trans (List.length_filter_le _ _) lL), self_finer fun m hm => (List.mem_filter.mp ((isort_perm _).mem_iff.mp hm)).1]
  have p1 : (n : Int) + 1 = ((n + 1 : Nat) : Int) := by omega
  have g19 : ∀ s6 s7 s8 s9 s10 s11 s12 s13 s15 s16 h, mMake 3 "Book" f_Book___init__ (aCons (m2 addA (mV 3) (mC (.int 1))) (aCons (mTup aNil) aNil)) [s0, some (.cell 0), s2, some (.int n), some (bk "RawBook" n Ms), some (bk "RawBook" n Ns), s6, s7, s8, s9, s10, s11, s12, s13, some (bk "RawBook" n Ls), s15, s16] h = .ok (bk "Book" (n + 1) []) h := fun _ _ _ _ _ _ _ _ _ _ h => wide_ok (by omega) (by omega) (by simp only [bodyM, sSeq, sIf, sThen, sSet, sRet, sRetN, sNext, sExpr, sPutIx, sAsg, sPar, sAug, sExc, mAnd, mOr, mNot, mIf, mT, mB, mAndV, mOrV, mNotV, m2, m1, mN, mNL, mV, mC, mLst, mTup, mLs, mLC, mLstC, newC, mSl, oNo, oYes, mChain, mChain, mCall, aNil, aCons, M.bnd, M.ret, M.bad, rd, gN, gT, gSeq, mF, frzA, mLM, mLM0, mItS, mItL, mItT, mEnum, mRng1, mRng2, List.map_cons, List.map_nil, List.replicate, List.cons_append, List.nil_append, List.getElem?_cons_zero, List.getElem?_cons_succ, List.set_cons_zero, List.set_cons_succ, List.length_cons, List.length_nil, Option.bind_some, Option.bind_none, Option.map_some, Option.map_none, if_true, if_false, ite_true, ite_false, Bool.false_eq_true, reduceIte, reduceCtorEq, addA_int, p1, sm0])
  have x1 : ∀ h, callP 2 f_gap [bk "RawBook" n Ls, bk "Book" (n + 1) []] h = .exc "OtherPeople" [] h := fun h => gap_exc bc bw (by omega)
  have x2 : ∀ h, callP 2 f_unlike_crowds [bk "Book" (n + 1) [], bk "RawBook" n Ls] h = .exc "OtherPeople" [] h := fun h => unlike_exc bw bc (by omega)
  have x3 : ∀ h, callP 2 f_is_finer [bk "RawBook" n Ls, bk "Book" (n + 1) []] h = .exc "OtherPeople" [] h := fun h => finer_exc bc bw (by omega)
  have x4 : ∀ h, callP 1 f_books_in_all [a8] h = .exc "NoPeople" [] h := fun h => odd_exc h8
  have lc : ∀ h, callP 1 f__law_crowds [.int n] h = .ok (.lst ((allC n).map ctA)) h := fun h => crowds_ok n12
  refine ⟨c8, some (.int n), some (bk "RawBook" n Ms), some (bk "RawBook" n Ns), some (.lst ((allC n).map ctA)), some (.lst ((due n Ls Ms).map ctA)), some (.bl ((((allC n).filter fun b => clr Ls b).map fun b => clr Ms b).all id)), some (bk "RawBook" n Bs), some (bk "RawBook" n Es), some (bk "RawBook" n Ms), some (.cell (r.length + 1)), some a8, some (bk "RawBook" n Ls), some (bk "Book" (n + 1) []), ?_, k8⟩
  have v1 : neA [c8, .lst [.str "people", .str "people", .str "people", .str "none"]] (.cell 1) (.lst [.str "people", .str "people", .str "people", .str "none"]) = some (.bl false) := words1
  have v2 : neA [c8, .lst wsA, .lst [.str "people", .str "people", .str "people", .str "none"]] (.cell 2) (.lst [.str "people", .str "people", .str "people", .str "none"]) = some (.bl false) := words2
  rcases hr with rfl | rfl
  · unfold B_law_4
    simp only [bodyM, sSeq, sIf, sThen, sSet, sRet, sRetN, sNext, sExpr, sPutIx, sAsg, sPar, sAug, sExc, mAnd, mOr, mNot, mIf, mT, mB, mAndV, mOrV, mNotV, m2, m1, mN, mNL, mV, mC, mLst, mTup, mLs, mLC, mLstC, newC, mSl, oNo, oYes, mChain, mChain, mCall, aNil, aCons, M.bnd, M.ret, M.bad, rd, gN, gT, gSeq, mF, frzA, mLM, mLM0, mItS, mItL, mItT, mEnum, mRng1, mRng2, List.map_cons, List.map_nil, List.replicate, List.cons_append, List.nil_append, List.getElem?_cons_zero, List.getElem?_cons_succ, List.set_cons_zero, List.set_cons_succ, List.length_cons, List.length_nil, Option.bind_some, Option.bind_none, Option.map_some, Option.map_none, if_true, if_false, ite_true, ite_false, Bool.false_eq_true, reduceIte, reduceCtorEq, addA_int, e1', hn, e2', e3', e4', lc, K0_ok n12 w2.wb.lt w3.wb.lt lL lM, g1, g2, neA_lsttup, decide_true, Bool.not_true, g3, g4, lenA_lst, List.length_map, neA_int, g5, g6, neA_bl, g7, g8, ltA_int, g9, decide_false, K1_ok n12 w2.wb.lt w3.wb.lt lL lM, allA_bls, g10, q5, q6, L_law_3, B_law_2, sFor, sForL, setAll, sm0, sm2, sm3, f1, f2, f3, f4, g11, g12, g13, g14, g15, g16, e7', g17, g18, g19, negA_int, sm6, sm4, e8', mLamA, x1, x2, x3, x4, hw1, hw2, sm1, chkL, updL, appendA, lstOf, der, Nat.reduceAdd, lt1, lt2, lt3, lt4, v1]
    rfl
  · unfold B_law_4
    simp only [bodyM, sSeq, sIf, sThen, sSet, sRet, sRetN, sNext, sExpr, sPutIx, sAsg, sPar, sAug, sExc, mAnd, mOr, mNot, mIf, mT, mB, mAndV, mOrV, mNotV, m2, m1, mN, mNL, mV, mC, mLst, mTup, mLs, mLC, mLstC, newC, mSl, oNo, oYes, mChain, mChain, mCall, aNil, aCons, M.bnd, M.ret, M.bad, rd, gN, gT, gSeq, mF, frzA, mLM, mLM0, mItS, mItL, mItT, mEnum, mRng1, mRng2, List.map_cons, List.map_nil, List.replicate, List.cons_append, List.nil_append, List.getElem?_cons_zero, List.getElem?_cons_succ, List.set_cons_zero, List.set_cons_succ, List.length_cons, List.length_nil, Option.bind_some, Option.bind_none, Option.map_some, Option.map_none, if_true, if_false, ite_true, ite_false, Bool.false_eq_true, reduceIte, reduceCtorEq, addA_int, e1', hn, e2', e3', e4', lc, K0_ok n12 w2.wb.lt w3.wb.lt lL lM, g1, g2, neA_lsttup, decide_true, Bool.not_true, g3, g4, lenA_lst, List.length_map, neA_int, g5, g6, neA_bl, g7, g8, ltA_int, g9, decide_false, K1_ok n12 w2.wb.lt w3.wb.lt lL lM, allA_bls, g10, q5, q6, L_law_3, B_law_2, sFor, sForL, setAll, sm0, sm2, sm3, f1, f2, f3, f4, g11, g12, g13, g14, g15, g16, e7', g17, g18, g19, negA_int, sm6, sm4, e8', mLamA, x1, x2, x3, x4, hw1, hw2, sm1, chkL, updL, appendA, lstOf, der, Nat.reduceAdd, lt1, lt2, lt3, lt4, v2]
    rfl
end LW

set_option Elab.async false
set_option linter.all false
set_option maxRecDepth 100000
set_option maxHeartbeats 4000000
namespace LW
open PySem L2 Sim MB
local instance tabN7 : TabT := ⟨[]⟩
theorem len63 : (63 : Nat) ≤ sizeLine := by decide
theorem hand_ok {ns : List Int} (hl : ns.length ≤ 63) : ∃ c, f__law_hand [.scr ns] [] = .ok (.cell 0) [c] ∧ HandOk c := by
  have hc : (cutA ns none (some 63)).length ≤ 63 := by
    unfold cutA
    rw [List.length_take, List.length_drop]
    omega
  have e1 : K__law_hand_0 [some (.scr ns), none, none] [] = .ok (((cutA ns none (some 63)).map fun i => if i < 0 then -i else i).map .int) [] := by
    unfold K__law_hand_0
    refine mLc_ok (h1 := []) (xs := (cutA ns none (some 63)).map .int) rfl (by rw [List.length_map]; exact Nat.le_trans hc len63) ?_
    have key := lcL_map (g := gN 2) (e := mN absA (aCons (mN intA (aCons (mV 2) aNil)) aNil)) (env := wipeE [some (.scr ns), none, none] [2]) (h := []) (f := fun x => match x with | .int i => .int (if i < 0 then -i else i) | _ => .non) (xs := (cutA ns none (some 63)).map .int) (fun x hx => by
      obtain ⟨i, hi, rfl⟩ := List.mem_map.mp hx
      refine ⟨_, rfl, ?_⟩
      simp only [wipeE, bodyM, sSeq, sIf, sThen, sSet, sRet, sRetN, sNext, sExpr, sPutIx, sAsg, sPar, sAug, sExc, mAnd, mOr, mNot, mIf, mT, mB, mAndV, mOrV, mNotV, m2, m1, mN, mNL, mV, mC, mLst, mTup, mLs, mLC, mLstC, newC, mSl, oNo, oYes, mChain, mChain, mCall, aNil, aCons, M.bnd, M.ret, M.bad, rd, gN, gT, gSeq, mF, frzA, mLM, mLM0, mItS, mItL, mItT, mEnum, mRng1, mRng2, List.map_cons, List.map_nil, List.replicate, List.cons_append, List.nil_append, List.getElem?_cons_zero, List.getElem?_cons_succ, List.set_cons_zero, List.set_cons_succ, List.length_cons, List.length_nil, Option.bind_some, Option.bind_none, Option.map_some, Option.map_none, if_true, if_false, ite_true, ite_false, Bool.false_eq_true, reduceIte, reduceCtorEq, intA_int, absA])
    rw [key, List.map_map, List.map_map]
    rfl
  have m7 : -(2 ^ 64) < (7 : Int) ∧ (7 : Int) < 2 ^ 64 := by decide
  refine ⟨_, ?_, (cutA ns none (some 63)).map (fun i => if i < 0 then -i else i), 0, 0, 61 + 7 * (((cutA ns none (some 63)).map fun i => if i < 0 then -i else i).length : Int), 0, rfl, by decide, by decide⟩
  unfold f__law_hand m__law_hand
  simp only [bodyM, sSeq, sIf, sThen, sSet, sRet, sRetN, sNext, sExpr, sPutIx, sAsg, sPar, sAug, sExc, mAnd, mOr, mNot, mIf, mT, mB, mAndV, mOrV, mNotV, m2, m1, mN, mNL, mV, mC, mLst, mTup, mLs, mLC, mLstC, newC, mSl, oNo, oYes, mChain, mChain, mCall, aNil, aCons, M.bnd, M.ret, M.bad, rd, gN, gT, gSeq, mF, frzA, mLM, mLM0, mItS, mItL, mItT, mEnum, mRng1, mRng2, List.map_cons, List.map_nil, List.replicate, List.cons_append, List.nil_append, List.getElem?_cons_zero, List.getElem?_cons_succ, List.set_cons_zero, List.set_cons_succ, List.length_cons, List.length_nil, Option.bind_some, Option.bind_none, Option.map_some, Option.map_none, if_true, if_false, ite_true, ite_false, Bool.false_eq_true, reduceIte, reduceCtorEq, e1, lenA_lst, mulA_l m7, addA_int, sm5]
  rw [List.length_map]
  rfl
def intB (r : Res AV) (n : Int) : Bool := match r with
  | .ok (.int m) _ => m == n
  | _ => false
theorem intB_ok {r : Res AV} {n : Int} (h : intB r n = true) : ∃ h', r = .ok (.int n) h' := by
  unfold intB at h
  split at h
  · rename_i m h'
    exact ⟨h', by rw [eq_of_beq h]⟩
  · cases h
def pL : List (Int × Int) := [(1, 1), (2, 2), (3, 9), (4, 114)]
theorem b_all : (pL.all fun p => intB (f_books_in_all [.int p.1] []) p.2) = true := by kernel_rfl
theorem l_all : (pL.all fun p => intB (f__law_books [.int p.1] []) p.2) = true := by kernel_rfl
theorem books_ok {p : Int} (h1 : 1 ≤ p) (h4 : p ≤ 4) : ∃ m : Int, (∀ h, callP 1 f_books_in_all [.int p] h = .ok (.int m) h) ∧ ∀ h, callP 1 f__law_books [.int p] h = .ok (.int m) h := by
  have : p = 1 ∨ p = 2 ∨ p = 3 ∨ p = 4 := by omega
  have key : ∀ q ∈ pL, (∀ h, callP 1 f_books_in_all [.int q.1] h = .ok (.int q.2) h) ∧ ∀ h, callP 1 f__law_books [.int q.1] h = .ok (.int q.2) h := fun q hq => by
    obtain ⟨h1, e1⟩ := intB_ok (List.all_eq_true.mp b_all q hq)
    obtain ⟨h2, e2⟩ := intB_ok (List.all_eq_true.mp l_all q hq)
    exact ⟨fun h => callP_ok e1 rfl rfl rfl, fun h => callP_ok e2 rfl rfl rfl⟩
  rcases this with rfl | rfl | rfl | rfl
  · exact ⟨1, key (1, 1) (by simp [pL])⟩
  · exact ⟨2, key (2, 2) (by simp [pL])⟩
  · exact ⟨9, key (3, 9) (by simp [pL])⟩
  · exact ⟨114, key (4, 114) (by simp [pL])⟩
theorem law_true (ns : List Int) (hl : ns.length ≤ 63) : ∃ h', f_law [.scr ns] [] = .ok (.bl true) h' := by
  obtain ⟨c, e1, k1⟩ := hand_ok hl
  have e1' : callS 1 f__law_hand [.scr ns] [] = .ok (.cell 0) [c] := e1
  obtain ⟨e2, hh, q1, c2, x2, y3, y4, y5, y6, y7, y8, y9, y10, y11, y12, y13, y14, y15, rfl, rfl, k2⟩ := sForL_all (g := gN 2) (b := B_law_4) (fun j env h => ∃ c x2 y3 y4 y5 y6 y7 y8 y9 y10 y11 y12 y13 y14 y15, h = c :: List.replicate j (.lst wsA) ∧ env = [some (.scr ns), some (.cell 0), x2, y3, y4, y5, y6, y7, y8, y9, y10, y11, y12, y13, y14, y15, none] ∧ HandOk c)
    (xs := rngL 0 2) (env := [some (.scr ns), some (.cell 0), none, none, none, none, none, none, none, none, none, none, none, none, none, none, none]) (h := [c]) (fun j x env h e hI => by
      obtain ⟨c, x2, y3, y4, y5, y6, y7, y8, y9, y10, y11, y12, y13, y14, y15, rfl, rfl, k⟩ := hI
      obtain ⟨rfl, hj⟩ := rngL_get e
      have hr : List.replicate j (Cell.lst wsA) = [] ∨ List.replicate j (Cell.lst wsA) = [.lst wsA] := by
        have : j = 0 ∨ j = 1 := by omega
        rcases this with rfl | rfl
        · exact .inl rfl
        · exact .inr rfl
      obtain ⟨c', z3, z4, z5, z6, z7, z8, z9, z10, z11, z12, z13, z14, z15, r, k'⟩ := turn_ok (s0 := some (.scr ns)) (s2 := some (.int (0 + (j : Int)))) (s3 := y3) (s4 := y4) (s5 := y5) (s6 := y6) (s7 := y7) (s8 := y8) (s9 := y9) (s10 := y10) (s11 := y11) (s12 := y12) (s13 := y13) (s14 := y14) (s15 := y15) k hr
      refine ⟨_, rfl, _, _, .inl r, c', _, _, _, _, _, _, _, _, _, _, _, _, _, _, ?_, rfl, k'⟩
      rw [List.replicate_succ'] ) ⟨c, _, _, _, _, _, _, _, _, _, _, _, _, _, _, rfl, rfl, k1⟩
  have lp : L_law_5 [some (.scr ns), some (.cell 0), none, none, none, none, none, none, none, none, none, none, none, none, none, none, none] [c] = .nx [some (.scr ns), some (.cell 0), x2, y3, y4, y5, y6, y7, y8, y9, y10, y11, y12, y13, y14, y15, none] [c2, .lst wsA, .lst wsA] := by
    unfold L_law_5 sFor sThen
    rw [rng1 (n := 2) rfl (by decide) (by decide)]
    exact q1
  obtain ⟨d4, c4, e4, a4, b4, k4⟩ := draw_at (h := [c2, .lst wsA, .lst wsA]) (n := 0) (many := 4) rfl k2 (by decide) (by decide)
  have e4' : callH 2 f__law_draw [.cell 0, .int 4] [c2, .lst wsA, .lst wsA] = .ok (.int d4) [c4, .lst wsA, .lst wsA] := e4
  obtain ⟨m, r1, r2⟩ := books_ok (p := 1 + d4) (by omega) (by omega)
  refine ⟨[c4, .lst wsA, .lst wsA], ?_⟩
  unfold f_law m_law
  simp only [bodyM, sSeq, sIf, sThen, sSet, sRet, sRetN, sNext, sExpr, sPutIx, sAsg, sPar, sAug, sExc, mAnd, mOr, mNot, mIf, mT, mB, mAndV, mOrV, mNotV, m2, m1, mN, mNL, mV, mC, mLst, mTup, mLs, mLC, mLstC, newC, mSl, oNo, oYes, mChain, mChain, mCall, aNil, aCons, M.bnd, M.ret, M.bad, rd, gN, gT, gSeq, mF, frzA, mLM, mLM0, mItS, mItL, mItT, mEnum, mRng1, mRng2, List.map_cons, List.map_nil, List.replicate, List.cons_append, List.nil_append, List.getElem?_cons_zero, List.getElem?_cons_succ, List.set_cons_zero, List.set_cons_succ, List.length_cons, List.length_nil, Option.bind_some, Option.bind_none, Option.map_some, Option.map_none, if_true, if_false, ite_true, ite_false, Bool.false_eq_true, reduceIte, reduceCtorEq, e1', lp, addA_int, e4', r1, r2, eqA_int, decide_true]
end LW

set_option Elab.async false
set_option linter.all false
set_option maxRecDepth 100000
set_option maxHeartbeats 2000000
open PySem PySem.W PyProof.Rows
theorem LW.excs_mk {K : PySem.W.Frag} {mg : Str → Option Value} {h : Heap} {x_NoCrowd x_NoHeaps x_NoPeople x_OtherPeople x_LotError x_Book x_RawBook y_Book_keep y_RawBook___init__ y_Book___init__ y_Book___eq__ : Addr} {od_Book_keep an_Book_keep : Option Addr} {sl_Book_keep : Array (Option Value)} {oc_Book_keep kV_Book_keep dc_Book_keep pm_Book_keep cd_Book_keep ct_Book_keep : Value} {od_RawBook___init__ an_RawBook___init__ : Option Addr} {sl_RawBook___init__ : Array (Option Value)} {oc_RawBook___init__ kV_RawBook___init__ dc_RawBook___init__ pm_RawBook___init__ cd_RawBook___init__ ct_RawBook___init__ : Value} {od_Book___init__ an_Book___init__ : Option Addr} {sl_Book___init__ : Array (Option Value)} {oc_Book___init__ kV_Book___init__ dc_Book___init__ pm_Book___init__ cd_Book___init__ ct_Book___init__ : Value} {od_Book___eq__ an_Book___eq__ : Option Addr} {sl_Book___eq__ : Array (Option Value)} {oc_Book___eq__ kV_Book___eq__ dc_Book___eq__ pm_Book___eq__ cd_Book___eq__ ct_Book___eq__ : Value} (X : K.In h) (G : h.Ns mainGlobals mg)
    (qe64 : PySem.W.nsIn K mainGlobals "NoCrowd" = some (some (.ref x_NoCrowd))) (qe69 : PySem.W.nsIn K mainGlobals "NoHeaps" = some (some (.ref x_NoHeaps))) (qe74 : PySem.W.nsIn K mainGlobals "NoPeople" = some (some (.ref x_NoPeople))) (qe79 : PySem.W.nsIn K mainGlobals "OtherPeople" = some (some (.ref x_OtherPeople))) (qe84 : PySem.W.nsIn K mainGlobals "LotError" = some (some (.ref x_LotError))) (qe108 : PySem.W.nsIn K mainGlobals "Book" = some (some (.ref x_Book))) (qe119 : PySem.W.nsIn K mainGlobals "RawBook" = some (some (.ref x_RawBook))) (qe154 : PySem.W.findIn K (.ref x_Book) "__init__" = some (some (.ref y_Book___init__))) (qe155 : PySem.W.findIn K (.ref x_Book) "keep" = some (some (.ref y_Book_keep))) (qe156 : PySem.W.findIn K (.ref x_RawBook) "__eq__" = some (some (.ref y_Book___eq__))) (qe157 : PySem.W.findIn K (.ref x_RawBook) "__init__" = some (some (.ref y_RawBook___init__))) (qe158 : PySem.W.findIn K (.ref x_RawBook) "keep" = some (some (.ref y_Book_keep))) (qe65 : PySem.W.excIn K x_NoCrowd [.type "ValueError", .type "Exception", .type "BaseException", .type "object"] "ValueError.__new__" = true) (qe66 : PySem.W.keepIn K (.ref x_NoCrowd) = true) (qe67 : PySem.W.subIn K (.ref x_NoCrowd) (.type "BaseException") = some true) (qe68 : PySem.W.typeIn K (.ref x_NoCrowd) = some (.type "type")) (qe70 : PySem.W.excIn K x_NoHeaps [.type "ValueError", .type "Exception", .type "BaseException", .type "object"] "ValueError.__new__" = true) (qe71 : PySem.W.keepIn K (.ref x_NoHeaps) = true) (qe72 : PySem.W.subIn K (.ref x_NoHeaps) (.type "BaseException") = some true) (qe73 : PySem.W.typeIn K (.ref x_NoHeaps) = some (.type "type")) (qe75 : PySem.W.excIn K x_NoPeople [.type "ValueError", .type "Exception", .type "BaseException", .type "object"] "ValueError.__new__" = true) (qe76 : PySem.W.keepIn K (.ref x_NoPeople) = true) (qe77 : PySem.W.subIn K (.ref x_NoPeople) (.type "BaseException") = some true) (qe78 : PySem.W.typeIn K (.ref x_NoPeople) = some (.type "type")) (qe80 : PySem.W.excIn K x_OtherPeople [.type "ValueError", .type "Exception", .type "BaseException", .type "object"] "ValueError.__new__" = true) (qe81 : PySem.W.keepIn K (.ref x_OtherPeople) = true) (qe82 : PySem.W.subIn K (.ref x_OtherPeople) (.type "BaseException") = some true) (qe83 : PySem.W.typeIn K (.ref x_OtherPeople) = some (.type "type")) (qe85 : PySem.W.hasDictIn K x_OtherPeople = true) (qe86 : PySem.W.findIn K (.ref x_OtherPeople) "__getattribute__" = some (some (.builtin "BaseException.__getattribute__"))) (qe87 : PySem.W.findIn K (.ref x_OtherPeople) "__getattr__" = some none) (qe88 : PySem.W.subIn K (.ref x_OtherPeople) (.type "BaseException") = some true) (qe89 : PySem.W.hasDictIn K x_OtherPeople = true) (qe90 : PySem.W.findIn K (.ref x_OtherPeople) "__class__" = some (some (.builtin "object.__class__"))) (qe91 : PySem.W.specialIn K (.builtin "object.__class__") "__get__" = some (some (.builtin "getset_descriptor.__get__"))) (qe92 : PySem.W.takesIn K (.builtin "object.__class__") = some true) (qe93 : PySem.W.mroIn K x_OtherPeople (.type "object") = some true) (qe94 : PySem.W.kitOne K (.ref x_OtherPeople) (.ref x_LotError) = some true) (qe95 : PySem.W.hasDictIn K x_NoPeople = true) (qe96 : PySem.W.findIn K (.ref x_NoPeople) "__getattribute__" = some (some (.builtin "BaseException.__getattribute__"))) (qe97 : PySem.W.findIn K (.ref x_NoPeople) "__getattr__" = some none) (qe98 : PySem.W.subIn K (.ref x_NoPeople) (.type "BaseException") = some true) (qe99 : PySem.W.hasDictIn K x_NoPeople = true) (qe100 : PySem.W.findIn K (.ref x_NoPeople) "__class__" = some (some (.builtin "object.__class__"))) (qe101 : PySem.W.specialIn K (.builtin "object.__class__") "__get__" = some (some (.builtin "getset_descriptor.__get__"))) (qe102 : PySem.W.takesIn K (.builtin "object.__class__") = some true) (qe103 : PySem.W.mroIn K x_NoPeople (.type "object") = some true) (qe104 : PySem.W.kitOne K (.ref x_NoPeople) (.ref x_LotError) = some true) (qe105 : PySem.W.subIn K (.ref x_OtherPeople) (.ref x_OtherPeople) = some true) (qe106 : PySem.W.subIn K (.ref x_NoPeople) (.ref x_OtherPeople) = some false) (qe107 : PySem.W.subIn K (.ref x_NoPeople) (.ref x_NoPeople) = some true) (qe109 : PySem.W.plainGet K x_Book Str.empty = true) (qe110 : PySem.W.hasDictIn K x_Book = true) (qe111 : PySem.W.plainOver K x_Book = true) (qe112 : PySem.W.findIn K (.ref x_Book) "__setattr__" = some (some (.builtin "object.__setattr__"))) (qe113 : PySem.W.makesIn K x_Book = true) (qe114 : PySem.W.keepIn K (.ref x_Book) = true) (qe115 : PySem.W.findIn K (.ref x_Book) "__class__" = some (some (.builtin "object.__class__"))) (qe116 : PySem.W.specialIn K (.builtin "object.__class__") "__get__" = some (some (.builtin "getset_descriptor.__get__"))) (qe117 : PySem.W.takesIn K (.builtin "object.__class__") = some true) (qe118 : PySem.W.mroIn K x_Book (.type "object") = some true) (qe120 : PySem.W.plainGet K x_RawBook Str.empty = true) (qe121 : PySem.W.hasDictIn K x_RawBook = true) (qe122 : PySem.W.plainOver K x_RawBook = true) (qe123 : PySem.W.findIn K (.ref x_RawBook) "__setattr__" = some (some (.builtin "object.__setattr__"))) (qe124 : PySem.W.makesIn K x_RawBook = true) (qe125 : PySem.W.keepIn K (.ref x_RawBook) = true) (qe126 : PySem.W.findIn K (.ref x_RawBook) "__class__" = some (some (.builtin "object.__class__"))) (qe127 : PySem.W.specialIn K (.builtin "object.__class__") "__get__" = some (some (.builtin "getset_descriptor.__get__"))) (qe128 : PySem.W.takesIn K (.builtin "object.__class__") = some true) (qe129 : PySem.W.mroIn K x_RawBook (.type "object") = some true) (qe130 : PySem.W.findIn K (.ref x_Book) "lots" = some none) (qe131 : PySem.W.findIn K (.ref x_Book) "masks" = some none) (qe132 : PySem.W.findIn K (.ref x_Book) "people" = some none) (qe133 : PySem.W.findIn K (.ref x_RawBook) "lots" = some none) (qe134 : PySem.W.findIn K (.ref x_RawBook) "masks" = some none) (qe135 : PySem.W.findIn K (.ref x_RawBook) "people" = some none) (qe136 : PySem.W.kitOne K (.ref x_Book) (.ref x_Book) = some true) (qe137 : PySem.W.kitOne K (.ref x_RawBook) (.ref x_Book) = some true) (qe138 : K.lookup y_Book_keep = some ⟨oc_Book_keep, od_Book_keep, .func (PySem.W.fnOf "keep" "Book.keep" (L2.defArgs (L2.inClass (LW.topS 29) 1)) (L2.defBody (L2.inClass (LW.topS 29) 1)) (L2.defScope (L2.inClass (LW.topS 29) 1)) .none kV_Book_keep dc_Book_keep pm_Book_keep an_Book_keep cd_Book_keep ct_Book_keep), sl_Book_keep⟩) (qe139 : PySem.W.codeIn K cd_Book_keep "Book.keep" = true) (qe140 : PySem.W.keepIn K (.ref y_Book_keep) = true) (qe141 : PySem.W.isFn K (.ref y_Book_keep) = true) (qe142 : K.lookup y_RawBook___init__ = some ⟨oc_RawBook___init__, od_RawBook___init__, .func (PySem.W.fnOf "__init__" "RawBook.__init__" (L2.defArgs (L2.inClass (LW.topS 30) 0)) (L2.defBody (L2.inClass (LW.topS 30) 0)) (L2.defScope (L2.inClass (LW.topS 30) 0)) .none kV_RawBook___init__ dc_RawBook___init__ pm_RawBook___init__ an_RawBook___init__ cd_RawBook___init__ ct_RawBook___init__), sl_RawBook___init__⟩) (qe143 : PySem.W.codeIn K cd_RawBook___init__ "RawBook.__init__" = true) (qe144 : PySem.W.keepIn K (.ref y_RawBook___init__) = true) (qe145 : PySem.W.isFn K (.ref y_RawBook___init__) = true) (qe146 : K.lookup y_Book___init__ = some ⟨oc_Book___init__, od_Book___init__, .func (PySem.W.fnOf "__init__" "Book.__init__" (L2.defArgs (L2.inClass (LW.topS 29) 0)) (L2.defBody (L2.inClass (LW.topS 29) 0)) (L2.defScope (L2.inClass (LW.topS 29) 0)) .none kV_Book___init__ dc_Book___init__ pm_Book___init__ an_Book___init__ cd_Book___init__ ct_Book___init__), sl_Book___init__⟩) (qe147 : PySem.W.codeIn K cd_Book___init__ "Book.__init__" = true) (qe148 : PySem.W.keepIn K (.ref y_Book___init__) = true) (qe149 : PySem.W.isFn K (.ref y_Book___init__) = true) (qe150 : K.lookup y_Book___eq__ = some ⟨oc_Book___eq__, od_Book___eq__, .func (PySem.W.fnOf "__eq__" "Book.__eq__" (L2.defArgs (L2.inClass (LW.topS 29) 2)) (L2.defBody (L2.inClass (LW.topS 29) 2)) (L2.defScope (L2.inClass (LW.topS 29) 2)) .none kV_Book___eq__ dc_Book___eq__ pm_Book___eq__ an_Book___eq__ cd_Book___eq__ ct_Book___eq__), sl_Book___eq__⟩) (qe151 : PySem.W.codeIn K cd_Book___eq__ "Book.__eq__" = true) (qe152 : PySem.W.keepIn K (.ref y_Book___eq__) = true) (qe153 : PySem.W.isFn K (.ref y_Book___eq__) = true) :
    ∃ x_NoCrowd x_NoHeaps x_NoPeople x_OtherPeople x_LotError x_Book x_RawBook y_Book_keep y_RawBook___init__ y_Book___init__ y_Book___eq__ : Addr, Sim.ExF K mg "NoCrowd" x_NoCrowd ∧ Sim.ExF K mg "NoHeaps" x_NoHeaps ∧ Sim.ExF K mg "NoPeople" x_NoPeople ∧ Sim.ExF K mg "OtherPeople" x_OtherPeople ∧ mg "LotError" = some (.ref x_LotError) ∧ PySem.W.hasDictIn K x_OtherPeople = true ∧ L2.ExcC K x_OtherPeople ∧ PySem.W.kitOne K (.ref x_OtherPeople) (.ref x_LotError) = some true ∧ PySem.W.hasDictIn K x_NoPeople = true ∧ L2.ExcC K x_NoPeople ∧ PySem.W.kitOne K (.ref x_NoPeople) (.ref x_LotError) = some true ∧ PySem.W.subIn K (.ref x_OtherPeople) (.ref x_OtherPeople) = some true ∧ PySem.W.subIn K (.ref x_NoPeople) (.ref x_OtherPeople) = some false ∧ PySem.W.subIn K (.ref x_NoPeople) (.ref x_NoPeople) = some true ∧ Sim.ClsF K mg "Book" x_Book ∧ Sim.ClsF K mg "RawBook" x_RawBook ∧ L2.NoAttr K x_Book "lots" ∧ L2.NoAttr K x_Book "masks" ∧ L2.NoAttr K x_Book "people" ∧ L2.NoAttr K x_RawBook "lots" ∧ L2.NoAttr K x_RawBook "masks" ∧ L2.NoAttr K x_RawBook "people" ∧ PySem.W.kitOne K (.ref x_Book) (.ref x_Book) = some true ∧ PySem.W.kitOne K (.ref x_RawBook) (.ref x_Book) = some true ∧ Sim.FunY K y_Book_keep "keep" "Book.keep" (L2.inClass (LW.topS 29) 1) ["self", "people", "lots"] ∧ PySem.W.isFn K (.ref y_Book_keep) = true ∧ Sim.FunY K y_RawBook___init__ "__init__" "RawBook.__init__" (L2.inClass (LW.topS 30) 0) ["self", "people", "lots"] ∧ PySem.W.isFn K (.ref y_RawBook___init__) = true ∧ Sim.FunY K y_Book___init__ "__init__" "Book.__init__" (L2.inClass (LW.topS 29) 0) ["self", "people", "lots"] ∧ PySem.W.isFn K (.ref y_Book___init__) = true ∧ Sim.FunY K y_Book___eq__ "__eq__" "Book.__eq__" (L2.inClass (LW.topS 29) 2) ["self", "other"] ∧ PySem.W.isFn K (.ref y_Book___eq__) = true ∧ PySem.W.findIn K (.ref x_Book) "__init__" = some (some (.ref y_Book___init__)) ∧ PySem.W.findIn K (.ref x_Book) "keep" = some (some (.ref y_Book_keep)) ∧ PySem.W.findIn K (.ref x_RawBook) "__eq__" = some (some (.ref y_Book___eq__)) ∧ PySem.W.findIn K (.ref x_RawBook) "__init__" = some (some (.ref y_RawBook___init__)) ∧ PySem.W.findIn K (.ref x_RawBook) "keep" = some (some (.ref y_Book_keep)) := ⟨x_NoCrowd, x_NoHeaps, x_NoPeople, x_OtherPeople, x_LotError, x_Book, x_RawBook, y_Book_keep, y_RawBook___init__, y_Book___init__, y_Book___eq__, ⟨PySem.W.mg_of X G qe64, qe65, qe66, qe67, qe68⟩, ⟨PySem.W.mg_of X G qe69, qe70, qe71, qe72, qe73⟩, ⟨PySem.W.mg_of X G qe74, qe75, qe76, qe77, qe78⟩, ⟨PySem.W.mg_of X G qe79, qe80, qe81, qe82, qe83⟩, PySem.W.mg_of X G qe84, qe85, ⟨qe86, qe87, qe88, qe89, qe90, qe91, qe92, qe93⟩, qe94, qe95, ⟨qe96, qe97, qe98, qe99, qe100, qe101, qe102, qe103⟩, qe104, qe105, qe106, qe107, ⟨PySem.W.mg_of X G qe108, ⟨qe109, qe110, qe111, qe112⟩, qe113, qe114, qe115, qe116, qe117, qe118⟩, ⟨PySem.W.mg_of X G qe119, ⟨qe120, qe121, qe122, qe123⟩, qe124, qe125, qe126, qe127, qe128, qe129⟩, qe130, qe131, qe132, qe133, qe134, qe135, qe136, qe137, Sim.funY_mk (fun _ _ _ _ _ _ us hl => match us, hl with | [_, _, _], _ => rfl) qe138 qe139 qe140, qe141, Sim.funY_mk (fun _ _ _ _ _ _ us hl => match us, hl with | [_, _, _], _ => rfl) qe142 qe143 qe144, qe145, Sim.funY_mk (fun _ _ _ _ _ _ us hl => match us, hl with | [_, _, _], _ => rfl) qe146 qe147 qe148, qe149, Sim.funY_mk (fun _ _ _ _ _ _ us hl => match us, hl with | [_, _], _ => rfl) qe150 qe151 qe152, qe153, qe154, qe155, qe156, qe157, qe158⟩
set_option maxHeartbeats 0 in
theorem PySem.Challenge.cw_clearhall_k93_whole_books_told_apart_holds : PySem.Challenge.rw_clearhall_k93_whole_books_told_apart.Holds := by
  w_on; o_law; k_head; (case hw => w_witness2)
  k_fill
  refine Sim.walk_end (l := PySem.Challenge.rw_clearhall_k93_whole_books_told_apart) (n := 63) (k := 19) (x := "script") (f := LW.f_law) rfl (by decide) rfl ⟨rfl, by decide, by decide⟩ (fun w h Y => PySem.W.km_in_of Y) ?simF ?simM
  case simM => exact (fun ns hl _ => LW.law_true ns hl)
  case simF =>
    intro w s0 mg mb fa h G Y KX Gn hmg
    obtain ⟨F_is_integer⟩ : Nonempty (Sim.FunG _ mg "is_integer" "is_integer" (LW.topS 10) ["thing"]) := by
      refine' Sim.funG_mk KX Gn (fun _ _ _ _ _ _ us hl => match us, hl with | [_], _ => rfl) ?qa3 ?ql3 ?qc3 ?qk3
      (case qa3 => k_is); (case ql3 => k_is); (case qc3 => k_is); (case qk3 => k_is)
    obtain ⟨F_is_within⟩ : Nonempty (Sim.FunG _ mg "is_within" "is_within" (LW.topS 11) ["thing", "least", "most"]) := by
      refine' Sim.funG_mk KX Gn (fun _ _ _ _ _ _ us hl => match us, hl with | [_, _, _], _ => rfl) ?qa4 ?ql4 ?qc4 ?qk4
      (case qa4 => k_is); (case ql4 => k_is); (case qc4 => k_is); (case qk4 => k_is)
    obtain ⟨F_is_listed⟩ : Nonempty (Sim.FunG _ mg "is_listed" "is_listed" (LW.topS 12) ["thing"]) := by
      refine' Sim.funG_mk KX Gn (fun _ _ _ _ _ _ us hl => match us, hl with | [_], _ => rfl) ?qa5 ?ql5 ?qc5 ?qk5
      (case qa5 => k_is); (case ql5 => k_is); (case qc5 => k_is); (case qk5 => k_is)
    obtain ⟨F_are_ascending⟩ : Nonempty (Sim.FunG _ mg "are_ascending" "are_ascending" (LW.topS 13) ["things"]) := by
      refine' Sim.funG_mk KX Gn (fun _ _ _ _ _ _ us hl => match us, hl with | [_], _ => rfl) ?qa6 ?ql6 ?qc6 ?qk6
      (case qa6 => k_is); (case ql6 => k_is); (case qc6 => k_is); (case qk6 => k_is)
    obtain ⟨F_are_persons⟩ : Nonempty (Sim.FunG _ mg "are_persons" "are_persons" (LW.topS 14) ["people", "thing"]) := by
      refine' Sim.funG_mk KX Gn (fun _ _ _ _ _ _ us hl => match us, hl with | [_, _], _ => rfl) ?qa7 ?ql7 ?qc7 ?qk7
      (case qa7 => k_is); (case ql7 => k_is); (case qc7 => k_is); (case qk7 => k_is)
    obtain ⟨F_is_crowd⟩ : Nonempty (Sim.FunG _ mg "is_crowd" "is_crowd" (LW.topS 15) ["people", "thing"]) := by
      refine' Sim.funG_mk KX Gn (fun _ _ _ _ _ _ us hl => match us, hl with | [_, _], _ => rfl) ?qa8 ?ql8 ?qc8 ?qk8
      (case qa8 => k_is); (case ql8 => k_is); (case qc8 => k_is); (case qk8 => k_is)
    obtain ⟨F_is_lot⟩ : Nonempty (Sim.FunG _ mg "is_lot" "is_lot" (LW.topS 16) ["people", "thing"]) := by
      refine' Sim.funG_mk KX Gn (fun _ _ _ _ _ _ us hl => match us, hl with | [_, _], _ => rfl) ?qa9 ?ql9 ?qc9 ?qk9
      (case qa9 => k_is); (case ql9 => k_is); (case qc9 => k_is); (case qk9 => k_is)
    obtain ⟨F_check_crowd⟩ : Nonempty (Sim.FunG _ mg "check_crowd" "check_crowd" (LW.topS 17) ["people", "thing"]) := by
      refine' Sim.funG_mk KX Gn (fun _ _ _ _ _ _ us hl => match us, hl with | [_, _], _ => rfl) ?qa10 ?ql10 ?qc10 ?qk10
      (case qa10 => k_is); (case ql10 => k_is); (case qc10 => k_is); (case qk10 => k_is)
    obtain ⟨F_check_people⟩ : Nonempty (Sim.FunG _ mg "check_people" "check_people" (LW.topS 18) ["thing", "most"]) := by
      refine' Sim.funG_mk KX Gn (fun _ _ _ _ _ _ us hl => match us, hl with | [_, _], _ => rfl) ?qa11 ?ql11 ?qc11 ?qk11
      (case qa11 => k_is); (case ql11 => k_is); (case qc11 => k_is); (case qk11 => k_is)
    obtain ⟨F_check_many⟩ : Nonempty (Sim.FunG _ mg "check_many" "check_many" (LW.topS 19) ["number", "most"]) := by
      refine' Sim.funG_mk KX Gn (fun _ _ _ _ _ _ us hl => match us, hl with | [_, _], _ => rfl) ?qa12 ?ql12 ?qc12 ?qk12
      (case qa12 => k_is); (case ql12 => k_is); (case qc12 => k_is); (case qk12 => k_is)
    obtain ⟨F_bits_of⟩ : Nonempty (Sim.FunG _ mg "bits_of" "bits_of" (LW.topS 20) ["crowd"]) := by
      refine' Sim.funG_mk KX Gn (fun _ _ _ _ _ _ us hl => match us, hl with | [_], _ => rfl) ?qa13 ?ql13 ?qc13 ?qk13
      (case qa13 => k_is); (case ql13 => k_is); (case qc13 => k_is); (case qk13 => k_is)
    obtain ⟨F_crowd_of⟩ : Nonempty (Sim.FunG _ mg "crowd_of" "crowd_of" (LW.topS 21) ["bits"]) := by
      refine' Sim.funG_mk KX Gn (fun _ _ _ _ _ _ us hl => match us, hl with | [_], _ => rfl) ?qa14 ?ql14 ?qc14 ?qk14
      (case qa14 => k_is); (case ql14 => k_is); (case qc14 => k_is); (case qk14 => k_is)
    obtain ⟨F_size_of⟩ : Nonempty (Sim.FunG _ mg "size_of" "size_of" (LW.topS 22) ["bits"]) := by
      refine' Sim.funG_mk KX Gn (fun _ _ _ _ _ _ us hl => match us, hl with | [_], _ => rfl) ?qa15 ?ql15 ?qc15 ?qk15
      (case qa15 => k_is); (case ql15 => k_is); (case qc15 => k_is); (case qk15 => k_is)
    obtain ⟨F_holds⟩ : Nonempty (Sim.FunG _ mg "holds" "holds" (LW.topS 23) ["bits", "some"]) := by
      refine' Sim.funG_mk KX Gn (fun _ _ _ _ _ _ us hl => match us, hl with | [_, _], _ => rfl) ?qa16 ?ql16 ?qc16 ?qk16
      (case qa16 => k_is); (case ql16 => k_is); (case qc16 => k_is); (case qk16 => k_is)
    obtain ⟨F_all_of⟩ : Nonempty (Sim.FunG _ mg "all_of" "all_of" (LW.topS 24) ["people"]) := by
      refine' Sim.funG_mk KX Gn (fun _ _ _ _ _ _ us hl => match us, hl with | [_], _ => rfl) ?qa17 ?ql17 ?qc17 ?qk17
      (case qa17 => k_is); (case ql17 => k_is); (case qc17 => k_is); (case qk17 => k_is)
    obtain ⟨F_first_wrong_lot⟩ : Nonempty (Sim.FunG _ mg "first_wrong_lot" "first_wrong_lot" (LW.topS 28) ["people", "lots"]) := by
      refine' Sim.funG_mk KX Gn (fun _ _ _ _ _ _ us hl => match us, hl with | [_, _], _ => rfl) ?qa18 ?ql18 ?qc18 ?qk18
      (case qa18 => k_is); (case ql18 => k_is); (case qc18 => k_is); (case qk18 => k_is)
    obtain ⟨F_is_clear_bits⟩ : Nonempty (Sim.FunG _ mg "is_clear_bits" "is_clear_bits" (LW.topS 31) ["book", "bits"]) := by
      refine' Sim.funG_mk KX Gn (fun _ _ _ _ _ _ us hl => match us, hl with | [_, _], _ => rfl) ?qa19 ?ql19 ?qc19 ?qk19
      (case qa19 => k_is); (case ql19 => k_is); (case qc19 => k_is); (case qk19 => k_is)
    obtain ⟨F_minimal⟩ : Nonempty (Sim.FunG _ mg "minimal" "minimal" (LW.topS 32) ["heaps"]) := by
      refine' Sim.funG_mk KX Gn (fun _ _ _ _ _ _ us hl => match us, hl with | [_], _ => rfl) ?qa20 ?ql20 ?qc20 ?qk20
      (case qa20 => k_is); (case ql20 => k_is); (case qc20 => k_is); (case qk20 => k_is)
    obtain ⟨F_made_of⟩ : Nonempty (Sim.FunG _ mg "made_of" "made_of" (LW.topS 33) ["people", "heaps"]) := by
      refine' Sim.funG_mk KX Gn (fun _ _ _ _ _ _ us hl => match us, hl with | [_, _], _ => rfl) ?qa21 ?ql21 ?qc21 ?qk21
      (case qa21 => k_is); (case ql21 => k_is); (case qc21 => k_is); (case qk21 => k_is)
    obtain ⟨F_book_of⟩ : Nonempty (Sim.FunG _ mg "book_of" "book_of" (LW.topS 34) ["people", "heaps"]) := by
      refine' Sim.funG_mk KX Gn (fun _ _ _ _ _ _ us hl => match us, hl with | [_, _], _ => rfl) ?qa22 ?ql22 ?qc22 ?qk22
      (case qa22 => k_is); (case ql22 => k_is); (case qc22 => k_is); (case qk22 => k_is)
    obtain ⟨F_check_same_gaps⟩ : Nonempty (Sim.FunG _ mg "check_same_gaps" "check_same" (LW.topS 37) ["one", "other"]) := by
      refine' Sim.funG_mk KX Gn (fun _ _ _ _ _ _ us hl => match us, hl with | [_, _], _ => rfl) ?qa23 ?ql23 ?qc23 ?qk23
      (case qa23 => k_is); (case ql23 => k_is); (case qc23 => k_is); (case qk23 => k_is)
    obtain ⟨F_unlike_bits⟩ : Nonempty (Sim.FunG _ mg "unlike_bits" "unlike_bits" (LW.topS 39) ["one", "other"]) := by
      refine' Sim.funG_mk KX Gn (fun _ _ _ _ _ _ us hl => match us, hl with | [_, _], _ => rfl) ?qa24 ?ql24 ?qc24 ?qk24
      (case qa24 => k_is); (case ql24 => k_is); (case qc24 => k_is); (case qk24 => k_is)
    obtain ⟨F_unlike_crowds⟩ : Nonempty (Sim.FunG _ mg "unlike_crowds" "unlike_crowds" (LW.topS 40) ["one", "other"]) := by
      refine' Sim.funG_mk KX Gn (fun _ _ _ _ _ _ us hl => match us, hl with | [_, _], _ => rfl) ?qa25 ?ql25 ?qc25 ?qk25
      (case qa25 => k_is); (case ql25 => k_is); (case qc25 => k_is); (case qk25 => k_is)
    obtain ⟨F_gap⟩ : Nonempty (Sim.FunG _ mg "gap" "gap" (LW.topS 41) ["one", "other"]) := by
      refine' Sim.funG_mk KX Gn (fun _ _ _ _ _ _ us hl => match us, hl with | [_, _], _ => rfl) ?qa26 ?ql26 ?qc26 ?qk26
      (case qa26 => k_is); (case ql26 => k_is); (case qc26 => k_is); (case qk26 => k_is)
    obtain ⟨F_is_finer⟩ : Nonempty (Sim.FunG _ mg "is_finer" "is_finer" (LW.topS 42) ["one", "other"]) := by
      refine' Sim.funG_mk KX Gn (fun _ _ _ _ _ _ us hl => match us, hl with | [_, _], _ => rfl) ?qa27 ?ql27 ?qc27 ?qk27
      (case qa27 => k_is); (case ql27 => k_is); (case qc27 => k_is); (case qk27 => k_is)
    obtain ⟨F_lots_of⟩ : Nonempty (Sim.FunG _ mg "lots_of" "lots_of" (LW.topS 43) ["people"]) := by
      refine' Sim.funG_mk KX Gn (fun _ _ _ _ _ _ us hl => match us, hl with | [_], _ => rfl) ?qa28 ?ql28 ?qc28 ?qk28
      (case qa28 => k_is); (case ql28 => k_is); (case qc28 => k_is); (case qk28 => k_is)
    obtain ⟨F_goes_beside⟩ : Nonempty (Sim.FunG _ mg "goes_beside" "goes_beside" (LW.topS 44) ["bits", "mask"]) := by
      refine' Sim.funG_mk KX Gn (fun _ _ _ _ _ _ us hl => match us, hl with | [_, _], _ => rfl) ?qa29 ?ql29 ?qc29 ?qk29
      (case qa29 => k_is); (case ql29 => k_is); (case qc29 => k_is); (case qk29 => k_is)
    obtain ⟨F_count_from⟩ : Nonempty (Sim.FunG _ mg "count_from" "count_from" (LW.topS 45) ["some"]) := by
      refine' Sim.funG_mk KX Gn (fun _ _ _ _ _ _ us hl => match us, hl with | [_], _ => rfl) ?qa30 ?ql30 ?qc30 ?qk30
      (case qa30 => k_is); (case ql30 => k_is); (case qc30 => k_is); (case qk30 => k_is)
    obtain ⟨F_books_in_all⟩ : Nonempty (Sim.FunG _ mg "books_in_all" "books_in_all" (LW.topS 46) ["people"]) := by
      refine' Sim.funG_mk KX Gn (fun _ _ _ _ _ _ us hl => match us, hl with | [_], _ => rfl) ?qa31 ?ql31 ?qc31 ?qk31
      (case qa31 => k_is); (case ql31 => k_is); (case qc31 => k_is); (case qk31 => k_is)
    obtain ⟨F_least_of⟩ : Nonempty (Sim.FunG _ mg "least_of" "least_of" (LW.topS 48) ["masks"]) := by
      refine' Sim.funG_mk KX Gn (fun _ _ _ _ _ _ us hl => match us, hl with | [_], _ => rfl) ?qa32 ?ql32 ?qc32 ?qk32
      (case qa32 => k_is); (case ql32 => k_is); (case qc32 => k_is); (case qk32 => k_is)
    obtain ⟨F_book_with⟩ : Nonempty (Sim.FunG _ mg "book_with" "book_with" (LW.topS 50) ["people", "masks"]) := by
      refine' Sim.funG_mk KX Gn (fun _ _ _ _ _ _ us hl => match us, hl with | [_, _], _ => rfl) ?qa33 ?ql33 ?qc33 ?qk33
      (case qa33 => k_is); (case ql33 => k_is); (case qc33 => k_is); (case qk33 => k_is)
    obtain ⟨F_left_out⟩ : Nonempty (Sim.FunG _ mg "left_out" "left_out" (LW.topS 51) ["book", "crowd"]) := by
      refine' Sim.funG_mk KX Gn (fun _ _ _ _ _ _ us hl => match us, hl with | [_, _], _ => rfl) ?qa34 ?ql34 ?qc34 ?qk34
      (case qa34 => k_is); (case ql34 => k_is); (case qc34 => k_is); (case qk34 => k_is)
    obtain ⟨F_check_same_twobooks⟩ : Nonempty (Sim.FunG _ mg "check_same_twobooks" "check_same" (LW.topS 53) ["one", "other"]) := by
      refine' Sim.funG_mk KX Gn (fun _ _ _ _ _ _ us hl => match us, hl with | [_, _], _ => rfl) ?qa35 ?ql35 ?qc35 ?qk35
      (case qa35 => k_is); (case ql35 => k_is); (case qc35 => k_is); (case qk35 => k_is)
    obtain ⟨F_both⟩ : Nonempty (Sim.FunG _ mg "both" "both" (LW.topS 55) ["one", "other"]) := by
      refine' Sim.funG_mk KX Gn (fun _ _ _ _ _ _ us hl => match us, hl with | [_, _], _ => rfl) ?qa36 ?ql36 ?qc36 ?qk36
      (case qa36 => k_is); (case ql36 => k_is); (case qc36 => k_is); (case qk36 => k_is)
    obtain ⟨F_either⟩ : Nonempty (Sim.FunG _ mg "either" "either" (LW.topS 56) ["one", "other"]) := by
      refine' Sim.funG_mk KX Gn (fun _ _ _ _ _ _ us hl => match us, hl with | [_, _], _ => rfl) ?qa37 ?ql37 ?qc37 ?qk37
      (case qa37 => k_is); (case ql37 => k_is); (case qc37 => k_is); (case qk37 => k_is)
    obtain ⟨F__law_hand⟩ : Nonempty (Sim.FunG _ mg "_law_hand" "_law_hand" (LW.topS 58) ["script"]) := by
      refine' Sim.funG_mk KX Gn (fun _ _ _ _ _ _ us hl => match us, hl with | [_], _ => rfl) ?qa38 ?ql38 ?qc38 ?qk38
      (case qa38 => k_is); (case ql38 => k_is); (case qc38 => k_is); (case qk38 => k_is)
    obtain ⟨F__law_draw⟩ : Nonempty (Sim.FunG _ mg "_law_draw" "_law_draw" (LW.topS 59) ["hand", "many"]) := by
      refine' Sim.funG_mk KX Gn (fun _ _ _ _ _ _ us hl => match us, hl with | [_, _], _ => rfl) ?qa39 ?ql39 ?qc39 ?qk39
      (case qa39 => k_is); (case ql39 => k_is); (case qc39 => k_is); (case qk39 => k_is)
    obtain ⟨F__law_any⟩ : Nonempty (Sim.FunG _ mg "_law_any" "_law_any" (LW.topS 60) ["hand", "some"]) := by
      refine' Sim.funG_mk KX Gn (fun _ _ _ _ _ _ us hl => match us, hl with | [_, _], _ => rfl) ?qa40 ?ql40 ?qc40 ?qk40
      (case qa40 => k_is); (case ql40 => k_is); (case qc40 => k_is); (case qk40 => k_is)
    obtain ⟨F__law_crowds⟩ : Nonempty (Sim.FunLP _ mg h "_law_crowds" "_law_crowds" (LW.topS 61) ["people"] _) := by
      refine' Sim.funLP_mk KX Gn (fun _ _ _ _ _ _ us hl => match us, hl with | [_], _ => rfl) ?qa41 ?ql41 ?qc41 ?qk41 (PySem.W.km_tabs_of Y _ (List.mem_cons_self)) ?qC41 ?qn41
      (case qa41 => k_is); (case ql41 => k_is); (case qc41 => k_is); (case qk41 => k_is)
      (case qC41 => kernel_rfl)
      (case qn41 => kernel_rfl)
    obtain ⟨F__law_is_clear⟩ : Nonempty (Sim.FunG _ mg "_law_is_clear" "_law_is_clear" (LW.topS 62) ["book", "crowd"]) := by
      refine' Sim.funG_mk KX Gn (fun _ _ _ _ _ _ us hl => match us, hl with | [_, _], _ => rfl) ?qa42 ?ql42 ?qc42 ?qk42
      (case qa42 => k_is); (case ql42 => k_is); (case qc42 => k_is); (case qk42 => k_is)
    obtain ⟨F__law_of⟩ : Nonempty (Sim.FunG _ mg "_law_of" "_law_of" (LW.topS 63) ["hand", "people"]) := by
      refine' Sim.funG_mk KX Gn (fun _ _ _ _ _ _ us hl => match us, hl with | [_, _], _ => rfl) ?qa43 ?ql43 ?qc43 ?qk43
      (case qa43 => k_is); (case ql43 => k_is); (case qc43 => k_is); (case qk43 => k_is)
    obtain ⟨F__law_books⟩ : Nonempty (Sim.FunG _ mg "_law_books" "_law_books" (LW.topS 64) ["people"]) := by
      refine' Sim.funG_mk KX Gn (fun _ _ _ _ _ _ us hl => match us, hl with | [_], _ => rfl) ?qa44 ?ql44 ?qc44 ?qk44
      (case qa44 => k_is); (case ql44 => k_is); (case qc44 => k_is); (case qk44 => k_is)
    obtain ⟨F__law_word⟩ : Nonempty (Sim.FunG _ mg "_law_word" "_law_word" (LW.topS 65) ["call"]) := by
      refine' Sim.funG_mk KX Gn (fun _ _ _ _ _ _ us hl => match us, hl with | [_], _ => rfl) ?qa45 ?ql45 ?qc45 ?qk45
      (case qa45 => k_is); (case ql45 => k_is); (case qc45 => k_is); (case qk45 => k_is)
    obtain ⟨F_law⟩ : Nonempty (Sim.FunLP _ mg h "law" "law" (LW.topS 66) ["script"] _) := by
      refine' Sim.funLP_mk KX Gn (fun _ _ _ _ _ _ us hl => match us, hl with | [_], _ => rfl) ?qa46 ?ql46 ?qc46 ?qk46 (PySem.W.km_tabs_of Y _ (List.mem_cons_of_mem _ (List.mem_cons_self))) ?qC46 ?qn46
      (case qa46 => k_is); (case ql46 => k_is); (case qc46 => k_is); (case qk46 => k_is)
      (case qC46 => kernel_rfl)
      (case qn46 => kernel_rfl)
    have z_abs : mg "abs" = none := by
      refine' PySem.W.mg_none_of KX Gn ?qz47
      (case qz47 => k_is)
    have z_all : mg "all" = none := by
      refine' PySem.W.mg_none_of KX Gn ?qz48
      (case qz48 => k_is)
    have z_any : mg "any" = none := by
      refine' PySem.W.mg_none_of KX Gn ?qz49
      (case qz49 => k_is)
    have z_bool : mg "bool" = none := by
      refine' PySem.W.mg_none_of KX Gn ?qz50
      (case qz50 => k_is)
    have z_enumerate : mg "enumerate" = none := by
      refine' PySem.W.mg_none_of KX Gn ?qz51
      (case qz51 => k_is)
    have z_int : mg "int" = none := by
      refine' PySem.W.mg_none_of KX Gn ?qz52
      (case qz52 => k_is)
    have z_isinstance : mg "isinstance" = none := by
      refine' PySem.W.mg_none_of KX Gn ?qz53
      (case qz53 => k_is)
    have z_len : mg "len" = none := by
      refine' PySem.W.mg_none_of KX Gn ?qz54
      (case qz54 => k_is)
    have z_list : mg "list" = none := by
      refine' PySem.W.mg_none_of KX Gn ?qz55
      (case qz55 => k_is)
    have z_range : mg "range" = none := by
      refine' PySem.W.mg_none_of KX Gn ?qz56
      (case qz56 => k_is)
    have z_sorted : mg "sorted" = none := by
      refine' PySem.W.mg_none_of KX Gn ?qz57
      (case qz57 => k_is)
    have z_sum : mg "sum" = none := by
      refine' PySem.W.mg_none_of KX Gn ?qz58
      (case qz58 => k_is)
    have z_tuple : mg "tuple" = none := by
      refine' PySem.W.mg_none_of KX Gn ?qz59
      (case qz59 => k_is)
    obtain ⟨t_MOST_COUNTED, c_MOST_COUNTED⟩ : ∃ t, mg "MOST_COUNTED" = some (.int 5 t) := by
      refine' Sim.lit_int KX Gn ?qz60
      (case qz60 => k_is)
    obtain ⟨t_MOST_HEAPS, c_MOST_HEAPS⟩ : ∃ t, mg "MOST_HEAPS" = some (.int 200 t) := by
      refine' Sim.lit_int KX Gn ?qz61
      (case qz61 => k_is)
    obtain ⟨t_MOST_LOTS, c_MOST_LOTS⟩ : ∃ t, mg "MOST_LOTS" = some (.int 60 t) := by
      refine' Sim.lit_int KX Gn ?qz62
      (case qz62 => k_is)
    obtain ⟨t_MOST_PEOPLE, c_MOST_PEOPLE⟩ : ∃ t, mg "MOST_PEOPLE" = some (.int 12 t) := by
      refine' Sim.lit_int KX Gn ?qz63
      (case qz63 => k_is)
    obtain ⟨x_NoCrowd, x_NoHeaps, x_NoPeople, x_OtherPeople, x_LotError, x_Book, x_RawBook, y_Book_keep, y_RawBook___init__, y_Book___init__, y_Book___eq__, e_NoCrowd, e_NoHeaps, e_NoPeople, e_OtherPeople, g_LotError, hd_OtherPeople, xc_OtherPeople, ki_OtherPeople, hd_NoPeople, xc_NoPeople, ki_NoPeople, s_OtherPeople_OtherPeople, s_NoPeople_OtherPeople, s_NoPeople_NoPeople, C_Book, C_RawBook, na_Book_lots, na_Book_masks, na_Book_people, na_RawBook_lots, na_RawBook_masks, na_RawBook_people, is_Book_Book, is_RawBook_Book, ⟨d_Book_keep, F_Book_keep, b_Book_keep⟩, fn_Book_keep, ⟨d_RawBook___init__, F_RawBook___init__, b_RawBook___init__⟩, fn_RawBook___init__, ⟨d_Book___init__, F_Book___init__, b_Book___init__⟩, fn_Book___init__, ⟨d_Book___eq__, F_Book___eq__, b_Book___eq__⟩, fn_Book___eq__, at_Book___init__, at_Book_keep, at_RawBook___eq__, at_RawBook___init__, at_RawBook_keep⟩ := (by
      refine' LW.excs_mk KX Gn ?qe64 ?qe69 ?qe74 ?qe79 ?qe84 ?qe108 ?qe119 ?qe154 ?qe155 ?qe156 ?qe157 ?qe158 ?qe65 ?qe66 ?qe67 ?qe68 ?qe70 ?qe71 ?qe72 ?qe73 ?qe75 ?qe76 ?qe77 ?qe78 ?qe80 ?qe81 ?qe82 ?qe83 ?qe85 ?qe86 ?qe87 ?qe88 ?qe89 ?qe90 ?qe91 ?qe92 ?qe93 ?qe94 ?qe95 ?qe96 ?qe97 ?qe98 ?qe99 ?qe100 ?qe101 ?qe102 ?qe103 ?qe104 ?qe105 ?qe106 ?qe107 ?qe109 ?qe110 ?qe111 ?qe112 ?qe113 ?qe114 ?qe115 ?qe116 ?qe117 ?qe118 ?qe120 ?qe121 ?qe122 ?qe123 ?qe124 ?qe125 ?qe126 ?qe127 ?qe128 ?qe129 ?qe130 ?qe131 ?qe132 ?qe133 ?qe134 ?qe135 ?qe136 ?qe137 ?qe138 ?qe139 ?qe140 ?qe141 ?qe142 ?qe143 ?qe144 ?qe145 ?qe146 ?qe147 ?qe148 ?qe149 ?qe150 ?qe151 ?qe152 ?qe153
      (case qe64 => k_is)
      (case qe69 => k_is)
      (case qe74 => k_is)
      (case qe79 => k_is)
      (case qe84 => k_is)
      (case qe108 => k_is)
      (case qe119 => k_is)
      (case qe154 => k_is)
      (case qe155 => k_is)
      (case qe156 => k_is)
      (case qe157 => k_is)
      (case qe158 => k_is)
      (case qe65 => k_exc)
      (case qe66 => k_is)
      (case qe67 => k_is)
      (case qe68 => k_is)
      (case qe70 => k_exc)
      (case qe71 => k_is)
      (case qe72 => k_is)
      (case qe73 => k_is)
      (case qe75 => k_exc)
      (case qe76 => k_is)
      (case qe77 => k_is)
      (case qe78 => k_is)
      (case qe80 => k_exc)
      (case qe81 => k_is)
      (case qe82 => k_is)
      (case qe83 => k_is)
      (case qe85 => k_is)
      (case qe86 => k_is)
      (case qe87 => k_is)
      (case qe88 => k_is)
      (case qe89 => k_is)
      (case qe90 => k_is)
      (case qe91 => k_is)
      (case qe92 => k_is)
      (case qe93 => k_is)
      (case qe94 => kernel_rfl)
      (case qe95 => k_is)
      (case qe96 => k_is)
      (case qe97 => k_is)
      (case qe98 => k_is)
      (case qe99 => k_is)
      (case qe100 => k_is)
      (case qe101 => k_is)
      (case qe102 => k_is)
      (case qe103 => k_is)
      (case qe104 => kernel_rfl)
      (case qe105 => k_is)
      (case qe106 => k_is)
      (case qe107 => k_is)
      (case qe109 => k_is)
      (case qe110 => k_is)
      (case qe111 => k_is)
      (case qe112 => k_is)
      (case qe113 => k_is)
      (case qe114 => k_is)
      (case qe115 => k_is)
      (case qe116 => k_is)
      (case qe117 => k_is)
      (case qe118 => k_is)
      (case qe120 => k_is)
      (case qe121 => k_is)
      (case qe122 => k_is)
      (case qe123 => k_is)
      (case qe124 => k_is)
      (case qe125 => k_is)
      (case qe126 => k_is)
      (case qe127 => k_is)
      (case qe128 => k_is)
      (case qe129 => k_is)
      (case qe130 => k_is)
      (case qe131 => k_is)
      (case qe132 => k_is)
      (case qe133 => k_is)
      (case qe134 => k_is)
      (case qe135 => k_is)
      (case qe136 => kernel_rfl)
      (case qe137 => kernel_rfl)
      (case qe138 => k_is)
      (case qe139 => k_is)
      (case qe140 => k_is)
      (case qe141 => k_is)
      (case qe142 => k_is)
      (case qe143 => k_is)
      (case qe144 => k_is)
      (case qe145 => k_is)
      (case qe146 => k_is)
      (case qe147 => k_is)
      (case qe148 => k_is)
      (case qe149 => k_is)
      (case qe150 => k_is)
      (case qe151 => k_is)
      (case qe152 => k_is)
      (case qe153 => k_is))
    let T : LW.Facts _ mg := { a_is_integer := F_is_integer.a, d_is_integer := F_is_integer.d, F_is_integer := F_is_integer.F, b_is_integer := F_is_integer.b, g_is_integer := F_is_integer.g, k_is_integer := F_is_integer.F.kp, a_is_within := F_is_within.a, d_is_within := F_is_within.d, F_is_within := F_is_within.F, b_is_within := F_is_within.b, g_is_within := F_is_within.g, k_is_within := F_is_within.F.kp, a_is_listed := F_is_listed.a, d_is_listed := F_is_listed.d, F_is_listed := F_is_listed.F, b_is_listed := F_is_listed.b, g_is_listed := F_is_listed.g, k_is_listed := F_is_listed.F.kp, a_are_ascending := F_are_ascending.a, d_are_ascending := F_are_ascending.d, F_are_ascending := F_are_ascending.F, b_are_ascending := F_are_ascending.b, g_are_ascending := F_are_ascending.g, k_are_ascending := F_are_ascending.F.kp, a_are_persons := F_are_persons.a, d_are_persons := F_are_persons.d, F_are_persons := F_are_persons.F, b_are_persons := F_are_persons.b, g_are_persons := F_are_persons.g, k_are_persons := F_are_persons.F.kp, a_is_crowd := F_is_crowd.a, d_is_crowd := F_is_crowd.d, F_is_crowd := F_is_crowd.F, b_is_crowd := F_is_crowd.b, g_is_crowd := F_is_crowd.g, k_is_crowd := F_is_crowd.F.kp, a_is_lot := F_is_lot.a, d_is_lot := F_is_lot.d, F_is_lot := F_is_lot.F, b_is_lot := F_is_lot.b, g_is_lot := F_is_lot.g, k_is_lot := F_is_lot.F.kp, a_check_crowd := F_check_crowd.a, d_check_crowd := F_check_crowd.d, F_check_crowd := F_check_crowd.F, b_check_crowd := F_check_crowd.b, g_check_crowd := F_check_crowd.g, k_check_crowd := F_check_crowd.F.kp, a_check_people := F_check_people.a, d_check_people := F_check_people.d, F_check_people := F_check_people.F, b_check_people := F_check_people.b, g_check_people := F_check_people.g, k_check_people := F_check_people.F.kp, a_check_many := F_check_many.a, d_check_many := F_check_many.d, F_check_many := F_check_many.F, b_check_many := F_check_many.b, g_check_many := F_check_many.g, k_check_many := F_check_many.F.kp, a_bits_of := F_bits_of.a, d_bits_of := F_bits_of.d, F_bits_of := F_bits_of.F, b_bits_of := F_bits_of.b, g_bits_of := F_bits_of.g, k_bits_of := F_bits_of.F.kp, a_crowd_of := F_crowd_of.a, d_crowd_of := F_crowd_of.d, F_crowd_of := F_crowd_of.F, b_crowd_of := F_crowd_of.b, g_crowd_of := F_crowd_of.g, k_crowd_of := F_crowd_of.F.kp, a_size_of := F_size_of.a, d_size_of := F_size_of.d, F_size_of := F_size_of.F, b_size_of := F_size_of.b, g_size_of := F_size_of.g, k_size_of := F_size_of.F.kp, a_holds := F_holds.a, d_holds := F_holds.d, F_holds := F_holds.F, b_holds := F_holds.b, g_holds := F_holds.g, k_holds := F_holds.F.kp, a_all_of := F_all_of.a, d_all_of := F_all_of.d, F_all_of := F_all_of.F, b_all_of := F_all_of.b, g_all_of := F_all_of.g, k_all_of := F_all_of.F.kp, a_first_wrong_lot := F_first_wrong_lot.a, d_first_wrong_lot := F_first_wrong_lot.d, F_first_wrong_lot := F_first_wrong_lot.F, b_first_wrong_lot := F_first_wrong_lot.b, g_first_wrong_lot := F_first_wrong_lot.g, k_first_wrong_lot := F_first_wrong_lot.F.kp, a_is_clear_bits := F_is_clear_bits.a, d_is_clear_bits := F_is_clear_bits.d, F_is_clear_bits := F_is_clear_bits.F, b_is_clear_bits := F_is_clear_bits.b, g_is_clear_bits := F_is_clear_bits.g, k_is_clear_bits := F_is_clear_bits.F.kp, a_minimal := F_minimal.a, d_minimal := F_minimal.d, F_minimal := F_minimal.F, b_minimal := F_minimal.b, g_minimal := F_minimal.g, k_minimal := F_minimal.F.kp, a_Book_keep := y_Book_keep, d_Book_keep := d_Book_keep, F_Book_keep := F_Book_keep, b_Book_keep := b_Book_keep, fn_Book_keep := fn_Book_keep, a_RawBook___init__ := y_RawBook___init__, d_RawBook___init__ := d_RawBook___init__, F_RawBook___init__ := F_RawBook___init__, b_RawBook___init__ := b_RawBook___init__, fn_RawBook___init__ := fn_RawBook___init__, a_made_of := F_made_of.a, d_made_of := F_made_of.d, F_made_of := F_made_of.F, b_made_of := F_made_of.b, g_made_of := F_made_of.g, k_made_of := F_made_of.F.kp, a_book_of := F_book_of.a, d_book_of := F_book_of.d, F_book_of := F_book_of.F, b_book_of := F_book_of.b, g_book_of := F_book_of.g, k_book_of := F_book_of.F.kp, a_check_same_gaps := F_check_same_gaps.a, d_check_same_gaps := F_check_same_gaps.d, F_check_same_gaps := F_check_same_gaps.F, b_check_same_gaps := F_check_same_gaps.b, g_check_same_gaps := F_check_same_gaps.g, k_check_same_gaps := F_check_same_gaps.F.kp, a_unlike_bits := F_unlike_bits.a, d_unlike_bits := F_unlike_bits.d, F_unlike_bits := F_unlike_bits.F, b_unlike_bits := F_unlike_bits.b, g_unlike_bits := F_unlike_bits.g, k_unlike_bits := F_unlike_bits.F.kp, a_unlike_crowds := F_unlike_crowds.a, d_unlike_crowds := F_unlike_crowds.d, F_unlike_crowds := F_unlike_crowds.F, b_unlike_crowds := F_unlike_crowds.b, g_unlike_crowds := F_unlike_crowds.g, k_unlike_crowds := F_unlike_crowds.F.kp, a_gap := F_gap.a, d_gap := F_gap.d, F_gap := F_gap.F, b_gap := F_gap.b, g_gap := F_gap.g, k_gap := F_gap.F.kp, a_is_finer := F_is_finer.a, d_is_finer := F_is_finer.d, F_is_finer := F_is_finer.F, b_is_finer := F_is_finer.b, g_is_finer := F_is_finer.g, k_is_finer := F_is_finer.F.kp, a_lots_of := F_lots_of.a, d_lots_of := F_lots_of.d, F_lots_of := F_lots_of.F, b_lots_of := F_lots_of.b, g_lots_of := F_lots_of.g, k_lots_of := F_lots_of.F.kp, a_goes_beside := F_goes_beside.a, d_goes_beside := F_goes_beside.d, F_goes_beside := F_goes_beside.F, b_goes_beside := F_goes_beside.b, g_goes_beside := F_goes_beside.g, k_goes_beside := F_goes_beside.F.kp, a_count_from := F_count_from.a, d_count_from := F_count_from.d, F_count_from := F_count_from.F, b_count_from := F_count_from.b, g_count_from := F_count_from.g, k_count_from := F_count_from.F.kp, a_books_in_all := F_books_in_all.a, d_books_in_all := F_books_in_all.d, F_books_in_all := F_books_in_all.F, b_books_in_all := F_books_in_all.b, g_books_in_all := F_books_in_all.g, k_books_in_all := F_books_in_all.F.kp, a_least_of := F_least_of.a, d_least_of := F_least_of.d, F_least_of := F_least_of.F, b_least_of := F_least_of.b, g_least_of := F_least_of.g, k_least_of := F_least_of.F.kp, a_book_with := F_book_with.a, d_book_with := F_book_with.d, F_book_with := F_book_with.F, b_book_with := F_book_with.b, g_book_with := F_book_with.g, k_book_with := F_book_with.F.kp, a_left_out := F_left_out.a, d_left_out := F_left_out.d, F_left_out := F_left_out.F, b_left_out := F_left_out.b, g_left_out := F_left_out.g, k_left_out := F_left_out.F.kp, a_check_same_twobooks := F_check_same_twobooks.a, d_check_same_twobooks := F_check_same_twobooks.d, F_check_same_twobooks := F_check_same_twobooks.F, b_check_same_twobooks := F_check_same_twobooks.b, g_check_same_twobooks := F_check_same_twobooks.g, k_check_same_twobooks := F_check_same_twobooks.F.kp, a_both := F_both.a, d_both := F_both.d, F_both := F_both.F, b_both := F_both.b, g_both := F_both.g, k_both := F_both.F.kp, a_either := F_either.a, d_either := F_either.d, F_either := F_either.F, b_either := F_either.b, g_either := F_either.g, k_either := F_either.F.kp, a__law_hand := F__law_hand.a, d__law_hand := F__law_hand.d, F__law_hand := F__law_hand.F, b__law_hand := F__law_hand.b, g__law_hand := F__law_hand.g, k__law_hand := F__law_hand.F.kp, a__law_draw := F__law_draw.a, d__law_draw := F__law_draw.d, F__law_draw := F__law_draw.F, b__law_draw := F__law_draw.b, g__law_draw := F__law_draw.g, k__law_draw := F__law_draw.F.kp, a__law_any := F__law_any.a, d__law_any := F__law_any.d, F__law_any := F__law_any.F, b__law_any := F__law_any.b, g__law_any := F__law_any.g, k__law_any := F__law_any.F.kp, a__law_crowds := F__law_crowds.a, d__law_crowds := F__law_crowds.d, F__law_crowds := F__law_crowds.F, b__law_crowds := F__law_crowds.b, g__law_crowds := F__law_crowds.g, k__law_crowds := F__law_crowds.F.kp, a__law_is_clear := F__law_is_clear.a, d__law_is_clear := F__law_is_clear.d, F__law_is_clear := F__law_is_clear.F, b__law_is_clear := F__law_is_clear.b, g__law_is_clear := F__law_is_clear.g, k__law_is_clear := F__law_is_clear.F.kp, a__law_of := F__law_of.a, d__law_of := F__law_of.d, F__law_of := F__law_of.F, b__law_of := F__law_of.b, g__law_of := F__law_of.g, k__law_of := F__law_of.F.kp, a__law_books := F__law_books.a, d__law_books := F__law_books.d, F__law_books := F__law_books.F, b__law_books := F__law_books.b, g__law_books := F__law_books.g, k__law_books := F__law_books.F.kp, a__law_word := F__law_word.a, d__law_word := F__law_word.d, F__law_word := F__law_word.F, b__law_word := F__law_word.b, g__law_word := F__law_word.g, k__law_word := F__law_word.F.kp, a_Book___init__ := y_Book___init__, d_Book___init__ := d_Book___init__, F_Book___init__ := F_Book___init__, b_Book___init__ := b_Book___init__, fn_Book___init__ := fn_Book___init__, a_Book___eq__ := y_Book___eq__, d_Book___eq__ := d_Book___eq__, F_Book___eq__ := F_Book___eq__, b_Book___eq__ := b_Book___eq__, fn_Book___eq__ := fn_Book___eq__, a_law := F_law.a, d_law := F_law.d, F_law := F_law.F, b_law := F_law.b, g_law := F_law.g, k_law := F_law.F.kp, z_abs := z_abs, z_all := z_all, z_any := z_any, z_bool := z_bool, z_enumerate := z_enumerate, z_int := z_int, z_isinstance := z_isinstance, z_len := z_len, z_list := z_list, z_range := z_range, z_sorted := z_sorted, z_sum := z_sum, z_tuple := z_tuple, t_MOST_COUNTED := t_MOST_COUNTED, c_MOST_COUNTED := c_MOST_COUNTED, t_MOST_HEAPS := t_MOST_HEAPS, c_MOST_HEAPS := c_MOST_HEAPS, t_MOST_LOTS := t_MOST_LOTS, c_MOST_LOTS := c_MOST_LOTS, t_MOST_PEOPLE := t_MOST_PEOPLE, c_MOST_PEOPLE := c_MOST_PEOPLE, x_NoCrowd := x_NoCrowd, e_NoCrowd := e_NoCrowd, x_NoHeaps := x_NoHeaps, e_NoHeaps := e_NoHeaps, x_NoPeople := x_NoPeople, e_NoPeople := e_NoPeople, x_OtherPeople := x_OtherPeople, e_OtherPeople := e_OtherPeople, x_LotError := x_LotError, g_LotError := g_LotError, hd_OtherPeople := hd_OtherPeople, xc_OtherPeople := xc_OtherPeople, ki_OtherPeople := ki_OtherPeople, hd_NoPeople := hd_NoPeople, xc_NoPeople := xc_NoPeople, ki_NoPeople := ki_NoPeople, s_OtherPeople_OtherPeople := s_OtherPeople_OtherPeople, s_NoPeople_OtherPeople := s_NoPeople_OtherPeople, s_NoPeople_NoPeople := s_NoPeople_NoPeople, A_Book := x_Book, C_Book := C_Book, A_RawBook := x_RawBook, C_RawBook := C_RawBook, at_Book___init__ := at_Book___init__, at_Book_keep := at_Book_keep, at_RawBook___eq__ := at_RawBook___eq__, at_RawBook___init__ := at_RawBook___init__, at_RawBook_keep := at_RawBook_keep, na_Book_lots := na_Book_lots, na_Book_masks := na_Book_masks, na_Book_people := na_Book_people, na_RawBook_lots := na_RawBook_lots, na_RawBook_masks := na_RawBook_masks, na_RawBook_people := na_RawBook_people, is_Book_Book := is_Book_Book, is_RawBook_Book := is_RawBook_Book, cc__law_crowds := F__law_crowds.c, tt__law_crowds := F__law_crowds.P, cd__law_crowds := F__law_crowds.hc, cc_law := F_law.c, tt_law := F_law.P, cd_law := F_law.hc }
    refine Sim.end_mk (n := "law") F_law.toFunF hmg [(F__law_crowds.c, F__law_crowds.P, ("_law_crowds" : Str) ++ ".<locals>." ++ "<lambda>"), (F_law.c, F_law.P, ("law" : Str) ++ ".<locals>." ++ "<lambda>")] (List.forall_mem_cons.mpr ⟨F__law_crowds.e, List.forall_mem_cons.mpr ⟨F_law.e, fun p hp => nomatch hp⟩⟩) (List.forall_mem_cons.mpr ⟨F__law_crowds.n, List.forall_mem_cons.mpr ⟨F_law.n, fun p hp => nomatch hp⟩⟩) (List.forall_mem_cons.mpr ⟨F__law_crowds.C, List.forall_mem_cons.mpr ⟨F_law.C, fun p hp => nomatch hp⟩⟩) fun base b1 b2 b3 => ?_
    letI I : Sim.TabT := ⟨([(F__law_crowds.c, F__law_crowds.P, ("_law_crowds" : Str) ++ ".<locals>." ++ "<lambda>"), (F_law.c, F_law.P, ("law" : Str) ++ ".<locals>." ++ "<lambda>")] : List (Addr × Addr × Str)).map (·.2)⟩
    have ne_law__law_crowds : F_law.P ≠ F__law_crowds.P := by unfold Sim.FunLP.P; decide
    have u__law_crowds : ∀ p ∈ I.T, p.1 = F__law_crowds.P → p.2 = ("_law_crowds" : Str) ++ ".<locals>." ++ "<lambda>" := by
      intro p hp z
      rcases List.mem_cons.mp hp with e | hp
      · rw [e]
      rcases List.mem_cons.mp hp with e | hp
      · exact absurd (z.symm.trans (congrArg Prod.fst e)).symm ne_law__law_crowds
      cases hp
    have u_law : ∀ p ∈ I.T, p.1 = F_law.P → p.2 = ("law" : Str) ++ ".<locals>." ++ "<lambda>" := by
      intro p hp z
      rcases List.mem_cons.mp hp with e | hp
      · exact absurd (z.symm.trans (congrArg Prod.fst e)) ne_law__law_crowds
      rcases List.mem_cons.mp hp with e | hp
      · rw [e]
      cases hp
    have B : LW.TBs T base := { tb__law_crowds := b3 _ (List.mem_cons_self), m__law_crowds := List.mem_cons_self, u__law_crowds := u__law_crowds, tb_law := b3 _ (List.mem_cons_of_mem _ (List.mem_cons_self)), m_law := List.mem_cons_of_mem _ (List.mem_cons_self), u_law := u_law }
    exact LW.ok_law (P := _) (w := w) (base := base) T B
