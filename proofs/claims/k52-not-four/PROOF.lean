import PyProof.Rows.All
import Wide.All
import OpenK.AllK
import Wide.FinOn
import HandS.ForExc
import HandS.ForMost
import HandS.Wide
import HandS.TupSets
import HandS.IsInst
import HandS.Deep
import HandS.Zip
import HandS.Rev
import HandS.Exc
import HandS.ExcOwn
import HandS.ExcIs
import KE.KExcLine
import HandS.TryOnly
import HandS.WordsExc
import HandS.Conv
import KE.KSortTupG
import HandS.DictTup
import PySem.Challenge.RW_deepspot_k52_not_four
set_option Elab.async false
set_option linter.all false
set_option maxRecDepth 100000
/-! Ev: data as values, and how they lie in the abstract heap. -/
namespace Ev
open PySem PySem.Spec PyProof.Rows L2

/-- data: values with their contents; scr: the locked list of ints that the law is given; exc: a caught error of the class c -/
inductive D where
  | non | bl (b : Bool) | int (i : Int) | str (s : Str) | tup (xs : List D) | lst (xs : List D) | scr (ns : List Int) | exc (c : Nat)
/-- the program's classes of errors -/
def xNames : List Str := ["SpotError", "NoNumber", "NoHalf", "NoPoints", "NoDepth", "NotFour"]
def xName (c : Nat) : Str := xNames.getD c ""
/-- where the class c stands -/
def clsA (K : PySem.W.Frag) (c : Nat) : Option Addr := match PySem.W.nsIn K mainGlobals (xName c) with
  | some (some (.ref C)) => some C
  | _ => none
/-- an error of the class cls, once raised and caught, at a -/
def ExV (cls : Value) (a : Addr) : HO := .ext fun h => ∃ (oe : Obj) (vs : Array Value), h.get? a = some oe ∧ Zc cls none oe ∧ oe.data = .fields vs

abbrev AS := Addr → Prop
/-- a list of the written part -/
def KL (K : PySem.W.Frag) (a : Addr) (xs : List V) : Prop :=
  ∃ (o : Obj) (its : Array Value) (n : Nat), K.lookup a = some o ∧ o.cls = .type "list" ∧ o.dict = none ∧ o.data = .seq its n ∧ its.size ≤ sizeLine ∧ Vals xs its.toList
mutual
/-- v stands for d; no address of it is in O -/
def Rp (K : PySem.W.Frag) (O : AS) (H : Hp) : D → V → Prop
  | .non, v => v = .non
  | .bl b, v => v = .bl b
  | .int i, v => v = .int i
  | .str s, v => v = .str s
  | .tup ds, v => ∃ a vs, v = .ref a ∧ ¬ O a ∧ H a = some (.tup vs) ∧ Rps K O H ds vs
  | .lst ds, v => ∃ a vs, v = .ref a ∧ ¬ O a ∧ H a = some (.lst vs) ∧ Rps K O H ds vs
  | .scr ns, v => ∃ a, v = .ref a ∧ ((¬ O a ∧ ∃ o, H a = some (.frz o (.lst (ns.map V.int)))) ∨ KL K a (ns.map V.int))
  | .exc c, v => ∃ a C, v = .ref a ∧ ¬ O a ∧ clsA K c = some C ∧ H a = some (ExV (.ref C) a)
def Rps (K : PySem.W.Frag) (O : AS) (H : Hp) : List D → List V → Prop
  | [], vs => vs = []
  | d :: ds, vs => ∃ v vr, vs = v :: vr ∧ Rp K O H d v ∧ Rps K O H ds vr
end

/-- from (O, H) to (O', H'): what is tracked and not in O stays; what is new in O' is a new address -/
structure Nxt (O : AS) (H : Hp) (O' : AS) (H' : Hp) : Prop where
  keep : ∀ b o, ¬ O b → H b = some o → H' b = some o
  own : ∀ a, O' a → O a ∨ H a = none
theorem Nxt.refl (O : AS) (H : Hp) : Nxt O H O H := ⟨fun _ _ _ h => h, fun _ h => .inl h⟩
theorem Nxt.trans {O O1 O2 : AS} {H H1 H2 : Hp} (a : Nxt O H O1 H1) (b : Nxt O1 H1 O2 H2) : Nxt O H O2 H2 := by
  refine ⟨fun c o n h => ?_, fun c h => ?_⟩
  · have h1 := a.keep c o n h
    refine b.keep c o (fun z => ?_) h1
    rcases a.own c z with z | z
    · exact n z
    · rw [h] at z; cases z
  · by_cases z : O c
    · exact .inl z
    · rcases b.own c h with y | y
      · exact a.own c y
      · refine .inr ?_
        cases e : H c with
        | none => rfl
        | some o => rw [a.keep c o z e] at y; cases y
theorem Nxt.same {O : AS} {H H' : Hp} (s : Same H H') : Nxt O H O H' := ⟨fun b o _ h => s b o h, fun _ h => .inl h⟩
theorem Nxt.less {O O' : AS} {H : Hp} (s : ∀ a, O' a → O a) : Nxt O H O' H := ⟨fun _ _ _ h => h, fun a h => .inl (s a h)⟩

section
variable {K : PySem.W.Frag} {O O' : AS} {H H' : Hp}
theorem Nxt.not {a : Addr} {o : HO} (n : Nxt O H O' H') (hO : ¬ O a) (h : H a = some o) : ¬ O' a := fun z => by
  rcases n.own a z with z | z
  · exact hO z
  · rw [h] at z; cases z
mutual
theorem Rp.nxt (n : Nxt O H O' H') : ∀ (d : D) (v : V), Rp K O H d v → Rp K O' H' d v
  | .non, _, h => h
  | .bl _, _, h => h
  | .int _, _, h => h
  | .str _, _, h => h
  | .tup ds, v, ⟨a, vs, e, hO, hh, hs⟩ => ⟨a, vs, e, n.not hO hh, n.keep _ _ hO hh, Rps.nxt n ds vs hs⟩
  | .lst ds, v, ⟨a, vs, e, hO, hh, hs⟩ => ⟨a, vs, e, n.not hO hh, n.keep _ _ hO hh, Rps.nxt n ds vs hs⟩
  | .scr ns, v, ⟨a, e, hs⟩ => ⟨a, e, hs.imp (fun ⟨hO, o, h⟩ => ⟨n.not hO h, o, n.keep _ _ hO h⟩) id⟩
  | .exc c, v, ⟨a, C, e, hO, hc, h⟩ => ⟨a, C, e, n.not hO h, hc, n.keep _ _ hO h⟩
theorem Rps.nxt (n : Nxt O H O' H') : ∀ (ds : List D) (vs : List V), Rps K O H ds vs → Rps K O' H' ds vs
  | [], _, h => h
  | d :: ds, vs, ⟨v, vr, e, h1, h2⟩ => ⟨v, vr, e, Rp.nxt n d v h1, Rps.nxt n ds vr h2⟩
end
theorem Rps.len : ∀ {ds : List D} {vs : List V}, Rps K O H ds vs → vs.length = ds.length
  | [], _, h => by rw [show _ = [] from h]; rfl
  | d :: ds, vs, ⟨v, vr, e, _, h2⟩ => by rw [e, List.length_cons, List.length_cons, Rps.len h2]
theorem Rps.get : ∀ {ds : List D} {vs : List V} {i : Nat} {d : D}, Rps K O H ds vs → ds[i]? = some d → ∃ v, vs[i]? = some v ∧ Rp K O H d v
  | [], _, _, _, _, h => by simp at h
  | d :: ds, vs, 0, _, ⟨v, vr, e, h1, _⟩, h => by
    simp at h; subst h; exact ⟨v, by rw [e]; rfl, h1⟩
  | d :: ds, vs, i + 1, _, ⟨v, vr, e, _, h2⟩, h => by
    obtain ⟨u, h3, h4⟩ := Rps.get h2 (i := i) (by simpa using h)
    exact ⟨u, by rw [e]; simpa using h3, h4⟩
theorem Rps.getv : ∀ {ds : List D} {vs : List V} {i : Nat} {v : V}, Rps K O H ds vs → vs[i]? = some v → ∃ d, ds[i]? = some d ∧ Rp K O H d v := fun {ds vs i v} h e => by
  have hl := h.len
  obtain ⟨hi, _⟩ := List.getElem?_eq_some_iff.mp e
  have : i < ds.length := by omega
  obtain ⟨u, h1, h2⟩ := h.get (List.getElem?_eq_getElem this)
  rw [h1] at e; cases e
  exact ⟨_, List.getElem?_eq_getElem this, h2⟩
theorem Rps.app : ∀ {ds es : List D} {vs ws : List V}, Rps K O H ds vs → Rps K O H es ws → Rps K O H (ds ++ es) (vs ++ ws)
  | [], _, _, _, h, g => by rw [show _ = [] from h]; exact g
  | d :: ds, _, _, _, ⟨v, vr, e, h1, h2⟩, g => by rw [e]; exact ⟨v, _, rfl, h1, h2.app g⟩
theorem Rps.one {d : D} {v : V} (h : Rp K O H d v) : Rps K O H [d] [v] := ⟨v, [], rfl, h, rfl⟩
theorem Rps.drop : ∀ {ds : List D} {vs : List V} (n : Nat), Rps K O H ds vs → Rps K O H (ds.drop n) (vs.drop n)
  | _, _, 0, h => h
  | [], _, n + 1, h => by rw [show _ = [] from h]; exact rfl
  | d :: ds, _, n + 1, ⟨v, vr, e, h1, h2⟩ => by rw [e]; exact h2.drop n
theorem Rps.take : ∀ {ds : List D} {vs : List V} (n : Nat), Rps K O H ds vs → Rps K O H (ds.take n) (vs.take n)
  | _, _, 0, h => rfl
  | [], _, n + 1, h => by rw [show _ = [] from h]; exact rfl
  | d :: ds, _, n + 1, ⟨v, vr, e, h1, h2⟩ => by rw [e]; exact ⟨v, _, rfl, h1, h2.take n⟩
theorem Rps.set : ∀ {ds : List D} {vs : List V} (i : Nat) {d : D} {v : V}, Rps K O H ds vs → Rp K O H d v → Rps K O H (ds.set i d) (vs.set i v)
  | [], _, _, _, _, h, _ => by rw [show _ = [] from h]; exact rfl
  | d :: ds, _, 0, _, _, ⟨v, vr, e, h1, h2⟩, g => by rw [e]; exact ⟨_, _, rfl, g, h2⟩
  | d :: ds, _, i + 1, _, _, ⟨v, vr, e, h1, h2⟩, g => by rw [e]; exact ⟨_, _, rfl, h1, h2.set i g⟩
theorem Rps.rev {ds : List D} {vs : List V} (h : Rps K O H ds vs) : Rps K O H ds.reverse vs.reverse := by
  induction ds generalizing vs with
  | nil => rw [show vs = [] from h]; exact rfl
  | cons d ds ih =>
    obtain ⟨v, vr, e, h1, h2⟩ := h
    rw [e, List.reverse_cons, List.reverse_cons]
    exact (ih h2).app (.one h1)
theorem Rps.dropLast {ds : List D} {vs : List V} (h : Rps K O H ds vs) : Rps K O H ds.dropLast vs.dropLast := by
  rw [List.dropLast_eq_take, List.dropLast_eq_take, h.len]; exact h.take _
theorem Rps.ints : ∀ {ns : List Int} {vs : List V}, Rps K O H (ns.map D.int) vs → vs = ns.map V.int
  | [], _, h => h
  | n :: ns, _, ⟨v, vr, e, h1, h2⟩ => by rw [e, show v = .int n from h1, h2.ints]; rfl
theorem Rps.ofInts : ∀ (ns : List Int), Rps K O H (ns.map D.int) (ns.map V.int)
  | [] => rfl
  | n :: ns => ⟨_, _, rfl, rfl, Rps.ofInts ns⟩

/-! ### data as the library's data -/
mutual
def toPy : D → PyData
  | .non => .none
  | .bl b => .bool b
  | .int i => .int i
  | .str s => .str s
  | .tup ds => .tuple (toPys ds)
  | .lst ds => .list (toPys ds)
  | .scr ns => .list (ns.map PyData.int)
  | .exc _ => .none
def toPys : List D → List PyData
  | [] => []
  | d :: ds => toPy d :: toPys ds
end
mutual
/-- no error within -/
def noX : D → Bool
  | .exc _ => false
  | .tup ds => noXs ds
  | .lst ds => noXs ds
  | _ => true
def noXs : List D → Bool
  | [] => true
  | d :: ds => noX d && noXs ds
end
theorem DpAll.ints : ∀ (ns : List Int), DpAll K H (ns.map V.int) (ns.map PyData.int)
  | [] => .nil
  | n :: ns => .cons (.int n) (DpAll.ints ns)
mutual
theorem Rp.dp : ∀ (d : D) (v : V), noX d = true → Rp K O H d v → Dp K H v (toPy d)
  | .non, _, _, h => by rw [show _ = V.non from h, toPy]; exact .non
  | .bl b, _, _, h => by rw [show _ = V.bl b from h, toPy]; exact .bl b
  | .int i, _, _, h => by rw [show _ = V.int i from h, toPy]; exact .int i
  | .str s, _, _, h => by rw [show _ = V.str s from h, toPy]; exact .str s
  | .tup ds, _, x, ⟨a, vs, e, _, hh, hs⟩ => by rw [e, toPy]; exact .tup (SqT.of hh) (Rps.dp ds vs (by rw [noX] at x; exact x) hs)
  | .lst ds, _, x, ⟨a, vs, e, _, hh, hs⟩ => by rw [e, toPy]; exact .lst (SqL.of hh) (Rps.dp ds vs (by rw [noX] at x; exact x) hs)
  | .scr ns, _, _, ⟨a, e, hs⟩ => by rw [e, toPy]; exact .lst (hs.elim (fun ⟨_, o, h⟩ => .inl (.inr ⟨o, h⟩)) .inr) (DpAll.ints ns)
  | .exc _, _, x, _ => by simp [noX] at x
theorem Rps.dp : ∀ (ds : List D) (vs : List V), noXs ds = true → Rps K O H ds vs → DpAll K H vs (toPys ds)
  | [], _, _, h => by rw [show _ = [] from h, toPys]; exact .nil
  | d :: ds, _, x, ⟨v, vr, e, h1, h2⟩ => by
    rw [noXs, Bool.and_eq_true] at x
    rw [e, toPys]; exact .cons (Rp.dp d v x.1 h1) (Rps.dp ds vr x.2 h2)
end
end

/-! ### the slots of a def, and what a value is known to be -/
/-- ex: no value, but an error let out -/
inductive M where | sh | fr | bo | ex
  deriving DecidableEq
inductive Sl where
  | no | sh (d : D) | ow (ds : List D)
abbrev Env' := List Sl
/-- the value v of mode m, made between H and H' -/
def Rm (K : PySem.W.Frag) (O : AS) (H H' : Hp) : M → D → V → Prop
  | .sh, d, v => Rp K O H' d v
  | .fr, .lst ds, v => ∃ p vs, v = .ref p ∧ H p = none ∧ H' p = some (.lst vs) ∧ Rps K (fun a => O a ∨ a = p) H' ds vs
  | .fr, _, _ => False
  | .bo, .lst ds, v => ∃ a vs, v = .ref a ∧ H' a = some (.lst vs) ∧ Rps K O H' ds vs
  | .bo, _, _ => False
  | .ex, _, _ => False
/-- read alone: a list at its address, or a value -/
def Rb (K : PySem.W.Frag) (O : AS) (H : Hp) : D → V → Prop
  | .lst ds, v => ∃ a vs, v = .ref a ∧ H a = some (.lst vs) ∧ Rps K O H ds vs
  | d, v => Rp K O H d v
end Ev
/-! Ev: the small language and its evaluator. -/
namespace Ev
open PySem PySem.Spec PyProof.Rows L2

inductive Bop where | add | sub | mul | div | mod | pow
  deriving DecidableEq
inductive Cop where | lt | le | gt | ge | eq | ne
  deriving DecidableEq
inductive Bi where | abs | len | int | sum | min | max | list | lrev | sset | srt
  deriving DecidableEq
inductive B2 where | min | max
  deriving DecidableEq
inductive Ty where | int | bool | tuple | list
  deriving DecidableEq
/-- targets: a slot, or a tuple of slots -/
inductive Tg where | one (i : Nat) | many (is : List Nat)
  deriving DecidableEq
mutual
inductive Ex where
  | var (i : Nat) | int (n : Int) | bl (b : Bool) | non | str (s : Str)
  | bin (o : Bop) (a b : Ex) | neg (a : Ex) | cmp (o : Cop) (a b : Ex)
  | isN (a : Ex) | notN (a : Ex) | inn (a b : Ex) | nin (a b : Ex)
  | ands (es : Exs) | ors (es : Exs) | not (a : Ex)
  | tup (es : Exs) | lst (es : Exs)
  | idx (a i : Ex) | slc (a lo hi : Ex)
  | b1 (f : Bi) (a : Ex) | b2 (f : B2) (a b : Ex) | isi (a : Ex) (t : Ty) | maxd (a d : Ex) | cnt (a b : Ex)
  | call (f : Nat) (es : Exs)
  | isx (a : Ex) (cs : List Nat) (many : Bool)
  | comp (elt : Ex) (tg : Tg) (it : Itx) (c : Exs)
inductive Exs where | nil | cons (e : Ex) (es : Exs)
inductive Itx where | ex (e : Ex) | rng (a : Ex) | rng2 (a b : Ex) | zip (a b : Ex) | enum (a : Ex) | rev (a : Ex)
end

/-- what a statement does -/
inductive Out where | nx (g : Env') | rt (m : M) (d : D) | ex (c : Nat) (g : Env')
abbrev Rs := Option (M × D)
abbrev Ct := Nat → List D → Rs

def mulOk (i j : Int) : Bool := decide (i.natAbs.log2 + j.natAbs.log2 + 2 ≤ bitsLine)
def divOk (j : Int) : Bool := decide (j ≠ 0 ∧ j.natAbs.log2 < 9000)
def powOk (i j : Int) : Bool := decide (0 ≤ j ∧ j ≤ 1000000 ∧ i.natAbs < 2 ^ 64)
def lenOk (n : Nat) : Bool := decide (n < sizeLine)
def binD : Bop → D → D → Rs
  | .add, .int i, .int j => some (.sh, .int (i + j))
  | .add, .lst xs, .lst ys => if lenOk (xs.length + ys.length) then some (.fr, .lst (xs ++ ys)) else none
  | .sub, .int i, .int j => some (.sh, .int (i - j))
  | .mul, .int i, .int j => if mulOk i j then some (.sh, .int (i * j)) else none
  | .div, .int i, .int j => if divOk j then some (.sh, .int (i.fdiv j)) else none
  | .mod, .int i, .int j => if j ≠ 0 then some (.sh, .int (i.fmod j)) else none
  | .pow, .int i, .int j => if powOk i j then some (.sh, .int (i ^ j.toNat)) else none
  | _, _, _ => none
def eqvD (x y : D) : Bool := PyData.eqv (toPy x) (toPy y)
def shD (x : D) : Bool := noX x && SeqAt.shaped (toPy x)
def cmpD : Cop → D → D → Option Bool
  | .lt, .int i, .int j => some (decide (i < j))
  | .le, .int i, .int j => some (decide (i ≤ j))
  | .gt, .int i, .int j => some (decide (j < i))
  | .ge, .int i, .int j => some (decide (j ≤ i))
  | .eq, x, y => if shD x && shD y then some (eqvD x y) else none
  | .ne, x, y => if shD x && shD y then some (!eqvD x y) else none
  | _, _, _ => none
def isNonD : D → Bool
  | .non => true
  | _ => false
/-- a list's items -/
def asL : D → Option (List D)
  | .lst ds => some ds
  | .scr ns => some (ns.map D.int)
  | _ => none
/-- a list's or a tuple's items -/
def asLT : D → Option (List D)
  | .lst ds => some ds
  | .scr ns => some (ns.map D.int)
  | .tup ds => some ds
  | _ => none
def inD (x : D) : D → Option Bool
  | .lst ds => if shD x && shD (.lst ds) then some (ds.any fun z => eqvD z x) else none
  | _ => none
def cutD {α : Type} (xs : List α) (lo hi : Option Int) : List α := (xs.drop (HT.sIx xs.length 0 lo)).take (HT.sIx xs.length xs.length hi - HT.sIx xs.length 0 lo)
def slcD (x : D) (lo hi : Option Int) : Rs :=
  match x with
  | .lst ds => some (.fr, .lst (cutD ds lo hi))
  | .scr ns => some (.fr, .lst (cutD (ns.map D.int) lo hi))
  | .tup ds => if (cutD ds lo hi).length < ds.length then some (.sh, .tup (cutD ds lo hi)) else none
  | _ => none
def asInt : D → Option Int
  | .int i => some i
  | _ => none
def asBl : D → Option Bool
  | .bl b => some b
  | _ => none
def asInts : List D → Option (List Int)
  | [] => some []
  | d :: ds => do let i ← asInt d; let r ← asInts ds; pure (i :: r)
def lminI : List Int → Option Int
  | [] => none
  | x :: xs => some (xs.foldl min x)
def lmaxI : List Int → Option Int
  | [] => none
  | x :: xs => some (xs.foldl max x)
/-- tuples of d ints each -/
def asRow : D → Option (List Int)
  | .tup ds => asInts ds
  | _ => none
def asRows : List D → Option (List (List Int))
  | [] => some []
  | d :: ds => do let i ← asRow d; let r ← asRows ds; pure (i :: r)
def rowD (r : List Int) : D := .tup (r.map D.int)
def lexLe : List Int → List Int → Bool
  | [], _ => true
  | _ :: _, [] => false
  | x :: xs, y :: ys => decide (x < y) || (decide (x = y) && lexLe xs ys)
def insR (r : List Int) : List (List Int) → List (List Int)
  | [] => [r]
  | x :: xs => if lexLe r x then r :: x :: xs else x :: insR r xs
def sortR : List (List Int) → List (List Int)
  | [] => []
  | x :: xs => insR x (sortR xs)
def dedupR : List (List Int) → List (List Int)
  | [] => []
  | x :: xs => if x ∈ xs then dedupR xs else x :: dedupR xs
def b1D : Bi → D → Rs
  | .abs, .int i => some (.sh, .int (if i < 0 then -i else i))
  | .len, d => (asLT d).map fun ds => (.sh, .int ds.length)
  | .int, .int i => some (.sh, .int i)
  | .int, .bl b => some (.sh, .int (if b then 1 else 0))
  | .sum, d => do let ds ← asL d; let ns ← asInts ds; pure (.sh, .int ns.sum)
  | .min, d => do let ds ← asL d; let ns ← asInts ds; let m ← lminI ns; pure (.sh, .int m)
  | .max, d => do let ds ← asL d; let ns ← asInts ds; let m ← lmaxI ns; pure (.sh, .int m)
  | .list, d => (asLT d).map fun ds => (.fr, .lst ds)
  | .lrev, d => (asL d).map fun ds => (.fr, .lst ds.reverse)
  | .sset, d => do
    let ds ← asL d
    let rs ← asRows ds
    if rs.length < 64 ∧ rs.all (fun r => r.length == 2) then pure (.fr, .lst ((sortR (dedupR rs)).map rowD)) else none
  | _, _ => none
def b2D : B2 → D → D → Rs
  | .max, .int i, .int j => some (.sh, .int (if j > i then j else i))
  | .min, .int i, .int j => some (.sh, .int (if j < i then j else i))
  | _, _, _ => none
/-- of which class an error of the class c is, 6: ValueError -/
def subX (c d : Nat) : Bool := c == d || d == 0 || d == 6
/-- isinstance(error, one of cs) -/
def isxD (cs : List Nat) : D → Option Bool
  | .exc c => if c < 6 then some (cs.any fun d => subX c d) else none
  | _ => none
def isX : D → Bool
  | .exc _ => true
  | _ => false
def isiD : Ty → D → Bool
  | .int, .int _ => true
  | .int, .bl _ => true
  | .bool, .bl _ => true
  | .tuple, .tup _ => true
  | .list, .lst _ => true
  | .list, .scr _ => true
  | _, _ => false
def storable : M × D → Option D
  | (.bo, _) => none
  | (.ex, _) => none
  | (_, d) => some d
def setSl (i : Nat) (s : Sl) (g : Env') : Option Env' := if i < g.length then some (g.set i s) else none
def asgAll : List Nat → List D → Env' → Option Env'
  | [], [], g => some g
  | i :: is, d :: ds, g => do let g1 ← setSl i (.sh d) g; asgAll is ds g1
  | _, _, _ => none
def asg : Tg → D → Env' → Option Env'
  | .one i, d, g => setSl i (.sh d) g
  | .many is, .tup ds, g => asgAll is ds g
  | .many is, .lst ds, g => asgAll is ds g
  | _, _, _ => none
def tgSlots : Tg → List Nat
  | .one i => [i]
  | .many is => is
def wipeE (g : Env') : List Nat → Env'
  | [] => g
  | v :: vs => (wipeE g vs).set v .no
/-- the comprehension's turns -/
def compF (a : D → Env' → Option Env') (c : Env' → Option Bool) (e : Env' → Rs) (g : Env') : List D → List D → Option (List D)
  | [], acc => some acc
  | d :: ds, acc => do
    let g1 ← a d g
    let b ← c g1
    if b then do
      let r ← e g1
      let x ← storable r
      if lenOk acc.length then compF a c e g ds (acc ++ [x]) else none
    else compF a c e g ds acc
def isNonE : Ex → Bool
  | .non => true
  | _ => false
/-- a slice's part -/
def partV (none_ : Bool) (r : Rs) : Option (Option Int) := if none_ then some none else do let y ← r; let i ← asInt y.2; pure (some i)
/-- the instance is chosen: nothing may compute it -/
noncomputable def rngOk (i : Int) : Bool := @decide (-(2 ^ 62) ≤ i ∧ i < 2 ^ 62) (Classical.propDecidable _)
theorem rngOk_some {i : Int} (h : rngOk i = true) : -(2 ^ 62) ≤ i ∧ i < 2 ^ 62 := @of_decide_eq_true _ (Classical.propDecidable _) h
theorem rngOk_small (i : Int) (h : -(2 ^ 62) ≤ i ∧ i < 2 ^ 62) : rngOk i = true := @decide_eq_true _ (Classical.propDecidable _) h
noncomputable section
def rngL (lo : Int) (n : Nat) : List D := (List.range n).map fun (k : Nat) => D.int (lo + (k : Int))
def enumL : Nat → List D → List D
  | _, [] => []
  | i, d :: ds => .tup [.int i, d] :: enumL (i + 1) ds
def zipL : List D → List D → List D
  | x :: xs, y :: ys => .tup [x, y] :: zipL xs ys
  | _, _ => []
/-- a call's error -/
def exOf : Rs → Option Nat
  | some (.ex, .exc c) => some c
  | _ => none
/-- the number that stands in the table of a text with the classes of errors -/
def flagX : Nat := 999999
/-- a call's value -/
def noEx : Rs → Rs
  | some (.ex, _) => none
  | r => r
def itM (m : M) : M := if m = .bo then .bo else .sh
mutual
def evE (ct : Ct) (g : Env') : Ex → Rs
  | .var i => match g[i]? with
    | some (.sh d) => some (.sh, d)
    | some (.ow ds) => some (.bo, .lst ds)
    | _ => none
  | .int n => some (.sh, .int n)
  | .bl b => some (.sh, .bl b)
  | .non => some (.sh, .non)
  | .str s => some (.sh, .str s)
  | .bin o a b => do let x ← evE ct g a; let y ← evE ct g b; binD o x.2 y.2
  | .neg a => do let x ← evE ct g a; let i ← asInt x.2; pure (.sh, .int (-i))
  | .cmp o a b => do let x ← evE ct g a; let y ← evE ct g b; let k ← cmpD o x.2 y.2; pure (.sh, .bl k)
  | .isN a => do let x ← evE ct g a; pure (.sh, .bl (if false then !isNonD x.2 else isNonD x.2))
  | .notN a => do let x ← evE ct g a; pure (.sh, .bl (if true then !isNonD x.2 else isNonD x.2))
  | .inn a b => do let x ← evE ct g a; let y ← evE ct g b; let k ← inD x.2 y.2; pure (.sh, .bl (if false then !k else k))
  | .nin a b => do let x ← evE ct g a; let y ← evE ct g b; let k ← inD x.2 y.2; pure (.sh, .bl (if true then !k else k))
  | .ands es => evAnd ct g es
  | .ors es => evOr ct g es
  | .not a => do let x ← evE ct g a; let k ← asBl x.2; pure (.sh, .bl (!k))
  | .tup es => do let ds ← evs ct g es; if lenOk ds.length then pure (.sh, .tup ds) else none
  | .lst es => do let ds ← evs ct g es; if lenOk ds.length then pure (.fr, .lst ds) else none
  | .idx a i => do let x ← evE ct g a; let y ← evE ct g i; let k ← asInt y.2; let ds ← asLT x.2; let d ← atI ds k; pure (.sh, d)
  | .slc a lo hi => do
    let x ← evE ct g a
    let l ← partV (isNonE lo) (evE ct g lo)
    let h ← partV (isNonE hi) (evE ct g hi)
    slcD x.2 l h
  | .b1 f a => do let x ← evE ct g a; b1D f x.2
  | .b2 f a b => do let x ← evE ct g a; let y ← evE ct g b; b2D f x.2 y.2
  | .isi a t => do let x ← evE ct g a; if isX x.2 then none else pure (.sh, .bl (isiD t x.2))
  | .isx a cs _ => do let _ ← ct flagX []; let x ← evE ct g a; let k ← isxD cs x.2; pure (.sh, .bl k)
  | .maxd a d => do let x ← evE ct g a; let y ← evE ct g d; let ds ← asL x.2; let ns ← asInts ds; let z ← asInt y.2; pure (.sh, .int ((lmaxI ns).getD z))
  | .cnt a b => do let x ← evE ct g a; let y ← evE ct g b; let ds ← asL x.2; if shD (.lst ds) && shD y.2 then pure (.sh, .int ((ds.filter fun z => eqvD z y.2).length : Nat)) else none
  | .call f es => do let ds ← evs ct g es; noEx (ct f ds)
  | .comp e tg it c => do
    let r ← evI ct g it
    let ds ← compF (asg tg) (fun g1 => evC ct g1 c) (fun g1 => evE ct g1 e) (wipeE g (tgSlots tg)) r.2 []
    pure (.fr, .lst ds)
def evAnd (ct : Ct) (g : Env') : Exs → Rs
  | .nil => none
  | .cons e .nil => do let x ← evE ct g e; let k ← asBl x.2; pure (.sh, .bl k)
  | .cons e es => do let x ← evE ct g e; let k ← asBl x.2; if k then evAnd ct g es else pure (.sh, .bl false)
def evOr (ct : Ct) (g : Env') : Exs → Rs
  | .nil => none
  | .cons e .nil => do let x ← evE ct g e; let k ← asBl x.2; pure (.sh, .bl k)
  | .cons e es => do let x ← evE ct g e; let k ← asBl x.2; if k then pure (.sh, .bl true) else evOr ct g es
def evs (ct : Ct) (g : Env') : Exs → Option (List D)
  | .nil => some []
  | .cons e es => do let x ← evE ct g e; let d ← storable x; let ds ← evs ct g es; pure (d :: ds)
/-- a comprehension's tests: none or one -/
def evC (ct : Ct) (g : Env') : Exs → Option Bool
  | .nil => some true
  | .cons e .nil => do let x ← evE ct g e; asBl x.2
  | .cons _ (.cons _ _) => none
def evI (ct : Ct) (g : Env') : Itx → Option (M × List D)
  | .ex e => do let x ← evE ct g e; let ds ← asLT x.2; pure (itM x.1, ds)
  | .rng a => do let x ← evE ct g a; let i ← asInt x.2; if rngOk i then pure (.sh, rngL 0 i.toNat) else none
  | .rng2 a b => do let x ← evE ct g a; let y ← evE ct g b; let i ← asInt x.2; let j ← asInt y.2; if rngOk i && rngOk j then pure (.sh, rngL i (j - i).toNat) else none
  | .zip a b => do let x ← evE ct g a; let y ← evE ct g b; let ds ← asL x.2; let es ← asL y.2; pure (if x.1 = .bo ∨ y.1 = .bo then .bo else .sh, zipL ds es)
  | .enum a => do let x ← evE ct g a; let ds ← asL x.2; pure (itM x.1, enumL 0 ds)
  | .rev a => do let x ← evE ct g a; let ds ← asL x.2; pure (itM x.1, ds.reverse)
end

mutual
inductive Sm where
  | set (own : Bool) (i : Nat) (e : Ex)
  | unp (is : List Nat) (e : Ex)
  | par (i j : Nat) (a b : Ex)
  | sub (i : Nat) (k e : Ex)
  | app (i : Nat) (e : Ex) | pop (i : Nat) | popTo (j i : Nat) | clr (i : Nat) | frz (i : Nat)
  | ret (e : Ex) | retv (i : Nat)
  | ife (c : Ex) (a b : Sms) | whl (c : Ex) (b : Sms) | fr (tg : Tg) (it : Itx) (b : Sms)
  | never
  | setX (own : Bool) (i : Nat) (f : Nat) (es : Exs) | retX (f : Nat) (es : Exs) | expX (f : Nat) (es : Exs) | rse (c : Nat) | tryK (b : Sms) (n j : Nat)
inductive Sms where | nil | cons (s : Sm) (ss : Sms)
end
def whlF (c : Env' → Option Bool) (b : Env' → Option Out) : Nat → Env' → Option Out
  | 0, _ => none
  | n + 1, g => do
    let k ← c g
    if k then do
      let o ← b g
      match o with
      | .nx g' => whlF c b n g'
      | .rt m d => some (.rt m d)
      | .ex k g' => some (.ex k g')
    else some (.nx g)
def forF (a : D → Env' → Option Env') (b : Env' → Option Out) : List D → Env' → Option Out
  | [], g => some (.nx g)
  | d :: ds, g => do
    let g1 ← a d g
    let o ← b g1
    match o with
    | .nx g' => forF a b ds g'
    | .rt m d => some (.rt m d)
    | .ex k g' => some (.ex k g')
def ownAt (g : Env') (i : Nat) : Option (List D) := match g[i]? with
  | some (.ow ds) => some ds
  | _ => none
def slOf (own : Bool) : M × D → Option Sl
  | (.fr, .lst ds) => if own then some (.ow ds) else some (.sh (.lst ds))
  | (.sh, d) => some (.sh d)
  | _ => none
mutual
def evS (ct : Ct) (n : Nat) : Sm → Env' → Option Out
  | .set own i e, g => do let r ← evE ct g e; let s ← slOf own r; let g' ← setSl i s g; pure (.nx g')
  | .unp is e, g => do let r ← evE ct g e; let d ← storable r; let g' ← asg (.many is) d g; pure (.nx g')
  | .par i j a b, g => do
    let x ← evE ct g a
    let x' ← storable x
    let y ← evE ct g b
    let y' ← storable y
    let g1 ← setSl i (.sh x') g
    let g2 ← setSl j (.sh y') g1
    pure (.nx g2)
  | .sub i k e, g => do
    let r ← evE ct g e
    let x ← storable r
    let kk ← evE ct g k
    let z ← asInt kk.2
    let ds ← ownAt g i
    let j ← ixN ds.length z
    let g' ← setSl i (.ow (ds.set j x)) g
    pure (.nx g')
  | .app i e, g => do
    let r ← evE ct g e
    let x ← storable r
    let ds ← ownAt g i
    if lenOk ds.length then do let g' ← setSl i (.ow (ds ++ [x])) g; pure (.nx g') else none
  | .pop i, g => do
    let ds ← ownAt g i
    let x ← ds[ds.length - 1]?
    let g' ← setSl i (.ow ds.dropLast) g
    pure (.nx g')
  | .popTo j i, g => do
    let ds ← ownAt g i
    let x ← ds[ds.length - 1]?
    let g' ← setSl i (.ow ds.dropLast) g
    if i = j then none else do let g2 ← setSl j (.sh x) g'; pure (.nx g2)
  | .clr i, g => do let ds ← ownAt g i; let g' ← setSl i (.ow []) g; pure (.nx g')
  | .frz i, g => do let ds ← ownAt g i; let g' ← setSl i (.sh (.lst ds)) g; pure (.nx g')
  | .ret e, g => do let r ← evE ct g e; let _ ← storable r; pure (.rt r.1 r.2)
  | .retv i, g => do let ds ← ownAt g i; pure (.rt .fr (.lst ds))
  | .ife c a b, g => do
    let x ← evE ct g c
    let k ← asBl x.2
    if k then evSs ct n a g else evSs ct n b g
  | .whl c b, g => whlF (fun g => do let x ← evE ct g c; asBl x.2) (fun g => evSs ct n b g) n g
  | .fr tg it b, g => do
    let r ← evI ct g it
    if r.1 = .bo then none else forF (asg tg) (fun g => evSs ct n b g) r.2 g
  | .never, _ => none
  | .setX own i f es, g => do
    let ds ← evs ct g es
    match exOf (ct f ds) with
    | some c => some (.ex c g)
    | none => do let r ← noEx (ct f ds); let s ← slOf own r; let g' ← setSl i s g; pure (.nx g')
  | .retX f es, g => do
    let ds ← evs ct g es
    match exOf (ct f ds) with
    | some c => some (.ex c g)
    | none => do let r ← noEx (ct f ds); let _ ← storable r; pure (.rt r.1 r.2)
  | .expX f es, g => do
    let ds ← evs ct g es
    match exOf (ct f ds) with
    | some c => some (.ex c g)
    | none => do let _ ← noEx (ct f ds); pure (.nx g)
  | .rse c, g => do let _ ← ct flagX []; if c < 6 then pure (.ex c g) else none
  | .tryK b i j, g => do
    let _ ← ct flagX []
    let o ← evSs ct n b g
    match o with
    | .nx g' => some (.nx g')
    | .rt m d => some (.rt m d)
    | .ex c g' => if c < 6 then do let g1 ← setSl j (.sh (.exc c)) g'; let g2 ← setSl i .no g1; pure (.nx g2) else none
def evSs (ct : Ct) (n : Nat) : Sms → Env' → Option Out
  | .nil, g => some (.nx g)
  | .cons s ss, g => do
    let o ← evS ct n s g
    match o with
    | .nx g' => evSs ct n ss g'
    | .rt m d => some (.rt m d)
    | .ex k g' => some (.ex k g')
end
/-- a def: its slots, its parameters, its body -/
structure Fn where
  slots : Nat
  params : Nat
  body : Sms
def startE (f : Fn) (ds : List D) : Env' := ds.map Sl.sh ++ List.replicate (f.slots - ds.length) .no
def runFn (f : Fn) (ct : Ct) (n : Nat) (ds : List D) : Rs :=
  if ds.length = f.params then
    (evSs ct n f.body (startE f ds)).map fun o => match o with
      | .nx _ => (.sh, .non)
      | .rt m d => (m, d)
      | .ex c _ => (.ex, .exc c)
  else none
/-- the table: the last def first -/
def callT (n : Nat) : List (Nat × Fn) → Ct
  | [], _, _ => none
  | (i, f) :: fs, j, ds => if j = i then runFn f (callT n fs) n ds else callT n fs j ds
end
end Ev
/-! Ev: the state, and the rules for expressions. -/
namespace Ev
open PySem PySem.Spec PyProof.Rows L2

/-! ### the state -/
def SlotR (K : PySem.W.Frag) (H0 : Hp) (O : AS) (H : Hp) : Sl → Option V → Prop
  | .no, _ => True
  | .sh d, v => ∃ u, v = some u ∧ Rp K O H d u
  | .ow ds, v => ∃ a vs, v = some (.ref a) ∧ O a ∧ H0 a = none ∧ H a = some (.lst vs) ∧ Rps K O H ds vs
structure SR (K : PySem.W.Frag) (H0 : Hp) (O : AS) (H : Hp) (g : Env') (σ : L2.St) : Prop where
  trk : ∀ a, O a → H a ≠ none
  len : g.length = σ.length
  slot : ∀ (i : Nat) (s : Sl) (v : Option V), g[i]? = some s → σ[i]? = some v → SlotR K H0 O H s v
  dis : ∀ (i j : Nat) (ds es : List D) (a : Addr), g[i]? = some (.ow ds) → g[j]? = some (.ow es) → σ[i]? = some (some (.ref a)) → σ[j]? = some (some (.ref a)) → i = j
section
variable {K : PySem.W.Frag} {H0 : Hp} {O O' : AS} {H H' H'' : Hp} {g : Env'} {σ : L2.St}
theorem SlotR.same (s : Same H H') : ∀ {x : Sl} {v : Option V}, SlotR K H0 O H x v → SlotR K H0 O H' x v
  | .no, _, _ => trivial
  | .sh d, _, ⟨u, e, h⟩ => ⟨u, e, Rp.nxt (.same s) d u h⟩
  | .ow ds, _, ⟨a, vs, e, h1, h2, h3, h4⟩ => ⟨a, vs, e, h1, h2, s _ _ h3, Rps.nxt (.same s) ds vs h4⟩
theorem trk_same (h : ∀ a, O a → H a ≠ none) (s : Same H H') : ∀ a, O a → H' a ≠ none := fun a ha z => h a ha (s.free z)
theorem SR.same (S : SR K H0 O H g σ) (s : Same H H') : SR K H0 O H' g σ :=
  ⟨trk_same S.trk s, S.len, fun i x v e1 e2 => (S.slot i x v e1 e2).same s, S.dis⟩
theorem SR.get (S : SR K H0 O H g σ) {i : Nat} {s : Sl} (h : g[i]? = some s) : ∃ v, σ[i]? = some v ∧ SlotR K H0 O H s v := by
  obtain ⟨hi, _⟩ := List.getElem?_eq_some_iff.mp h
  have : i < σ.length := by rw [← S.len]; exact hi
  exact ⟨_, List.getElem?_eq_getElem this, S.slot i s _ h (List.getElem?_eq_getElem this)⟩
theorem same_new {p : Addr} {o : HO} (hp : H p = none) : Same H (upd H p o) := fun b x e => by rw [upd_ne (ne_of_none e hp)]; exact e
theorem not_new (h : ∀ a, O a → H a ≠ none) {p : Addr} (hp : H p = none) : ¬ O p := fun z => h p z hp
theorem Rps.less {ds : List D} {vs : List V} (s : ∀ a, O' a → O a) (h : Rps K O H ds vs) : Rps K O' H ds vs := Rps.nxt (.less s) ds vs h
theorem Rp.less {d : D} {v : V} (s : ∀ a, O' a → O a) (h : Rp K O H d v) : Rp K O' H d v := Rp.nxt (.less s) d v h
/-- from the time p was new on: its address is in no datum -/
theorem Rps.plus {ds : List D} {vs : List V} {p : Addr} (hp : H p = none) (h : Rps K O H ds vs) : Rps K (fun a => O a ∨ a = p) H ds vs :=
  Rps.nxt (O := O) (H := H) ⟨fun _ _ _ q => q, fun a q => q.imp id fun e => by rw [e]; exact hp⟩ ds vs h
theorem Rp.plus {d : D} {v : V} {p : Addr} (hp : H p = none) (h : Rp K O H d v) : Rp K (fun a => O a ∨ a = p) H d v :=
  Rp.nxt (O := O) (H := H) ⟨fun _ _ _ q => q, fun a q => q.imp id fun e => by rw [e]; exact hp⟩ d v h
theorem Rb.of : ∀ {d : D} {v : V}, Rp K O H d v → Rb K O H d v
  | .lst ds, _, ⟨a, vs, e, _, h, r⟩ => ⟨a, vs, e, h, r⟩
  | .non, _, h => h
  | .bl _, _, h => h
  | .int _, _, h => h
  | .str _, _, h => h
  | .tup _, _, h => h
  | .scr _, _, h => h
  | .exc _, _, h => h
theorem Rb.same (s : Same H H') : ∀ {d : D} {v : V}, Rb K O H d v → Rb K O H' d v
  | .lst ds, _, ⟨a, vs, e, h, r⟩ => ⟨a, vs, e, s _ _ h, Rps.nxt (.same s) ds vs r⟩
  | .non, _, h => h
  | .bl _, _, h => h
  | .int _, _, h => h
  | .str _, _, h => h
  | .tup ds, v, h => Rp.nxt (.same s) (.tup ds) v h
  | .scr ns, v, h => Rp.nxt (.same s) (.scr ns) v h
  | .exc c, v, h => Rp.nxt (.same s) (.exc c) v h
theorem Rm.rb : ∀ {m : M} {d : D} {v : V}, Rm K O H H' m d v → Rb K O H' d v
  | .sh, d, v, h => Rb.of h
  | .fr, .lst ds, v, ⟨p, vs, e, _, h, r⟩ => ⟨p, vs, e, h, r.less fun a z => .inl z⟩
  | .bo, .lst ds, v, h => h
theorem Rm.store (trk : ∀ a, O a → H a ≠ none) : ∀ {m : M} {d x : D} {v : V}, Rm K O H H' m d v → storable (m, d) = some x → Rp K O H' x v
  | .sh, d, x, v, h, e => by cases (Option.some.inj e); exact h
  | .fr, .lst ds, x, v, ⟨p, vs, e1, hp, h, r⟩, e => by
    cases (Option.some.inj e)
    exact ⟨p, vs, e1, not_new trk hp, h, r.less fun a z => .inl z⟩
theorem Rm.late (s : Same H H') : ∀ {m : M} {d : D} {v : V}, Rm K O H' H'' m d v → Rm K O H H'' m d v
  | .sh, _, _, h => h
  | .fr, .lst ds, _, ⟨p, vs, e, hp, h⟩ => ⟨p, vs, e, s.free hp, h⟩
  | .bo, .lst ds, _, h => h
theorem Rb.dp : ∀ {d : D} {v : V}, noX d = true → Rb K O H d v → Dp K H v (toPy d)
  | .lst ds, _, x, ⟨a, vs, e, h, r⟩ => by rw [e, toPy]; exact .lst (SqL.of h) (Rps.dp ds vs (by rw [noX] at x; exact x) r)
  | .non, v, x, h => Rp.dp (O := O) .non v x h
  | .bl b, v, x, h => Rp.dp (O := O) (.bl b) v x h
  | .int b, v, x, h => Rp.dp (O := O) (.int b) v x h
  | .str b, v, x, h => Rp.dp (O := O) (.str b) v x h
  | .tup b, v, x, h => Rp.dp (.tup b) v x h
  | .scr b, v, x, h => Rp.dp (.scr b) v x h
  | .exc b, v, x, h => Rp.dp (.exc b) v x h
theorem Rb.int {i : Int} {v : V} (h : Rb K O H (.int i) v) : v = .int i := h
theorem Rb.bl {i : Bool} {v : V} (h : Rb K O H (.bl i) v) : v = .bl i := h
theorem Rb.toInt {d : D} {i : Int} {v : V} (h : Rb K O H d v) (e : asInt d = some i) : v = .int i := by
  cases d <;> simp [asInt] at e
  subst e; exact h
theorem Rb.toBl {d : D} {i : Bool} {v : V} (h : Rb K O H d v) (e : asBl d = some i) : v = .bl i := by
  cases d <;> simp [asBl] at e
  subst e; exact h
theorem kl_of {a : Addr} {xs : List V} (h : KL K a xs) : SqL K H a xs := .inr h
/-- a list that is read -/
theorem Rb.toL {d : D} {ds : List D} {v : V} (h : Rb K O H d v) (e : asL d = some ds) : ∃ a vs, v = .ref a ∧ SqL K H a vs ∧ Rps K O H ds vs := by
  cases d <;> simp [asL] at e
  · subst e
    obtain ⟨a, vs, e, h, r⟩ := h
    exact ⟨a, vs, e, SqL.of h, r⟩
  · subst e
    obtain ⟨a, e, h⟩ := h
    exact ⟨a, _, e, h.elim (fun ⟨_, o, h⟩ => .inl (.inr ⟨o, h⟩)) kl_of, Rps.ofInts _⟩
theorem Rb.toLT {d : D} {ds : List D} {v : V} (h : Rb K O H d v) (e : asLT d = some ds) : ∃ a vs, v = .ref a ∧ (SqL K H a vs ∨ SqT K H a vs) ∧ Rps K O H ds vs := by
  cases d with
  | tup xs =>
    simp [asLT] at e
    subst e
    obtain ⟨a, vs, e, _, h, r⟩ := h
    exact ⟨a, vs, e, .inr (SqT.of h), r⟩
  | lst xs =>
    obtain ⟨a, vs, e1, h1, r⟩ := Rb.toL (d := .lst xs) (ds := ds) h e
    exact ⟨a, vs, e1, .inl h1, r⟩
  | scr xs =>
    obtain ⟨a, vs, e1, h1, r⟩ := Rb.toL (d := .scr xs) (ds := ds) h e
    exact ⟨a, vs, e1, .inl h1, r⟩
  | _ => simp [asLT] at e
end

/-! ### the readings -/
section
variable {K : PySem.W.Frag}
def tQ (K : PySem.W.Frag) (f : Env' → Rs) : TE := fun σ H Q => ∃ H0 O g m d, SR K H0 O H g σ ∧ f g = some (m, d) ∧ ∀ v H', Same H H' → Rm K O H H' m d v → Q v H'
def tQT (K : PySem.W.Frag) (f : Env' → Option Bool) : TT := fun σ H Q => ∃ H0 O g b, SR K H0 O H g σ ∧ f g = some b ∧ ∀ H', Same H H' → Q b H'
def tQA (K : PySem.W.Frag) (f : Env' → Option (List D)) : TA := fun σ H Q => ∃ H0 O g ds, SR K H0 O H g σ ∧ f g = some ds ∧ ∀ vs H', Same H H' → Rps K O H' ds vs → Q vs H'
/-- the test of an expression's value -/
def bOf (f : Env' → Rs) : Env' → Option Bool := fun g => do let x ← f g; asBl x.2
variable {σ : L2.St} {H H0 : Hp} {O : AS} {g : Env'}
theorem tQ.use {f : Env' → Rs} {Q : VK} {x : M × D} (S : SR K H0 O H g σ) (e : f g = some x) (h : ∀ v H', Same H H' → Rm K O H H' x.1 x.2 v → Q v H') : tQ K f σ H Q := ⟨H0, O, g, x.1, x.2, S, e, h⟩
theorem tQ.two {fa fb : Env' → Rs} {R : V → V → Hp → Prop} {x y : M × D} (S : SR K H0 O H g σ) (ea : fa g = some x) (eb : fb g = some y)
    (h : ∀ v w H', Same H H' → Rb K O H' x.2 v → Rb K O H' y.2 w → R v w H') : tQ K fa σ H fun v H1 => tQ K fb σ H1 fun w H2 => R v w H2 := by
  refine tQ.use S ea fun v H1 s1 r1 => tQ.use (S.same s1) eb fun w H2 s2 r2 => ?_
  exact h v w H2 (s1.trans s2) (r1.rb.same s2) r2.rb
end
section
variable {X : Cx}
theorem _root_.L2.PE.imp {e : Expr} {t t' : TE} (h : PE X e t) (k : ∀ σ H Q, t' σ H Q → t σ H Q) : PE X e t' := ⟨fun pins s σ H Q I q => h.run pins s σ H Q I (k _ _ _ q)⟩
theorem _root_.L2.PT.imp {e : Expr} {t t' : TT} (h : PT X e t) (k : ∀ σ H Q, t' σ H Q → t σ H Q) : PT X e t' := ⟨fun pins s σ H Q I q => h.run pins s σ H Q I (k _ _ _ q)⟩
theorem _root_.L2.PW.imp {e : Expr} {t t' : TT} (h : PW X e t) (k : ∀ σ H Q, t' σ H Q → t σ H Q) : PW X e t' := ⟨fun wh pins s σ H Q I q => h.run wh pins s σ H Q I (k _ _ _ q)⟩
theorem _root_.L2.PA.imp {e : List Expr} {t t' : TA} (h : PA X e t) (k : ∀ σ H Q, t' σ H Q → t σ H Q) : PA X e t' := ⟨fun pos pins s σ H Q I q => h.run pos pins s σ H Q I (k _ _ _ q)⟩
theorem _root_.L2.PS.imp {e : Stmt} {t t' : TS} (h : PS X e t) (k : ∀ D σ H, t' D σ H → t D σ H) : PS X e t' := ⟨fun pins s σ H D I q => h.run pins s σ H D I (k _ _ _ q)⟩
theorem _root_.L2.PSs.imp {e : List Stmt} {t t' : TS} (h : PSs X e t) (k : ∀ D σ H, t' D σ H → t D σ H) : PSs X e t' := ⟨fun pins s σ H D I q => h.run pins s σ H D I (k _ _ _ q)⟩

/-- isTrue of such a tree asks its value -/
def PlainTest (e : Expr) : Prop := ∀ (env : Env) (whole : Sem Value), isTrue e env whole = (do let v ← whole; standAt e.pos; holding [v] (truthy v))
theorem q_test {e : Expr} {f : Env' → Rs} (h : PE X e (tQ X.K f)) (hp : PlainTest e) : PT X e (tQT X.K (bOf f)) := by
  refine (pt_val h (hp X.env)).imp fun σ H Q ⟨H0, O, g, b, S, e, q⟩ => ?_
  simp only [bOf, Option.bind_eq_bind, Option.bind_eq_some_iff] at e
  obtain ⟨x, ex, eb⟩ := e
  exact tQ.use S ex fun v H' s r => ⟨b, r.rb.toBl eb, q H' s⟩

variable {a b : Expr} {fa fb : Env' → Rs} {pos : Pos}
/-! ### constants and names -/
theorem q_const {e : Expr} {v : V} {d : D} (h : PE X e (tC v)) (r : ∀ O H, Rp X.K O H d v) : PE X e (tQ X.K fun _ => some (.sh, d)) := by
  refine h.imp fun σ H Q ⟨H0, O, g, m, d', S, e, q⟩ => ?_
  cases e
  exact q v H (Same.refl H) (r O H)
theorem q_var {i : Nat} {x : Str} (h : PE X (.Name x pos) (tVar i)) : PE X (.Name x pos) (tQ X.K fun g => match g[i]? with
    | some (.sh d) => some (.sh, d)
    | some (.ow ds) => some (.bo, .lst ds)
    | _ => none) := by
  refine h.imp fun σ H Q ⟨H0, O, g, m, d, S, e, q⟩ => ?_
  cases es : g[i]? with
  | none => simp only [es] at e; cases e
  | some sl =>
    obtain ⟨v, ev, r⟩ := S.get es
    cases sl with
    | no => simp only [es] at e; cases e
    | sh d' =>
      simp only [es] at e
      cases e
      obtain ⟨u, rfl, r⟩ := r
      exact ⟨u, ev, q u H (Same.refl H) r⟩
    | ow ds =>
      simp only [es] at e
      cases e
      obtain ⟨p, vs, rfl, r1, r2, r3, r4⟩ := r
      exact ⟨_, ev, q _ H (Same.refl H) ⟨p, vs, rfl, r3, r4⟩⟩

/-! ### operators -/
theorem op_mulE : OpR X (binaryOp .Mult) (rI (fun i j => mulOk i j = true) fun i j => .int (i * j)) := opI fun i j _ _ _ _ _ hc q => by
  refine mul_int q ?_
  have hc := of_decide_eq_true hc
  have b : ∀ x : Int, Builtin.Int.intBits x ≤ x.natAbs.log2 + 1 := fun x => by
    unfold Builtin.Int.intBits
    split <;> omega
  have h1 := b i
  have h2 := b j
  unfold IntMulOk
  intro z
  rw [Bool.and_eq_true] at z
  have z2 := z.2
  unfold Builtin.Int.intTooBig at z2
  have z3 := of_decide_eq_true z2
  omega
theorem op_fdivE : OpR X (binaryOp .FloorDiv) (rI (fun _ j => divOk j = true) fun i j => .int (i.fdiv j)) := opI fun i j _ _ _ _ _ hc q => by
  have hc := of_decide_eq_true hc
  exact floordiv_int hc.1 q (.inl (PyProof.noPylong_of_log2 hc.2))
theorem powOk_of {i j : Int} (h : powOk i j = true) : CPow i j := by
  unfold powOk at h
  have h' := of_decide_eq_true h
  exact h'
def bopOf : Bop → Operator
  | .add => .Add | .sub => .Sub | .mul => .Mult | .div => .FloorDiv | .mod => .Mod | .pow => .Pow
/-- what binD asks of a binary operator, by values -/
def rBin (K : PySem.W.Frag) (o : Bop) : R2 := fun x y H Q => ∃ O d e m r, (∀ a, O a → H a ≠ none) ∧ Rb K O H d x ∧ Rb K O H e y ∧ binD o d e = some (m, r) ∧ ∀ v H', Same H H' → Rm K O H H' m r v → Q v H'
theorem op_cats : OpR X (binaryOp .Add) rCat := op_cat
theorem op_binE (o : Bop) : OpR X (binaryOp (bopOf o)) (rBin X.K o) := by
  intro pins s σ H x y v u Q I rx ry ⟨O, d, e, m, r, trk, rd, re, hb, q⟩
  cases o with
  | add =>
    cases d <;> cases e <;> simp only [binD] at hb <;> try cases hb
    · cases rd; cases re
      exact op_add pins s σ H _ _ v u Q I rx ry ⟨_, _, rfl, rfl, q _ H (Same.refl H) rfl⟩
    · rename_i xs ys
      split at hb
      · rename_i hl
        cases hb
        obtain ⟨a, vs, rfl, h1, r1⟩ := rd
        obtain ⟨b, ws, rfl, h2, r2⟩ := re
        have hl := of_decide_eq_true hl
        refine op_cat pins s σ H _ _ v u Q I rx ry ⟨a, b, vs, ws, rfl, rfl, h1, h2, by rw [r1.len, r2.len]; omega, fun p hp => ?_⟩
        refine q _ _ (same_new hp) ⟨p, _, rfl, hp, upd_same, ?_⟩
        exact Rps.nxt (.same (same_new hp)) _ _ ((r1.app r2).plus hp)
      · cases hb
  | sub =>
    cases d <;> cases e <;> simp only [binD] at hb <;> try cases hb
    cases rd; cases re
    exact op_sub pins s σ H _ _ v u Q I rx ry ⟨_, _, rfl, rfl, q _ H (Same.refl H) rfl⟩
  | mul =>
    cases d <;> cases e <;> simp only [binD] at hb <;> try cases hb
    split at hb
    · rename_i hk
      cases hb
      cases rd; cases re
      exact op_mulE pins s σ H _ _ v u Q I rx ry ⟨_, _, rfl, rfl, hk, q _ H (Same.refl H) rfl⟩
    · cases hb
  | div =>
    cases d <;> cases e <;> simp only [binD] at hb <;> try cases hb
    split at hb
    · rename_i hk
      cases hb
      cases rd; cases re
      exact op_fdivE pins s σ H _ _ v u Q I rx ry ⟨_, _, rfl, rfl, hk, q _ H (Same.refl H) rfl⟩
    · cases hb
  | mod =>
    cases d <;> cases e <;> simp only [binD] at hb <;> try cases hb
    split at hb
    · rename_i hk
      cases hb
      cases rd; cases re
      exact op_modN pins s σ H _ _ v u Q I rx ry ⟨_, _, rfl, rfl, hk, q _ H (Same.refl H) rfl⟩
    · cases hb
  | pow =>
    cases d <;> cases e <;> simp only [binD] at hb <;> try cases hb
    split at hb
    · rename_i hk
      cases hb
      cases rd; cases re
      exact op_pow pins s σ H _ _ v u Q I rx ry ⟨_, _, rfl, rfl, powOk_of hk, q _ H (Same.refl H) rfl⟩
    · cases hb
theorem Same.late {H H1 : Hp} {K : PySem.W.Frag} {O : AS} {m : M} {d : D} {Q : VK} (s : Same H H1) (q : ∀ v H', Same H H' → Rm K O H H' m d v → Q v H') : ∀ v H', Same H1 H' → Rm K O H1 H' m d v → Q v H' :=
  fun v H' s2 r => q v H' (s.trans s2) (r.late s)
theorem q_bin {o : Bop} (ha : PE X a (tQ X.K fa)) (hb : PE X b (tQ X.K fb)) : PE X (.BinOp a (bopOf o) b pos) (tQ X.K fun g => do let x ← fa g; let y ← fb g; binD o x.2 y.2) := by
  refine (pe_op (op_binE o) ha hb).imp fun σ H Q ⟨H0, O, g, m, d, S, e, q⟩ => ?_
  simp only [Option.bind_eq_bind, Option.bind_eq_some_iff] at e
  obtain ⟨x, ex, y, ey, eb⟩ := e
  exact tQ.two S ex ey fun v w H' s r1 r2 => ⟨O, x.2, y.2, m, d, trk_same S.trk s, r1, r2, eb, Same.late s q⟩
theorem q_neg (ha : PE X a (tQ X.K fa)) : PE X (.UnaryOp .USub a pos) (tQ X.K fun g => do let x ← fa g; let i ← asInt x.2; pure (.sh, .int (-i))) := by
  refine (pe_un un_neg ha).imp fun σ H Q ⟨H0, O, g, m, d, S, e, q⟩ => ?_
  simp only [Option.bind_eq_bind, Option.bind_eq_some_iff, Option.pure_def, Option.some.injEq] at e
  obtain ⟨x, ex, i, ei, eb⟩ := e
  cases eb
  exact tQ.use S ex fun v H' s r => ⟨i, r.rb.toInt ei, q _ _ s rfl⟩
/-! ### comparisons -/
def copOf : Cop → CmpOp
  | .lt => .Lt | .le => .LtE | .gt => .Gt | .ge => .GtE | .eq => .Eq | .ne => .NotEq
def rCmp (K : PySem.W.Frag) (o : Cop) : R2 := fun x y H Q => ∃ O d e k, Rb K O H d x ∧ Rb K O H e y ∧ cmpD o d e = some k ∧ Q (.bl k) H
theorem op_cmpE (hu : X.A.units + 64 < cLine) (o : Cop) : OpR X (compareOp (copOf o)) (rCmp X.K o) := by
  intro pins s σ H x y v u Q I rx ry ⟨O, d, e, k, rd, re, hb, q⟩
  cases o with
  | lt =>
    cases d <;> cases e <;> simp only [cmpD] at hb <;> try cases hb
    cases rd; cases re
    exact op_lt pins s σ H _ _ v u Q I rx ry ⟨_, _, rfl, rfl, q⟩
  | le =>
    cases d <;> cases e <;> simp only [cmpD] at hb <;> try cases hb
    cases rd; cases re
    exact op_le pins s σ H _ _ v u Q I rx ry ⟨_, _, rfl, rfl, q⟩
  | gt =>
    cases d <;> cases e <;> simp only [cmpD] at hb <;> try cases hb
    cases rd; cases re
    exact op_gt pins s σ H _ _ v u Q I rx ry ⟨_, _, rfl, rfl, q⟩
  | ge =>
    cases d <;> cases e <;> simp only [cmpD] at hb <;> try cases hb
    cases rd; cases re
    exact op_ge pins s σ H _ _ v u Q I rx ry ⟨_, _, rfl, rfl, q⟩
  | eq =>
    simp only [cmpD] at hb
    split at hb
    · rename_i hk
      rw [Bool.and_eq_true] at hk
      cases hb
      simp only [shD, Bool.and_eq_true] at hk
      exact op_eqD hu pins s σ H _ _ v u Q I rx ry ⟨_, _, rd.dp hk.1.1, re.dp hk.2.1, hk.1.2, hk.2.2, q⟩
    · cases hb
  | ne =>
    simp only [cmpD] at hb
    split at hb
    · rename_i hk
      rw [Bool.and_eq_true] at hk
      cases hb
      simp only [shD, Bool.and_eq_true] at hk
      exact op_neD hu pins s σ H _ _ v u Q I rx ry ⟨_, _, rd.dp hk.1.1, re.dp hk.2.1, hk.1.2, hk.2.2, q⟩
    · cases hb
theorem nomark' (b : Expr) (o : Cop) : behindInMarks (copOf o) b = false := nobehind b (by cases o <;> decide) (by cases o <;> decide)
def cmpF (o : Cop) (fa fb : Env' → Rs) : Env' → Rs := fun g => do let x ← fa g; let y ← fb g; let k ← cmpD o x.2 y.2; pure (.sh, .bl k)
theorem q_cmp {o : Cop} (hu : X.A.units + 64 < cLine) (ha : PE X a (tQ X.K fa)) (hb : PE X b (tQ X.K fb)) : PE X (.Compare a [copOf o] [b] pos) (tQ X.K (cmpF o fa fb)) := by
  refine (pe_cmpR (op_cmpE hu o) ha hb (nomark' b o)).imp fun σ H Q ⟨H0, O, g, m, d, S, e, q⟩ => ?_
  simp only [cmpF, Option.bind_eq_bind, Option.bind_eq_some_iff, Option.pure_def, Option.some.injEq] at e
  obtain ⟨x, ex, y, ey, k, ek, eb⟩ := e
  cases eb
  exact tQ.two S ex ey fun v w H' s r1 r2 => ⟨O, x.2, y.2, k, r1, r2, ek, q _ _ s rfl⟩
theorem q_cmpT {o : Cop} (hu : X.A.units + 64 < cLine) (ha : PE X a (tQ X.K fa)) (hb : PE X b (tQ X.K fb)) : PT X (.Compare a [copOf o] [b] pos) (tQT X.K (bOf (cmpF o fa fb))) := by
  refine (pt_cmpR (op_cmpE hu o) ha hb (nomark' b o)).imp fun σ H Q ⟨H0, O, g, k', S, e, q⟩ => ?_
  simp only [bOf, cmpF, Option.bind_eq_bind, Option.bind_eq_some_iff, Option.pure_def, Option.some.injEq] at e
  obtain ⟨z, ⟨x, ex, y, ey, k, ek, eb⟩, ez⟩ := e
  subst eb
  have ez : k = k' := Option.some.inj ez
  subst ez
  exact tQ.two S ex ey fun v w H' s r1 r2 => ⟨O, x.2, y.2, k, r1, r2, ek, k, rfl, q _ s⟩
theorem Rb.nonD {K : PySem.W.Frag} {O : AS} {H : Hp} {d : D} {v : V} (r : Rb K O H d v) : decide (v = .non) = isNonD d := by
  cases d with
  | non => cases r; rfl
  | bl _ => cases r; rfl
  | int _ => cases r; rfl
  | str _ => cases r; rfl
  | tup _ => obtain ⟨a, _, rfl, _⟩ := r; rfl
  | lst _ => obtain ⟨a, _, rfl, _⟩ := r; rfl
  | scr _ => obtain ⟨a, rfl, _⟩ := r; rfl
  | exc _ => obtain ⟨a, C, rfl, _⟩ := r; rfl
def isNF (n : Bool) (fa : Env' → Rs) : Env' → Rs := fun g => do let x ← fa g; pure (.sh, .bl (if n then !isNonD x.2 else isNonD x.2))
theorem q_isN {j pos'} (ha : PE X a (tQ X.K fa)) : PE X (.Compare a [.Is] [.Constant .none j pos'] pos) (tQ X.K (isNF false fa)) := by
  refine (pe_cmp (pc_isN ha)).imp fun σ H Q ⟨H0, O, g, m, d, S, e, q⟩ => ?_
  simp only [isNF, Option.bind_eq_bind, Option.bind_eq_some_iff, Option.pure_def, Option.some.injEq] at e
  obtain ⟨x, ex, eb⟩ := e
  cases eb
  exact tQ.use S ex fun v H' s r => by rw [r.rb.nonD]; exact q _ _ s rfl
theorem q_notN {j pos'} (ha : PE X a (tQ X.K fa)) : PE X (.Compare a [.IsNot] [.Constant .none j pos'] pos) (tQ X.K (isNF true fa)) := by
  refine (pe_cmp (pc_notN ha)).imp fun σ H Q ⟨H0, O, g, m, d, S, e, q⟩ => ?_
  simp only [isNF, Option.bind_eq_bind, Option.bind_eq_some_iff, Option.pure_def, Option.some.injEq] at e
  obtain ⟨x, ex, eb⟩ := e
  cases eb
  exact tQ.use S ex fun v H' s r => by rw [r.rb.nonD]; exact q _ _ s rfl
theorem q_isNT {j pos'} (ha : PE X a (tQ X.K fa)) : PT X (.Compare a [.Is] [.Constant .none j pos'] pos) (tQT X.K (bOf (isNF false fa))) := by
  refine (pt_cmp (pc_isN ha)).imp fun σ H Q ⟨H0, O, g, b, S, e, q⟩ => ?_
  simp only [bOf, isNF, Option.bind_eq_bind, Option.bind_eq_some_iff, Option.pure_def, Option.some.injEq] at e
  obtain ⟨z, ⟨x, ex, eb⟩, ez⟩ := e
  cases eb
  cases ez
  exact tQ.use S ex fun v H' s r => by rw [r.rb.nonD]; exact ⟨_, rfl, q _ s⟩
theorem q_notNT {j pos'} (ha : PE X a (tQ X.K fa)) : PT X (.Compare a [.IsNot] [.Constant .none j pos'] pos) (tQT X.K (bOf (isNF true fa))) := by
  refine (pt_cmp (pc_notN ha)).imp fun σ H Q ⟨H0, O, g, b, S, e, q⟩ => ?_
  simp only [bOf, isNF, Option.bind_eq_bind, Option.bind_eq_some_iff, Option.pure_def, Option.some.injEq] at e
  obtain ⟨z, ⟨x, ex, eb⟩, ez⟩ := e
  cases eb
  cases ez
  exact tQ.use S ex fun v H' s r => by rw [r.rb.nonD]; exact ⟨_, rfl, q _ s⟩
/-! ### in -/
def inF (n : Bool) (fa fb : Env' → Rs) : Env' → Rs := fun g => do let x ← fa g; let y ← fb g; let k ← inD x.2 y.2; pure (.sh, .bl (if n then !k else k))
theorem inD_some {x y : D} {k : Bool} (h : inD x y = some k) : ∃ ds, y = .lst ds ∧ shD x = true ∧ shD (.lst ds) = true ∧ k = ds.any fun z => eqvD z x := by
  cases y <;> simp only [inD] at h <;> try cases h
  split at h
  · rename_i hk
    rw [Bool.and_eq_true] at hk
    cases h
    exact ⟨_, rfl, hk.1, hk.2, rfl⟩
  · cases h
theorem any_toPys (x : D) : ∀ ds : List D, (toPys ds).any (fun z => PyData.eqv z (toPy x)) = ds.any fun z => eqvD z x
  | [] => rfl
  | d :: ds => by rw [toPys, List.any_cons, List.any_cons, any_toPys x ds]; rfl
theorem in_two {σ : L2.St} {H H0 : Hp} {O : AS} {g : Env'} {x y : M × D} {k : Bool} {R : V → V → Hp → Prop} (S : SR X.K H0 O H g σ) (ea : fa g = some x) (eb : fb g = some y) (ek : inD x.2 y.2 = some k)
    (h : ∀ v w H' d ds, Same H H' → Dp X.K H' v d → Dp X.K H' w (.list ds) → SeqAt.shaped d = true → SeqAt.shaped (.list ds) = true → (ds.any fun z => PyData.eqv z d) = k → R v w H') :
    tQ X.K fa σ H fun v H1 => tQ X.K fb σ H1 fun w H2 => R v w H2 := by
  refine tQ.two S ea eb fun v w H' s r1 r2 => ?_
  obtain ⟨ds, e, h1, h2, h3⟩ := inD_some ek
  rw [e] at r2
  simp only [shD, Bool.and_eq_true] at h1 h2
  have r2 := r2.dp h2.1
  have h2' : SeqAt.shaped (.list (toPys ds)) = true := h2.2
  rw [toPy] at r2
  exact h v w H' _ _ s (r1.dp h1.1) r2 h1.2 h2' ((any_toPys x.2 ds).trans h3.symm)
theorem q_in (hu : X.A.units + 65 < cLine) (hm : behindInMarks .In b = false) (ha : PE X a (tQ X.K fa)) (hb : PE X b (tQ X.K fb)) : PE X (.Compare a [.In] [b] pos) (tQ X.K (inF false fa fb)) := by
  refine (pe_cmpR (op_inD hu) ha hb hm).imp fun σ H Q ⟨H0, O, g, m, d, S, e, q⟩ => ?_
  simp only [inF, Option.bind_eq_bind, Option.bind_eq_some_iff, Option.pure_def, Option.some.injEq] at e
  obtain ⟨x, ex, y, ey, k, ek, eb⟩ := e
  cases eb
  exact in_two S ex ey ek fun v w H' d ds s d1 d2 s1 s2 he => ⟨d, ds, d1, d2, s1, s2, by rw [he]; exact q _ _ s rfl⟩
theorem q_inT (hu : X.A.units + 65 < cLine) (hm : behindInMarks .In b = false) (ha : PE X a (tQ X.K fa)) (hb : PE X b (tQ X.K fb)) : PT X (.Compare a [.In] [b] pos) (tQT X.K (bOf (inF false fa fb))) := by
  refine (pt_cmpR (op_inD hu) ha hb hm).imp fun σ H Q ⟨H0, O, g, b', S, e, q⟩ => ?_
  simp only [bOf, inF, Option.bind_eq_bind, Option.bind_eq_some_iff, Option.pure_def, Option.some.injEq] at e
  obtain ⟨z, ⟨x, ex, y, ey, k, ek, eb⟩, ez⟩ := e
  cases eb
  cases ez
  exact in_two S ex ey ek fun v w H' d ds s d1 d2 s1 s2 he => ⟨d, ds, d1, d2, s1, s2, _, rfl, by rw [he]; exact q _ s⟩
theorem q_nin (hu : X.A.units + 65 < cLine) (hm : behindInMarks .NotIn b = false) (ha : PE X a (tQ X.K fa)) (hb : PE X b (tQ X.K fb)) : PE X (.Compare a [.NotIn] [b] pos) (tQ X.K (inF true fa fb)) := by
  refine (pe_cmpR (op_notInD hu) ha hb hm).imp fun σ H Q ⟨H0, O, g, m, d, S, e, q⟩ => ?_
  simp only [inF, Option.bind_eq_bind, Option.bind_eq_some_iff, Option.pure_def, Option.some.injEq] at e
  obtain ⟨x, ex, y, ey, k, ek, eb⟩ := e
  cases eb
  exact in_two S ex ey ek fun v w H' d ds s d1 d2 s1 s2 he => ⟨d, ds, d1, d2, s1, s2, by rw [he]; exact q _ _ s rfl⟩
theorem q_ninT (hu : X.A.units + 65 < cLine) (hm : behindInMarks .NotIn b = false) (ha : PE X a (tQ X.K fa)) (hb : PE X b (tQ X.K fb)) : PT X (.Compare a [.NotIn] [b] pos) (tQT X.K (bOf (inF true fa fb))) := by
  refine (pt_cmpR (op_notInD hu) ha hb hm).imp fun σ H Q ⟨H0, O, g, b', S, e, q⟩ => ?_
  simp only [bOf, inF, Option.bind_eq_bind, Option.bind_eq_some_iff, Option.pure_def, Option.some.injEq] at e
  obtain ⟨z, ⟨x, ex, y, ey, k, ek, eb⟩, ez⟩ := e
  cases eb
  cases ez
  exact in_two S ex ey ek fun v w H' d ds s d1 d2 s1 s2 he => ⟨d, ds, d1, d2, s1, s2, _, rfl, by rw [he]; exact q _ s⟩
/-! ### not, and, or -/
def notF (fa : Env' → Rs) : Env' → Rs := fun g => do let x ← fa g; let k ← asBl x.2; pure (.sh, .bl (!k))
theorem q_not (ha : PE X a (tQ X.K fa)) : PE X (.UnaryOp .Not a pos) (tQ X.K (notF fa)) := by
  refine (pe_not ha).imp fun σ H Q ⟨H0, O, g, m, d, S, e, q⟩ => ?_
  simp only [notF, Option.bind_eq_bind, Option.bind_eq_some_iff, Option.pure_def, Option.some.injEq] at e
  obtain ⟨x, ex, k, ek, eb⟩ := e
  cases eb
  exact tQ.use S ex fun v H' s r => ⟨k, r.rb.toBl ek, q _ _ s rfl⟩
theorem q_notT (ha : PT X a (tQT X.K (bOf fa))) : PT X (.UnaryOp .Not a pos) (tQT X.K (bOf (notF fa))) := by
  refine (pt_not ha).imp fun σ H Q ⟨H0, O, g, b, S, e, q⟩ => ?_
  simp only [bOf, notF, Option.bind_eq_bind, Option.bind_eq_some_iff, Option.pure_def, Option.some.injEq] at e
  obtain ⟨z, ⟨x, ex, k, ek, eb⟩, ez⟩ := e
  cases eb
  cases ez
  exact ⟨H0, O, g, k, S, by simp [bOf, ex, ek], fun H' s => q H' s⟩
def oneF (fa : Env' → Rs) : Env' → Rs := fun g => do let x ← fa g; let k ← asBl x.2; pure (.sh, .bl k)
def andF (fa fb : Env' → Rs) : Env' → Rs := fun g => do let x ← fa g; let k ← asBl x.2; if k then fb g else pure (.sh, .bl false)
def orF (fa fb : Env' → Rs) : Env' → Rs := fun g => do let x ← fa g; let k ← asBl x.2; if k then pure (.sh, .bl true) else fb g
theorem q_one {op : BoolOp} (ha : PE X a (tQ X.K fa)) : PE X (.BoolOp op [a] pos) (tQ X.K (oneF fa)) := by
  refine (pe_one ha).imp fun σ H Q ⟨H0, O, g, m, d, S, e, q⟩ => ?_
  simp only [oneF, Option.bind_eq_bind, Option.bind_eq_some_iff, Option.pure_def, Option.some.injEq] at e
  obtain ⟨x, ex, k, ek, eb⟩ := e
  cases eb
  exact tQ.use S ex fun v H' s r => q _ _ s (r.rb.toBl ek)
theorem bOf_one (g : Env') : bOf (oneF fa) g = bOf fa g := by
  simp only [bOf, oneF, Option.bind_eq_bind, Option.pure_def]
  cases fa g with
  | none => rfl
  | some x =>
    simp only [Option.bind_some]
    cases asBl x.2 with
    | none => rfl
    | some k => rfl
theorem tQT.eq {f f' : Env' → Option Bool} {K : PySem.W.Frag} {σ : L2.St} {H : Hp} {Q : Bool → Hp → Prop} (e : ∀ g, f g = f' g) (h : tQT K f σ H Q) : tQT K f' σ H Q := by
  obtain ⟨H0, O, g, b, S, h1, q⟩ := h
  exact ⟨H0, O, g, b, S, (e g).symm.trans h1, q⟩
theorem q_oneW_and (ha : PT X a (tQT X.K (bOf fa))) : PW X (.BoolOp .And [a] pos) (tQT X.K (bOf (oneF fa))) := (pw_and1 ha).imp fun _ _ _ h => h.eq bOf_one
theorem q_oneW_or (ha : PT X a (tQT X.K (bOf fa))) : PW X (.BoolOp .Or [a] pos) (tQT X.K (bOf (oneF fa))) := (pw_or1 ha).imp fun _ _ _ h => h.eq bOf_one
variable {rest : List Expr}
theorem q_and (ha : PE X a (tQ X.K fa)) (hb : PE X (.BoolOp .And (b :: rest) pos) (tQ X.K fb)) : PE X (.BoolOp .And (a :: b :: rest) pos) (tQ X.K (andF fa fb)) := by
  refine (pe_and ha hb).imp fun σ H Q ⟨H0, O, g, m, d, S, e, q⟩ => ?_
  simp only [andF, Option.bind_eq_bind, Option.bind_eq_some_iff, Option.pure_def] at e
  obtain ⟨x, ex, k, ek, eb⟩ := e
  refine tQ.use S ex fun v H' s r => ⟨k, r.rb.toBl ek, ?_⟩
  cases k with
  | true =>
    rw [if_pos rfl] at eb ⊢
    exact ⟨H0, O, g, m, d, S.same s, eb, Same.late s q⟩
  | false =>
    rw [if_neg (by decide)] at eb ⊢
    cases eb
    exact q _ _ s rfl
theorem q_or (ha : PE X a (tQ X.K fa)) (hb : PE X (.BoolOp .Or (b :: rest) pos) (tQ X.K fb)) : PE X (.BoolOp .Or (a :: b :: rest) pos) (tQ X.K (orF fa fb)) := by
  refine (pe_or ha hb).imp fun σ H Q ⟨H0, O, g, m, d, S, e, q⟩ => ?_
  simp only [orF, Option.bind_eq_bind, Option.bind_eq_some_iff, Option.pure_def] at e
  obtain ⟨x, ex, k, ek, eb⟩ := e
  refine tQ.use S ex fun v H' s r => ⟨k, r.rb.toBl ek, ?_⟩
  cases k with
  | false =>
    rw [if_neg (by decide)] at eb ⊢
    exact ⟨H0, O, g, m, d, S.same s, eb, Same.late s q⟩
  | true =>
    rw [if_pos rfl] at eb ⊢
    cases eb
    exact q _ _ s rfl
theorem q_andW (ha : PT X a (tQT X.K (bOf fa))) (hb : PW X (.BoolOp .And (b :: rest) pos) (tQT X.K (bOf fb))) : PW X (.BoolOp .And (a :: b :: rest) pos) (tQT X.K (bOf (andF fa fb))) := by
  refine (pw_and ha hb).imp fun σ H Q ⟨H0, O, g, c, S, e, q⟩ => ?_
  simp only [bOf, andF, Option.bind_eq_bind, Option.bind_eq_some_iff, Option.pure_def] at e
  obtain ⟨z, ⟨x, ex, k, ek, eb⟩, ez⟩ := e
  refine ⟨H0, O, g, k, S, by simp [bOf, ex, ek], fun H' s => ?_⟩
  cases k with
  | true =>
    rw [if_pos rfl] at eb ⊢
    exact ⟨H0, O, g, c, S.same s, by simp [bOf, eb, ez], fun H2 s2 => q H2 (s.trans s2)⟩
  | false =>
    rw [if_neg (by decide)] at eb ⊢
    cases eb
    cases ez
    exact q _ s
theorem q_orW (ha : PT X a (tQT X.K (bOf fa))) (hb : PW X (.BoolOp .Or (b :: rest) pos) (tQT X.K (bOf fb))) : PW X (.BoolOp .Or (a :: b :: rest) pos) (tQT X.K (bOf (orF fa fb))) := by
  refine (pw_or ha hb).imp fun σ H Q ⟨H0, O, g, c, S, e, q⟩ => ?_
  simp only [bOf, orF, Option.bind_eq_bind, Option.bind_eq_some_iff, Option.pure_def] at e
  obtain ⟨z, ⟨x, ex, k, ek, eb⟩, ez⟩ := e
  refine ⟨H0, O, g, k, S, by simp [bOf, ex, ek], fun H' s => ?_⟩
  cases k with
  | false =>
    rw [if_neg (by decide)] at eb ⊢
    exact ⟨H0, O, g, c, S.same s, by simp [bOf, eb, ez], fun H2 s2 => q H2 (s.trans s2)⟩
  | true =>
    rw [if_pos rfl] at eb ⊢
    cases eb
    cases ez
    exact q _ s
/-! ### argument lists, displays -/
theorem qa_nil : PA X [] (tQA X.K fun _ => some []) := pa_nil.imp fun σ H Q ⟨H0, O, g, ds, S, e, q⟩ => by
  cases e
  exact q [] H (Same.refl H) rfl
theorem qa_cons {e : Expr} {es : List Expr} {f : Env' → Rs} {fs : Env' → Option (List D)} (ha : PE X e (tQ X.K f)) (hr : PA X es (tQA X.K fs)) (hs : starEach (e :: es) X.env = (false, eval e X.env) :: starEach es X.env) :
    PA X (e :: es) (tQA X.K fun g => do let x ← f g; let d ← storable x; let ds ← fs g; pure (d :: ds)) := by
  refine (pa_cons ha hr hs).imp fun σ H Q ⟨H0, O, g, ds, S, e, q⟩ => ?_
  simp only [Option.bind_eq_bind, Option.bind_eq_some_iff, Option.pure_def, Option.some.injEq] at e
  obtain ⟨x, ex, d, ed, ds', eds, eb⟩ := e
  subst eb
  refine tQ.use S ex fun v H1 s1 r1 => ⟨H0, O, g, ds', S.same s1, eds, fun vs H2 s2 r2 => ?_⟩
  have r1 := Rm.store S.trk r1 ed
  exact q _ _ (s1.trans s2) ⟨v, vs, rfl, Rp.nxt (.same s2) d v r1, r2⟩
variable {es : List Expr} {fs : Env' → Option (List D)}
theorem q_tup {x1} (h : PA X es (tQA X.K fs)) : PE X (.Tuple es x1 pos) (tQ X.K fun g => do let ds ← fs g; if lenOk ds.length then pure (.sh, .tup ds) else none) := by
  refine (pe_tup h).imp fun σ H Q ⟨H0, O, g, m, d, S, e, q⟩ => ?_
  simp only [Option.bind_eq_bind, Option.bind_eq_some_iff, Option.pure_def] at e
  obtain ⟨ds, eds, eb⟩ := e
  split at eb
  · rename_i hl
    cases eb
    refine ⟨H0, O, g, ds, S, eds, fun vs H1 s1 r1 => ⟨by rw [r1.len]; exact Nat.le_of_lt (of_decide_eq_true hl), fun p hp => ?_⟩⟩
    exact q _ _ (s1.trans (same_new hp)) ⟨p, vs, rfl, not_new (trk_same S.trk s1) hp, upd_same, Rps.nxt (.same (same_new hp)) _ _ r1⟩
  · cases eb
theorem q_lst (h : PA X es (tQA X.K fs)) : PE X (.List es pos) (tQ X.K fun g => do let ds ← fs g; if lenOk ds.length then pure (.fr, .lst ds) else none) := by
  refine (pe_lst h).imp fun σ H Q ⟨H0, O, g, m, d, S, e, q⟩ => ?_
  simp only [Option.bind_eq_bind, Option.bind_eq_some_iff, Option.pure_def] at e
  obtain ⟨ds, eds, eb⟩ := e
  split at eb
  · rename_i hl
    cases eb
    refine ⟨H0, O, g, ds, S, eds, fun vs H1 s1 r1 => ⟨by rw [r1.len]; exact Nat.le_of_lt (of_decide_eq_true hl), fun p hp => ?_⟩⟩
    exact q _ _ (s1.trans (same_new hp)) ⟨p, vs, rfl, s1.free hp, upd_same, Rps.nxt (.same (same_new hp)) _ _ (r1.plus hp)⟩
  · cases eb
/-! ### items, slices -/
theorem q_idx (hs : PlainIx b) (ha : PE X a (tQ X.K fa)) (hb : PE X b (tQ X.K fb)) : PE X (.Subscript a b pos) (tQ X.K fun g => do let x ← fa g; let y ← fb g; let k ← asInt y.2; let ds ← asLT x.2; let d ← atI ds k; pure (.sh, d)) := by
  refine (pe_ix ix_seq ha hb hs).imp fun σ H Q ⟨H0, O, g, m, d, S, e, q⟩ => ?_
  simp only [Option.bind_eq_bind, Option.bind_eq_some_iff, Option.pure_def, Option.some.injEq] at e
  obtain ⟨x, ex, y, ey, k, ek, ds, eds, d', ed, eb⟩ := e
  cases eb
  refine tQ.two S ex ey fun v w H' s r1 r2 => ?_
  obtain ⟨p, vs, rfl, hl, rs⟩ := r1.toLT eds
  have rw' := r2.toInt ek
  subst rw'
  have hat : ∃ u, atI vs k = some u ∧ Rp X.K O H' d u := by
    unfold atI at ed ⊢
    rw [rs.len]
    cases hx : ixN ds.length k with
    | none => rw [hx] at ed; cases ed
    | some j =>
      rw [hx] at ed
      exact rs.get ed
  obtain ⟨u, hu, ru⟩ := hat
  rcases hl with hl | hl
  · exact .inl ⟨p, vs, k, u, rfl, rfl, hl, hu, q _ _ s ru⟩
  · exact .inr (.inl ⟨p, vs, k, u, rfl, rfl, hl, hu, q _ _ s ru⟩)
theorem Rps.cut {K : PySem.W.Frag} {O : AS} {H : Hp} {ds : List D} {vs : List V} (lo hi : Option Int) (h : Rps K O H ds vs) : Rps K O H (cutD ds lo hi) (cutV vs lo hi) := by
  unfold cutD cutV
  rw [h.len]
  exact (h.drop _).take _
/-- a slice's part -/
def tQO (K : PySem.W.Frag) (f : Env' → Option (Option Int)) : TO := fun σ H Q => ∃ H0 O g i, SR K H0 O H g σ ∧ f g = some i ∧ ∀ H', Same H H' → Q i H'
theorem _root_.L2.PO.imp {e : Option Expr} {t t' : TO} (h : PO X e t) (k : ∀ σ H Q, t' σ H Q → t σ H Q) : PO X e t' := ⟨fun pins s σ H Q I q => h.run pins s σ H Q I (k _ _ _ q)⟩
theorem qo_none : PO X none (tQO X.K fun _ => some none) := by
  refine po_none.imp fun σ H Q ⟨H0, O, g, i, S, e, q⟩ => ?_
  cases e
  exact q H (Same.refl H)
theorem qo_some (ha : PE X a (tQ X.K fa)) : PO X (some a) (tQO X.K fun g => do let y ← fa g; let i ← asInt y.2; pure (some i)) := by
  refine (po_some ha).imp fun σ H Q ⟨H0, O, g, i, S, e, q⟩ => ?_
  simp only [Option.bind_eq_bind, Option.bind_eq_some_iff, Option.pure_def, Option.some.injEq] at e
  obtain ⟨x, ex, k, ek, eb⟩ := e
  subst eb
  exact tQ.use S ex fun v H' s r => ⟨k, r.rb.toInt ek, q _ s⟩
def rSlE (K : PySem.W.Frag) : V → Option Int → Option Int → Hp → VK → Prop := fun x lo hi H Q => rSlL K x lo hi H Q ∨ rSlT K x lo hi H Q
theorem q_slc {lo hi : Option Expr} {fl fh : Env' → Option (Option Int)} {p2 : Pos} (ha : PE X a (tQ X.K fa)) (hl : PO X lo (tQO X.K fl)) (hh : PO X hi (tQO X.K fh)) :
    PE X (.Subscript a (.Slice lo hi none p2) pos) (tQ X.K fun g => do let x ← fa g; let l ← fl g; let h ← fh g; slcD x.2 l h) := by
  refine (pe_slice (sl_list.or sl_tup) ha hl hh).imp fun σ H Q ⟨H0, O, g, m, d, S, e, q⟩ => ?_
  simp only [Option.bind_eq_bind, Option.bind_eq_some_iff, Option.pure_def] at e
  obtain ⟨x, ex, l, el, h, eh, eb⟩ := e
  refine tQ.use S ex fun v H1 s1 r1 => ⟨H0, O, g, l, S.same s1, el, fun H2 s2 => ⟨H0, O, g, h, (S.same s1).same s2, eh, fun H3 s3 => ?_⟩⟩
  have r3 := (r1.rb.same s2).same s3
  have s : Same H H3 := (s1.trans s2).trans s3
  have T := trk_same S.trk s
  obtain ⟨m1, x⟩ := x
  cases x with
  | lst ds =>
    cases eb
    obtain ⟨a', vs, rfl, h1, rs⟩ := r3
    refine .inl ⟨a', vs, rfl, SqL.of h1, fun p hp => q _ _ (s.trans (same_new hp)) ⟨p, _, rfl, s.free hp, upd_same, ?_⟩⟩
    exact Rps.nxt (.same (same_new hp)) _ _ ((rs.cut l h).plus hp)
  | scr ns =>
    cases eb
    obtain ⟨a', rfl, h1⟩ := r3
    have hq : SqL X.K H3 a' (ns.map V.int) := h1.elim (fun ⟨_, o, h⟩ => .inl (.inr ⟨o, h⟩)) kl_of
    refine .inl ⟨a', _, rfl, hq, fun p hp => q _ _ (s.trans (same_new hp)) ⟨p, _, rfl, s.free hp, upd_same, ?_⟩⟩
    exact Rps.nxt (.same (same_new hp)) _ _ (((Rps.ofInts ns).cut l h).plus hp)
  | tup ds =>
    simp only [slcD] at eb
    split at eb
    · rename_i hlt
      cases eb
      obtain ⟨a', vs, rfl, hO, h1, rs⟩ := r3
      have rc := rs.cut l h
      refine .inr ⟨a', vs, rfl, SqT.of h1, ?_⟩
      have hl2 : (cutV vs l h).length < vs.length := by rw [rc.len, rs.len]; exact hlt
      refine ⟨fun ⟨z1, z2⟩ => ?_, fun p hp => q _ _ (s.trans (same_new hp)) ⟨p, _, rfl, not_new T hp, upd_same, Rps.nxt (.same (same_new hp)) _ _ rc⟩⟩
      unfold cutV at hl2
      rw [z1, z2, List.length_take, List.length_drop] at hl2
      omega
    · cases eb
  | _ => cases eb
end
end Ev
/-! Ev: calls, targets, iterators, comprehensions. -/
namespace Ev
open PySem PySem.Spec PyProof.Rows L2
section
variable {X : Cx} {a b e : Expr} {es : List Expr} {fa fb : Env' → Rs} {pos p : Pos} {x : Str}
/-! ### built-in calls, by values -/
def NoStar (e : Expr) : Prop := ∀ (es : List Expr) (env : Env), starEach (e :: es) env = (false, eval e env) :: starEach es env
/-- one argument -/
theorem q_use1 {r : List V → Hp → VK → Prop} {F : D → Rs} {e : Expr} (hc : PE X e (tCB r (tCons (tQ X.K fa) tNil)))
    (k : ∀ O H d m z v Q, (∀ a, O a → H a ≠ none) → Rb X.K O H d v → F d = some (m, z) → (∀ w H2, Same H H2 → Rm X.K O H H2 m z w → Q w H2) → r [v] H Q) :
    PE X e (tQ X.K fun g => do let x ← fa g; F x.2) := by
  refine hc.imp fun σ H Q ⟨H0, O, g, m, d, S, e, q⟩ => ?_
  simp only [Option.bind_eq_bind, Option.bind_eq_some_iff] at e
  obtain ⟨x, ex, eb⟩ := e
  exact tQ.use S ex fun v H' s r => k O H' x.2 m d v Q (trk_same S.trk s) r.rb eb (Same.late s q)
theorem q_use2 {r : List V → Hp → VK → Prop} {F : D → D → Rs} {e : Expr} (hc : PE X e (tCB r (tCons (tQ X.K fa) (tCons (tQ X.K fb) tNil))))
    (k : ∀ O H d1 d2 m z v w Q, (∀ a, O a → H a ≠ none) → Rb X.K O H d1 v → Rb X.K O H d2 w → F d1 d2 = some (m, z) → (∀ w H2, Same H H2 → Rm X.K O H H2 m z w → Q w H2) → r [v, w] H Q) :
    PE X e (tQ X.K fun g => do let x ← fa g; let y ← fb g; F x.2 y.2) := by
  refine hc.imp fun σ H Q ⟨H0, O, g, m, d, S, e, q⟩ => ?_
  simp only [Option.bind_eq_bind, Option.bind_eq_some_iff] at e
  obtain ⟨x, ex, y, ey, eb⟩ := e
  exact tQ.two S ex ey fun v w H' s r1 r2 => k O H' x.2 y.2 m d v w Q (trk_same S.trk s) r1 r2 eb (Same.late s q)
theorem asInts_some : ∀ {ds : List D} {ns : List Int}, asInts ds = some ns → ds = ns.map D.int
  | [], ns, h => by cases h; rfl
  | d :: ds, ns, h => by
    simp only [asInts, Option.bind_eq_bind, Option.bind_eq_some_iff, Option.pure_def, Option.some.injEq] at h
    obtain ⟨i, hi, r, hr, rfl⟩ := h
    rw [asInts_some hr]
    cases d <;> simp [asInt] at hi
    subst hi; rfl
theorem Rb.intsL {K : PySem.W.Frag} {O : AS} {H : Hp} {d : D} {ds : List D} {ns : List Int} {v : V} (r : Rb K O H d v) (e1 : asL d = some ds) (e2 : asInts ds = some ns) : ∃ a, v = .ref a ∧ SqL K H a (ns.map V.int) := by
  obtain ⟨a, vs, rfl, hl, rs⟩ := r.toL e1
  rw [asInts_some e2] at rs
  rw [rs.ints] at hl
  exact ⟨a, rfl, hl⟩
theorem foldl_min_mem : ∀ (xs : List Int) (x : Int), xs.foldl min x ∈ x :: xs
  | [], x => by simp
  | y :: ys, x => by
    have h := foldl_min_mem ys (min x y)
    rw [List.foldl_cons]
    rcases List.mem_cons.mp h with h | h
    · rw [h]
      rcases Int.le_total x y with z | z
      · rw [Int.min_eq_left z]; simp
      · rw [Int.min_eq_right z]; simp
    · exact List.mem_cons_of_mem _ (List.mem_cons_of_mem _ h)
theorem foldl_max_mem : ∀ (xs : List Int) (x : Int), xs.foldl max x ∈ x :: xs
  | [], x => by simp
  | y :: ys, x => by
    have h := foldl_max_mem ys (max x y)
    rw [List.foldl_cons]
    rcases List.mem_cons.mp h with h | h
    · rw [h]
      rcases Int.le_total x y with z | z
      · rw [Int.max_eq_right z]; simp
      · rw [Int.max_eq_left z]; simp
    · exact List.mem_cons_of_mem _ (List.mem_cons_of_mem _ h)
theorem foldl_min_le : ∀ (xs : List Int) (x y : Int), y ∈ x :: xs → xs.foldl min x ≤ y
  | [], x, y, h => by simp at h; rw [h]; exact Int.le_refl _
  | z :: ys, x, y, h => by
    rw [List.foldl_cons]
    have h0 := foldl_min_le ys (min x z) (min x z) List.mem_cons_self
    rcases List.mem_cons.mp h with h | h
    · rw [h]; exact Int.le_trans h0 (Int.min_le_left _ _)
    · rcases List.mem_cons.mp h with h | h
      · rw [h]; exact Int.le_trans h0 (Int.min_le_right _ _)
      · exact foldl_min_le ys (min x z) y (List.mem_cons_of_mem _ h)
theorem foldl_max_ge : ∀ (xs : List Int) (x y : Int), y ∈ x :: xs → y ≤ xs.foldl max x
  | [], x, y, h => by simp at h; rw [h]; exact Int.le_refl _
  | z :: ys, x, y, h => by
    rw [List.foldl_cons]
    have h0 := foldl_max_ge ys (max x z) (max x z) List.mem_cons_self
    rcases List.mem_cons.mp h with h | h
    · rw [h]; exact Int.le_trans (Int.le_max_left _ _) h0
    · rcases List.mem_cons.mp h with h | h
      · rw [h]; exact Int.le_trans (Int.le_max_right _ _) h0
      · exact foldl_max_ge ys (max x z) y (List.mem_cons_of_mem _ h)
theorem q_abs (hg : Gl X "abs") (hm : X.mg "abs" = none) (ns : NoStar a) (ha : PE X a (tQ X.K fa)) : PE X (.Call (.Name "abs" p) [a] [] pos) (tQ X.K fun g => do let x ← fa g; b1D .abs x.2) := by
  refine q_use1 (pe_callB call_abs hg hm boot_abs (pa_cons ha pa_nil (ns _ _)) (by decide) (by decide) (ns _ _)) fun O H d m z v Q T r e q => ?_
  cases d <;> simp only [b1D] at e <;> cases e
  cases r
  exact ⟨_, rfl, q _ H (Same.refl H) rfl⟩
theorem q_len (hg : Gl X "len") (hm : X.mg "len" = none) (ns : NoStar a) (ha : PE X a (tQ X.K fa)) : PE X (.Call (.Name "len" p) [a] [] pos) (tQ X.K fun g => do let x ← fa g; b1D .len x.2) := by
  refine q_use1 (pe_callB call_len_seq hg hm PySem.boot_len (pa_cons ha pa_nil (ns _ _)) (by decide) (by decide) (ns _ _)) fun O H d m z v Q T r e q => ?_
  simp only [b1D, Option.map_eq_some_iff] at e
  obtain ⟨ds, e1, e2⟩ := e
  cases e2
  obtain ⟨a, vs, rfl, hl, rs⟩ := r.toLT e1
  exact ⟨a, vs, rfl, hl, by rw [rs.len]; exact q _ H (Same.refl H) rfl⟩
theorem q_int (hg : Gl X "int") (hm : X.mg "int" = none) (ns : NoStar a) (ha : PE X a (tQ X.K fa)) : PE X (.Call (.Name "int" p) [a] [] pos) (tQ X.K fun g => do let x ← fa g; b1D .int x.2) := by
  refine q_use1 (pe_callTy call_int1 hg hm boot_int (pa_cons ha pa_nil (ns _ _)) (by decide) (by decide) (ns _ _)) fun O H d m z v Q T r e q => ?_
  cases d <;> simp only [b1D] at e <;> cases e
  · cases r
    exact .inr ⟨_, rfl, q _ H (Same.refl H) rfl⟩
  · cases r
    exact .inl ⟨_, rfl, q _ H (Same.refl H) rfl⟩
theorem q_sum (hc : X.calm = true) (hg : Gl X "sum") (hm : X.mg "sum" = none) (ns : NoStar a) (ha : PE X a (tQ X.K fa)) : PE X (.Call (.Name "sum" p) [a] [] pos) (tQ X.K fun g => do let x ← fa g; b1D .sum x.2) := by
  refine q_use1 (pe_callB (cr_sum hc) hg hm (by decide +kernel) (pa_cons ha pa_nil (ns _ _)) (by decide) (by decide) (ns _ _)) fun O H d m z v Q T r e q => ?_
  simp only [b1D, Option.bind_eq_bind, Option.bind_eq_some_iff, Option.pure_def, Option.some.injEq] at e
  obtain ⟨ds, e1, k, e2, e3⟩ := e
  cases e3
  obtain ⟨a, rfl, hl⟩ := r.intsL e1 e2
  exact ⟨a, k, rfl, hl, q _ H (Same.refl H) rfl⟩
theorem q_min (hc : X.calm = true) (hg : Gl X "min") (hm : X.mg "min" = none) (ns : NoStar a) (ha : PE X a (tQ X.K fa)) : PE X (.Call (.Name "min" p) [a] [] pos) (tQ X.K fun g => do let x ← fa g; b1D .min x.2) := by
  refine q_use1 (pe_callB (cr_min hc) hg hm (by decide +kernel) (pa_cons ha pa_nil (ns _ _)) (by decide) (by decide) (ns _ _)) fun O H d m z v Q T r e q => ?_
  simp only [b1D, Option.bind_eq_bind, Option.bind_eq_some_iff, Option.pure_def, Option.some.injEq] at e
  obtain ⟨ds, e1, k, e2, n, e4, e3⟩ := e
  cases e3
  obtain ⟨a, rfl, hl⟩ := r.intsL e1 e2
  refine ⟨a, k, rfl, hl, ?_, fun m hm h => ?_⟩
  · cases k with
    | nil => cases e4
    | cons => simp
  · cases k with
    | nil => cases e4
    | cons y ys =>
      cases e4
      have h1 := h _ (foldl_min_mem ys y)
      have h2 := foldl_min_le ys y m hm
      rw [show m = ys.foldl min y by omega]
      exact q _ H (Same.refl H) rfl
theorem q_max (hc : X.calm = true) (hg : Gl X "max") (hm : X.mg "max" = none) (ns : NoStar a) (ha : PE X a (tQ X.K fa)) : PE X (.Call (.Name "max" p) [a] [] pos) (tQ X.K fun g => do let x ← fa g; b1D .max x.2) := by
  refine q_use1 (pe_callB (cr_max hc) hg hm (by decide +kernel) (pa_cons ha pa_nil (ns _ _)) (by decide) (by decide) (ns _ _)) fun O H d m z v Q T r e q => ?_
  simp only [b1D, Option.bind_eq_bind, Option.bind_eq_some_iff, Option.pure_def, Option.some.injEq] at e
  obtain ⟨ds, e1, k, e2, n, e4, e3⟩ := e
  cases e3
  obtain ⟨a, rfl, hl⟩ := r.intsL e1 e2
  refine ⟨a, k, rfl, hl, ?_, fun m hm h => ?_⟩
  · cases k with
    | nil => cases e4
    | cons => simp
  · cases k with
    | nil => cases e4
    | cons y ys =>
      cases e4
      have h1 := h _ (foldl_max_mem ys y)
      have h2 := foldl_max_ge ys y m hm
      rw [show m = ys.foldl max y by omega]
      exact q _ H (Same.refl H) rfl
theorem q_list (hg : Gl X "list") (hm : X.mg "list" = none) (ns : NoStar a) (ha : PE X a (tQ X.K fa)) : PE X (.Call (.Name "list" p) [a] [] pos) (tQ X.K fun g => do let x ← fa g; b1D .list x.2) := by
  refine q_use1 (pe_callTy call_list_of hg hm boot_list (pa_cons ha pa_nil (ns _ _)) (by decide) (by decide) (ns _ _)) fun O H d m z v Q T r e q => ?_
  simp only [b1D, Option.map_eq_some_iff] at e
  obtain ⟨ds, e1, e2⟩ := e
  cases e2
  obtain ⟨a, vs, rfl, hl, rs⟩ := r.toLT e1
  exact ⟨a, vs, rfl, hl, fun p hp => q _ _ (same_new hp) ⟨p, vs, rfl, hp, upd_same, Rps.nxt (.same (same_new hp)) _ _ (rs.plus hp)⟩⟩
theorem q_max2 (hc : X.calm = true) (hg : Gl X "max") (hm : X.mg "max" = none) (ns : NoStar a) (ns2 : NoStar b) (ha : PE X a (tQ X.K fa)) (hb : PE X b (tQ X.K fb)) :
    PE X (.Call (.Name "max" p) [a, b] [] pos) (tQ X.K fun g => do let x ← fa g; let y ← fb g; b2D .max x.2 y.2) := by
  refine q_use2 (pe_callB (call_max2 hc) hg hm (by decide +kernel) (pa_cons ha (pa_cons hb pa_nil (ns2 _ _)) (ns _ _)) (by decide) (by decide) (ns _ _) (by rw [ns2]; rfl)) fun O H d1 d2 m z v w Q T r1 r2 e q => ?_
  cases d1 <;> cases d2 <;> simp only [b2D] at e <;> cases e
  cases r1; cases r2
  exact ⟨_, _, rfl, q _ H (Same.refl H) rfl⟩
theorem q_min2 (hc : X.calm = true) (hg : Gl X "min") (hm : X.mg "min" = none) (ns : NoStar a) (ns2 : NoStar b) (ha : PE X a (tQ X.K fa)) (hb : PE X b (tQ X.K fb)) :
    PE X (.Call (.Name "min" p) [a, b] [] pos) (tQ X.K fun g => do let x ← fa g; let y ← fb g; b2D .min x.2 y.2) := by
  refine q_use2 (pe_callB (call_min2 hc) hg hm (by decide +kernel) (pa_cons ha (pa_cons hb pa_nil (ns2 _ _)) (ns _ _)) (by decide) (by decide) (ns _ _) (by rw [ns2]; rfl)) fun O H d1 d2 m z v w Q T r1 r2 e q => ?_
  cases d1 <;> cases d2 <;> simp only [b2D] at e <;> cases e
  cases r1; cases r2
  exact ⟨_, _, rfl, q _ H (Same.refl H) rfl⟩
/-! ### isinstance -/
def tyS : Ty → String
  | .int => "int" | .bool => "bool" | .tuple => "tuple" | .list => "list"
def tnD : D → String
  | .non => "NoneType" | .bl _ => "bool" | .int _ => "int" | .str _ => "str" | .tup _ => "tuple" | .lst _ => "list" | .scr _ => "list" | .exc _ => ""
theorem Rb.tyX {K : PySem.W.Frag} {O : AS} {H : Hp} {d : D} {v : V} (x : isX d = false) (r : Rb K O H d v) : TyX K H v (.type (tnD d)) := by
  cases d with
  | non => cases r; exact .base .non
  | bl b => cases r; exact .base (.bl b)
  | int i => cases r; exact .base (.int i)
  | str i => cases r; exact .base (.str i)
  | tup ds => obtain ⟨a, vs, rfl, _, h, _⟩ := r; exact .base (.tup h)
  | lst ds => obtain ⟨a, vs, rfl, h, _⟩ := r; exact .base (.lst h)
  | scr ns =>
    obtain ⟨a, rfl, ⟨_, o, h⟩ | ⟨o, its, n, h, c, _⟩⟩ := r
    · exact .base (.frz h)
    · exact .kList h c
  | exc c => simp [isX] at x
theorem kit_isi (t : Ty) (d : D) (x : isX d = false) : kitB (tnD d) (tyS t) = some (isiD t d) := by
  cases t <;> cases d <;> first | (simp only [tnD, tyS, isiD]; decide +kernel) | simp [isX] at x
theorem boot_ty (t : Ty) : bootBuiltins (Str.ofString (tyS t)) = some (.type (tyS t)) := by cases t <;> (simp only [tyS]; decide +kernel)
theorem q_isi {t : Ty} {q : Pos} (hg : Gl X "isinstance") (hm : X.mg "isinstance" = none) (hg2 : Gl X (Str.ofString (tyS t))) (hm2 : X.mg (Str.ofString (tyS t)) = none) (ns : NoStar a) (ha : PE X a (tQ X.K fa)) :
    PE X (.Call (.Name "isinstance" p) [a, .Name (Str.ofString (tyS t)) q] [] pos) (tQ X.K fun g => do let x ← fa g; if isX x.2 then none else pure (.sh, .bl (isiD t x.2))) := by
  have hT : PE X (.Name (Str.ofString (tyS t)) q) (tC (.ty (tyS t))) := pe_bltn hg2 hm2 (boot_ty t) rfl (by cases t <;> decide +kernel) (by cases t <;> decide +kernel)
  refine (pe_callB call_isi hg hm boot_isinstance (pa_cons ha (pa_cons hT pa_nil) (ns _ _)) (by decide) (by decide) (ns _ _)).imp fun σ H Q ⟨H0, O, g, m, d, S, e, q⟩ => ?_
  simp only [Option.bind_eq_bind, Option.bind_eq_some_iff, Option.pure_def] at e
  obtain ⟨x, ex, eb⟩ := e
  split at eb
  · cases eb
  · rename_i hx
    have hx : isX x.2 = false := by simpa using hx
    cases eb
    refine tQ.use S ex fun v H' s r => ?_
    exact ⟨v, _, _, _, _, rfl, .ty _, r.rb.tyX hx, kit_ty (kit_isi t x.2 hx), q _ _ s rfl⟩
/-! ### calls of the text's own defs -/
def spF (K : PySem.W.Frag) (ct : Ct) (f : Nat) : Sp := fun vs H Q _ => ∃ O ds m d, (∀ a, O a → H a ≠ none) ∧ Rps K O H ds vs ∧ noEx (ct f ds) = some (m, d) ∧ ∀ v H', Same H H' → Rm K O H H' m d v → Q v H'
theorem q_call {k : Nat} {fa : Addr} {fd : FuncData} {ps : List Str} {ct : Ct} {f : Nat} {fs : Env' → Option (List D)} (F : FnOk X.prog X.w X.K X.mg X.base CX0 k fa fd ps (spF X.K ct f)) (hr : Room k X.A) (hg : Gl X x) (hm : X.mg x = some (.ref fa)) (hk : PySem.W.keepIn X.K (.ref fa) = true) (hb : Binds X.K fd ps [])
    (hdb : (x == ("__debug__" : Str)) = false) (ns : NoStar e) (hpl : (backTo pos (starEach es X.env)).any (·.1) = false) (ha : PA X (e :: es) (tQA X.K fs)) :
    PE X (.Call (.Name x p) (e :: es) [] pos) (tQ X.K fun g => do let ds ← fs g; noEx (ct f ds)) := by
  refine (pe_call (E := E0) F hr hg hm hk hb .nil pass0 ha hdb (ns _ _) hpl).imp fun σ H Q ⟨H0, O, g, m, d, S, e, q⟩ => ?_
  simp only [Option.bind_eq_bind, Option.bind_eq_some_iff] at e
  obtain ⟨ds, e1, e2⟩ := e
  refine ⟨H0, O, g, ds, S, e1, fun vs H' s r => ?_⟩
  show spF X.K ct f (vs ++ []) H' Q E0
  rw [List.append_nil]
  exact ⟨O, ds, m, d, trk_same S.trk s, r, e2, Same.late s q⟩
end

/-! ### storing -/
section
variable {K : PySem.W.Frag} {H0 : Hp} {O : AS} {H : Hp} {g g' : Env'} {σ : L2.St}
theorem setSl_some {i : Nat} {s : Sl} (h : setSl i s g = some g') : i < g.length ∧ g' = g.set i s := by
  unfold setSl at h
  split at h
  · cases h; exact ⟨by assumption, rfl⟩
  · cases h
theorem SR.setSh (S : SR K H0 O H g σ) {i : Nat} {d : D} {v : V} (r : Rp K O H d v) (h : setSl i (.sh d) g = some g') : SR K H0 O H g' (σ.set i (some v)) := by
  obtain ⟨hi, rfl⟩ := setSl_some h
  have hσ : i < σ.length := by rw [← S.len]; exact hi
  refine ⟨S.trk, by simp [S.len], fun j s u e1 e2 => ?_, fun j k ds es a e1 e2 e3 e4 => ?_⟩
  · by_cases hj : i = j
    · subst hj
      rw [List.getElem?_set_self hi] at e1
      rw [List.getElem?_set_self hσ] at e2
      cases e1; cases e2
      exact ⟨v, rfl, r⟩
    · rw [List.getElem?_set_ne hj] at e1 e2
      exact S.slot j s u e1 e2
  · have hj : i ≠ j := fun z => by subst z; rw [List.getElem?_set_self hi] at e1; cases e1
    have hk : i ≠ k := fun z => by subst z; rw [List.getElem?_set_self hi] at e2; cases e2
    rw [List.getElem?_set_ne hj] at e1 e3
    rw [List.getElem?_set_ne hk] at e2 e4
    exact S.dis j k ds es a e1 e2 e3 e4
def gQ (K : PySem.W.Frag) (tg : Tg) : TG := fun v σ H Q => ∃ H0 O g g' d, SR K H0 O H g σ ∧ Rp K O H d v ∧ asg tg d g = some g' ∧
  ∀ σ' : L2.St, SR K H0 O H g' σ' → σ'.length = σ.length → (∀ j, j ∉ tgSlots tg → σ'[j]? = σ[j]?) → Q σ' H
end
section
variable {X : Cx}
theorem _root_.L2.PG.imp {e : Expr} {t t' : TG} (h : PG X e t) (k : ∀ v σ H Q, t' v σ H Q → t v σ H Q) : PG X e t' := ⟨fun pins s σ H v u Q I r q => h.run pins s σ H v u Q I r (k _ _ _ _ q)⟩
theorem g_one {i : Nat} {x : Str} {pos : Pos} (h : PG X (.Name x pos) (gName i)) : PG X (.Name x pos) (gQ X.K (.one i)) := by
  refine h.imp fun v σ H Q ⟨H0, O, g, g', d, S, r, e, q⟩ => ?_
  refine q _ (S.setSh r e) (by simp) fun j hj => ?_
  exact List.getElem?_set_ne (fun z => hj (by simp [tgSlots, z]))
def gNames : List Nat → TGs
  | [] => gNil
  | i :: is => gCons (gName i) (gNames is)
theorem gNames_run {K : PySem.W.Frag} {H0 : Hp} {O : AS} {H : Hp} {Q : L2.St → Hp → Prop} : ∀ {is : List Nat} {ds : List D} {vs : List V} {g g' : Env'} {σ : L2.St}, SR K H0 O H g σ → Rps K O H ds vs → asgAll is ds g = some g' →
    (∀ σ' : L2.St, SR K H0 O H g' σ' → σ'.length = σ.length → (∀ j, j ∉ is → σ'[j]? = σ[j]?) → Q σ' H) → gNames is vs σ H Q
  | [], [], vs, g, g', σ, S, r, e, q => by
    cases e
    exact ⟨r, q σ S rfl fun _ _ => rfl⟩
  | i :: is, d :: ds, vs, g, g', σ, S, ⟨v, vr, ev, r1, r2⟩, e, q => by
    simp only [asgAll, Option.bind_eq_bind, Option.bind_eq_some_iff] at e
    obtain ⟨g1, e1, e2⟩ := e
    refine ⟨v, vr, ev, gNames_run (S.setSh r1 e1) r2 e2 fun σ' S' l h => q σ' S' (by rw [l]; simp) fun j hj => ?_⟩
    rw [h j (fun z => hj (List.mem_cons_of_mem _ z))]
    exact List.getElem?_set_ne (fun z => hj (by simp [z]))
  | [], _ :: _, _, _, _, _, _, _, e, _ => by cases e
  | _ :: _, [], _, _, _, _, _, _, e, _ => by cases e
theorem asgAll_len : ∀ {is : List Nat} {ds : List D} {g g' : Env'}, asgAll is ds g = some g' → ds.length = is.length
  | [], [], _, _, _ => rfl
  | i :: is, d :: ds, g, g', e => by
    simp only [asgAll, Option.bind_eq_bind, Option.bind_eq_some_iff] at e
    obtain ⟨g1, e1, e2⟩ := e
    rw [List.length_cons, List.length_cons, asgAll_len e2]
  | [], _ :: _, _, _, e => by cases e
  | _ :: _, [], _, _, e => by cases e
theorem pg_or {e : Expr} {t t' : TG} (h : PG X e t) (h' : PG X e t') : PG X e (fun v σ H Q => t v σ H Q ∨ t' v σ H Q) :=
  ⟨fun pins s σ H v u Q I r q => q.elim (h.run pins s σ H v u Q I r) (h'.run pins s σ H v u Q I r)⟩
theorem g_many {is : List Nat} {es : List Expr} {k : Nat} {pos : Pos} (h : PG X (.Tuple es k pos) (gTup X.K is.length (gNames is))) (h' : PG X (.Tuple es k pos) (gLst X.K is.length (gNames is))) : PG X (.Tuple es k pos) (gQ X.K (.many is)) := by
  refine (pg_or h h').imp fun v σ H Q ⟨H0, O, g, g', d, S, r, e, q⟩ => ?_
  cases d <;> simp only [asg] at e <;> try cases e
  · obtain ⟨a, vs, rfl, _, hh, rs⟩ := r
    exact .inl ⟨a, vs, rfl, SqT.of hh, by rw [rs.len]; exact asgAll_len e, gNames_run S rs e q⟩
  · obtain ⟨a, vs, rfl, _, hh, rs⟩ := r
    exact .inr ⟨a, vs, rfl, SqL.of hh, by rw [rs.len]; exact asgAll_len e, gNames_run S rs e q⟩
end

/-! ### what is walked -/
def Cn (b : Bool) (O : AS) (H : Hp) (Oc : AS) (Hc : Hp) : Prop := Nxt O H Oc Hc ∧ (b = true → Same H Hc) ∧ ∀ a, Oc a → Hc a ≠ none
structure Wk (K : PySem.W.Frag) (O : AS) (H : Hp) (J : It) (ds : List D) (b : Bool) : Prop where
  go : ∀ i Oc Hc, Cn b O H Oc Hc → i < ds.length → J.go i Hc
  yld : ∀ i Oc Hc x H2 d, Cn b O H Oc Hc → J.yld i Hc x H2 → ds[i]? = some d → Same Hc H2 ∧ Rp K Oc H2 d x
  stop : ∀ i Oc Hc, Cn b O H Oc Hc → ds.length ≤ i → J.stop i Hc
def tQI (K : PySem.W.Frag) (f : Env' → Option (M × List D)) : TI := fun σ H R => ∃ H0 O g m ds, SR K H0 O H g σ ∧ f g = some (m, ds) ∧ ∀ J H', Same H H' → Wk K O H' J ds (decide (m = .bo)) → R J H'
section
variable {K : PySem.W.Frag} {O : AS} {H H' : Hp} {ds es : List D} {a c : Addr} {vs ws : List V} {b : Bool}
theorem wk_list (h : ∀ Oc Hc, Cn b O H Oc Hc → SqL K Hc a vs ∧ Rps K Oc Hc ds vs) : Wk K O H (Itl K a) ds b where
  go := fun i Oc Hc n hi => by
    obtain ⟨h1, h2⟩ := h Oc Hc n
    obtain ⟨v, e, _⟩ := h2.get (List.getElem?_eq_getElem hi)
    exact ⟨vs, v, h1, e⟩
  yld := fun i Oc Hc x H2 d n ⟨e, y⟩ hd => by
    subst e
    obtain ⟨h1, h2⟩ := h Oc H2 n
    obtain ⟨v, e, r⟩ := h2.get hd
    have := y vs h1
    rw [e] at this; cases this
    exact ⟨Same.refl _, r⟩
  stop := fun i Oc Hc n hi => by
    obtain ⟨h1, h2⟩ := h Oc Hc n
    exact ⟨vs, h1, by rw [h2.len]; exact hi⟩
theorem wk_tup (h : ∀ Oc Hc, Cn b O H Oc Hc → SqT K Hc a vs ∧ Rps K Oc Hc ds vs) : Wk K O H (Itt K a) ds b where
  go := fun i Oc Hc n hi => by
    obtain ⟨h1, h2⟩ := h Oc Hc n
    obtain ⟨v, e, _⟩ := h2.get (List.getElem?_eq_getElem hi)
    exact ⟨vs, v, h1, e⟩
  yld := fun i Oc Hc x H2 d n ⟨e, y⟩ hd => by
    subst e
    obtain ⟨h1, h2⟩ := h Oc H2 n
    obtain ⟨v, e, r⟩ := h2.get hd
    have := y vs h1
    rw [e] at this; cases this
    exact ⟨Same.refl _, r⟩
  stop := fun i Oc Hc n hi => by
    obtain ⟨h1, h2⟩ := h Oc Hc n
    exact ⟨vs, h1, by rw [h2.len]; exact hi⟩
theorem wk_rng {lo : Int} {n : Nat} : Wk K O H (Itr lo n) (rngL lo n) b where
  go := fun i Oc Hc _ hi => by
    have : i < n := by simpa [rngL] using hi
    exact this
  yld := fun i Oc Hc x H2 d _ ⟨e, y⟩ hd => by
    subst e y
    refine ⟨Same.refl _, ?_⟩
    simp only [rngL, List.getElem?_map, Option.map_eq_some_iff] at hd
    obtain ⟨k, e1, e2⟩ := hd
    subst e2
    have hk : k = i := by
      obtain ⟨h1, h2⟩ := List.getElem?_eq_some_iff.mp e1
      rw [← h2]; simp
    rw [hk]; rfl
  stop := fun i Oc Hc _ hi => by
    have : n ≤ i := by simpa [rngL] using hi
    exact this
theorem zipL_len : ∀ (ds es : List D), (zipL ds es).length = min ds.length es.length
  | [], _ => by simp [zipL]
  | _ :: _, [] => by simp [zipL]
  | d :: ds, e :: es => by rw [zipL, List.length_cons, zipL_len ds es, List.length_cons, List.length_cons]; omega
theorem zipL_get : ∀ (ds es : List D) (i : Nat) (d : D), (zipL ds es)[i]? = some d → ∃ x y, ds[i]? = some x ∧ es[i]? = some y ∧ d = .tup [x, y]
  | [], _, _, _, h => by simp [zipL] at h
  | _ :: _, [], _, _, h => by simp [zipL] at h
  | x :: ds, y :: es, 0, d, h => by simp [zipL] at h; exact ⟨x, y, rfl, rfl, h.symm⟩
  | x :: ds, y :: es, i + 1, d, h => by
    obtain ⟨u, v, h1, h2, h3⟩ := zipL_get ds es i d (by simpa [zipL] using h)
    exact ⟨u, v, by simpa using h1, by simpa using h2, h3⟩
theorem wk_zip (h : ∀ Oc Hc, Cn b O H Oc Hc → (SqL K Hc a vs ∧ Rps K Oc Hc ds vs) ∧ SqL K Hc c ws ∧ Rps K Oc Hc es ws) : Wk K O H (Itz K a c) (zipL ds es) b where
  go := fun i Oc Hc n hi => by
    obtain ⟨⟨h1, h2⟩, h3, h4⟩ := h Oc Hc n
    rw [zipL_len] at hi
    obtain ⟨v, e, _⟩ := h2.get (List.getElem?_eq_getElem (show i < ds.length by omega))
    obtain ⟨w, e2, _⟩ := h4.get (List.getElem?_eq_getElem (show i < es.length by omega))
    exact ⟨vs, ws, v, w, h1, h3, e, e2⟩
  yld := fun i Oc Hc x H2 d n ⟨T, x1, x2, e1, nT, e2, f1, f2⟩ hd => by
    obtain ⟨⟨h1, h2⟩, h3, h4⟩ := h Oc Hc n
    obtain ⟨u, v, g1, g2, rfl⟩ := zipL_get ds es i d hd
    obtain ⟨v1, k1, r1⟩ := h2.get g1
    obtain ⟨v2, k2, r2⟩ := h4.get g2
    have z1 := f1 vs h1
    have z2 := f2 ws h3
    rw [k1] at z1; cases z1
    rw [k2] at z2; cases z2
    subst e2
    refine ⟨same_new nT, T, [x1, x2], e1, not_new n.2.2 nT, upd_same, x1, [x2], rfl, ?_, x2, [], rfl, ?_, rfl⟩
    · exact Rp.nxt (.same (same_new nT)) _ _ r1
    · exact Rp.nxt (.same (same_new nT)) _ _ r2
  stop := fun i Oc Hc n hi => by
    obtain ⟨⟨h1, h2⟩, h3, h4⟩ := h Oc Hc n
    rw [zipL_len] at hi
    exact ⟨vs, ws, h1, h3, by rw [h2.len, h4.len]; omega⟩
theorem enumL_len : ∀ (ds : List D) (i : Nat), (enumL i ds).length = ds.length
  | [], _ => rfl
  | d :: ds, i => by rw [enumL, List.length_cons, List.length_cons, enumL_len ds]
theorem enumL_get : ∀ (ds : List D) (j i : Nat) (d : D), (enumL j ds)[i]? = some d → ∃ x, ds[i]? = some x ∧ d = .tup [.int ((j + i : Nat) : Int), x]
  | [], _, _, _, h => by simp [enumL] at h
  | x :: ds, j, 0, d, h => by simp [enumL] at h; exact ⟨x, rfl, h.symm⟩
  | x :: ds, j, i + 1, d, h => by
    obtain ⟨u, h1, h3⟩ := enumL_get ds (j + 1) i d (by simpa [enumL] using h)
    exact ⟨u, by simpa using h1, by rw [h3, show j + 1 + i = j + (i + 1) by omega]⟩
theorem wk_rev (h : ∀ Oc Hc, Cn b O H Oc Hc → SqL K Hc a vs ∧ Rps K Oc Hc ds vs) (hl : vs.length = ds.length) : Wk K O H (Itv K a vs.length) ds.reverse b where
  go := fun i Oc Hc n hi => by
    obtain ⟨h1, h2⟩ := h Oc Hc n
    rw [List.length_reverse] at hi
    obtain ⟨v, e, _⟩ := h2.get (List.getElem?_eq_getElem (show ds.length - 1 - i < ds.length by omega))
    exact ⟨by omega, vs, v, h1, by rw [hl]; exact e⟩
  yld := fun i Oc Hc x H2 d n ⟨e, y⟩ hd => by
    subst e
    obtain ⟨h1, h2⟩ := h Oc H2 n
    obtain ⟨hi, hd'⟩ := List.getElem?_eq_some_iff.mp hd
    rw [List.length_reverse] at hi
    rw [List.getElem?_reverse hi] at hd
    obtain ⟨v, e, r⟩ := h2.get hd
    have := y vs h1
    rw [hl, e] at this; cases this
    exact ⟨Same.refl _, r⟩
  stop := fun i Oc Hc n hi => by
    rw [List.length_reverse] at hi
    show vs.length ≤ i
    omega
/-- a list just read stays what it is -/
theorem Rm.stays {H1 : Hp} {m : M} {d : D} {v : V} (trk : ∀ a, O a → H a ≠ none) (r : Rm K O H H' m d v) (s : Same H' H1) (e : asL d = some ds) (hb : m = .bo → b = true) :
    ∃ a vs, v = .ref a ∧ SqL K H1 a vs ∧ vs.length = ds.length ∧ ∀ Oc Hc, Cn b O H1 Oc Hc → SqL K Hc a vs ∧ Rps K Oc Hc ds vs := by
  cases d <;> simp [asL] at e
  · subst e
    rename_i xs
    have key : ∀ (a : Addr) (vs : List V), H' a = some (.lst vs) → Rps K O H' xs vs → (¬ O a ∨ b = true) → ∀ Oc Hc, Cn b O H1 Oc Hc → SqL K Hc a vs ∧ Rps K Oc Hc xs vs := fun a vs h1 h2 h3 Oc Hc ⟨n1, n2, n3⟩ => by
      have n : Nxt O H' Oc Hc := (Nxt.same s).trans n1
      refine ⟨SqL.of ?_, Rps.nxt n _ _ h2⟩
      rcases h3 with h3 | h3
      · exact n.keep _ _ h3 h1
      · exact n2 h3 _ _ (s _ _ h1)
    cases m with
    | sh =>
      obtain ⟨a, vs, rfl, hO, h1, h2⟩ := r
      exact ⟨a, vs, rfl, SqL.of (s _ _ h1), h2.len, key a vs h1 h2 (.inl hO)⟩
    | fr =>
      obtain ⟨p, vs, rfl, hp, h1, h2⟩ := r
      have h2 := h2.less (O' := O) fun a z => .inl z
      exact ⟨p, vs, rfl, SqL.of (s _ _ h1), h2.len, key p vs h1 h2 (.inl (not_new trk hp))⟩
    | bo =>
      obtain ⟨a, vs, rfl, h1, h2⟩ := r
      exact ⟨a, vs, rfl, SqL.of (s _ _ h1), h2.len, key a vs h1 h2 (.inr (hb rfl))⟩
    | ex => exact r.elim
  · subst e
    rename_i ns
    cases m with
    | sh =>
      obtain ⟨a, rfl, h⟩ := r
      refine ⟨a, _, rfl, ?_, by simp, fun Oc Hc ⟨n1, _, _⟩ => ⟨?_, Rps.ofInts ns⟩⟩
      · exact h.elim (fun ⟨_, o, h⟩ => .inl (.inr ⟨o, s _ _ h⟩)) kl_of
      · exact h.elim (fun ⟨hO, o, h⟩ => .inl (.inr ⟨o, n1.keep _ _ hO (s _ _ h)⟩)) kl_of
    | fr => exact r.elim
    | bo => exact r.elim
    | ex => exact r.elim
theorem Rm.staysT {H1 : Hp} {m : M} {xs : List D} {v : V} (r : Rm K O H H' m (.tup xs) v) (s : Same H' H1) :
    ∃ a vs, v = .ref a ∧ SqT K H1 a vs ∧ ∀ Oc Hc, Cn b O H1 Oc Hc → SqT K Hc a vs ∧ Rps K Oc Hc xs vs := by
  cases m with
  | sh =>
    obtain ⟨a, vs, rfl, hO, h1, h2⟩ := r
    refine ⟨a, vs, rfl, SqT.of (s _ _ h1), fun Oc Hc ⟨n1, _, _⟩ => ⟨SqT.of (n1.keep _ _ hO (s _ _ h1)), Rps.nxt ((Nxt.same s).trans n1) _ _ h2⟩⟩
  | fr => exact r.elim
  | bo => exact r.elim
  | ex => exact r.elim
end
section
variable {X : Cx} {a b e : Expr} {fa fb : Env' → Rs} {pos p : Pos} {tg : Expr}
theorem _root_.L2.PI.imp {e : Expr} {t t' : TI} (h : PI X tg e t) (k : ∀ σ H R, t' σ H R → t σ H R) : PI X tg e t' := ⟨fun pins s σ H R I q => h.run pins s σ H R I (k _ _ _ q)⟩
/-- a list or a tuple, walked -/
def iBoth (K : PySem.W.Frag) (tl : TE) : TI := fun σ H R => tl σ H fun x H1 => ∃ a, x = .ref a ∧ (((∃ xs, SqL K H1 a xs) ∧ R (Itl K a) H1) ∨ ((∃ xs, SqT K H1 a xs) ∧ R (Itt K a) H1))
theorem pi_both {l : Expr} {tl : TE} (hl : PE X l tl) : PI X tg l (iBoth X.K tl) := ⟨fun pins s σ H R I h => thn (hl.run pins s σ H _ I h) fun v t ⟨x, H1, J, rx, a, e, w⟩ => by
  subst e
  cases rx
  rcases w with ⟨⟨xs, hx⟩, hr⟩ | ⟨⟨xs, hx⟩, hr⟩
  · obtain ⟨_, _, lst, _⟩ := J.list hx
    exact wpAny_pyIter_list lst.isList (pi_one (tk := t.toks) J _ (turn_list a _) ⟨_, Heap.get?_push_size _ rfl, rfl, rfl⟩ hr)
  · obtain ⟨its, _, tup, _⟩ := J.tuple hx
    exact wpAny_pyIter_tuple (items := its.toArray) tup (pi_one (tk := t.toks) J _ (turn_tuple a _) ⟨_, Heap.get?_push_size _ rfl, rfl, rfl⟩ hr)⟩
theorem itM_bo {m : M} (h : m = .bo) : decide (itM m = .bo) = true := by subst h; rfl
theorem i_ex (ha : PE X a (tQ X.K fa)) : PI X tg a (tQI X.K fun g => do let x ← fa g; let ds ← asLT x.2; pure (itM x.1, ds)) := by
  refine (pi_both ha).imp fun σ H R ⟨H0, O, g, m, ds, S, e, q⟩ => ?_
  simp only [Option.bind_eq_bind, Option.bind_eq_some_iff, Option.pure_def, Option.some.injEq] at e
  obtain ⟨⟨m1, d1⟩, ex, ds', e1, eb⟩ := e
  cases eb
  refine tQ.use S ex fun v H' s r => ?_
  have list : ∀ d, d1 = d → asL d = some ds → ∃ a, v = .ref a ∧ (((∃ xs, SqL X.K H' a xs) ∧ R (Itl X.K a) H') ∨ ((∃ xs, SqT X.K H' a xs) ∧ R (Itt X.K a) H')) := fun d ed el => by
    subst ed
    obtain ⟨a', vs, rfl, h1, _, h2⟩ := Rm.stays S.trk r (Same.refl H') el (b := decide (itM m1 = .bo)) itM_bo
    exact ⟨a', rfl, .inl ⟨⟨vs, h1⟩, q _ _ s (wk_list h2)⟩⟩
  cases d1 with
  | lst xs => exact list _ rfl e1
  | scr ns => exact list _ rfl e1
  | tup xs =>
    cases e1
    obtain ⟨a', vs, rfl, h1, h2⟩ := Rm.staysT r (Same.refl H') (b := decide (itM m1 = .bo))
    exact ⟨a', rfl, .inr ⟨⟨vs, h1⟩, q _ _ s (wk_tup h2)⟩⟩
  | _ => cases e1
theorem i_rng (hg : Gl X "range") (hm : X.mg "range" = none) (ns : NoStar a) (ha : PE X a (tQ X.K fa)) : PI X tg (.Call (.Name "range" p) [a] [] pos) (tQI X.K fun g => do let x ← fa g; let i ← asInt x.2; if rngOk i then pure (.sh, rngL 0 i.toNat) else none) := by
  refine (pi_range1 hg hm (pa_cons ha pa_nil (ns _ _)) (ns _ _)).imp fun σ H R ⟨H0, O, g, m, ds, S, e, q⟩ => ?_
  simp only [Option.bind_eq_bind, Option.bind_eq_some_iff, Option.pure_def] at e
  obtain ⟨x, ex, i, ei, eb⟩ := e
  split at eb
  · rename_i hk
    have hk := rngOk_some hk
    cases eb
    exact tQ.use S ex fun v H' s r => ⟨i, by rw [r.rb.toInt ei], hk.1, hk.2, q _ _ s wk_rng⟩
  · cases eb
theorem i_rng2 (hg : Gl X "range") (hm : X.mg "range" = none) (ns : NoStar a) (ns2 : NoStar b) (ha : PE X a (tQ X.K fa)) (hb : PE X b (tQ X.K fb)) :
    PI X tg (.Call (.Name "range" p) [a, b] [] pos) (tQI X.K fun g => do let x ← fa g; let y ← fb g; let i ← asInt x.2; let j ← asInt y.2; if rngOk i && rngOk j then pure (.sh, rngL i (j - i).toNat) else none) := by
  refine (pi_range2 hg hm (pa_cons ha (pa_cons hb pa_nil (ns2 _ _)) (ns _ _)) (by rw [ns, ns2]; rfl) (ns2 _ _)).imp fun σ H R ⟨H0, O, g, m, ds, S, e, q⟩ => ?_
  simp only [Option.bind_eq_bind, Option.bind_eq_some_iff, Option.pure_def] at e
  obtain ⟨x, ex, y, ey, i, ei, j, ej, eb⟩ := e
  split at eb
  · rename_i hk
    rw [Bool.and_eq_true] at hk
    have h1 := rngOk_some hk.1
    have h2 := rngOk_some hk.2
    cases eb
    exact tQ.two S ex ey fun v w H' s r1 r2 => ⟨i, j, by rw [r1.toInt ei, r2.toInt ej], ⟨h1.1, h1.2, h2.1, h2.2⟩, q _ _ s wk_rng⟩
  · cases eb
theorem i_rev (hg : Gl X "reversed") (hm : X.mg "reversed" = none) (ns : NoStar a) (ha : PE X a (tQ X.K fa)) :
    PI X tg (.Call (.Name "reversed" p) [a] [] pos) (tQI X.K fun g => do let x ← fa g; let ds ← asL x.2; pure (itM x.1, ds.reverse)) := by
  refine (pi_reversed hg hm (pa_cons ha pa_nil (ns _ _)) (ns _ _)).imp fun σ H R ⟨H0, O, g, m, ds, S, e, q⟩ => ?_
  simp only [Option.bind_eq_bind, Option.bind_eq_some_iff, Option.pure_def, Option.some.injEq] at e
  obtain ⟨⟨m1, d1⟩, ex, ds', e1, eb⟩ := e
  cases eb
  refine tQ.use S ex fun v H' s r => ?_
  obtain ⟨a', vs, rfl, h1, hl, h2⟩ := Rm.stays S.trk r (Same.refl H') e1 (b := decide (itM m1 = .bo)) itM_bo
  exact ⟨a', vs, rfl, h1, q _ _ s (wk_rev h2 hl)⟩
theorem i_zip {elts : List Expr} {kk : Nat} {tpos : Pos} (hg : Gl X "zip") (hm : X.mg "zip" = none) (ns : NoStar a) (ns2 : NoStar b) (ha : PE X a (tQ X.K fa)) (hb : PE X b (tQ X.K fb)) :
    PI X (.Tuple elts kk tpos) (.Call (.Name "zip" p) [a, b] [] pos) (tQI X.K fun g => do let x ← fa g; let y ← fb g; let ds ← asL x.2; let es ← asL y.2; pure (if x.1 = .bo ∨ y.1 = .bo then .bo else .sh, zipL ds es)) := by
  refine (pi_zip hg hm (pa_cons ha (pa_cons hb pa_nil (ns2 _ _)) (ns _ _)) (ns _ _) (by rw [ns2]; rfl)).imp fun σ H R ⟨H0, O, g, m, ds, S, e, q⟩ => ?_
  simp only [Option.bind_eq_bind, Option.bind_eq_some_iff, Option.pure_def, Option.some.injEq] at e
  obtain ⟨⟨m1, d1⟩, ex, ⟨m2, d2⟩, ey, ds1, e1, ds2, e2, eb⟩ := e
  cases eb
  refine tQ.use S ex fun v H1 s1 r1 => tQ.use (S.same s1) ey fun w H2 s2 r2 => ?_
  obtain ⟨a1, vs, rfl, h1, _, k1⟩ := Rm.stays S.trk r1 s2 e1 (b := decide ((if m1 = .bo ∨ m2 = .bo then M.bo else .sh) = .bo)) fun z => by rw [if_pos (.inl z)]; rfl
  obtain ⟨a2, ws, rfl, h2, _, k2⟩ := Rm.stays (S.same s1).trk r2 (Same.refl H2) e2 (b := decide ((if m1 = .bo ∨ m2 = .bo then M.bo else .sh) = .bo)) fun z => by rw [if_pos (.inr z)]; rfl
  exact ⟨a1, a2, vs, ws, rfl, h1, h2, q _ _ (s1.trans s2) (wk_zip fun Oc Hc n => ⟨k1 Oc Hc n, k2 Oc Hc n⟩)⟩
end
end Ev
/-! Ev: comprehensions and statements. -/
namespace Ev
open PySem PySem.Spec PyProof.Rows L2

/-! ### comprehensions -/
section
variable {K : PySem.W.Frag} {H0 : Hp} {O : AS} {H H' : Hp} {g : Env'} {σ : L2.St}
theorem wipeE_length (g : Env') : ∀ vs : List Nat, (wipeE g vs).length = g.length
  | [] => rfl
  | v :: vs => by unfold wipeE; rw [List.length_set, wipeE_length g vs]
theorem SR.setNo (S : SR K H0 O H g σ) (i : Nat) : SR K H0 O H (g.set i .no) (σ.set i none) := by
  refine ⟨S.trk, by simp [S.len], fun j s u e1 e2 => ?_, fun j k ds es a e1 e2 e3 e4 => ?_⟩
  · by_cases hj : i = j
    · subst hj
      by_cases hi : i < g.length
      · rw [List.getElem?_set_self hi] at e1
        cases e1; trivial
      · rw [List.getElem?_eq_none (by simpa using hi)] at e1; cases e1
    · rw [List.getElem?_set_ne hj] at e1 e2
      exact S.slot j s u e1 e2
  · have hj : i ≠ j := fun z => by
      subst z
      by_cases hi : i < g.length
      · rw [List.getElem?_set_self hi] at e1; cases e1
      · rw [List.getElem?_eq_none (by simpa using hi)] at e1; cases e1
    have hk : i ≠ k := fun z => by
      subst z
      by_cases hi : i < g.length
      · rw [List.getElem?_set_self hi] at e2; cases e2
      · rw [List.getElem?_eq_none (by simpa using hi)] at e2; cases e2
    rw [List.getElem?_set_ne hj] at e1 e3
    rw [List.getElem?_set_ne hk] at e2 e4
    exact S.dis j k ds es a e1 e2 e3 e4
theorem SR.wipe (S : SR K H0 O H g σ) : ∀ vs : List Nat, SR K H0 O H (wipeE g vs) (wipe σ vs)
  | [] => S
  | v :: vs => by
    unfold wipeE L2.wipe
    exact (SR.wipe S vs).setNo v
/-- a list D is being made, unknown to all data -/
theorem SR.grow (S : SR K H0 O H g σ) (s : Same H H') {D : Addr} (hD : H D = none) (hD' : H' D ≠ none) : SR K H0 (fun a => O a ∨ a = D) H' g σ := by
  have n : Nxt O H (fun a => O a ∨ a = D) H' := ⟨fun b o _ h => s b o h, fun a z => z.imp id fun e => by rw [e]; exact hD⟩
  refine ⟨fun a z => ?_, S.len, fun i x v e1 e2 => ?_, S.dis⟩
  · rcases z with z | z
    · exact trk_same S.trk s a z
    · rw [z]; exact hD'
  · have h := S.slot i x v e1 e2
    cases x with
    | no => trivial
    | sh d =>
      obtain ⟨u, e, r⟩ := h
      exact ⟨u, e, Rp.nxt n d u r⟩
    | ow ds =>
      obtain ⟨a, vs, e, h1, h2, h3, h4⟩ := h
      exact ⟨a, vs, e, .inl h1, h2, s _ _ h3, Rps.nxt n ds vs h4⟩
theorem wipe_get {σ : L2.St} {j : Nat} : ∀ {vs : List Nat}, j ∉ vs → (wipe σ vs)[j]? = σ[j]?
  | [], _ => rfl
  | v :: vs, h => by
    unfold wipe
    rw [List.getElem?_set_ne (fun z => h (by simp [z])), wipe_get fun z => h (by simp [z])]
theorem wipe_in {σ : L2.St} {j : Nat} : ∀ {vs : List Nat}, j ∈ vs → j < σ.length → (wipe σ vs)[j]? = some none
  | v :: vs, h, hl => by
    unfold wipe
    by_cases hj : v = j
    · subst hj
      rw [List.getElem?_set_self (by rw [wipe_length]; exact hl)]
    · rw [List.getElem?_set_ne hj]
      exact wipe_in ((List.mem_cons.mp h).resolve_left fun z => hj z.symm) hl
theorem wipe_eq {σ σ' : L2.St} {vs : List Nat} (hl : σ'.length = σ.length) (h : ∀ j, j ∉ vs → σ'[j]? = (wipe σ vs)[j]?) : wipe σ' vs = wipe σ vs := by
  apply List.ext_getElem?
  intro j
  by_cases hj : j ∈ vs
  · by_cases hlt : j < σ.length
    · rw [wipe_in hj hlt, wipe_in hj (by rw [hl]; exact hlt)]
    · rw [List.getElem?_eq_none (by rw [wipe_length, hl]; omega), List.getElem?_eq_none (by rw [wipe_length]; omega)]
  · rw [wipe_get hj, h j hj]
def compQ (tg : Tg) (fi : Env' → Option (M × List D)) (fc : Env' → Option Bool) (fe : Env' → Rs) : Env' → Rs := fun g => do
  let r ← fi g
  let ds ← compF (asg tg) fc fe (wipeE g (tgSlots tg)) r.2 []
  pure (.fr, .lst ds)
theorem comp_read {tg : Tg} {fi : Env' → Option (M × List D)} {fc : Env' → Option Bool} {fe : Env' → Rs} {Q : VK} (h : tQ K (compQ tg fi fc fe) σ H Q) : tLc (tQI K fi) (gQ K tg) (tQT K fc) (tQ K fe) (tgSlots tg) σ H Q := by
  obtain ⟨H0, O, g, m, d, S, e, q⟩ := h
  simp only [compQ, Option.bind_eq_bind, Option.bind_eq_some_iff, Option.pure_def, Option.some.injEq] at e
  obtain ⟨⟨mi, ds⟩, ei, out, ec, eb⟩ := e
  cases eb
  refine ⟨H0, O, g, mi, ds, S, ei, fun J H1 s1 wk D hD => ?_⟩
  have hD0 : H D = none := s1.free hD
  refine ⟨fun i m Hc => m = ds.length - i ∧ i ≤ ds.length ∧ Same H1 Hc ∧ ∃ acc vs, Hc D = some (.lst vs) ∧ Rps K (fun a => O a ∨ a = D) Hc acc vs ∧ compF (asg tg) fc fe (wipeE g (tgSlots tg)) (ds.drop i) acc = some out,
    ⟨ds.length, rfl, Nat.zero_le _, same_new hD, [], [], upd_same, rfl, ec⟩, ?_⟩
  rintro i m Hc ⟨rfl, hi, sc, acc, vs, hc, rs, eo⟩
  have sH : Same H Hc := s1.trans sc
  have cn : Cn (decide (mi = .bo)) O H1 (fun a => O a ∨ a = D) Hc := ⟨⟨fun b o _ z => sc b o z, fun a z => z.imp id fun e => by rw [e]; exact hD⟩, fun _ => sc, fun a z => by
    rcases z with z | z
    · exact trk_same S.trk sH a z
    · rw [z, hc]; simp⟩
  by_cases hlt : i < ds.length
  · refine .inr ⟨wk.go i _ _ cn hlt, fun H2 => Same H1 H2 ∧ ∃ acc vs, H2 D = some (.lst vs) ∧ Rps K (fun a => O a ∨ a = D) H2 acc vs ∧ compF (asg tg) fc fe (wipeE g (tgSlots tg)) (ds.drop (i + 1)) acc = some out, fun H2 ⟨z1, z2⟩ => ⟨ds.length - (i + 1), by omega, rfl, hlt, z1, z2⟩, fun x H2 y => ?_⟩
    have hd := List.getElem?_eq_getElem hlt
    obtain ⟨s2, rx⟩ := wk.yld i _ _ x H2 _ cn y hd
    rw [List.drop_eq_getElem_cons hlt] at eo
    simp only [compF, Option.bind_eq_bind, Option.bind_eq_some_iff] at eo
    obtain ⟨g1, eg, b, eb, er⟩ := eo
    have S2 : SR K H0 (fun a => O a ∨ a = D) H2 (wipeE g (tgSlots tg)) (wipe σ (tgSlots tg)) := (S.wipe _).grow (sH.trans s2) hD0 (by rw [s2 _ _ hc]; simp)
    refine ⟨H0, _, _, g1, _, S2, rx, eg, fun σ' S' l h => ⟨wipe_eq (by rw [l, wipe_length]) h, ?_⟩⟩
    refine ⟨H0, _, g1, b, S', eb, fun H3 s3 => ?_⟩
    cases b with
    | false =>
      rw [if_neg (by decide)] at er ⊢
      have s23 := s2.trans s3
      exact ⟨sc.trans s23, acc, vs, s23 _ _ hc, Rps.nxt (.same s23) _ _ rs, er⟩
    | true =>
      rw [if_pos rfl] at er ⊢
      simp only [Option.bind_eq_some_iff] at er
      obtain ⟨r, e1, z, e2, e3⟩ := er
      split at e3
      · rename_i hl
        have S3 := S'.same s3
        refine ⟨H0, _, g1, r.1, r.2, S3, e1, fun w H4 s4 rw' => ?_⟩
        have s24 := (s2.trans s3).trans s4
        have rz := Rm.store S3.trk rw' e2
        refine ⟨vs, s24 _ _ hc, by rw [rs.len]; exact of_decide_eq_true hl, ?_, acc ++ [z], vs ++ [w], upd_same, ?_, e3⟩
        · intro b o hb
          rw [upd_ne (ne_of_none hb hD)]
          exact s24 _ _ (sc _ _ hb)
        · have n : Nxt (fun a => O a ∨ a = D) H4 (fun a => O a ∨ a = D) (upd H4 D (.lst (vs ++ [w]))) := ⟨fun b o hb h => by rw [upd_ne fun z => hb (.inr z)]; exact h, fun a z => .inl z⟩
          exact Rps.nxt n _ _ ((Rps.nxt (.same s24) _ _ rs).app (.one rz))
      · cases e3
  · have hi' : i = ds.length := by omega
    subst hi'
    rw [List.drop_length, compF] at eo
    cases eo
    exact .inl ⟨wk.stop _ _ _ cn (Nat.le_refl _), q _ _ sH ⟨D, vs, rfl, hD0, hc, rs⟩⟩
end

/-! ### statements -/
structure SI (K : PySem.W.Frag) (H0 : Hp) (Oc O : AS) (H : Hp) (g : Env') (σ : L2.St) : Prop where
  sr : SR K H0 O H g σ
  same : Same H0 H
  out : ∀ a, Oc a → O a
  otrk : ∀ a, Oc a → H0 a ≠ none
def tS (K : PySem.W.Frag) (W : WX) (f : Env' → Option Out) : TS := fun D σ H => ∃ H0 Oc O g out, SI K H0 Oc O H g σ ∧ f g = some out ∧ match out with
  | .nx g' => ∀ σ' H' O', SI K H0 Oc O' H' g' σ' → Nxt O H O' H' → D.nx σ' H'
  | .rt m d => ∀ v H', Same H0 H' → Rm K Oc H0 H' m d v → D.rt v H'
  | .ex c g' => ∀ σ' H' O' C, SI K H0 Oc O' H' g' σ' → Nxt O H O' H' → clsA K c = some C → W (.ref C) none σ' H'
def seqF (f f2 : Env' → Option Out) : Env' → Option Out := fun g => do
  let o ← f g
  match o with
  | .nx g' => f2 g'
  | .rt m d => some (.rt m d)
  | .ex c g' => some (.ex c g')
section
variable {X : Cx} {W : WX} {st : Stmt} {sts : List Stmt} {f f2 : Env' → Option Out}
theorem s_nil : PSs X [] (tS X.K W fun g => some (.nx g)) := pss_nil.imp fun D σ H ⟨H0, Oc, O, g, out, S, e, q⟩ => by
  cases e
  exact q σ H O S (Nxt.refl O H)
theorem s_cons (h1 : PS X st (tS X.K W f)) (h2 : PSs X sts (tS X.K W f2)) : PSs X (st :: sts) (tS X.K W (seqF f f2)) := by
  refine (pss_cons h1 h2).imp fun D σ H ⟨H0, Oc, O, g, out, S, e, q⟩ => ?_
  simp only [seqF, Option.bind_eq_bind, Option.bind_eq_some_iff] at e
  obtain ⟨o, e1, e2⟩ := e
  refine ⟨H0, Oc, O, g, o, S, e1, ?_⟩
  cases o with
  | nx g' =>
    intro σ' H' O' S' n
    refine ⟨H0, Oc, O', g', out, S', e2, ?_⟩
    cases out with
    | nx g2 => exact fun σ2 H2 O2 S2 n2 => q σ2 H2 O2 S2 (n.trans n2)
    | rt m d => exact q
    | ex c g2 => exact fun σ2 H2 O2 C S2 n2 hc => q σ2 H2 O2 C S2 (n.trans n2) hc
  | rt m d =>
    cases e2
    exact q
  | ex c g2 =>
    cases e2
    exact q
/-- a no-op of the small language -/
theorem s_frz {i : Nat} (h : PSs X sts (tS X.K W f2)) : PSs X sts (tS X.K W (seqF (fun g => do let ds ← ownAt g i; let g' ← setSl i (.sh (.lst ds)) g; pure (.nx g')) f2)) := by
  refine h.imp fun D σ H ⟨H0, Oc, O, g, out, S, e, q⟩ => ?_
  simp only [seqF, Option.bind_eq_bind, Option.bind_eq_some_iff, Option.pure_def, Option.some.injEq] at e
  obtain ⟨o, ⟨ds, e1, g', e3, rfl⟩, e2⟩ := e
  have e2 : f2 g' = some out := e2
  have hi : g[i]? = some (.ow ds) := by
    unfold ownAt at e1
    split at e1
    · cases e1; assumption
    · cases e1
  obtain ⟨hil, rfl⟩ := setSl_some e3
  obtain ⟨v, ev, a, vs, rfl, h1, h2, h3, h4⟩ := S.sr.get hi
  have hO : ¬ Oc a := fun z => S.otrk a z h2
  have n : Nxt O H (fun b => O b ∧ b ≠ a) H := .less fun b z => z.1
  have hσ : i < σ.length := by rw [← S.sr.len]; exact hil
  have S' : SI X.K H0 Oc (fun b => O b ∧ b ≠ a) H (g.set i (.sh (.lst ds))) σ := by
    refine ⟨⟨fun b z => S.sr.trk b z.1, by simp [S.sr.len], fun j s u e5 e6 => ?_, fun j k ds' es b e5 e6 e7 e8 => ?_⟩, S.same, fun b z => ⟨S.out b z, fun y => hO (y ▸ z)⟩, S.otrk⟩
    · by_cases hj : i = j
      · subst hj
        rw [List.getElem?_set_self hil] at e5
        cases e5
        rw [ev] at e6; cases e6
        exact ⟨_, rfl, a, vs, rfl, fun z => z.2 rfl, h3, h4.less fun b z => z.1⟩
      · rw [List.getElem?_set_ne hj] at e5
        have hs := S.sr.slot j s u e5 e6
        cases s with
        | no => trivial
        | sh d =>
          obtain ⟨w, e, r⟩ := hs
          exact ⟨w, e, r.less fun b z => z.1⟩
        | ow es =>
          obtain ⟨b, ws, e, k1, k2, k3, k4⟩ := hs
          refine ⟨b, ws, e, ⟨k1, fun z => ?_⟩, k2, k3, k4.less fun b z => z.1⟩
          subst e z
          exact hj (S.sr.dis i j ds es b hi e5 ev e6)
    · have hj : i ≠ j := fun z => by subst z; rw [List.getElem?_set_self hil] at e5; cases e5
      have hk : i ≠ k := fun z => by subst z; rw [List.getElem?_set_self hil] at e6; cases e6
      rw [List.getElem?_set_ne hj] at e5
      rw [List.getElem?_set_ne hk] at e6
      exact S.sr.dis j k ds' es b e5 e6 e7 e8
  refine ⟨H0, Oc, _, _, out, S', e2, ?_⟩
  cases out with
  | nx g2 => exact fun σ2 H2 O2 S2 n2 => q σ2 H2 O2 S2 (n.trans n2)
  | rt m d => exact q
  | ex c g2 => exact fun σ2 H2 O2 C S2 n2 hc => q σ2 H2 O2 C S2 (n.trans n2) hc
/-! ### x = e -/
variable {e : Expr} {fe : Env' → Rs} {i : Nat} {te : TE}
def setF (own : Bool) (i : Nat) (fe : Env' → Rs) : Env' → Option Out := fun g => do let r ← fe g; let s ← slOf own r; let g' ← setSl i s g; pure (.nx g')
theorem SI.same' {K : PySem.W.Frag} {H0 H H' : Hp} {Oc O : AS} {g : Env'} {σ : L2.St} (S : SI K H0 Oc O H g σ) (s : Same H H') : SI K H0 Oc O H' g σ := ⟨S.sr.same s, S.same.trans s, S.out, S.otrk⟩
theorem SI.setSh {K : PySem.W.Frag} {H0 H : Hp} {Oc O : AS} {g g' : Env'} {σ : L2.St} (S : SI K H0 Oc O H g σ) {i : Nat} {d : D} {v : V} (r : Rp K O H d v) (h : setSl i (.sh d) g = some g') : SI K H0 Oc O H g' (σ.set i (some v)) :=
  ⟨S.sr.setSh r h, S.same, S.out, S.otrk⟩
/-- a new list gets a name -/
theorem SI.setOw {K : PySem.W.Frag} {H0 H H' : Hp} {Oc O : AS} {g g' : Env'} {σ : L2.St} {p : Addr} {vs : List V} {ds : List D} {i : Nat} (S : SI K H0 Oc O H g σ) (s : Same H H') (hp : H p = none) (hp' : H' p = some (.lst vs)) (r : Rps K (fun a => O a ∨ a = p) H' ds vs)
    (h : setSl i (.ow ds) g = some g') : SI K H0 Oc (fun a => O a ∨ a = p) H' g' (σ.set i (some (.ref p))) := by
  obtain ⟨hil, rfl⟩ := setSl_some h
  have hσ : i < σ.length := by rw [← S.sr.len]; exact hil
  have S1 := S.sr.grow s hp (by rw [hp']; simp)
  refine ⟨⟨S1.trk, by simp [S1.len], fun j s u e5 e6 => ?_, fun j k ds' es b e5 e6 e7 e8 => ?_⟩, S.same.trans s, fun b z => .inl (S.out b z), S.otrk⟩
  · by_cases hj : i = j
    · subst hj
      rw [List.getElem?_set_self hil] at e5
      rw [List.getElem?_set_self hσ] at e6
      cases e5; cases e6
      exact ⟨p, vs, rfl, .inr rfl, S.same.free hp, hp', r⟩
    · rw [List.getElem?_set_ne hj] at e5 e6
      exact S1.slot j s u e5 e6
  · have other : ∀ (j : Nat) (es : List D) (b : Addr), i ≠ j → g[j]? = some (.ow es) → σ[j]? = some (some (.ref b)) → b ≠ p := fun j es b _ y1 y2 z => by
      obtain ⟨u, eu, b', ws, e', _, _, hb, _⟩ := S.sr.get y1
      rw [y2] at eu; cases eu; cases e'
      rw [z, hp] at hb; cases hb
    by_cases hj : i = j
    · by_cases hk : i = k
      · exact hj.symm.trans hk
      · subst hj
        rw [List.getElem?_set_self hσ] at e7
        cases e7
        rw [List.getElem?_set_ne hk] at e6 e8
        exact absurd rfl (other k es p hk e6 e8)
    · by_cases hk : i = k
      · subst hk
        rw [List.getElem?_set_self hσ] at e8
        cases e8
        rw [List.getElem?_set_ne hj] at e5 e7
        exact absurd rfl (other j ds' p hj e5 e7)
      · rw [List.getElem?_set_ne hj] at e5 e7
        rw [List.getElem?_set_ne hk] at e6 e8
        exact S.sr.dis j k ds' es b e5 e6 e7 e8
theorem set_read {K : PySem.W.Frag} {own : Bool} {D' : Ends} {σ : L2.St} {H : Hp} (h : tS K W (setF own i fe) D' σ H) : tAsg (tQ K fe) (gName i) D' σ H := by
  obtain ⟨H0, Oc, O, g, out, S, e, q⟩ := h
  simp only [setF, Option.bind_eq_bind, Option.bind_eq_some_iff, Option.pure_def, Option.some.injEq] at e
  obtain ⟨⟨m, d⟩, ex, sl, es, g', eg, rfl⟩ := e
  refine tQ.use S.sr ex fun v H' s r => ?_
  show D'.nx (σ.set i (some v)) H'
  cases m with
  | sh =>
    cases es
    exact q _ _ O ((S.same' s).setSh r eg) (.same s)
  | bo => cases es
  | ex => cases es
  | fr =>
    cases d with
    | lst ds =>
      obtain ⟨p, vs, rfl, hp, hp', rs⟩ := r
      simp only [slOf] at es
      split at es
      · cases es
        refine q _ _ _ (S.setOw s hp hp' rs eg) ⟨fun b o _ h => s b o h, fun a z => z.imp id fun e => by rw [e]; exact hp⟩
      · cases es
        exact q _ _ O ((S.same' s).setSh (d := .lst ds) ⟨p, vs, rfl, not_new S.sr.trk hp, hp', rs.less fun b z => .inl z⟩ eg) (.same s)
    | _ => cases es
theorem s_set {own : Bool} (h : PS X st (tAsg (tQ X.K fe) (gName i))) : PS X st (tS X.K W (setF own i fe)) := h.imp fun _ _ _ z => set_read z
theorem s_setC {own : Bool} {tg : Tg} {fi : Env' → Option (M × List D)} {fc : Env' → Option Bool} {fe : Env' → Rs} (h : PS X st (tAsg (tLc (tQI X.K fi) (gQ X.K tg) (tQT X.K fc) (tQ X.K fe) (tgSlots tg)) (gName i))) : PS X st (tS X.K W (setF own i (compQ tg fi fc fe))) :=
  h.imp fun _ _ _ z => comp_read (set_read z)
/-! ### targets of several names -/
def unpF (is : List Nat) (fe : Env' → Rs) : Env' → Option Out := fun g => do let r ← fe g; let d ← storable r; let g' ← asg (.many is) d g; pure (.nx g')
theorem s_unp {is : List Nat} (h : PS X st (tAsg (tQ X.K fe) (gQ X.K (.many is)))) : PS X st (tS X.K W (unpF is fe)) := by
  refine h.imp fun D' σ H ⟨H0, Oc, O, g, out, S, e, q⟩ => ?_
  simp only [unpF, Option.bind_eq_bind, Option.bind_eq_some_iff, Option.pure_def, Option.some.injEq] at e
  obtain ⟨⟨m, d⟩, ex, d', ed, g', eg, rfl⟩ := e
  refine tQ.use S.sr ex fun v H' s r => ?_
  exact ⟨H0, O, g, g', d', S.sr.same s, r.store S.sr.trk ed, eg, fun σ' S' _ _ => q σ' H' O ⟨S', S.same.trans s, S.out, S.otrk⟩ (.same s)⟩
def parF (i j : Nat) (fa fb : Env' → Rs) : Env' → Option Out := fun g => do
  let x ← fa g
  let x' ← storable x
  let y ← fb g
  let y' ← storable y
  let g1 ← setSl i (.sh x') g
  let g2 ← setSl j (.sh y') g1
  pure (.nx g2)
theorem s_par {i j : Nat} {fa fb : Env' → Rs} (h : PS X st (tPar i j (tCons (tQ X.K fa) (tCons (tQ X.K fb) tNil)))) : PS X st (tS X.K W (parF i j fa fb)) := by
  refine h.imp fun D' σ H ⟨H0, Oc, O, g, out, S, e, q⟩ => ?_
  simp only [parF, Option.bind_eq_bind, Option.bind_eq_some_iff, Option.pure_def, Option.some.injEq] at e
  obtain ⟨⟨m1, d1⟩, ex, x', e1, ⟨m2, d2⟩, ey, y', e2, g1, e3, g2, e4, rfl⟩ := e
  refine tQ.use S.sr ex fun v H1 s1 r1 => tQ.use (S.sr.same s1) ey fun w H2 s2 r2 => ?_
  have r1 := Rp.nxt (.same s2) _ _ (r1.store S.sr.trk e1)
  have r2 := r2.store (S.sr.same s1).trk e2
  have s := s1.trans s2
  exact ⟨v, w, rfl, q _ H2 O (((S.same' s).setSh r1 e3).setSh r2 e4) (.same s)⟩
/-! ### lists that a def changes -/
theorem ownAt_some {g : Env'} {i : Nat} {ds : List D} (h : ownAt g i = some ds) : g[i]? = some (.ow ds) := by
  unfold ownAt at h
  split at h
  · cases h; assumption
  · cases h
/-- the list in slot i is changed -/
theorem SI.change {K : PySem.W.Frag} {H0 H : Hp} {Oc O : AS} {g g' : Env'} {σ : L2.St} {i : Nat} {ds es : List D} {p : Addr} {vs ws : List V} (S : SI K H0 Oc O H g σ) (hi : g[i]? = some (.ow ds)) (hσ : σ[i]? = some (some (.ref p))) (hH : H p = some (.lst vs))
    (r : Rps K O H es ws) (h : setSl i (.ow es) g = some g') : SI K H0 Oc O (upd H p (.lst ws)) g' σ ∧ Nxt O H O (upd H p (.lst ws)) := by
  obtain ⟨hil, rfl⟩ := setSl_some h
  obtain ⟨u, eu, p', vs', e', h1, h2, h3, h4⟩ := S.sr.get hi
  rw [hσ] at eu; cases eu; cases e'
  have n : Nxt O H O (upd H p (.lst ws)) := ⟨fun b o hb hh => by rw [upd_ne fun z => hb (by rw [z]; exact h1)]; exact hh, fun a z => .inl z⟩
  refine ⟨⟨⟨fun a z => ?_, by simp [S.sr.len], fun j s u e5 e6 => ?_, fun j k ds' es' b e5 e6 e7 e8 => ?_⟩, fun b o hb => ?_, S.out, S.otrk⟩, n⟩
  · by_cases ha : a = p
    · rw [ha, upd_same]; simp
    · rw [upd_ne ha]; exact S.sr.trk a z
  · by_cases hj : i = j
    · subst hj
      rw [List.getElem?_set_self hil] at e5
      cases e5
      rw [hσ] at e6; cases e6
      exact ⟨p, ws, rfl, h1, h2, upd_same, Rps.nxt n _ _ r⟩
    · rw [List.getElem?_set_ne hj] at e5
      have hs := S.sr.slot j s u e5 e6
      cases s with
      | no => trivial
      | sh d =>
        obtain ⟨w, e, r⟩ := hs
        exact ⟨w, e, Rp.nxt n _ _ r⟩
      | ow es' =>
        obtain ⟨b, ws', e, k1, k2, k3, k4⟩ := hs
        refine ⟨b, ws', e, k1, k2, ?_, Rps.nxt n _ _ k4⟩
        rw [upd_ne fun z => ?_]
        · exact k3
        · subst e z
          exact hj (S.sr.dis i j ds es' b hi e5 hσ e6)
  · have own : ∀ (j : Nat) (es' : List D), (g.set i (.ow es))[j]? = some (.ow es') → ∃ xs, g[j]? = some (.ow xs) := fun j es' z => by
      by_cases hj : i = j
      · subst hj; exact ⟨_, hi⟩
      · rw [List.getElem?_set_ne hj] at z; exact ⟨_, z⟩
    obtain ⟨x1, y1⟩ := own j ds' e5
    obtain ⟨x2, y2⟩ := own k es' e6
    exact S.sr.dis j k x1 x2 b y1 y2 e7 e8
  · have hb' := S.same b o hb
    rw [upd_ne fun z => by rw [z, h2] at hb; cases hb]
    exact hb'
theorem SI.own {K : PySem.W.Frag} {H0 H : Hp} {Oc O : AS} {g : Env'} {σ : L2.St} {i : Nat} {ds : List D} (S : SI K H0 Oc O H g σ) (hi : g[i]? = some (.ow ds)) : ∃ p vs, σ[i]? = some (some (.ref p)) ∧ H p = some (.lst vs) ∧ Rps K O H ds vs := by
  obtain ⟨u, eu, p, vs, rfl, _, _, h3, h4⟩ := S.sr.get hi
  exact ⟨p, vs, eu, h3, h4⟩
def appF (i : Nat) (fe : Env' → Rs) : Env' → Option Out := fun g => do
  let r ← fe g
  let x ← storable r
  let ds ← ownAt g i
  if lenOk ds.length then do let g' ← setSl i (.ow (ds ++ [x])) g; pure (.nx g') else none
theorem s_app (h : PS X st (tDrop (tBM X.K "list" rAppend (tVar i) (tCons (tQ X.K fe) tNil)))) : PS X st (tS X.K W (appF i fe)) := by
  refine h.imp fun D' σ H ⟨H0, Oc, O, g, out, S, e, q⟩ => ?_
  simp only [appF, Option.bind_eq_bind, Option.bind_eq_some_iff, Option.pure_def] at e
  obtain ⟨⟨m, d⟩, ex, x', e1, ds, e2, e3⟩ := e
  split at e3
  · rename_i hl
    simp only [Option.bind_eq_some_iff, Option.some.injEq] at e3
    obtain ⟨g', e4, rfl⟩ := e3
    have hi := ownAt_some e2
    obtain ⟨p, vs, hσ, hH, rs⟩ := S.own hi
    refine ⟨.ref p, hσ, .inl ⟨rfl, vs, SqL.of hH⟩, ?_⟩
    refine tQ.use S.sr ex fun v H' s r => ?_
    have r := r.store S.sr.trk e1
    have S' := S.same' s
    obtain ⟨p', vs', hσ', hH', rs'⟩ := S'.own hi
    rw [hσ] at hσ'; cases hσ'
    obtain ⟨S2, n2⟩ := S'.change (ws := vs' ++ [v]) hi hσ hH' (rs'.app (.one r)) e4
    refine ⟨p, vs', v, rfl, rfl, hH', by rw [rs'.len]; exact of_decide_eq_true hl, q σ _ O S2 ((Nxt.same s).trans n2)⟩
  · cases e3
def popF (i : Nat) : Env' → Option Out := fun g => do
  let ds ← ownAt g i
  let x ← ds[ds.length - 1]?
  let g' ← setSl i (.ow ds.dropLast) g
  pure (.nx g')
theorem s_pop (h : PS X st (tDrop (tBM0 X.K "list" rPop (tVar i)))) : PS X st (tS X.K W (popF i)) := by
  refine h.imp fun D' σ H ⟨H0, Oc, O, g, out, S, e, q⟩ => ?_
  simp only [popF, Option.bind_eq_bind, Option.bind_eq_some_iff, Option.pure_def, Option.some.injEq] at e
  obtain ⟨ds, e2, x, ex, g', e4, rfl⟩ := e
  have hi := ownAt_some e2
  obtain ⟨p, vs, hσ, hH, rs⟩ := S.own hi
  obtain ⟨S2, n2⟩ := S.change (ws := vs.dropLast) hi hσ hH rs.dropLast e4
  obtain ⟨y, ey, _⟩ := rs.get ex
  exact ⟨.ref p, hσ, .inl ⟨rfl, vs, SqL.of hH⟩, p, vs, y, rfl, rfl, hH, by rw [rs.len]; exact ey, q σ _ O S2 n2⟩
def popToF (j i : Nat) : Env' → Option Out := fun g => do
  let ds ← ownAt g i
  let x ← ds[ds.length - 1]?
  let g' ← setSl i (.ow ds.dropLast) g
  if i = j then none else do let g2 ← setSl j (.sh x) g'; pure (.nx g2)
theorem s_popTo {j : Nat} (h : PS X st (tAsg (tBM0 X.K "list" rPop (tVar i)) (gName j))) : PS X st (tS X.K W (popToF j i)) := by
  refine h.imp fun D' σ H ⟨H0, Oc, O, g, out, S, e, q⟩ => ?_
  simp only [popToF, Option.bind_eq_bind, Option.bind_eq_some_iff, Option.pure_def] at e
  obtain ⟨ds, e2, x, ex, g', e4, e5⟩ := e
  split at e5
  · cases e5
  · simp only [Option.bind_eq_some_iff, Option.some.injEq] at e5
    obtain ⟨g2, e6, rfl⟩ := e5
    have hi := ownAt_some e2
    obtain ⟨p, vs, hσ, hH, rs⟩ := S.own hi
    obtain ⟨S2, n2⟩ := S.change (ws := vs.dropLast) hi hσ hH rs.dropLast e4
    obtain ⟨y, ey, ry⟩ := rs.get ex
    refine ⟨.ref p, hσ, .inl ⟨rfl, vs, SqL.of hH⟩, p, vs, y, rfl, rfl, hH, by rw [rs.len]; exact ey, ?_⟩
    exact q _ _ O (S2.setSh (Rp.nxt n2 _ _ ry) e6) n2
def clrF (i : Nat) : Env' → Option Out := fun g => do let ds ← ownAt g i; let g' ← setSl i (.ow []) g; pure (.nx g')
theorem s_clr (h : PS X st (tDrop (tBM0 X.K "list" rClear (tVar i)))) : PS X st (tS X.K W (clrF i)) := by
  refine h.imp fun D' σ H ⟨H0, Oc, O, g, out, S, e, q⟩ => ?_
  simp only [clrF, Option.bind_eq_bind, Option.bind_eq_some_iff, Option.pure_def, Option.some.injEq] at e
  obtain ⟨ds, e2, g', e4, rfl⟩ := e
  have hi := ownAt_some e2
  obtain ⟨p, vs, hσ, hH, rs⟩ := S.own hi
  obtain ⟨S2, n2⟩ := S.change (ws := []) (es := []) hi hσ hH rfl e4
  exact ⟨.ref p, hσ, .inl ⟨rfl, vs, SqL.of hH⟩, p, vs, rfl, rfl, hH, q σ _ O S2 n2⟩
def subF (i : Nat) (fk fe : Env' → Rs) : Env' → Option Out := fun g => do
  let r ← fe g
  let x ← storable r
  let kk ← fk g
  let z ← asInt kk.2
  let ds ← ownAt g i
  let j ← ixN ds.length z
  let g' ← setSl i (.ow (ds.set j x)) g
  pure (.nx g')
theorem s_sub {fk : Env' → Rs} (h : PS X st (tAsg (tQ X.K fe) (gSub (tVar i) (tQ X.K fk) rSetL))) : PS X st (tS X.K W (subF i fk fe)) := by
  refine h.imp fun D' σ H ⟨H0, Oc, O, g, out, S, e, q⟩ => ?_
  simp only [subF, Option.bind_eq_bind, Option.bind_eq_some_iff, Option.pure_def, Option.some.injEq] at e
  obtain ⟨⟨m, d⟩, ex, x', e1, ⟨mk, dk⟩, ek, z, ez, ds, e2, j, ej, g', e4, rfl⟩ := e
  have hi := ownAt_some e2
  refine tQ.use S.sr ex fun v H1 s1 r1 => ?_
  have S1 := S.same' s1
  obtain ⟨p, vs, hσ, _, _⟩ := S1.own hi
  refine ⟨.ref p, hσ, tQ.use S1.sr ek fun w H2 s2 r2 => ?_⟩
  have S2 := S1.same' s2
  obtain ⟨p', vs', hσ', hH, rs⟩ := S2.own hi
  rw [hσ] at hσ'; cases hσ'
  have rv := Rp.nxt (.same s2) _ _ (r1.store S.sr.trk e1)
  obtain ⟨S3, n3⟩ := S2.change (ws := vs'.set j v) hi hσ hH (rs.set j rv) e4
  exact ⟨p, vs', z, j, rfl, r2.rb.toInt ez, hH, by rw [rs.len]; exact ej, q σ _ O S3 ((Nxt.same (s1.trans s2)).trans n3)⟩
/-! ### return -/
def retF (fe : Env' → Rs) : Env' → Option Out := fun g => do let r ← fe g; let _ ← storable r; pure (.rt r.1 r.2)
theorem Rm.outer {K : PySem.W.Frag} {O Oc : AS} {H0 H H' : Hp} (s : Same H0 H) (o : ∀ a, Oc a → O a) : ∀ {m : M} {d : D} {v : V}, Rm K O H H' m d v → Rm K Oc H0 H' m d v
  | .sh, _, _, h => h.less o
  | .fr, .lst ds, _, ⟨p, vs, e, hp, h, r⟩ => ⟨p, vs, e, s.free hp, h, r.less fun a z => z.imp (o a) id⟩
  | .bo, .lst ds, _, ⟨a, vs, e, h, r⟩ => ⟨a, vs, e, h, r.less o⟩
theorem s_ret (h : PS X st (tRet (tQ X.K fe))) : PS X st (tS X.K W (retF fe)) := by
  refine h.imp fun D' σ H ⟨H0, Oc, O, g, out, S, e, q⟩ => ?_
  simp only [retF, Option.bind_eq_bind, Option.bind_eq_some_iff, Option.pure_def, Option.some.injEq] at e
  obtain ⟨r, ex, x', e1, rfl⟩ := e
  exact tQ.use S.sr ex fun v H' s r => q v H' (S.same.trans s) (r.outer S.same S.out)
def retvF (i : Nat) : Env' → Option Out := fun g => do let ds ← ownAt g i; pure (.rt .fr (.lst ds))
theorem s_retv (h : PS X st (tRet (tVar i))) : PS X st (tS X.K W (retvF i)) := by
  refine h.imp fun D' σ H ⟨H0, Oc, O, g, out, S, e, q⟩ => ?_
  simp only [retvF, Option.bind_eq_bind, Option.bind_eq_some_iff, Option.pure_def, Option.some.injEq] at e
  obtain ⟨ds, e2, rfl⟩ := e
  obtain ⟨u, eu, p, vs, rfl, h1, h2, h3, h4⟩ := S.sr.get (ownAt_some e2)
  exact ⟨_, eu, q _ H S.same ⟨p, vs, rfl, h2, h3, h4.less fun a z => z.elim (S.out a) fun y => by rw [y]; exact h1⟩⟩
/-! ### if, while, for -/
variable {fc : Env' → Option Bool} {a b : List Stmt} {c : Expr} {pos : Pos}
def ifF (fc : Env' → Option Bool) (f f2 : Env' → Option Out) : Env' → Option Out := fun g => do let k ← fc g; if k then f g else f2 g
theorem s_if (hc : PT X c (tQT X.K fc)) (ha : PSs X a (tS X.K W f)) (hb : PSs X b (tS X.K W f2)) : PS X (.If c a b pos) (tS X.K W (ifF fc f f2)) := by
  refine (ps_if hc ha hb).imp fun D' σ H ⟨H0, Oc, O, g, out, S, e, q⟩ => ?_
  simp only [ifF, Option.bind_eq_bind, Option.bind_eq_some_iff] at e
  obtain ⟨k, ek, e2⟩ := e
  refine ⟨H0, O, g, k, S.sr, ek, fun H' s => ?_⟩
  have fin : ∀ {f : Env' → Option Out}, f g = some out → tS X.K W f D' σ H' := fun {f} e2 => by
    refine ⟨H0, Oc, O, g, out, S.same' s, e2, ?_⟩
    cases out with
    | nx g2 => exact fun σ2 H2 O2 S2 n2 => q σ2 H2 O2 S2 ((Nxt.same s).trans n2)
    | rt m d => exact q
    | ex c g2 => exact fun σ2 H2 O2 C S2 n2 hc => q σ2 H2 O2 C S2 ((Nxt.same s).trans n2) hc
  cases k with
  | true =>
    rw [if_pos rfl] at e2
    exact iteT (fin e2)
  | false =>
    rw [if_neg (by decide)] at e2
    exact iteF (fin e2)
theorem s_while (hp : PassesOwn (model X.prog X.w) X.A X.env X.xe) (n : Nat) (hc : PT X c (tQT X.K fc)) (hb : PSs X b (tS X.K W f)) : PS X (.While c b [] pos) (tS X.K W (whlF fc f n)) := by
  refine (ps_while hp hc hb).imp fun D' σ H ⟨H0, Oc, O, g, out, S, e, q⟩ => ?_
  refine ⟨fun m σ1 H1 => ∃ O1 g1, SI X.K H0 Oc O1 H1 g1 σ1 ∧ Nxt O H O1 H1 ∧ whlF fc f m g1 = some out, ⟨n, O, g, S, Nxt.refl O H, e⟩, ?_⟩
  rintro m σ1 H1 ⟨O1, g1, S1, n1, e1⟩
  cases m with
  | zero => cases e1
  | succ m =>
    simp only [whlF, Option.bind_eq_bind, Option.bind_eq_some_iff] at e1
    obtain ⟨k, ek, e2⟩ := e1
    refine ⟨H0, O1, g1, k, S1.sr, ek, fun H2 s2 => ?_⟩
    cases k with
    | false =>
      rw [if_neg (by decide)] at e2 ⊢
      cases e2
      exact q σ1 H2 O1 (S1.same' s2) (n1.trans (.same s2))
    | true =>
      rw [if_pos rfl] at e2 ⊢
      simp only [Option.bind_eq_some_iff] at e2
      obtain ⟨o, e3, e4⟩ := e2
      refine ⟨fun σ2 H2 => ∃ O1 g1, SI X.K H0 Oc O1 H2 g1 σ2 ∧ Nxt O H O1 H2 ∧ whlF fc f m g1 = some out, fun σ2 H2 z => ⟨m, Nat.lt_succ_self m, z⟩, H0, Oc, O1, g1, o, S1.same' s2, e3, ?_⟩
      cases o with
      | nx g' => exact fun σ3 H3 O3 S3 n3 => ⟨O3, g', S3, (n1.trans (.same s2)).trans n3, e4⟩
      | rt m d =>
        cases e4
        exact q
      | ex c g' =>
        cases e4
        exact fun σ3 H3 O3 C S3 n3 hc => q σ3 H3 O3 C S3 ((n1.trans (.same s2)).trans n3) hc
def forQ (tg : Tg) (fi : Env' → Option (M × List D)) (f : Env' → Option Out) : Env' → Option Out := fun g => do
  let r ← fi g
  if r.1 = .bo then none else forF (asg tg) f r.2 g
theorem s_for {tg iter : Expr} {t : Tg} {fi : Env' → Option (M × List D)} (hp : PassesOwn (model X.prog X.w) X.A X.env X.xe) (hcalm : X.calm = true) (hi : PI X tg iter (tQI X.K fi)) (hg : PG X tg (gQ X.K t)) (hb : PSs X b (tS X.K W f))
    (hs : ∀ x, foldedSetIterable iter X.env x = pure x) : PS X (.For tg iter b [] pos) (tS X.K W (forQ t fi f)) := by
  refine (ps_for hp hcalm hi hg hb hs).imp fun D' σ H ⟨H0, Oc, O, g, out, S, e, q⟩ => ?_
  simp only [forQ, Option.bind_eq_bind, Option.bind_eq_some_iff] at e
  obtain ⟨⟨mi, ds⟩, ei, e2⟩ := e
  split at e2
  · cases e2
  · rename_i hbo
    have hbo : ¬ mi = .bo := hbo
    refine ⟨H0, O, g, mi, ds, S.sr, ei, fun J H1 s1 wk => ?_⟩
    refine ⟨fun i m σ1 H2 => m = ds.length - i ∧ i ≤ ds.length ∧ ∃ O1 g1, SI X.K H0 Oc O1 H2 g1 σ1 ∧ Nxt O H1 O1 H2 ∧ forF (asg t) f (ds.drop i) g1 = some out, ⟨ds.length, rfl, Nat.zero_le _, O, g, S.same' s1, Nxt.refl O H1, e2⟩, ?_⟩
    rintro i m σ1 H2 ⟨rfl, hi, O1, g1, S1, n1, e1⟩
    have cn : Cn (decide (mi = .bo)) O H1 O1 H2 := ⟨n1, fun z => absurd (of_decide_eq_true z) hbo, S1.sr.trk⟩
    by_cases hlt : i < ds.length
    · rw [List.drop_eq_getElem_cons hlt] at e1
      simp only [forF, Option.bind_eq_bind, Option.bind_eq_some_iff] at e1
      obtain ⟨g2, eg, o, eo, e3⟩ := e1
      refine .inr ⟨wk.go i _ _ cn hlt, fun σ3 H3 => ∃ O1 g1, SI X.K H0 Oc O1 H3 g1 σ3 ∧ Nxt O H1 O1 H3 ∧ forF (asg t) f (ds.drop (i + 1)) g1 = some out, fun σ3 H3 z => ⟨ds.length - (i + 1), by omega, rfl, hlt, z⟩, fun x H3 y => ?_⟩
      obtain ⟨s2, rx⟩ := wk.yld i _ _ x H3 _ cn y (List.getElem?_eq_getElem hlt)
      refine ⟨H0, O1, g1, g2, _, S1.sr.same s2, rx, eg, fun σ' S' _ _ => ?_⟩
      refine ⟨H0, Oc, O1, g2, o, ⟨S', S1.same.trans s2, S1.out, S1.otrk⟩, eo, ?_⟩
      cases o with
      | nx g' => exact fun σ3 H4 O3 S3 n3 => ⟨O3, g', S3, (n1.trans (.same s2)).trans n3, e3⟩
      | rt m d =>
        cases e3
        exact q
      | ex c g' =>
        cases e3
        exact fun σ3 H4 O3 C S3 n3 hc => q σ3 H4 O3 C S3 ((Nxt.same s1).trans ((n1.trans (.same s2)).trans n3)) hc
    · have hi' : i = ds.length := by omega
      subst hi'
      rw [List.drop_length, forF] at e1
      cases e1
      exact .inl ⟨wk.stop _ _ _ cn (Nat.le_refl _), q σ1 H2 O1 S1 ((Nxt.same s1).trans n1)⟩
theorem s_never : PS X st (tS X.K W fun _ => none) := ps_never.imp fun D' σ H ⟨H0, Oc, O, g, out, S, e, q⟩ => by cases e
end
end Ev
/-! Ev: list(reversed(list)), l.count(x). -/
namespace Ev
open PySem PySem.Spec PyProof.Rows L2
section
variable {prog : Program} {w : World} {A : Around} {E : Value → Shared → Prop} {s : Shared}
theorem init_listRev {I l : Addr} {items : Array Value} {R : Result → Shared → Prop} (hh : A.handled = none) (S : Addr) (hit : s.heap.IsRevIter I l ((items.size : Int) - 1)) (hl : s.heap.IsList l items) (hne : l ≠ I) (hSI : S ≠ I) (hSl : S ≠ l)
    (hS : s.heap.get? S = some { cls := .type "list", data := .seq #[] })
    (hR : ∀ s' acc' c', Moved [S, I] (fun a b => b = a) s s' → s'.heap.get? S = some { cls := .type "list", dict := none, data := .seq acc' c', slots := #[] } → ItemsOf (fun i v => items[items.size - 1 - i]? = some v) acc' items.size → R (.ok (.ret .none)) s') (hn : items.size ≤ sizeLine) :
    wpAny (model prog w) A.in1 (Builtin.«list.__init__» ⟨[.ref S, .ref I], []⟩)
      (fun fin s' => match fin with | .done f => R (.ok f) s' | .again c' => c'.quiet = true ∧ codeAny (model prog w) A c' R s') (fun e s' => R (.error e) s') s := by
  have W := (Walks.listRev (prog := prog) (w := w) (A := A.in1) hh I l hne items).toS
  have hSf : S ∉ [I, l] := by simp only [List.mem_cons, List.not_mem_nil, or_false, not_or]; exact ⟨hSI, hSl⟩
  show wpAny _ A.in1 (do let old ← Builtin.List.listItems (.ref S); Builtin.List.listUpdate (.ref S) (fun _ => #[]); letGo old.toList.reverse; Builtin.List.listExtendWith (.ref S) (.ref I) .none) _ _ s
  refine wpAny_bind ?_
  unfold Builtin.List.listItems
  refine wpAny_bind (wpAny_seqItems hS rfl (wpAny_pure ?_))
  show wpAny _ A.in1 (updateSeq S (fun _ => #[]) >>= fun _ => letGo (#[] : Array Value).toList.reverse >>= fun _ => Builtin.List.listExtendWith (.ref S) (.ref I) .none) _ _ s
  refine wpAny_bind (wpAny_updateSeq hS rfl ?_)
  have hS₂ := Heap.get?_update_self (Obj.mapSeq (fun _ => (#[] : Array Value))) hS rfl
  have oth : ∀ b o, b ≠ S → s.heap.get? b = some o → (s.heap.update S (Obj.mapSeq (fun _ => (#[] : Array Value)))).get? b = some o :=
    fun b o hb e => (Heap.get?_update_other _ _ (Ne.symm hb)).trans e
  refine wpAny_bind (wpAny_letGo ?_)
  have hit1 : (s.heap.update S (Obj.mapSeq (fun _ => (#[] : Array Value)))).IsRevIter I l ((items.size : Int) - 1) := hit.at fun o e => oth _ _ (Ne.symm hSI) e
  have hl1 : (s.heap.update S (Obj.mapSeq (fun _ => (#[] : Array Value)))).IsList l items := hl.at fun o e => oth _ _ (Ne.symm hSl) e
  have hT : ({ s with heap := s.heap.update S (Obj.mapSeq (fun _ => (#[] : Array Value))) } : Shared).TypeIs (.ref I) "list_reverseiterator" := Heap.IsRevIter.typeIs (s := { s with heap := s.heap.update S (Obj.mapSeq (fun _ => (#[] : Array Value))) }) hit1
  have h1 : Builtin.List.listSameRef (.ref S) (.ref I) = false := by simp [Builtin.List.listSameRef, hSI]
  have h2 : (Value.type "list_reverseiterator" == Value.type "list") = false := by decide
  have h3 : (Value.type "list_reverseiterator" == Value.type "tuple") = false := by decide
  unfold Builtin.List.listExtendWith
  refine wpAny_bind (wpAny_typeOf hT ?_)
  simp only [h1, h2, h3, Bool.or_false, Bool.false_eq_true, if_false]
  refine wpAny_bind (wpAny_pyIter_revIter (s := { s with heap := s.heap.update S (Obj.mapSeq (fun _ => (#[] : Array Value))) }) hit1 ?_)
  refine wpAny_bind (wpAny_holding ?_)
  unfold Builtin.List.listLengthHint
  refine wpAny_bind (wpAny_specialOf hT RT.nolen_lri ?_)
  show wpAny _ A.in1 (specialOf (Value.ref I) (Str.ofString "__length_hint__") >>= _) _ _ _
  refine wpAny_bind (wpAny_specialOf hT RT.hint_lri ?_)
  generalize hid : ("list_reverseiterator.__length_hint__" : String) = id0
  wp_delta
  rw [show splitId id0 = some ("list_reverseiterator", "__length_hint__") from by subst hid; decide +kernel]
  subst hid
  refine wpAny_bind (wpAny_isInstance (b := true) hT (by rw [isSubtype_type]; kernel_rfl) ?_)
  refine wpAny_pure ?_
  rw [if_neg (by decide)]
  have oth2 := oth
  have e0 : ((items.size : Nat) : Int) - 1 - ((0 : Nat) : Int) = (items.size : Int) - 1 := by omega
  refine wpAny_pure ⟨plainId_quiet F.plain_extend_loop _, codeAny_extend_loopS W hn _ hSf _ items.size 0 _ _ _ rfl (Nat.zero_le _)
    ⟨Nat.zero_le _, by rw [e0]; exact hit.at fun o e => oth2 _ _ (Ne.symm hSI) e, hl.at fun o e => oth2 _ _ (Ne.symm hSl) e⟩ hS₂ (ItemsOf.nil _) fun s' acc' c' hm hS' hacc => ?_⟩
  have m0 : Moved [S, I] (fun a b => b = a) s { s with heap := s.heap.update S (Obj.mapSeq (fun _ => (#[] : Array Value))) } :=
    ⟨fun b o hb e => oth2 b o (fun h => hb (by rw [h]; exact List.mem_cons_self)) e, rfl, rfl, rfl, Nat.le_refl _⟩
  exact hR s' acc' c' (Moved.trans W.gtrans m0 hm) hS' hacc
theorem call_listRev {I l : Addr} {items : Array Value} {Q : Value → Shared → Prop} (hh : A.handled = none) (hit : s.heap.IsRevIter I l ((items.size : Int) - 1)) (hl : s.heap.IsList l items) (hne : l ≠ I) (hn : items.size ≤ sizeLine)
    (hQ : ∀ s' acc' c', Moved [s.heap.objs.size, I] (fun a b => b = a) { s with heap := s.heap.push { cls := .type "list", data := .seq #[] } } s' →
      s'.heap.get? s.heap.objs.size = some { cls := .type "list", dict := none, data := .seq acc' c', slots := #[] } → ItemsOf (fun i v => items[items.size - 1 - i]? = some v) acc' items.size → Q (.ref s.heap.objs.size) s') :
    wpAny (model prog w) A (call (.type "list") [.ref I]) Q E s := by
  obtain ⟨oi, hoi, _⟩ := id hit
  obtain ⟨ol, hol, _⟩ := id hl
  have hSI : s.heap.objs.size ≠ I := Nat.ne_of_gt (Heap.lt_size hoi)
  have hSl : s.heap.objs.size ≠ l := Nat.ne_of_gt (Heap.lt_size hol)
  refine callType_codes (Q₁ := fun obj s₁ => obj = .ref s.heap.objs.size ∧ s₁ = { s with heap := s.heap.push { cls := .type "list", data := .seq #[] } }) F.called_list (F.typeCall_list_1 _) F.entry_list_init
    (code_list_new _ ⟨rfl, rfl⟩) fun obj s₁ h₁ => ?_
  obtain ⟨rfl, rfl⟩ := h₁
  have hS : (s.heap.push { cls := .type "list", data := .seq #[] }).get? s.heap.objs.size = some { cls := .type "list", data := .seq #[] } := Heap.get?_push_size _ rfl
  refine ⟨⟨_, hS, rfl⟩, F.args_list_init_2 _ _, init_listRev (A := A.in1) hh _ (hit.at fun o e => Heap.get?_push_of_some _ e) (hl.push _) hne hSI hSl hS (fun s' acc' c' hm hS' hacc => ?_) hn⟩
  exact ⟨rfl, hQ s' acc' c' hm hS' hacc⟩
end
def tListRev (K : PySem.W.Frag) (te : TE) : TE := fun σ H Q => te σ H fun v H1 => ∃ (a : Addr) (xs : List V), v = .ref a ∧ SqL K H1 a xs ∧ ∀ b, H1 b = none → Q (.ref b) (upd H1 b (.lst xs.reverse))
section
variable {X : Cx}
theorem pe_listRev {e : Expr} {te : TE} {p p2 pos pos2 : Pos} (hc : X.calm = true) (hg : Gl X "list") (hm : X.mg "list" = none) (hg2 : Gl X "reversed") (hm2 : X.mg "reversed" = none) (he : PE X e te)
    (hs : starEach [e] X.env = (false, eval e X.env) :: starEach [] X.env := by rfl)
    (hs2 : starEach [.Call (.Name "reversed" p2) [e] [] pos2] X.env = (false, eval (.Call (.Name "reversed" p2) [e] [] pos2) X.env) :: starEach [] X.env := by rfl) :
    PE X (.Call (.Name "list" p) [.Call (.Name "reversed" p2) [e] [] pos2] [] pos) (tListRev X.K te) := by
  refine ⟨fun pins s σ H Q I h => ?_⟩
  refine Call_ (ld_blt I hg hm boot_list (PyProof.Rows.callWith_type1 (args_cons (Call_ (ld_blt I hg2 hm2 PyProof.Rows.boot_reversed (PyProof.Rows.callWith_type1 (args_cons (thn (he.run pins s σ H _ I h) fun u s1 ⟨v, H1, I1, r1, q1⟩ => args_nil ?_) hs) hs rfl))) hs2) hs2 rfl))
  obtain ⟨a, xs, ev, hq, q⟩ := q1
  subst ev
  obtain rfl : u = Value.ref a := r1
  obtain ⟨its, rv, p', hz⟩ := I1.list hq
  refine call_reversed_list p'.isList (args_nil ?_)
  have k0 : ∀ b o, s1.heap.get? b = some o → (s1.heap.push (revObj a ((its.toArray.size : Int) - 1))).get? b = some o := fun b o e => Heap.get?_push_of_some _ e
  have I2 : Inv X pins σ H1 { s1 with heap := s1.heap.push (revObj a ((its.toArray.size : Int) - 1)) } := I1.kept (t' := s1.toks) k0
  obtain ⟨f0, f1, f2, f3, f4, f5⟩ := I1.fpOk (H' := H1) (b := s1.heap.objs.size) (Nat.le_refl _) (I1.hok.fresh (Nat.le_refl _))
  have hl := p'.isList
  obtain ⟨ol, hol, _⟩ := id hl
  have hne : a ≠ s1.heap.objs.size := Nat.ne_of_lt (Heap.lt_size hol)
  have hn : its.toArray.size ≤ sizeLine := by rw [List.size_toArray, ← rv.length]; exact hz
  refine call_listRev (s := { s1 with heap := s1.heap.push (revObj a ((its.toArray.size : Int) - 1)) }) (I1.ok.hd hc) ⟨_, Heap.get?_push_size _ rfl, rfl, rfl⟩ (hl.push _) hne hn fun s' acc c' hm hS hi => ?_
  have hsz : (s1.heap.push (revObj a ((its.toArray.size : Int) - 1))).objs.size = s1.heap.objs.size + 1 := by simp [Heap.push]
  have big : s1.heap.objs.size ≤ (s1.heap.push (revObj a ((its.toArray.size : Int) - 1))).objs.size := by rw [hsz]; omega
  have hk : ∀ b o, b ≠ s1.heap.objs.size → (s1.heap.push (revObj a ((its.toArray.size : Int) - 1))).get? b = some o → s'.heap.get? b = some o := fun b o hb e => hm.heap b o (fun z => by
    rcases List.mem_cons.mp z with z | z
    · exact absurd (Heap.lt_size e) (by rw [z]; exact Nat.lt_irrefl _)
    · exact hb (List.mem_singleton.mp z)) (Heap.get?_push_of_some _ e)
  have es0 := Moved.eq_with hm
  have es : s' = { s1 with heap := s'.heap, toks := s'.toks } := es0
  have hk0 : ∀ b o, s1.heap.get? b = some o → s'.heap.get? b = some o := fun b o e => hk b o (Nat.ne_of_lt (Heap.lt_size e)) (k0 b o e)
  rw [es]
  refine ⟨.ref _, upd H1 _ (.lst xs.reverse), I1.laid (t' := s'.toks) hk0 big (show ObjOk X.prog X.w _ _ _ (.lst xs.reverse) from ⟨by rw [List.length_reverse]; exact hz, acc.toList, c', RT.vals_rev rv hi, ?_⟩), rfl, q _ (I1.hok.fresh big)⟩
  rw [Array.toArray_toList]
  exact hS
end
theorem countP_toPys (x : D) : ∀ ds : List D, (toPys ds).countP (fun z => PyData.eqv z (toPy x)) = (ds.filter fun z => eqvD z x).length
  | [] => rfl
  | d :: ds => by
    rw [toPys, List.countP_cons, countP_toPys x ds, List.filter_cons]
    show _ + (if eqvD d x = true then 1 else 0) = _
    cases eqvD d x <;> rfl
/-- l.count(x) -/
def rCntD (K : PySem.W.Frag) : V → List V → Hp → VK → Prop := fun x xs H Q => ∃ (a : Addr) (ys : List V) (y : V) (d : PyData) (ds : List PyData), x = V.ref a ∧ xs = [y] ∧ SqL K H a ys ∧ DpAll K H ys ds ∧ Dp K H y d ∧
  SeqAt.shaped (.list ds) = true ∧ SeqAt.shaped d = true ∧ Q (.int ((ds.countP fun z => PyData.eqv z d : Nat) : Int)) H
section
variable {X : Cx}
theorem mt_cntD (hu : X.A.units + 65 < cLine) : MtR X "list.count" (rCntD X.K) := by
  intro pins s σ H x xs v us Q I rx rxs h
  obtain ⟨a, ys, y, d, ds, rfl, rfl, hs, ha, hy, sl, sd, q⟩ := h
  cases rx
  obtain ⟨uy, rfl, ry⟩ := rxs.one
  obtain ⟨bs, r1⟩ := Dp.reads I d y uy hy ry
  have hxs : PyData.canLayAll0 ds = true := SeqAt.canLay_of_shaped sl
  have hroom : X.A.units + 1 + min (PyData.depthAll ds) d.depth < cLine := room_in_shaped sd hu
  obtain ⟨its, rv, ⟨⟨cls, dd, data, sls⟩, n, ho, hc, hdn, hdt⟩, hlen⟩ := I.list hs
  simp only at hc hdt
  subst hc hdt
  obtain ⟨as, h4⟩ := Dp.readsAll I ds _ its ha rv
  have hmap : its.map (SeqAt.readOf s.heap) = ds := SeqAt.readsAll_map ds its as hxs h4
  refine call_meets PySem.F.slot_list_count ⟨_, ho, rfl⟩ PySem.F.entry_list_count (PySem.F.args_list_count_2 _ _)
    (SeqAt.list_countAt a its.toArray n dd sls uy (fun u => PyData.eqv (SeqAt.readOf s.heap u) d)) ⟨ho, SeqAt.items_eqAt (vs := its.toArray) (show ReadsAll s.heap its.toArray.toList ds as from h4) r1 hxs (SeqAt.canLay_of_shaped sd) hroom, ?_⟩
  have ec : its.toArray.toList.countP (fun u => PyData.eqv (SeqAt.readOf s.heap u) d) = ds.countP fun z => PyData.eqv z d := by
    rw [← hmap, List.countP_map]
    rfl
  refine ⟨.int ((ds.countP fun z => PyData.eqv z d : Nat) : Int), H, I.tok _, ⟨s.toks, ?_⟩, q⟩
  show Value.int ((its.toArray.toList.countP (fun u => PyData.eqv (SeqAt.readOf s.heap u) d) : Nat) : Int) s.toks = Value.int ((ds.countP fun z => PyData.eqv z d : Nat) : Int) s.toks
  rw [ec]
variable {a b : Expr} {fa fb : Env' → Rs} {pos : Pos} {tg : Expr}
theorem q_cnt {x : Str} {p apos cpos : Pos} (hu : X.A.units + 65 < cLine) (nb : NoStar b) (hl : (apos.endLine == cpos.line) = true) (hf : ((backTo cpos (starEach [b] X.env)).all (fun x => !x.1) && (backToKw cpos (keywordEach [] X.env)).all (fun x => x.1.isSome)
      && decide ([b].length + ([] : List Keyword).length + (if ([] : List Keyword).isEmpty then 0 else 1) < 30)) = true) (ha : PE X (.Name x p) (tQ X.K fa)) (hb : PE X b (tQ X.K fb)) :
    PE X (.Call (.Attribute (.Name x p) "count" apos) [b] [] cpos) (tQ X.K fun g => do let x ← fa g; let y ← fb g; let ds ← asL x.2; if shD (.lst ds) && shD y.2 then pure (.sh, .int ((ds.filter fun z => eqvD z y.2).length : Nat)) else none) := by
  refine (pe_bm PySem.F.plainAttrs_list PySem.F.slot_list_count PySem.F.type_list_count (mt_cntD hu) ha (pa_cons hb pa_nil (nb _ _)) rfl hf hl (nb _ _) rfl).imp fun σ H Q ⟨H0, O, g, m, d, S, e, q⟩ => ?_
  simp only [Option.bind_eq_bind, Option.bind_eq_some_iff] at e
  obtain ⟨x, ex, y, ey, ds, ed, eb⟩ := e
  split at eb
  · rename_i hk
    simp only [shD, Bool.and_eq_true] at hk
    cases eb
    refine tQ.use S ex fun v H1 s1 r1 => ?_
    obtain ⟨a, vs, rfl, hs, rs⟩ := r1.rb.toL ed
    refine ⟨.inl ⟨rfl, vs, hs⟩, ?_⟩
    refine tQ.use (S.same s1) ey fun w H2 s2 r2 => ?_
    obtain ⟨a', vs', e', hs', rs'⟩ := (r1.rb.same s2).toL ed
    cases e'
    refine ⟨a, vs', w, toPy y.2, toPys ds, rfl, rfl, hs', Rps.dp _ _ (by have := hk.1.1; rw [noX] at this; exact this) rs', r2.rb.dp hk.2.1, hk.1.2, hk.2.2, ?_⟩
    rw [countP_toPys]
    exact q _ H2 (s1.trans s2) rfl
  · cases eb
theorem q_listRev {p p2 pos2 : Pos} (hc : X.calm = true) (hg : Gl X "list") (hm : X.mg "list" = none) (hg2 : Gl X "reversed") (hm2 : X.mg "reversed" = none) (ns : NoStar a) (ha : PE X a (tQ X.K fa)) :
    PE X (.Call (.Name "list" p) [.Call (.Name "reversed" p2) [a] [] pos2] [] pos) (tQ X.K fun g => do let x ← fa g; b1D .lrev x.2) := by
  refine (pe_listRev hc hg hm hg2 hm2 ha (ns _ _) rfl).imp fun σ H Q ⟨H0, O, g, m, d, S, e, q⟩ => ?_
  simp only [Option.bind_eq_bind, Option.bind_eq_some_iff] at e
  obtain ⟨x, ex, eb⟩ := e
  simp only [b1D, Option.map_eq_some_iff] at eb
  obtain ⟨ds, e1, e2⟩ := eb
  cases e2
  refine tQ.use S ex fun v H' s r => ?_
  obtain ⟨a, vs, rfl, hs, rs⟩ := r.rb.toL e1
  refine ⟨a, vs, rfl, hs, fun p hp => q _ _ (s.trans (same_new hp)) ⟨p, _, rfl, s.free hp, upd_same, Rps.nxt (.same (same_new hp)) _ _ (rs.rev.plus hp)⟩⟩
theorem wk_enum {K : PySem.W.Frag} {O : AS} {H : Hp} {ds : List D} {a : Addr} {vs : List V} {b : Bool} (h : ∀ Oc Hc, Cn b O H Oc Hc → SqL K Hc a vs ∧ Rps K Oc Hc ds vs) : Wk K O H (Ite K a) (enumL 0 ds) b where
  go := fun i Oc Hc n hi => by
    obtain ⟨h1, h2⟩ := h Oc Hc n
    rw [enumL_len] at hi
    obtain ⟨v, e, _⟩ := h2.get (List.getElem?_eq_getElem hi)
    exact ⟨vs, v, h1, e⟩
  yld := fun i Oc Hc x H2 d n ⟨T, x1, e1, nT, e2, f1⟩ hd => by
    obtain ⟨h1, h2⟩ := h Oc Hc n
    obtain ⟨u, g1, rfl⟩ := enumL_get ds 0 i d hd
    obtain ⟨v1, k1, r1⟩ := h2.get g1
    have z1 := f1 vs h1
    rw [k1] at z1; cases z1
    subst e2
    refine ⟨same_new nT, T, [.int (i : Nat), x1], e1, not_new n.2.2 nT, upd_same, .int (i : Nat), [x1], rfl, by rw [Nat.zero_add]; exact rfl, x1, [], rfl, ?_, rfl⟩
    exact Rp.nxt (.same (same_new nT)) _ _ r1
  stop := fun i Oc Hc n hi => by
    obtain ⟨h1, h2⟩ := h Oc Hc n
    rw [enumL_len] at hi
    exact ⟨vs, h1, by rw [h2.len]; exact hi⟩
theorem i_enum {elts : List Expr} {kk : Nat} {p tpos : Pos} (hg : Gl X "enumerate") (hm : X.mg "enumerate" = none) (ns : NoStar a) (ha : PE X a (tQ X.K fa)) :
    PI X (.Tuple elts kk tpos) (.Call (.Name "enumerate" p) [a] [] pos) (tQI X.K fun g => do let x ← fa g; let ds ← asL x.2; pure (itM x.1, enumL 0 ds)) := by
  refine (pi_enum hg hm (pa_cons ha pa_nil (ns _ _)) (ns _ _)).imp fun σ H R ⟨H0, O, g, m, ds, S, e, q⟩ => ?_
  simp only [Option.bind_eq_bind, Option.bind_eq_some_iff, Option.pure_def, Option.some.injEq] at e
  obtain ⟨⟨m1, d1⟩, ex, ds', e1, eb⟩ := e
  cases eb
  refine tQ.use S ex fun v H' s r => ?_
  obtain ⟨a', vs, rfl, h1, hl, h2⟩ := Rm.stays S.trk r (Same.refl H') e1 (b := decide (itM m1 = .bo)) itM_bo
  exact ⟨a', vs, rfl, h1, q _ _ s (wk_enum h2)⟩
end
end Ev
/-! Ev: errors: the classes, isinstance, raise, try. -/
namespace Ev
open PySem PySem.Spec PyProof.Rows L2
/-- what the written part says of the class c, at C -/
structure ClsK (K : PySem.W.Frag) (mg : Str → Option Value) (c : Nat) (C : Addr) : Prop where
  at_ : clsA K c = some C
  mg : mg (xName c) = some (.ref C)
  keep : PySem.W.keepIn K (.ref C) = true
  ty : PySem.W.typeIn K (.ref C) = some (.type "type")
  ex : PySem.W.excIn K C [.type "ValueError", .type "Exception", .type "BaseException", .type "object"] "ValueError.__new__" = true
  ec : ExcC K C
  val : PySem.W.subIn K (.ref C) (.type "ValueError") = some true
structure XK (K : PySem.W.Frag) (mg : Str → Option Value) : Prop where
  cls : ∀ c, c < 6 → ∃ C, ClsK K mg c C
  sub : ∀ c d C D, c < 6 → d < 6 → clsA K c = some C → clsA K d = some D → PySem.W.subIn K (.ref C) (.ref D) = some (subX c d)
  ve : mg "ValueError" = none
section
variable {K : PySem.W.Frag} {mg : Str → Option Value}
theorem subX_self (c : Nat) : subX c c = true := by unfold subX; simp
theorem XK.kit (x : XK K mg) {c d : Nat} {C D : Addr} (hc : c < 6) (hd : d < 6) (eC : clsA K c = some C) (eD : clsA K d = some D) : PySem.W.kitOne K (.ref C) (.ref D) = some (subX c d) := by
  have h := x.sub c d C D hc hd eC eD
  unfold PySem.W.kitOne
  by_cases e : (Value.ref C == Value.ref D) = true
  · rw [if_pos e]
    have e' : C = D := Value.ref.inj (beq_iff_eq.mp e)
    subst e'
    have h2 := x.sub c c C C hc hc eC eC
    rw [h, subX_self] at h2
    exact h2.symm
  · rw [if_neg e]
    obtain ⟨D', k⟩ := x.cls d hd
    have e2 := k.at_
    rw [eD] at e2; cases e2
    obtain ⟨cd, hcd, _⟩ := PySem.W.any_some k.ec.hd
    show (if ((PySem.W.clsIn K D).isSome && PySem.W.typeIn K (.ref D) == some (.type "type")) = true then PySem.W.subIn K (.ref C) (.ref D) else none) = _
    have z : ((PySem.W.clsIn K D).isSome && PySem.W.typeIn K (.ref D) == some (.type "type")) = true := by rw [hcd, k.ty]; rfl
    rw [if_pos z]
    exact h
theorem XK.kitV (x : XK K mg) {c : Nat} {C : Addr} (hc : c < 6) (eC : clsA K c = some C) : PySem.W.kitOne K (.ref C) (.type "ValueError") = some true := by
  obtain ⟨C', k⟩ := x.cls c hc
  have e2 := k.at_
  rw [eC] at e2; cases e2
  unfold PySem.W.kitOne
  rw [if_neg (fun z => by cases beq_iff_eq.mp z)]
  show (if PySem.W.kitMeta "ValueError" = true then PySem.W.subIn K (.ref C) (.type "ValueError") else none) = _
  rw [if_pos (by decide +kernel), k.val]
theorem XK.exm (x : XK K mg) {c : Nat} {C D : Addr} (hc : c < 6) (eC : clsA K c = some C) (eD : clsA K 0 = some D) : PySem.W.exmOne K (.ref C) (.ref D) = some true := by
  obtain ⟨D', k⟩ := x.cls 0 (by omega)
  have e2 := k.at_
  rw [eD] at e2; cases e2
  have h := x.sub c 0 C D hc (by omega) eC eD
  exact PySem.W.exm_ref k.ec.hs k.ec.hd k.ty (by rw [h]; simp [subX])
end

/-! ### isinstance -/
def xNameV (d : Nat) : Str := if d = 6 then "ValueError" else xName d
def rIsX (K : PySem.W.Frag) : List V → Hp → VK → Prop := fun xs H Q => ∃ (a C : Addr) (y : V) (b : Bool), xs = [.ref a, y] ∧ H a = some (ExV (.ref C) a) ∧ ExcC K C ∧
  ((∃ c, (∀ u, RelV y u → u = c) ∧ PySem.W.kitOne K (.ref C) c = some b) ∨ (∃ T ys cs, y = .ref T ∧ H T = some (.tup ys) ∧ (∀ us, Vals ys us → us = cs) ∧ PySem.W.kitAny K (.ref C) cs = some b)) ∧ Q (.bl b) H
section
variable {X : Cx}
theorem call_isX : CallR X (.builtin "isinstance") (rIsX X.K) := by
  intro pins s σ H xs us Q I r h
  obtain ⟨a, C, y, b, rfl, ha, ec, hy, q⟩ := h
  cases r with
  | cons rx rr =>
    cases rr with
    | cons rt rr =>
      rename_i uy _
      cases rr
      cases rx
      obtain ⟨⟨oe, vs, hget, hz, hv⟩, _, _⟩ := (show ObjOk X.prog X.w H s.heap a (ExV (.ref C) a) from I.hok a _ ha)
      have J : PySem.W.InstAt s.heap a oe C none := by
        obtain ⟨oc, od, oda, osl⟩ := oe
        obtain ⟨h1, h2⟩ := hz
        dsimp only at h1 h2 hv
        subst h1 h2 hv
        exact ⟨hget, rfl, rfl, trivial⟩
      have Z := PySem.W.handS_kitx_exc (x := a) (ox := oe) ec.hg ec.hk ec.hs ec.hd ec.ha ec.hn ec.ht ec.hm
      rcases hy with ⟨c, hc, e⟩ | ⟨T, ys, cs, rfl, hT, hcs, e⟩
      · obtain rfl := hc _ rt
        exact PySem.W.kia_one Z I.kIn J e (fun z => nomatch z) fun tk => ⟨.bl b, H, I.kept (t' := tk) fun _ _ z => z, rfl, q⟩
      · cases rt
        obtain ⟨its, rv, ⟨o, ho, hcl, n, hd⟩, _⟩ := I.tuple (SqT.of hT)
        obtain rfl := hcs _ rv
        obtain ⟨oc, od, oda, osl⟩ := o
        dsimp only at hcl hd
        subst hcl hd
        exact PySem.W.kia_tup Z I.kIn J ho e (fun z => nomatch z) fun tk => ⟨.bl b, H, I.kept (t' := tk) fun _ _ z => z, rfl, q⟩
variable {a y : Expr} {fa : Env' → Rs} {p pos : Pos}
theorem pe_cls (xk : XK X.K X.mg) {d : Nat} (hd : d < 7) {q : Pos} (hg : Gl X (xNameV d)) : ∃ v cv, PE X (.Name (xNameV d) q) (tC v) ∧ (∀ u, RelV v u → u = cv) ∧ ∀ c C, c < 6 → clsA X.K c = some C → PySem.W.kitOne X.K (.ref C) cv = some (subX c d) := by
  by_cases h6 : d = 6
  · subst h6
    refine ⟨.ty "ValueError", .type "ValueError", pe_bltn hg xk.ve (by decide +kernel) rfl (by decide +kernel) (by decide +kernel), fun u z => z, fun c C hc eC => ?_⟩
    rw [xk.kitV hc eC]
    simp [subX]
  · have hd6 : d < 6 := by omega
    have en : xNameV d = xName d := if_neg h6
    obtain ⟨D, k⟩ := xk.cls d hd6
    rw [en] at hg ⊢
    exact ⟨.ref D, .ref D, pe_glob hg k.mg rfl (by
      rcases (show d = 0 ∨ d = 1 ∨ d = 2 ∨ d = 3 ∨ d = 4 ∨ d = 5 by omega) with rfl | rfl | rfl | rfl | rfl | rfl <;> decide +kernel), fun u z => z, fun c C hc eC => xk.kit hc hd6 eC k.at_⟩
/-- names of classes -/
def okCls (glob : Str → Bool) : List Nat → List Expr → Bool
  | [], [] => true
  | d :: ds, e :: es => decide (d < 7) && (match e with
    | .Name x _ => decide (x = xNameV d) && glob x
    | _ => false) && okCls glob ds es
  | _, _ => false
def tVs (vs : List V) : TA := fun _ H Q => Q vs H
theorem pa_cls (xk : XK X.K X.mg) {glob : Str → Bool} (hg : ∀ x, glob x = true → Gl X x) : ∀ (ds : List Nat) (es : List Expr), okCls glob ds es = true →
    ∃ vs cs, PA X es (tVs vs) ∧ (∀ us, Vals vs us → us = cs) ∧ vs.length = ds.length ∧ (∀ env, starEach es env = es.map fun e => (false, eval e env)) ∧ ∀ c C, c < 6 → clsA X.K c = some C → PySem.W.kitAny X.K (.ref C) cs = some (ds.any fun d => subX c d)
  | [], [], _ => ⟨[], [], pa_nil.imp fun σ H Q h => h, fun us r => by cases r; rfl, rfl, fun _ => rfl, fun c C hc eC => rfl⟩
  | d :: ds, e :: es, h => by
    unfold okCls at h
    simp only [Bool.and_eq_true, decide_eq_true_eq] at h
    obtain ⟨⟨h1, h2⟩, h3⟩ := h
    split at h2
    · rename_i x q
      simp only [Bool.and_eq_true, decide_eq_true_eq] at h2
      obtain ⟨rfl, h4⟩ := h2
      obtain ⟨v, cv, pv, rv, kv⟩ := pe_cls xk h1 (q := q) (hg _ h4)
      obtain ⟨vs, cs, pvs, rvs, hl, hst, kvs⟩ := pa_cls xk hg ds es h3
      refine ⟨v :: vs, cv :: cs, (pa_cons pv pvs rfl).imp fun σ H Q z => ?_, fun us r => ?_, by simp [hl], fun env => ?_, fun c C hc eC => ?_⟩
      · exact z
      · cases r with
        | cons r rr => rw [rv _ r, rvs _ rr]
      · show (false, eval _ env) :: starEach es env = _
        rw [hst]; rfl
      · unfold PySem.W.kitAny
        rw [kv c C hc eC, List.any_cons]
        cases subX c d with
        | true => rfl
        | false =>
          show PySem.W.kitAny X.K (.ref C) cs = _
          rw [kvs c C hc eC]; rfl
    · cases h2
  | [], _ :: _, h => by cases h
  | _ :: _, [], h => by cases h
/-- isinstance(e, C), isinstance(e, (C, ..)) -/
def isxF (cs : List Nat) (fa : Env' → Rs) : Env' → Rs := fun g => do let x ← fa g; let k ← isxD cs x.2; pure (.sh, .bl k)
theorem isxD_some {cs : List Nat} {d : D} {k : Bool} (h : isxD cs d = some k) : ∃ c, d = .exc c ∧ c < 6 ∧ k = cs.any fun d => subX c d := by
  cases d <;> simp only [isxD] at h <;> try cases h
  split at h
  · cases h; exact ⟨_, rfl, by assumption, rfl⟩
  · cases h
theorem q_isx1 (xk : XK X.K X.mg) {d : Nat} {q : Pos} (hd : d < 7) (hg : Gl X "isinstance") (hm : X.mg "isinstance" = none) (hg2 : Gl X (xNameV d)) (ns : NoStar a) (ha : PE X a (tQ X.K fa)) :
    PE X (.Call (.Name "isinstance" p) [a, .Name (xNameV d) q] [] pos) (tQ X.K (isxF [d] fa)) := by
  obtain ⟨v, cv, pv, rv, kv⟩ := pe_cls xk hd (q := q) hg2
  refine (pe_callB call_isX hg hm boot_isinstance (pa_cons ha (pa_cons pv pa_nil) (ns _ _)) (by decide) (by decide) (ns _ _)).imp fun σ H Q ⟨H0, O, g, m, z, S, e, q⟩ => ?_
  simp only [isxF, Option.bind_eq_bind, Option.bind_eq_some_iff, Option.pure_def, Option.some.injEq] at e
  obtain ⟨x, ex, k, ek, eb⟩ := e
  cases eb
  obtain ⟨c, e1, hc, rfl⟩ := isxD_some ek
  refine tQ.use S ex fun w H' s r => ?_
  have r := r.rb
  rw [e1] at r
  obtain ⟨a', C, rfl, _, eC, hH⟩ := r
  obtain ⟨C', k⟩ := xk.cls c hc
  have e2 := k.at_
  rw [eC] at e2; cases e2
  refine ⟨a', C, v, _, rfl, hH, k.ec, .inl ⟨cv, rv, kv c C hc eC⟩, ?_⟩
  have ee : ([d].any fun d => subX c d) = subX c d := by simp
  rw [ee] at q
  exact q _ H' s rfl
theorem q_isxs (xk : XK X.K X.mg) {ds : List Nat} {es : List Expr} {kk : Nat} {q : Pos} {glob : Str → Bool} (hgl : ∀ x, glob x = true → Gl X x) (ho : okCls glob ds es = true) (hl : ds.length ≤ 1000) (hg : Gl X "isinstance") (hm : X.mg "isinstance" = none) (ns : NoStar a) (ha : PE X a (tQ X.K fa)) :
    PE X (.Call (.Name "isinstance" p) [a, .Tuple es kk q] [] pos) (tQ X.K (isxF ds fa)) := by
  obtain ⟨vs, cs, pvs, rvs, hlv, hst, kvs⟩ := pa_cls xk hgl ds es ho
  refine (pe_callB call_isX hg hm boot_isinstance (pa_cons ha (pa_cons (pe_tup pvs) pa_nil) (ns _ _)) (by decide) (by decide) (ns _ _)).imp fun σ H Q ⟨H0, O, g, m, z, S, e, q⟩ => ?_
  simp only [isxF, Option.bind_eq_bind, Option.bind_eq_some_iff, Option.pure_def, Option.some.injEq] at e
  obtain ⟨x, ex, k, ek, eb⟩ := e
  cases eb
  obtain ⟨c, e1, hc, rfl⟩ := isxD_some ek
  refine tQ.use S ex fun w H' s r => ?_
  have r := r.rb
  rw [e1] at r
  obtain ⟨a', C, rfl, _, eC, hH⟩ := r
  obtain ⟨C', k⟩ := xk.cls c hc
  have e2 := k.at_
  rw [eC] at e2; cases e2
  refine ⟨by rw [hlv, sizeLine_eq]; omega, fun T hT => ?_⟩
  refine ⟨a', C, .ref T, _, rfl, by rw [upd_ne (ne_of_none hH hT)]; exact hH, k.ec, .inr ⟨T, vs, cs, rfl, upd_same, rvs, kvs c C hc eC⟩, ?_⟩
  exact q _ _ (s.trans (same_new hT)) rfl
end
end Ev
/-! Ev: try: body, except C as n: y = n; the error stays what it is behind the clause. -/
namespace Ev
open PySem PySem.Spec PyProof.Rows L2
section
variable {X : Cx} {pins : List (Addr × Obj)} {σ : L2.St} {H : Hp} {s : Shared}
theorem exV_ok {P : Program} {w : World} {H : Hp} {h : Heap} {a : Addr} {cls : Value} {oe : Obj} {vs : Array Value} (e : h.get? a = some oe) (z : Zc cls none oe) (d : oe.data = .fields vs) : ObjOk P w H h a (ExV cls a) :=
  ⟨⟨oe, vs, e, z, d⟩, ⟨oe, e⟩, fun _ _ ⟨o, v, q, r⟩ k => ⟨o, v, k o q, r⟩⟩
theorem hok_track {P : Program} {w : World} {H : Hp} {h : Heap} {a : Addr} {o : HO} (x : HOk P w H h) (hn : H a = none) (new : ObjOk P w (upd H a o) h a o) : HOk P w (upd H a o) h := fun b u e => by
  by_cases hb : b = a
  · subst hb
    rw [upd_same] at e
    cases e
    exact new
  · rw [upd_ne hb] at e
    exact (x b u e).stay (fun c v _ q => q) (fun c q => by rw [upd_ne (ne_of_none q hn)]; exact q) fun c xs q => by rw [upd_ne (ne_of_none q hn)]; exact q
/-- an object that is new since the entry, not tracked: it may be -/
theorem _root_.L2.Inv.track {a : Addr} {o : HO} {oe : Obj} (I : Inv X pins σ H s) (ha : s.heap.get? a = some oe) (na : H a = none) (n0 : X.s_0.heap.get? a = none) (np : ∀ p ∈ X.pn ++ pins, p.1 ≠ a) (nL : a ≠ X.env.locals) (hd : ∀ v, oe.data ≠ .cell v)
    (new : ObjOk X.prog X.w (upd H a o) s.heap a o) : Inv X pins σ (upd H a o) s := by
  refine ⟨I.ok, I.os, I.bare, ⟨I.base.keep, I.base.slot, fun b u q n hx => ?_, I.base.there, fun b xs q => ?_, fun b u xs q => ?_, fun b ps q => ?_⟩, I.loc, I.cell, ?_, fun x c e => ?_, fun p hp => ?_, hok_track I.hok na new, I.len⟩
  · rw [upd_ne (fun z => by rw [z, n0] at q; cases q)]
    exact I.base.free b u q n hx
  · have z := I.base.tups b xs q
    rw [upd_ne (ne_of_none z na)]; exact z
  · have z := I.base.frzs b u xs q
    rw [upd_ne (ne_of_none z na)]; exact z
  · obtain ⟨m, z⟩ := I.base.tbls b ps q
    exact ⟨m, by rw [upd_ne (ne_of_none z na)]; exact z⟩
  · rw [upd_ne (Ne.symm nL)]; exact I.free
  · rw [upd_ne (fun z => ?_)]
    · exact I.freeC x c e
    · subst z
      obtain ⟨v, o', ho, hdo⟩ := I.cell x c e
      rw [ha] at ho; cases ho
      exact hd _ hdo
  · obtain ⟨e, n, ne, nf, d⟩ := I.pin p hp
    exact ⟨e, by rw [upd_ne (np p hp)]; exact n, ne, nf, d⟩
end
/-- what the clause 'except c as n: y = n' wishes: slots i (n's) and j (y's) -/
def wKeep (K : PySem.W.Frag) (c : Value) (i j : Nat) (D : Ends) : WX := fun cls d σ H => d = none ∧ PySem.W.exmOne K cls c = some true ∧ ∀ a, H a = none → D.nx (((σ.set i (some (.ref a))).set j (some (.ref a))).set i none) (upd H a (ExV cls a))
section
variable {X : Cx} {x n y : Str} {c : Value} {i j : Nat} {body : List Stmt} {np pn' py pa pos pos' : Pos} {tb : WX → TS}
theorem ps_tryK (hs : X.stack = X.env :: X.outer) (hf : X.env.frame = some X.env.locals) (hex : X.ex = []) (hN : X.N.Nodup) (hi : X.N[i]? = some n) (hln : X.env.kindOf n = some .local) (hj : X.N[j]? = some y) (hlj : Loc X.env.scope y) (hfj : X.fn y = true) (hc : Names X x c)
    (d1 : (n == ("__debug__" : Str)) = false) (d2 : (n == ("__classdict__" : Str)) = false)
    (hb : ∀ (W : WX) (pn : List (Addr × Obj)) (xe : Value → Shared → Prop), Takes (X.tr pn xe) W → PassesOwn (model X.prog X.w) X.A X.env xe → PSs (X.tr pn xe) body (tb W)) :
    PS X (.Try body [.ExceptHandler (some (.Name x np)) (some n) [.Assign [.Name y py] (.Name n pn') pa] pos'] [] [] pos) (fun D σ H => tb (wKeep X.K c i j D) D σ H) := by
  refine ⟨fun pins s σ H D I h => ?_⟩
  have ok := I.ok
  have hfr : X.A.frames = some (X.env :: X.outer) := by rw [ok.frames, hs]
  have hloc : Loc X.env.scope n := .inl hln
  refine wpAny_Try_except ?_
  refine wpAny_mono ((hb (wKeep X.K c i j D) (X.pn ++ pins) (fun e s₁ => wpAny (model X.prog X.w) X.A (noteFrame e X.env) (fun _ s₂ => wpAny (model X.prog X.w) X.A (setFlight e none) (fun _ s₃ =>
    wpAny (model X.prog X.w) X.A (handleBy e X.env [.ExceptHandler (some (.Name x np)) (some n) [.Assign [.Name y py] (.Name n pn') pa] pos']) (SP X pins D) X.xe s₃) X.xe s₂) X.xe s₁) (fun u s' xx => ?_) PassesOwn.looking).run [] s σ H D (I.toTry _) h) (fun f s1 hsp => ?_) (fun e s1 he => he)
  · obtain ⟨a, B, sI, pins', σ', H', cls, d, rfl, J', nb, up, sky, na, os, ag, ed, hb1, hyes⟩ := xx
    subst ed
    have J : Inv X pins σ' H' sI := J'.ofTry ok
    have sky' : Sky B (X.env :: X.outer) a (Zc cls none) X.env.locals s'.heap := by rw [← hs]; exact sky
    show wpAny (model X.prog X.w) X.A (noteFrame (.ref a) X.env) _ _ _
    refine Sky.land Zc.steady hfr hf sky' fun h3 fl3 up3 => ?_
    have J3 : Inv X pins σ' H' { s' with heap := h3 } := J.landed nb fl3.1 (up.trans up3) os ag
    obtain ⟨oe3, vs3, he3, hz3, hd3⟩ := fl3.there
    have notFr : ∀ {h : Heap} {o : Obj} {vs : Array Value}, h.FunFrames B (X.env :: X.outer) → h.get? a = some o → o.data = .fields vs → a ∉ frs (X.env :: X.outer) := fun {h o vs} ff e dd hm => by
      obtain ⟨_, o', e', hnf⟩ := ff.mem hm
      rw [e] at e'; cases e'
      exact hnf _ dd
    have nfr := notFr fl3.2.2.1 he3 hd3
    have nB : B.get? a = none := fl3.2.1
    have nL : a ≠ X.env.locals := fun z => nfr (List.mem_filterMap.mpr ⟨X.env, List.mem_cons_self, by rw [hf, z]⟩)
    have nF : a ∉ X.fs := fun hm => by
      obtain ⟨e, he, q⟩ := List.mem_filterMap.mp hm
      exact nfr (List.mem_filterMap.mpr ⟨e, List.mem_cons_of_mem _ he, q⟩)
    have nI : sI.heap.get? a = none := by
      cases q : sI.heap.get? a with
      | none => rfl
      | some o =>
        have z := nb a o q (by rw [hs]; exact nfr)
        rw [nB] at z; cases z
    have n0 : X.s_0.heap.get? a = none := by
      cases q : X.s_0.heap.get? a with
      | none => rfl
      | some o =>
        obtain ⟨o', z⟩ := J.base.there a o q (by rw [hex]; exact fun z => nomatch z)
        rw [nI] at z; cases z
    have npn : ∀ p ∈ X.pn ++ pins, p.1 ≠ a := fun p hp z => by
      obtain ⟨e, _⟩ := J.pin p hp
      rw [z, nI] at e; cases e
    have S3 := J3.suite he3 hd3 na nL nF
    refine wpAny_handleBy_cons (codeAny_handlers_test ?_) (by intro q; cases q)
    have LT : PySem.W.Looks (model X.prog X.w) h3 (typeOf (.ref a)) cls := fun A Q E s k q => wpAny_typeOf_ref (k _ _ he3) (by rw [hz3.1]; exact q)
    have LM := PySem.W.exm_one (M := model X.prog X.w) (J3.kIn) LT hb1
    have test : ∀ {Q : Value → Shared → Prop} {E : Value → Shared → Prop}, Q c { s' with heap := h3 } → wpAny (model X.prog X.w) (X.A.mark (some (.ref a))) (eval (.Name x np) X.env) Q E { s' with heap := h3 } := fun {Q E} q => by
      obtain ⟨hg, hdbg, hm | ⟨hm, hv, hnn⟩⟩ := hc
      · exact ld_glob (X := X.suite a ((a, oe3) :: (X.pn ++ pins))) S3 hg hm q hdbg
      · exact ld_blt (X := X.suite a ((a, oe3) :: (X.pn ++ pins))) S3 hg hm hv q hnn hdbg
    refine test (LM.here ?_)
    refine codeAny_handlers_suite_as ?_
    refine HandSPX.lands_againZ fl3 fun h4 fl4 up4 => ?_
    have J4 : Inv X pins σ' H' { s' with heap := h4 } := J.landed nb fl4.1 ((up.trans up3).trans up4) os ag
    obtain ⟨oe4, vs4, he4, hz4, hd4⟩ := fl4.there
    have S4 := J4.suite he4 hd4 na nL nF
    refine store_ok (X := X.suite a ((a, oe4) :: (X.pn ++ pins))) (v := .ref a) S4 hN hi hloc rfl (fun s5 S5 => ?_) (.inr hln)
    have hiσ : i < σ'.length := by rw [J.len]; exact (List.getElem?_eq_some_iff.mp hi).1
    have su : PSs (X.suite a ((a, oe4) :: (X.pn ++ pins))) [.Assign [.Name y py] (.Name n pn') pa] (tAsg (tVar i) (gName j)) :=
      pss_one (ps_set (X := X.suite a ((a, oe4) :: (X.pn ++ pins))) hN hj hlj (pe_var hi (.inl hln) d1 d2) (by rfl) (.inl hfj))
    refine wpAny_mono (su.run [] s5 _ H' { nx := fun σ6 H6 => σ6 = (σ'.set i (some (.ref a))).set j (some (.ref a)) ∧ H6 = H', rt := fun _ _ => False, bk := fun _ _ => False, ct := fun _ _ => False } S5 ⟨.ref a, by rw [List.getElem?_set_self hiσ], rfl, rfl⟩) (fun f s6 hsp => ?_) (fun _ _ z => False.elim z)
    cases f with
    | next =>
      obtain ⟨σ6, H6, S6, e6, e7⟩ := hsp
      subst e6 e7
      refine gone_ok (X := X.suite a ((a, oe4) :: (X.pn ++ pins))) S6 hN hi hln fun s7 S7 => ?_
      obtain ⟨he7, _⟩ := S7.pin (a, oe4) (List.mem_append.mpr (.inl List.mem_cons_self))
      have J7 := S7.unsuite ok
      exact ⟨_, _, J7.track (o := ExV cls a) he7 na n0 npn nL (fun v z => by rw [hd4] at z; cases z) (exV_ok he7 hz4 hd4), hyes a na⟩
    | brk =>
      obtain ⟨_, _, _, z⟩ := hsp
      exact z.elim
    | cont =>
      obtain ⟨_, _, _, z⟩ := hsp
      exact z.elim
    | ret u =>
      obtain ⟨_, _, _, _, _, z⟩ := hsp
      exact z.elim
  · cases f with
    | next =>
      obtain ⟨σ', H', J', q⟩ := hsp
      exact wpAny_execs_nil ⟨σ', H', J'.ofTry ok, q⟩
    | brk =>
      obtain ⟨σ', H', J', q⟩ := hsp
      exact ⟨σ', H', J'.ofTry ok, q⟩
    | cont =>
      obtain ⟨σ', H', J', q⟩ := hsp
      exact ⟨σ', H', J'.ofTry ok, q⟩
    | ret u =>
      obtain ⟨v, σ', H', J', r, q⟩ := hsp
      exact ⟨v, σ', H', J'.ofTry ok, r, q⟩
end
end Ev
/-! Ev: statements that may let an error out. -/
namespace Ev
open PySem PySem.Spec PyProof.Rows L2
/-- a def's promise, its errors too -/
def spU (K : PySem.W.Frag) (ct : Ct) (f : Nat) : Sp := fun vs H Q E => ∃ O ds, (∀ a, O a → H a ≠ none) ∧ Rps K O H ds vs ∧
  ((∃ m d, noEx (ct f ds) = some (m, d) ∧ ∀ v H', Same H H' → Rm K O H H' m d v → Q v H') ∨ (∃ c, ct f ds = some (.ex, .exc c) ∧ ∀ C H', Same H H' → clsA K c = some C → E (.ref C) none H'))
theorem FnOk.quiet {P : Program} {w : World} {K : PySem.W.Frag} {mg : Str → Option Value} {base : Heap} {k : Nat} {f : Addr} {fd : FuncData} {ps : List Str} {sp sp' : Sp} (F : FnOk P w K mg base (L2.CX P w) k f fd ps sp)
    (h : ∀ vs H Q E, sp' vs H Q E → sp vs H Q (fun _ _ _ => False)) : FnOk P w K mg base CX0 k f fd ps sp' :=
  ⟨fun vs H Q E q => F.len vs H Q _ (h _ _ _ _ q), fun A outer s H args us vs Q E hr he hb hv hs => codeAny_mono (F.run A outer s H args us vs Q (fun _ _ _ => False) hr he hb hv (h _ _ _ _ hs)) fun r s' hr' => by
    cases r with
    | error e =>
      obtain ⟨_, _, _, _, _, _, _, _, _, _, _, _, z⟩ := hr'
      exact z.elim
    | ok fl => cases fl <;> exact hr'⟩
theorem spU_quiet {P : Program} {w : World} {K : PySem.W.Frag} {mg : Str → Option Value} {base : Heap} {k : Nat} {f : Addr} {fd : FuncData} {ps : List Str} {ct : Ct} {i : Nat} (F : FnOk P w K mg base (L2.CX P w) k f fd ps (spU K ct i)) : FnOk P w K mg base CX0 k f fd ps (spF K ct i) :=
  FnOk.quiet F fun vs H Q E ⟨O, ds, m, d, h1, h2, h3, h4⟩ => ⟨O, ds, h1, h2, .inl ⟨m, d, h3, h4⟩⟩
section
variable {X : Cx} {W : WX} {st : Stmt} {fs : Env' → Option (List D)} {ct : Ct} {f i : Nat}
theorem q_callU {k : Nat} {fa : Addr} {fd : FuncData} {ps : List Str} {x : Str} {p pos : Pos} {e : Expr} {es : List Expr} (tk : Takes X W) (F : FnOk X.prog X.w X.K X.mg X.base (L2.CX X.prog X.w) k fa fd ps (spU X.K ct f)) (hr : Room k X.A) (hg : Gl X x) (hm : X.mg x = some (.ref fa)) (hk : PySem.W.keepIn X.K (.ref fa) = true) (hb : Binds X.K fd ps [])
    (hdb : (x == ("__debug__" : Str)) = false) (ns : NoStar e) (hpl : (backTo pos (starEach es X.env)).any (·.1) = false) (ha : PA X (e :: es) (tQA X.K fs)) :
    PE X (.Call (.Name x p) (e :: es) [] pos) (tCallS (spU X.K ct f) (WE W) (tQA X.K fs)) :=
  pe_callS F hr hg hm hk hb (fun σ => passAt tk σ) ha hdb (ns _ _) hpl
theorem exOf_some {r : Rs} {c : Nat} (h : exOf r = some c) : r = some (.ex, .exc c) := by
  unfold exOf at h
  split at h
  · cases h; rfl
  · cases h
def setXF (own : Bool) (i : Nat) (ct : Ct) (f : Nat) (fs : Env' → Option (List D)) : Env' → Option Out := fun g => do
  let ds ← fs g
  match exOf (ct f ds) with
  | some c => some (.ex c g)
  | none => do let r ← noEx (ct f ds); let s ← slOf own r; let g' ← setSl i s g; pure (.nx g')
theorem SI.setV {K : PySem.W.Frag} {H0 H H' : Hp} {Oc O : AS} {g g' : Env'} {σ : L2.St} {own : Bool} {m : M} {d : D} {sl : Sl} {i : Nat} {v : V} (S : SI K H0 Oc O H g σ) (s : Same H H') (r : Rm K O H H' m d v) (es : slOf own (m, d) = some sl) (eg : setSl i sl g = some g') :
    ∃ O', SI K H0 Oc O' H' g' (σ.set i (some v)) ∧ Nxt O H O' H' := by
  cases m with
  | sh =>
    cases es
    exact ⟨O, (S.same' s).setSh r eg, .same s⟩
  | bo => cases es
  | ex => cases es
  | fr =>
    cases d with
    | lst ds =>
      obtain ⟨p, vs, rfl, hp, hp', rs⟩ := r
      simp only [slOf] at es
      split at es
      · cases es
        exact ⟨_, S.setOw s hp hp' rs eg, fun b o _ h => s b o h, fun a z => z.imp id fun e => by rw [e]; exact hp⟩
      · cases es
        exact ⟨O, (S.same' s).setSh (d := .lst ds) ⟨p, vs, rfl, not_new S.sr.trk hp, hp', rs.less fun b z => .inl z⟩ eg, .same s⟩
    | _ => cases es
theorem s_setX {own : Bool} (h : PS X st (tAsg (tCallS (spU X.K ct f) (WE W) (tQA X.K fs)) (gName i))) : PS X st (tS X.K W (setXF own i ct f fs)) := by
  refine h.imp fun D' σ H ⟨H0, Oc, O, g, out, S, e, q⟩ => ?_
  simp only [setXF, Option.bind_eq_bind, Option.bind_eq_some_iff] at e
  obtain ⟨ds, e1, e2⟩ := e
  refine ⟨H0, O, g, ds, S.sr, e1, fun vs H' s r => ⟨O, ds, trk_same S.sr.trk s, r, ?_⟩⟩
  split at e2
  · rename_i c hc
    cases e2
    exact .inr ⟨c, exOf_some hc, fun C H2 s2 eC => q σ H2 O C (S.same' (s.trans s2)) (.same (s.trans s2)) eC⟩
  · simp only [Option.bind_eq_some_iff, Option.pure_def, Option.some.injEq] at e2
    obtain ⟨⟨m, d⟩, e3, sl, e4, g', e5, rfl⟩ := e2
    refine .inl ⟨m, d, e3, fun v H2 s2 r2 => ?_⟩
    obtain ⟨O', S', n'⟩ := (S.same' s).setV s2 r2 e4 e5
    exact q _ _ O' S' ((Nxt.same s).trans n')
def retXF (ct : Ct) (f : Nat) (fs : Env' → Option (List D)) : Env' → Option Out := fun g => do
  let ds ← fs g
  match exOf (ct f ds) with
  | some c => some (.ex c g)
  | none => do let r ← noEx (ct f ds); let _ ← storable r; pure (.rt r.1 r.2)
theorem s_retX (h : PS X st (tRet (tCallS (spU X.K ct f) (WE W) (tQA X.K fs)))) : PS X st (tS X.K W (retXF ct f fs)) := by
  refine h.imp fun D' σ H ⟨H0, Oc, O, g, out, S, e, q⟩ => ?_
  simp only [retXF, Option.bind_eq_bind, Option.bind_eq_some_iff] at e
  obtain ⟨ds, e1, e2⟩ := e
  refine ⟨H0, O, g, ds, S.sr, e1, fun vs H' s r => ⟨O, ds, trk_same S.sr.trk s, r, ?_⟩⟩
  split at e2
  · rename_i c hc
    cases e2
    exact .inr ⟨c, exOf_some hc, fun C H2 s2 eC => q σ H2 O C (S.same' (s.trans s2)) (.same (s.trans s2)) eC⟩
  · simp only [Option.bind_eq_some_iff, Option.pure_def, Option.some.injEq] at e2
    obtain ⟨⟨m, d⟩, e3, x, e4, rfl⟩ := e2
    refine .inl ⟨m, d, e3, fun v H2 s2 r2 => ?_⟩
    exact q v H2 ((S.same.trans s).trans s2) (r2.outer (S.same.trans s) S.out)
def expXF (ct : Ct) (f : Nat) (fs : Env' → Option (List D)) : Env' → Option Out := fun g => do
  let ds ← fs g
  match exOf (ct f ds) with
  | some c => some (.ex c g)
  | none => do let _ ← noEx (ct f ds); pure (.nx g)
theorem s_expX (h : PS X st (tDrop (tCallS (spU X.K ct f) (WE W) (tQA X.K fs)))) : PS X st (tS X.K W (expXF ct f fs)) := by
  refine h.imp fun D' σ H ⟨H0, Oc, O, g, out, S, e, q⟩ => ?_
  simp only [expXF, Option.bind_eq_bind, Option.bind_eq_some_iff] at e
  obtain ⟨ds, e1, e2⟩ := e
  refine ⟨H0, O, g, ds, S.sr, e1, fun vs H' s r => ⟨O, ds, trk_same S.sr.trk s, r, ?_⟩⟩
  split at e2
  · rename_i c hc
    cases e2
    exact .inr ⟨c, exOf_some hc, fun C H2 s2 eC => q σ H2 O C (S.same' (s.trans s2)) (.same (s.trans s2)) eC⟩
  · simp only [Option.bind_eq_some_iff, Option.pure_def, Option.some.injEq] at e2
    obtain ⟨⟨m, d⟩, e3, rfl⟩ := e2
    exact .inl ⟨m, d, e3, fun v H2 s2 r2 => q σ H2 O (S.same' (s.trans s2)) (.same (s.trans s2))⟩
/-! ### raise -/
theorem s_rse {c : Nat} {m : Str} {j : Nat} {p p2 p3 pos : Pos} (hc : X.calm = true) (tk : Takes X W) (xk : XK X.K X.mg) (h6 : c < 6) (hg : Gl X (xName c)) :
    PS X (.Raise (some (.Call (.Name (xName c) p) [.Constant (.str m) j p2] [] p3)) none pos) (tS X.K W fun g => some (.ex c g)) := by
  obtain ⟨C, k⟩ := xk.cls c h6
  refine (ps_raise hc tk (pmk_own PySem.F.excBase_ValueError k.ex k.mg k.keep (raises_own k.ec.hs k.ty) hg (by
    rcases (show c = 0 ∨ c = 1 ∨ c = 2 ∨ c = 3 ∨ c = 4 ∨ c = 5 by omega) with rfl | rfl | rfl | rfl | rfl | rfl <;> decide +kernel))).imp fun D' σ H ⟨H0, Oc, O, g, out, S, e, q⟩ => ?_
  cases e
  exact q σ H O C S (Nxt.refl O H) k.at_
/-! ### try -/
def tryF (i j : Nat) (f : Env' → Option Out) : Env' → Option Out := fun g => do
  let o ← f g
  match o with
  | .nx g' => some (.nx g')
  | .rt m d => some (.rt m d)
  | .ex c g' => if c < 6 then do let g1 ← setSl j (.sh (.exc c)) g'; let g2 ← setSl i .no g1; pure (.nx g2) else none
theorem set3 {α : Type} (l : List α) (i j : Nat) (x y z : α) : ((l.set i x).set j y).set i z = (l.set j y).set i z := by
  by_cases h : i = j
  · subst h; simp
  · rw [List.set_comm _ _ (Ne.symm h), List.set_set]
    by_cases hh : i = j
    · exact absurd hh h
    · first
        | rfl
        | rw [List.set_comm _ _ hh]
theorem s_tryK {f : Env' → Option Out} {j : Nat} {n y : Str} {body : List Stmt} {np pn' py pa pos pos' : Pos} (xk : XK X.K X.mg) (hs : X.stack = X.env :: X.outer) (hf : X.env.frame = some X.env.locals) (hex : X.ex = []) (hN : X.N.Nodup) (hi : X.N[i]? = some n) (hln : X.env.kindOf n = some .local) (hj : X.N[j]? = some y) (hlj : Loc X.env.scope y) (hfj : X.fn y = true) (hg : Gl X "SpotError")
    (d1 : (n == ("__debug__" : Str)) = false) (d2 : (n == ("__classdict__" : Str)) = false)
    (hb : ∀ (W : WX) (pn : List (Addr × Obj)) (xe : Value → Shared → Prop), Takes (X.tr pn xe) W → PassesOwn (model X.prog X.w) X.A X.env xe → PSs (X.tr pn xe) body (tS X.K W f)) :
    PS X (.Try body [.ExceptHandler (some (.Name "SpotError" np)) (some n) [.Assign [.Name y py] (.Name n pn') pa] pos'] [] [] pos) (tS X.K W (tryF i j f)) := by
  obtain ⟨C0, k0⟩ := xk.cls 0 (by omega)
  refine (ps_tryK (c := .ref C0) (tb := fun W => tS X.K W f) hs hf hex hN hi hln hj hlj hfj ⟨hg, by decide +kernel, .inl k0.mg⟩ d1 d2 hb).imp fun D' σ H ⟨H0, Oc, O, g, out, S, e, q⟩ => ?_
  simp only [tryF, Option.bind_eq_bind, Option.bind_eq_some_iff] at e
  obtain ⟨o, e1, e2⟩ := e
  refine ⟨H0, Oc, O, g, o, S, e1, ?_⟩
  cases o with
  | nx g' => cases e2; exact q
  | rt m d => cases e2; exact q
  | ex c g' =>
    simp only at e2
    split at e2
    · rename_i h6
      simp only [Option.bind_eq_some_iff, Option.pure_def, Option.some.injEq] at e2
      obtain ⟨g1, e3, g2, e4, rfl⟩ := e2
      intro σ' H' O' C S' n' eC
      refine ⟨rfl, xk.exm h6 eC k0.at_, fun a na => ?_⟩
      have su : Same H' (upd H' a (ExV (.ref C) a)) := same_new na
      have S1 := (S'.same' su).setSh (d := .exc c) (v := .ref a) ⟨a, C, rfl, not_new S'.sr.trk na, eC, upd_same⟩ e3
      obtain ⟨_, rfl⟩ := setSl_some e4
      have S2 : SI X.K H0 Oc O' (upd H' a (ExV (.ref C) a)) (g1.set i .no) ((σ'.set j (some (.ref a))).set i none) := ⟨S1.sr.setNo i, S1.same, S1.out, S1.otrk⟩
      rw [set3]
      exact q _ _ O' S2 (n'.trans (.same su))
    · cases e2
end
end Ev
/-! Ev: the checker, and that what it takes is run by the evaluator. -/
namespace Ev
open PySem PySem.Spec PyProof.Rows L2

/-! ### views of the syntax -/
def vName : Expr → Option Str
  | .Name x _ => some x
  | _ => none
def vConst : Expr → Option Const
  | .Constant c _ _ => some c
  | _ => none
def vBin : Expr → Option (Expr × Operator × Expr)
  | .BinOp a o b _ => some (a, o, b)
  | _ => none
def vUn : Expr → Option (UnaryOp × Expr)
  | .UnaryOp o a _ => some (o, a)
  | _ => none
def vCmp : Expr → Option (Expr × CmpOp × Expr)
  | .Compare a [o] [b] _ => some (a, o, b)
  | _ => none
def vBool : Expr → Option (BoolOp × List Expr)
  | .BoolOp o es _ => some (o, es)
  | _ => none
def vTup : Expr → Option (List Expr)
  | .Tuple es _ _ => some es
  | _ => none
def vLst : Expr → Option (List Expr)
  | .List es _ => some es
  | _ => none
/-- a subscript that is no slice -/
def vIdx : Expr → Option (Expr × Expr)
  | .Subscript _ (.Slice _ _ _ _) _ => none
  | .Subscript a i _ => some (a, i)
  | _ => none
def vSlc : Expr → Option (Expr × Option Expr × Option Expr)
  | .Subscript a (.Slice lo hi none _) _ => some (a, lo, hi)
  | _ => none
def vCall : Expr → Option (Str × List Expr)
  | .Call (.Name x _) es [] _ => some (x, es)
  | _ => none
/-- o.m(es), on one line -/
def vMeth : Expr → Option (Expr × Str × List Expr)
  | .Call (.Attribute o m apos) es [] cpos => if (apos.endLine == cpos.line) = true then some (o, m, es) else none
  | _ => none
def vComp : Expr → Option (Expr × Expr × Expr × List Expr × Scope)
  | .ListComp elt [⟨tg, it, ifs, 0⟩] sc _ => some (elt, tg, it, ifs, sc)
  | _ => none
section
variable {x : Expr}
theorem vName_some {n : Str} (h : vName x = some n) : ∃ p, x = .Name n p := by
  cases x <;> simp [vName] at h
  exact ⟨_, by rw [h]⟩
theorem vConst_some {n : Const} (h : vConst x = some n) : ∃ j p, x = .Constant n j p := by
  cases x <;> simp [vConst] at h
  exact ⟨_, _, by rw [h]⟩
theorem vBin_some {a b : Expr} {o : Operator} (h : vBin x = some (a, o, b)) : ∃ p, x = .BinOp a o b p := by
  cases x <;> simp [vBin] at h
  obtain ⟨rfl, rfl, rfl⟩ := h
  exact ⟨_, rfl⟩
theorem vUn_some {a : Expr} {o : UnaryOp} (h : vUn x = some (o, a)) : ∃ p, x = .UnaryOp o a p := by
  cases x <;> simp [vUn] at h
  obtain ⟨rfl, rfl⟩ := h
  exact ⟨_, rfl⟩
theorem vCmp_some {a b : Expr} {o : CmpOp} (h : vCmp x = some (a, o, b)) : ∃ p, x = .Compare a [o] [b] p := by
  unfold vCmp at h
  split at h
  · cases h; exact ⟨_, rfl⟩
  · cases h
theorem vBool_some {o : BoolOp} {es : List Expr} (h : vBool x = some (o, es)) : ∃ p, x = .BoolOp o es p := by
  cases x <;> simp [vBool] at h
  obtain ⟨rfl, rfl⟩ := h
  exact ⟨_, rfl⟩
theorem vTup_some {es : List Expr} (h : vTup x = some es) : ∃ k p, x = .Tuple es k p := by
  cases x <;> simp [vTup] at h
  subst h; exact ⟨_, _, rfl⟩
theorem vLst_some {es : List Expr} (h : vLst x = some es) : ∃ p, x = .List es p := by
  cases x <;> simp [vLst] at h
  subst h; exact ⟨_, rfl⟩
theorem vIdx_some {a i : Expr} (h : vIdx x = some (a, i)) : ∃ p, x = .Subscript a i p := by
  unfold vIdx at h
  split at h
  · cases h
  · cases h; exact ⟨_, rfl⟩
  · cases h
theorem vSlc_some {a : Expr} {lo hi : Option Expr} (h : vSlc x = some (a, lo, hi)) : ∃ p q, x = .Subscript a (.Slice lo hi none p) q := by
  unfold vSlc at h
  split at h
  · cases h; exact ⟨_, _, rfl⟩
  · cases h
theorem vCall_some {n : Str} {es : List Expr} (h : vCall x = some (n, es)) : ∃ p q, x = .Call (.Name n p) es [] q := by
  unfold vCall at h
  split at h
  · cases h; exact ⟨_, _, rfl⟩
  · cases h
theorem vMeth_some {o : Expr} {m : Str} {es : List Expr} (h : vMeth x = some (o, m, es)) : ∃ p q, x = .Call (.Attribute o m p) es [] q ∧ (p.endLine == q.line) = true := by
  unfold vMeth at h
  split at h
  · split at h
    · cases h; exact ⟨_, _, rfl, by assumption⟩
    · cases h
  · cases h
theorem vComp_some {elt tg it : Expr} {ifs : List Expr} {sc : Scope} (h : vComp x = some (elt, tg, it, ifs, sc)) : ∃ p, x = .ListComp elt [⟨tg, it, ifs, 0⟩] sc p := by
  unfold vComp at h
  split at h
  · cases h; exact ⟨_, rfl⟩
  · cases h
end

/-! ### the checker -/
structure Sg where
  N : List Str
  fn : Nat → Option Str
def visB (sc : Scope) (x : Str) : Bool := match sc.names.lookup x with
  | some .local => true
  | some .cell => true
  | some .free => true
  | _ => false
def glB (sc : Scope) (x : Str) : Bool := match sc.names.lookup x with
  | some .globalImplicit => true
  | _ => false
def locB (sc : Scope) (x : Str) : Bool := match sc.names.lookup x with
  | some .local => true
  | _ => false
def loc2B (sc : Scope) (x : Str) : Bool := match sc.names.lookup x with
  | some .local => true
  | some .cell => true
  | _ => false
def nameB (x : Str) : Bool := !(x == ("__debug__" : Str)) && !(x == ("__classdict__" : Str))
def biS : Bi → Str
  | .abs => "abs" | .len => "len" | .int => "int" | .sum => "sum" | .min => "min" | .max => "max" | .list => "list" | .lrev => "list" | .sset => "sorted" | .srt => "sorted"
def b2S : B2 → Str
  | .min => "min" | .max => "max"
def tyStr : Ty → Str
  | .int => "int" | .bool => "bool" | .tuple => "tuple" | .list => "list"
/-- the built-in names that may be asked -/
def bltNames : List Str := ["abs", "len", "int", "sum", "min", "max", "list", "sorted", "set", "isinstance", "bool", "tuple", "range", "zip", "enumerate", "reversed"]
def ownOf (G : Sg) (tg : Tg) : List (Str × Nat) := (tgSlots tg).map fun i => (G.N.getD i "", i)
/-- names as targets -/
def okNames (G : Sg) (ok : Str → Bool) : List Nat → List Expr → Bool
  | [], [] => true
  | i :: is, e :: es => (match vName e with
    | some x => decide (G.N[i]? = some x) && ok x
    | none => false) && okNames G ok is es
  | _, _ => false
def okTg (G : Sg) (ok : Str → Bool) : Tg → Expr → Bool
  | .one i, e => okNames G ok [i] [e]
  | .many is, e => match vTup e with
    | some es => okNames G ok is es
    | none => false
def isNil : Exs → Bool
  | .nil => true
  | _ => false
mutual
def okE (G : Sg) (sc : Scope) : Ex → Expr → Bool
  | .var i, e => match vName e with
    | some x => decide (G.N[i]? = some x) && visB sc x && nameB x
    | none => false
  | .int n, e => decide (vConst e = some (.int n))
  | .bl b, e => decide (vConst e = some (.bool b))
  | .non, e => decide (vConst e = some .none)
  | .str s, e => decide (vConst e = some (.str s))
  | .bin o a b, e => match vBin e with
    | some (x, p, y) => decide (p = bopOf o) && okE G sc a x && okE G sc b y
    | none => false
  | .neg a, e => match vUn e with
    | some (.USub, x) => okE G sc a x
    | _ => false
  | .not a, e => match vUn e with
    | some (.Not, x) => okE G sc a x
    | _ => false
  | .cmp o a b, e => match vCmp e with
    | some (x, p, y) => decide (p = copOf o) && okE G sc a x && okE G sc b y
    | none => false
  | .isN a, e => match vCmp e with
    | some (x, .Is, y) => okE G sc a x && decide (vConst y = some .none)
    | _ => false
  | .notN a, e => match vCmp e with
    | some (x, .IsNot, y) => okE G sc a x && decide (vConst y = some .none)
    | _ => false
  | .inn a b, e => match vCmp e with
    | some (x, .In, y) => okE G sc a x && okE G sc b y
    | _ => false
  | .nin a b, e => match vCmp e with
    | some (x, .NotIn, y) => okE G sc a x && okE G sc b y
    | _ => false
  | .ands es, e => match vBool e with
    | some (.And, xs) => !isNil es && okEs G sc es xs
    | _ => false
  | .ors es, e => match vBool e with
    | some (.Or, xs) => !isNil es && okEs G sc es xs
    | _ => false
  | .tup es, e => match vTup e with
    | some xs => okEs G sc es xs
    | none => false
  | .lst es, e => match vLst e with
    | some xs => okEs G sc es xs
    | none => false
  | .idx a i, e => match vIdx e with
    | some (x, y) => okE G sc a x && okE G sc i y
    | none => false
  | .slc a lo hi, e => match vSlc e with
    | some (x, l, h) => okE G sc a x && (match l with
      | none => isNonE lo
      | some y => !isNonE lo && okE G sc lo y) && (match h with
      | none => isNonE hi
      | some y => !isNonE hi && okE G sc hi y)
    | none => false
  | .b1 f a, e => match vCall e with
    | some (n, [x]) => decide (n = biS f) && glB sc (biS f) && (match f with
      | .sset => false
      | .srt => false
      | .lrev => (match vCall x with
        | some (n2, [y]) => decide (n2 = "reversed") && glB sc "reversed" && okE G sc a y
        | _ => false)
      | _ => okE G sc a x)
    | _ => false
  | .b2 f a b, e => match vCall e with
    | some (n, [x, y]) => decide (n = b2S f) && glB sc (b2S f) && okE G sc a x && okE G sc b y
    | _ => false
  | .isi a t, e => match vCall e with
    | some (n, [x, y]) => decide (n = "isinstance") && glB sc "isinstance" && okE G sc a x && decide (vName y = some (Str.ofString (tyS t))) && glB sc (Str.ofString (tyS t))
    | _ => false
  | .isx a cs many, e => match vCall e with
    | some (n, [x, y]) => decide (n = "isinstance") && glB sc "isinstance" && okE G sc a x && (match many with
      | true => decide (cs.length ≤ 1000) && (match vTup y with
        | some ys => okCls (glB sc) cs ys
        | none => false)
      | false => okCls (glB sc) cs [y])
    | _ => false
  | .maxd a d, e => false
  | .cnt a b, e => match vMeth e with
    | some (o, m, [y]) => decide (m = "count") && (vName o).isSome && okE G sc a o && okE G sc b y
    | _ => false
  | .call f es, e => match vCall e with
    | some (n, xs) => decide (G.fn f = some n) && glB sc n && nameB n && !isNil es && okEs G sc es xs
    | _ => false
  | .comp elt tg it c, e => match vComp e with
    | some (elt', tg', it', ifs, scope) => okI G sc it tg' it' && blkC G.N sc scope (ownOf G tg) && okTg G (locB (relS scope sc)) tg tg' && okCs G (relS scope sc) c ifs && okE G (relS scope sc) elt elt'
    | none => false
def okEs (G : Sg) (sc : Scope) : Exs → List Expr → Bool
  | .nil, xs => match xs with
    | [] => true
    | _ => false
  | .cons e es, xs => match xs with
    | x :: xs => okE G sc e x && okEs G sc es xs
    | [] => false
def okCs (G : Sg) (sc : Scope) : Exs → List Expr → Bool
  | .nil, xs => match xs with
    | [] => true
    | _ => false
  | .cons e es, xs => match xs with
    | [x] => okE G sc e x && isNil es
    | _ => false
def okI (G : Sg) (sc : Scope) : Itx → Expr → Expr → Bool
  | .ex a, _, e => okE G sc a e
  | .rng a, _, e => match vCall e with
    | some (n, [x]) => decide (n = "range") && glB sc "range" && okE G sc a x
    | _ => false
  | .rng2 a b, _, e => match vCall e with
    | some (n, [x, y]) => decide (n = "range") && glB sc "range" && okE G sc a x && okE G sc b y
    | _ => false
  | .zip a b, tg, e => match vCall e with
    | some (n, [x, y]) => decide (n = "zip") && glB sc "zip" && okE G sc a x && okE G sc b y && (vTup tg).isSome
    | _ => false
  | .enum a, tg, e => match vCall e with
    | some (n, [x]) => decide (n = "enumerate") && glB sc "enumerate" && okE G sc a x && (vTup tg).isSome
    | _ => false
  | .rev a, _, e => match vCall e with
    | some (n, [x]) => decide (n = "reversed") && glB sc "reversed" && okE G sc a x
    | _ => false
end

/-! ### a context that fits -/
structure GX (G : Sg) (ct : Ct) (sc : Scope) (X : Cx) : Prop where
  N : X.N = G.N
  nd : X.N.Nodup
  sc : X.env.scope = sc
  calm : X.calm = true
  units : X.A.units + 65 < cLine
  blt : ∀ x ∈ bltNames, X.mg x = none
  fns : ∀ f x, G.fn f = some x → ∃ k fa fd ps, X.mg x = some (.ref fa) ∧ FnOk X.prog X.w X.K X.mg X.base CX0 k fa fd ps (spF X.K ct f) ∧ PySem.W.keepIn X.K (.ref fa) = true ∧ Binds X.K fd ps [] ∧ Room k X.A
  xk : ct flagX [] ≠ none → XK X.K X.mg
section
variable {G : Sg} {ct : Ct} {sc : Scope} {X : Cx}
theorem GX.blk (g : GX G ct sc X) (s : Shared) (H : Hp) (scope : Scope) (C : Addr) (cl : List (Str × Addr)) (fp : List Addr) : GX G ct (relS scope sc) (X.blk s H scope (compEnvC scope cl C X.env) fp) :=
  ⟨g.N, g.nd, by rw [← g.sc]; rfl, g.calm, g.units, g.blt, g.fns, g.xk⟩
theorem GX.vis (g : GX G ct sc X) {x : Str} (h : visB sc x = true) : Vis X.env.scope x := by
  rw [g.sc]
  unfold visB at h
  unfold Vis
  split at h
  · exact .inl (by assumption)
  · exact .inr (.inl (by assumption))
  · exact .inr (.inr (by assumption))
  · cases h
theorem GX.gl (g : GX G ct sc X) {x : Str} (h : glB sc x = true) : Gl X x := by
  show X.env.scope.names.lookup x = some .globalImplicit
  rw [g.sc]
  unfold glB at h
  split at h
  · assumption
  · cases h
theorem locB_some {x : Str} (h : locB sc x = true) : sc.names.lookup x = some .local := by
  unfold locB at h
  split at h
  · assumption
  · cases h
theorem loc2B_some {x : Str} (h : loc2B sc x = true) : sc.names.lookup x = some .local ∨ sc.names.lookup x = some .cell := by
  unfold loc2B at h
  split at h
  · exact .inl (by assumption)
  · exact .inr (by assumption)
  · cases h
theorem nameB_some {x : Str} (h : nameB x = true) : (x == ("__debug__" : Str)) = false ∧ (x == ("__classdict__" : Str)) = false := by
  unfold nameB at h
  simp only [Bool.and_eq_true, Bool.not_eq_true'] at h
  exact h
/-- facts of the outermost node -/
structure Pl (x : Expr) : Prop where
  st : NoStar x
  ix : PlainIx x
  fo : ∀ env v, foldedSetIterable x env v = pure v
  b1 : behindInMarks .In x = false
  b2 : behindInMarks .NotIn x = false
theorem NoStar.few {e : Expr} (h : NoStar e) (cpos : Pos) (env : Env) : ((backTo cpos (starEach [e] env)).all (fun x => !x.1) && (backToKw cpos (keywordEach [] env)).all (fun x => x.1.isSome)
      && decide ([e].length + ([] : List Keyword).length + (if ([] : List Keyword).isEmpty then 0 else 1) < 30)) = true := by
  rw [h]
  rfl
/-- what the checker's yes means -/
structure Res (X : Cx) (x : Expr) (f : Env' → Rs) : Prop where
  pl : Pl x
  pe : PE X x (tQ X.K f)
  pt : PT X x (tQT X.K (bOf f))
theorem Res.plain {x : Expr} {f : Env' → Rs} (pl : Pl x) (h : PE X x (tQ X.K f)) (hp : PlainTest x) : Res X x f := ⟨pl, h, q_test h hp⟩
structure ResA (X : Cx) (xs : List Expr) (f : Env' → Option (List D)) : Prop where
  pa : PA X xs (tQA X.K f)
  st : ∀ env, starEach xs env = xs.map fun e => (false, eval e env)
theorem st_any {xs : List Expr} {pos : Pos} {env : Env} (h : starEach xs env = xs.map fun e => (false, eval e env)) : (backTo pos (starEach xs env)).any (·.1) = false := by
  rw [h]
  unfold backTo
  induction xs with
  | nil => rfl
  | cons x xs ih =>
    rw [List.map_cons, List.map_cons, List.any_cons]
    simp
end
end Ev
/-! Ev: soundness for expressions. -/
namespace Ev
open PySem PySem.Spec PyProof.Rows L2
section
variable {X : Cx} {G : Sg} {ct : Ct} {sc : Scope}
theorem okNames_pgs {ok : Str → Bool} (hN : X.N = G.N) (nd : X.N.Nodup) (hx : ∀ x, ok x = true → Loc X.env.scope x ∧ (X.fn x = true ∨ X.env.scope.names.lookup x = some .local)) : ∀ (is : List Nat) (es : List Expr), okNames G ok is es = true →
    PGs X es (gNames is) ∧ (assignEach es X.env).length = is.length ∧ (assignEach es X.env).findIdx? (·.1) = none
  | [], [], _ => ⟨pgs_nil, rfl, rfl⟩
  | i :: is, e :: es, h => by
    simp only [okNames, Bool.and_eq_true] at h
    obtain ⟨h1, h2⟩ := h
    split at h1
    · rename_i x hn
      simp only [Bool.and_eq_true, decide_eq_true_eq] at h1
      obtain ⟨p, rfl⟩ := vName_some hn
      obtain ⟨a1, a2, a3⟩ := okNames_pgs hN nd hx is es h2
      obtain ⟨b1, b2⟩ := hx x h1.2
      refine ⟨pgs_cons (pg_name nd (by rw [hN]; exact h1.1) b1 b2) a1, ?_, ?_⟩
      · show (assignEach es X.env).length + 1 = is.length + 1
        rw [a2]
      · show List.findIdx? (·.1) ((false, assign (.Name x p) X.env) :: assignEach es X.env) = none
        rw [List.findIdx?_cons]
        simp [a3]
    · cases h1
  | [], _ :: _, h => by cases h
  | _ :: _, [], h => by cases h
theorem okTg_pg {ok : Str → Bool} (hN : X.N = G.N) (nd : X.N.Nodup) (hc : X.calm = true) (hx : ∀ x, ok x = true → Loc X.env.scope x ∧ (X.fn x = true ∨ X.env.scope.names.lookup x = some .local)) (tg : Tg) (e : Expr) (h : okTg G ok tg e = true) : PG X e (gQ X.K tg) := by
  cases tg with
  | one i =>
    simp only [okTg, okNames, Bool.and_eq_true] at h
    obtain ⟨h1, _⟩ := h
    split at h1
    · rename_i x hn
      simp only [Bool.and_eq_true, decide_eq_true_eq] at h1
      obtain ⟨p, rfl⟩ := vName_some hn
      obtain ⟨b1, b2⟩ := hx x h1.2
      exact g_one (pg_name nd (by rw [hN]; exact h1.1) b1 b2)
    · cases h1
  | many is =>
    simp only [okTg] at h
    split at h
    · rename_i es hn
      obtain ⟨k, p, rfl⟩ := vTup_some hn
      obtain ⟨a1, a2, a3⟩ := okNames_pgs hN nd hx is es h
      exact g_many (pg_tup hc a1 a2 a3) (pg_lst hc a1 a2 a3)
    · cases h
theorem vName_pl {x : Expr} {n : Str} (h : vName x = some n) : Pl x := by
  obtain ⟨p, rfl⟩ := vName_some h
  exact ⟨fun _ _ => rfl, fun _ _ => rfl, fun _ _ => rfl, rfl, rfl⟩
theorem mem_blt {x : Str} (h : bltNames.contains x = true) : x ∈ bltNames := by simpa using h
theorem pl_call {n : Str} {es : List Expr} {p q : Pos} : Pl (.Call (.Name n p) es [] q) := ⟨fun _ _ => rfl, fun _ _ => rfl, fun _ _ => rfl, rfl, rfl⟩
theorem copOf_mark (o : Cop) : copOf o ≠ .In ∧ copOf o ≠ .NotIn := by cases o <;> exact ⟨by decide, by decide⟩
theorem sl_part {e : Ex} {l : Option Expr} {f : Env' → Rs} (h : (match l with
      | none => isNonE e
      | some y => !isNonE e && okE G sc e y) = true) (r : ∀ y, okE G sc e y = true → Res X y f) : PO X l (tQO X.K fun g => partV (isNonE e) (f g)) := by
  unfold partV
  cases l with
  | none =>
    have h : isNonE e = true := h
    simp only [h, if_true]
    exact qo_none
  | some y =>
    simp only [Bool.and_eq_true, Bool.not_eq_true'] at h
    simp only [h.1, Bool.false_eq_true, if_false]
    exact qo_some (r y h.2).pe
mutual
theorem sndE : ∀ (e : Ex) (sc : Scope) (X : Cx) (x : Expr), GX G ct sc X → okE G sc e x = true → Res X x (fun g => evE ct g e)
  | .var i, sc, X, x, hg, h => by
    simp only [okE] at h
    split at h
    · rename_i n hn
      simp only [Bool.and_eq_true, decide_eq_true_eq] at h
      obtain ⟨p, rfl⟩ := vName_some hn
      obtain ⟨d1, d2⟩ := nameB_some h.2
      simp only [evE]
      exact Res.plain (vName_pl hn) (q_var (pe_var (by rw [hg.N]; exact h.1.1) (hg.vis h.1.2) d1 d2)) fun _ _ => rfl
    · cases h
  | .int n, sc, X, x, hg, h => by
    simp only [okE, decide_eq_true_eq] at h
    obtain ⟨j, p, rfl⟩ := vConst_some h
    simp only [evE]
    exact Res.plain ⟨fun _ _ => rfl, fun _ _ => rfl, fun _ _ => rfl, rfl, rfl⟩ (q_const pe_int fun _ _ => rfl) fun _ _ => rfl
  | .bl b, sc, X, x, hg, h => by
    simp only [okE, decide_eq_true_eq] at h
    obtain ⟨j, p, rfl⟩ := vConst_some h
    simp only [evE]
    exact Res.plain ⟨fun _ _ => rfl, fun _ _ => rfl, fun _ _ => rfl, rfl, rfl⟩ (q_const pe_bl fun _ _ => rfl) fun _ _ => rfl
  | .non, sc, X, x, hg, h => by
    simp only [okE, decide_eq_true_eq] at h
    obtain ⟨j, p, rfl⟩ := vConst_some h
    simp only [evE]
    exact Res.plain ⟨fun _ _ => rfl, fun _ _ => rfl, fun _ _ => rfl, rfl, rfl⟩ (q_const pe_non fun _ _ => rfl) fun _ _ => rfl
  | .str s, sc, X, x, hg, h => by
    simp only [okE, decide_eq_true_eq] at h
    obtain ⟨j, p, rfl⟩ := vConst_some h
    simp only [evE]
    exact Res.plain ⟨fun _ _ => rfl, fun _ _ => rfl, fun _ _ => rfl, rfl, rfl⟩ (q_const pe_str fun _ _ => rfl) fun _ _ => rfl
  | .bin o a b, sc, X, x, hg, h => by
    simp only [okE] at h
    split at h
    · rename_i l p r hn
      simp only [Bool.and_eq_true, decide_eq_true_eq] at h
      obtain ⟨q, rfl⟩ := vBin_some hn
      obtain ⟨⟨rfl, h1⟩, h2⟩ := h
      simp only [evE]
      exact Res.plain ⟨fun _ _ => rfl, fun _ _ => rfl, fun _ _ => rfl, rfl, rfl⟩ (q_bin (sndE a sc X _ hg h1).pe (sndE b sc X _ hg h2).pe) fun _ _ => rfl
    · cases h
  | .neg a, sc, X, x, hg, h => by
    simp only [okE] at h
    split at h
    · rename_i y hn
      obtain ⟨q, rfl⟩ := vUn_some hn
      simp only [evE]
      exact Res.plain ⟨fun _ _ => rfl, fun _ _ => rfl, fun _ _ => rfl, rfl, rfl⟩ (q_neg (sndE a sc X _ hg h).pe) fun _ _ => rfl
    · cases h
  | .not a, sc, X, x, hg, h => by
    simp only [okE] at h
    split at h
    · rename_i y hn
      obtain ⟨q, rfl⟩ := vUn_some hn
      simp only [evE]
      have r := sndE a sc X _ hg h
      exact ⟨⟨fun _ _ => rfl, fun _ _ => rfl, fun _ _ => rfl, rfl, rfl⟩, q_not r.pe, q_notT r.pt⟩
    · cases h
  | .cmp o a b, sc, X, x, hg, h => by
    simp only [okE] at h
    split at h
    · rename_i l p r hn
      simp only [Bool.and_eq_true, decide_eq_true_eq] at h
      obtain ⟨q, rfl⟩ := vCmp_some hn
      obtain ⟨⟨rfl, h1⟩, h2⟩ := h
      simp only [evE]
      have r1 := (sndE a sc X _ hg h1).pe
      have r2 := (sndE b sc X _ hg h2).pe
      have hu := hg.units
      exact ⟨⟨fun _ _ => rfl, fun _ _ => rfl, fun _ _ => rfl, rfl, rfl⟩, q_cmp (by omega) r1 r2, q_cmpT (by omega) r1 r2⟩
    · cases h
  | .isN a, sc, X, x, hg, h => by
    simp only [okE] at h
    split at h
    · rename_i l r hn
      simp only [Bool.and_eq_true, decide_eq_true_eq] at h
      obtain ⟨q, rfl⟩ := vCmp_some hn
      obtain ⟨h1, h2⟩ := h
      obtain ⟨j, p, rfl⟩ := vConst_some h2
      simp only [evE]
      have r1 := (sndE a sc X _ hg h1).pe
      exact ⟨⟨fun _ _ => rfl, fun _ _ => rfl, fun _ _ => rfl, rfl, rfl⟩, q_isN r1, q_isNT r1⟩
    · cases h
  | .notN a, sc, X, x, hg, h => by
    simp only [okE] at h
    split at h
    · rename_i l r hn
      simp only [Bool.and_eq_true, decide_eq_true_eq] at h
      obtain ⟨q, rfl⟩ := vCmp_some hn
      obtain ⟨h1, h2⟩ := h
      obtain ⟨j, p, rfl⟩ := vConst_some h2
      simp only [evE]
      have r1 := (sndE a sc X _ hg h1).pe
      exact ⟨⟨fun _ _ => rfl, fun _ _ => rfl, fun _ _ => rfl, rfl, rfl⟩, q_notN r1, q_notNT r1⟩
    · cases h
  | .inn a b, sc, X, x, hg, h => by
    simp only [okE] at h
    split at h
    · rename_i l r hn
      simp only [Bool.and_eq_true] at h
      obtain ⟨q, rfl⟩ := vCmp_some hn
      obtain ⟨h1, h2⟩ := h
      simp only [evE]
      have r1 := (sndE a sc X _ hg h1).pe
      have r2 := sndE b sc X _ hg h2
      exact ⟨⟨fun _ _ => rfl, fun _ _ => rfl, fun _ _ => rfl, rfl, rfl⟩, q_in hg.units r2.pl.b1 r1 r2.pe, q_inT hg.units r2.pl.b1 r1 r2.pe⟩
    · cases h
  | .nin a b, sc, X, x, hg, h => by
    simp only [okE] at h
    split at h
    · rename_i l r hn
      simp only [Bool.and_eq_true] at h
      obtain ⟨q, rfl⟩ := vCmp_some hn
      obtain ⟨h1, h2⟩ := h
      simp only [evE]
      have r1 := (sndE a sc X _ hg h1).pe
      have r2 := sndE b sc X _ hg h2
      exact ⟨⟨fun _ _ => rfl, fun _ _ => rfl, fun _ _ => rfl, rfl, rfl⟩, q_nin hg.units r2.pl.b2 r1 r2.pe, q_ninT hg.units r2.pl.b2 r1 r2.pe⟩
    · cases h
  | .ands es, sc, X, x, hg, h => by
    simp only [okE] at h
    split at h
    · rename_i xs hn
      simp only [Bool.and_eq_true, Bool.not_eq_true'] at h
      obtain ⟨q, rfl⟩ := vBool_some hn
      simp only [evE]
      have r := sndAnd es sc X xs q hg h.2 h.1
      exact ⟨⟨fun _ _ => rfl, fun _ _ => rfl, fun _ _ => rfl, rfl, rfl⟩, r.1, r.2.pt⟩
    · cases h
  | .ors es, sc, X, x, hg, h => by
    simp only [okE] at h
    split at h
    · rename_i xs hn
      simp only [Bool.and_eq_true, Bool.not_eq_true'] at h
      obtain ⟨q, rfl⟩ := vBool_some hn
      simp only [evE]
      have r := sndOr es sc X xs q hg h.2 h.1
      exact ⟨⟨fun _ _ => rfl, fun _ _ => rfl, fun _ _ => rfl, rfl, rfl⟩, r.1, r.2.pt⟩
    · cases h
  | .tup es, sc, X, x, hg, h => by
    simp only [okE] at h
    split at h
    · rename_i xs hn
      obtain ⟨k, q, rfl⟩ := vTup_some hn
      simp only [evE]
      exact Res.plain ⟨fun _ _ => rfl, fun _ _ => rfl, fun _ _ => rfl, rfl, rfl⟩ (q_tup (sndEs es sc X xs hg h).pa) fun _ _ => rfl
    · cases h
  | .lst es, sc, X, x, hg, h => by
    simp only [okE] at h
    split at h
    · rename_i xs hn
      obtain ⟨q, rfl⟩ := vLst_some hn
      simp only [evE]
      exact Res.plain ⟨fun _ _ => rfl, fun _ _ => rfl, fun _ _ => rfl, rfl, rfl⟩ (q_lst (sndEs es sc X xs hg h).pa) fun _ _ => rfl
    · cases h
  | .idx a i, sc, X, x, hg, h => by
    simp only [okE] at h
    split at h
    · rename_i l r hn
      simp only [Bool.and_eq_true] at h
      obtain ⟨q, rfl⟩ := vIdx_some hn
      simp only [evE]
      have r2 := sndE i sc X _ hg h.2
      exact Res.plain ⟨fun _ _ => rfl, fun _ _ => rfl, fun _ _ => rfl, rfl, rfl⟩ (q_idx r2.pl.ix (sndE a sc X _ hg h.1).pe r2.pe) fun _ _ => rfl
    · cases h
  | .slc a lo hi, sc, X, x, hg, h => by
    simp only [okE] at h
    split at h
    · rename_i l r r' hn
      simp only [Bool.and_eq_true] at h
      obtain ⟨q, q', rfl⟩ := vSlc_some hn
      obtain ⟨⟨h1, h2⟩, h3⟩ := h
      simp only [evE]
      exact Res.plain ⟨fun _ _ => rfl, fun _ _ => rfl, fun _ _ => rfl, rfl, rfl⟩ (q_slc (sndE a sc X _ hg h1).pe (sl_part h2 fun y hy => sndE lo sc X y hg hy) (sl_part h3 fun y hy => sndE hi sc X y hg hy)) fun _ _ => rfl
    · cases h
  | .b1 f a, sc, X, x, hg, h => by
    simp only [okE] at h
    split at h
    · rename_i n y hn
      simp only [Bool.and_eq_true, decide_eq_true_eq] at h
      obtain ⟨q, q', rfl⟩ := vCall_some hn
      obtain ⟨⟨rfl, h1⟩, h2⟩ := h
      have hgl := hg.gl h1
      simp only [evE]
      cases f with
      | sset => cases h2
      | srt => cases h2
      | lrev =>
        replace h2 : (match vCall y with
          | some (n2, [z]) => decide (n2 = "reversed") && glB sc "reversed" && okE G sc a z
          | _ => false) = true := h2
        split at h2
        · rename_i n2 z hn2
          rw [Bool.and_eq_true, Bool.and_eq_true, decide_eq_true_eq] at h2
          obtain ⟨q2, q3, rfl⟩ := vCall_some hn2
          obtain ⟨⟨rfl, h3⟩, h4⟩ := h2
          have r := sndE a sc X _ hg h4
          exact Res.plain pl_call (q_listRev hg.calm hgl (hg.blt _ (by decide +kernel)) (hg.gl h3) (hg.blt _ (by decide +kernel)) r.pl.st r.pe) fun _ _ => rfl
        · cases h2
      | abs => have r := sndE a sc X _ hg h2; exact Res.plain pl_call (q_abs hgl (hg.blt _ (by decide +kernel)) r.pl.st r.pe) fun _ _ => rfl
      | len => have r := sndE a sc X _ hg h2; exact Res.plain pl_call (q_len hgl (hg.blt _ (by decide +kernel)) r.pl.st r.pe) fun _ _ => rfl
      | int => have r := sndE a sc X _ hg h2; exact Res.plain pl_call (q_int hgl (hg.blt _ (by decide +kernel)) r.pl.st r.pe) fun _ _ => rfl
      | sum => have r := sndE a sc X _ hg h2; exact Res.plain pl_call (q_sum hg.calm hgl (hg.blt _ (by decide +kernel)) r.pl.st r.pe) fun _ _ => rfl
      | min => have r := sndE a sc X _ hg h2; exact Res.plain pl_call (q_min hg.calm hgl (hg.blt _ (by decide +kernel)) r.pl.st r.pe) fun _ _ => rfl
      | max => have r := sndE a sc X _ hg h2; exact Res.plain pl_call (q_max hg.calm hgl (hg.blt _ (by decide +kernel)) r.pl.st r.pe) fun _ _ => rfl
      | list => have r := sndE a sc X _ hg h2; exact Res.plain pl_call (q_list hgl (hg.blt _ (by decide +kernel)) r.pl.st r.pe) fun _ _ => rfl
    · cases h
  | .b2 f a b, sc, X, x, hg, h => by
    simp only [okE] at h
    split at h
    · rename_i n y z hn
      simp only [Bool.and_eq_true, decide_eq_true_eq] at h
      obtain ⟨q, q', rfl⟩ := vCall_some hn
      obtain ⟨⟨⟨rfl, h1⟩, h2⟩, h3⟩ := h
      have hgl := hg.gl h1
      have r1 := sndE a sc X _ hg h2
      have r2 := sndE b sc X _ hg h3
      simp only [evE]
      cases f with
      | min => exact Res.plain pl_call (q_min2 hg.calm hgl (hg.blt _ (by decide +kernel)) r1.pl.st r2.pl.st r1.pe r2.pe) fun _ _ => rfl
      | max => exact Res.plain pl_call (q_max2 hg.calm hgl (hg.blt _ (by decide +kernel)) r1.pl.st r2.pl.st r1.pe r2.pe) fun _ _ => rfl
    · cases h
  | .isi a t, sc, X, x, hg, h => by
    simp only [okE] at h
    split at h
    · rename_i n y z hn
      simp only [Bool.and_eq_true, decide_eq_true_eq] at h
      obtain ⟨q, q', rfl⟩ := vCall_some hn
      obtain ⟨⟨⟨⟨rfl, h1⟩, h2⟩, h3⟩, h4⟩ := h
      obtain ⟨q2, rfl⟩ := vName_some h3
      have r1 := sndE a sc X _ hg h2
      simp only [evE]
      exact Res.plain pl_call (q_isi (hg.gl h1) (hg.blt _ (by decide +kernel)) (hg.gl h4) (hg.blt _ (by cases t <;> decide +kernel)) r1.pl.st r1.pe) fun _ _ => rfl
    · cases h
  | .isx a cs many, sc, X, x, hg, h => by
    simp only [okE] at h
    split at h
    · rename_i n y z hn
      simp only [Bool.and_eq_true, decide_eq_true_eq] at h
      obtain ⟨q, q', rfl⟩ := vCall_some hn
      obtain ⟨⟨⟨rfl, h1⟩, h2⟩, h3⟩ := h
      have r1 := sndE a sc X _ hg h2
      refine Res.plain pl_call ?_ fun _ _ => rfl
      cases hf : ct flagX [] with
      | none =>
        refine ⟨fun pins s σ H Q I ⟨_, _, g, _, _, _, e, _⟩ => ?_⟩
        simp only [evE, hf] at e
        cases e
      | some v =>
        have xk := hg.xk (by rw [hf]; simp)
        have e : (fun g => evE ct g (.isx a cs many)) = isxF cs fun g => evE ct g a := by
          funext g
          simp only [evE, hf]
          rfl
        rw [e]
        cases many with
        | true =>
          replace h3 : (decide (cs.length ≤ 1000) && (match vTup z with
            | some ys => okCls (glB sc) cs ys
            | none => false)) = true := h3
          rw [Bool.and_eq_true, decide_eq_true_eq] at h3
          obtain ⟨h3, h4⟩ := h3
          split at h4
          · rename_i ys hy
            obtain ⟨kk, q2, rfl⟩ := vTup_some hy
            exact q_isxs xk (fun x hx => hg.gl hx) h4 h3 (hg.gl h1) (hg.blt _ (by decide +kernel)) r1.pl.st r1.pe
          · cases h4
        | false =>
          replace h3 : okCls (glB sc) cs [z] = true := h3
          cases cs with
          | nil => cases h3
          | cons d ds =>
            cases ds with
            | cons d2 ds => simp only [okCls, Bool.and_eq_true] at h3; exact absurd h3.2 (by simp)
            | nil =>
              simp only [okCls, Bool.and_eq_true, decide_eq_true_eq] at h3
              obtain ⟨⟨h4, h5⟩, _⟩ := h3
              split at h5
              · simp only [Bool.and_eq_true, decide_eq_true_eq] at h5
                obtain ⟨rfl, h6⟩ := h5
                exact q_isx1 xk h4 (hg.gl h1) (hg.blt _ (by decide +kernel)) (hg.gl h6) r1.pl.st r1.pe
              · cases h5
    · cases h
  | .maxd _ _, sc, X, x, hg, h => by simp only [okE] at h; cases h
  | .cnt a b, sc, X, x, hg, h => by
    simp only [okE] at h
    split at h
    · rename_i o m y hn
      simp only [Bool.and_eq_true, decide_eq_true_eq] at h
      obtain ⟨⟨⟨rfl, h1⟩, h2⟩, h3⟩ := h
      obtain ⟨p, q, rfl, hl⟩ := vMeth_some hn
      obtain ⟨n, hn2⟩ := Option.isSome_iff_exists.mp h1
      obtain ⟨p2, rfl⟩ := vName_some hn2
      have r1 := sndE a sc X _ hg h2
      have r2 := sndE b sc X _ hg h3
      simp only [evE]
      exact Res.plain ⟨fun _ _ => rfl, fun _ _ => rfl, fun _ _ => rfl, rfl, rfl⟩ (q_cnt hg.units r2.pl.st hl (r2.pl.st.few _ _) r1.pe r2.pe) fun _ _ => rfl
    · cases h
  | .call f es, sc, X, x, hg, h => by
    simp only [okE] at h
    split at h
    · rename_i n xs hn
      simp only [Bool.and_eq_true, decide_eq_true_eq, Bool.not_eq_true'] at h
      obtain ⟨q, q', rfl⟩ := vCall_some hn
      obtain ⟨⟨⟨⟨h1, h2⟩, h3⟩, h4⟩, h5⟩ := h
      obtain ⟨k, fa, fd, ps, m1, m2, m3, m4, m5⟩ := hg.fns f n h1
      have r := sndEs es sc X xs hg h5
      simp only [evE]
      cases xs with
      | nil =>
        cases es with
        | nil => cases h4
        | cons e es => simp only [okEs] at h5; cases h5
      | cons y ys =>
        have hst := r.st
        have ns : NoStar y := by
          cases es with
          | nil => cases h4
          | cons e es =>
            simp only [okEs, Bool.and_eq_true] at h5
            exact (sndE e sc X y hg h5.1).pl.st
        have hpl : (backTo q' (starEach ys X.env)).any (·.1) = false := by
          refine st_any ?_
          have := hst X.env
          rw [ns] at this
          exact (List.cons.inj this).2
        exact Res.plain pl_call (q_call m2 m5 (hg.gl h2) m1 m3 m4 (nameB_some h3).1 ns hpl r.pa) fun _ _ => rfl
    · cases h
  | .comp elt tg it c, sc, X, x, hg, h => by
    simp only [okE] at h
    split at h
    · rename_i elt' tg' it' ifs scope hn
      simp only [Bool.and_eq_true] at h
      obtain ⟨q, rfl⟩ := vComp_some hn
      obtain ⟨⟨⟨⟨h1, h2⟩, h3⟩, h4⟩, h5⟩ := h
      simp only [evE]
      have hi := sndI it sc X tg' it' hg h1
      have ok : BlkOk X.N X.env.scope scope (ownOf G tg) := by rw [hg.N, hg.sc]; exact blkOk_by h2
      have hb := fun s H C cl fp => hg.blk s H scope C cl fp
      have p : PE X (.ListComp elt' [⟨tg', it', ifs, 0⟩] scope q) (tLc (tQI X.K fun g => evI ct g it) (gQ X.K tg) (tQT X.K fun g => evC ct g c) (tQ X.K fun g => evE ct g elt) ((ownOf G tg).map (·.2))) :=
        pe_lc hg.calm hg.nd hi.1 ok
          (fun s H C cl fp => okTg_pg (hb s H C cl fp).N (hb s H C cl fp).nd (hb s H C cl fp).calm (fun x hx => by
            have z := locB_some hx
            rw [← (hb s H C cl fp).sc] at z
            exact ⟨.inl z, .inr z⟩) tg tg' h3)
          (fun s H C cl fp => sndC c _ _ ifs (hb s H C cl fp) h4)
          (fun s H C cl fp => (sndE elt _ _ elt' (hb s H C cl fp) h5).pe) hi.2
      have e : (ownOf G tg).map (·.2) = tgSlots tg := by simp [ownOf, Function.comp_def]
      rw [e] at p
      exact Res.plain ⟨fun _ _ => rfl, fun _ _ => rfl, fun _ _ => rfl, rfl, rfl⟩ (p.imp fun _ _ _ z => comp_read z) fun _ _ => rfl
    · cases h
theorem sndEs : ∀ (es : Exs) (sc : Scope) (X : Cx) (xs : List Expr), GX G ct sc X → okEs G sc es xs = true → ResA X xs (fun g => evs ct g es)
  | .nil, sc, X, xs, hg, h => by
    cases xs with
    | nil => simp only [evs]; exact ⟨qa_nil, fun _ => rfl⟩
    | cons => simp only [okEs] at h; cases h
  | .cons e es, sc, X, xs, hg, h => by
    cases xs with
    | nil => simp only [okEs] at h; cases h
    | cons x xs =>
      simp only [okEs, Bool.and_eq_true] at h
      have r1 := sndE e sc X x hg h.1
      have r2 := sndEs es sc X xs hg h.2
      simp only [evs]
      refine ⟨qa_cons r1.pe r2.pa (r1.pl.st _ _), fun env => ?_⟩
      rw [r1.pl.st, r2.st]
      rfl
theorem sndC : ∀ (es : Exs) (sc : Scope) (X : Cx) (xs : List Expr), GX G ct sc X → okCs G sc es xs = true → PTs X xs (tQT X.K fun g => evC ct g es)
  | .nil, sc, X, xs, hg, h => by
    cases xs with
    | nil =>
      simp only [evC]
      exact ⟨fun pins s σ H Q I ⟨H0, O, g, b, S, e, q⟩ => by
        cases e
        exact pts_nil.run pins s σ H Q I (q H (Same.refl H))⟩
    | cons => simp only [okCs] at h; cases h
  | .cons e es, sc, X, xs, hg, h => by
    simp only [okCs] at h
    split at h
    · rename_i x
      simp only [Bool.and_eq_true] at h
      have r1 := sndE e sc X x hg h.1
      cases es with
      | nil =>
        simp only [evC]
        exact pts_one r1.pt
      | cons => cases h.2
    · cases h
theorem sndAnd : ∀ (es : Exs) (sc : Scope) (X : Cx) (xs : List Expr) (pos : Pos), GX G ct sc X → okEs G sc es xs = true → isNil es = false → PE X (.BoolOp .And xs pos) (tQ X.K fun g => evAnd ct g es) ∧ PW X (.BoolOp .And xs pos) (tQT X.K (bOf fun g => evAnd ct g es))
  | .nil, sc, X, xs, pos, hg, h, hn => by cases hn
  | .cons e .nil, sc, X, xs, pos, hg, h, hn => by
    cases xs with
    | nil => simp only [okEs] at h; cases h
    | cons x xs =>
      simp only [okEs, Bool.and_eq_true] at h
      have r1 := sndE e sc X x hg h.1
      cases xs with
      | cons => cases h.2
      | nil =>
        simp only [evAnd]
        exact ⟨q_one r1.pe, q_oneW_and r1.pt⟩
  | .cons e (.cons e2 es), sc, X, xs, pos, hg, h, hn => by
    cases xs with
    | nil => simp only [okEs] at h; cases h
    | cons x xs =>
      have h' : okE G sc e x = true ∧ okEs G sc (.cons e2 es) xs = true := by
        rw [okEs, Bool.and_eq_true] at h; exact h
      have r1 := sndE e sc X x hg h'.1
      have r2 := sndAnd (.cons e2 es) sc X xs pos hg h'.2 rfl
      cases xs with
      | nil => cases h'.2
      | cons y ys =>
        have ev : (fun g => evAnd ct g (.cons e (.cons e2 es))) = andF (fun g => evE ct g e) (fun g => evAnd ct g (.cons e2 es)) := by
          funext g; rw [evAnd]; rfl
          intro z; cases z
        rw [ev]
        exact ⟨q_and r1.pe r2.1, q_andW r1.pt r2.2⟩
theorem sndOr : ∀ (es : Exs) (sc : Scope) (X : Cx) (xs : List Expr) (pos : Pos), GX G ct sc X → okEs G sc es xs = true → isNil es = false → PE X (.BoolOp .Or xs pos) (tQ X.K fun g => evOr ct g es) ∧ PW X (.BoolOp .Or xs pos) (tQT X.K (bOf fun g => evOr ct g es))
  | .nil, sc, X, xs, pos, hg, h, hn => by cases hn
  | .cons e .nil, sc, X, xs, pos, hg, h, hn => by
    cases xs with
    | nil => simp only [okEs] at h; cases h
    | cons x xs =>
      simp only [okEs, Bool.and_eq_true] at h
      have r1 := sndE e sc X x hg h.1
      cases xs with
      | cons => cases h.2
      | nil =>
        simp only [evOr]
        exact ⟨q_one r1.pe, q_oneW_or r1.pt⟩
  | .cons e (.cons e2 es), sc, X, xs, pos, hg, h, hn => by
    cases xs with
    | nil => simp only [okEs] at h; cases h
    | cons x xs =>
      have h' : okE G sc e x = true ∧ okEs G sc (.cons e2 es) xs = true := by
        rw [okEs, Bool.and_eq_true] at h; exact h
      have r1 := sndE e sc X x hg h'.1
      have r2 := sndOr (.cons e2 es) sc X xs pos hg h'.2 rfl
      cases xs with
      | nil => cases h'.2
      | cons y ys =>
        have ev : (fun g => evOr ct g (.cons e (.cons e2 es))) = orF (fun g => evE ct g e) (fun g => evOr ct g (.cons e2 es)) := by
          funext g; rw [evOr]; rfl
          intro z; cases z
        rw [ev]
        exact ⟨q_or r1.pe r2.1, q_orW r1.pt r2.2⟩
theorem sndI : ∀ (i : Itx) (sc : Scope) (X : Cx) (tg x : Expr), GX G ct sc X → okI G sc i tg x = true → PI X tg x (tQI X.K fun g => evI ct g i) ∧ ∀ v, foldedSetIterable x X.env v = pure v
  | .ex a, sc, X, tg, x, hg, h => by
    simp only [okI] at h
    have r := sndE a sc X x hg h
    simp only [evI]
    exact ⟨i_ex r.pe, r.pl.fo X.env⟩
  | .rng a, sc, X, tg, x, hg, h => by
    simp only [okI] at h
    split at h
    · rename_i n y hn
      simp only [Bool.and_eq_true, decide_eq_true_eq] at h
      obtain ⟨q, q', rfl⟩ := vCall_some hn
      obtain ⟨⟨rfl, h1⟩, h2⟩ := h
      have r := sndE a sc X _ hg h2
      simp only [evI]
      exact ⟨i_rng (hg.gl h1) (hg.blt _ (by decide +kernel)) r.pl.st r.pe, fun _ => rfl⟩
    · cases h
  | .rng2 a b, sc, X, tg, x, hg, h => by
    simp only [okI] at h
    split at h
    · rename_i n y z hn
      simp only [Bool.and_eq_true, decide_eq_true_eq] at h
      obtain ⟨q, q', rfl⟩ := vCall_some hn
      obtain ⟨⟨⟨rfl, h1⟩, h2⟩, h3⟩ := h
      have r := sndE a sc X _ hg h2
      have r2 := sndE b sc X _ hg h3
      simp only [evI]
      exact ⟨i_rng2 (hg.gl h1) (hg.blt _ (by decide +kernel)) r.pl.st r2.pl.st r.pe r2.pe, fun _ => rfl⟩
    · cases h
  | .zip a b, sc, X, tg, x, hg, h => by
    simp only [okI] at h
    split at h
    · rename_i n y z hn
      simp only [Bool.and_eq_true, decide_eq_true_eq] at h
      obtain ⟨q, q', rfl⟩ := vCall_some hn
      obtain ⟨⟨⟨⟨rfl, h1⟩, h2⟩, h3⟩, h4⟩ := h
      have r := sndE a sc X _ hg h2
      have r2 := sndE b sc X _ hg h3
      obtain ⟨es, he⟩ := Option.isSome_iff_exists.mp h4
      obtain ⟨k, p, rfl⟩ := vTup_some he
      simp only [evI]
      exact ⟨i_zip (hg.gl h1) (hg.blt _ (by decide +kernel)) r.pl.st r2.pl.st r.pe r2.pe, fun _ => rfl⟩
    · cases h
  | .enum a, sc, X, tg, x, hg, h => by
    simp only [okI] at h
    split at h
    · rename_i n y hn
      simp only [Bool.and_eq_true, decide_eq_true_eq] at h
      obtain ⟨q, q', rfl⟩ := vCall_some hn
      obtain ⟨⟨⟨rfl, h1⟩, h2⟩, h4⟩ := h
      have r := sndE a sc X _ hg h2
      obtain ⟨es, he⟩ := Option.isSome_iff_exists.mp h4
      obtain ⟨k, p, rfl⟩ := vTup_some he
      simp only [evI]
      exact ⟨i_enum (hg.gl h1) (hg.blt _ (by decide +kernel)) r.pl.st r.pe, fun _ => rfl⟩
    · cases h
  | .rev a, sc, X, tg, x, hg, h => by
    simp only [okI] at h
    split at h
    · rename_i n y hn
      simp only [Bool.and_eq_true, decide_eq_true_eq] at h
      obtain ⟨q, q', rfl⟩ := vCall_some hn
      obtain ⟨⟨rfl, h1⟩, h2⟩ := h
      have r := sndE a sc X _ hg h2
      simp only [evI]
      exact ⟨i_rev (hg.gl h1) (hg.blt _ (by decide +kernel)) r.pl.st r.pe, fun _ => rfl⟩
    · cases h
end
end
end Ev
/-! Ev: statements, defs, the table. -/
namespace Ev
open PySem PySem.Spec PyProof.Rows L2

/-! ### views of statements -/
def vAsg : Stmt → Option (Expr × Expr × Nat)
  | .Assign [t] e pos => some (t, e, pos.line)
  | _ => none
def vEx : Stmt → Option Expr
  | .Expr e _ => some e
  | _ => none
def vRet : Stmt → Option Expr
  | .Return (some e) _ => some e
  | _ => none
def vIf : Stmt → Option (Expr × List Stmt × List Stmt)
  | .If c a b _ => some (c, a, b)
  | _ => none
def vWhl : Stmt → Option (Expr × List Stmt)
  | .While c b [] _ => some (c, b)
  | _ => none
def vFor : Stmt → Option (Expr × Expr × List Stmt)
  | .For t i b [] _ => some (t, i, b)
  | _ => none
def vNameP : Expr → Option (Str × Pos)
  | .Name x p => some (x, p)
  | _ => none
section
variable {x : Stmt}
theorem vAsg_some {t e : Expr} {l : Nat} (h : vAsg x = some (t, e, l)) : ∃ p : Pos, p.line = l ∧ x = .Assign [t] e p := by
  unfold vAsg at h
  split at h
  · cases h; exact ⟨_, rfl, rfl⟩
  · cases h
theorem vEx_some {e : Expr} (h : vEx x = some e) : ∃ p, x = .Expr e p := by
  cases x <;> simp [vEx] at h
  subst h; exact ⟨_, rfl⟩
theorem vRet_some {e : Expr} (h : vRet x = some e) : ∃ p, x = .Return (some e) p := by
  unfold vRet at h
  split at h
  · cases h; exact ⟨_, rfl⟩
  · cases h
theorem vIf_some {c : Expr} {a b : List Stmt} (h : vIf x = some (c, a, b)) : ∃ p, x = .If c a b p := by
  cases x <;> simp [vIf] at h
  obtain ⟨rfl, rfl, rfl⟩ := h; exact ⟨_, rfl⟩
theorem vWhl_some {c : Expr} {b : List Stmt} (h : vWhl x = some (c, b)) : ∃ p, x = .While c b [] p := by
  unfold vWhl at h
  split at h
  · cases h; exact ⟨_, rfl⟩
  · cases h
theorem vFor_some {t i : Expr} {b : List Stmt} (h : vFor x = some (t, i, b)) : ∃ p, x = .For t i b [] p := by
  unfold vFor at h
  split at h
  · cases h; exact ⟨_, rfl⟩
  · cases h
theorem vNameP_some {e : Expr} {n : Str} {p : Pos} (h : vNameP e = some (n, p)) : e = .Name n p := by
  cases e <;> simp [vNameP] at h
  obtain ⟨rfl, rfl⟩ := h; rfl
end

/-! ### what is asked of an assignment's sides -/
def noComp : Expr → Bool
  | .ListComp .. => false
  | .SetComp .. => false
  | .DictComp .. => false
  | _ => true
theorem sw_no {e : Expr} (h : noComp e = true) (t : Option Expr) (l : Nat) (env : Env) : swapsWith e t l env = pure false := by
  cases e <;> first | rfl | cases h
theorem sw_sub {e o i : Expr} {p : Pos} (l : Nat) (env : Env) : swapsWithSole [.Subscript o i p] e l env = pure false := by
  cases e <;> rfl
theorem sw_tup {e : Expr} {es : List Expr} {k : Nat} {p : Pos} (l : Nat) (env : Env) : swapsWithSole [.Tuple es k p] e l env = pure false := by
  cases e <;> rfl
def swB (sc : Scope) (y : Str) (py pos : Pos) (scope : Scope) : Bool := locB sc y && (py.line == pos.line) && !(scope.names.any fun (n, k) => n == y && (k == .local || k == .cell))
theorem locB_eq (sc : Scope) (y : Str) : (sc.names.lookup y == some .local) = locB sc y := by
  unfold locB
  cases sc.names.lookup y with
  | none => rfl
  | some k => cases k <;> rfl
theorem sw_lc {elt : Expr} {gs : List Comprehension} {scope : Scope} {pos py : Pos} {y : Str} {l : Nat} {env : Env} (hk : env.scope.kind = .function) : swapsWith (.ListComp elt gs scope pos) (some (.Name y py)) l env = pure (swB env.scope y py pos scope) := by
  have hb : env.blockKind = .function := by unfold Env.blockKind; rw [hk]; rfl
  have ky : (env.kindOf y == some .local) = locB env.scope y := locB_eq env.scope y
  unfold swapsWith swB
  simp only [hb, ky, Expr.pos]
  first | rfl | simp
def noTup : Expr → Bool
  | .Tuple .. => false
  | _ => true
theorem ss_no {ts : List Expr} {k : Nat} {p : Pos} {e : Expr} (h : noTup e = true) (env : Env) : swappedStores [.Tuple ts k p] e env = pure none := by
  cases e <;> first | rfl | cases h
theorem ss_len {ts vs : List Expr} {k k2 : Nat} {p p2 : Pos} (h : (ts.length == 2 || ts.length == 3) = false) (env : Env) : swappedStores [.Tuple ts k p] (.Tuple vs k2 p2) env = pure none := by
  unfold swappedStores
  simp [h]
theorem ss_sub {o i e : Expr} {p : Pos} (env : Env) : swappedStores [.Subscript o i p] e env = pure none := by
  unfold swappedStores
  cases e <;> rfl
/-- two plain local names, stored from the right -/
def parB (sc : Scope) (x y : Str) (px py : Pos) (a b : Expr) : Bool :=
  locB sc x && locB sc y && (px.line == py.line) && !(x == y) && !([a, b].all (foldedForSure 8)) && !([a, b].all (constantsAlone 8)) && !([a, b].any fun | .Starred .. => true | _ => false)
theorem ss_par {sc : Scope} {x y : Str} {px py pt pt2 : Pos} {k k2 : Nat} {a b : Expr} {env : Env} (hs : env.scope = sc) (hk : env.scope.kind = .function) (h : parB sc x y px py a b = true) :
    swappedStores [.Tuple [.Name x px, .Name y py] k pt] (.Tuple [a, b] k2 pt2) env = pure (some [x, y]) := by
  have hb : env.blockKind = .function := by unfold Env.blockKind; rw [hk]; rfl
  unfold parB at h
  simp only [Bool.and_eq_true, Bool.not_eq_true'] at h
  obtain ⟨⟨⟨⟨⟨⟨h1, h2⟩, h3⟩, h4⟩, h5⟩, h6⟩, h7⟩ := h
  have kx : (env.kindOf x == some .local) = true := by rw [← h1, ← hs]; exact locB_eq env.scope x
  have ky : (env.kindOf y == some .local) = true := by rw [← h2, ← hs]; exact locB_eq env.scope y
  have h4' : (y == x) = false := by rw [← h4]; exact Bool.eq_iff_iff.mpr ⟨fun z => by rw [beq_iff_eq] at z; subst z; simp, fun z => by rw [beq_iff_eq] at z; subst z; simp⟩
  have h3' : (py.line == px.line) = true := by rw [beq_iff_eq] at h3 ⊢; exact h3.symm
  have ed : ([x, y] : List Str).eraseDups = [x, y] := by
    rw [List.eraseDups_cons, List.filter_cons]
    simp [h4', h4, List.eraseDups_cons]
  unfold swappedStores
  simp only [hb, h5, h6, h7, kx, ky, h3', Expr.pos, List.length_cons, List.length_nil, List.head?_cons, Option.map_some, Option.getD_some, List.filterMap_cons, List.filterMap_nil, beq_self_eq_true, Bool.and_self, if_true, ed]
  simp only [List.any_cons, List.any_nil, Bool.or_false, Bool.or_eq_false_iff] at h7
  simp
  intro z
  rcases z with z | z
  · cases a <;> first | (cases z; done) | (cases h7.1; done)
  · cases b <;> first | (cases z; done) | (cases h7.2; done)

/-! ### the checker -/
def okTgs (G : Sg) (sc : Scope) (is : List Nat) (t : Expr) (e : Expr) : Bool := match vTup t with
  | some ts => okNames G (loc2B sc) is ts && (noTup e || !(ts.length == 2 || ts.length == 3))
  | none => false
def okVar (G : Sg) (sc : Scope) (i : Nat) (e : Expr) : Bool := match vName e with
  | some x => decide (G.N[i]? = some x) && visB sc x && nameB x
  | none => false
def isFrz : Sm → Bool
  | .frz _ => true
  | _ => false
theorem isFrz_some {s : Sm} (h : isFrz s = true) : ∃ i, s = .frz i := by
  cases s <;> first | exact ⟨_, rfl⟩ | cases h
def vSub : Expr → Option (Expr × Expr)
  | .Subscript _ (.Slice _ _ _ _) _ => none
  | .Subscript o i _ => some (o, i)
  | _ => none
def okCall (G : Sg) (sc : Scope) (f : Nat) (es : Exs) (x : Expr) : Bool := match vCall x with
  | some (n, xs) => decide (G.fn f = some n) && glB sc n && nameB n && !isNil es && okEs G sc es xs
  | none => false
def vRse : Stmt → Option Str
  | .Raise (some (.Call (.Name x _) [.Constant (.str _) _ _] [] _)) none _ => some x
  | _ => none
theorem vRse_some {s : Stmt} {x : Str} (h : vRse s = some x) : ∃ m j p p2 p3 pos, s = .Raise (some (.Call (.Name x p) [.Constant (.str m) j p2] [] p3)) none pos := by
  unfold vRse at h
  split at h
  · cases h; exact ⟨_, _, _, _, _, _, rfl⟩
  · cases h
/-- body, the clause's class and name, the name that is set, what is read -/
def vTry : Stmt → Option (List Stmt × Str × Str × Str × Str)
  | .Try body [.ExceptHandler (some (.Name x _)) (some n) [.Assign [.Name y _] (.Name m _) _] _] [] [] _ => some (body, x, n, y, m)
  | _ => none
theorem vTry_some {s : Stmt} {body : List Stmt} {x n y m : Str} (h : vTry s = some (body, x, n, y, m)) : ∃ np py pn pa pos' pos, s = .Try body [.ExceptHandler (some (.Name x np)) (some n) [.Assign [.Name y py] (.Name m pn) pa] pos'] [] [] pos := by
  unfold vTry at h
  split at h
  · cases h; exact ⟨_, _, _, _, _, _, rfl⟩
  · cases h
mutual
def okS (G : Sg) (sc : Scope) : Sm → Stmt → Bool
  | .set _ i e, st => match vAsg st with
    | some (t, x, _) => (match vNameP t with
      | some (n, py) => decide (G.N[i]? = some n) && loc2B sc n && okE G sc e x && (match e, x with
        | .comp _ _ _ _, .ListComp _ _ scope pos => true
        | _, x => noComp x)
      | none => false)
    | none => false
  | .unp is e, st => match vAsg st with
    | some (t, x, _) => okTgs G sc is t x && okE G sc e x
    | none => false
  | .par i j a b, st => match vAsg st with
    | some (.Tuple [.Name x px, .Name y py] _ _, .Tuple [a', b'] _ _, _) => decide (G.N[i]? = some x) && decide (G.N[j]? = some y) && !(i == j) && parB sc x y px py a' b' && okE G sc a a' && okE G sc b b'
    | _ => false
  | .sub i k e, st => match vAsg st with
    | some (t, x, _) => (match vSub t with
      | some (o, y) => okVar G sc i o && okE G sc k y && okE G sc e x
      | none => false)
    | none => false
  | .app i e, st => match vEx st with
    | some x => (match vMeth x with
      | some (o, m, [y]) => decide (m = "append") && okVar G sc i o && okE G sc e y
      | _ => false)
    | none => false
  | .pop i, st => match vEx st with
    | some x => (match vMeth x with
      | some (o, m, []) => decide (m = "pop") && okVar G sc i o
      | _ => false)
    | none => false
  | .popTo j i, st => match vAsg st with
    | some (t, x, _) => (match vNameP t with
      | some (n, _) => decide (G.N[j]? = some n) && loc2B sc n && (match vMeth x with
        | some (o, m, []) => decide (m = "pop") && okVar G sc i o
        | _ => false)
      | none => false)
    | none => false
  | .clr i, st => match vEx st with
    | some x => (match vMeth x with
      | some (o, m, []) => decide (m = "clear") && okVar G sc i o
      | _ => false)
    | none => false
  | .frz _, _ => false
  | .ret e, st => match vRet st with
    | some x => okE G sc e x
    | none => false
  | .retv i, st => match vRet st with
    | some x => okVar G sc i x
    | none => false
  | .ife c a b, st => match vIf st with
    | some (x, as, bs) => okE G sc c x && okSs G sc a as && okSs G sc b bs
    | none => false
  | .whl c b, st => match vWhl st with
    | some (x, bs) => okE G sc c x && okSs G sc b bs
    | none => false
  | .fr tg it b, st => match vFor st with
    | some (t, x, bs) => okTg G (loc2B sc) tg t && okI G sc it t x && okSs G sc b bs
    | none => false
  | .never, _ => true
  | .setX _ i f es, st => match vAsg st with
    | some (t, x, _) => (match vNameP t with
      | some (n, py) => decide (G.N[i]? = some n) && loc2B sc n && okCall G sc f es x
      | none => false)
    | none => false
  | .retX f es, st => match vRet st with
    | some x => okCall G sc f es x
    | none => false
  | .expX f es, st => match vEx st with
    | some x => okCall G sc f es x
    | none => false
  | .rse c, st => match vRse st with
    | some x => decide (x = xName c) && decide (c < 6) && glB sc (xName c)
    | none => false
  | .tryK b i j, st => match vTry st with
    | some (body, x, n, y, m) => decide (x = "SpotError") && glB sc "SpotError" && decide (n = m) && decide (G.N[i]? = some n) && locB sc n && nameB n && decide (G.N[j]? = some y) && loc2B sc y && okSs G sc b body
    | none => false
def okSs (G : Sg) (sc : Scope) : Sms → List Stmt → Bool
  | .nil, sts => match sts with
    | [] => true
    | _ => false
  | .cons s ss, sts => match isFrz s with
    | true => okSs G sc ss sts
    | false => match sts with
      | st :: sts => okS G sc s st && okSs G sc ss sts
      | [] => false
end

/-! ### soundness -/
structure GS (G : Sg) (ct : Ct) (sc : Scope) (X : Cx) (W : WX) : Prop extends GX G ct sc X where
  hp : PassesOwn (model X.prog X.w) X.A X.env X.xe
  fn : ∀ x, X.fn x = true
  kind : X.env.scope.kind = .function
  tk : Takes X W
  hs : X.stack = X.env :: X.outer
  hf : X.env.frame = some X.env.locals
  hex : X.ex = []
  fnx : ∀ f x, G.fn f = some x → ∃ k fa fd ps, X.mg x = some (.ref fa) ∧ FnOk X.prog X.w X.K X.mg X.base (L2.CX X.prog X.w) k fa fd ps (spU X.K ct f) ∧ PySem.W.keepIn X.K (.ref fa) = true ∧ Binds X.K fd ps [] ∧ Room k X.A
section
variable {G : Sg} {ct : Ct} {sc : Scope} {X : Cx} {W : WX}
theorem GS.tr (g : GS G ct sc X W) {W' : WX} {pn : List (Addr × Obj)} {xe : Value → Shared → Prop} (tk : Takes (X.tr pn xe) W') (hp : PassesOwn (model X.prog X.w) X.A X.env xe) : GS G ct sc (X.tr pn xe) W' :=
  ⟨⟨g.N, g.nd, g.sc, g.calm, g.units, g.blt, g.fns, g.xk⟩, hp, g.fn, g.kind, tk, g.hs, g.hf, g.hex, g.fnx⟩
theorem callU_pe (hg : GS G ct sc X W) {f : Nat} {es : Exs} {x : Expr} (h : okCall G sc f es x = true) : noComp x = true ∧ PE X x (tCallS (spU X.K ct f) (WE W) (tQA X.K fun g => evs ct g es)) := by
  unfold okCall at h
  split at h
  · rename_i n xs hn
    simp only [Bool.and_eq_true, decide_eq_true_eq, Bool.not_eq_true'] at h
    obtain ⟨q, q', rfl⟩ := vCall_some hn
    obtain ⟨⟨⟨⟨h1, h2⟩, h3⟩, h4⟩, h5⟩ := h
    obtain ⟨k, fa, fd, ps, m1, m2, m3, m4, m5⟩ := hg.fnx f n h1
    have r := sndEs es sc X xs hg.toGX h5
    refine ⟨rfl, ?_⟩
    cases xs with
    | nil =>
      cases es with
      | nil => cases h4
      | cons e es => simp only [okEs] at h5; cases h5
    | cons y ys =>
      have hst := r.st
      have ns : NoStar y := by
        cases es with
        | nil => cases h4
        | cons e es =>
          simp only [okEs, Bool.and_eq_true] at h5
          exact (sndE e sc X y hg.toGX h5.1).pl.st
      have hpl : (backTo q' (starEach ys X.env)).any (·.1) = false := by
        refine st_any ?_
        have := hst X.env
        rw [ns] at this
        exact (List.cons.inj this).2
      exact q_callU hg.tk m2 m5 (hg.gl h2) m1 m3 m4 (nameB_some h3).1 ns hpl r.pa
  · cases h
theorem GS.loc (g : GS G ct sc X W) {x : Str} (h : loc2B sc x = true) : Loc X.env.scope x := by
  rw [g.sc]
  exact loc2B_some h
theorem okVar_pe (g : GS G ct sc X W) {i : Nat} {e : Expr} (h : okVar G sc i e = true) : ∃ x p, e = .Name x p ∧ PE X e (tVar i) := by
  unfold okVar at h
  split at h
  · rename_i x hn
    simp only [Bool.and_eq_true, decide_eq_true_eq] at h
    obtain ⟨p, rfl⟩ := vName_some hn
    obtain ⟨d1, d2⟩ := nameB_some h.2
    exact ⟨x, p, rfl, pe_var (by rw [g.N]; exact h.1.1) (g.vis h.1.2) d1 d2⟩
  · cases h
theorem vSub_some {e o i : Expr} (h : vSub e = some (o, i)) : ∃ p, e = .Subscript o i p ∧ ∀ (env : Env) (v : Value), assign (.Subscript o i p) env v = (do
      let ov ← holding [v] (eval o env)
      let iv ← holding [v, ov] (eval i env)
      standAt p
      holding [v, ov, iv] (setItem ov iv v)
      release [v, ov, iv] []) := by
  unfold vSub at h
  split at h
  · cases h
  · rename_i hns
    cases h
    refine ⟨_, rfl, fun env v => ?_⟩
    cases i <;> first | rfl | exact (hns _ _ _ _ rfl).elim
  · cases h
theorem s_comp (hg : GS G ct sc X W) {own : Bool} {i : Nat} {y : Str} {py spos : Pos} {elt : Ex} {tg : Tg} {it : Itx} {c : Exs} {x : Expr} (hy : G.N[i]? = some y) (hl : loc2B sc y = true) (h : okE G sc (.comp elt tg it c) x = true) :
    PS X (.Assign [.Name y py] x spos) (tS X.K W (setF own i fun g => evE ct g (.comp elt tg it c))) := by
  have r := sndE (.comp elt tg it c) sc X x hg.toGX h
  simp only [okE] at h
  split at h
  · rename_i elt' tg' it' ifs scope hn
    simp only [Bool.and_eq_true] at h
    obtain ⟨q, rfl⟩ := vComp_some hn
    obtain ⟨⟨⟨⟨h1, h2⟩, h3⟩, h4⟩, h5⟩ := h
    have hsw := sw_lc (elt := elt') (gs := [⟨tg', it', ifs, 0⟩]) (scope := scope) (pos := q) (py := py) (y := y) (l := spos.line) hg.kind
    cases hb : swB X.env.scope y py q scope with
    | false =>
      rw [hb] at hsw
      exact s_set (ps_set hg.nd (by rw [hg.N]; exact hy) (hg.loc hl) r.pe hsw (.inl (hg.fn y)))
    | true =>
      rw [hb] at hsw
      have hloc : X.env.scope.names.lookup y = some .local := by
        unfold swB at hb
        simp only [Bool.and_eq_true] at hb
        exact locB_some hb.1.1
      have hi := sndI it sc X tg' it' hg.toGX h1
      have ok : BlkOk X.N X.env.scope scope (ownOf G tg) := by rw [hg.N, hg.sc]; exact blkOk_by h2
      have hbk := fun s H C cl fp => hg.toGX.blk s H scope C cl fp
      have p : PS X (.Assign [.Name y py] (.ListComp elt' [⟨tg', it', ifs, 0⟩] scope q) spos) (tAsg (tLc (tQI X.K fun g => evI ct g it) (gQ X.K tg) (tQT X.K fun g => evC ct g c) (tQ X.K fun g => evE ct g elt) ((ownOf G tg).map (·.2))) (gName i)) :=
        ps_setLc hg.calm hg.nd (by rw [hg.N]; exact hy) hloc hsw hi.1 ok
          (fun s H C cl fp => okTg_pg (hbk s H C cl fp).N (hbk s H C cl fp).nd (hbk s H C cl fp).calm (fun x hx => by
            have z := locB_some hx
            rw [← (hbk s H C cl fp).sc] at z
            exact ⟨.inl z, .inr z⟩) tg tg' h3)
          (fun s H C cl fp => sndC c _ _ ifs (hbk s H C cl fp) h4)
          (fun s H C cl fp => (sndE elt _ _ elt' (hbk s H C cl fp) h5).pe) hi.2
      have e : (ownOf G tg).map (·.2) = tgSlots tg := by simp [ownOf, Function.comp_def]
      rw [e] at p
      simp only [evE]
      exact s_setC p
  · cases h
mutual
theorem sndS (n : Nat) : ∀ (s : Sm) (sc : Scope) (X : Cx) (W : WX) (st : Stmt), GS G ct sc X W → okS G sc s st = true → PS X st (tS X.K W fun g => evS ct n s g)
  | .set own i e, sc, X, W, st, hg, h => by
    simp only [okS] at h
    split at h
    · rename_i t x l hn
      obtain ⟨p, hl, rfl⟩ := vAsg_some hn
      split at h
      · rename_i y py hy
        obtain rfl := vNameP_some hy
        simp only [Bool.and_eq_true, decide_eq_true_eq] at h
        obtain ⟨⟨⟨h1, h2⟩, h3⟩, h4⟩ := h
        have fin : noComp x = true → PS X (.Assign [.Name y py] x p) (tS X.K W fun g => evS ct n (.set own i e) g) := fun hc => by
          simp only [evS]
          exact s_set (ps_set hg.nd (by rw [hg.N]; exact h1) (hg.loc h2) (sndE e sc X x hg.toGX h3).pe (sw_no hc _ _ _) (.inl (hg.fn y)))
        split at h4
        · simp only [evS]
          exact s_comp hg h1 h2 h3
        · exact fin h4
      · cases h
    · cases h
  | .unp is e, sc, X, W, st, hg, h => by
    simp only [okS] at h
    split at h
    · rename_i t x l hn
      obtain ⟨p, hl, rfl⟩ := vAsg_some hn
      simp only [Bool.and_eq_true] at h
      obtain ⟨h1, h2⟩ := h
      unfold okTgs at h1
      split at h1
      · rename_i ts ht
        obtain ⟨k, q, rfl⟩ := vTup_some ht
        simp only [Bool.and_eq_true] at h1
        obtain ⟨a1, a2, a3⟩ := okNames_pgs hg.N hg.nd (fun x hx => ⟨hg.loc hx, .inl (hg.fn x)⟩) is ts h1.1
        have hss : swappedStores [.Tuple ts k q] x X.env = pure none := by
          rcases Bool.or_eq_true _ _ ▸ h1.2 with z | z
          · exact ss_no z _
          · cases hx : noTup x with
            | true => exact ss_no hx _
            | false =>
              cases x <;> first | cases hx | skip
              exact ss_len (by simpa using z) _
        simp only [evS]
        exact s_unp (ps_asg (sndE e sc X x hg.toGX h2).pe (g_many (pg_tup hg.calm a1 a2 a3) (pg_lst hg.calm a1 a2 a3)) (sw_tup _ _) hss rfl)
      · cases h1
    · cases h
  | .par i j a b, sc, X, W, st, hg, h => by
    simp only [okS] at h
    split at h
    · rename_i x px y py k1 p1 a' b' k2 p2 l hn
      obtain ⟨p, hl, rfl⟩ := vAsg_some hn
      simp only [Bool.and_eq_true, decide_eq_true_eq, Bool.not_eq_true'] at h
      obtain ⟨⟨⟨⟨⟨h1, h2⟩, h3⟩, h4⟩, h5⟩, h6⟩ := h
      have r1 := sndE a sc X a' hg.toGX h5
      have r2 := sndE b sc X b' hg.toGX h6
      have hp := h4
      unfold parB at hp
      simp only [Bool.and_eq_true] at hp
      have l1 := locB_some hp.1.1.1.1.1.1
      have l2 := locB_some hp.1.1.1.1.1.2
      rw [← hg.sc] at l1 l2
      simp only [evS]
      exact s_par (ps_par hg.calm hg.nd (by rw [hg.N]; exact h1) (by rw [hg.N]; exact h2) (by simpa using h3) l1 l2 (pa_cons r1.pe (pa_cons r2.pe pa_nil (r2.pl.st _ _)) (r1.pl.st _ _)) (ss_par hg.sc hg.kind h4) (sw_tup _ _))
    · cases h
  | .sub i k e, sc, X, W, st, hg, h => by
    simp only [okS] at h
    split at h
    · rename_i t x l hn
      obtain ⟨p, hl, rfl⟩ := vAsg_some hn
      split at h
      · rename_i o y ho
        simp only [Bool.and_eq_true] at h
        obtain ⟨⟨h1, h2⟩, h3⟩ := h
        obtain ⟨q, rfl, ha⟩ := vSub_some ho
        obtain ⟨n', p', rfl, pv⟩ := okVar_pe hg h1
        simp only [evS]
        exact s_sub (ps_asg (sndE e sc X x hg.toGX h3).pe (pg_sub pv (sndE k sc X y hg.toGX h2).pe set_list (ha X.env)) (sw_sub _ _) (ss_sub _) rfl)
      · cases h
    · cases h
  | .app i e, sc, X, W, st, hg, h => by
    simp only [okS] at h
    split at h
    · rename_i x hn
      obtain ⟨p, rfl⟩ := vEx_some hn
      split at h
      · rename_i o m y hm
        simp only [Bool.and_eq_true, decide_eq_true_eq] at h
        obtain ⟨⟨rfl, h1⟩, h2⟩ := h
        obtain ⟨q, q', rfl, hl⟩ := vMeth_some hm
        obtain ⟨n', p', rfl, pv⟩ := okVar_pe hg h1
        have r := sndE e sc X y hg.toGX h2
        simp only [evS]
        exact s_app (ps_expr (pe_bm PySem.F.plainAttrs_list PySem.F.slot_list_append PySem.F.type_list_append mt_append pv (pa_cons r.pe pa_nil (r.pl.st _ _)) rfl (r.pl.st.few _ _) hl (r.pl.st _ _) rfl) rfl)
      · cases h
    · cases h
  | .pop i, sc, X, W, st, hg, h => by
    simp only [okS] at h
    split at h
    · rename_i x hn
      obtain ⟨p, rfl⟩ := vEx_some hn
      split at h
      · rename_i o m hm
        simp only [Bool.and_eq_true, decide_eq_true_eq] at h
        obtain ⟨rfl, h1⟩ := h
        obtain ⟨q, q', rfl, hl⟩ := vMeth_some hm
        obtain ⟨n', p', rfl, pv⟩ := okVar_pe hg h1
        simp only [evS]
        exact s_pop (ps_expr (pe_bm0 PySem.F.plainAttrs_list PySem.F.slot_list_pop PySem.F.type_list_pop mt_pop pv rfl hl) rfl)
      · cases h
    · cases h
  | .popTo j i, sc, X, W, st, hg, h => by
    simp only [okS] at h
    split at h
    · rename_i t x l hn
      obtain ⟨p, hl, rfl⟩ := vAsg_some hn
      split at h
      · rename_i y py hy
        obtain rfl := vNameP_some hy
        simp only [Bool.and_eq_true, decide_eq_true_eq] at h
        obtain ⟨⟨h1, h2⟩, h3⟩ := h
        split at h3
        · rename_i o m hm
          simp only [Bool.and_eq_true, decide_eq_true_eq] at h3
          obtain ⟨rfl, h4⟩ := h3
          obtain ⟨q, q', rfl, hl'⟩ := vMeth_some hm
          obtain ⟨n', p', rfl, pv⟩ := okVar_pe hg h4
          simp only [evS]
          exact s_popTo (ps_set hg.nd (by rw [hg.N]; exact h1) (hg.loc h2) (pe_bm0 PySem.F.plainAttrs_list PySem.F.slot_list_pop PySem.F.type_list_pop mt_pop pv rfl hl') (sw_no rfl _ _ _) (.inl (hg.fn y)))
        · cases h3
      · cases h
    · cases h
  | .clr i, sc, X, W, st, hg, h => by
    simp only [okS] at h
    split at h
    · rename_i x hn
      obtain ⟨p, rfl⟩ := vEx_some hn
      split at h
      · rename_i o m hm
        simp only [Bool.and_eq_true, decide_eq_true_eq] at h
        obtain ⟨rfl, h1⟩ := h
        obtain ⟨q, q', rfl, hl⟩ := vMeth_some hm
        obtain ⟨n', p', rfl, pv⟩ := okVar_pe hg h1
        simp only [evS]
        exact s_clr (ps_expr (pe_bm0 PySem.F.plainAttrs_list PySem.F.slot_list_clear PySem.F.type_list_clear mt_clear pv rfl hl) rfl)
      · cases h
    · cases h
  | .frz _, sc, X, W, st, hg, h => by simp only [okS] at h; cases h
  | .ret e, sc, X, W, st, hg, h => by
    simp only [okS] at h
    split at h
    · rename_i x hn
      obtain ⟨p, rfl⟩ := vRet_some hn
      simp only [evS]
      exact s_ret (ps_ret (sndE e sc X x hg.toGX h).pe)
    · cases h
  | .retv i, sc, X, W, st, hg, h => by
    simp only [okS] at h
    split at h
    · rename_i x hn
      obtain ⟨p, rfl⟩ := vRet_some hn
      obtain ⟨n', p', rfl, pv⟩ := okVar_pe hg h
      simp only [evS]
      exact s_retv (ps_ret pv)
    · cases h
  | .ife c a b, sc, X, W, st, hg, h => by
    simp only [okS] at h
    split at h
    · rename_i x as bs hn
      obtain ⟨p, rfl⟩ := vIf_some hn
      simp only [Bool.and_eq_true] at h
      have r := s_if (pos := p) (sndE c sc X x hg.toGX h.1.1).pt (sndSs n a sc X W as hg h.1.2) (sndSs n b sc X W bs hg h.2)
      have e : (fun g => evS ct n (.ife c a b) g) = ifF (bOf fun g => evE ct g c) (fun g => evSs ct n a g) (fun g => evSs ct n b g) := by
        funext g
        rw [evS]
        simp only [ifF, bOf, Option.bind_eq_bind, Option.bind_assoc]
      rw [e]
      exact r
    · cases h
  | .whl c b, sc, X, W, st, hg, h => by
    simp only [okS] at h
    split at h
    · rename_i x bs hn
      obtain ⟨p, rfl⟩ := vWhl_some hn
      simp only [Bool.and_eq_true] at h
      simp only [evS]
      exact s_while hg.hp n (sndE c sc X x hg.toGX h.1).pt (sndSs n b sc X W bs hg h.2)
    · cases h
  | .fr tg it b, sc, X, W, st, hg, h => by
    simp only [okS] at h
    split at h
    · rename_i t x bs hn
      obtain ⟨p, rfl⟩ := vFor_some hn
      simp only [Bool.and_eq_true] at h
      obtain ⟨⟨h1, h2⟩, h3⟩ := h
      have hi := sndI it sc X t x hg.toGX h2
      simp only [evS]
      exact s_for hg.hp hg.calm hi.1 (okTg_pg hg.N hg.nd hg.calm (fun x hx => ⟨hg.loc hx, .inl (hg.fn x)⟩) tg t h1) (sndSs n b sc X W bs hg h3) hi.2
    · cases h
  | .never, sc, X, W, st, hg, h => by
    simp only [evS]
    exact s_never
  | .setX own i f es, sc, X, W, st, hg, h => by
    simp only [okS] at h
    split at h
    · rename_i t x l hn
      obtain ⟨p, hl, rfl⟩ := vAsg_some hn
      split at h
      · rename_i y py hy
        obtain rfl := vNameP_some hy
        simp only [Bool.and_eq_true, decide_eq_true_eq] at h
        obtain ⟨⟨h1, h2⟩, h3⟩ := h
        obtain ⟨hc, pe⟩ := callU_pe hg h3
        simp only [evS]
        exact s_setX (ps_set hg.nd (by rw [hg.N]; exact h1) (hg.loc h2) pe (sw_no hc _ _ _) (.inl (hg.fn y)))
      · cases h
    · cases h
  | .retX f es, sc, X, W, st, hg, h => by
    simp only [okS] at h
    split at h
    · rename_i x hn
      obtain ⟨p, rfl⟩ := vRet_some hn
      simp only [evS]
      exact s_retX (ps_ret (callU_pe hg h).2)
    · cases h
  | .expX f es, sc, X, W, st, hg, h => by
    simp only [okS] at h
    split at h
    · rename_i x hn
      obtain ⟨p, rfl⟩ := vEx_some hn
      simp only [evS]
      have pe := (callU_pe hg h).2
      unfold okCall at h
      split at h
      · rename_i n xs hn2
        obtain ⟨q, q', rfl⟩ := vCall_some hn2
        exact s_expX (ps_expr pe rfl)
      · cases h
    · cases h
  | .rse c, sc, X, W, st, hg, h => by
    simp only [okS] at h
    split at h
    · rename_i x hn
      obtain ⟨m, j, p, p2, p3, pos, rfl⟩ := vRse_some hn
      simp only [Bool.and_eq_true, decide_eq_true_eq] at h
      obtain ⟨⟨rfl, h1⟩, h2⟩ := h
      cases hf : ct flagX [] with
      | none =>
        have e : (fun g => evS ct n (.rse c) g) = fun _ => none := by
          funext g
          simp only [evS, hf]
          rfl
        rw [e]
        exact s_never
      | some v =>
        have e : (fun g => evS ct n (.rse c) g) = fun g => some (.ex c g) := by
          funext g
          simp only [evS, hf, h1, if_true]
          rfl
        rw [e]
        exact s_rse hg.calm hg.tk (hg.xk (by rw [hf]; simp)) h1 (hg.gl h2)
    · cases h
  | .tryK b i j, sc, X, W, st, hg, h => by
    simp only [okS] at h
    split at h
    · rename_i body x nn y m hn
      obtain ⟨np, py, pn, pa, pos', pos, rfl⟩ := vTry_some hn
      simp only [Bool.and_eq_true, decide_eq_true_eq] at h
      obtain ⟨⟨⟨⟨⟨⟨⟨⟨rfl, h1⟩, rfl⟩, h2⟩, h3⟩, h4⟩, h5⟩, h6⟩, h7⟩ := h
      cases hf : ct flagX [] with
      | none =>
        have e : (fun g => evS ct n (.tryK b i j) g) = fun _ => none := by
          funext g
          simp only [evS, hf]
          rfl
        rw [e]
        exact s_never
      | some v =>
        have e : (fun g => evS ct n (.tryK b i j) g) = tryF i j fun g => evSs ct n b g := by
          funext g
          simp only [evS, hf]
          rfl
        rw [e]
        obtain ⟨d1, d2⟩ := nameB_some h4
        have hk := locB_some h3
        rw [← hg.sc] at hk
        exact s_tryK (hg.xk (by rw [hf]; simp)) hg.hs hg.hf hg.hex hg.nd (by rw [hg.N]; exact h2) hk (by rw [hg.N]; exact h5) (hg.loc h6) (hg.fn y) (hg.gl h1) d1 d2
          fun W' pn' xe tk hp => sndSs n b sc (X.tr pn' xe) W' body (hg.tr tk hp) h7
    · cases h
theorem sndSs (n : Nat) : ∀ (ss : Sms) (sc : Scope) (X : Cx) (W : WX) (sts : List Stmt), GS G ct sc X W → okSs G sc ss sts = true → PSs X sts (tS X.K W fun g => evSs ct n ss g)
  | .nil, sc, X, W, sts, hg, h => by
    cases sts with
    | nil => simp only [evSs]; exact s_nil
    | cons => simp only [okSs] at h; cases h
  | .cons s ss, sc, X, W, sts, hg, h => by
    simp only [okSs] at h
    split at h
    · rename_i hf
      obtain ⟨i, rfl⟩ := isFrz_some hf
      have r := s_frz (i := i) (sndSs n ss sc X W sts hg h)
      simp only [evSs, evS]
      exact r
    · cases sts with
      | nil => cases h
      | cons st sts =>
        simp only [Bool.and_eq_true] at h
        simp only [evSs]
        exact s_cons (sndS n s sc X W st hg h.1) (sndSs n ss sc X W sts hg h.2)
end
end
end Ev
/-! Ev: defs and the law's end. -/
namespace Ev
open PySem PySem.Spec PyProof.Rows L2
/-- a row of the text: the def's name by its number -/
def nmOf : List (Nat × Str) → Nat → Option Str
  | [], _ => none
  | (i, x) :: r, j => if j = i then some x else nmOf r j
theorem nmOf_cons {i j : Nat} {x y : Str} {r : List (Nat × Str)} (h : nmOf ((i, x) :: r) j = some y) : (j = i ∧ x = y) ∨ nmOf r j = some y := by
  unfold nmOf at h
  split at h
  · cases h; exact .inl ⟨by assumption, rfl⟩
  · exact .inr h
def okFn (nm : Nat → Option Str) (N ps : List Str) (f : Fn) (st : Stmt) : Bool :=
  decide (f.slots = N.length) && decide (f.params = ps.length) && okSs ⟨N, nm⟩ (defScope st) f.body (defBody st)
theorem callT_len {n : Nat} : ∀ {t : List (Nat × Fn)} {i : Nat} {ds : List D} {r : M × D}, callT n t i ds = some r → ∃ f, (i, f) ∈ t ∧ ds.length = f.params
  | [], _, _, _, h => by cases h
  | (j, f) :: t, i, ds, r, h => by
    simp only [callT] at h
    split at h
    · rename_i e
      subst e
      unfold runFn at h
      split at h
      · exact ⟨f, List.mem_cons_self, by assumption⟩
      · cases h
    · obtain ⟨f', h1, h2⟩ := callT_len h
      exact ⟨f', List.mem_cons_of_mem _ h1, h2⟩
section
variable {P : Program} {w : World} {K : PySem.W.Frag} {mg : Str → Option Value} {base : Heap} {nm : Nat → Option Str}
/-- every def of the text keeps the promise «as the table says» -/
structure AllOk (P : Program) (w : World) (K : PySem.W.Frag) (mg : Str → Option Value) (base : Heap) (nm : Nat → Option Str) (ct : Ct) (k : Nat) : Prop where
  all : ∀ f x, nm f = some x → ∃ fa fd ps, mg x = some (.ref fa) ∧ FnOk P w K mg base (L2.CX P w) k fa fd ps (spU K ct f) ∧ PySem.W.keepIn K (.ref fa) = true ∧ Binds K fd ps []
  xk : ct flagX [] ≠ none → XK K mg
theorem FnOk.vac {CX : CXT} {k : Nat} {fa : Addr} {fd : FuncData} {ps : List Str} {sp : Sp} (h : ∀ vs H Q E, ¬ sp vs H Q E) : FnOk P w K mg base CX k fa fd ps sp :=
  ⟨fun vs H Q E z => (h vs H Q E z).elim, fun A outer s H args us vs Q E _ _ _ _ z => (h vs H Q E z).elim⟩
theorem spU_vac {ct : Ct} {f : Nat} (h : ∀ ds, ct f ds = none) : ∀ vs H Q E, ¬ spU K ct f vs H Q E := fun vs H Q E ⟨O, ds, _, _, z⟩ => by
  rcases z with ⟨m, d, e, _⟩ | ⟨c, e, _⟩
  · rw [h] at e; cases e
  · rw [h] at e; cases e
theorem AllOk.start {n : Nat} (h : ∀ f x, nm f = some x → ∃ fa fd ps, mg x = some (.ref fa) ∧ PySem.W.keepIn K (.ref fa) = true ∧ Binds K fd ps []) : AllOk P w K mg base nm (callT n []) 0 := by
  refine ⟨fun f x e => ?_, fun z => absurd rfl z⟩
  obtain ⟨fa, fd, ps, h1, h2, h3⟩ := h f x e
  exact ⟨fa, fd, ps, h1, FnOk.vac (spU_vac fun ds => rfl), h2, h3⟩
/-- a text with the classes of errors -/
def fnX : Fn := ⟨0, 0, .nil⟩
theorem AllOk.startX {n : Nat} (xk : XK K mg) (hf : nm flagX = none) (h : ∀ f x, nm f = some x → ∃ fa fd ps, mg x = some (.ref fa) ∧ PySem.W.keepIn K (.ref fa) = true ∧ Binds K fd ps []) : AllOk P w K mg base nm (callT n [(flagX, fnX)]) 0 := by
  refine ⟨fun f x e => ?_, fun _ => xk⟩
  obtain ⟨fa, fd, ps, h1, h2, h3⟩ := h f x e
  have ne : f ≠ flagX := fun z => by rw [z, hf] at e; cases e
  exact ⟨fa, fd, ps, h1, FnOk.vac (spU_vac fun ds => by simp only [callT, if_neg ne]), h2, h3⟩
theorem start_sr {H : Hp} {O : AS} {N : List Str} {ds : List D} {vs : List V} {f : Fn} (hs : f.slots = N.length) (trk : ∀ a, O a → H a ≠ none) (r : Rps K O H ds vs) : SR K H O H (startE f ds) (L2.start N vs) := by
  have hl := r.len
  unfold startE L2.start
  rw [hs, hl]
  refine ⟨trk, by simp [hl], fun i s v e1 e2 => ?_, fun i j es fs a e1 => ?_⟩
  · by_cases hi : i < ds.length
    · rw [List.getElem?_append_left (by simpa using hi)] at e1
      rw [List.getElem?_append_left (by simpa [hl] using hi)] at e2
      rw [List.getElem?_map, List.getElem?_eq_getElem hi] at e1
      cases e1
      obtain ⟨u, eu, ru⟩ := r.get (List.getElem?_eq_getElem hi)
      rw [List.getElem?_map, eu] at e2
      cases e2
      exact ⟨u, rfl, ru⟩
    · rw [List.getElem?_append_right (by simpa using hi)] at e1
      rw [List.getElem?_replicate] at e1
      split at e1
      · cases e1; trivial
      · cases e1
  · exfalso
    by_cases hi : i < ds.length
    · rw [List.getElem?_append_left (by simpa using hi), List.getElem?_map, List.getElem?_eq_getElem hi] at e1
      cases e1
    · rw [List.getElem?_append_right (by simpa using hi), List.getElem?_replicate] at e1
      split at e1 <;> cases e1
/-- one def more -/
theorem AllOk.main {n k i : Nat} {t : List (Nat × Fn)} {fn : Fn} {x : Str} {st : Stmt} {fa : Addr} {fd : FuncData} {N ps : List Str} (A : AllOk P w K mg base nm (callT n t) k) (F : L2.Fun K x x st fa fd)
    (S : FnScope N ps (defScope st)) (ok : okFn nm N ps fn st = true) (blt : ∀ y ∈ bltNames, mg y = none) : FnOk P w K mg base (L2.CX P w) (k + 1) fa fd ps (spU K (callT n ((i, fn) :: t)) i) := by
  unfold okFn at ok
  simp only [Bool.and_eq_true, decide_eq_true_eq] at ok
  obtain ⟨⟨o1, o2⟩, o3⟩ := ok
  have here : ∀ ds, callT n ((i, fn) :: t) i ds = runFn fn (callT n t) n ds := fun ds => by rw [callT, if_pos rfl]
  have some_ : ∀ {ds : List D} {r : M × D}, runFn fn (callT n t) n ds = some r → ds.length = fn.params ∧ ∃ out, evSs (callT n t) n fn.body (startE fn ds) = some out ∧ (match out with
      | .nx _ => (.sh, .non)
      | .rt m d => (m, d)
      | .ex c _ => (.ex, .exc c)) = r := fun {ds r} e => by
    unfold runFn at e
    split at e
    · rename_i hp
      rw [Option.map_eq_some_iff] at e
      exact ⟨hp, e⟩
    · cases e
  have noEx_some : ∀ {r : Rs} {v : M × D}, noEx r = some v → r = some v ∧ v.1 ≠ .ex := fun {r v} e => by
    cases r with
    | none => cases e
    | some u =>
      obtain ⟨m, d⟩ := u
      cases m <;> cases e <;> exact ⟨rfl, fun z => by cases z⟩
  refine F.okX S (fun vs H Q E h => ?_) (fun cdv A' outer s H vs Q E hr h => ?_)
  · obtain ⟨O, ds, _, r, e⟩ := h
    rw [here] at e
    rw [r.len, ← o2]
    rcases e with ⟨m, d, e, _⟩ | ⟨c, e, _⟩
    · exact (some_ (noEx_some e).1).1
    · exact (some_ e).1
  · obtain ⟨O, ds, trk, r, e⟩ := h
    rw [here] at e
    have g : GS ⟨N, nm⟩ (callT n t) (defScope st) (cxOf (L2.CX P w) P w K mg base N x (defScope st) fa cdv A' outer s H E) (fun cls d _ H' => E cls d H') :=
      { N := rfl, nd := S.nd, sc := rfl, calm := rfl, units := by have := hr.un; show (A'.deeper _).units + 65 < cLine; omega, blt := blt,
        fns := fun f y ey => by
          obtain ⟨fa', fd', ps', h1, h2, h3, h4⟩ := A.all f y ey
          exact ⟨k, fa', fd', ps', h1, spU_quiet h2, h3, h4, hr⟩
        xk := A.xk
        hp := passes_of rfl, fn := fun _ => rfl, kind := S.kind, tk := takes_of rfl rfl rfl rfl, hs := rfl, hf := rfl, hex := rfl
        fnx := fun f y ey => by
          obtain ⟨fa', fd', ps', h1, h2, h3, h4⟩ := A.all f y ey
          exact ⟨k, fa', fd', ps', h1, h2, h3, h4, hr⟩ }
    refine ⟨_, sndSs n fn.body (defScope st) _ _ (defBody st) g o3, ?_⟩
    rcases e with ⟨m, d, e, q⟩ | ⟨c, e, q⟩
    · obtain ⟨e0, ne⟩ := noEx_some e
      obtain ⟨hp, out, e1, e2⟩ := some_ e0
      refine ⟨H, O, O, startE fn ds, out, ⟨start_sr o1 trk r, Same.refl H, fun _ z => z, trk⟩, e1, ?_⟩
      cases out with
      | nx g' =>
        cases e2
        exact fun σ' H' O' S' _ => q .non H' S'.same rfl
      | rt m' d' =>
        cases e2
        exact q
      | ex c g' =>
        cases e2
        exact absurd rfl ne
    · obtain ⟨hp, out, e1, e2⟩ := some_ e
      refine ⟨H, O, O, startE fn ds, out, ⟨start_sr o1 trk r, Same.refl H, fun _ z => z, trk⟩, e1, ?_⟩
      cases out with
      | nx g' => cases e2
      | rt m' d' =>
        cases e2
        exact fun v H' _ z => z.elim
      | ex c' g' =>
        cases e2
        exact fun σ' H' O' C S' _ eC => q C H' S'.same eC
theorem AllOk.step {n k i : Nat} {t : List (Nat × Fn)} {fn : Fn} {x : Str} {st : Stmt} {fa : Addr} {fd : FuncData} {N ps : List Str} (A : AllOk P w K mg base nm (callT n t) k) (hx : nm i = some x) (hi : i ≠ flagX) (hm : mg x = some (.ref fa)) (F : L2.Fun K x x st fa fd)
    (b : Binds K fd ps []) (S : FnScope N ps (defScope st)) (ok : okFn nm N ps fn st = true) (blt : ∀ y ∈ bltNames, mg y = none) : AllOk P w K mg base nm (callT n ((i, fn) :: t)) (k + 1) := by
  have main := AllOk.main (i := i) A F S ok blt
  refine ⟨fun f y ey => ?_, fun z => A.xk (by rw [callT, if_neg (Ne.symm hi)] at z; exact z)⟩
  by_cases hf : f = i
  · subst hf
    rw [hx] at ey; cases ey
    exact ⟨fa, fd, ps, hm, main, F.kp, b⟩
  · obtain ⟨fa', fd', ps', h1, h2, h3, h4⟩ := A.all f y ey
    refine ⟨fa', fd', ps', h1, (h2.mono (Nat.le_succ k)).imp fun vs H Q E ⟨O, ds, a1, a2, a3⟩ => ⟨O, ds, a1, a2, ?_⟩, h3, h4⟩
    rw [callT, if_neg hf] at a3
    exact a3
/-- the law's promise: the script in, True back -/
def spL (K : PySem.W.Frag) : Sp := fun vs H Q _ => ∃ (a : Addr) (ns : List Int), vs = [.ref a] ∧ Only H ∧ SqL K H a (ns.map V.int) ∧ ns.length ≤ 63 ∧ ∀ H', Q (.bl true) H'
theorem law_imp {ct : Ct} {i k : Nat} {fa : Addr} {fd : FuncData} {ps : List Str} (F0 : FnOk P w K mg base (L2.CX P w) k fa fd ps (spU K ct i)) (h : ∀ ns : List Int, ns.length ≤ 63 → ct i [.scr ns] = some (.sh, .bl true)) : FnOk P w K mg base CX0 k fa fd ps (spL K) := by
  have F := spU_quiet F0
  refine F.imp fun vs H Q E ⟨a, ns, e, ho, hs, hl, q⟩ => ?_
  subst e
  refine ⟨fun _ => False, [.scr ns], .sh, .bl true, fun _ z => z.elim, ⟨.ref a, [], rfl, ⟨a, rfl, ?_⟩, rfl⟩, by rw [h ns hl]; rfl, fun v H' _ r => ?_⟩
  · rcases hs with (hs | ⟨o, hs⟩) | hs
    · rcases ho a with z | ⟨o, xs, z⟩
      · rw [hs] at z; cases z
      · rw [hs] at z; cases z
    · exact .inl ⟨fun z => z, o, hs⟩
    · exact .inr hs
  · rw [show v = .bl true from r]
    exact q H'
end
end Ev
namespace Ev
open PySem
def f_divisor_B0 : Sms := (.cons (.par 0 1 (.var 1) (.bin .mod (.var 0) (.var 1)))
.nil)
def f_divisor_L0 : Sm := .whl (.cmp .gt (.var 1) (.int 0)) f_divisor_B0
def f_divisor : Fn := ⟨2, 2,
(.cons (.set false 0 (.b1 .abs (.var 0)))
(.cons (.set false 1 (.b1 .abs (.var 1)))
(.cons f_divisor_L0
(.cons (.ret (.var 0))
.nil))))⟩
def f_law_cell_at : Fn := ⟨2, 2,
(.cons (.ife (.cmp .lt (.var 1) (.b1 .len (.var 0)))
(.cons (.ret (.idx (.var 0) (.var 1)))
.nil)
.nil)
(.cons (.ret (.int 0))
.nil))⟩
def f_law_whole : Fn := ⟨1, 1,
(.cons (.ret (.ands (.cons (.isi (.var 0) .int) (.cons (.not (.isi (.var 0) .bool)) .nil))))
.nil)⟩
def f_ratio : Fn := ⟨3, 2,
(.cons (.ife (.cmp .eq (.var 1) (.int 0))
(.cons (.rse 1)
.nil)
.nil)
(.cons (.set false 2 (.call 0 (.cons (.var 0) (.cons (.var 1) .nil))))
(.cons (.ife (.cmp .lt (.var 1) (.int 0))
(.cons (.set false 2 (.bin .sub (.int 0) (.var 2)))
.nil)
.nil)
(.cons (.ret (.tup (.cons (.bin .div (.var 0) (.var 2)) (.cons (.bin .div (.var 1) (.var 2)) .nil))))
.nil))))⟩
def f_below : Fn := ⟨2, 2,
(.cons (.ret (.cmp .lt (.bin .mul (.idx (.var 0) (.int 0)) (.idx (.var 1) (.int 1))) (.bin .mul (.idx (.var 1) (.int 0)) (.idx (.var 0) (.int 1)))))
.nil)⟩
def f_half : Fn := ⟨4, 3,
(.cons (.ife (.ands (.cons (.cmp .eq (.var 0) (.int 0)) (.cons (.cmp .eq (.var 1) (.int 0)) .nil)))
(.cons (.rse 2)
.nil)
.nil)
(.cons (.set false 3 (.call 0 (.cons (.call 0 (.cons (.var 0) (.cons (.var 1) .nil))) (.cons (.var 2) .nil))))
(.cons (.ret (.tup (.cons (.bin .div (.var 0) (.var 3)) (.cons (.bin .div (.var 1) (.var 3)) (.cons (.bin .div (.var 2) (.var 3)) .nil)))))
.nil)))⟩
def f_law_block_B0 : Sms := (.cons (.set false 2 (.bin .div (.var 2) (.int 2147483587)))
.nil)
def f_law_block_L0 : Sm := .fr (.one 3) (.rng (.bin .mod (.var 1) (.int 8))) f_law_block_B0
def f_law_block : Fn := ⟨4, 2,
(.cons (.set false 2 (.int 0))
(.cons (.ife (.cmp .lt (.bin .add (.int 1) (.bin .mod (.bin .div (.var 1) (.int 8)) (.int 62))) (.b1 .len (.var 0)))
(.cons (.set false 2 (.bin .div (.idx (.var 0) (.bin .add (.int 1) (.bin .mod (.bin .div (.var 1) (.int 8)) (.int 62)))) (.bin .pow (.int 10) (.int 64))))
.nil)
.nil)
(.cons f_law_block_L0
(.cons (.ret (.var 2))
.nil))))⟩
def f_law_mixed : Fn := ⟨4, 2,
(.cons (.set false 2 (.int 0))
(.cons (.ife (.cmp .gt (.b1 .len (.var 0)) (.int 0))
(.cons (.set false 2 (.idx (.var 0) (.int 0)))
.nil)
.nil)
(.cons (.ife (.ands (.cons (.cmp .eq (.bin .mod (.bin .div (.var 2) (.bin .pow (.int 10) (.int 6))) (.int 2)) (.int 1)) (.cons (.cmp .ne (.call 14 (.cons (.var 0) (.cons (.var 1) .nil))) (.int 0)) .nil)))
(.cons (.ret (.bin .mod (.call 14 (.cons (.var 0) (.cons (.var 1) .nil))) (.int 2147483587)))
.nil)
.nil)
(.cons (.ife (.cmp .gt (.b1 .len (.var 0)) (.int 0))
(.cons (.set false 2 (.idx (.var 0) (.bin .mod (.var 1) (.b2 .min (.int 63) (.b1 .len (.var 0))))))
.nil)
.nil)
(.cons (.set false 3 (.bin .add (.bin .mod (.var 2) (.bin .pow (.int 10) (.int 18))) (.bin .mul (.int 48271) (.bin .add (.var 1) (.int 1)))))
(.cons (.set false 3 (.bin .add (.bin .mod (.bin .mul (.var 3) (.var 3)) (.int 2147483629)) (.bin .mul (.int 69621) (.var 1))))
(.cons (.ret (.bin .mod (.bin .mul (.var 3) (.var 3)) (.int 2147483587)))
.nil)))))))⟩
def f_law_divisor_B0 : Sms := (.cons (.par 0 1 (.var 1) (.bin .mod (.var 0) (.var 1)))
.nil)
def f_law_divisor_L0 : Sm := .whl (.cmp .gt (.var 1) (.int 0)) f_law_divisor_B0
def f_law_divisor : Fn := ⟨2, 2,
(.cons (.set false 0 (.b1 .abs (.var 0)))
(.cons (.set false 1 (.b1 .abs (.var 1)))
(.cons f_law_divisor_L0
(.cons (.ret (.var 0))
.nil))))⟩
def f_other_side : Fn := ⟨1, 1,
(.cons (.ret (.tup (.cons (.bin .sub (.int 0) (.idx (.var 0) (.int 0))) (.cons (.bin .sub (.int 0) (.idx (.var 0) (.int 1))) (.cons (.bin .sub (.int 0) (.idx (.var 0) (.int 2))) .nil)))))
.nil)⟩
def f_law_point : Fn := ⟨4, 2,
(.cons (.set false 2 (.call 15 (.cons (.var 0) (.cons (.var 1) .nil))))
(.cons (.set false 3 (.bin .mod (.call 1 (.cons (.var 0) (.cons (.int 1) .nil))) (.int 4)))
(.cons (.ife (.cmp .eq (.var 3) (.int 1))
(.cons (.ret (.tup (.cons (.bin .sub (.bin .mod (.call 1 (.cons (.var 0) (.cons (.var 1) .nil))) (.bin .mul (.int 2) (.bin .pow (.int 10) (.int 30)))) (.bin .pow (.int 10) (.int 30))) (.cons (.bin .sub (.var 2) (.bin .pow (.int 10) (.int 9))) .nil))))
.nil)
.nil)
(.cons (.ife (.cmp .eq (.var 3) (.int 2))
(.cons (.ret (.tup (.cons (.bin .sub (.bin .mod (.var 2) (.int 2001)) (.int 1000)) (.cons (.bin .sub (.bin .mod (.bin .div (.var 2) (.int 2001)) (.int 2001)) (.int 1000)) .nil))))
.nil)
.nil)
(.cons (.ret (.tup (.cons (.bin .sub (.bin .mod (.var 2) (.int 7)) (.int 3)) (.cons (.bin .sub (.bin .mod (.bin .div (.var 2) (.int 7)) (.int 7)) (.int 3)) .nil))))
.nil)))))⟩
def f_side : Fn := ⟨6, 2,
(.cons (.unp [2, 3] (.var 1))
(.cons (.set false 4 (.bin .add (.bin .mul (.bin .mul (.idx (.var 0) (.int 0)) (.idx (.var 2) (.int 0))) (.idx (.var 3) (.int 1))) (.bin .mul (.bin .mul (.idx (.var 0) (.int 1)) (.idx (.var 3) (.int 0))) (.idx (.var 2) (.int 1)))))
(.cons (.set false 5 (.bin .mul (.bin .mul (.idx (.var 0) (.int 2)) (.idx (.var 2) (.int 1))) (.idx (.var 3) (.int 1))))
(.cons (.ret (.bin .sub (.b1 .int (.cmp .gt (.var 4) (.var 5))) (.b1 .int (.cmp .lt (.var 4) (.var 5)))))
.nil))))⟩
def f_law_lowest : Fn := ⟨3, 2,
(.cons (.set false 2 (.call 16 (.cons (.var 0) (.cons (.var 1) .nil))))
(.cons (.ife (.cmp .lt (.var 1) (.int 0))
(.cons (.set false 2 (.bin .sub (.int 0) (.var 2)))
.nil)
.nil)
(.cons (.ret (.tup (.cons (.bin .div (.var 0) (.var 2)) (.cons (.bin .div (.var 1) (.var 2)) .nil))))
.nil)))⟩
def f_law_half_k05 : Fn := ⟨5, 2,
(.cons (.set false 2 (.call 15 (.cons (.var 0) (.cons (.var 1) .nil))))
(.cons (.set true 3 (.lst (.cons (.bin .sub (.bin .mod (.var 2) (.int 13)) (.int 6)) (.cons (.bin .sub (.bin .mod (.bin .div (.var 2) (.int 13)) (.int 13)) (.int 6)) (.cons (.bin .sub (.bin .mod (.bin .div (.var 2) (.int 169)) (.int 13)) (.int 6)) .nil)))))
(.cons (.ife (.cmp .eq (.bin .mod (.bin .div (.var 2) (.int 2197)) (.int 3)) (.int 1))
(.cons (.set true 3 (.lst (.cons (.bin .sub (.bin .mod (.call 1 (.cons (.var 0) (.cons (.var 1) .nil))) (.bin .mul (.int 2) (.bin .pow (.int 10) (.int 30)))) (.bin .pow (.int 10) (.int 30))) (.cons (.bin .sub (.var 2) (.bin .pow (.int 10) (.int 9))) (.cons (.bin .sub (.bin .mul (.var 2) (.var 2)) (.bin .pow (.int 10) (.int 17))) .nil)))))
.nil)
.nil)
(.cons (.ife (.ands (.cons (.cmp .eq (.idx (.var 3) (.int 0)) (.int 0)) (.cons (.cmp .eq (.idx (.var 3) (.int 1)) (.int 0)) .nil)))
(.cons (.sub 3 (.bin .mod (.bin .div (.var 2) (.int 6591)) (.int 2)) (.bin .sub (.int 1) (.bin .mul (.int 2) (.bin .mod (.bin .div (.var 2) (.int 13182)) (.int 2)))))
.nil)
.nil)
(.cons (.set false 4 (.call 16 (.cons (.call 16 (.cons (.idx (.var 3) (.int 0)) (.cons (.idx (.var 3) (.int 1)) .nil))) (.cons (.idx (.var 3) (.int 2)) .nil))))
(.cons (.ret (.tup (.cons (.bin .div (.idx (.var 3) (.int 0)) (.var 4)) (.cons (.bin .div (.idx (.var 3) (.int 1)) (.var 4)) (.cons (.bin .div (.idx (.var 3) (.int 2)) (.var 4)) .nil)))))
.nil))))))⟩
def f_law_spot_k05 : Fn := ⟨6, 3,
(.cons (.set false 3 (.call 15 (.cons (.var 0) (.cons (.bin .add (.var 1) (.int 63)) .nil))))
(.cons (.set false 4 (.call 29 (.cons (.bin .sub (.bin .mod (.bin .div (.var 3) (.int 9)) (.int 2001)) (.int 1000)) (.cons (.bin .add (.int 1) (.bin .mod (.var 3) (.int 9))) .nil))))
(.cons (.set false 3 (.call 15 (.cons (.var 0) (.cons (.bin .add (.var 1) (.int 126)) .nil))))
(.cons (.set false 5 (.call 29 (.cons (.bin .sub (.var 3) (.bin .pow (.int 10) (.int 9))) (.cons (.bin .add (.int 1) (.bin .mod (.var 3) (.int 9))) .nil))))
(.cons (.ife (.ands (.cons (.cmp .eq (.bin .mod (.bin .div (.var 3) (.int 9)) (.int 3)) (.int 1)) (.cons (.cmp .ne (.idx (.var 2) (.int 1)) (.int 0)) .nil)))
(.cons (.set false 5 (.call 29 (.cons (.bin .sub (.bin .mul (.idx (.var 2) (.int 2)) (.idx (.var 4) (.int 1))) (.bin .mul (.idx (.var 2) (.int 0)) (.idx (.var 4) (.int 0)))) (.cons (.bin .mul (.idx (.var 2) (.int 1)) (.idx (.var 4) (.int 1))) .nil))))
.nil)
(.cons (.ife (.cmp .eq (.bin .mod (.bin .div (.var 3) (.int 9)) (.int 3)) (.int 1))
(.cons (.set false 4 (.call 29 (.cons (.idx (.var 2) (.int 2)) (.cons (.idx (.var 2) (.int 0)) .nil))))
.nil)
.nil)
.nil))
(.cons (.ret (.tup (.cons (.var 4) (.cons (.var 5) .nil))))
.nil))))))⟩
def f_law_right_k05_B0 : Sms := (.cons (.ife (.ors (.cons (.not (.call 2 (.cons (.idx (.var 7) (.var 8)) .nil))) (.cons (.cmp .ne (.idx (.var 7) (.var 8)) (.bin .sub (.int 0) (.idx (.var 0) (.var 8)))) .nil)))
(.cons (.ret (.bl false))
.nil)
.nil)
.nil)
def f_law_right_k05_L0 : Sm := .fr (.one 8) (.rng (.int 3)) f_law_right_k05_B0
def f_law_right_k05 : Fn := ⟨9, 2,
(.cons (.unp [2, 3] (.var 1))
(.cons (.set false 4 (.bin .add (.bin .mul (.bin .mul (.idx (.var 0) (.int 0)) (.idx (.var 2) (.int 0))) (.idx (.var 3) (.int 1))) (.bin .mul (.bin .mul (.idx (.var 0) (.int 1)) (.idx (.var 3) (.int 0))) (.idx (.var 2) (.int 1)))))
(.cons (.set false 4 (.bin .sub (.var 4) (.bin .mul (.bin .mul (.idx (.var 0) (.int 2)) (.idx (.var 2) (.int 1))) (.idx (.var 3) (.int 1)))))
(.cons (.set false 5 (.bin .sub (.b1 .int (.cmp .gt (.var 4) (.int 0))) (.b1 .int (.cmp .lt (.var 4) (.int 0)))))
(.cons (.set false 6 (.call 28 (.cons (.var 0) (.cons (.var 1) .nil))))
(.cons (.set false 7 (.call 22 (.cons (.var 0) .nil)))
(.cons (.ife (.ors (.cons (.not (.call 2 (.cons (.var 6) .nil))) (.cons (.cmp .ne (.var 6) (.var 5)) (.cons (.not (.isi (.var 7) .tuple)) (.cons (.cmp .ne (.b1 .len (.var 7)) (.int 3)) .nil)))))
(.cons (.ret (.bl false))
.nil)
.nil)
(.cons f_law_right_k05_L0
(.cons (.ret (.ands (.cons (.cmp .eq (.call 28 (.cons (.var 7) (.cons (.var 1) .nil))) (.bin .sub (.int 0) (.var 5))) (.cons (.cmp .eq (.call 22 (.cons (.var 7) .nil)) (.var 0)) .nil))))
.nil)))))))))⟩
def f_law_k05_B0 : Sms := (.cons (.set false 2 (.call 30 (.cons (.var 0) (.cons (.var 1) .nil))))
(.cons (.ife (.not (.call 32 (.cons (.var 2) (.cons (.call 31 (.cons (.var 0) (.cons (.var 1) (.cons (.var 2) .nil)))) .nil))))
(.cons (.ret (.bl false))
.nil)
.nil)
.nil))
def f_law_k05_L0 : Sm := .fr (.one 1) (.rng (.b2 .max (.int 1) (.b2 .min (.int 63) (.b1 .len (.var 0))))) f_law_k05_B0
def f_law_k05 : Fn := ⟨3, 1,
(.cons f_law_k05_L0
(.cons (.ret (.bl true))
.nil))⟩
def f_many_in_C0 : Ex := .comp (.var 2) (.many [2, 3]) (.ex (.var 1)) (.cons (.cmp .ge (.bin .add (.bin .mul (.idx (.var 0) (.int 0)) (.var 2)) (.bin .mul (.idx (.var 0) (.int 1)) (.var 3))) (.idx (.var 0) (.int 2))) .nil)
def f_many_in : Fn := ⟨4, 2,
(.cons (.ret (.b1 .len f_many_in_C0))
.nil)⟩
def f_put_in_B0 : Sms := (.cons (.set false 4 (.bin .sub (.bin .mul (.idx (.var 3) (.int 0)) (.idx (.var 1) (.int 1))) (.bin .mul (.idx (.var 3) (.int 1)) (.idx (.var 1) (.int 0)))))
(.cons (.ife (.cmp .eq (.var 4) (.int 0))
(.cons (.ret (.var 0))
.nil)
.nil)
(.cons (.ife (.cmp .gt (.var 4) (.int 0))
(.cons (.set false 2 (.bin .add (.var 2) (.int 1)))
.nil)
.nil)
.nil)))
def f_put_in_L0 : Sm := .fr (.one 3) (.ex (.var 0)) f_put_in_B0
def f_put_in : Fn := ⟨5, 2,
(.cons (.set false 2 (.int 0))
(.cons f_put_in_L0
(.cons (.ret (.bin .add (.bin .add (.slc (.var 0) .non (.var 2)) (.lst (.cons (.var 1) .nil))) (.slc (.var 0) (.var 2) .non)))
.nil)))⟩
def f_ways_from_B0 : Sms := (.cons (.set false 7 (.tup (.cons (.bin .sub (.bin .mul (.idx (.var 6) (.int 0)) (.var 4)) (.bin .mul (.idx (.var 2) (.int 0)) (.bin .div (.var 4) (.idx (.var 2) (.int 1))))) (.cons (.bin .sub (.bin .mul (.idx (.var 6) (.int 1)) (.var 4)) (.bin .mul (.idx (.var 3) (.int 0)) (.bin .div (.var 4) (.idx (.var 3) (.int 1))))) .nil))))
(.cons (.ife (.ors (.cons (.cmp .lt (.idx (.var 7) (.int 1)) (.int 0)) (.cons (.ands (.cons (.cmp .eq (.idx (.var 7) (.int 1)) (.int 0)) (.cons (.cmp .lt (.idx (.var 7) (.int 0)) (.int 0)) .nil))) .nil)))
(.cons (.set false 7 (.tup (.cons (.bin .sub (.int 0) (.idx (.var 7) (.int 0))) (.cons (.bin .sub (.int 0) (.idx (.var 7) (.int 1))) .nil))))
.nil)
.nil)
(.cons (.ife (.cmp .ne (.var 7) (.tup (.cons (.int 0) (.cons (.int 0) .nil))))
(.cons (.set false 5 (.call 90 (.cons (.var 5) (.cons (.var 7) .nil))))
.nil)
.nil)
.nil)))
def f_ways_from_L0 : Sm := .fr (.one 6) (.ex (.var 0)) f_ways_from_B0
def f_ways_from : Fn := ⟨8, 2,
(.cons (.unp [2, 3] (.var 1))
(.cons (.set false 4 (.bin .mul (.idx (.var 2) (.int 1)) (.bin .div (.idx (.var 3) (.int 1)) (.call 0 (.cons (.idx (.var 2) (.int 1)) (.cons (.idx (.var 3) (.int 1)) .nil))))))
(.cons (.set false 5 (.lst .nil))
(.cons f_ways_from_L0
(.cons (.ret (.var 5))
.nil)))))⟩
def f_gaps_between_B0 : Sms := (.cons (.app 1 (.tup (.cons (.bin .add (.idx (.idx (.var 0) (.bin .sub (.var 2) (.int 1))) (.int 0)) (.idx (.idx (.var 0) (.var 2)) (.int 0))) (.cons (.bin .add (.idx (.idx (.var 0) (.bin .sub (.var 2) (.int 1))) (.int 1)) (.idx (.idx (.var 0) (.var 2)) (.int 1))) .nil))))
.nil)
def f_gaps_between_L0 : Sm := .fr (.one 2) (.rng2 (.int 1) (.b1 .len (.var 0))) f_gaps_between_B0
def f_gaps_between : Fn := ⟨3, 1,
(.cons (.ife (.cmp .eq (.var 0) (.lst .nil))
(.cons (.ret (.lst (.cons (.tup (.cons (.int 1) (.cons (.int 0) .nil))) .nil)))
.nil)
.nil)
(.cons (.ife (.cmp .eq (.b1 .len (.var 0)) (.int 1))
(.cons (.ret (.lst (.cons (.tup (.cons (.bin .sub (.int 0) (.idx (.idx (.var 0) (.int 0)) (.int 1))) (.cons (.idx (.idx (.var 0) (.int 0)) (.int 0)) .nil))) .nil)))
.nil)
.nil)
(.cons (.set true 1 (.lst .nil))
(.cons f_gaps_between_L0
(.cons (.app 1 (.tup (.cons (.bin .sub (.idx (.idx (.var 0) (.neg (.int 1))) (.int 0)) (.idx (.idx (.var 0) (.int 0)) (.int 0))) (.cons (.bin .sub (.idx (.idx (.var 0) (.neg (.int 1))) (.int 1)) (.idx (.idx (.var 0) (.int 0)) (.int 1))) .nil))))
(.cons (.retv 1)
.nil))))))⟩
def f_along : Fn := ⟨6, 2,
(.cons (.unp [2, 3] (.var 1))
(.cons (.set false 4 (.bin .sub (.int 0) (.idx (.var 0) (.int 1))))
(.cons (.set false 5 (.idx (.var 0) (.int 0)))
(.cons (.retX 13 (.cons (.bin .mul (.bin .mul (.var 4) (.idx (.var 2) (.int 1))) (.idx (.var 3) (.int 1))) (.cons (.bin .mul (.bin .mul (.var 5) (.idx (.var 2) (.int 1))) (.idx (.var 3) (.int 1))) (.cons (.bin .add (.bin .mul (.bin .mul (.var 4) (.idx (.var 2) (.int 0))) (.idx (.var 3) (.int 1))) (.bin .mul (.bin .mul (.var 5) (.idx (.var 3) (.int 0))) (.idx (.var 2) (.int 1)))) .nil))))
.nil))))⟩
def f_depth_B0 : Sms := (.cons (.set false 6 (.call 34 (.cons (.var 5) (.cons (.var 0) .nil))))
(.cons (.ife (.ors (.cons (.isN (.var 2)) (.cons (.cmp .lt (.var 6) (.idx (.var 2) (.int 0))) .nil)))
(.cons (.set false 2 (.tup (.cons (.var 6) (.cons (.var 5) .nil))))
.nil)
.nil)
.nil))
def f_depth_L0 : Sm := .fr (.one 5) (.ex (.lst (.cons (.var 4) (.cons (.call 22 (.cons (.var 4) .nil)) .nil)))) f_depth_B0
def f_depth_B1 : Sms := (.cons (.set false 4 (.call 93 (.cons (.var 3) (.cons (.var 1) .nil))))
(.cons f_depth_L0
.nil))
def f_depth_L1 : Sm := .fr (.one 3) (.ex (.call 92 (.cons (.call 91 (.cons (.var 0) (.cons (.var 1) .nil))) .nil))) f_depth_B1
def f_depth : Fn := ⟨7, 2,
(.cons (.ife (.cmp .eq (.b1 .len (.var 0)) (.int 0))
(.cons (.rse 3)
.nil)
.nil)
(.cons (.set false 2 .non)
(.cons f_depth_L1
(.cons (.ret (.var 2))
.nil))))⟩
def f_turned : Fn := ⟨3, 3,
(.cons (.ret (.bin .sub (.bin .mul (.bin .sub (.idx (.var 1) (.int 0)) (.idx (.var 0) (.int 0))) (.bin .sub (.idx (.var 2) (.int 1)) (.idx (.var 0) (.int 1)))) (.bin .mul (.bin .sub (.idx (.var 1) (.int 1)) (.idx (.var 0) (.int 1))) (.bin .sub (.idx (.var 2) (.int 0)) (.idx (.var 0) (.int 0))))))
.nil)⟩
def f_on_a_line_C0 : Ex := .comp (.idx (.var 5) (.var 1)) (.one 5) (.ex (.slc (.var 0) .non (.int 3))) .nil
def f_on_a_line : Fn := ⟨6, 1,
(.cons (.set false 1 (.int 0))
(.cons (.ife (.cmp .eq (.idx (.idx (.var 0) (.int 0)) (.int 0)) (.idx (.idx (.var 0) (.int 1)) (.int 0)))
(.cons (.set false 1 (.int 1))
.nil)
.nil)
(.cons (.unp [2, 3, 4] f_on_a_line_C0)
(.cons (.ret (.lst (.cons (.bin .sub (.var 3) (.var 4)) (.cons (.bin .sub (.var 4) (.var 2)) (.cons (.bin .sub (.var 2) (.var 3)) (.cons (.int 0) .nil))))))
.nil))))⟩
def f_balance_B0 : Sms := (.cons (.ife (.cmp .eq (.idx (.var 0) (.var 2)) (.idx (.var 0) (.var 1)))
(.cons (.set true 3 (.lst (.cons (.int 0) (.cons (.int 0) (.cons (.int 0) (.cons (.int 0) .nil))))))
(.cons (.sub 3 (.var 2) (.int 1))
(.cons (.sub 3 (.var 1) (.neg (.int 1)))
(.cons (.retv 3)
.nil))))
.nil)
.nil)
def f_balance_L0 : Sm := .fr (.one 2) (.rng (.var 1)) f_balance_B0
def f_balance_B1 : Sms := (.cons f_balance_L0
.nil)
def f_balance_L1 : Sm := .fr (.one 1) (.rng (.int 4)) f_balance_B1
def f_balance_B2 : Sms := (.cons (.unp [4, 5, 6] (.bin .add (.slc (.var 0) .non (.var 1)) (.slc (.var 0) (.bin .add (.var 1) (.int 1)) .non)))
(.cons (.app 3 (.bin .mul (.call 124 (.cons (.var 4) (.cons (.var 5) (.cons (.var 6) .nil)))) (.idx (.lst (.cons (.int 1) (.cons (.neg (.int 1)) .nil))) (.bin .mod (.var 1) (.int 2)))))
.nil))
def f_balance_L2 : Sm := .fr (.one 1) (.rng (.int 4)) f_balance_B2
def f_balance : Fn := ⟨7, 1,
(.cons f_balance_L1
(.cons (.set true 3 (.lst .nil))
(.cons f_balance_L2
(.cons (.ife (.cmp .eq (.var 3) (.lst (.cons (.int 0) (.cons (.int 0) (.cons (.int 0) (.cons (.int 0) .nil))))))
(.cons (.ret (.call 125 (.cons (.var 0) .nil)))
.nil)
.nil)
(.cons (.retv 3)
.nil)))))⟩
def f_parted_C0 : Ex := .comp (.var 3) (.one 3) (.ex (.var 1)) (.cons (.cmp .gt (.var 3) (.int 0)) .nil)
def f_parted_C1 : Ex := .comp (.var 7) (.one 7) (.rng (.int 4)) (.cons (.cmp .gt (.bin .mul (.idx (.var 1) (.var 7)) (.var 5)) (.int 0)) .nil)
def f_parted_C2 : Ex := .comp (.call 7 (.cons (.bin .mul (.idx (.var 1) (.var 7)) (.var 5)) (.cons (.var 2) .nil))) (.one 7) (.ex (.var 6)) .nil
def f_parted_B0 : Sms := (.cons (.set false 6 f_parted_C1)
(.cons (.app 4 (.tup (.cons (.var 6) (.cons f_parted_C2 .nil))))
.nil))
def f_parted_L0 : Sm := .fr (.one 5) (.ex (.lst (.cons (.int 1) (.cons (.neg (.int 1)) .nil)))) f_parted_B0
def f_parted_C3 : Ex := .comp (.bin .mul (.b2 .max (.idx (.var 1) (.var 7)) (.int 0)) (.idx (.idx (.var 0) (.var 7)) (.var 9))) (.one 7) (.rng (.int 4)) .nil
def f_parted_B1 : Sms := (.cons (.app 8 (.call 7 (.cons (.b1 .sum f_parted_C3) (.cons (.var 2) .nil))))
.nil)
def f_parted_L1 : Sm := .fr (.one 9) (.rng (.int 2)) f_parted_B1
def f_parted : Fn := ⟨10, 1,
(.cons (.ife (.cmp .ne (.b1 .len (.var 0)) (.int 4))
(.cons (.rse 5)
.nil)
.nil)
(.cons (.set false 1 (.call 126 (.cons (.var 0) .nil)))
(.cons (.set false 2 (.b1 .sum f_parted_C0))
(.cons (.set true 4 (.lst .nil))
(.cons f_parted_L0
(.cons (.set true 8 (.lst .nil))
(.cons f_parted_L1
(.cons (.ret (.tup (.cons (.idx (.idx (.var 4) (.int 0)) (.int 0)) (.cons (.idx (.idx (.var 4) (.int 1)) (.int 0)) (.cons (.idx (.idx (.var 4) (.int 0)) (.int 1)) (.cons (.idx (.idx (.var 4) (.int 1)) (.int 1)) (.cons (.tup (.cons (.idx (.var 8) (.int 0)) (.cons (.idx (.var 8) (.int 1)) .nil))) .nil)))))))
.nil))))))))⟩
def f_law_points_k51_B0 : Sms := (.cons (.set false 7 (.call 15 (.cons (.var 0) (.cons (.bin .add (.bin .add (.var 1) (.int 2)) (.var 6)) .nil))))
(.cons (.set false 8 (.tup (.cons (.bin .sub (.bin .mod (.var 7) (.int 5)) (.int 2)) (.cons (.bin .sub (.bin .mod (.bin .div (.var 7) (.int 5)) (.int 5)) (.int 2)) .nil))))
(.cons (.ife (.cmp .eq (.var 3) (.int 1))
(.cons (.set false 8 (.tup (.cons (.bin .sub (.bin .mod (.var 7) (.bin .mul (.int 2) (.bin .pow (.int 10) (.int 9)))) (.bin .pow (.int 10) (.int 9))) (.cons (.bin .sub (.bin .mod (.bin .mul (.var 7) (.var 4)) (.bin .mul (.int 2) (.bin .pow (.int 10) (.int 18)))) (.bin .pow (.int 10) (.int 18))) .nil))))
.nil)
.nil)
(.cons (.ife (.cmp .eq (.var 3) (.int 2))
(.cons (.set false 8 (.tup (.cons (.bin .sub (.bin .mod (.var 7) (.int 201)) (.int 100)) (.cons (.bin .sub (.bin .mod (.bin .div (.var 7) (.int 201)) (.int 201)) (.int 100)) .nil))))
.nil)
.nil)
(.cons (.ife (.cmp .eq (.var 3) (.int 3))
(.cons (.set false 9 (.bin .sub (.bin .mod (.var 7) (.int 9)) (.int 4)))
(.cons (.set false 8 (.tup (.cons (.bin .add (.bin .mul (.var 9) (.bin .sub (.bin .mod (.var 4) (.int 3)) (.int 1))) (.int 5)) (.cons (.bin .sub (.bin .mul (.var 9) (.bin .sub (.bin .mod (.bin .div (.var 4) (.int 3)) (.int 3)) (.int 1))) (.int 2)) .nil))))
.nil))
.nil)
(.cons (.app 5 (.var 8))
.nil))))))
def f_law_points_k51_L0 : Sm := .fr (.one 6) (.rng (.var 2)) f_law_points_k51_B0
def f_law_points_k51 : Fn := ⟨10, 3,
(.cons (.set false 3 (.bin .mod (.call 15 (.cons (.var 0) (.cons (.var 1) .nil))) (.int 5)))
(.cons (.set false 4 (.call 15 (.cons (.var 0) (.cons (.bin .add (.var 1) (.int 1)) .nil))))
(.cons (.set true 5 (.lst .nil))
(.cons f_law_points_k51_L0
(.cons (.retv 5)
.nil)))))⟩
def f_ranks_C0 : Ex := .comp (.idx (.call 94 (.cons (.var 0) (.cons (.tup (.cons (.tup (.cons (.var 1) (.cons (.int 1) .nil))) (.cons (.tup (.cons (.var 2) (.cons (.int 1) .nil))) .nil))) .nil))) (.int 0)) (.many [1, 2]) (.ex (.var 0)) .nil
def f_ranks : Fn := ⟨3, 1,
(.cons (.ret f_ranks_C0)
.nil)⟩
def f_law_caught_B0 : Sms := (.cons (.expX 127 (.cons (.var 0) .nil))
.nil)
def f_law_caught : Fn := ⟨3, 1,
(.cons (.set false 1 .non)
(.cons (.tryK f_law_caught_B0 2 1)
(.cons (.ret (.var 1))
.nil)))⟩
def f_law_k52 : Fn := ⟨6, 1,
(.cons (.set false 1 (.idx (.lst (.cons (.int 0) (.cons (.int 1) (.cons (.int 2) (.cons (.int 3) (.cons (.int 5) (.cons (.int 6) (.cons (.int 7) (.cons (.int 8) (.cons (.int 9) .nil)))))))))) (.bin .mod (.call 1 (.cons (.var 0) (.cons (.int 0) .nil))) (.int 9))))
(.cons (.set false 2 (.call 128 (.cons (.var 0) (.cons (.int 1) (.cons (.var 1) .nil)))))
(.cons (.set false 3 (.b1 .list (.var 2)))
(.cons (.set false 4 (.call 136 (.cons (.var 3) .nil)))
(.cons (.ife (.ors (.cons (.isx (.var 4) [4, 2, 1, 3] true) (.cons (.cmp .ne (.var 3) (.var 2)) .nil)))
(.cons (.ret (.bl false))
.nil)
.nil)
(.cons (.ife (.ors (.cons (.not (.isx (.var 4) [5] false)) (.cons (.not (.isx (.var 4) [6] false)) .nil)))
(.cons (.ret (.bl false))
.nil)
.nil)
(.cons (.set false 5 (.call 127 (.cons (.slc (.bin .add (.var 2) (.lst (.cons (.tup (.cons (.int 0) (.cons (.int 0) .nil))) (.cons (.tup (.cons (.int 1) (.cons (.int 2) .nil))) (.cons (.tup (.cons (.int 3) (.cons (.int 1) .nil))) (.cons (.tup (.cons (.int 0) (.cons (.int 0) .nil))) .nil)))))) .non (.int 4)) .nil)))
(.cons (.ret (.ands (.cons (.isi (.var 5) .tuple) (.cons (.cmp .eq (.b1 .len (.var 5)) (.int 5)) (.cons (.cmp .eq (.call 135 (.cons (.lst .nil) .nil)) (.lst .nil)) .nil)))))
.nil))))))))⟩
def fuel : Nat := 1000000000000
end Ev
namespace Ev
open PySem PyProof.Rows L2
/-! ### plain lemmas about the evaluator -/
def slV : Option Sl → Rs
  | some (.sh d) => some (.sh, d)
  | some (.ow ds) => some (.bo, .lst ds)
  | _ => none
@[simp] theorem slV_sh (d : D) : slV (some (.sh d)) = some (.sh, d) := rfl
@[simp] theorem slV_ow (ds : List D) : slV (some (.ow ds)) = some (.bo, .lst ds) := rfl
def outV : Out → M × D
  | .nx _ => (.sh, .non)
  | .rt m d => (m, d)
  | .ex c _ => (.ex, .exc c)
@[simp] theorem outV_ex (c : Nat) (g : Env') : outV (.ex c g) = (.ex, .exc c) := rfl
@[simp] theorem noEx_sh (d : D) : noEx (some (.sh, d)) = some (.sh, d) := rfl
@[simp] theorem noEx_fr (d : D) : noEx (some (.fr, d)) = some (.fr, d) := rfl
@[simp] theorem noEx_ex (d : D) : noEx (some (.ex, d)) = none := rfl
@[simp] theorem exOf_sh (d : D) : exOf (some (.sh, d)) = none := rfl
@[simp] theorem exOf_fr (d : D) : exOf (some (.fr, d)) = none := rfl
@[simp] theorem exOf_ex (c : Nat) : exOf (some (.ex, .exc c)) = some c := rfl
@[simp] theorem isX_int (i : Int) : isX (.int i) = false := rfl
@[simp] theorem isX_bl (i : Bool) : isX (.bl i) = false := rfl
@[simp] theorem isX_tup (ds : List D) : isX (.tup ds) = false := rfl
@[simp] theorem isX_lst (ds : List D) : isX (.lst ds) = false := rfl
@[simp] theorem isX_non : isX .non = false := rfl
@[simp] theorem isX_str (s : Str) : isX (.str s) = false := rfl
@[simp] theorem isxD_exc (cs : List Nat) (c : Nat) : isxD cs (.exc c) = if c < 6 then some (cs.any fun d => subX c d) else none := rfl
@[simp] theorem outV_rt (m : M) (d : D) : outV (.rt m d) = (m, d) := rfl
section
variable (ct : Ct) (n : Nat) (g : Env') (a b c e : Ex) (es : Exs) (i j : Nat)
@[simp] theorem evE_var : evE ct g (.var i) = slV g[i]? := by
  simp only [evE]
  cases g[i]? with
  | none => rfl
  | some s => cases s <;> rfl
@[simp] theorem evE_int (k : Int) : evE ct g (.int k) = some (.sh, .int k) := by simp only [evE]
@[simp] theorem evE_bl (k : Bool) : evE ct g (.bl k) = some (.sh, .bl k) := by simp only [evE]
@[simp] theorem evE_non : evE ct g .non = some (.sh, .non) := by simp only [evE]
@[simp] theorem evE_str (s : Str) : evE ct g (.str s) = some (.sh, .str s) := by simp only [evE]
@[simp] theorem evE_bin (o : Bop) : evE ct g (.bin o a b) = (evE ct g a).bind fun x => (evE ct g b).bind fun y => binD o x.2 y.2 := by simp only [evE]; rfl
@[simp] theorem evE_neg : evE ct g (.neg a) = (evE ct g a).bind fun x => (asInt x.2).bind fun i => some (.sh, .int (-i)) := by simp only [evE]; rfl
@[simp] theorem evE_cmp (o : Cop) : evE ct g (.cmp o a b) = (evE ct g a).bind fun x => (evE ct g b).bind fun y => (cmpD o x.2 y.2).bind fun k => some (.sh, .bl k) := by simp only [evE]; rfl
@[simp] theorem evE_isN : evE ct g (.isN a) = (evE ct g a).bind fun x => some (.sh, .bl (isNonD x.2)) := by simp only [evE]; rfl
@[simp] theorem evE_notN : evE ct g (.notN a) = (evE ct g a).bind fun x => some (.sh, .bl (!isNonD x.2)) := by simp only [evE]; rfl
@[simp] theorem evE_inn : evE ct g (.inn a b) = (evE ct g a).bind fun x => (evE ct g b).bind fun y => (inD x.2 y.2).bind fun k => some (.sh, .bl k) := by simp only [evE]; rfl
@[simp] theorem evE_nin : evE ct g (.nin a b) = (evE ct g a).bind fun x => (evE ct g b).bind fun y => (inD x.2 y.2).bind fun k => some (.sh, .bl (!k)) := by simp only [evE]; rfl
@[simp] theorem evE_ands : evE ct g (.ands es) = evAnd ct g es := by simp only [evE]
@[simp] theorem evE_ors : evE ct g (.ors es) = evOr ct g es := by simp only [evE]
@[simp] theorem evE_not : evE ct g (.not a) = (evE ct g a).bind fun x => (asBl x.2).bind fun k => some (.sh, .bl (!k)) := by simp only [evE]; rfl
@[simp] theorem evE_tup : evE ct g (.tup es) = (evs ct g es).bind fun ds => if lenOk ds.length then some (.sh, .tup ds) else none := by simp only [evE]; rfl
@[simp] theorem evE_lst : evE ct g (.lst es) = (evs ct g es).bind fun ds => if lenOk ds.length then some (.fr, .lst ds) else none := by simp only [evE]; rfl
@[simp] theorem evE_idx : evE ct g (.idx a b) = (evE ct g a).bind fun x => (evE ct g b).bind fun y => (asInt y.2).bind fun k => (asLT x.2).bind fun ds => (atI ds k).bind fun d => some (.sh, d) := by simp only [evE]; rfl
@[simp] theorem evE_slc : evE ct g (.slc a b c) = (evE ct g a).bind fun x => (partV (isNonE b) (evE ct g b)).bind fun l => (partV (isNonE c) (evE ct g c)).bind fun h => slcD x.2 l h := by simp only [evE]; rfl
@[simp] theorem evE_b1 (f : Bi) : evE ct g (.b1 f a) = (evE ct g a).bind fun x => b1D f x.2 := by simp only [evE]; rfl
@[simp] theorem evE_b2 (f : B2) : evE ct g (.b2 f a b) = (evE ct g a).bind fun x => (evE ct g b).bind fun y => b2D f x.2 y.2 := by simp only [evE]; rfl
@[simp] theorem evE_isi (t : Ty) : evE ct g (.isi a t) = (evE ct g a).bind fun x => if isX x.2 then none else some (.sh, .bl (isiD t x.2)) := by simp only [evE]; rfl
@[simp] theorem evE_isx (cs : List Nat) (m : Bool) : evE ct g (.isx a cs m) = (ct flagX []).bind fun _ => (evE ct g a).bind fun x => (isxD cs x.2).bind fun k => some (.sh, .bl k) := by simp only [evE]; rfl
@[simp] theorem evE_call (f : Nat) : evE ct g (.call f es) = (evs ct g es).bind fun ds => noEx (ct f ds) := by simp only [evE]; rfl
theorem evE_comp (tg : Tg) (it : Itx) : evE ct g (.comp e tg it es) = (evI ct g it).bind fun r => (compF (asg tg) (fun g1 => evC ct g1 es) (fun g1 => evE ct g1 e) (wipeE g (tgSlots tg)) r.2 []).bind fun ds => some (.fr, .lst ds) := by simp only [evE]; rfl
@[simp] theorem evs_nil : evs ct g .nil = some [] := by simp only [evs]
@[simp] theorem evs_cons : evs ct g (.cons e es) = (evE ct g e).bind fun x => (storable x).bind fun d => (evs ct g es).bind fun ds => some (d :: ds) := by simp only [evs]; rfl
@[simp] theorem evAnd_one : evAnd ct g (.cons e .nil) = (evE ct g e).bind fun x => (asBl x.2).bind fun k => some (.sh, .bl k) := by simp only [evAnd]; rfl
@[simp] theorem evAnd_cons (e2 : Ex) : evAnd ct g (.cons e (.cons e2 es)) = (evE ct g e).bind fun x => (asBl x.2).bind fun k => if k then evAnd ct g (.cons e2 es) else some (.sh, .bl false) := by
  rw [evAnd]; rfl; intro z; cases z
@[simp] theorem evOr_one : evOr ct g (.cons e .nil) = (evE ct g e).bind fun x => (asBl x.2).bind fun k => some (.sh, .bl k) := by simp only [evOr]; rfl
@[simp] theorem evOr_cons (e2 : Ex) : evOr ct g (.cons e (.cons e2 es)) = (evE ct g e).bind fun x => (asBl x.2).bind fun k => if k then some (.sh, .bl true) else evOr ct g (.cons e2 es) := by
  rw [evOr]; rfl; intro z; cases z
@[simp] theorem evC_nil : evC ct g .nil = some true := by simp only [evC]
@[simp] theorem evC_one : evC ct g (.cons e .nil) = (evE ct g e).bind fun x => asBl x.2 := by simp only [evC]; rfl
@[simp] theorem evI_ex : evI ct g (.ex a) = (evE ct g a).bind fun x => (asLT x.2).bind fun ds => some (itM x.1, ds) := by simp only [evI]; rfl
@[simp] theorem evI_rng : evI ct g (.rng a) = (evE ct g a).bind fun x => (asInt x.2).bind fun i => if rngOk i then some (.sh, rngL 0 i.toNat) else none := by simp only [evI]; rfl
@[simp] theorem evI_rng2 : evI ct g (.rng2 a b) = (evE ct g a).bind fun x => (evE ct g b).bind fun y => (asInt x.2).bind fun i => (asInt y.2).bind fun j => if rngOk i && rngOk j then some (.sh, rngL i (j - i).toNat) else none := by simp only [evI]; rfl
@[simp] theorem evI_zip : evI ct g (.zip a b) = (evE ct g a).bind fun x => (evE ct g b).bind fun y => (asL x.2).bind fun ds => (asL y.2).bind fun es => some (if x.1 = .bo ∨ y.1 = .bo then .bo else .sh, zipL ds es) := by simp only [evI]; rfl
@[simp] theorem evI_enum : evI ct g (.enum a) = (evE ct g a).bind fun x => (asL x.2).bind fun ds => some (itM x.1, enumL 0 ds) := by simp only [evI]; rfl
@[simp] theorem evI_rev : evI ct g (.rev a) = (evE ct g a).bind fun x => (asL x.2).bind fun ds => some (itM x.1, ds.reverse) := by simp only [evI]; rfl
@[simp] theorem evS_set (own : Bool) : evS ct n (.set own i e) g = (evE ct g e).bind fun r => (slOf own r).bind fun s => (setSl i s g).bind fun g' => some (.nx g') := by simp only [evS]; rfl
@[simp] theorem evS_unp (is : List Nat) : evS ct n (.unp is e) g = (evE ct g e).bind fun r => (storable r).bind fun d => (asg (.many is) d g).bind fun g' => some (.nx g') := by simp only [evS]; rfl
@[simp] theorem evS_par : evS ct n (.par i j a b) g = (evE ct g a).bind fun x => (storable x).bind fun x' => (evE ct g b).bind fun y => (storable y).bind fun y' => (setSl i (.sh x') g).bind fun g1 => (setSl j (.sh y') g1).bind fun g2 => some (.nx g2) := by simp only [evS]; rfl
@[simp] theorem evS_sub : evS ct n (.sub i a e) g = (evE ct g e).bind fun r => (storable r).bind fun x => (evE ct g a).bind fun kk => (asInt kk.2).bind fun z => (ownAt g i).bind fun ds => (ixN ds.length z).bind fun j => (setSl i (.ow (ds.set j x)) g).bind fun g' => some (.nx g') := by simp only [evS]; rfl
@[simp] theorem evS_app : evS ct n (.app i e) g = (evE ct g e).bind fun r => (storable r).bind fun x => (ownAt g i).bind fun ds => if lenOk ds.length then (setSl i (.ow (ds ++ [x])) g).bind fun g' => some (.nx g') else none := by simp only [evS]; rfl
@[simp] theorem evS_pop : evS ct n (.pop i) g = (ownAt g i).bind fun ds => (ds[ds.length - 1]?).bind fun x => (setSl i (.ow ds.dropLast) g).bind fun g' => some (.nx g') := by simp only [evS]; rfl
@[simp] theorem evS_popTo : evS ct n (.popTo j i) g = (ownAt g i).bind fun ds => (ds[ds.length - 1]?).bind fun x => (setSl i (.ow ds.dropLast) g).bind fun g' => if i = j then none else (setSl j (.sh x) g').bind fun g2 => some (.nx g2) := by simp only [evS]; rfl
@[simp] theorem evS_clr : evS ct n (.clr i) g = (ownAt g i).bind fun ds => (setSl i (.ow []) g).bind fun g' => some (.nx g') := by simp only [evS]; rfl
@[simp] theorem evS_frz : evS ct n (.frz i) g = (ownAt g i).bind fun ds => (setSl i (.sh (.lst ds)) g).bind fun g' => some (.nx g') := by simp only [evS]; rfl
@[simp] theorem evS_ret : evS ct n (.ret e) g = (evE ct g e).bind fun r => (storable r).bind fun _ => some (.rt r.1 r.2) := by simp only [evS]; rfl
@[simp] theorem evS_retv : evS ct n (.retv i) g = (ownAt g i).bind fun ds => some (.rt .fr (.lst ds)) := by simp only [evS]; rfl
/-- a call that may let an error out, and what is done with its value -/
noncomputable def orEx (r : Rs) (g : Env') (k : M × D → Option Out) : Option Out := match exOf r with
  | some c => some (.ex c g)
  | none => (noEx r).bind k
@[simp] theorem orEx_sh (d : D) (g : Env') (k : M × D → Option Out) : orEx (some (.sh, d)) g k = k (.sh, d) := rfl
@[simp] theorem orEx_fr (d : D) (g : Env') (k : M × D → Option Out) : orEx (some (.fr, d)) g k = k (.fr, d) := rfl
@[simp] theorem orEx_ex (c : Nat) (g : Env') (k : M × D → Option Out) : orEx (some (.ex, .exc c)) g k = some (.ex c g) := rfl
@[simp] theorem evS_setX (own : Bool) (f : Nat) : evS ct n (.setX own i f es) g = (evs ct g es).bind fun ds => orEx (ct f ds) g fun r => (slOf own r).bind fun s => (setSl i s g).bind fun g' => some (.nx g') := by simp only [evS]; rfl
@[simp] theorem evS_retX (f : Nat) : evS ct n (.retX f es) g = (evs ct g es).bind fun ds => orEx (ct f ds) g fun r => (storable r).bind fun _ => some (.rt r.1 r.2) := by simp only [evS]; rfl
@[simp] theorem evS_expX (f : Nat) : evS ct n (.expX f es) g = (evs ct g es).bind fun ds => orEx (ct f ds) g fun _ => some (.nx g) := by simp only [evS]; rfl
@[simp] theorem evS_rse (c : Nat) : evS ct n (.rse c) g = (ct flagX []).bind fun _ => if c < 6 then some (.ex c g) else none := by simp only [evS]; rfl
noncomputable def catchX (i j : Nat) : Out → Option Out
  | .nx g' => some (.nx g')
  | .rt m d => some (.rt m d)
  | .ex c g' => if c < 6 then (setSl j (.sh (.exc c)) g').bind fun g1 => (setSl i .no g1).bind fun g2 => some (.nx g2) else none
@[simp] theorem catchX_nx (i j : Nat) (g' : Env') : catchX i j (.nx g') = some (.nx g') := rfl
@[simp] theorem catchX_rt (i j : Nat) (m : M) (d : D) : catchX i j (.rt m d) = some (.rt m d) := rfl
@[simp] theorem catchX_ex (i j : Nat) (c : Nat) (g' : Env') : catchX i j (.ex c g') = if c < 6 then (setSl j (.sh (.exc c)) g').bind fun g1 => (setSl i .no g1).bind fun g2 => some (.nx g2) else none := rfl
@[simp] theorem evS_tryK (s : Sms) : evS ct n (.tryK s i j) g = (ct flagX []).bind fun _ => (evSs ct n s g).bind (catchX i j) := by
  simp only [evS]
  cases ct flagX [] with
  | none => rfl
  | some v =>
    show (evSs ct n s g).bind _ = (evSs ct n s g).bind _
    cases evSs ct n s g with
    | none => rfl
    | some o => cases o <;> rfl
@[simp] theorem evS_never : evS ct n .never g = none := by simp only [evS]
@[simp] theorem evS_ife (s t : Sms) : evS ct n (.ife e s t) g = (evE ct g e).bind fun x => (asBl x.2).bind fun k => if k then evSs ct n s g else evSs ct n t g := by simp only [evS]; rfl
theorem evS_whl (s : Sms) : evS ct n (.whl e s) g = whlF (fun g => (evE ct g e).bind fun x => asBl x.2) (fun g => evSs ct n s g) n g := by simp only [evS]; rfl
theorem evS_fr (tg : Tg) (it : Itx) (s : Sms) : evS ct n (.fr tg it s) g = (evI ct g it).bind fun r => if r.1 = .bo then none else forF (asg tg) (fun g => evSs ct n s g) r.2 g := by simp only [evS]; rfl
/-- what a statement's outcome leads to -/
noncomputable def andThen (ct : Ct) (n : Nat) (ss : Sms) : Out → Option Out
  | .nx g' => evSs ct n ss g'
  | .rt m d => some (.rt m d)
  | .ex c g' => some (.ex c g')
@[simp] theorem andThen_ex (ss : Sms) (c : Nat) (g' : Env') : andThen ct n ss (.ex c g') = some (.ex c g') := rfl
@[simp] theorem andThen_nx (ss : Sms) (g' : Env') : andThen ct n ss (.nx g') = evSs ct n ss g' := rfl
@[simp] theorem andThen_rt (ss : Sms) (m : M) (d : D) : andThen ct n ss (.rt m d) = some (.rt m d) := rfl
@[simp] theorem evSs_nil : evSs ct n .nil g = some (.nx g) := by simp only [evSs]
@[simp] theorem evSs_cons (s : Sm) (ss : Sms) : evSs ct n (.cons s ss) g = (evS ct n s g).bind (andThen ct n ss) := by
  simp only [evSs]
  show (evS ct n s g).bind _ = _
  cases evS ct n s g with
  | none => rfl
  | some o => cases o <;> rfl
end
/-! ### values -/
section
variable (i j : Int)
theorem sh_int (i : Int) : shD (.int i) = true := by
  show SeqAt.shaped (.int i) = true
  rfl
@[simp] theorem binD_add : binD .add (.int i) (.int j) = some (.sh, .int (i + j)) := rfl
@[simp] theorem binD_sub : binD .sub (.int i) (.int j) = some (.sh, .int (i - j)) := rfl
@[simp] theorem binD_mul : binD .mul (.int i) (.int j) = if mulOk i j then some (.sh, .int (i * j)) else none := rfl
@[simp] theorem binD_div : binD .div (.int i) (.int j) = if divOk j then some (.sh, .int (i.fdiv j)) else none := rfl
@[simp] theorem binD_mod : binD .mod (.int i) (.int j) = if j ≠ 0 then some (.sh, .int (i.fmod j)) else none := rfl
@[simp] theorem binD_pow : binD .pow (.int i) (.int j) = if powOk i j then some (.sh, .int (i ^ j.toNat)) else none := rfl
@[simp] theorem binD_cat (xs ys : List D) : binD .add (.lst xs) (.lst ys) = if lenOk (xs.length + ys.length) then some (.fr, .lst (xs ++ ys)) else none := rfl
@[simp] theorem cmpD_lt : cmpD .lt (.int i) (.int j) = some (decide (i < j)) := rfl
@[simp] theorem cmpD_le : cmpD .le (.int i) (.int j) = some (decide (i ≤ j)) := rfl
@[simp] theorem cmpD_gt : cmpD .gt (.int i) (.int j) = some (decide (j < i)) := rfl
@[simp] theorem cmpD_ge : cmpD .ge (.int i) (.int j) = some (decide (j ≤ i)) := rfl
@[simp] theorem cmpD_eq : cmpD .eq (.int i) (.int j) = some (decide (i = j)) := by
  simp only [cmpD, sh_int, Bool.and_self, if_true]
  show some (i == j) = _
  rw [Bool.beq_eq_decide_eq]
@[simp] theorem cmpD_ne : cmpD .ne (.int i) (.int j) = some (!decide (i = j)) := by
  simp only [cmpD, sh_int, Bool.and_self, if_true]
  show some (!(i == j)) = _
  rw [Bool.beq_eq_decide_eq]
@[simp] theorem asInt_int : asInt (.int i) = some i := rfl
@[simp] theorem asBl_bl (b : Bool) : asBl (.bl b) = some b := rfl
@[simp] theorem asL_lst (ds : List D) : asL (.lst ds) = some ds := rfl
@[simp] theorem asL_scr (ns : List Int) : asL (.scr ns) = some (ns.map D.int) := rfl
@[simp] theorem asLT_lst (ds : List D) : asLT (.lst ds) = some ds := rfl
@[simp] theorem asLT_tup (ds : List D) : asLT (.tup ds) = some ds := rfl
@[simp] theorem asLT_scr (ns : List Int) : asLT (.scr ns) = some (ns.map D.int) := rfl
@[simp] theorem storable_sh (d : D) : storable (.sh, d) = some d := rfl
@[simp] theorem storable_fr (d : D) : storable (.fr, d) = some d := rfl
@[simp] theorem storable_bo (d : D) : storable (.bo, d) = none := rfl
@[simp] theorem slOf_sh (b : Bool) (d : D) : slOf b (.sh, d) = some (.sh d) := rfl
@[simp] theorem slOf_ft (ds : List D) : slOf true (.fr, .lst ds) = some (.ow ds) := rfl
@[simp] theorem slOf_ff (ds : List D) : slOf false (.fr, .lst ds) = some (.sh (.lst ds)) := rfl
@[simp] theorem b1D_abs : b1D .abs (.int i) = some (.sh, .int (if i < 0 then -i else i)) := rfl
@[simp] theorem b1D_len (d : D) : b1D .len d = (asLT d).map fun ds => (.sh, .int ds.length) := rfl
@[simp] theorem b1D_int : b1D .int (.int i) = some (.sh, .int i) := rfl
@[simp] theorem b1D_intb (b : Bool) : b1D .int (.bl b) = some (.sh, .int (if b then 1 else 0)) := rfl
@[simp] theorem b1D_list (d : D) : b1D .list d = (asLT d).map fun ds => (.fr, .lst ds) := rfl
@[simp] theorem b1D_lrev (d : D) : b1D .lrev d = (asL d).map fun ds => (.fr, .lst ds.reverse) := rfl
@[simp] theorem b2D_max : b2D .max (.int i) (.int j) = some (.sh, .int (if j > i then j else i)) := rfl
@[simp] theorem b2D_min : b2D .min (.int i) (.int j) = some (.sh, .int (if j < i then j else i)) := rfl
@[simp] theorem isNonD_non : isNonD .non = true := rfl
@[simp] theorem isNonD_bl (b : Bool) : isNonD (.bl b) = false := rfl
@[simp] theorem isNonD_int : isNonD (.int i) = false := rfl
@[simp] theorem isNonD_tup (ds : List D) : isNonD (.tup ds) = false := rfl
@[simp] theorem isNonD_lst (ds : List D) : isNonD (.lst ds) = false := rfl
@[simp] theorem isi_int_int : isiD .int (.int i) = true := rfl
@[simp] theorem isi_bool_int : isiD .bool (.int i) = false := rfl
@[simp] theorem isi_bool_bl (b : Bool) : isiD .bool (.bl b) = true := rfl
@[simp] theorem isi_tup_tup (ds : List D) : isiD .tuple (.tup ds) = true := rfl
@[simp] theorem isi_tup_lst (ds : List D) : isiD .tuple (.lst ds) = false := rfl
@[simp] theorem isi_tup_non : isiD .tuple .non = false := rfl
@[simp] theorem isi_list_lst (ds : List D) : isiD .list (.lst ds) = true := rfl
@[simp] theorem partV_t (r : Rs) : partV true r = some none := rfl
@[simp] theorem partV_f (r : Rs) : partV false r = r.bind fun y => (asInt y.2).bind fun i => some (some i) := rfl
@[simp] theorem isNonE_non : isNonE .non = true := rfl
@[simp] theorem isNonE_int (k : Int) : isNonE (.int k) = false := rfl
@[simp] theorem isNonE_var (k : Nat) : isNonE (.var k) = false := rfl
@[simp] theorem isNonE_neg (e : Ex) : isNonE (.neg e) = false := rfl
@[simp] theorem isNonE_bin (o : Bop) (a b : Ex) : isNonE (.bin o a b) = false := rfl
@[simp] theorem slcD_lst (ds : List D) (lo hi : Option Int) : slcD (.lst ds) lo hi = some (.fr, .lst (cutD ds lo hi)) := rfl
@[simp] theorem slcD_scr (ns : List Int) (lo hi : Option Int) : slcD (.scr ns) lo hi = some (.fr, .lst (cutD (ns.map D.int) lo hi)) := rfl
theorem lenOk_small {n : Nat} (h : n ≤ 1000000) : lenOk n = true := by
  unfold lenOk
  exact decide_eq_true (Nat.lt_of_le_of_lt h (by decide))
@[simp] theorem lenOk_0 : lenOk 0 = true := lenOk_small (by decide)
@[simp] theorem lenOk_1 : lenOk 1 = true := lenOk_small (by decide)
@[simp] theorem lenOk_2 : lenOk 2 = true := lenOk_small (by decide)
@[simp] theorem lenOk_3 : lenOk 3 = true := lenOk_small (by decide)
@[simp] theorem lenOk_4 : lenOk 4 = true := lenOk_small (by decide)
@[simp] theorem lenOk_5 : lenOk 5 = true := lenOk_small (by decide)
@[simp] theorem lenOk_6 : lenOk 6 = true := lenOk_small (by decide)
@[simp] theorem setSl_cons0 (s x : Sl) (g : Env') : setSl 0 s (x :: g) = some (s :: g) := rfl
@[simp] theorem setSl_cons (s x : Sl) (g : Env') (k : Nat) : setSl (k + 1) s (x :: g) = (setSl k s g).map (x :: ·) := by
  unfold setSl
  by_cases h : k < g.length
  · rw [if_pos h, if_pos (by simpa using h)]; rfl
  · rw [if_neg h, if_neg (by simpa using h)]; rfl
@[simp] theorem asg_one (k : Nat) (d : D) (g : Env') : asg (.one k) d g = setSl k (.sh d) g := rfl
@[simp] theorem asg_many (is : List Nat) (ds : List D) (g : Env') : asg (.many is) (.tup ds) g = asgAll is ds g := rfl
@[simp] theorem asgAll_nil (g : Env') : asgAll [] [] g = some g := rfl
@[simp] theorem asgAll_cons (k : Nat) (is : List Nat) (d : D) (ds : List D) (g : Env') : asgAll (k :: is) (d :: ds) g = (setSl k (.sh d) g).bind fun g1 => asgAll is ds g1 := rfl
@[simp] theorem ownAt_cons0 (ds : List D) (g : Env') : ownAt (.ow ds :: g) 0 = some ds := rfl
@[simp] theorem ownAt_cons (x : Sl) (g : Env') (k : Nat) : ownAt (x :: g) (k + 1) = ownAt g k := rfl
theorem atI_at {α : Type} {xs : List α} {i : Int} {k : Nat} (h : i = (k : Int)) : atI xs i = xs[k]? := by
  subst h
  unfold atI ixN
  rw [if_pos (Int.natCast_nonneg k)]
  by_cases hk : k < xs.length
  · rw [if_pos (by omega)]; rfl
  · rw [if_neg (by omega), List.getElem?_eq_none (by omega)]; rfl
@[simp] theorem atI_0 {α : Type} (xs : List α) : atI xs 0 = xs[0]? := atI_at rfl
@[simp] theorem atI_1 {α : Type} (xs : List α) : atI xs 1 = xs[1]? := atI_at rfl
@[simp] theorem atI_2 {α : Type} (xs : List α) : atI xs 2 = xs[2]? := atI_at rfl
@[simp] theorem atI_3 {α : Type} (xs : List α) : atI xs 3 = xs[3]? := atI_at rfl
theorem atI_neg {α : Type} {xs : List α} {k : Nat} (h1 : 0 < k) (h2 : k ≤ xs.length) : atI xs (-(k : Int)) = xs[xs.length - k]? := by
  unfold atI ixN
  rw [if_neg (by omega), if_pos (by omega)]
  show xs[(-(k : Int) + xs.length).toNat]? = _
  rw [show (-(k : Int) + xs.length).toNat = xs.length - k by omega]
end
theorem fmod_of (a b : Int) (h : 0 ≤ b) : a.fmod b = a % b := Int.fmod_eq_emod_of_nonneg a h
theorem fdiv_of (a b : Int) (h : 0 ≤ b) : a.fdiv b = a / b := Int.fdiv_eq_ediv_of_nonneg a h
@[simp] theorem powOk_10 (j : Int) (h : 0 ≤ j) (h2 : j ≤ 1000000) : powOk 10 j = true := by
  unfold powOk
  exact decide_eq_true ⟨h, h2, by decide⟩
theorem divOk_of (j : Int) (h0 : j ≠ 0) (h : j.natAbs < 2 ^ 8999) : divOk j = true := by
  unfold divOk
  refine decide_eq_true ⟨h0, ?_⟩
  have h1 : j.natAbs ≠ 0 := by omega
  exact Nat.lt_of_lt_of_le ((Nat.log2_lt h1).mpr h) (by decide)
theorem runFn_eq (f : Fn) (ct : Ct) (n : Nat) (ds : List D) (h : ds.length = f.params) : runFn f ct n ds = (evSs ct n f.body (startE f ds)).map outV := by
  unfold runFn
  rw [if_pos h]
  cases evSs ct n f.body (startE f ds) with
  | none => rfl
  | some o => cases o <;> rfl
theorem whlF_true {c : Env' → Option Bool} {b : Env' → Option Out} {n : Nat} {g g' : Env'} (hc : c g = some true) (hb : b g = some (.nx g')) : whlF c b (n + 1) g = whlF c b n g' := by
  simp only [whlF, hc, Option.bind_eq_bind, Option.bind_some, if_true, hb]
theorem whlF_false {c : Env' → Option Bool} {b : Env' → Option Out} {n : Nat} {g : Env'} (hc : c g = some false) : whlF c b (n + 1) g = some (.nx g) := by
  simp only [whlF, hc, Option.bind_eq_bind, Option.bind_some, Bool.false_eq_true, if_false]
theorem forF_nil {a : D → Env' → Option Env'} {b : Env' → Option Out} {g : Env'} : forF a b [] g = some (.nx g) := rfl
theorem forF_nx {a : D → Env' → Option Env'} {b : Env' → Option Out} {d : D} {ds : List D} {g g1 g2 : Env'} (h1 : a d g = some g1) (h2 : b g1 = some (.nx g2)) : forF a b (d :: ds) g = forF a b ds g2 := by
  simp only [forF, h1, Option.bind_eq_bind, Option.bind_some, h2]
theorem forF_rt {a : D → Env' → Option Env'} {b : Env' → Option Out} {d : D} {ds : List D} {g g1 : Env'} {m : M} {r : D} (h1 : a d g = some g1) (h2 : b g1 = some (.rt m r)) : forF a b (d :: ds) g = some (.rt m r) := by
  simp only [forF, h1, Option.bind_eq_bind, Option.bind_some, h2]
theorem cutD_none_pos {α : Type} (xs : List α) (k : Nat) : cutD xs none (some (k : Int)) = xs.take k := by
  unfold cutD
  rw [HT.sIx_none, HT.sIx_nat]
  simp only [List.drop_zero, Nat.sub_zero]
  rcases Nat.le_total k xs.length with h | h
  · rw [Nat.min_eq_left h]
  · rw [Nat.min_eq_right h, List.take_of_length_le (Nat.le_refl _), List.take_of_length_le h]
theorem cutD_pos_none {α : Type} (xs : List α) (k : Nat) : cutD xs (some (k : Int)) none = xs.drop k := by
  unfold cutD
  rw [HT.sIx_none, HT.sIx_nat]
  rcases Nat.le_total k xs.length with h | h
  · rw [Nat.min_eq_left h, List.take_of_length_le (by simp)]
  · rw [Nat.min_eq_right h, List.drop_of_length_le (Nat.le_refl _), List.drop_of_length_le h]; simp
theorem callT_hit (n i : Nat) (f : Fn) (t : List (Nat × Fn)) (ds : List D) : callT n ((i, f) :: t) i ds = runFn f (callT n t) n ds := by simp only [callT, if_true]
theorem callT_miss {n i j : Nat} {f : Fn} {t : List (Nat × Fn)} {ds : List D} (h : j ≠ i) : callT n ((i, f) :: t) j ds = callT n t j ds := by simp only [callT, if_neg h]
theorem rngL_zero (lo : Int) : rngL lo 0 = [] := rfl
theorem rngL_succ (lo : Int) (n : Nat) : rngL lo (n + 1) = .int lo :: rngL (lo + 1) n := by
  unfold rngL
  rw [List.range_succ_eq_map, List.map_cons, List.map_map]
  congr 1
  · simp
  · refine List.map_congr_left fun k _ => ?_
    show D.int (lo + ((k + 1 : Nat) : Int)) = D.int (lo + 1 + (k : Int))
    congr 1
    omega
theorem stepS {ct : Ct} {n : Nat} {s : Sm} {ss : Sms} {g g' : Env'} {o : Option Out} (h1 : evS ct n s g = some (.nx g')) (h2 : evSs ct n ss g' = o) : evSs ct n (.cons s ss) g = o := by simp [h1, h2]
theorem stepR {ct : Ct} {n : Nat} {s : Sm} {ss : Sms} {g : Env'} {m : M} {d : D} (h1 : evS ct n s g = some (.rt m d)) : evSs ct n (.cons s ss) g = some (.rt m d) := by simp [h1]
theorem stepX {ct : Ct} {n : Nat} {s : Sm} {ss : Sms} {g g' : Env'} {c : Nat} (h1 : evS ct n s g = some (.ex c g')) : evSs ct n (.cons s ss) g = some (.ex c g') := by simp [h1]
theorem runX {f : Fn} {ct : Ct} {n : Nat} {ds : List D} {c : Nat} {g' : Env'} (h : ds.length = f.params) (e : evSs ct n f.body (startE f ds) = some (.ex c g')) : runFn f ct n ds = some (.ex, .exc c) := by
  rw [runFn_eq f ct n ds h, e]; rfl
theorem runR {f : Fn} {ct : Ct} {n : Nat} {ds : List D} {m : M} {d : D} (h : ds.length = f.params) (e : evSs ct n f.body (startE f ds) = some (.rt m d)) : runFn f ct n ds = some (m, d) := by
  rw [runFn_eq f ct n ds h, e]; rfl
theorem scr_at (ns : List Int) (k : Nat) (h : k < ns.length) : atI (ns.map D.int) (k : Int) = some (.int (ns.getD k 0)) := by
  rw [atI_at rfl, List.getElem?_map, List.getElem?_eq_getElem h]; simp [h]
/-- sizes -/
theorem divOk_small (j : Int) (h0 : j ≠ 0) (h : j.natAbs < 18446744073709551616) : divOk j = true := by
  unfold divOk
  refine decide_eq_true ⟨h0, ?_⟩
  have h1 : j.natAbs ≠ 0 := by omega
  have h2 : j.natAbs.log2 < 64 := (Nat.log2_lt h1).mpr (by rw [show (2 : Nat) ^ 64 = 18446744073709551616 by decide]; exact h)
  omega
theorem divOk_255 (j : Int) (h0 : j ≠ 0) (h : j.natAbs < 2 ^ 255) : divOk j = true := by
  unfold divOk
  refine decide_eq_true ⟨h0, ?_⟩
  have h1 : j.natAbs ≠ 0 := by omega
  have h2 : j.natAbs.log2 < 255 := (Nat.log2_lt h1).mpr h
  omega
def B (k : Nat) (i : Int) : Prop := i.natAbs < 2 ^ k
theorem B.mono {k l : Nat} {i : Int} (h : B k i) (hl : k ≤ l) : B l i := Nat.lt_of_lt_of_le h (Nat.pow_le_pow_right (by decide) hl)
theorem B.log {k : Nat} {i : Int} (h : B k i) : i.natAbs.log2 ≤ k := by
  by_cases h0 : i.natAbs = 0
  · rw [h0]; simp
  · exact Nat.le_of_lt ((Nat.log2_lt h0).mpr h)
theorem B.mul {k l : Nat} {i j : Int} (a : B k i) (b : B l j) : B (k + l) (i * j) := by
  unfold B
  rw [Int.natAbs_mul, Nat.pow_add]
  exact Nat.mul_lt_mul'' a b
theorem B.add {k l m : Nat} {i j : Int} (a : B k i) (b : B l j) (h1 : k < m) (h2 : l < m) : B m (i + j) := by
  have h := Int.natAbs_add_le i j
  have a' := B.mono (l := m - 1) a (by omega)
  have b' := B.mono (l := m - 1) b (by omega)
  have e : 2 ^ m = 2 ^ (m - 1) + 2 ^ (m - 1) := by
    rw [← Nat.two_mul, ← Nat.pow_succ', show (m - 1).succ = m by omega]
  unfold B at *
  omega
theorem B.neg {k : Nat} {i : Int} (a : B k i) : B k (-i) := by unfold B; rw [Int.natAbs_neg]; exact a
theorem B.sub {k l m : Nat} {i j : Int} (a : B k i) (b : B l j) (h1 : k < m) (h2 : l < m) : B m (i - j) := by
  rw [Int.sub_eq_add_neg]
  exact B.add a b.neg h1 h2
theorem B.ok {k l : Nat} {i j : Int} (a : B k i) (b : B l j) (h : k + l ≤ 134000000) : mulOk i j = true := by
  have h1 := a.log
  have h2 := b.log
  unfold mulOk
  refine decide_eq_true ?_
  have : bitsLine = 134217728 := by decide
  omega
theorem B.div {k : Nat} {j : Int} (b : B k j) (h0 : j ≠ 0) (h : k < 9000) : divOk j = true := by
  unfold divOk
  exact decide_eq_true ⟨h0, Nat.lt_of_le_of_lt b.log h⟩
end Ev
namespace Ev
open PySem L2
/-! ### the divisor -/
theorem div_turn (ct : Ct) (n m : Nat) (a b : Nat) (hb : 0 < b) : whlF (fun g => (evE ct g (.cmp .gt (.var 1) (.int 0))).bind fun x => asBl x.2) (fun g => evSs ct n f_divisor_B0 g) (m + 1) [.sh (.int a), .sh (.int b)] =
    whlF (fun g => (evE ct g (.cmp .gt (.var 1) (.int 0))).bind fun x => asBl x.2) (fun g => evSs ct n f_divisor_B0 g) m [.sh (.int b), .sh (.int (a % b : Nat))] := by
  have hm : ((a : Int).fmod (b : Int)) = ((a % b : Nat) : Int) := by rw [fmod_of _ _ (by omega)]; simp
  refine whlF_true (by simp [hb]) ?_
  have : b ≠ 0 := by omega
  simp [f_divisor_B0, hm, this]
theorem div_end (ct : Ct) (n m : Nat) (a : Int) : whlF (fun g => (evE ct g (.cmp .gt (.var 1) (.int 0))).bind fun x => asBl x.2) (fun g => evSs ct n f_divisor_B0 g) (m + 1) [.sh (.int a), .sh (.int 0)] = some (.nx [.sh (.int a), .sh (.int 0)]) :=
  whlF_false (by simp)
theorem div_loop (ct : Ct) (n : Nat) : ∀ (k m : Nat) (a b : Nat), b < 2 ^ k → 2 * k < m → whlF (fun g => (evE ct g (.cmp .gt (.var 1) (.int 0))).bind fun x => asBl x.2) (fun g => evSs ct n f_divisor_B0 g) m [.sh (.int a), .sh (.int b)] = some (.nx [.sh (.int (Nat.gcd a b)), .sh (.int 0)])
  | 0, m, a, b, h1, h2 => by
    obtain ⟨m, rfl⟩ : ∃ k, m = k + 1 := ⟨m - 1, by omega⟩
    have : b = 0 := by simp at h1; omega
    subst this
    rw [Nat.gcd_zero_right]
    exact div_end ct n m a
  | k + 1, m, a, b, h1, h2 => by
    obtain ⟨m, rfl⟩ : ∃ k, m = k + 2 := ⟨m - 2, by omega⟩
    by_cases hb : b = 0
    · subst hb
      rw [Nat.gcd_zero_right]
      exact div_end ct n (m + 1) a
    have hb' : 0 < b := by omega
    have e : Nat.gcd b (a % b) = Nat.gcd a b := by rw [Nat.gcd_comm a b, Nat.gcd_rec b a, Nat.gcd_comm]
    rw [div_turn ct n (m + 1) a b hb', ← e]
    by_cases hr : a % b = 0
    · rw [hr, Nat.gcd_zero_right]
      exact div_end ct n m b
    have hr' : 0 < a % b := by omega
    have e2 : Nat.gcd (a % b) (b % (a % b)) = Nat.gcd b (a % b) := by rw [Nat.gcd_comm b, Nat.gcd_rec (a % b) b, Nat.gcd_comm]
    rw [div_turn ct n m b (a % b) hr', ← e2]
    refine div_loop ct n k m _ _ ?_ (by omega)
    have h3 := Nat.mod_lt a hb'
    have h4 := Nat.mod_lt b hr'
    have h5 : b % (a % b) + (a % b) ≤ b := by
      have := Nat.div_add_mod b (a % b)
      have h6 : 1 ≤ b / (a % b) := (Nat.one_le_div_iff hr').mpr (Nat.le_of_lt h3)
      have h7 : (a % b) * 1 ≤ (a % b) * (b / (a % b)) := Nat.mul_le_mul_left _ h6
      omega
    have : 2 ^ (k + 1) = 2 * 2 ^ k := Nat.pow_succ'
    omega
theorem abs_eq (a : Int) : (if a < 0 then -a else a) = ((a.natAbs : Nat) : Int) := by
  split <;> omega
theorem ev_divisor (ct : Ct) (n : Nat) (a b : Int) (k : Nat) (hb : B k b) (h : 2 * k < n) : runFn f_divisor ct n [.int a, .int b] = some (.sh, .int (Int.gcd a b : Nat)) := by
  have hl := div_loop ct n k n a.natAbs b.natAbs hb h
  rw [runFn_eq _ _ _ _ rfl]
  have e : evS ct n f_divisor_L0 [.sh (.int (a.natAbs : Nat)), .sh (.int (b.natAbs : Nat))] = some (.nx [.sh (.int (Nat.gcd a.natAbs b.natAbs)), .sh (.int 0)]) := by
    rw [f_divisor_L0, evS_whl]; exact hl
  simp [f_divisor, startE, abs_eq, e, Int.gcd]
theorem ev_law_divisor (ct : Ct) (n : Nat) (a b : Int) (k : Nat) (hb : B k b) (h : 2 * k < n) : runFn f_law_divisor ct n [.int a, .int b] = some (.sh, .int (Int.gcd a b : Nat)) := ev_divisor ct n a b k hb h
theorem ev_cell_at (ct : Ct) (n : Nat) (ns : List Int) (k : Nat) : runFn f_law_cell_at ct n [.scr ns, .int k] = some (.sh, .int (ns.getD k 0)) := by
  rw [runFn_eq _ _ _ _ rfl]
  by_cases h : k < ns.length
  · have e : atI (ns.map D.int) (k : Int) = some (.int (ns.getD k 0)) := by
      rw [atI_at rfl, List.getElem?_map, List.getElem?_eq_getElem h]; simp [h]
    simp [f_law_cell_at, startE, h, e]
  · simp [f_law_cell_at, startE, h]
theorem ev_whole (ct : Ct) (n : Nat) (i : Int) : runFn f_law_whole ct n [.int i] = some (.sh, .bl true) := by
  rw [runFn_eq _ _ _ _ rfl]
  simp [f_law_whole, startE]
theorem b_of {i : Int} {k : Nat} (h : i.natAbs < 2 ^ k) : B k i := h
end Ev
namespace Ev
open PySem L2
/-! ### the drawn numbers -/
theorem block_loop (ct : Ct) (n : Nat) (a b : Sl) : ∀ (m : Nat) (lo c : Int) (j : Sl), ∃ (c' : Int) (j' : Sl), forF (asg (.one 3)) (fun g => evSs ct n f_law_block_B0 g) (rngL lo m) [a, b, .sh (.int c), j] = some (.nx [a, b, .sh (.int c'), j'])
  | 0, lo, c, j => ⟨c, j, rfl⟩
  | m + 1, lo, c, j => by
    obtain ⟨c', j', h⟩ := block_loop ct n a b m (lo + 1) (c / 2147483587) (.sh (.int lo))
    refine ⟨c', j', ?_⟩
    rw [rngL_succ, forF_nx (g1 := [a, b, .sh (.int c), .sh (.int lo)]) (g2 := [a, b, .sh (.int (c / 2147483587)), .sh (.int lo)]) (by simp) (by simp [f_law_block_B0, fdiv_of, divOk_255]), h]
theorem pow64a : binD .pow (.int 10) (.int 64) = some (.sh, .int 10000000000000000000000000000000000000000000000000000000000000000) := by
  simp [binD_pow]
theorem pow64b : divOk 10000000000000000000000000000000000000000000000000000000000000000 = true := divOk_255 _ (by decide) (by decide)
theorem ev_block (ct : Ct) (n : Nat) (ns : List Int) (k : Nat) : ∃ v, runFn f_law_block ct n [.scr ns, .int k] = some (.sh, .int v) := by
  obtain ⟨r, hk8, hr⟩ : ∃ r : Nat, (k : Int).fmod 8 = (r : Int) ∧ rngOk (r : Int) = true := ⟨k % 8, by rw [fmod_of _ _ (by decide)]; omega, rngOk_small _ (by omega)⟩
  have loop : ∀ (c : Int), ∃ c' j', evS ct n f_law_block_L0 [.sh (.scr ns), .sh (.int k), .sh (.int c), .no] = some (.nx [.sh (.scr ns), .sh (.int k), .sh (.int c'), j']) := fun c => by
    obtain ⟨c', j', h⟩ := block_loop ct n (.sh (.scr ns)) (.sh (.int k)) r 0 c .no
    refine ⟨c', j', ?_⟩
    rw [f_law_block_L0, evS_fr]
    simp [hk8, hr, h]
  obtain ⟨q, hp⟩ : ∃ q : Nat, (1 : Int) + ((k : Int).fdiv 8).fmod 62 = (q : Int) := ⟨1 + k / 8 % 62, by rw [fdiv_of _ _ (by decide), fmod_of _ _ (by decide)]; omega⟩
  obtain ⟨P, hP⟩ : ∃ P, binD .pow (.int 10) (.int 64) = some (.sh, .int P) ∧ divOk P = true := ⟨_, pow64a, pow64b⟩
  obtain ⟨hP, hP2⟩ := hP
  have fin : ∀ c, ∃ v, evSs ct n (.cons f_law_block_L0 (.cons (.ret (.var 2)) .nil)) [.sh (.scr ns), .sh (.int k), .sh (.int c), .no] = some (.rt .sh (.int v)) := fun c => by
    obtain ⟨c', j', h⟩ := loop c
    exact ⟨c', stepS h (by simp)⟩
  by_cases hc : q < ns.length
  · have e := scr_at ns _ hc
    have hc' : (q : Int) < (ns.length : Int) := by omega
    obtain ⟨v, hv⟩ := fin ((ns.getD q 0).fdiv P)
    refine ⟨v, runR rfl (stepS (g' := [.sh (.scr ns), .sh (.int k), .sh (.int 0), .no]) (by simp [startE, f_law_block]) (stepS ?_ hv))⟩
    simp [hp, e, hP, hP2, hc', divOk_255, -binD_pow, -List.getD_eq_getElem?_getD]
  · have hc' : ¬ (q : Int) < (ns.length : Int) := by omega
    obtain ⟨v, hv⟩ := fin 0
    refine ⟨v, runR rfl (stepS (g' := [.sh (.scr ns), .sh (.int k), .sh (.int 0), .no]) (by simp [startE, f_law_block]) (stepS ?_ hv))⟩
    simp [hp, hc', divOk_255]
theorem ev_mixed (ct : Ct) (n : Nat) (ns : List Int) (k : Nat) (hk : k ≤ 100000) (hb : ∃ v, ct 14 [.scr ns, .int k] = some (.sh, .int v)) : ∃ v, (0 ≤ v ∧ v < 2147483587) ∧ runFn f_law_mixed ct n [.scr ns, .int k] = some (.sh, .int v) := by
  obtain ⟨v, hb⟩ := hb
  have fin : ∀ c : Int, ∃ w, (0 ≤ w ∧ w < 2147483587) ∧ evSs ct n (.cons (.set false 3 (.bin .add (.bin .mod (.var 2) (.bin .pow (.int 10) (.int 18))) (.bin .mul (.int 48271) (.bin .add (.var 1) (.int 1)))))
      (.cons (.set false 3 (.bin .add (.bin .mod (.bin .mul (.var 3) (.var 3)) (.int 2147483629)) (.bin .mul (.int 69621) (.var 1))))
      (.cons (.ret (.bin .mod (.bin .mul (.var 3) (.var 3)) (.int 2147483587)))
      .nil))) [.sh (.scr ns), .sh (.int k), .sh (.int c), .no] = some (.rt .sh (.int w)) := fun c => by
    have m1 : mulOk 48271 ((k : Int) + 1) = true := B.ok (k := 16) (l := 20) (by unfold B; decide) (by unfold B; omega) (by omega)
    have m2 : mulOk 69621 (k : Int) = true := B.ok (k := 17) (l := 20) (by unfold B; decide) (by unfold B; omega) (by omega)
    obtain ⟨x, hx⟩ : ∃ x, c % 1000000000000000000 + 48271 * ((k : Int) + 1) = x := ⟨_, rfl⟩
    have bx : B 62 x := by unfold B; omega
    have m3 := B.ok bx bx (by omega)
    obtain ⟨y, hy⟩ : ∃ y, x * x % 2147483629 + 69621 * (k : Int) = y := ⟨_, rfl⟩
    have by' : B 62 y := by unfold B; omega
    have m4 := B.ok by' by' (by omega)
    refine ⟨y * y % 2147483587, by omega, ?_⟩
    simp [fmod_of, m1, m2, m3, m4, hx, hy]
  by_cases hl : 0 < ns.length
  · have hl' : (0 : Int) < (ns.length : Int) := by omega
    have e0 : atI (ns.map D.int) 0 = some (.int (ns.getD 0 0)) := scr_at ns 0 hl
    obtain ⟨c0, h0⟩ : ∃ c0, ns.getD 0 0 = c0 := ⟨_, rfl⟩
    rw [h0] at e0
    obtain ⟨q, hq⟩ : ∃ q, k % min 63 ns.length = q := ⟨_, rfl⟩
    have hq2 : q < ns.length := by rw [← hq]; exact Nat.lt_of_lt_of_le (Nat.mod_lt _ (by omega)) (Nat.min_le_right _ _)
    have eq := scr_at ns q hq2
    have s1 : evS ct n (.set false 2 (.int 0)) [.sh (.scr ns), .sh (.int k), .no, .no] = some (.nx [.sh (.scr ns), .sh (.int k), .sh (.int 0), .no]) := by simp
    have s2 : evS ct n (.ife (.cmp .gt (.b1 .len (.var 0)) (.int 0)) (.cons (.set false 2 (.idx (.var 0) (.int 0))) .nil) .nil) [.sh (.scr ns), .sh (.int k), .sh (.int 0), .no] = some (.nx [.sh (.scr ns), .sh (.int k), .sh (.int c0), .no]) := by
      simp [e0, hl, -atI_0]
    have s4 : evS ct n (.ife (.cmp .gt (.b1 .len (.var 0)) (.int 0)) (.cons (.set false 2 (.idx (.var 0) (.bin .mod (.var 1) (.b2 .min (.int 63) (.b1 .len (.var 0)))))) .nil) .nil) [.sh (.scr ns), .sh (.int k), .sh (.int c0), .no] = some (.nx [.sh (.scr ns), .sh (.int k), .sh (.int (ns.getD q 0)), .no]) := by
      by_cases h63 : (ns.length : Int) < 63
      · have em : (k : Int) % (ns.length : Int) = (q : Int) := by rw [← hq, Nat.min_eq_right (by omega)]; omega
        have nz : ns ≠ [] := fun z => by rw [z] at hl; cases hl
        simp [hl, fmod_of, h63, nz, em, eq, -List.getD_eq_getElem?_getD]
      · have em : (k : Int) % 63 = (q : Int) := by rw [← hq, Nat.min_eq_left (by omega)]; omega
        simp [hl, fmod_of, h63, em, eq, -List.getD_eq_getElem?_getD]
    obtain ⟨w, hw, ew⟩ := fin (ns.getD q 0)
    by_cases hc : c0 / 1000000 % 2 = 1 ∧ v ≠ 0
    · refine ⟨v % 2147483587, by omega, runR rfl (stepS s1 (stepS s2 (stepR (d := .int (v % 2147483587)) ?_)))⟩
      simp [fmod_of, fdiv_of, divOk_255, hc, hb]
    · refine ⟨w, hw, runR rfl (stepS s1 (stepS s2 (stepS (g' := [.sh (.scr ns), .sh (.int k), .sh (.int c0), .no]) ?_ (stepS s4 ew))))⟩
      by_cases h1 : c0 / 1000000 % 2 = 1
      · have hv : v = 0 := by
          by_cases hv : v = 0
          · exact hv
          · exact absurd ⟨h1, hv⟩ hc
        simp [fmod_of, fdiv_of, divOk_255, h1, hb, hv]
      · simp [fmod_of, fdiv_of, divOk_255, h1]
  · have hn : ns = [] := by
      cases ns with
      | nil => rfl
      | cons => simp at hl
    subst hn
    obtain ⟨w, hw, ew⟩ := fin 0
    refine ⟨w, hw, runR rfl (stepS (g' := [.sh (.scr []), .sh (.int k), .sh (.int 0), .no]) (by simp [startE, f_law_mixed]) (stepS (g' := [.sh (.scr []), .sh (.int k), .sh (.int 0), .no]) (by simp) (stepS (g' := [.sh (.scr []), .sh (.int k), .sh (.int 0), .no]) (by simp [fmod_of, fdiv_of, divOk_255]) (stepS (g' := [.sh (.scr []), .sh (.int k), .sh (.int 0), .no]) (by simp) ew))))⟩
end Ev
namespace Ev
open PySem L2
/-! ### data without truths: == is equality -/
mutual
/-- no truth, no text, no script within -/
def noB : D → Bool
  | .non => true
  | .int _ => true
  | .tup ds => noBs ds
  | .lst ds => noBs ds
  | _ => false
def noBs : List D → Bool
  | [] => true
  | d :: ds => noB d && noBs ds
end
mutual
/-- depth at most k -/
def dep : Nat → D → Bool
  | 0, .tup _ => false
  | 0, .lst _ => false
  | k + 1, .tup ds => deps k ds
  | k + 1, .lst ds => deps k ds
  | _, _ => true
def deps : Nat → List D → Bool
  | _, [] => true
  | k, d :: ds => dep k d && deps k ds
end
mutual
theorem noB_lay : ∀ d : D, noB d = true → (toPy d).canLay0 = true
  | .non, _ => rfl
  | .int _, _ => rfl
  | .tup ds, h => by rw [toPy, PyData.canLay0]; exact noBs_lay ds (by rw [noB] at h; exact h)
  | .lst ds, h => by rw [toPy, PyData.canLay0]; exact noBs_lay ds (by rw [noB] at h; exact h)
  | .bl _, h => by simp [noB] at h
  | .str _, h => by simp [noB] at h
  | .scr _, h => by simp [noB] at h
  | .exc _, h => by simp [noB] at h
theorem noBs_lay : ∀ ds : List D, noBs ds = true → PyData.canLayAll0 (toPys ds) = true
  | [], _ => rfl
  | d :: ds, h => by
    rw [noBs, Bool.and_eq_true] at h
    rw [toPys, PyData.canLayAll0, noB_lay d h.1, noBs_lay ds h.2]; rfl
end
mutual
theorem dep_le : ∀ (d : D) (k : Nat), noB d = true → dep k d = true → (toPy d).depth ≤ k
  | .non, k, _, _ => Nat.zero_le _
  | .int _, k, _, _ => Nat.zero_le _
  | .tup ds, 0, _, h => by simp [dep] at h
  | .lst ds, 0, _, h => by simp [dep] at h
  | .tup ds, k + 1, h0, h => by
    rw [toPy, PyData.depth]
    have := deps_le ds k (by rw [noB] at h0; exact h0) (by rw [dep] at h; exact h)
    omega
  | .lst ds, k + 1, h0, h => by
    rw [toPy, PyData.depth]
    have := deps_le ds k (by rw [noB] at h0; exact h0) (by rw [dep] at h; exact h)
    omega
  | .bl _, k, h, _ => by simp [noB] at h
  | .str _, k, h, _ => by simp [noB] at h
  | .scr _, k, h, _ => by simp [noB] at h
  | .exc _, k, h, _ => by simp [noB] at h
theorem deps_le : ∀ (ds : List D) (k : Nat), noBs ds = true → deps k ds = true → PyData.depthAll (toPys ds) ≤ k
  | [], k, _, _ => Nat.zero_le _
  | d :: ds, k, h0, h => by
    rw [noBs, Bool.and_eq_true] at h0
    rw [deps, Bool.and_eq_true] at h
    rw [toPys, PyData.depthAll]
    have h1 := dep_le d k h0.1 h.1
    have h2 := deps_le ds k h0.2 h.2
    omega
end
mutual
theorem noB_noX : ∀ d : D, noB d = true → noX d = true
  | .non, _ => rfl
  | .int _, _ => rfl
  | .tup ds, h => by rw [noX]; exact noBs_noXs ds (by rw [noB] at h; exact h)
  | .lst ds, h => by rw [noX]; exact noBs_noXs ds (by rw [noB] at h; exact h)
  | .bl _, h => by simp [noB] at h
  | .str _, h => by simp [noB] at h
  | .scr _, h => by simp [noB] at h
  | .exc _, h => by simp [noB] at h
theorem noBs_noXs : ∀ ds : List D, noBs ds = true → noXs ds = true
  | [], _ => rfl
  | d :: ds, h => by
    rw [noBs, Bool.and_eq_true] at h
    rw [noXs, noB_noX d h.1, noBs_noXs ds h.2]; rfl
end
theorem shD_of (d : D) (h0 : noB d = true) (h : dep 60 d = true) : shD d = true := by
  have := dep_le d 60 h0 h
  show (noX d && SeqAt.shaped (toPy d)) = true
  rw [noB_noX d h0, Bool.true_and]
  unfold SeqAt.shaped
  rw [noB_lay d h0, decide_eq_true (by omega)]
  rfl
mutual
theorem eqv_iff : ∀ (d e : D), noB d = true → noB e = true → (PyData.eqv (toPy d) (toPy e) = true ↔ d = e)
  | .non, .non, _, _ => by simp [toPy, PyData.eqv]
  | .non, .int _, _, _ => by simp [toPy, PyData.eqv]
  | .non, .tup _, _, _ => by simp [toPy, PyData.eqv]
  | .non, .lst _, _, _ => by simp [toPy, PyData.eqv]
  | .int _, .non, _, _ => by simp [toPy, PyData.eqv]
  | .int _, .int _, _, _ => by simp [toPy, PyData.eqv]
  | .int _, .tup _, _, _ => by simp [toPy, PyData.eqv]
  | .int _, .lst _, _, _ => by simp [toPy, PyData.eqv]
  | .tup _, .non, _, _ => by simp [toPy, PyData.eqv]
  | .tup _, .int _, _, _ => by simp [toPy, PyData.eqv]
  | .tup _, .lst _, _, _ => by simp [toPy, PyData.eqv]
  | .lst _, .non, _, _ => by simp [toPy, PyData.eqv]
  | .lst _, .int _, _, _ => by simp [toPy, PyData.eqv]
  | .lst _, .tup _, _, _ => by simp [toPy, PyData.eqv]
  | .tup xs, .tup ys, h1, h2 => by
    rw [noB] at h1 h2
    rw [toPy, toPy, PyData.eqv, eqvs_iff xs ys h1 h2]
    simp
  | .lst xs, .lst ys, h1, h2 => by
    rw [noB] at h1 h2
    rw [toPy, toPy, PyData.eqv, eqvs_iff xs ys h1 h2]
    simp
  | .bl _, _, h, _ => by simp [noB] at h
  | .str _, _, h, _ => by simp [noB] at h
  | .scr _, _, h, _ => by simp [noB] at h
  | .exc _, _, h, _ => by simp [noB] at h
  | .non, .exc _, _, h => by simp [noB] at h
  | .int _, .exc _, _, h => by simp [noB] at h
  | .tup _, .exc _, _, h => by simp [noB] at h
  | .lst _, .exc _, _, h => by simp [noB] at h
  | .non, .bl _, _, h => by simp [noB] at h
  | .non, .str _, _, h => by simp [noB] at h
  | .non, .scr _, _, h => by simp [noB] at h
  | .int _, .bl _, _, h => by simp [noB] at h
  | .int _, .str _, _, h => by simp [noB] at h
  | .int _, .scr _, _, h => by simp [noB] at h
  | .tup _, .bl _, _, h => by simp [noB] at h
  | .tup _, .str _, _, h => by simp [noB] at h
  | .tup _, .scr _, _, h => by simp [noB] at h
  | .lst _, .bl _, _, h => by simp [noB] at h
  | .lst _, .str _, _, h => by simp [noB] at h
  | .lst _, .scr _, _, h => by simp [noB] at h
theorem eqvs_iff : ∀ (ds es : List D), noBs ds = true → noBs es = true → (PyData.eqvAll (toPys ds) (toPys es) = true ↔ ds = es)
  | [], [], _, _ => by simp [toPys, PyData.eqvAll]
  | [], _ :: _, _, _ => by simp [toPys, PyData.eqvAll]
  | _ :: _, [], _, _ => by simp [toPys, PyData.eqvAll]
  | d :: ds, e :: es, h1, h2 => by
    rw [noBs, Bool.and_eq_true] at h1 h2
    rw [toPys, toPys, PyData.eqvAll, Bool.and_eq_true, eqv_iff d e h1.1 h2.1, eqvs_iff ds es h1.2 h2.2]
    simp
end
noncomputable def deq (x y : D) : Bool := @decide (x = y) (Classical.propDecidable _)
theorem deq_iff {x y : D} : deq x y = true ↔ x = y := by
  unfold deq
  exact @decide_eq_true_iff _ (Classical.propDecidable _)
@[simp] theorem deq_self (x : D) : deq x x = true := deq_iff.mpr rfl
theorem deq_ne {x y : D} (h : x ≠ y) : deq x y = false := by
  cases e : deq x y with
  | false => rfl
  | true => exact absurd (deq_iff.mp e) h
theorem eqvD_deq (x y : D) (h1 : noB x = true) (h2 : noB y = true) : eqvD x y = deq x y := by
  have h := eqv_iff x y h1 h2
  have h' := @deq_iff x y
  cases e : deq x y with
  | true => exact h.mpr (h'.mp e)
  | false =>
    cases e2 : eqvD x y with
    | false => rfl
    | true => rw [h'.mpr (h.mp e2)] at e; cases e
theorem cmpD_eqD (x y : D) (h1 : noB x = true) (h2 : noB y = true) (d1 : dep 60 x = true) (d2 : dep 60 y = true) : cmpD .eq x y = some (deq x y) := by
  show (if (shD x && shD y) = true then some (eqvD x y) else none) = _
  rw [shD_of x h1 d1, shD_of y h2 d2, eqvD_deq x y h1 h2]
  rfl
theorem cmpD_neD (x y : D) (h1 : noB x = true) (h2 : noB y = true) (d1 : dep 60 x = true) (d2 : dep 60 y = true) : cmpD .ne x y = some (!deq x y) := by
  show (if (shD x && shD y) = true then some (!eqvD x y) else none) = _
  rw [shD_of x h1 d1, shD_of y h2 d2, eqvD_deq x y h1 h2]
  rfl
/-- triples and pairs of ints -/
def d3 (a b c : Int) : D := .tup [.int a, .int b, .int c]
def d2 (a b : Int) : D := .tup [.int a, .int b]
@[simp] theorem eq3 (a b c x y z : Int) : cmpD .eq (.tup [.int a, .int b, .int c]) (.tup [.int x, .int y, .int z]) = some (decide (a = x ∧ b = y ∧ c = z)) := by
  rw [cmpD_eqD _ _ rfl rfl rfl rfl]
  congr 1
  by_cases h : a = x ∧ b = y ∧ c = z
  · rw [decide_eq_true h]; exact deq_iff.mpr (by obtain ⟨rfl, rfl, rfl⟩ := h; rfl)
  · rw [decide_eq_false h]; exact deq_ne fun z => h (by simpa using z)
@[simp] theorem ne3 (a b c x y z : Int) : cmpD .ne (.tup [.int a, .int b, .int c]) (.tup [.int x, .int y, .int z]) = some (!decide (a = x ∧ b = y ∧ c = z)) := by
  have := eq3 a b c x y z
  rw [cmpD_eqD _ _ rfl rfl rfl rfl] at this
  rw [cmpD_neD _ _ rfl rfl rfl rfl, Option.some.inj this]
@[simp] theorem eq2 (a b x y : Int) : cmpD .eq (.tup [.int a, .int b]) (.tup [.int x, .int y]) = some (decide (a = x ∧ b = y)) := by
  rw [cmpD_eqD _ _ rfl rfl rfl rfl]
  congr 1
  by_cases h : a = x ∧ b = y
  · rw [decide_eq_true h]; exact deq_iff.mpr (by obtain ⟨rfl, rfl⟩ := h; rfl)
  · rw [decide_eq_false h]; exact deq_ne fun z => h (by simpa using z)
@[simp] theorem ne2 (a b x y : Int) : cmpD .ne (.tup [.int a, .int b]) (.tup [.int x, .int y]) = some (!decide (a = x ∧ b = y)) := by
  have := eq2 a b x y
  rw [cmpD_eqD _ _ rfl rfl rfl rfl] at this
  rw [cmpD_neD _ _ rfl rfl rfl rfl, Option.some.inj this]
end Ev
namespace Ev
open PySem L2
/-! ### exact division -/
theorem fdiv_dvd {a b : Int} (h : b ∣ a) (h0 : b ≠ 0) : ∃ c, a.fdiv b = c ∧ a = b * c := by
  obtain ⟨c, rfl⟩ := h
  exact ⟨c, Int.mul_fdiv_cancel_left c h0, rfl⟩
theorem B.of_mul {k : Nat} {b c : Int} (h : B k (b * c)) (h0 : b ≠ 0) : B k c := by
  unfold B at *
  rw [Int.natAbs_mul] at h
  have : 1 ≤ b.natAbs := by omega
  have := Nat.mul_le_mul_right c.natAbs this
  omega
theorem B.gcd {k : Nat} {a b : Int} (h : B k b) (h0 : b ≠ 0) : B k (Int.gcd a b : Nat) := by
  unfold B at *
  have : Int.gcd a b ≤ b.natAbs := Nat.le_of_dvd (by omega) (Int.gcd_dvd_natAbs_right a b)
  simp only [Int.natAbs_natCast]
  omega
/-- what the program's half answers: three parts by their divisor -/
theorem ev_lowest (ct : Ct) (n : Nat) (t b : Int) (k : Nat) (hd : ∀ x y, B 8000 y → ct 16 [.int x, .int y] = some (.sh, .int (Int.gcd x y : Nat))) (ht : B k t) (hb : B k b) (hk : k ≤ 8000) (h0 : b ≠ 0) :
    ∃ p q, B k p ∧ B k q ∧ 0 < q ∧ runFn f_law_lowest ct n [.int t, .int b] = some (.sh, .tup [.int p, .int q]) := by
  obtain ⟨g, hg⟩ : ∃ g : Int, ((Int.gcd t b : Nat) : Int) = g := ⟨_, rfl⟩
  have g1 : g ∣ t := hg ▸ Int.gcd_dvd_left ..
  have g2 : g ∣ b := hg ▸ Int.gcd_dvd_right ..
  have g0 : 0 < g := by
    have : Int.gcd t b ≠ 0 := fun z => h0 (Int.gcd_eq_zero_iff.mp z).2
    omega
  have gb : B k g := hg ▸ B.gcd hb h0
  have e := hd t b (hb.mono hk)
  rw [hg] at e
  by_cases hn : b < 0
  · obtain ⟨p, e1, f1⟩ := fdiv_dvd (Int.neg_dvd.mpr g1) (show -g ≠ 0 by omega)
    obtain ⟨q, e2, f2⟩ := fdiv_dvd (Int.neg_dvd.mpr g2) (show -g ≠ 0 by omega)
    refine ⟨p, q, B.of_mul (f1 ▸ ht) (show -g ≠ 0 by omega), B.of_mul (f2 ▸ hb) (show -g ≠ 0 by omega), ?_, ?_⟩
    · rw [f2] at hn
      rw [Int.neg_mul] at hn
      exact Int.pos_of_mul_pos_right (show 0 < g * q by omega) g0
    · have o := B.div gb.neg (show -g ≠ 0 by omega) (by omega)
      refine runR rfl ?_
      simp [f_law_lowest, startE, e, hn, o, e1, e2]
  · obtain ⟨p, e1, f1⟩ := fdiv_dvd g1 (show g ≠ 0 by omega)
    obtain ⟨q, e2, f2⟩ := fdiv_dvd g2 (show g ≠ 0 by omega)
    refine ⟨p, q, B.of_mul (f1 ▸ ht) (show g ≠ 0 by omega), B.of_mul (f2 ▸ hb) (show g ≠ 0 by omega), ?_, ?_⟩
    · have : 0 < b := by omega
      rw [f2] at this
      exact Int.pos_of_mul_pos_right this g0
    · have o := B.div gb (show g ≠ 0 by omega) (by omega)
      refine runR rfl ?_
      simp [f_law_lowest, startE, e, hn, o, e1, e2]
/-- the law's own half -/
theorem half_end (ct : Ct) (n : Nat) (s1 s2 s3 : Sl) (a b c : Int) (hd : ∀ x y, B 8000 y → ct 16 [.int x, .int y] = some (.sh, .int (Int.gcd x y : Nat))) (k : Nat) (ha : B k a) (hb : B k b) (hc : B k c) (hk : k ≤ 8000) (h0 : ¬ (a = 0 ∧ b = 0)) :
    ∃ x y z, B k x ∧ B k y ∧ B k z ∧ ¬ (x = 0 ∧ y = 0) ∧ evSs ct n (.cons (.set false 4 (.call 16 (.cons (.call 16 (.cons (.idx (.var 3) (.int 0)) (.cons (.idx (.var 3) (.int 1)) .nil))) (.cons (.idx (.var 3) (.int 2)) .nil))))
      (.cons (.ret (.tup (.cons (.bin .div (.idx (.var 3) (.int 0)) (.var 4)) (.cons (.bin .div (.idx (.var 3) (.int 1)) (.var 4)) (.cons (.bin .div (.idx (.var 3) (.int 2)) (.var 4)) .nil))))) .nil)) [s1, s2, s3, .ow [.int a, .int b, .int c], .no] = some (.rt .sh (.tup [.int x, .int y, .int z])) := by
  obtain ⟨g, hg⟩ : ∃ g : Int, ((Int.gcd (Int.gcd a b : Nat) c : Nat) : Int) = g := ⟨_, rfl⟩
  have gg : g ∣ (Int.gcd a b : Nat) := hg ▸ Int.gcd_dvd_left ..
  have g1 : g ∣ a := Int.dvd_trans gg (Int.gcd_dvd_left ..)
  have g2 : g ∣ b := Int.dvd_trans gg (Int.gcd_dvd_right ..)
  have g3 : g ∣ c := hg ▸ Int.gcd_dvd_right ..
  have g0 : 0 < g := by
    have : Int.gcd (Int.gcd a b : Nat) c ≠ 0 := fun z => by
      have h1 := (Int.gcd_eq_zero_iff.mp z).1
      have h2 : Int.gcd a b = 0 := by omega
      exact h0 (Int.gcd_eq_zero_iff.mp h2)
    omega
  have gb : B k g := by
    have h2 : Int.gcd a b ≠ 0 := fun z => h0 (Int.gcd_eq_zero_iff.mp z)
    have h3 : g.natAbs ≤ Int.gcd a b := by
      have := Int.le_of_dvd (by omega) gg
      omega
    by_cases hb0 : b = 0
    · have : Int.gcd a b = a.natAbs := by rw [hb0]; simp
      unfold B at *; omega
    · have := B.gcd (a := a) hb hb0
      unfold B at *; omega
  obtain ⟨x, e1, f1⟩ := fdiv_dvd g1 (show g ≠ 0 by omega)
  obtain ⟨y, e2, f2⟩ := fdiv_dvd g2 (show g ≠ 0 by omega)
  obtain ⟨z, e3, f3⟩ := fdiv_dvd g3 (show g ≠ 0 by omega)
  refine ⟨x, y, z, B.of_mul (f1 ▸ ha) (show g ≠ 0 by omega), B.of_mul (f2 ▸ hb) (show g ≠ 0 by omega), B.of_mul (f3 ▸ hc) (show g ≠ 0 by omega), fun w => h0 (by rw [f1, f2, w.1, w.2]; simp), ?_⟩
  have d1 := hd a b (hb.mono hk)
  have d2 := hd (Int.gcd a b : Nat) c (hc.mono hk)
  rw [hg] at d2
  have o := B.div gb (show g ≠ 0 by omega) (by omega)
  simp [d1, d2, o, e1, e2, e3]
theorem pow30 : binD .pow (.int 10) (.int 30) = some (.sh, .int 1000000000000000000000000000000) := by simp [binD_pow]
theorem ev_half_k05 (ct : Ct) (n : Nat) (ns : List Int) (k : Nat) (hd : ∀ x y, B 8000 y → ct 16 [.int x, .int y] = some (.sh, .int (Int.gcd x y : Nat))) (hc : ct 1 [.scr ns, .int k] = some (.sh, .int (ns.getD k 0)))
    (hm : ∃ v, (0 ≤ v ∧ v < 2147483587) ∧ ct 15 [.scr ns, .int k] = some (.sh, .int v)) : ∃ x y z, B 102 x ∧ B 102 y ∧ B 102 z ∧ ¬ (x = 0 ∧ y = 0) ∧ runFn f_law_half_k05 ct n [.scr ns, .int k] = some (.sh, .tup [.int x, .int y, .int z]) := by
  obtain ⟨v, hv, hm⟩ := hm
  obtain ⟨c, hcc⟩ : ∃ c, ns.getD k 0 = c := ⟨_, rfl⟩
  rw [hcc] at hc
  have bv : B 31 v := by unfold B; omega
  have m1 := B.ok bv bv (by omega)
  have bvv := bv.mul bv
  -- the three ahead of the mend
  have mid : ∀ (a b c' : Int), B 102 a → B 102 b → B 102 c' → ∃ a' b', B 102 a' ∧ B 102 b' ∧ ¬ (a' = 0 ∧ b' = 0) ∧ evS ct n (.ife (.ands (.cons (.cmp .eq (.idx (.var 3) (.int 0)) (.int 0)) (.cons (.cmp .eq (.idx (.var 3) (.int 1)) (.int 0)) .nil)))
      (.cons (.sub 3 (.bin .mod (.bin .div (.var 2) (.int 6591)) (.int 2)) (.bin .sub (.int 1) (.bin .mul (.int 2) (.bin .mod (.bin .div (.var 2) (.int 13182)) (.int 2))))) .nil) .nil) [.sh (.scr ns), .sh (.int k), .sh (.int v), .ow [.int a, .int b, .int c'], .no]
      = some (.nx [.sh (.scr ns), .sh (.int k), .sh (.int v), .ow [.int a', .int b', .int c'], .no]) := fun a b c' ha hb hc' => by
    by_cases h : a = 0 ∧ b = 0
    · obtain ⟨rfl, rfl⟩ := h
      obtain ⟨w, hw, hw2⟩ : ∃ w, v / 13182 % 2 = w ∧ (w = 0 ∨ w = 1) := ⟨_, rfl, by omega⟩
      have bw : B 102 (1 - 2 * w) := by rcases hw2 with rfl | rfl <;> (unfold B; decide)
      have b0 : B 102 0 := by unfold B; decide
      have nz : 1 - 2 * w ≠ 0 := by omega
      have mw : mulOk 2 w = true := B.ok (k := 2) (l := 2) (by unfold B; decide) (by unfold B; omega) (by omega)
      rcases (show v / 6591 % 2 = 0 ∨ v / 6591 % 2 = 1 by omega) with h1 | h1
      · exact ⟨1 - 2 * w, 0, bw, b0, by omega, by simp [fmod_of, fdiv_of, divOk_255, hw, mw, h1, ixN]⟩
      · exact ⟨0, 1 - 2 * w, b0, bw, by omega, by simp [fmod_of, fdiv_of, divOk_255, hw, mw, h1, ixN]⟩
    · refine ⟨a, b, ha, hb, h, ?_⟩
      by_cases h1 : a = 0
      · have h2 : ¬ b = 0 := fun z => h ⟨h1, z⟩
        simp [h1, h2]
      · simp [h1]
  have fin : ∀ (a b c' : Int), B 102 a → B 102 b → B 102 c' → ∃ x y z, B 102 x ∧ B 102 y ∧ B 102 z ∧ ¬ (x = 0 ∧ y = 0) ∧ evSs ct n (.cons (.ife (.ands (.cons (.cmp .eq (.idx (.var 3) (.int 0)) (.int 0)) (.cons (.cmp .eq (.idx (.var 3) (.int 1)) (.int 0)) .nil)))
      (.cons (.sub 3 (.bin .mod (.bin .div (.var 2) (.int 6591)) (.int 2)) (.bin .sub (.int 1) (.bin .mul (.int 2) (.bin .mod (.bin .div (.var 2) (.int 13182)) (.int 2))))) .nil) .nil) (.cons (.set false 4 (.call 16 (.cons (.call 16 (.cons (.idx (.var 3) (.int 0)) (.cons (.idx (.var 3) (.int 1)) .nil))) (.cons (.idx (.var 3) (.int 2)) .nil))))
      (.cons (.ret (.tup (.cons (.bin .div (.idx (.var 3) (.int 0)) (.var 4)) (.cons (.bin .div (.idx (.var 3) (.int 1)) (.var 4)) (.cons (.bin .div (.idx (.var 3) (.int 2)) (.var 4)) .nil))))) .nil))) [.sh (.scr ns), .sh (.int k), .sh (.int v), .ow [.int a, .int b, .int c'], .no] = some (.rt .sh (.tup [.int x, .int y, .int z])) := fun a b c' ha hb hc' => by
    obtain ⟨a', b', ha', hb', h0, e⟩ := mid a b c' ha hb hc'
    obtain ⟨x, y, z, h1, h2, h3, h4, e2⟩ := half_end ct n (.sh (.scr ns)) (.sh (.int k)) (.sh (.int v)) a' b' c' hd 102 ha' hb' hc' (by omega) h0
    exact ⟨x, y, z, h1, h2, h3, h4, stepS e e2⟩
  have s1 : evS ct n (.set false 2 (.call 15 (.cons (.var 0) (.cons (.var 1) .nil)))) [.sh (.scr ns), .sh (.int k), .no, .no, .no] = some (.nx [.sh (.scr ns), .sh (.int k), .sh (.int v), .no, .no]) := by simp [hm]
  have s2 : evS ct n (.set true 3 (.lst (.cons (.bin .sub (.bin .mod (.var 2) (.int 13)) (.int 6)) (.cons (.bin .sub (.bin .mod (.bin .div (.var 2) (.int 13)) (.int 13)) (.int 6)) (.cons (.bin .sub (.bin .mod (.bin .div (.var 2) (.int 169)) (.int 13)) (.int 6)) .nil))))) [.sh (.scr ns), .sh (.int k), .sh (.int v), .no, .no] = some (.nx [.sh (.scr ns), .sh (.int k), .sh (.int v), .ow [.int (v % 13 - 6), .int (v / 13 % 13 - 6), .int (v / 169 % 13 - 6)], .no]) := by
    simp [fmod_of, fdiv_of, divOk_255]
  by_cases hw : v / 2197 % 3 = 1
  · obtain ⟨q, hq, bq⟩ : ∃ q, c % 2000000000000000000000000000000 - 1000000000000000000000000000000 = q ∧ B 102 q := ⟨_, rfl, by unfold B; rw [show (2 : Nat) ^ 102 = 5070602400912917605986812821504 by decide]; omega⟩
    obtain ⟨x, y, z, h1, h2, h3, h4, e⟩ := fin q (v - 1000000000) (v * v - 100000000000000000) bq (by unfold B; rw [show (2 : Nat) ^ 102 = 5070602400912917605986812821504 by decide]; omega) ((bvv.sub (l := 60) (m := 63) (by unfold B; decide) (by omega) (by omega)).mono (by omega))
    refine ⟨x, y, z, h1, h2, h3, h4, runR rfl (stepS s1 (stepS s2 (stepS ?_ e)))⟩
    have m2 : mulOk 2 1000000000000000000000000000000 = true := B.ok (k := 2) (l := 100) (by unfold B; decide) (by unfold B; decide) (by omega)
    simp [fmod_of, fdiv_of, divOk_255, hw, hc, m1, hq, m2]
  · obtain ⟨x, y, z, h1, h2, h3, h4, e⟩ := fin (v % 13 - 6) (v / 13 % 13 - 6) (v / 169 % 13 - 6) ((show B 10 (v % 13 - 6) by unfold B; omega).mono (by omega)) ((show B 10 (v / 13 % 13 - 6) by unfold B; omega).mono (by omega)) ((show B 10 (v / 169 % 13 - 6) by unfold B; omega).mono (by omega))
    refine ⟨x, y, z, h1, h2, h3, h4, runR rfl (stepS s1 (stepS s2 (stepS ?_ e)))⟩
    simp [fmod_of, fdiv_of, divOk_255, hw]
theorem ev_spot_k05 (ct : Ct) (n : Nat) (ns : List Int) (k : Nat) (a b c : Int) (ha : B 102 a) (hb : B 102 b) (hc : B 102 c) (h0 : ¬ (a = 0 ∧ b = 0)) (hk : k ≤ 1000)
    (hl : ∀ t b k, B k t → B k b → k ≤ 8000 → b ≠ 0 → ∃ p q, B k p ∧ B k q ∧ 0 < q ∧ ct 29 [.int t, .int b] = some (.sh, .tup [.int p, .int q]))
    (hm : ∀ k : Nat, k ≤ 2000 → ∃ v, (0 ≤ v ∧ v < 2147483587) ∧ ct 15 [.scr ns, .int k] = some (.sh, .int v)) :
    ∃ p q r s, B 300 p ∧ B 300 q ∧ B 300 r ∧ B 300 s ∧ 0 < q ∧ 0 < s ∧ runFn f_law_spot_k05 ct n [.scr ns, .int k, .tup [.int a, .int b, .int c]] = some (.sh, .tup [.tup [.int p, .int q], .tup [.int r, .int s]]) := by
  obtain ⟨v, hv, m1⟩ := hm (k + 63) (by omega)
  obtain ⟨w, hw, m2⟩ := hm (k + 126) (by omega)
  have e1 : (k : Int) + 63 = ((k + 63 : Nat) : Int) := by omega
  have e2 : (k : Int) + 126 = ((k + 126 : Nat) : Int) := by omega
  obtain ⟨p, q, bp, bq, q0, l1⟩ := hl (v / 9 % 2001 - 1000) (1 + v % 9) 20 (by unfold B; omega) (by unfold B; omega) (by omega) (by omega)
  obtain ⟨r, s, br, bs, s0, l2⟩ := hl (w - 1000000000) (1 + w % 9) 40 (by unfold B; omega) (by unfold B; omega) (by omega) (by omega)
  have o1 := B.ok hc bq (by omega)
  have o2 := B.ok ha bp (by omega)
  have o3 := B.ok hb bq (by omega)
  have b1 := (hc.mul bq).sub (m := 130) (ha.mul bp) (by omega) (by omega)
  have b2 := (hb.mul bq).mono (l := 130) (by omega)
  have s1 : evSs ct n (.cons (.set false 3 (.call 15 (.cons (.var 0) (.cons (.bin .add (.var 1) (.int 63)) .nil))))
      (.cons (.set false 4 (.call 29 (.cons (.bin .sub (.bin .mod (.bin .div (.var 3) (.int 9)) (.int 2001)) (.int 1000)) (.cons (.bin .add (.int 1) (.bin .mod (.var 3) (.int 9))) .nil))))
      (.cons (.set false 3 (.call 15 (.cons (.var 0) (.cons (.bin .add (.var 1) (.int 126)) .nil))))
      (.cons (.set false 5 (.call 29 (.cons (.bin .sub (.var 3) (.bin .pow (.int 10) (.int 9))) (.cons (.bin .add (.int 1) (.bin .mod (.var 3) (.int 9))) .nil)))) .nil)))) [.sh (.scr ns), .sh (.int k), .sh (.tup [.int a, .int b, .int c]), .no, .no, .no]
      = some (.nx [.sh (.scr ns), .sh (.int k), .sh (.tup [.int a, .int b, .int c]), .sh (.int w), .sh (.tup [.int p, .int q]), .sh (.tup [.int r, .int s])]) := by
    simp only [← e1, ← e2] at m1 m2
    simp [m1, m2, fmod_of, fdiv_of, divOk_255, l1, l2]
  by_cases h1 : w / 9 % 3 = 1
  · by_cases h2 : b = 0
    · have a0 : a ≠ 0 := fun z => h0 ⟨z, h2⟩
      obtain ⟨p', q', bp', bq', q0', l3⟩ := hl c a 102 hc ha (by omega) a0
      refine ⟨p', q', r, s, bp'.mono (by omega), bq'.mono (by omega), br.mono (by omega), bs.mono (by omega), q0', s0, runR rfl ?_⟩
      simp only [← e1, ← e2] at m1 m2
      simp [f_law_spot_k05, startE, m1, m2, fmod_of, fdiv_of, divOk_255, l1, l2, h1, h2, l3]
    · have bq0 : b * q ≠ 0 := Int.mul_ne_zero h2 (by omega)
      obtain ⟨r', s', br', bs', s0', l3⟩ := hl (c * q - a * p) (b * q) 130 b1 b2 (by omega) bq0
      refine ⟨p, q, r', s', bp.mono (by omega), bq.mono (by omega), br'.mono (by omega), bs'.mono (by omega), q0, s0', runR rfl ?_⟩
      simp only [← e1, ← e2] at m1 m2
      simp [f_law_spot_k05, startE, m1, m2, fmod_of, fdiv_of, divOk_255, l1, l2, h1, h2, l3, o1, o2, o3]
  · refine ⟨p, q, r, s, bp.mono (by omega), bq.mono (by omega), br.mono (by omega), bs.mono (by omega), q0, s0, runR rfl ?_⟩
    simp only [← e1, ← e2] at m1 m2
    simp [f_law_spot_k05, startE, m1, m2, fmod_of, fdiv_of, divOk_255, l1, l2, h1]
/-- 1, 0, -1 -/
def sg (x y : Int) : Int := (if y < x then 1 else 0) - (if x < y then 1 else 0)
theorem ev_side (ct : Ct) (n : Nat) (a b c p q r s : Int) (k : Nat) (ha : B k a) (hb : B k b) (hc : B k c) (hp : B k p) (hq : B k q) (hr : B k r) (hs : B k s) (hk : k ≤ 1000000) :
    runFn f_side ct n [.tup [.int a, .int b, .int c], .tup [.tup [.int p, .int q], .tup [.int r, .int s]]] = some (.sh, .int (sg (a * p * s + b * r * q) (c * q * s))) := by
  have o1 := B.ok ha hp (by omega)
  have o2 := B.ok (ha.mul hp) hs (by omega)
  have o3 := B.ok hb hr (by omega)
  have o4 := B.ok (hb.mul hr) hq (by omega)
  have o5 := B.ok hc hq (by omega)
  have o6 := B.ok (hc.mul hq) hs (by omega)
  refine runR rfl ?_
  simp [f_side, startE, o1, o2, o3, o4, o5, o6, sg]
theorem ev_other_side (ct : Ct) (n : Nat) (a b c : Int) : runFn f_other_side ct n [.tup [.int a, .int b, .int c]] = some (.sh, .tup [.int (-a), .int (-b), .int (-c)]) := by
  refine runR rfl ?_
  simp [f_other_side, startE]
theorem ev_right_k05 (ct : Ct) (n : Nat) (a b c p q r s : Int) (k : Nat) (ha : B k a) (hb : B k b) (hc : B k c) (hp : B k p) (hq : B k q) (hr : B k r) (hs : B k s) (hk : k ≤ 1000000)
    (hw : ∀ i, ct 2 [.int i] = some (.sh, .bl true)) (ho : ∀ a b c, ct 22 [.tup [.int a, .int b, .int c]] = some (.sh, .tup [.int (-a), .int (-b), .int (-c)]))
    (hside : ∀ a b c, B k a → B k b → B k c → ct 28 [.tup [.int a, .int b, .int c], .tup [.tup [.int p, .int q], .tup [.int r, .int s]]] = some (.sh, .int (sg (a * p * s + b * r * q) (c * q * s)))) :
    runFn f_law_right_k05 ct n [.tup [.int a, .int b, .int c], .tup [.tup [.int p, .int q], .tup [.int r, .int s]]] = some (.sh, .bl true) := by
  have o1 := B.ok ha hp (by omega)
  have o2 := B.ok (ha.mul hp) hs (by omega)
  have o3 := B.ok hb hr (by omega)
  have o4 := B.ok (hb.mul hr) hq (by omega)
  have o5 := B.ok hc hq (by omega)
  have o6 := B.ok (hc.mul hq) hs (by omega)
  have s1 := hside a b c ha hb hc
  have s2 := hside (-a) (-b) (-c) ha.neg hb.neg hc.neg
  have e2 : -a * p * s + -b * r * q = -(a * p * s + b * r * q) := by simp only [Int.neg_mul]; omega
  have e3 : -c * q * s = -(c * q * s) := by simp only [Int.neg_mul]
  rw [e2, e3] at s2
  obtain ⟨h, hh⟩ : ∃ h, a * p * s + b * r * q = h := ⟨_, rfl⟩
  obtain ⟨d, hd⟩ : ∃ d, c * q * s = d := ⟨_, rfl⟩
  rw [hh, hd] at s1 s2
  have f1 : sg (-h) (-d) = -(sg h d) := by
    unfold sg
    split <;> split <;> split <;> split <;> omega
  rw [f1] at s2
  have f2 : (if 0 < h - d then (1 : Int) else 0) - (if h - d < 0 then 1 else 0) = sg h d := by
    unfold sg
    split <;> split <;> split <;> split <;> omega
  have loop : evS ct n f_law_right_k05_L0 [.sh (.tup [.int a, .int b, .int c]), .sh (.tup [.tup [.int p, .int q], .tup [.int r, .int s]]), .sh (.tup [.int p, .int q]), .sh (.tup [.int r, .int s]), .sh (.int (h - d)), .sh (.int (sg h d)), .sh (.int (sg h d)), .sh (.tup [.int (-a), .int (-b), .int (-c)]), .no]
      = some (.nx [.sh (.tup [.int a, .int b, .int c]), .sh (.tup [.tup [.int p, .int q], .tup [.int r, .int s]]), .sh (.tup [.int p, .int q]), .sh (.tup [.int r, .int s]), .sh (.int (h - d)), .sh (.int (sg h d)), .sh (.int (sg h d)), .sh (.tup [.int (-a), .int (-b), .int (-c)]), .sh (.int 2)]) := by
    rw [f_law_right_k05_L0, evS_fr]
    have r3 : rngL 0 3 = [.int 0, .int 1, .int 2] := rfl
    simp [rngOk_small, r3, forF, f_law_right_k05_B0, hw]
  refine runR rfl (stepS (g' := [.sh (.tup [.int a, .int b, .int c]), .sh (.tup [.tup [.int p, .int q], .tup [.int r, .int s]]), .sh (.tup [.int p, .int q]), .sh (.tup [.int r, .int s]), .no, .no, .no, .no, .no]) (by simp [startE, f_law_right_k05])
    (stepS (g' := [.sh (.tup [.int a, .int b, .int c]), .sh (.tup [.tup [.int p, .int q], .tup [.int r, .int s]]), .sh (.tup [.int p, .int q]), .sh (.tup [.int r, .int s]), .sh (.int h), .no, .no, .no, .no]) (by simp [o1, o2, o3, o4, hh])
    (stepS (g' := [.sh (.tup [.int a, .int b, .int c]), .sh (.tup [.tup [.int p, .int q], .tup [.int r, .int s]]), .sh (.tup [.int p, .int q]), .sh (.tup [.int r, .int s]), .sh (.int (h - d)), .no, .no, .no, .no]) (by simp [o5, o6, hd])
    (stepS (g' := [.sh (.tup [.int a, .int b, .int c]), .sh (.tup [.tup [.int p, .int q], .tup [.int r, .int s]]), .sh (.tup [.int p, .int q]), .sh (.tup [.int r, .int s]), .sh (.int (h - d)), .sh (.int (sg h d)), .no, .no, .no]) ?_
    (stepS (g' := [.sh (.tup [.int a, .int b, .int c]), .sh (.tup [.tup [.int p, .int q], .tup [.int r, .int s]]), .sh (.tup [.int p, .int q]), .sh (.tup [.int r, .int s]), .sh (.int (h - d)), .sh (.int (sg h d)), .sh (.int (sg h d)), .no, .no]) (by simp [s1])
    (stepS (g' := [.sh (.tup [.int a, .int b, .int c]), .sh (.tup [.tup [.int p, .int q], .tup [.int r, .int s]]), .sh (.tup [.int p, .int q]), .sh (.tup [.int r, .int s]), .sh (.int (h - d)), .sh (.int (sg h d)), .sh (.int (sg h d)), .sh (.tup [.int (-a), .int (-b), .int (-c)]), .no]) (by simp [ho])
    (stepS (g' := [.sh (.tup [.int a, .int b, .int c]), .sh (.tup [.tup [.int p, .int q], .tup [.int r, .int s]]), .sh (.tup [.int p, .int q]), .sh (.tup [.int r, .int s]), .sh (.int (h - d)), .sh (.int (sg h d)), .sh (.int (sg h d)), .sh (.tup [.int (-a), .int (-b), .int (-c)]), .no]) (by simp [hw])
    (stepS loop ?_))))))))
  · rw [← f2]
    simp only [evS_set, evE_bin, evE_b1, evE_cmp, evE_var, evE_int]
    simp [-Int.sub_pos, -Int.sub_neg]
  · simp [s2, ho]
/-- what the defs of law k05 answer -/
structure C05 (ct : Ct) (ns : List Int) : Prop where
  half : ∀ k : Nat, k ≤ 1000 → ∃ x y z, B 102 x ∧ B 102 y ∧ B 102 z ∧ ¬ (x = 0 ∧ y = 0) ∧ ct 30 [.scr ns, .int k] = some (.sh, .tup [.int x, .int y, .int z])
  spot : ∀ (k : Nat) a b c, k ≤ 1000 → B 102 a → B 102 b → B 102 c → ¬ (a = 0 ∧ b = 0) → ∃ p q r s, B 300 p ∧ B 300 q ∧ B 300 r ∧ B 300 s ∧ 0 < q ∧ 0 < s ∧ ct 31 [.scr ns, .int k, .tup [.int a, .int b, .int c]] = some (.sh, .tup [.tup [.int p, .int q], .tup [.int r, .int s]])
  right : ∀ a b c p q r s, B 300 a → B 300 b → B 300 c → B 300 p → B 300 q → B 300 r → B 300 s → ct 32 [.tup [.int a, .int b, .int c], .tup [.tup [.int p, .int q], .tup [.int r, .int s]]] = some (.sh, .bl true)
theorem k05_loop {ct : Ct} {ns : List Int} (C : C05 ct ns) (n : Nat) : ∀ (m lo : Nat) (j1 j2 : Sl), lo + m ≤ 100 → ∃ x y, forF (asg (.one 1)) (fun g => evSs ct n f_law_k05_B0 g) (rngL lo m) [.sh (.scr ns), j1, j2] = some (.nx [.sh (.scr ns), x, y])
  | 0, lo, j1, j2, _ => ⟨_, _, rfl⟩
  | m + 1, lo, j1, j2, h => by
    obtain ⟨a, b, c, ha, hb, hc, h0, e1⟩ := C.half lo (by omega)
    obtain ⟨p, q, r, s, hp, hq, hr, hs, _, _, e2⟩ := C.spot lo a b c (by omega) ha hb hc h0
    have e3 := C.right a b c p q r s (ha.mono (by omega)) (hb.mono (by omega)) (hc.mono (by omega)) hp hq hr hs
    obtain ⟨x, y, ih⟩ := k05_loop C n m (lo + 1) (.sh (.int lo)) (.sh (.tup [.int a, .int b, .int c])) (by omega)
    refine ⟨x, y, ?_⟩
    rw [rngL_succ, forF_nx (g1 := [.sh (.scr ns), .sh (.int lo), j2]) (g2 := [.sh (.scr ns), .sh (.int lo), .sh (.tup [.int a, .int b, .int c])]) (by simp) (by simp [f_law_k05_B0, e1, e2, e3])]
    exact ih
/-- range(max(1, min(63, len(script)))) -/
theorem rng63 (ct : Ct) (g : Env') (ns : List Int) (i : Nat) (h : g[i]? = some (.sh (.scr ns))) (hl : ns.length ≤ 63) : ∃ m, 1 ≤ m ∧ m ≤ 63 ∧ (m = ns.length ∨ ns.length = 0) ∧ evI ct g (.rng (.b2 .max (.int 1) (.b2 .min (.int 63) (.b1 .len (.var i))))) = some (.sh, rngL 0 m) := by
  by_cases h0 : ns.length = 0
  · refine ⟨1, by omega, by omega, .inr h0, ?_⟩
    have h1 : rngOk (1 : Int) = true := rngOk_small _ (by decide)
    simp [h, h0, h1]
  · refine ⟨ns.length, by omega, hl, .inl rfl, ?_⟩
    have h1 : rngOk (ns.length : Int) = true := rngOk_small _ (by omega)
    have h2 : (if (ns.length : Int) < 63 then (ns.length : Int) else 63) = (ns.length : Int) := by split <;> omega
    by_cases h3 : 1 < (ns.length : Int)
    · have h4 : 1 < ns.length := by omega
      simp [h, h2, h3, h4, h1]
    · have h4 : ns.length = 1 := by omega
      have h1 : rngOk (1 : Int) = true := rngOk_small _ (by decide)
      simp [h, h4, h1]
theorem ev_k05 {ct : Ct} {ns : List Int} (C : C05 ct ns) (n : Nat) (hl : ns.length ≤ 63) : runFn f_law_k05 ct n [.scr ns] = some (.sh, .bl true) := by
  obtain ⟨m, h1, h2, _, e⟩ := rng63 ct [.sh (.scr ns), .no, .no] ns 0 rfl hl
  obtain ⟨x, y, h⟩ := k05_loop C n m 0 .no .no (by omega)
  refine runR rfl (stepS (g' := [.sh (.scr ns), x, y]) ?_ (by simp))
  show evS ct n f_law_k05_L0 [.sh (.scr ns), .no, .no] = _
  rw [f_law_k05_L0, evS_fr, e]
  exact h
end Ev
namespace Ev
open PySem L2
/-! ### comprehensions -/
theorem compF_fm {α : Type} (f : α → D) (p : α → Bool) (x : α → D) {a : D → Env' → Option Env'} {c : Env' → Option Bool} {e : Env' → Rs} {g : Env'} : ∀ (xs : List α) (acc : List D),
    (∀ t ∈ xs, ∃ g1, a (f t) g = some g1 ∧ c g1 = some (p t) ∧ (p t = true → ∃ r, e g1 = some r ∧ storable r = some (x t))) → acc.length + xs.length ≤ 1000000 →
    compF a c e g (xs.map f) acc = some (acc ++ (xs.filter p).map x)
  | [], acc, _, _ => by simp [compF]
  | t :: xs, acc, h, hl => by
    obtain ⟨g1, h1, h2, h3⟩ := h t (by simp)
    have hl' : acc.length + (xs.length + 1) ≤ 1000000 := by simpa using hl
    simp only [List.map_cons, compF, h1, Option.bind_eq_bind, Option.bind_some, h2]
    cases hp : p t with
    | true =>
      obtain ⟨r, h4, h5⟩ := h3 hp
      rw [if_pos rfl, h4]
      simp only [Option.bind_some, h5, lenOk_small (show acc.length ≤ 1000000 by omega), if_true]
      rw [compF_fm f p x xs (acc ++ [x t]) (fun u hu => h u (by simp [hu])) (by simp; omega), List.filter_cons_of_pos hp]
      simp
    | false =>
      rw [if_neg (by decide), compF_fm f p x xs acc (fun u hu => h u (by simp [hu])) (by omega), List.filter_cons_of_neg (by rw [hp]; decide)]
theorem compF_map {α : Type} (f : α → D) (x : α → D) {a : D → Env' → Option Env'} {c : Env' → Option Bool} {e : Env' → Rs} {g : Env'} (xs : List α)
    (h : ∀ t ∈ xs, ∃ g1, a (f t) g = some g1 ∧ c g1 = some true ∧ ∃ r, e g1 = some r ∧ storable r = some (x t)) (hl : xs.length ≤ 1000000) :
    compF a c e g (xs.map f) [] = some (xs.map x) := by
  rw [compF_fm f (fun _ => true) x xs [] (fun t ht => by
    obtain ⟨g1, h1, h2, h3⟩ := h t ht
    exact ⟨g1, h1, h2, fun _ => h3⟩) (by simpa using hl)]
  rw [List.filter_eq_self.mpr (fun _ _ => rfl)]; rfl
theorem compF_ex {β : Type} (f : β → D) (P : β → Prop) {a : D → Env' → Option Env'} {c : Env' → Option Bool} {e : Env' → Rs} {g : Env'} : ∀ (ds : List D) (acc : List D),
    (∀ d ∈ ds, ∃ g1 y, a d g = some g1 ∧ c g1 = some true ∧ P y ∧ ∃ r, e g1 = some r ∧ storable r = some (f y)) → acc.length + ds.length ≤ 1000000 →
    ∃ ys : List β, ys.length = ds.length ∧ (∀ y ∈ ys, P y) ∧ compF a c e g ds acc = some (acc ++ ys.map f)
  | [], acc, _, _ => ⟨[], rfl, (fun y h => by cases h), (by rw [List.map_nil, List.append_nil]; rfl)⟩
  | d :: ds, acc, h, hl => by
    obtain ⟨g1, y, h1, h2, h3, r, h4, h5⟩ := h d (by simp)
    have hl' : acc.length + (ds.length + 1) ≤ 1000000 := by simpa using hl
    obtain ⟨ys, k1, k2, k3⟩ := compF_ex f P ds (acc ++ [f y]) (fun u hu => h u (by simp [hu])) (by simp; omega)
    refine ⟨y :: ys, by simp [k1], fun z hz => ?_, ?_⟩
    · rcases List.mem_cons.mp hz with rfl | hz
      · exact h3
      · exact k2 z hz
    · simp only [compF, h1, Option.bind_eq_bind, Option.bind_some, h2, if_true, h4, h5, lenOk_small (show acc.length ≤ 1000000 by omega)]
      rw [k3]; simp
theorem evE_comp_of {ct : Ct} {g g0 : Env'} {e : Ex} {tg : Tg} {it : Itx} {es : Exs} {m : M} {ds out : List D} (hi : evI ct g it = some (m, ds)) (hg : wipeE g (tgSlots tg) = g0)
    (hc : compF (asg tg) (fun g1 => evC ct g1 es) (fun g1 => evE ct g1 e) g0 ds [] = some out) : evE ct g (.comp e tg it es) = some (.fr, .lst out) := by
  rw [evE_comp, hi, Option.bind_some, hg, hc]; rfl
theorem forF_app {a : D → Env' → Option Env'} {b : Env' → Option Out} {es : List D} {g' : Env'} : ∀ {ds : List D} {g : Env'}, forF a b ds g = some (.nx g') → forF a b (ds ++ es) g = forF a b es g'
  | [], g, h => by cases h; rfl
  | d :: ds, g, h => by
    simp only [forF, Option.bind_eq_bind, Option.bind_eq_some_iff] at h
    obtain ⟨g1, h1, o, h2, h3⟩ := h
    cases o with
    | nx g2 =>
      rw [List.cons_append, forF_nx h1 h2]
      exact forF_app h3
    | rt m d => cases h3
    | ex c g2 => cases h3
def catS : Sms → Sms → Sms
  | .nil, t => t
  | .cons s ss, t => .cons s (catS ss t)
theorem evSs_app {ct : Ct} {n : Nat} {g' : Env'} {t : Sms} {o : Option Out} : ∀ {s : Sms} {g : Env'}, evSs ct n s g = some (.nx g') → evSs ct n t g' = o → evSs ct n (catS s t) g = o
  | .nil, g, h, k => by
    rw [evSs_nil] at h
    cases h; exact k
  | .cons s ss, g, h, k => by
    rw [evSs_cons, Option.bind_eq_some_iff] at h
    obtain ⟨o1, h1, h2⟩ := h
    rw [catS, evSs_cons, h1, Option.bind_some]
    cases o1 with
    | nx g1 => exact evSs_app h2 k
    | rt m d => cases h2
    | ex c g1 => cases h2
/-- a loop that goes through, by an invariant over the lists of slots -/
theorem forF_all {a : D → Env' → Option Env'} {b : Env' → Option Out} (P : Env' → Prop) : ∀ (ds : List D) (g : Env'), P g →
    (∀ d ∈ ds, ∀ g, P g → ∃ g1 g2, a d g = some g1 ∧ b g1 = some (.nx g2) ∧ P g2) → ∃ g', forF a b ds g = some (.nx g') ∧ P g'
  | [], g, h, _ => ⟨g, rfl, h⟩
  | d :: ds, g, h, k => by
    obtain ⟨g1, g2, h1, h2, h3⟩ := k d (by simp) g h
    rw [forF_nx h1 h2]
    exact forF_all P ds g2 h3 fun u hu => k u (by simp [hu])
@[simp] theorem evE_cnt (ct : Ct) (g : Env') (a b : Ex) : evE ct g (.cnt a b) = (evE ct g a).bind fun x => (evE ct g b).bind fun y => (asL x.2).bind fun ds => if shD (.lst ds) && shD y.2 then some (.sh, .int ((ds.filter fun z => eqvD z y.2).length : Nat)) else none := by simp only [evE]; rfl
@[simp] theorem asg_lst (is : List Nat) (ds : List D) (g : Env') : asg (.many is) (.lst ds) g = asgAll is ds g := rfl
/-! ### points -/
abbrev Pt := Int × Int
def pD (p : Pt) : D := .tup [.int p.1, .int p.2]
def BP (k : Nat) (p : Pt) : Prop := B k p.1 ∧ B k p.2
theorem noBs_pts : ∀ ps : List Pt, noBs (ps.map pD) = true
  | [] => rfl
  | p :: ps => by rw [List.map_cons, noBs, noBs_pts ps]; rfl
theorem deps_pts : ∀ (ps : List Pt) (k : Nat), deps (k + 1) (ps.map pD) = true
  | [], k => rfl
  | p :: ps, k => by rw [List.map_cons, deps, deps_pts ps k]; cases k <;> rfl
theorem noB_pts (ps : List Pt) : noB (.lst (ps.map pD)) = true := by rw [noB]; exact noBs_pts ps
theorem dep_pts (ps : List Pt) : dep 60 (.lst (ps.map pD)) = true := by rw [dep]; exact deps_pts ps 58
@[simp] theorem ne_pts_self (ps : List Pt) : cmpD .ne (.lst (ps.map pD)) (.lst (ps.map pD)) = some false := by
  rw [cmpD_neD _ _ (noB_pts ps) (noB_pts ps) (dep_pts ps) (dep_pts ps)]; simp
theorem noBs_ints : ∀ ps : List Int, noBs (ps.map D.int) = true
  | [] => rfl
  | p :: ps => by rw [List.map_cons, noBs, noBs_ints ps]; rfl
theorem deps_ints : ∀ (ps : List Int) (k : Nat), deps k (ps.map D.int) = true
  | [], k => by cases k <;> rfl
  | p :: ps, k => by rw [List.map_cons, deps, deps_ints ps k]; cases k <;> rfl
theorem shD_ints (ns : List Int) : shD (.lst (ns.map D.int)) = true := shD_of _ (by rw [noB]; exact noBs_ints ns) (by rw [dep]; exact deps_ints ns _)
theorem eqvD_int (i j : Int) : eqvD (.int i) (.int j) = decide (i = j) := by
  show (i == j) = _
  rw [Bool.beq_eq_decide_eq]
theorem cnt_ints (k : Int) : ∀ ns : List Int, ((ns.map D.int).filter fun z => eqvD z (.int k)).length = ns.countP fun i => decide (i = k)
  | [] => rfl
  | n :: ns => by
    rw [List.map_cons, List.filter_cons, List.countP_cons, eqvD_int, ← cnt_ints k ns]
    by_cases h : n = k <;> simp [h]
/-- how many points the half holds -/
def cntH (a b c : Int) (ps : List Pt) : Nat := ps.countP fun p => decide (c ≤ a * p.1 + b * p.2)
theorem cntH_le (a b c : Int) (ps : List Pt) : cntH a b c ps ≤ ps.length := List.countP_le_length
theorem ev_many_in (ct : Ct) (n : Nat) (a b c : Int) (ps : List Pt) (k l : Nat) (ha : B k a) (hb : B k b) (hp : ∀ p ∈ ps, BP l p) (hk : k + l ≤ 134000000) (hl : ps.length ≤ 1000000) :
    runFn f_many_in ct n [.tup [.int a, .int b, .int c], .lst (ps.map pD)] = some (.sh, .int (cntH a b c ps : Nat)) := by
  have hc : compF (asg (.many [2, 3])) (fun g1 => evC ct g1 (.cons (.cmp .ge (.bin .add (.bin .mul (.idx (.var 0) (.int 0)) (.var 2)) (.bin .mul (.idx (.var 0) (.int 1)) (.var 3))) (.idx (.var 0) (.int 2))) .nil)) (fun g1 => evE ct g1 (.var 2))
      [.sh (.tup [.int a, .int b, .int c]), .sh (.lst (ps.map pD)), .no, .no] (ps.map pD) [] = some ([] ++ (ps.filter fun p => decide (c ≤ a * p.1 + b * p.2)).map fun p => D.int p.1) := by
    refine compF_fm pD _ _ ps [] (fun p hpm => ?_) (by simpa using hl)
    obtain ⟨x, y⟩ := p
    obtain ⟨b1, b2⟩ := hp _ hpm
    have o1 := B.ok ha b1 (by omega)
    have o2 := B.ok hb b2 (by omega)
    exact ⟨[.sh (.tup [.int a, .int b, .int c]), .sh (.lst (ps.map pD)), .sh (.int x), .sh (.int y)], by simp [pD], by simp at o1 o2; simp [o1, o2], fun _ => ⟨_, by simp; rfl, rfl⟩⟩
  have hv : evE ct [.sh (.tup [.int a, .int b, .int c]), .sh (.lst (ps.map pD)), .no, .no] f_many_in_C0 = some (.fr, .lst ([] ++ (ps.filter fun p => decide (c ≤ a * p.1 + b * p.2)).map fun p => D.int p.1)) :=
    evE_comp_of (m := .sh) (ds := ps.map pD) (by simp [itM]) rfl hc
  refine runR rfl ?_
  simp [f_many_in, startE, hv, cntH, List.countP_eq_length_filter]
theorem countP_map' {α β : Type} (f : α → β) (p : β → Bool) (l : List α) : (l.map f).countP p = l.countP fun x => p (f x) := by rw [List.countP_map]; rfl
theorem cntH_both (a b c : Int) : ∀ ps : List Pt, cntH a b c ps + cntH (-a) (-b) (-c) ps = ps.length + ps.countP fun p => decide (a * p.1 + b * p.2 = c)
  | [] => rfl
  | p :: ps => by
    have ih := cntH_both a b c ps
    unfold cntH at *
    rw [List.countP_cons, List.countP_cons, List.countP_cons, List.length_cons]
    simp only [Int.neg_mul, decide_eq_true_eq] at *
    split <;> split <;> split <;> omega
/-- a point of the law -/
theorem ev_point (ct : Ct) (n : Nat) (ns : List Int) (k : Nat) (hc : ∀ j : Nat, ct 1 [.scr ns, .int j] = some (.sh, .int (ns.getD j 0))) (hm : ∃ v, (0 ≤ v ∧ v < 2147483587) ∧ ct 15 [.scr ns, .int k] = some (.sh, .int v)) :
    ∃ p, BP 102 p ∧ runFn f_law_point ct n [.scr ns, .int k] = some (.sh, pD p) := by
  obtain ⟨v, hv, hm⟩ := hm
  have h1 := hc 1
  have hk := hc k
  obtain ⟨w, hw⟩ : ∃ w, ns.getD 1 0 = w := ⟨_, rfl⟩
  obtain ⟨c, hcc⟩ : ∃ c, ns.getD k 0 = c := ⟨_, rfl⟩
  rw [hw] at h1
  rw [hcc] at hk
  have h1 : ct 1 [.scr ns, .int 1] = some (.sh, .int w) := h1
  have m2 : mulOk 2 1000000000000000000000000000000 = true := B.ok (k := 2) (l := 100) (by unfold B; decide) (by unfold B; decide) (by omega)
  have pw : (2 : Nat) ^ 102 = 5070602400912917605986812821504 := by decide
  by_cases c1 : w % 4 = 1
  · refine ⟨(c % 2000000000000000000000000000000 - 1000000000000000000000000000000, v - 1000000000), ⟨by unfold B; rw [pw]; simp only; omega, by unfold B; rw [pw]; simp only; omega⟩, runR rfl ?_⟩
    simp [f_law_point, startE, hm, h1, hk, c1, fmod_of, fdiv_of, divOk_255, m2, pD]
  · by_cases c2 : w % 4 = 2
    · refine ⟨(v % 2001 - 1000, v / 2001 % 2001 - 1000), ⟨by unfold B; rw [pw]; simp only; omega, by unfold B; rw [pw]; simp only; omega⟩, runR rfl ?_⟩
      simp [f_law_point, startE, hm, h1, hk, c1, c2, fmod_of, fdiv_of, divOk_255, m2, pD]
    · refine ⟨(v % 7 - 3, v / 7 % 7 - 3), ⟨by unfold B; rw [pw]; simp only; omega, by unfold B; rw [pw]; simp only; omega⟩, runR rfl ?_⟩
      simp [f_law_point, startE, hm, h1, hk, c1, c2, fmod_of, fdiv_of, divOk_255, m2, pD]
/-! ### three numbers and their divisor -/
structure Gd (k : Nat) (a b c g x y z : Int) : Prop where
  e : ((Int.gcd (Int.gcd a b : Nat) c : Nat) : Int) = g
  pos : 0 < g
  bg : B k g
  fa : a = g * x
  fb : b = g * y
  fc : c = g * z
  da : a.fdiv g = x
  db : b.fdiv g = y
  dc : c.fdiv g = z
  bx : B k x
  by_ : B k y
  bz : B k z
  one : Int.gcd (Int.gcd x y : Nat) z = 1
theorem gcd3_mul (g : Nat) (x y z : Int) : Int.gcd (Int.gcd ((g : Int) * x) ((g : Int) * y) : Nat) ((g : Int) * z) = g * Int.gcd (Int.gcd x y : Nat) z := by
  rw [Int.gcd_mul_left, Int.natAbs_natCast, Int.natCast_mul, Int.gcd_mul_left, Int.natAbs_natCast]
theorem gd_of (k : Nat) (a b c : Int) (ha : B k a) (hb : B k b) (hc : B k c) (h0 : ¬ (a = 0 ∧ b = 0)) : ∃ g x y z, Gd k a b c g x y z := by
  obtain ⟨g, hg⟩ : ∃ g : Int, ((Int.gcd (Int.gcd a b : Nat) c : Nat) : Int) = g := ⟨_, rfl⟩
  have gg : g ∣ (Int.gcd a b : Nat) := hg ▸ Int.gcd_dvd_left ..
  have g1 : g ∣ a := Int.dvd_trans gg (Int.gcd_dvd_left ..)
  have g2 : g ∣ b := Int.dvd_trans gg (Int.gcd_dvd_right ..)
  have g3 : g ∣ c := hg ▸ Int.gcd_dvd_right ..
  have g0 : 0 < g := by
    have : Int.gcd (Int.gcd a b : Nat) c ≠ 0 := fun z => by
      have h1 := (Int.gcd_eq_zero_iff.mp z).1
      have h2 : Int.gcd a b = 0 := by omega
      exact h0 (Int.gcd_eq_zero_iff.mp h2)
    omega
  have gb : B k g := by
    have h2 : Int.gcd a b ≠ 0 := fun z => h0 (Int.gcd_eq_zero_iff.mp z)
    have h3 : g.natAbs ≤ Int.gcd a b := by
      have := Int.le_of_dvd (by omega) gg
      omega
    by_cases hb0 : b = 0
    · have : Int.gcd a b = a.natAbs := by rw [hb0]; simp
      unfold B at *; omega
    · have := B.gcd (a := a) hb hb0
      unfold B at *; omega
  obtain ⟨x, e1, f1⟩ := fdiv_dvd g1 (show g ≠ 0 by omega)
  obtain ⟨y, e2, f2⟩ := fdiv_dvd g2 (show g ≠ 0 by omega)
  obtain ⟨z, e3, f3⟩ := fdiv_dvd g3 (show g ≠ 0 by omega)
  refine ⟨g, x, y, z, hg, g0, gb, f1, f2, f3, e1, e2, e3, B.of_mul (f1 ▸ ha) (show g ≠ 0 by omega), B.of_mul (f2 ▸ hb) (show g ≠ 0 by omega), B.of_mul (f3 ▸ hc) (show g ≠ 0 by omega), ?_⟩
  obtain ⟨m, rfl⟩ : ∃ m : Nat, g = (m : Int) := ⟨g.toNat, by omega⟩
  rw [f1, f2, f3, gcd3_mul] at hg
  have hg' : m * Int.gcd (Int.gcd x y : Nat) z = m * 1 := by omega
  exact Nat.eq_of_mul_eq_mul_left (by omega) hg'
/-- three numbers -/
abbrev Tr := Int × Int × Int
def tD (t : Tr) : D := .tup [.int t.1, .int t.2.1, .int t.2.2]
def BT (k : Nat) (t : Tr) : Prop := B k t.1 ∧ B k t.2.1 ∧ B k t.2.2
end Ev
namespace Ev
open PySem L2
/-! ### fractions -/
/-- p / q is t / b in lowest terms -/
structure Fr (t b p q : Int) : Prop where
  pos : 0 < q
  one : Int.gcd p q = 1
  eq : t * q = p * b
theorem dvd_of_gcd {q p r : Int} (h : q ∣ p * r) (g : Int.gcd q p = 1) : q ∣ r := by
  have h1 : q.natAbs ∣ p.natAbs * r.natAbs := by rw [← Int.natAbs_mul]; exact Int.natAbs_dvd_natAbs.mpr h
  have g1 : Nat.Coprime q.natAbs p.natAbs := g
  exact Int.natAbs_dvd_natAbs.mp (g1.dvd_of_dvd_mul_left h1)
theorem fr_unique {p q p' q' : Int} (h0 : 0 < q) (h0' : 0 < q') (g : Int.gcd p q = 1) (g' : Int.gcd p' q' = 1) (e : p * q' = p' * q) : p = p' ∧ q = q' := by
  have d1 : q ∣ q' := by
    have : q ∣ p * q' := ⟨p', by rw [e, Int.mul_comm]⟩
    exact dvd_of_gcd this (by rw [Int.gcd_comm]; exact g)
  have d2 : q' ∣ q := by
    have : q' ∣ p' * q := ⟨p, by rw [← e, Int.mul_comm]⟩
    exact dvd_of_gcd this (by rw [Int.gcd_comm]; exact g')
  have l1 := Int.le_of_dvd h0' d1
  have l2 := Int.le_of_dvd h0 d2
  have eq : q = q' := by omega
  subst eq
  exact ⟨Int.eq_of_mul_eq_mul_right (by omega) e, rfl⟩
theorem Fr.unique {t b p q p' q' : Int} (hb : b ≠ 0) (a : Fr t b p q) (a' : Fr t b p' q') : p = p' ∧ q = q' := by
  refine fr_unique a.pos a'.pos a.one a'.one ?_
  have h1 := a.eq
  have h2 := a'.eq
  have : b * (p * q') = b * (p' * q) := by
    calc b * (p * q') = (p * b) * q' := by rw [Int.mul_comm p b, Int.mul_assoc]
      _ = (t * q) * q' := by rw [h1]
      _ = (t * q') * q := by rw [Int.mul_assoc, Int.mul_comm q q', ← Int.mul_assoc]
      _ = (p' * b) * q := by rw [h2]
      _ = b * (p' * q) := by rw [Int.mul_comm p' b, Int.mul_assoc]
  exact Int.eq_of_mul_eq_mul_left hb this
theorem ev_ratio (ct : Ct) (n : Nat) (t b : Int) (k : Nat) (hd : ct 0 [.int t, .int b] = some (.sh, .int (Int.gcd t b : Nat))) (ht : B k t) (hb : B k b) (hk : k ≤ 8900) (h0 : b ≠ 0) :
    ∃ p q, Fr t b p q ∧ B k p ∧ B k q ∧ runFn f_ratio ct n [.int t, .int b] = some (.sh, .tup [.int p, .int q]) := by
  obtain ⟨g, hg⟩ : ∃ g : Int, ((Int.gcd t b : Nat) : Int) = g := ⟨_, rfl⟩
  have g1 : g ∣ t := hg ▸ Int.gcd_dvd_left ..
  have g2 : g ∣ b := hg ▸ Int.gcd_dvd_right ..
  have g0 : 0 < g := by
    have : Int.gcd t b ≠ 0 := fun z => h0 (Int.gcd_eq_zero_iff.mp z).2
    omega
  have gb : B k g := hg ▸ B.gcd hb h0
  rw [hg] at hd
  -- the parts
  have part : ∀ d : Int, d ≠ 0 → (d = g ∨ d = -g) → ∀ p q, t = d * p → b = d * q → Int.gcd p q = 1 := fun d d0 hdg p q f1 f2 => by
    rw [f1, f2, Int.gcd_mul_left] at hg
    have e : d.natAbs = g.natAbs := by rcases hdg with rfl | rfl <;> simp
    rw [e] at hg
    have e2 : (g.natAbs : Int) = g := by omega
    rw [Int.natCast_mul, e2] at hg
    have hg' : g * (Int.gcd p q : Nat) = g * 1 := by rw [hg, Int.mul_one]
    have := Int.eq_of_mul_eq_mul_left (show g ≠ 0 by omega) hg'
    omega
  by_cases hn : b < 0
  · obtain ⟨p, e1, f1⟩ := fdiv_dvd (Int.neg_dvd.mpr g1) (show -g ≠ 0 by omega)
    obtain ⟨q, e2, f2⟩ := fdiv_dvd (Int.neg_dvd.mpr g2) (show -g ≠ 0 by omega)
    refine ⟨p, q, ⟨?_, part _ (by omega) (.inr rfl) p q f1 f2, ?_⟩, B.of_mul (f1 ▸ ht) (show -g ≠ 0 by omega), B.of_mul (f2 ▸ hb) (show -g ≠ 0 by omega), ?_⟩
    · rw [f2] at hn
      rw [Int.neg_mul] at hn
      exact Int.pos_of_mul_pos_right (show 0 < g * q by omega) g0
    · rw [f1, f2, Int.mul_assoc, Int.mul_left_comm]
    · have o := B.div gb.neg (show -g ≠ 0 by omega) (by omega)
      refine runR rfl ?_
      simp [f_ratio, startE, hd, hn, o, e1, e2, h0]
  · obtain ⟨p, e1, f1⟩ := fdiv_dvd g1 (show g ≠ 0 by omega)
    obtain ⟨q, e2, f2⟩ := fdiv_dvd g2 (show g ≠ 0 by omega)
    refine ⟨p, q, ⟨?_, part _ (by omega) (.inl rfl) p q f1 f2, ?_⟩, B.of_mul (f1 ▸ ht) (show g ≠ 0 by omega), B.of_mul (f2 ▸ hb) (show g ≠ 0 by omega), ?_⟩
    · have : 0 < b := by omega
      rw [f2] at this
      exact Int.pos_of_mul_pos_right this g0
    · rw [f1, f2, Int.mul_assoc, Int.mul_left_comm]
    · have o := B.div gb (show g ≠ 0 by omega) (by omega)
      refine runR rfl ?_
      simp [f_ratio, startE, hd, hn, o, e1, e2, h0]
theorem ev_ratio_x (ct : Ct) (n : Nat) (t : Int) {v : M × D} (hx : ct flagX [] = some v) : runFn f_ratio ct n [.int t, .int 0] = some (.ex, .exc 1) := by
  refine runX (g' := [.sh (.int t), .sh (.int 0), .no]) rfl (stepX (g' := [.sh (.int t), .sh (.int 0), .no]) ?_)
  simp [startE, f_ratio, hx]
theorem ev_below (ct : Ct) (n : Nat) (a b c d : Int) (k : Nat) (ha : B k a) (hb : B k b) (hc : B k c) (hd : B k d) (hk : k ≤ 60000000) : runFn f_below ct n [.tup [.int a, .int b], .tup [.int c, .int d]] = some (.sh, .bl (decide (a * d < c * b))) := by
  have o1 := B.ok ha hd (by omega)
  have o2 := B.ok hc hb (by omega)
  refine runR rfl ?_
  simp [f_below, startE, o1, o2]
theorem eqvD_bl (a b : Bool) : eqvD (.bl a) (.bl b) = (a == b) := rfl
@[simp] theorem eq_bl (a b : Bool) : cmpD .eq (.bl a) (.bl b) = some (a == b) := by
  show (if (shD (.bl a) && shD (.bl b)) = true then some (eqvD (.bl a) (.bl b)) else none) = _
  rw [if_pos (by rfl)]; rfl
end Ev
namespace Ev
open PySem L2
theorem sq_nn (a : Int) : 0 ≤ a * a := by
  rcases Int.le_total 0 a with h | h
  · exact Int.mul_nonneg h h
  · have := Int.mul_nonneg (show 0 ≤ -a by omega) (show 0 ≤ -a by omega)
    rw [Int.neg_mul_neg] at this; exact this
theorem sq_pos {a : Int} (h : a ≠ 0) : 0 < a * a := by
  have := sq_nn a
  have h2 : a * a ≠ 0 := Int.mul_ne_zero h h
  omega
/-! ### halves -/
theorem ev_half (ct : Ct) (n : Nat) (a b c : Int) (k : Nat) (hd : ∀ x y, B 8000 y → ct 0 [.int x, .int y] = some (.sh, .int (Int.gcd x y : Nat))) (ha : B k a) (hb : B k b) (hc : B k c) (hk : k ≤ 8000) (h0 : ¬ (a = 0 ∧ b = 0)) :
    ∃ g x y z, Gd k a b c g x y z ∧ runFn f_half ct n [.int a, .int b, .int c] = some (.sh, .tup [.int x, .int y, .int z]) := by
  obtain ⟨g, x, y, z, G⟩ := gd_of k a b c ha hb hc h0
  have d1 := hd a b (hb.mono hk)
  have d2 := hd (Int.gcd a b : Nat) c (hc.mono hk)
  rw [G.e] at d2
  have o := G.bg.div (by have := G.pos; omega) (by omega)
  have ht : evE ct [.sh (.int a), .sh (.int b), .sh (.int c), .no] (.ands (.cons (.cmp .eq (.var 0) (.int 0)) (.cons (.cmp .eq (.var 1) (.int 0)) .nil))) = some (.sh, .bl false) := by
    by_cases z1 : a = 0
    · have z2 : ¬ b = 0 := fun z => h0 ⟨z1, z⟩
      simp [z1, z2]
    · simp [z1]
  refine ⟨g, x, y, z, G, runR rfl ?_⟩
  refine stepS (g' := [.sh (.int a), .sh (.int b), .sh (.int c), .no]) ?_ ?_
  · show evS ct n (.ife _ _ _) [.sh (.int a), .sh (.int b), .sh (.int c), .no] = _
    rw [evS_ife, ht]; simp
  · simp [d1, d2, o, G.da, G.db, G.dc]
theorem ev_half_x (ct : Ct) (n : Nat) (c : Int) {v : M × D} (hx : ct flagX [] = some v) : runFn f_half ct n [.int 0, .int 0, .int c] = some (.ex, .exc 2) := by
  refine runX (g' := [.sh (.int 0), .sh (.int 0), .sh (.int c), .no]) rfl (stepX (g' := [.sh (.int 0), .sh (.int 0), .sh (.int c), .no]) ?_)
  simp [startE, f_half, hx]
end Ev
namespace Ev
open PySem L2
/-! ### four points parted -/
theorem rngL4 : rngL 0 4 = [.int 0, .int 1, .int 2, .int 3] := rfl
theorem rngL3 : rngL 0 3 = [.int 0, .int 1, .int 2] := rfl
theorem rngL2 : rngL 0 2 = [.int 0, .int 1] := rfl
theorem rngL1 : rngL 0 1 = [.int 0] := rfl
theorem rngL0 : rngL 0 0 = [] := rfl
theorem ev_turned (ct : Ct) (n : Nat) (p q r : Pt) (k : Nat) (hp : BP k p) (hq : BP k q) (hr : BP k r) (hk : k ≤ 60000000) :
    runFn f_turned ct n [pD p, pD q, pD r] = some (.sh, .int ((q.1 - p.1) * (r.2 - p.2) - (q.2 - p.2) * (r.1 - p.1))) := by
  obtain ⟨a, b⟩ := p
  obtain ⟨c, d⟩ := q
  obtain ⟨e, f⟩ := r
  obtain ⟨ha, hb⟩ := hp
  obtain ⟨hc, hd⟩ := hq
  obtain ⟨he, hf⟩ := hr
  simp only at ha hb hc hd he hf
  have b1 := hc.sub ha (m := k + 1) (by omega) (by omega)
  have b2 := hf.sub hb (m := k + 1) (by omega) (by omega)
  have b3 := hd.sub hb (m := k + 1) (by omega) (by omega)
  have b4 := he.sub ha (m := k + 1) (by omega) (by omega)
  have o1 := B.ok b1 b2 (by omega)
  have o2 := B.ok b3 b4 (by omega)
  refine runR rfl ?_
  simp [f_turned, startE, pD, o1, o2]
/-- what balance answers -/
structure Bal (k : Nat) (p0 p1 p2 p3 : Pt) (a b c d : Int) : Prop where
  ba : B k a
  bb : B k b
  bc : B k c
  bd : B k d
  sum : a + b + c + d = 0
  x : a * p0.1 + b * p1.1 + c * p2.1 + d * p3.1 = 0
  y : a * p0.2 + b * p1.2 + c * p2.2 + d * p3.2 = 0
  nz : ¬ (a = 0 ∧ b = 0 ∧ c = 0 ∧ d = 0)
theorem ev_on_a_line (ct : Ct) (n : Nat) (p0 p1 p2 p3 : Pt) :
    runFn f_on_a_line ct n [.lst [pD p0, pD p1, pD p2, pD p3]] = some (.fr, if p0.1 = p1.1 then .lst [.int (p1.2 - p2.2), .int (p2.2 - p0.2), .int (p0.2 - p1.2), .int 0] else .lst [.int (p1.1 - p2.1), .int (p2.1 - p0.1), .int (p0.1 - p1.1), .int 0]) := by
  have hcut : cutD [pD p0, pD p1, pD p2, pD p3] none (some 3) = [p0, p1, p2].map pD := by
    rw [show (3 : Int) = ((3 : Nat) : Int) from rfl, cutD_none_pos]; rfl
  by_cases h : p0.1 = p1.1
  · have hc : evE ct [.sh (.lst [pD p0, pD p1, pD p2, pD p3]), .sh (.int 1), .no, .no, .no, .no] f_on_a_line_C0 = some (.fr, .lst ([p0, p1, p2].map fun p => .int p.2)) := by
      refine evE_comp_of (m := .sh) (ds := [p0, p1, p2].map pD) (by simp [itM, hcut]) rfl (compF_map pD _ [p0, p1, p2] (fun t _ => ?_) (by simp))
      exact ⟨[.sh (.lst [pD p0, pD p1, pD p2, pD p3]), .sh (.int 1), .no, .no, .no, .sh (pD t)], by simp [tgSlots, wipeE], by simp, (.sh, .int t.2), by simp [pD], rfl⟩
    refine runR rfl ?_
    refine stepS (g' := [.sh (.lst [pD p0, pD p1, pD p2, pD p3]), .sh (.int 0), .no, .no, .no, .no]) (by simp [startE, f_on_a_line]) ?_
    refine stepS (g' := [.sh (.lst [pD p0, pD p1, pD p2, pD p3]), .sh (.int 1), .no, .no, .no, .no]) (by simp [pD, h]) ?_
    refine stepS (g' := [.sh (.lst [pD p0, pD p1, pD p2, pD p3]), .sh (.int 1), .sh (.int p0.2), .sh (.int p1.2), .sh (.int p2.2), .no]) (by rw [evS_unp, hc]; simp) ?_
    simp [h]
  · have hc : evE ct [.sh (.lst [pD p0, pD p1, pD p2, pD p3]), .sh (.int 0), .no, .no, .no, .no] f_on_a_line_C0 = some (.fr, .lst ([p0, p1, p2].map fun p => .int p.1)) := by
      refine evE_comp_of (m := .sh) (ds := [p0, p1, p2].map pD) (by simp [itM, hcut]) rfl (compF_map pD _ [p0, p1, p2] (fun t _ => ?_) (by simp))
      exact ⟨[.sh (.lst [pD p0, pD p1, pD p2, pD p3]), .sh (.int 0), .no, .no, .no, .sh (pD t)], by simp [tgSlots, wipeE], by simp, (.sh, .int t.1), by simp [pD], rfl⟩
    refine runR rfl ?_
    refine stepS (g' := [.sh (.lst [pD p0, pD p1, pD p2, pD p3]), .sh (.int 0), .no, .no, .no, .no]) (by simp [startE, f_on_a_line]) ?_
    refine stepS (g' := [.sh (.lst [pD p0, pD p1, pD p2, pD p3]), .sh (.int 0), .no, .no, .no, .no]) (by simp [pD, h]) ?_
    refine stepS (g' := [.sh (.lst [pD p0, pD p1, pD p2, pD p3]), .sh (.int 0), .sh (.int p0.1), .sh (.int p1.1), .sh (.int p2.1), .no]) (by rw [evS_unp, hc]; simp) ?_
    simp [h]
theorem eq_pD (p q : Pt) : cmpD .eq (pD p) (pD q) = some (decide (p = q)) := by
  obtain ⟨a, b⟩ := p
  obtain ⟨c, d⟩ := q
  simp [pD]
/-- the search for two alike ones -/
theorem pair_turn (ct : Ct) (n : Nat) (p0 p1 p2 p3 : Pt) (j k : Nat) (hj : j < 4) (hk : k < 4) (s3 s4 s5 s6 : Sl) (p q : Pt) (h1 : [p0, p1, p2, p3][j]? = some p) (h2 : [p0, p1, p2, p3][k]? = some q) :
    evSs ct n f_balance_B0 [.sh (.lst [pD p0, pD p1, pD p2, pD p3]), .sh (.int k), .sh (.int j), s3, s4, s5, s6] = if p = q then some (.rt .fr (.lst ((([0, 0, 0, 0].map D.int).set j (.int 1)).set k (.int (-1))))) else some (.nx [.sh (.lst [pD p0, pD p1, pD p2, pD p3]), .sh (.int k), .sh (.int j), s3, s4, s5, s6]) := by
  have a1 : atI [pD p0, pD p1, pD p2, pD p3] (j : Int) = some (pD p) := by
    rw [atI_at rfl, show [pD p0, pD p1, pD p2, pD p3] = [p0, p1, p2, p3].map pD from rfl, List.getElem?_map, h1]; rfl
  have a2 : atI [pD p0, pD p1, pD p2, pD p3] (k : Int) = some (pD q) := by
    rw [atI_at rfl, show [pD p0, pD p1, pD p2, pD p3] = [p0, p1, p2, p3].map pD from rfl, List.getElem?_map, h2]; rfl
  have i1 : ixN 4 (j : Int) = some j := by unfold ixN; rw [if_pos (by omega), if_pos (by omega)]; simp
  have i2 : ixN 4 (k : Int) = some k := by unfold ixN; rw [if_pos (by omega), if_pos (by omega)]; simp
  by_cases h : p = q
  · rw [if_pos h]
    simp [f_balance_B0, a1, a2, eq_pD, h, i1, i2]
  · rw [if_neg h]
    simp [f_balance_B0, a1, a2, eq_pD, h]
def twoD (j k : Nat) : D := .lst ((([0, 0, 0, 0].map D.int).set j (.int 1)).set k (.int (-1)))
theorem pair_inner (ct : Ct) (n : Nat) (p0 p1 p2 p3 : Pt) (k : Nat) (hk : k < 4) (s3 s4 s5 s6 : Sl) (q : Pt) (h2 : [p0, p1, p2, p3][k]? = some q) : ∀ (m lo : Nat) (s2 : Sl), lo + m = k →
    (∃ j, j < k ∧ [p0, p1, p2, p3][j]? = some q ∧ forF (asg (.one 2)) (fun g => evSs ct n f_balance_B0 g) (rngL lo m) [.sh (.lst [pD p0, pD p1, pD p2, pD p3]), .sh (.int k), s2, s3, s4, s5, s6] = some (.rt .fr (twoD j k))) ∨
    ((∀ j, lo ≤ j → j < k → [p0, p1, p2, p3][j]? ≠ some q) ∧ ∃ s2', forF (asg (.one 2)) (fun g => evSs ct n f_balance_B0 g) (rngL lo m) [.sh (.lst [pD p0, pD p1, pD p2, pD p3]), .sh (.int k), s2, s3, s4, s5, s6] = some (.nx [.sh (.lst [pD p0, pD p1, pD p2, pD p3]), .sh (.int k), s2', s3, s4, s5, s6]))
  | 0, lo, s2, h => .inr ⟨fun j h1 h2 => by omega, s2, rfl⟩
  | m + 1, lo, s2, h => by
    obtain ⟨p, hp⟩ : ∃ p, [p0, p1, p2, p3][lo]? = some p := ⟨_, List.getElem?_eq_getElem (by simp; omega)⟩
    have t := pair_turn ct n p0 p1 p2 p3 lo k (by omega) hk s3 s4 s5 s6 p q hp h2
    have a1 : asg (.one 2) (.int (lo : Int)) [.sh (.lst [pD p0, pD p1, pD p2, pD p3]), .sh (.int k), s2, s3, s4, s5, s6] = some [.sh (.lst [pD p0, pD p1, pD p2, pD p3]), .sh (.int k), .sh (.int lo), s3, s4, s5, s6] := by simp
    by_cases e : p = q
    · rw [if_pos e] at t
      refine .inl ⟨lo, by omega, by rw [hp, e], ?_⟩
      rw [rngL_succ, forF_rt a1 t]; rfl
    · rw [if_neg e] at t
      rcases pair_inner ct n p0 p1 p2 p3 k hk s3 s4 s5 s6 q h2 m (lo + 1) (.sh (.int lo)) (by omega) with ⟨j, h3, h4, h5⟩ | ⟨h3, s2', h5⟩
      · refine .inl ⟨j, h3, h4, ?_⟩
        rw [rngL_succ, forF_nx a1 t]; exact h5
      · refine .inr ⟨fun j h6 h7 => ?_, s2', ?_⟩
        · by_cases ej : j = lo
          · subst ej; rw [hp]; exact fun z => e (Option.some.inj z)
          · exact h3 j (by omega) h7
        · rw [rngL_succ, forF_nx a1 t]; exact h5
theorem pair_outer (ct : Ct) (n : Nat) (p0 p1 p2 p3 : Pt) (s3 s4 s5 s6 : Sl) : ∀ (m lo : Nat) (s1 s2 : Sl), lo + m = 4 →
    (∃ j k q, j < k ∧ k < 4 ∧ [p0, p1, p2, p3][j]? = some q ∧ [p0, p1, p2, p3][k]? = some q ∧ forF (asg (.one 1)) (fun g => evSs ct n f_balance_B1 g) (rngL lo m) [.sh (.lst [pD p0, pD p1, pD p2, pD p3]), s1, s2, s3, s4, s5, s6] = some (.rt .fr (twoD j k))) ∨
    ((∀ j k q, lo ≤ k → j < k → k < 4 → [p0, p1, p2, p3][k]? = some q → [p0, p1, p2, p3][j]? ≠ some q) ∧ ∃ s1' s2', forF (asg (.one 1)) (fun g => evSs ct n f_balance_B1 g) (rngL lo m) [.sh (.lst [pD p0, pD p1, pD p2, pD p3]), s1, s2, s3, s4, s5, s6] = some (.nx [.sh (.lst [pD p0, pD p1, pD p2, pD p3]), s1', s2', s3, s4, s5, s6]))
  | 0, lo, s1, s2, h => .inr ⟨fun j k q h1 h2 h3 => by omega, s1, s2, rfl⟩
  | m + 1, lo, s1, s2, h => by
    obtain ⟨q, hq⟩ : ∃ q, [p0, p1, p2, p3][lo]? = some q := ⟨_, List.getElem?_eq_getElem (by simp; omega)⟩
    have a1 : asg (.one 1) (.int (lo : Int)) [.sh (.lst [pD p0, pD p1, pD p2, pD p3]), s1, s2, s3, s4, s5, s6] = some [.sh (.lst [pD p0, pD p1, pD p2, pD p3]), .sh (.int lo), s2, s3, s4, s5, s6] := by simp
    have ei : evI ct [.sh (.lst [pD p0, pD p1, pD p2, pD p3]), .sh (.int lo), s2, s3, s4, s5, s6] (.rng (.var 1)) = some (.sh, rngL 0 lo) := by
      have : rngOk (lo : Int) = true := rngOk_small _ (by omega)
      simp [this]
    have body : ∀ o, forF (asg (.one 2)) (fun g => evSs ct n f_balance_B0 g) (rngL 0 lo) [.sh (.lst [pD p0, pD p1, pD p2, pD p3]), .sh (.int lo), s2, s3, s4, s5, s6] = some o → evSs ct n f_balance_B1 [.sh (.lst [pD p0, pD p1, pD p2, pD p3]), .sh (.int lo), s2, s3, s4, s5, s6] = some o := fun o ho => by
      have : evS ct n f_balance_L0 [.sh (.lst [pD p0, pD p1, pD p2, pD p3]), .sh (.int lo), s2, s3, s4, s5, s6] = some o := by
        rw [f_balance_L0, evS_fr, ei, Option.bind_some, if_neg (fun z => by cases z)]; exact ho
      rw [f_balance_B1, evSs_cons, this]
      cases o <;> simp
    rcases pair_inner ct n p0 p1 p2 p3 lo (by omega) s3 s4 s5 s6 q hq lo 0 s2 (by omega) with ⟨j, h3, h4, h5⟩ | ⟨h3, s2', h5⟩
    · refine .inl ⟨j, lo, q, h3, by omega, h4, hq, ?_⟩
      rw [rngL_succ, forF_rt a1 (body _ h5)]
    · rcases pair_outer ct n p0 p1 p2 p3 s3 s4 s5 s6 m (lo + 1) (.sh (.int lo)) s2' (by omega) with ⟨j, k, q', h6, h7, h8, h9, h10⟩ | ⟨h6, s1', s2'', h7⟩
      · refine .inl ⟨j, k, q', h6, h7, h8, h9, ?_⟩
        rw [rngL_succ, forF_nx a1 (body _ h5)]; exact h10
      · refine .inr ⟨fun j k q' h8 h9 h10 h11 => ?_, s1', s2'', ?_⟩
        · by_cases ek : k = lo
          · subst ek
            rw [hq] at h11; cases h11
            exact h3 j (by omega) h9
          · exact h6 j k q' (by omega) h9 h10 h11
        · rw [rngL_succ, forF_nx a1 (body _ h5)]; exact h7
theorem cut_lo (p0 p1 p2 p3 : D) (k : Nat) : cutD [p0, p1, p2, p3] none (some (k : Int)) = [p0, p1, p2, p3].take k := cutD_none_pos _ _
theorem cut_hi (p0 p1 p2 p3 : D) (k : Nat) : cutD [p0, p1, p2, p3] (some (k : Int)) none = [p0, p1, p2, p3].drop k := cutD_pos_none _ _
def T3 (p q r : Pt) : Int := (q.1 - p.1) * (r.2 - p.2) - (q.2 - p.2) * (r.1 - p.1)
theorem T3_b {k : Nat} {p q r : Pt} (hp : BP k p) (hq : BP k q) (hr : BP k r) : B (2 * k + 3) (T3 p q r) := by
  have b1 := hq.1.sub hp.1 (m := k + 1) (by omega) (by omega)
  have b2 := hr.2.sub hp.2 (m := k + 1) (by omega) (by omega)
  have b3 := hq.2.sub hp.2 (m := k + 1) (by omega) (by omega)
  have b4 := hr.1.sub hp.1 (m := k + 1) (by omega) (by omega)
  exact (b1.mul b2).sub (b3.mul b4) (by omega) (by omega)
theorem four_loop (ct : Ct) (n : Nat) (p0 p1 p2 p3 : Pt) (k : Nat) (hk : k ≤ 1000000) (h0 : BP k p0) (h1 : BP k p1) (h2 : BP k p2) (h3 : BP k p3) (ht : ∀ p q r, BP k p → BP k q → BP k r → ct 124 [pD p, pD q, pD r] = some (.sh, .int (T3 p q r))) (s1 s2 : Sl) :
    ∃ g', evS ct n f_balance_L2 [.sh (.lst [pD p0, pD p1, pD p2, pD p3]), s1, s2, .ow [], .no, .no, .no] = some (.nx (.sh (.lst [pD p0, pD p1, pD p2, pD p3]) :: .sh (.int 3) :: s2 :: .ow [.int (T3 p1 p2 p3), .int (-(T3 p0 p2 p3)), .int (T3 p0 p1 p3), .int (-(T3 p0 p1 p2))] :: g')) ∧ g'.length = 3 := by
  have b1 : B 1 (1 : Int) := by unfold B; decide
  have b2 : B 1 (-1 : Int) := by unfold B; decide
  have m0 := B.ok (T3_b h1 h2 h3) b1 (by omega)
  have m1 := B.ok (T3_b h0 h2 h3) b2 (by omega)
  have m2 := B.ok (T3_b h0 h1 h3) b1 (by omega)
  have m3 := B.ok (T3_b h0 h1 h2) b2 (by omega)
  have c0 := ht p1 p2 p3 h1 h2 h3
  have c1 := ht p0 p2 p3 h0 h2 h3
  have c2 := ht p0 p1 p3 h0 h1 h3
  have c3 := ht p0 p1 p2 h0 h1 h2
  have x0 : cutD [pD p0, pD p1, pD p2, pD p3] none (some 0) = [] := cut_lo _ _ _ _ 0
  have x1 : cutD [pD p0, pD p1, pD p2, pD p3] none (some 1) = [pD p0] := cut_lo _ _ _ _ 1
  have x2 : cutD [pD p0, pD p1, pD p2, pD p3] none (some 2) = [pD p0, pD p1] := cut_lo _ _ _ _ 2
  have x3 : cutD [pD p0, pD p1, pD p2, pD p3] none (some 3) = [pD p0, pD p1, pD p2] := cut_lo _ _ _ _ 3
  have y1 : cutD [pD p0, pD p1, pD p2, pD p3] (some 1) none = [pD p1, pD p2, pD p3] := cut_hi _ _ _ _ 1
  have y2 : cutD [pD p0, pD p1, pD p2, pD p3] (some 2) none = [pD p2, pD p3] := cut_hi _ _ _ _ 2
  have y3 : cutD [pD p0, pD p1, pD p2, pD p3] (some 3) none = [pD p3] := cut_hi _ _ _ _ 3
  have y4 : cutD [pD p0, pD p1, pD p2, pD p3] (some 4) none = [] := cut_hi _ _ _ _ 4
  have ei : evI ct [.sh (.lst [pD p0, pD p1, pD p2, pD p3]), s1, s2, .ow [], .no, .no, .no] (.rng (.int 4)) = some (.sh, [.int 0, .int 1, .int 2, .int 3]) := by
    have : rngOk (4 : Int) = true := rngOk_small _ (by omega)
    simp [this, rngL4]
  refine ⟨[.sh (pD p0), .sh (pD p1), .sh (pD p2)], ?_, rfl⟩
  · rw [f_balance_L2, evS_fr, ei, Option.bind_some, if_neg (fun z => by cases z)]
    rw [forF_nx (g1 := [.sh (.lst [pD p0, pD p1, pD p2, pD p3]), .sh (.int 0), s2, .ow [], .no, .no, .no]) (g2 := [.sh (.lst [pD p0, pD p1, pD p2, pD p3]), .sh (.int 0), s2, .ow [.int (T3 p1 p2 p3)], .sh (pD p1), .sh (pD p2), .sh (pD p3)]) (by simp) (by simp [f_balance_B2, x0, y1, lenOk_small, c0, m0, fmod_of])]
    rw [forF_nx (g1 := [.sh (.lst [pD p0, pD p1, pD p2, pD p3]), .sh (.int 1), s2, .ow [.int (T3 p1 p2 p3)], .sh (pD p1), .sh (pD p2), .sh (pD p3)]) (g2 := [.sh (.lst [pD p0, pD p1, pD p2, pD p3]), .sh (.int 1), s2, .ow [.int (T3 p1 p2 p3), .int (-(T3 p0 p2 p3))], .sh (pD p0), .sh (pD p2), .sh (pD p3)]) (by simp) (by simp [f_balance_B2, x1, y2, lenOk_small, c1, m1, fmod_of])]
    rw [forF_nx (g1 := [.sh (.lst [pD p0, pD p1, pD p2, pD p3]), .sh (.int 2), s2, .ow [.int (T3 p1 p2 p3), .int (-(T3 p0 p2 p3))], .sh (pD p0), .sh (pD p2), .sh (pD p3)]) (g2 := [.sh (.lst [pD p0, pD p1, pD p2, pD p3]), .sh (.int 2), s2, .ow [.int (T3 p1 p2 p3), .int (-(T3 p0 p2 p3)), .int (T3 p0 p1 p3)], .sh (pD p0), .sh (pD p1), .sh (pD p3)]) (by simp) (by simp [f_balance_B2, x2, y3, lenOk_small, c2, m2, fmod_of])]
    rw [forF_nx (g1 := [.sh (.lst [pD p0, pD p1, pD p2, pD p3]), .sh (.int 3), s2, .ow [.int (T3 p1 p2 p3), .int (-(T3 p0 p2 p3)), .int (T3 p0 p1 p3)], .sh (pD p0), .sh (pD p1), .sh (pD p3)]) (g2 := [.sh (.lst [pD p0, pD p1, pD p2, pD p3]), .sh (.int 3), s2, .ow [.int (T3 p1 p2 p3), .int (-(T3 p0 p2 p3)), .int (T3 p0 p1 p3), .int (-(T3 p0 p1 p2))], .sh (pD p0), .sh (pD p1), .sh (pD p2)]) (by simp) (by simp [f_balance_B2, x3, y4, lenOk_small, c3, m3, fmod_of])]
    rfl
theorem eq_ints4 (a b c d : Int) : cmpD .eq (.lst [.int a, .int b, .int c, .int d]) (.lst [.int 0, .int 0, .int 0, .int 0]) = some (decide (a = 0 ∧ b = 0 ∧ c = 0 ∧ d = 0)) := by
  rw [cmpD_eqD _ _ rfl rfl rfl rfl]
  congr 1
  by_cases h : a = 0 ∧ b = 0 ∧ c = 0 ∧ d = 0
  · rw [decide_eq_true h]; exact deq_iff.mpr (by obtain ⟨rfl, rfl, rfl, rfl⟩ := h; rfl)
  · rw [decide_eq_false h]; exact deq_ne fun z => h (by simpa using z)
theorem ev_balance (ct : Ct) (n : Nat) (p0 p1 p2 p3 : Pt) (k : Nat) (hk : k ≤ 1000000) (h0 : BP k p0) (h1 : BP k p1) (h2 : BP k p2) (h3 : BP k p3) (ht : ∀ p q r, BP k p → BP k q → BP k r → ct 124 [pD p, pD q, pD r] = some (.sh, .int (T3 p q r)))
    (hl : ct 125 [.lst [pD p0, pD p1, pD p2, pD p3]] = some (.fr, if p0.1 = p1.1 then .lst [.int (p1.2 - p2.2), .int (p2.2 - p0.2), .int (p0.2 - p1.2), .int 0] else .lst [.int (p1.1 - p2.1), .int (p2.1 - p0.1), .int (p0.1 - p1.1), .int 0])) :
    ∃ a b c d, Bal (2 * k + 3) p0 p1 p2 p3 a b c d ∧ runFn f_balance ct n [.lst [pD p0, pD p1, pD p2, pD p3]] = some (.fr, .lst [.int a, .int b, .int c, .int d]) := by
  have b0 : B (2 * k + 3) 0 := (show B 1 0 by unfold B; decide).mono (by omega)
  have b1 : B (2 * k + 3) 1 := (show B 1 1 by unfold B; decide).mono (by omega)
  have e4 : evI ct [.sh (.lst [pD p0, pD p1, pD p2, pD p3]), .no, .no, .no, .no, .no, .no] (.rng (.int 4)) = some (.sh, rngL 0 4) := by
    have : rngOk (4 : Int) = true := rngOk_small _ (by omega)
    simp [this]
  rcases pair_outer ct n p0 p1 p2 p3 .no .no .no .no 4 0 .no .no (by omega) with ⟨j, kk, q, hj, hkk, hq1, hq2, e⟩ | ⟨hd, s1, s2, e⟩
  · have st : runFn f_balance ct n [.lst [pD p0, pD p1, pD p2, pD p3]] = some (.fr, twoD j kk) := by
      refine runR rfl (stepR ?_)
      show evS ct n f_balance_L1 [.sh (.lst [pD p0, pD p1, pD p2, pD p3]), .no, .no, .no, .no, .no, .no] = _
      rw [f_balance_L1, evS_fr, e4]
      exact e
    rw [st]
    have hh : (j = 0 ∧ kk = 1) ∨ (j = 0 ∧ kk = 2) ∨ (j = 0 ∧ kk = 3) ∨ (j = 1 ∧ kk = 2) ∨ (j = 1 ∧ kk = 3) ∨ (j = 2 ∧ kk = 3) := by omega
    rcases hh with ⟨rfl, rfl⟩ | ⟨rfl, rfl⟩ | ⟨rfl, rfl⟩ | ⟨rfl, rfl⟩ | ⟨rfl, rfl⟩ | ⟨rfl, rfl⟩ <;> simp at hq1 hq2 <;> subst hq1 <;> subst hq2
    · exact ⟨1, -1, 0, 0, ⟨b1, b1.neg, b0, b0, by omega, by omega, by omega, by omega⟩, rfl⟩
    · exact ⟨1, 0, -1, 0, ⟨b1, b0, b1.neg, b0, by omega, by omega, by omega, by omega⟩, rfl⟩
    · exact ⟨1, 0, 0, -1, ⟨b1, b0, b0, b1.neg, by omega, by omega, by omega, by omega⟩, rfl⟩
    · exact ⟨0, 1, -1, 0, ⟨b0, b1, b1.neg, b0, by omega, by omega, by omega, by omega⟩, rfl⟩
    · exact ⟨0, 1, 0, -1, ⟨b0, b1, b0, b1.neg, by omega, by omega, by omega, by omega⟩, rfl⟩
    · exact ⟨0, 0, 1, -1, ⟨b0, b0, b1, b1.neg, by omega, by omega, by omega, by omega⟩, rfl⟩
  · have ne01 : p0 ≠ p1 := fun z => hd 0 1 p1 (by omega) (by omega) (by omega) rfl (by rw [z]; rfl)
    obtain ⟨g', ef, gl⟩ := four_loop ct n p0 p1 p2 p3 k hk h0 h1 h2 h3 ht s1 s2
    obtain ⟨t0, et0⟩ : ∃ t, T3 p1 p2 p3 = t := ⟨_, rfl⟩
    obtain ⟨t1, et1⟩ : ∃ t, T3 p0 p2 p3 = t := ⟨_, rfl⟩
    obtain ⟨t2, et2⟩ : ∃ t, T3 p0 p1 p3 = t := ⟨_, rfl⟩
    obtain ⟨t3, et3⟩ : ∃ t, T3 p0 p1 p2 = t := ⟨_, rfl⟩
    have B0 := T3_b h1 h2 h3
    have B1 := T3_b h0 h2 h3
    have B2 := T3_b h0 h1 h3
    have B3 := T3_b h0 h1 h2
    rw [et0, et1, et2, et3] at ef
    rw [et0] at B0; rw [et1] at B1; rw [et2] at B2; rw [et3] at B3
    match g', gl with
    | [x, y, z], _ =>
    have run : ∀ r, evSs ct n (.cons (.ife (.cmp .eq (.var 3) (.lst (.cons (.int 0) (.cons (.int 0) (.cons (.int 0) (.cons (.int 0) .nil)))))) (.cons (.ret (.call 125 (.cons (.var 0) .nil))) .nil) .nil) (.cons (.retv 3) .nil)) [.sh (.lst [pD p0, pD p1, pD p2, pD p3]), .sh (.int 3), s2, .ow [.int t0, .int (-t1), .int t2, .int (-t3)], x, y, z] = some (.rt .fr r) →
        runFn f_balance ct n [.lst [pD p0, pD p1, pD p2, pD p3]] = some (.fr, r) := fun r hr => by
      refine runR rfl (stepS (g' := [.sh (.lst [pD p0, pD p1, pD p2, pD p3]), s1, s2, .no, .no, .no, .no]) ?_ (stepS (g' := [.sh (.lst [pD p0, pD p1, pD p2, pD p3]), s1, s2, .ow [], .no, .no, .no]) (by simp) (stepS ef hr)))
      show evS ct n f_balance_L1 [.sh (.lst [pD p0, pD p1, pD p2, pD p3]), .no, .no, .no, .no, .no, .no] = _
      rw [f_balance_L1, evS_fr, e4]
      exact e
    by_cases hz : t0 = 0 ∧ -t1 = 0 ∧ t2 = 0 ∧ -t3 = 0
    · have cx : ∀ {p q : Pt}, BP k p → BP k q → B (2 * k + 3) (p.1 - q.1) := fun a b => a.1.sub b.1 (by omega) (by omega)
      have cy : ∀ {p q : Pt}, BP k p → BP k q → B (2 * k + 3) (p.2 - q.2) := fun a b => a.2.sub b.2 (by omega) (by omega)
      have z3 : T3 p0 p1 p2 = 0 := by omega
      unfold T3 at z3
      by_cases hx : p0.1 = p1.1
      · rw [if_pos hx] at hl
        have hy : p0.2 ≠ p1.2 := fun w => ne01 (by obtain ⟨a, b⟩ := p0; obtain ⟨c, d⟩ := p1; simp only at hx w; rw [hx, w])
        refine ⟨p1.2 - p2.2, p2.2 - p0.2, p0.2 - p1.2, 0, ⟨cy h1 h2, cy h2 h0, cy h0 h1, b0, by omega, by grind, by grind, fun w => hy (by omega)⟩, run _ ?_⟩
        simp [eq_ints4, hz, hl]
      · rw [if_neg hx] at hl
        refine ⟨p1.1 - p2.1, p2.1 - p0.1, p0.1 - p1.1, 0, ⟨cx h1 h2, cx h2 h0, cx h0 h1, b0, by omega, by grind, by grind, fun w => hx (by omega)⟩, run _ ?_⟩
        simp [eq_ints4, hz, hl]
    · refine ⟨t0, -t1, t2, -t3, ⟨B0, B1.neg, B2, B3.neg, ?_, ?_, ?_, hz⟩, run _ ?_⟩
      · rw [← et0, ← et1, ← et2, ← et3]; unfold T3; grind
      · rw [← et0, ← et1, ← et2, ← et3]; unfold T3; grind
      · rw [← et0, ← et1, ← et2, ← et3]; unfold T3; grind
      · rw [evSs_cons, evS_ife, evE_cmp]
        have hz' := hz
        simp only [evE_var, List.getElem?_cons_succ, List.getElem?_cons_zero, slV_ow, Option.bind_some, evE_lst, evs_cons, evs_nil, evE_int, storable_sh, List.length_cons, List.length_nil]
        simp only [lenOk_small (show 0 + 1 + 1 + 1 + 1 ≤ 1000000 by omega), if_true, Option.bind_some, eq_ints4, decide_eq_false hz', asBl_bl]
        simp
/-! ### the fraction as a function -/
noncomputable def rat (t b : Int) : Pt := @dite _ (∃ pq : Pt, Fr t b pq.1 pq.2) (Classical.propDecidable _) (fun h => Classical.choose h) fun _ => (0, 1)
theorem rat_of {t b p q : Int} (h0 : b ≠ 0) (F : Fr t b p q) : rat t b = (p, q) := by
  have h : ∃ pq : Pt, Fr t b pq.1 pq.2 := ⟨(p, q), F⟩
  unfold rat
  rw [dif_pos h]
  have G := Classical.choose_spec h
  obtain ⟨e1, e2⟩ := G.unique h0 F
  exact Prod.ext e1 e2
def numL (a b c d : Int) (k : Nat) : Int := [a, b, c, d].getD k 0
def mx (i : Int) : Int := if 0 > i then 0 else i
def plc (num : Nat → Int) (s : Int) : List Nat := [0, 1, 2, 3].filter fun k => decide (0 < num k * s)
theorem asInts_map : ∀ ns : List Int, asInts (ns.map D.int) = some ns
  | [] => rfl
  | n :: ns => by simp only [List.map_cons, asInts, asInt_int, asInts_map ns]; rfl
theorem sum_ints (ns : List Int) : b1D .sum (.lst (ns.map D.int)) = some (.sh, .int ns.sum) := by
  simp only [b1D, asL_lst, asInts_map, Option.bind_eq_bind, Option.bind_some, Option.pure_def]
theorem at_num (a b c d : Int) (k : Nat) (hk : k < 4) : atI [D.int a, D.int b, D.int c, D.int d] (k : Int) = some (.int (numL a b c d k)) := by
  rw [atI_at rfl]
  have : k = 0 ∨ k = 1 ∨ k = 2 ∨ k = 3 := by omega
  rcases this with rfl | rfl | rfl | rfl <;> rfl
theorem numL_b {k : Nat} {a b c d : Int} (ba : B k a) (bb : B k b) (bc : B k c) (bd : B k d) (i : Nat) (hi : i < 4) : B k (numL a b c d i) := by
  have : i = 0 ∨ i = 1 ∨ i = 2 ∨ i = 3 := by omega
  rcases this with rfl | rfl | rfl | rfl <;> assumption
theorem mem4 {k : Nat} (h : k ∈ ([0, 1, 2, 3] : List Nat)) : k < 4 := by
  simp only [List.mem_cons, List.not_mem_nil, or_false] at h
  omega
theorem mx_b {k : Nat} {i : Int} (h : B k i) : B k (mx i) := by
  unfold mx
  split
  · unfold B at *; omega
  · exact h
theorem posSum (a b c d : Int) : ([a, b, c, d].filter fun x => decide (0 < x)).sum = mx a + mx b + mx c + mx d := by
  have f : ∀ x : Int, ∀ l : List Int, ((x :: l).filter fun x => decide (0 < x)).sum = mx x + (l.filter fun x => decide (0 < x)).sum := fun x l => by
    unfold mx
    by_cases h : 0 < x
    · rw [List.filter_cons_of_pos (by simpa using h), List.sum_cons, if_neg (by omega)]
    · rw [List.filter_cons_of_neg (by simpa using h)]
      by_cases h2 : 0 > x
      · rw [if_pos h2]; omega
      · rw [if_neg h2]; omega
  rw [f, f, f, f]
  simp; omega
theorem Bal.total {k : Nat} {p0 p1 p2 p3 : Pt} {a b c d : Int} (h : Bal k p0 p1 p2 p3 a b c d) : 0 < mx a + mx b + mx c + mx d := by
  have h1 := h.sum
  have h2 := h.nz
  unfold mx
  split <;> split <;> split <;> split <;> omega
/-- what parted answers -/
noncomputable def wts (num : Nat → Int) (T s : Int) : D := .lst ((plc num s).map fun k => pD (rat (num k * s) T))
def plD (num : Nat → Int) (s : Int) : D := .lst ((plc num s).map fun k => .int (k : Nat))
noncomputable def partedD (p0 p1 p2 p3 : Pt) (a b c d : Int) : D :=
  .tup [plD (numL a b c d) 1, plD (numL a b c d) (-1), wts (numL a b c d) (mx a + mx b + mx c + mx d) 1, wts (numL a b c d) (mx a + mx b + mx c + mx d) (-1),
    .tup [pD (rat (mx a * p0.1 + mx b * p1.1 + mx c * p2.1 + mx d * p3.1) (mx a + mx b + mx c + mx d)), pD (rat (mx a * p0.2 + mx b * p1.2 + mx c * p2.2 + mx d * p3.2) (mx a + mx b + mx c + mx d))]]
theorem part_turn {ct : Ct} (n : Nat) (P : D) (a b c d T : Int) (s : Int) (hs : s = 1 ∨ s = -1) (ba : B 400 a) (bb : B 400 b) (bc : B 400 c) (bd : B 400 d) (s3 s5 s6 s7 s8 s9 : Sl) (parts : List D) (hp : parts.length ≤ 10)
    (hr : ∀ t, B 1000 t → ct 7 [.int t, .int T] = some (.sh, pD (rat t T))) :
    ∃ r5 r6 r7, (∃ g1, asg (.one 5) (.int s) [.sh P, .sh (.lst [.int a, .int b, .int c, .int d]), .sh (.int T), s3, .ow parts, s5, s6, s7, s8, s9] = some g1 ∧ evSs ct n f_parted_B0 g1 = some (.nx [.sh P, .sh (.lst [.int a, .int b, .int c, .int d]), .sh (.int T), s3, .ow (parts ++ [.tup [plD (numL a b c d) s, wts (numL a b c d) T s]]), r5, r6, r7, s8, s9])) := by
  have bs : B 1 s := by rcases hs with rfl | rfl <;> (unfold B; decide)
  have c1 : evE ct [.sh P, .sh (.lst [.int a, .int b, .int c, .int d]), .sh (.int T), s3, .ow parts, .sh (.int s), s6, s7, s8, s9] f_parted_C1 = some (.fr, plD (numL a b c d) s) := by
    have ei : evI ct [.sh P, .sh (.lst [.int a, .int b, .int c, .int d]), .sh (.int T), s3, .ow parts, .sh (.int s), s6, s7, s8, s9] (.rng (.int 4)) = some (.sh, ([0, 1, 2, 3] : List Nat).map fun k => D.int (k : Nat)) := by
      have : rngOk (4 : Int) = true := rngOk_small _ (by omega)
      simp [this, rngL4]
    refine evE_comp_of ei rfl ?_
    have := compF_fm (fun k : Nat => D.int (k : Nat)) (fun k => decide (0 < numL a b c d k * s)) (fun k : Nat => D.int (k : Nat)) (a := asg (.one 7)) (c := fun g1 => evC ct g1 (.cons (.cmp .gt (.bin .mul (.idx (.var 1) (.var 7)) (.var 5)) (.int 0)) .nil)) (e := fun g1 => evE ct g1 (.var 7)) (g := [.sh P, .sh (.lst [.int a, .int b, .int c, .int d]), .sh (.int T), s3, .ow parts, .sh (.int s), s6, .no, s8, s9]) [0, 1, 2, 3] [] (fun k hk => by
      have hk := mem4 hk
      have o := B.ok (numL_b ba bb bc bd k hk) bs (by omega)
      exact ⟨[.sh P, .sh (.lst [.int a, .int b, .int c, .int d]), .sh (.int T), s3, .ow parts, .sh (.int s), s6, .sh (.int (k : Nat)), s8, s9], by simp, by simp [at_num a b c d k hk, o], fun _ => ⟨(.sh, .int (k : Nat)), by simp, rfl⟩⟩) (by simp)
    exact this
  have c2 : evE ct [.sh P, .sh (.lst [.int a, .int b, .int c, .int d]), .sh (.int T), s3, .ow parts, .sh (.int s), .sh (plD (numL a b c d) s), s7, s8, s9] f_parted_C2 = some (.fr, wts (numL a b c d) T s) := by
    refine evE_comp_of (m := .sh) (ds := (plc (numL a b c d) s).map fun k => D.int (k : Nat)) (by simp [itM, plD]) rfl (compF_map _ _ (plc (numL a b c d) s) (fun k hk => ?_) ?_)
    · have hk := mem4 (List.mem_filter.mp hk).1
      have bn := numL_b ba bb bc bd k hk
      have o := B.ok bn bs (by omega)
      have r := hr (numL a b c d k * s) ((bn.mul bs).mono (by omega))
      exact ⟨[.sh P, .sh (.lst [.int a, .int b, .int c, .int d]), .sh (.int T), s3, .ow parts, .sh (.int s), .sh (plD (numL a b c d) s), .sh (.int (k : Nat)), s8, s9], by simp [tgSlots, wipeE], by simp, (.sh, pD (rat (numL a b c d k * s) T)), by simp [at_num a b c d k hk, o, r], rfl⟩
    · have := List.length_filter_le (fun k => decide (0 < numL a b c d k * s)) [0, 1, 2, 3]
      simp [plc] at this ⊢; omega
  refine ⟨.sh (.int s), .sh (plD (numL a b c d) s), s7, [.sh P, .sh (.lst [.int a, .int b, .int c, .int d]), .sh (.int T), s3, .ow parts, .sh (.int s), s6, s7, s8, s9], by simp, ?_⟩
  refine stepS (g' := [.sh P, .sh (.lst [.int a, .int b, .int c, .int d]), .sh (.int T), s3, .ow parts, .sh (.int s), .sh (plD (numL a b c d) s), s7, s8, s9]) (by rw [evS_set, c1]; simp [plD]) ?_
  rw [evSs_cons, evS_app, evE_tup, evs_cons, evs_cons, c2]
  simp [lenOk_small (show parts.length ≤ 1000000 by omega), wts, plD]
def ptL (p0 p1 p2 p3 : Pt) (k : Nat) : Pt := [p0, p1, p2, p3].getD k (0, 0)
def crd (at_ : Nat) (p : Pt) : Int := if at_ = 0 then p.1 else p.2
theorem at_pt (p0 p1 p2 p3 : Pt) (k : Nat) (hk : k < 4) : atI [pD p0, pD p1, pD p2, pD p3] (k : Int) = some (pD (ptL p0 p1 p2 p3 k)) := by
  rw [atI_at rfl]
  have : k = 0 ∨ k = 1 ∨ k = 2 ∨ k = 3 := by omega
  rcases this with rfl | rfl | rfl | rfl <;> rfl
theorem at_crd (p : Pt) (i : Nat) (hi : i < 2) : atI [D.int p.1, D.int p.2] (i : Int) = some (.int (crd i p)) := by
  have : i = 0 ∨ i = 1 := by omega
  rcases this with rfl | rfl <;> rfl
theorem spot_turn {ct : Ct} (n : Nat) (p0 p1 p2 p3 : Pt) (a b c d T : Int) (i : Nat) (hi : i < 2) (ba : B 400 a) (bb : B 400 b) (bc : B 400 c) (bd : B 400 d) (h0 : BP 400 p0) (h1 : BP 400 p1) (h2 : BP 400 p2) (h3 : BP 400 p3) (s3 s4 s5 s6 s7 s9 : Sl) (spot : List D) (hp : spot.length ≤ 10)
    (hr : ∀ t, B 1000 t → ct 7 [.int t, .int T] = some (.sh, pD (rat t T))) :
    ∃ g1, asg (.one 9) (.int (i : Nat)) [.sh (.lst [pD p0, pD p1, pD p2, pD p3]), .sh (.lst [.int a, .int b, .int c, .int d]), .sh (.int T), s3, s4, s5, s6, s7, .ow spot, s9] = some g1 ∧ evSs ct n f_parted_B1 g1 = some (.nx [.sh (.lst [pD p0, pD p1, pD p2, pD p3]), .sh (.lst [.int a, .int b, .int c, .int d]), .sh (.int T), s3, s4, s5, s6, s7, .ow (spot ++ [pD (rat (mx a * crd i p0 + mx b * crd i p1 + mx c * crd i p2 + mx d * crd i p3) T)]), .sh (.int (i : Nat))]) := by
  have bcr : ∀ {p : Pt}, BP 400 p → B 400 (crd i p) := fun h => by unfold crd; split; exact h.1; exact h.2
  have c3 : evE ct [.sh (.lst [pD p0, pD p1, pD p2, pD p3]), .sh (.lst [.int a, .int b, .int c, .int d]), .sh (.int T), s3, s4, s5, s6, s7, .ow spot, .sh (.int (i : Nat))] f_parted_C3 = some (.fr, .lst ([mx a * crd i p0, mx b * crd i p1, mx c * crd i p2, mx d * crd i p3].map D.int)) := by
    have ei : evI ct [.sh (.lst [pD p0, pD p1, pD p2, pD p3]), .sh (.lst [.int a, .int b, .int c, .int d]), .sh (.int T), s3, s4, s5, s6, s7, .ow spot, .sh (.int (i : Nat))] (.rng (.int 4)) = some (.sh, ([0, 1, 2, 3] : List Nat).map fun k => D.int (k : Nat)) := by
      have : rngOk (4 : Int) = true := rngOk_small _ (by omega)
      simp [this, rngL4]
    refine evE_comp_of ei rfl ?_
    have := compF_map (fun k : Nat => D.int (k : Nat)) (fun k : Nat => D.int (mx (numL a b c d k) * crd i (ptL p0 p1 p2 p3 k))) (a := asg (.one 7)) (c := fun g1 => evC ct g1 .nil) (e := fun g1 => evE ct g1 (.bin .mul (.b2 .max (.idx (.var 1) (.var 7)) (.int 0)) (.idx (.idx (.var 0) (.var 7)) (.var 9)))) (g := [.sh (.lst [pD p0, pD p1, pD p2, pD p3]), .sh (.lst [.int a, .int b, .int c, .int d]), .sh (.int T), s3, s4, s5, s6, .no, .ow spot, .sh (.int (i : Nat))]) [0, 1, 2, 3] (fun k hk => by
      have hk := mem4 hk
      have bp : BP 400 (ptL p0 p1 p2 p3 k) := by
        have : k = 0 ∨ k = 1 ∨ k = 2 ∨ k = 3 := by omega
        rcases this with rfl | rfl | rfl | rfl <;> assumption
      have o := B.ok (mx_b (numL_b ba bb bc bd k hk)) (bcr bp) (by omega)
      unfold mx at o
      refine ⟨[.sh (.lst [pD p0, pD p1, pD p2, pD p3]), .sh (.lst [.int a, .int b, .int c, .int d]), .sh (.int T), s3, s4, s5, s6, .sh (.int (k : Nat)), .ow spot, .sh (.int (i : Nat))], by simp, by simp, (.sh, .int (mx (numL a b c d k) * crd i (ptL p0 p1 p2 p3 k))), ?_, rfl⟩
      unfold mx
      simp [at_num a b c d k hk, at_pt p0 p1 p2 p3 k hk]
      simp [pD, at_crd _ i hi, o]) (by simp)
    exact this
  have e : b1D .sum (.lst ([mx a * crd i p0, mx b * crd i p1, mx c * crd i p2, mx d * crd i p3].map D.int)) = some (.sh, .int (mx a * crd i p0 + mx b * crd i p1 + mx c * crd i p2 + mx d * crd i p3)) := by
    rw [sum_ints]
    congr 2
    simp; omega
  have bt : B 1000 (mx a * crd i p0 + mx b * crd i p1 + mx c * crd i p2 + mx d * crd i p3) :=
    (((((mx_b ba).mul (bcr h0)).add ((mx_b bb).mul (bcr h1)) (m := 801) (by omega) (by omega)).add ((mx_b bc).mul (bcr h2)) (m := 802) (by omega) (by omega)).add ((mx_b bd).mul (bcr h3)) (m := 803) (by omega) (by omega)).mono (by omega)
  have r := hr _ bt
  refine ⟨[.sh (.lst [pD p0, pD p1, pD p2, pD p3]), .sh (.lst [.int a, .int b, .int c, .int d]), .sh (.int T), s3, s4, s5, s6, s7, .ow spot, .sh (.int (i : Nat))], by simp, ?_⟩
  rw [f_parted_B1, evSs_cons, evS_app, evE_call, evs_cons, evs_cons, evE_b1, c3, Option.bind_some, e]
  simp [r, lenOk_small (show spot.length ≤ 1000000 by omega)]
theorem ev_parted {ct : Ct} (n : Nat) (p0 p1 p2 p3 : Pt) (a b c d : Int) (h0 : BP 150 p0) (h1 : BP 150 p1) (h2 : BP 150 p2) (h3 : BP 150 p3) (hb : Bal 303 p0 p1 p2 p3 a b c d) (e : ct 126 [.lst [pD p0, pD p1, pD p2, pD p3]] = some (.fr, .lst [.int a, .int b, .int c, .int d]))
    (hr : ∀ t T, B 1000 t → B 1000 T → T ≠ 0 → ct 7 [.int t, .int T] = some (.sh, pD (rat t T))) : runFn f_parted ct n [.lst [pD p0, pD p1, pD p2, pD p3]] = some (.sh, partedD p0 p1 p2 p3 a b c d) := by
  have ba := hb.ba.mono (l := 400) (by omega)
  have bb := hb.bb.mono (l := 400) (by omega)
  have bc := hb.bc.mono (l := 400) (by omega)
  have bd := hb.bd.mono (l := 400) (by omega)
  have up : ∀ {p}, BP 150 p → BP 400 p := fun h => ⟨h.1.mono (by omega), h.2.mono (by omega)⟩
  obtain ⟨T, hT⟩ : ∃ T, mx a + mx b + mx c + mx d = T := ⟨_, rfl⟩
  have T0 := hb.total
  rw [hT] at T0
  have bT : B 1000 T := by
    rw [← hT]
    exact ((((mx_b ba).add (mx_b bb) (m := 401) (by omega) (by omega)).add (mx_b bc) (m := 402) (by omega) (by omega)).add (mx_b bd) (m := 403) (by omega) (by omega)).mono (by omega)
  have hr' : ∀ t, B 1000 t → ct 7 [.int t, .int T] = some (.sh, pD (rat t T)) := fun t ht => hr t T ht bT (by omega)
  obtain ⟨P, hP⟩ : ∃ P, D.lst [pD p0, pD p1, pD p2, pD p3] = P := ⟨_, rfl⟩
  have c0 : evE ct [.sh P, .sh (.lst [.int a, .int b, .int c, .int d]), .no, .no, .no, .no, .no, .no, .no, .no] f_parted_C0 = some (.fr, .lst (([a, b, c, d].filter fun x => decide (0 < x)).map D.int)) := by
    refine evE_comp_of (m := .sh) (ds := [a, b, c, d].map D.int) (by simp [itM]) rfl ?_
    have := compF_fm D.int (fun x => decide (0 < x)) D.int (a := asg (.one 3)) (c := fun g1 => evC ct g1 (.cons (.cmp .gt (.var 3) (.int 0)) .nil)) (e := fun g1 => evE ct g1 (.var 3)) (g := [.sh P, .sh (.lst [.int a, .int b, .int c, .int d]), .no, .no, .no, .no, .no, .no, .no, .no]) [a, b, c, d] [] (fun x hx =>
      ⟨[.sh P, .sh (.lst [.int a, .int b, .int c, .int d]), .no, .sh (.int x), .no, .no, .no, .no, .no, .no], by simp, by simp, fun _ => ⟨(.sh, .int x), by simp, rfl⟩⟩) (by simp)
    exact this
  obtain ⟨r5, r6, r7, g1, eg1, es1⟩ := part_turn n P a b c d T 1 (.inl rfl) ba bb bc bd .no .no .no .no .no .no [] (by simp) hr'
  obtain ⟨q5, q6, q7, g2, eg2, es2⟩ := part_turn n P a b c d T (-1) (.inr rfl) ba bb bc bd .no r5 r6 r7 .no .no ([] ++ [.tup [plD (numL a b c d) 1, wts (numL a b c d) T 1]]) (by simp) hr'
  obtain ⟨S4, hS4⟩ : ∃ S, Sl.ow (([] ++ [D.tup [plD (numL a b c d) 1, wts (numL a b c d) T 1]]) ++ [.tup [plD (numL a b c d) (-1), wts (numL a b c d) T (-1)]]) = S := ⟨_, rfl⟩
  obtain ⟨g3, eg3, es3⟩ := spot_turn n p0 p1 p2 p3 a b c d T 0 (by omega) ba bb bc bd (up h0) (up h1) (up h2) (up h3) .no S4 q5 q6 q7 .no [] (by simp) hr'
  obtain ⟨g4, eg4, es4⟩ := spot_turn n p0 p1 p2 p3 a b c d T 1 (by omega) ba bb bc bd (up h0) (up h1) (up h2) (up h3) .no S4 q5 q6 q7 (.sh (.int (0 : Nat))) ([] ++ [pD (rat (mx a * crd 0 p0 + mx b * crd 0 p1 + mx c * crd 0 p2 + mx d * crd 0 p3) T)]) (by simp) hr'
  rw [hP] at e eg3 es3 eg4 es4 ⊢
  have hlen : b1D .len P = some (.sh, .int 4) := by rw [← hP]; rfl
  refine runR rfl ?_
  refine stepS (g' := [.sh P, .no, .no, .no, .no, .no, .no, .no, .no, .no]) ?_ ?_
  · show evS ct n (.ife _ _ _) [.sh P, .no, .no, .no, .no, .no, .no, .no, .no, .no] = _
    rw [evS_ife, evE_cmp, evE_b1]
    simp only [evE_var, List.getElem?_cons_zero, slV_sh, Option.bind_some, hlen]
    simp
  refine stepS (g' := [.sh P, .sh (.lst [.int a, .int b, .int c, .int d]), .no, .no, .no, .no, .no, .no, .no, .no]) (by simp [e]) ?_
  refine stepS (g' := [.sh P, .sh (.lst [.int a, .int b, .int c, .int d]), .sh (.int T), .no, .no, .no, .no, .no, .no, .no]) ?_ ?_
  · rw [evS_set, evE_b1, c0, Option.bind_some, sum_ints, posSum, hT]; simp
  refine stepS (g' := [.sh P, .sh (.lst [.int a, .int b, .int c, .int d]), .sh (.int T), .no, .ow [], .no, .no, .no, .no, .no]) (by simp) ?_
  refine stepS (g' := [.sh P, .sh (.lst [.int a, .int b, .int c, .int d]), .sh (.int T), .no, S4, q5, q6, q7, .no, .no]) ?_ ?_
  · rw [f_parted_L0, evS_fr]
    have ei : evI ct [.sh P, .sh (.lst [.int a, .int b, .int c, .int d]), .sh (.int T), .no, .ow [], .no, .no, .no, .no, .no] (.ex (.lst (.cons (.int 1) (.cons (.neg (.int 1)) .nil)))) = some (.sh, [.int 1, .int (-1)]) := by simp [itM]
    rw [ei, Option.bind_some, if_neg (fun z => by cases z), forF_nx eg1 es1, forF_nx eg2 es2, hS4]; rfl
  refine stepS (g' := [.sh P, .sh (.lst [.int a, .int b, .int c, .int d]), .sh (.int T), .no, S4, q5, q6, q7, .ow [], .no]) (by simp) ?_
  refine stepS (g' := [.sh P, .sh (.lst [.int a, .int b, .int c, .int d]), .sh (.int T), .no, S4, q5, q6, q7, .ow (([] ++ [pD (rat (mx a * crd 0 p0 + mx b * crd 0 p1 + mx c * crd 0 p2 + mx d * crd 0 p3) T)]) ++ [pD (rat (mx a * crd 1 p0 + mx b * crd 1 p1 + mx c * crd 1 p2 + mx d * crd 1 p3) T)]), .sh (.int (1 : Nat))]) ?_ ?_
  · rw [f_parted_L1, evS_fr]
    have ei : evI ct [.sh P, .sh (.lst [.int a, .int b, .int c, .int d]), .sh (.int T), .no, S4, q5, q6, q7, .ow [], .no] (.rng (.int 2)) = some (.sh, [.int (0 : Nat), .int (1 : Nat)]) := by
      have : rngOk (2 : Int) = true := rngOk_small _ (by omega)
      simp [this, rngL2]
    rw [ei, Option.bind_some, if_neg (fun z => by cases z), forF_nx eg3 es3, forF_nx eg4 es4]; rfl
  · subst hS4
    unfold partedD
    rw [hT]
    simp [crd, plD, wts]
end Ev
namespace Ev
open PySem L2
/-! ### the points of k51 .. k54 -/
theorem points_loop (ct : Ct) (n : Nat) (ns : List Int) (start : Nat) (way far : Int) (hf : 0 ≤ far ∧ far < 2147483587) (hm : ∀ k : Nat, k ≤ 5000 → ∃ v, (0 ≤ v ∧ v < 2147483587) ∧ ct 15 [.scr ns, .int k] = some (.sh, .int v)) (hs : start ≤ 1000) (many : Sl) : ∀ (m lo : Nat) (ps : List Pt) (s6 s7 s8 s9 : Sl), lo + m ≤ 1000 → ps.length + m ≤ 1000 → (∀ p ∈ ps, BP 64 p) →
    ∃ (qs : List Pt) (t6 t7 t8 t9 : Sl), qs.length = ps.length + m ∧ (∀ p ∈ qs, BP 64 p) ∧ forF (asg (.one 6)) (fun g => evSs ct n f_law_points_k51_B0 g) (rngL lo m) [.sh (.scr ns), .sh (.int start), many, .sh (.int way), .sh (.int far), .ow (ps.map pD), s6, s7, s8, s9] = some (.nx [.sh (.scr ns), .sh (.int start), many, .sh (.int way), .sh (.int far), .ow (qs.map pD), t6, t7, t8, t9])
  | 0, lo, ps, s6, s7, s8, s9, _, _, h => ⟨ps, s6, s7, s8, s9, rfl, h, rfl⟩
  | m + 1, lo, ps, s6, s7, s8, s9, h1, h2, h3 => by
    obtain ⟨v, hv, em⟩ := hm (start + 2 + lo) (by omega)
    have ek : (start : Int) + 2 + (lo : Int) = ((start + 2 + lo : Nat) : Int) := by omega
    rw [← ek] at em
    have p64 : (2 : Nat) ^ 64 = 18446744073709551616 := by decide
    have m9 : mulOk 2 1000000000 = true := B.ok (k := 2) (l := 40) (by unfold B; decide) (by unfold B; decide) (by omega)
    have m18 : mulOk 2 1000000000000000000 = true := B.ok (k := 2) (l := 70) (by unfold B; decide) (by unfold B; decide) (by omega)
    have mv : mulOk v far = true := B.ok (k := 32) (l := 32) (by unfold B; omega) (by unfold B; omega) (by omega)
    obtain ⟨x9, hx9, bx9⟩ : ∃ x, v % 9 - 4 = x ∧ -4 ≤ x ∧ x ≤ 4 := ⟨_, rfl, by omega, by omega⟩
    obtain ⟨f1, hf1, bf1⟩ : ∃ x, far % 3 - 1 = x ∧ -1 ≤ x ∧ x ≤ 1 := ⟨_, rfl, by omega, by omega⟩
    obtain ⟨f2, hf2, bf2⟩ : ∃ x, far / 3 % 3 - 1 = x ∧ -1 ≤ x ∧ x ≤ 1 := ⟨_, rfl, by omega, by omega⟩
    have mx1 : mulOk x9 f1 = true := B.ok (k := 4) (l := 4) (by unfold B; omega) (by unfold B; omega) (by omega)
    have mx2 : mulOk x9 f2 = true := B.ok (k := 4) (l := 4) (by unfold B; omega) (by unfold B; omega) (by omega)
    have bm1 : B 8 (x9 * f1) := B.mul (k := 4) (l := 4) (by unfold B; omega) (by unfold B; omega)
    have bm2 : B 8 (x9 * f2) := B.mul (k := 4) (l := 4) (by unfold B; omega) (by unfold B; omega)
    have lo' := lenOk_small (show ps.length ≤ 1000000 by omega)
    have step : ∃ (q : Pt) (t9 : Sl), BP 64 q ∧ evSs ct n f_law_points_k51_B0 [.sh (.scr ns), .sh (.int start), many, .sh (.int way), .sh (.int far), .ow (ps.map pD), .sh (.int lo), s7, s8, s9] = some (.nx [.sh (.scr ns), .sh (.int start), many, .sh (.int way), .sh (.int far), .ow ((ps ++ [q]).map pD), .sh (.int lo), .sh (.int v), .sh (pD q), t9]) := by
      by_cases w1 : way = 1
      · refine ⟨(v % 2000000000 - 1000000000, v * far % 2000000000000000000 - 1000000000000000000), s9, ⟨by unfold B; rw [p64]; simp only; omega, by unfold B; rw [p64]; simp only; omega⟩, ?_⟩
        simp [f_law_points_k51_B0, em, fmod_of, fdiv_of, divOk_small, w1, m9, m18, mv, lo', pD]
      · by_cases w2 : way = 2
        · refine ⟨(v % 201 - 100, v / 201 % 201 - 100), s9, ⟨by unfold B; rw [p64]; simp only; omega, by unfold B; rw [p64]; simp only; omega⟩, ?_⟩
          simp [f_law_points_k51_B0, em, fmod_of, fdiv_of, divOk_small, w2, m9, m18, mv, lo', pD]
        · by_cases w3 : way = 3
          · refine ⟨(x9 * f1 + 5, x9 * f2 - 2), .sh (.int x9), ⟨by unfold B at *; rw [p64]; simp only; omega, by unfold B at *; rw [p64]; simp only; omega⟩, ?_⟩
            simp [f_law_points_k51_B0, em, fmod_of, fdiv_of, divOk_small, w3, hx9, hf1, hf2, mx1, mx2, lo', pD]
          · refine ⟨(v % 5 - 2, v / 5 % 5 - 2), s9, ⟨by unfold B; rw [p64]; simp only; omega, by unfold B; rw [p64]; simp only; omega⟩, ?_⟩
            simp [f_law_points_k51_B0, em, fmod_of, fdiv_of, divOk_small, w1, w2, w3, lo', pD]
    obtain ⟨q, t9, bq, es⟩ := step
    obtain ⟨qs, u6, u7, u8, u9, k1, k2, k3⟩ := points_loop ct n ns start way far hf hm hs many m (lo + 1) (ps ++ [q]) (.sh (.int lo)) (.sh (.int v)) (.sh (pD q)) t9 (by omega) (by simp; omega) (fun p hp => by
      rcases List.mem_append.mp hp with hp | hp
      · exact h3 p hp
      · rw [List.mem_singleton.mp hp]; exact bq)
    refine ⟨qs, u6, u7, u8, u9, by rw [k1]; simp; omega, k2, ?_⟩
    rw [rngL_succ, forF_nx (g1 := [.sh (.scr ns), .sh (.int start), many, .sh (.int way), .sh (.int far), .ow (ps.map pD), .sh (.int lo), s7, s8, s9]) (by simp) es]
    exact k3
theorem ev_points_k51 (ct : Ct) (n : Nat) (ns : List Int) (start many : Nat) (hm : ∀ k : Nat, k ≤ 5000 → ∃ v, (0 ≤ v ∧ v < 2147483587) ∧ ct 15 [.scr ns, .int k] = some (.sh, .int v)) (hs : start ≤ 1000) (hk : many ≤ 500) :
    ∃ qs : List Pt, qs.length = many ∧ (∀ p ∈ qs, BP 64 p) ∧ runFn f_law_points_k51 ct n [.scr ns, .int start, .int many] = some (.fr, .lst (qs.map pD)) := by
  obtain ⟨v, hv, em⟩ := hm start (by omega)
  obtain ⟨f, hf, ef⟩ := hm (start + 1) (by omega)
  have ek : (start : Int) + 1 = ((start + 1 : Nat) : Int) := by omega
  rw [← ek] at ef
  obtain ⟨qs, t6, t7, t8, t9, k1, k2, k3⟩ := points_loop ct n ns start (v % 5) f hf hm hs (.sh (.int many)) many 0 [] .no .no .no .no (by omega) (by simp; omega) (fun p h => by cases h)
  refine ⟨qs, by rw [k1]; simp, k2, runR rfl ?_⟩
  refine stepS (g' := [.sh (.scr ns), .sh (.int start), .sh (.int many), .sh (.int (v % 5)), .no, .no, .no, .no, .no, .no]) (by simp [startE, f_law_points_k51, em, fmod_of]) ?_
  refine stepS (g' := [.sh (.scr ns), .sh (.int start), .sh (.int many), .sh (.int (v % 5)), .sh (.int f), .no, .no, .no, .no, .no]) (by simp [ef]) ?_
  refine stepS (g' := [.sh (.scr ns), .sh (.int start), .sh (.int many), .sh (.int (v % 5)), .sh (.int f), .ow [], .no, .no, .no, .no]) (by simp) ?_
  refine stepS (g' := [.sh (.scr ns), .sh (.int start), .sh (.int many), .sh (.int (v % 5)), .sh (.int f), .ow (qs.map pD), t6, t7, t8, t9]) ?_ (by simp)
  have : rngOk (many : Int) = true := rngOk_small _ (by omega)
  rw [f_law_points_k51_L0, evS_fr]
  simp [this]
  exact k3
theorem ev_parted_x (ct : Ct) (n : Nat) (ds : List D) {v : M × D} (hx : ct flagX [] = some v) (hl : ds.length ≠ 4) : runFn f_parted ct n [.lst ds] = some (.ex, .exc 5) := by
  have h : ¬ ((ds.length : Nat) : Int) = 4 := by omega
  refine runX (g' := startE f_parted [.lst ds]) rfl (stepX ?_)
  simp [startE, f_parted, hx, h]
theorem ev_caught (ct : Ct) (n : Nat) (d : D) {v : M × D} (hx : ct flagX [] = some v) (hr : ct 127 [d] = some (.ex, .exc 5)) : runFn f_law_caught ct n [d] = some (.sh, .exc 5) := by
  refine runR rfl ?_
  simp [f_law_caught, f_law_caught_B0, startE, hx, hr]
theorem ev_ranks_nil (ct : Ct) (n : Nat) : runFn f_ranks ct n [.lst []] = some (.fr, .lst []) := by
  have hc : evE ct [.sh (.lst []), .no, .no] f_ranks_C0 = some (.fr, .lst []) := evE_comp_of (m := .sh) (ds := []) (by simp [itM]) rfl rfl
  refine runR rfl ?_
  show evSs ct n (.cons (.ret f_ranks_C0) .nil) [.sh (.lst []), .no, .no] = _
  rw [evSs_cons, evS_ret, hc]; simp
structure C52 (ct : Ct) (ns : List Int) : Prop where
  flag : ∃ v, ct flagX [] = some v
  cell : ∀ (k : Nat), ct 1 [.scr ns, .int k] = some (.sh, .int (ns.getD k 0))
  points : ∀ many : Nat, many ≤ 100 → ∃ qs : List Pt, qs.length = many ∧ (∀ p ∈ qs, BP 64 p) ∧ ct 128 [.scr ns, .int 1, .int many] = some (.fr, .lst (qs.map pD))
  caught : ∀ ds : List D, ds.length ≠ 4 → ct 136 [.lst ds] = some (.sh, .exc 5)
  parted : ∀ p0 p1 p2 p3, BP 150 p0 → BP 150 p1 → BP 150 p2 → BP 150 p3 → ∃ a b c d e, ct 127 [.lst [pD p0, pD p1, pD p2, pD p3]] = some (.sh, .tup [a, b, c, d, e])
  ranks : ct 135 [.lst []] = some (.fr, .lst [])
theorem manyT (c : Int) : ∃ m : Nat, m ≤ 9 ∧ m ≠ 4 ∧ atI [D.int 0, D.int 1, D.int 2, D.int 3, D.int 5, D.int 6, D.int 7, D.int 8, D.int 9] (c % 9) = some (.int (m : Nat)) := by
  obtain ⟨r, hr⟩ : ∃ r : Nat, c % 9 = (r : Int) ∧ r < 9 := ⟨(c % 9).toNat, by omega, by omega⟩
  obtain ⟨hr, h9⟩ := hr
  rw [hr, atI_at rfl]
  have : r = 0 ∨ r = 1 ∨ r = 2 ∨ r = 3 ∨ r = 4 ∨ r = 5 ∨ r = 6 ∨ r = 7 ∨ r = 8 := by omega
  rcases this with rfl | rfl | rfl | rfl | rfl | rfl | rfl | rfl | rfl
  · exact ⟨0, by omega, by omega, rfl⟩
  · exact ⟨1, by omega, by omega, rfl⟩
  · exact ⟨2, by omega, by omega, rfl⟩
  · exact ⟨3, by omega, by omega, rfl⟩
  · exact ⟨5, by omega, by omega, rfl⟩
  · exact ⟨6, by omega, by omega, rfl⟩
  · exact ⟨7, by omega, by omega, rfl⟩
  · exact ⟨8, by omega, by omega, rfl⟩
  · exact ⟨9, by omega, by omega, rfl⟩
theorem eq_nil : cmpD .eq (.lst []) (.lst []) = some true := by
  rw [cmpD_eqD _ _ rfl rfl rfl rfl, deq_self]
theorem ev_k52 {ct : Ct} {ns : List Int} (C : C52 ct ns) (n : Nat) : runFn f_law_k52 ct n [.scr ns] = some (.sh, .bl true) := by
  obtain ⟨v, hx⟩ := C.flag
  have c0 : ct 1 [.scr ns, .int 0] = some (.sh, .int (ns.getD 0 0)) := C.cell 0
  obtain ⟨c, hc⟩ : ∃ c, ns.getD 0 0 = c := ⟨_, rfl⟩
  rw [hc] at c0
  obtain ⟨m, hm, h4, em⟩ := manyT c
  obtain ⟨qs, k1, k2, k3⟩ := C.points m (by omega)
  have e1 := C.caught (qs.map pD) (by simp; omega)
  obtain ⟨rs, hrs⟩ : ∃ rs : List Pt, (qs ++ [(0, 0), (1, 2), (3, 1), (0, 0)]).take 4 = rs := ⟨_, rfl⟩
  have lrs : rs.length = 4 := by rw [← hrs]; simp
  have brs : ∀ p ∈ rs, BP 150 p := fun p hp => by
    rw [← hrs] at hp
    rcases List.mem_append.mp (List.mem_of_mem_take hp) with hp | hp
    · exact ⟨(k2 p hp).1.mono (by omega), (k2 p hp).2.mono (by omega)⟩
    · have z : ∀ i : Int, -10 ≤ i → i ≤ 10 → B 150 i := fun i h1 h2 => (show B 5 i by unfold B; omega).mono (by omega)
      simp only [List.mem_cons, List.not_mem_nil, or_false] at hp
      rcases hp with rfl | rfl | rfl | rfl <;> exact ⟨z _ (by decide) (by decide), z _ (by decide) (by decide)⟩
  have hcut : cutD (qs.map pD ++ [pD (0, 0), pD (1, 2), pD (3, 1), pD (0, 0)]) none (some 4) = rs.map pD := by
    rw [show (4 : Int) = ((4 : Nat) : Int) from rfl, cutD_none_pos, ← hrs, List.map_take, List.map_append]; rfl
  match rs, lrs with
  | [p0, p1, p2, p3], _ =>
  obtain ⟨r1, r2, r3, r4, r5, e2⟩ := C.parted p0 p1 p2 p3 (brs _ (by simp)) (brs _ (by simp)) (brs _ (by simp)) (brs _ (by simp))
  refine runR rfl ?_
  refine stepS (g' := [.sh (.scr ns), .sh (.int (m : Nat)), .no, .no, .no, .no]) (by simp [startE, f_law_k52, c0, fmod_of, em, lenOk_small]) ?_
  refine stepS (g' := [.sh (.scr ns), .sh (.int (m : Nat)), .sh (.lst (qs.map pD)), .no, .no, .no]) (by simp [k3]) ?_
  refine stepS (g' := [.sh (.scr ns), .sh (.int (m : Nat)), .sh (.lst (qs.map pD)), .sh (.lst (qs.map pD)), .no, .no]) (by simp) ?_
  refine stepS (g' := [.sh (.scr ns), .sh (.int (m : Nat)), .sh (.lst (qs.map pD)), .sh (.lst (qs.map pD)), .sh (.exc 5), .no]) (by simp [e1]) ?_
  refine stepS (g' := [.sh (.scr ns), .sh (.int (m : Nat)), .sh (.lst (qs.map pD)), .sh (.lst (qs.map pD)), .sh (.exc 5), .no]) (by simp [hx, subX]) ?_
  refine stepS (g' := [.sh (.scr ns), .sh (.int (m : Nat)), .sh (.lst (qs.map pD)), .sh (.lst (qs.map pD)), .sh (.exc 5), .no]) (by simp [hx, subX]) ?_
  refine stepS (g' := [.sh (.scr ns), .sh (.int (m : Nat)), .sh (.lst (qs.map pD)), .sh (.lst (qs.map pD)), .sh (.exc 5), .sh (.tup [r1, r2, r3, r4, r5])]) ?_ ?_
  · have lo := lenOk_small (show qs.length + 4 ≤ 1000000 by omega)
    simp only [pD] at hcut e2
    simp [pD, lo, lenOk_small]
    simp only [List.map_cons, List.map_nil] at hcut
    simp [pD] at hcut ⊢
    simp [hcut, e2]
  · simp [C.ranks, eq_nil]
end Ev
namespace Law
open PySem PySem.Spec PyProof.Rows L2 Ev
def topS (i : Nat) : Stmt := PySem.Challenge.pw_deepspot_k52_not_four.main.body.getD i (.Pass ⟨0, 0, 0, 0⟩)
def names : List (Nat × Str) := [(0, "divisor"), (7, "ratio"), (13, "half"), (22, "other_side"), (34, "many_in"), (90, "put_in"), (91, "ways_from"), (92, "gaps_between"), (93, "along"), (94, "depth"), (124, "turned"), (125, "on_a_line"), (126, "balance"), (127, "parted"), (135, "ranks"), (1, "_law_cell_at"), (14, "_law_block"), (15, "_law_mixed"), (128, "_law_points"), (136, "_law_caught"), (137, "law")]
def tbl : List (Nat × Fn) := [(137, f_law_k52), (136, f_law_caught), (128, f_law_points_k51), (15, f_law_mixed), (14, f_law_block), (1, f_law_cell_at), (135, f_ranks), (127, f_parted), (126, f_balance), (125, f_on_a_line), (124, f_turned), (94, f_depth), (93, f_along), (92, f_gaps_between), (91, f_ways_from), (90, f_put_in), (34, f_many_in), (22, f_other_side), (13, f_half), (7, f_ratio), (0, f_divisor), (flagX, fnX)]
theorem sc_8 : FnScope ["one", "other"] ["one", "other"] (defScope (topS 8)) := ⟨rfl, rfl, rfl, by decide +kernel, rfl, by decide +kernel, by decide +kernel⟩
theorem ok_8 : okFn (nmOf names) ["one", "other"] ["one", "other"] f_divisor (topS 8) = true := by decide +kernel
theorem sc_9 : FnScope ["top", "bottom", "by"] ["top", "bottom"] (defScope (topS 9)) := ⟨rfl, rfl, rfl, by decide +kernel, rfl, by decide +kernel, by decide +kernel⟩
theorem ok_9 : okFn (nmOf names) ["top", "bottom", "by"] ["top", "bottom"] f_ratio (topS 9) = true := by decide +kernel
theorem sc_11 : FnScope ["a", "b", "c", "by"] ["a", "b", "c"] (defScope (topS 11)) := ⟨rfl, rfl, rfl, by decide +kernel, rfl, by decide +kernel, by decide +kernel⟩
theorem ok_11 : okFn (nmOf names) ["a", "b", "c", "by"] ["a", "b", "c"] f_half (topS 11) = true := by decide +kernel
theorem sc_12 : FnScope ["one"] ["one"] (defScope (topS 12)) := ⟨rfl, rfl, rfl, by decide +kernel, rfl, by decide +kernel, by decide +kernel⟩
theorem ok_12 : okFn (nmOf names) ["one"] ["one"] f_other_side (topS 12) = true := by decide +kernel
theorem sc_13 : FnScope ["one", "points", "x", "y"] ["one", "points"] (defScope (topS 13)) := ⟨rfl, rfl, rfl, by decide +kernel, rfl, by decide +kernel, by decide +kernel⟩
theorem ok_13 : okFn (nmOf names) ["one", "points", "x", "y"] ["one", "points"] f_many_in (topS 13) = true := by decide +kernel
theorem sc_16 : FnScope ["ways", "way", "at", "one", "turn"] ["ways", "way"] (defScope (topS 16)) := ⟨rfl, rfl, rfl, by decide +kernel, rfl, by decide +kernel, by decide +kernel⟩
theorem ok_16 : okFn (nmOf names) ["ways", "way", "at", "one", "turn"] ["ways", "way"] f_put_in (topS 16) = true := by decide +kernel
theorem sc_15 : FnScope ["points", "spot", "x", "y", "share", "found", "point", "way"] ["points", "spot"] (defScope (topS 15)) := ⟨rfl, rfl, rfl, by decide +kernel, rfl, by decide +kernel, by decide +kernel⟩
theorem ok_15 : okFn (nmOf names) ["points", "spot", "x", "y", "share", "found", "point", "way"] ["points", "spot"] f_ways_from (topS 15) = true := by decide +kernel
theorem sc_17 : FnScope ["ways", "found", "k"] ["ways"] (defScope (topS 17)) := ⟨rfl, rfl, rfl, by decide +kernel, rfl, by decide +kernel, by decide +kernel⟩
theorem ok_17 : okFn (nmOf names) ["ways", "found", "k"] ["ways"] f_gaps_between (topS 17) = true := by decide +kernel
theorem sc_18 : FnScope ["way", "spot", "x", "y", "a", "b"] ["way", "spot"] (defScope (topS 18)) := ⟨rfl, rfl, rfl, by decide +kernel, rfl, by decide +kernel, by decide +kernel⟩
theorem ok_18 : okFn (nmOf names) ["way", "spot", "x", "y", "a", "b"] ["way", "spot"] f_along (topS 18) = true := by decide +kernel
theorem sc_19 : FnScope ["points", "spot", "found", "way", "left", "one", "many"] ["points", "spot"] (defScope (topS 19)) := ⟨rfl, rfl, rfl, by decide +kernel, rfl, by decide +kernel, by decide +kernel⟩
theorem ok_19 : okFn (nmOf names) ["points", "spot", "found", "way", "left", "one", "many"] ["points", "spot"] f_depth (topS 19) = true := by decide +kernel
theorem sc_21 : FnScope ["one", "two", "three"] ["one", "two", "three"] (defScope (topS 21)) := ⟨rfl, rfl, rfl, by decide +kernel, rfl, by decide +kernel, by decide +kernel⟩
theorem ok_21 : okFn (nmOf names) ["one", "two", "three"] ["one", "two", "three"] f_turned (topS 21) = true := by decide +kernel
theorem sc_22 : FnScope ["points", "at", "one", "two", "three", "point"] ["points"] (defScope (topS 22)) := ⟨rfl, rfl, rfl, by decide +kernel, rfl, by decide +kernel, by decide +kernel⟩
theorem ok_22 : okFn (nmOf names) ["points", "at", "one", "two", "three", "point"] ["points"] f_on_a_line (topS 22) = true := by decide +kernel
theorem sc_23 : FnScope ["points", "k", "j", "found", "one", "two", "three"] ["points"] (defScope (topS 23)) := ⟨rfl, rfl, rfl, by decide +kernel, rfl, by decide +kernel, by decide +kernel⟩
theorem ok_23 : okFn (nmOf names) ["points", "k", "j", "found", "one", "two", "three"] ["points"] f_balance (topS 23) = true := by decide +kernel
theorem sc_24 : FnScope ["points", "numbers", "total", "number", "parts", "sign", "places", "k", "spot", "at"] ["points"] (defScope (topS 24)) := ⟨rfl, rfl, rfl, by decide +kernel, rfl, by decide +kernel, by decide +kernel⟩
theorem ok_24 : okFn (nmOf names) ["points", "numbers", "total", "number", "parts", "sign", "places", "k", "spot", "at"] ["points"] f_parted (topS 24) = true := by decide +kernel
theorem sc_25 : FnScope ["points", "x", "y"] ["points"] (defScope (topS 25)) := ⟨rfl, rfl, rfl, by decide +kernel, rfl, by decide +kernel, by decide +kernel⟩
theorem ok_25 : okFn (nmOf names) ["points", "x", "y"] ["points"] f_ranks (topS 25) = true := by decide +kernel
theorem sc_27 : FnScope ["_law_script", "_law_k"] ["_law_script", "_law_k"] (defScope (topS 27)) := ⟨rfl, rfl, rfl, by decide +kernel, rfl, by decide +kernel, by decide +kernel⟩
theorem ok_27 : okFn (nmOf names) ["_law_script", "_law_k"] ["_law_script", "_law_k"] f_law_cell_at (topS 27) = true := by decide +kernel
theorem sc_29 : FnScope ["_law_script", "_law_k", "_law_cell", "_law_j"] ["_law_script", "_law_k"] (defScope (topS 29)) := ⟨rfl, rfl, rfl, by decide +kernel, rfl, by decide +kernel, by decide +kernel⟩
theorem ok_29 : okFn (nmOf names) ["_law_script", "_law_k", "_law_cell", "_law_j"] ["_law_script", "_law_k"] f_law_block (topS 29) = true := by decide +kernel
theorem sc_30 : FnScope ["_law_script", "_law_k", "_law_cell", "_law_number"] ["_law_script", "_law_k"] (defScope (topS 30)) := ⟨rfl, rfl, rfl, by decide +kernel, rfl, by decide +kernel, by decide +kernel⟩
theorem ok_30 : okFn (nmOf names) ["_law_script", "_law_k", "_law_cell", "_law_number"] ["_law_script", "_law_k"] f_law_mixed (topS 30) = true := by decide +kernel
theorem sc_31 : FnScope ["_law_script", "_law_start", "_law_many", "_law_way", "_law_far", "_law_found", "_law_k", "_law_number", "_law_point", "_law_step"] ["_law_script", "_law_start", "_law_many"] (defScope (topS 31)) := ⟨rfl, rfl, rfl, by decide +kernel, rfl, by decide +kernel, by decide +kernel⟩
theorem ok_31 : okFn (nmOf names) ["_law_script", "_law_start", "_law_many", "_law_way", "_law_far", "_law_found", "_law_k", "_law_number", "_law_point", "_law_step"] ["_law_script", "_law_start", "_law_many"] f_law_points_k51 (topS 31) = true := by decide +kernel
theorem sc_32 : FnScope ["_law_points_here", "_law_caught_here", "e"] ["_law_points_here"] (defScope (topS 32)) := ⟨rfl, rfl, rfl, by decide +kernel, rfl, by decide +kernel, by decide +kernel⟩
theorem ok_32 : okFn (nmOf names) ["_law_points_here", "_law_caught_here", "e"] ["_law_points_here"] f_law_caught (topS 32) = true := by decide +kernel
theorem sc_33 : FnScope ["_law_script", "_law_many", "_law_points_here", "_law_handed", "_law_caught_here", "_law_found"] ["_law_script"] (defScope (topS 33)) := ⟨rfl, rfl, rfl, by decide +kernel, rfl, by decide +kernel, by decide +kernel⟩
theorem ok_33 : okFn (nmOf names) ["_law_script", "_law_many", "_law_points_here", "_law_handed", "_law_caught_here", "_law_found"] ["_law_script"] f_law_k52 (topS 33) = true := by decide +kernel
theorem pure_law : ∀ ns : List Int, ns.length ≤ 63 → callT fuel tbl 137 [.scr ns] = some (.sh, .bl true) := by
  intro ns hl
  have big : 2 * 8000 < fuel := by unfold fuel; decide
  have hd : ∀ t : List (Nat × Fn), ∀ a b, B 8000 b → runFn f_divisor (callT fuel t) fuel [.int a, .int b] = some (.sh, .int (Int.gcd a b : Nat)) := fun t a b hb => ev_divisor _ _ a b 8000 hb big
  have hb : ∀ t : List (Nat × Fn), ∀ k : Nat, ∃ v, runFn f_law_block (callT fuel t) fuel [.scr ns, .int k] = some (.sh, .int v) := fun t k => ev_block _ _ ns k
  have hm : ∀ t : List (Nat × Fn), (∀ k : Nat, ∃ v, callT fuel t 14 [.scr ns, .int k] = some (.sh, .int v)) → ∀ k : Nat, k ≤ 5000 → ∃ v, (0 ≤ v ∧ v < 2147483587) ∧ runFn f_law_mixed (callT fuel t) fuel [.scr ns, .int k] = some (.sh, .int v) := fun t h k hk => ev_mixed _ _ ns k (by omega) (h k)
  have hx : ∃ v, runFn fnX (callT fuel []) fuel [] = some v := ⟨_, by rw [runFn_eq _ _ _ _ rfl]; simp [fnX, startE]; rfl⟩
  obtain ⟨v, hx⟩ := hx
  have C : C52 (callT fuel tbl.tail) ns := by
    unfold tbl
    rw [List.tail_cons]
    refine ⟨⟨v, by simp [callT_hit, callT_miss, flagX, hx]⟩, fun k => by simp [callT_hit, callT_miss, ev_cell_at], fun many hmany => ?_, fun ds hds => ?_, fun p0 p1 p2 p3 h0 h1 h2 h3 => ?_, ?_⟩
    · simp only [callT_hit, callT_miss, ne_eq, Nat.reduceEqDiff, not_false_eq_true]
      refine ev_points_k51 _ _ ns 1 many (fun k hk => ?_) (by omega) (by omega)
      simp only [callT_hit, callT_miss, ne_eq, Nat.reduceEqDiff, not_false_eq_true]
      exact hm _ (fun k => by simp only [callT_hit]; exact hb _ k) k hk
    · simp only [callT_hit]
      refine ev_caught _ _ _ (v := v) (by simp [callT_hit, callT_miss, flagX, hx]) ?_
      simp only [callT_hit, callT_miss, ne_eq, Nat.reduceEqDiff, not_false_eq_true]
      exact ev_parted_x _ _ ds (v := v) (by simp [callT_hit, callT_miss, flagX, hx]) hds
    · simp only [callT_hit, callT_miss, ne_eq, Nat.reduceEqDiff, not_false_eq_true]
      have hbal : ∀ t : List (Nat × Fn), (∀ p q r, BP 150 p → BP 150 q → BP 150 r → callT fuel t 124 [pD p, pD q, pD r] = some (.sh, .int (T3 p q r))) → (callT fuel t 125 [.lst [pD p0, pD p1, pD p2, pD p3]] = some (.fr, if p0.1 = p1.1 then .lst [.int (p1.2 - p2.2), .int (p2.2 - p0.2), .int (p0.2 - p1.2), .int 0] else .lst [.int (p1.1 - p2.1), .int (p2.1 - p0.1), .int (p0.1 - p1.1), .int 0])) →
          ∃ a b c d, Bal 303 p0 p1 p2 p3 a b c d ∧ runFn f_balance (callT fuel t) fuel [.lst [pD p0, pD p1, pD p2, pD p3]] = some (.fr, .lst [.int a, .int b, .int c, .int d]) :=
        fun t ht hl => ev_balance _ _ p0 p1 p2 p3 150 (by omega) h0 h1 h2 h3 ht hl
      obtain ⟨a, b, c, d, hB, e⟩ := hbal [(125, f_on_a_line), (124, f_turned), (94, f_depth), (93, f_along), (92, f_gaps_between), (91, f_ways_from), (90, f_put_in), (34, f_many_in), (22, f_other_side), (13, f_half), (7, f_ratio), (0, f_divisor), (flagX, fnX)] (fun p q r hp hq hr => by
        simp only [callT_hit, callT_miss, ne_eq, Nat.reduceEqDiff, not_false_eq_true]
        exact ev_turned _ _ p q r 150 hp hq hr (by omega)) (by
        simp only [callT_hit]
        exact ev_on_a_line _ _ p0 p1 p2 p3)
      refine ⟨_, _, _, _, _, ev_parted fuel p0 p1 p2 p3 a b c d h0 h1 h2 h3 hB (by rw [callT_hit]; exact e) (fun t T ht hT h0 => ?_)⟩
      simp only [callT_hit, callT_miss, ne_eq, Nat.reduceEqDiff, not_false_eq_true]
      obtain ⟨p, q, F, _, _, e⟩ := ev_ratio (callT fuel [(0, f_divisor), (flagX, fnX)]) fuel t T 1000 (by simp [callT_hit, hd, hT.mono (show 1000 ≤ 8000 by omega)]) ht hT (by omega) h0
      rw [e, rat_of h0 F]; rfl
    · simp only [callT_hit, callT_miss, ne_eq, Nat.reduceEqDiff, not_false_eq_true]
      exact ev_ranks_nil _ _
  have := ev_k52 C fuel
  rw [tbl, callT_hit]; exact this
set_option maxHeartbeats 0 in
theorem all_mk {l : PySem.W.OpenLaw} {w : World} {K : PySem.W.Frag} {h : Heap} {mg : Str → Option Value} {fa : Addr} (X : K.In h) (G : h.Ns mainGlobals mg) (hfa : mg "law" = some (.ref fa)) (pure_ : ∀ ns : List Int, ns.length ≤ 63 → callT fuel tbl 137 [.scr ns] = some (.sh, .bl true))
    {f8 : Addr} {od8 an8 : Option Addr} {sl8 : Array (Option Value)} {oc8 kV8 dc8 pm8 cd8 ct8 : Value}
    {f9 : Addr} {od9 an9 : Option Addr} {sl9 : Array (Option Value)} {oc9 kV9 dc9 pm9 cd9 ct9 : Value}
    {f11 : Addr} {od11 an11 : Option Addr} {sl11 : Array (Option Value)} {oc11 kV11 dc11 pm11 cd11 ct11 : Value}
    {f12 : Addr} {od12 an12 : Option Addr} {sl12 : Array (Option Value)} {oc12 kV12 dc12 pm12 cd12 ct12 : Value}
    {f13 : Addr} {od13 an13 : Option Addr} {sl13 : Array (Option Value)} {oc13 kV13 dc13 pm13 cd13 ct13 : Value}
    {f16 : Addr} {od16 an16 : Option Addr} {sl16 : Array (Option Value)} {oc16 kV16 dc16 pm16 cd16 ct16 : Value}
    {f15 : Addr} {od15 an15 : Option Addr} {sl15 : Array (Option Value)} {oc15 kV15 dc15 pm15 cd15 ct15 : Value}
    {f17 : Addr} {od17 an17 : Option Addr} {sl17 : Array (Option Value)} {oc17 kV17 dc17 pm17 cd17 ct17 : Value}
    {f18 : Addr} {od18 an18 : Option Addr} {sl18 : Array (Option Value)} {oc18 kV18 dc18 pm18 cd18 ct18 : Value}
    {f19 : Addr} {od19 an19 : Option Addr} {sl19 : Array (Option Value)} {oc19 kV19 dc19 pm19 cd19 ct19 : Value}
    {f21 : Addr} {od21 an21 : Option Addr} {sl21 : Array (Option Value)} {oc21 kV21 dc21 pm21 cd21 ct21 : Value}
    {f22 : Addr} {od22 an22 : Option Addr} {sl22 : Array (Option Value)} {oc22 kV22 dc22 pm22 cd22 ct22 : Value}
    {f23 : Addr} {od23 an23 : Option Addr} {sl23 : Array (Option Value)} {oc23 kV23 dc23 pm23 cd23 ct23 : Value}
    {f24 : Addr} {od24 an24 : Option Addr} {sl24 : Array (Option Value)} {oc24 kV24 dc24 pm24 cd24 ct24 : Value}
    {f25 : Addr} {od25 an25 : Option Addr} {sl25 : Array (Option Value)} {oc25 kV25 dc25 pm25 cd25 ct25 : Value}
    {f27 : Addr} {od27 an27 : Option Addr} {sl27 : Array (Option Value)} {oc27 kV27 dc27 pm27 cd27 ct27 : Value}
    {f29 : Addr} {od29 an29 : Option Addr} {sl29 : Array (Option Value)} {oc29 kV29 dc29 pm29 cd29 ct29 : Value}
    {f30 : Addr} {od30 an30 : Option Addr} {sl30 : Array (Option Value)} {oc30 kV30 dc30 pm30 cd30 ct30 : Value}
    {f31 : Addr} {od31 an31 : Option Addr} {sl31 : Array (Option Value)} {oc31 kV31 dc31 pm31 cd31 ct31 : Value}
    {f32 : Addr} {od32 an32 : Option Addr} {sl32 : Array (Option Value)} {oc32 kV32 dc32 pm32 cd32 ct32 : Value}
    {f33 : Addr} {od33 an33 : Option Addr} {sl33 : Array (Option Value)} {oc33 kV33 dc33 pm33 cd33 ct33 : Value}
    (a8 : PySem.W.nsIn K mainGlobals "divisor" = some (some (.ref f8))) (l8 : K.lookup f8 = some ⟨oc8, od8, .func (PySem.W.fnOf "divisor" "divisor" (defArgs (topS 8)) (defBody (topS 8)) (defScope (topS 8)) .none kV8 dc8 pm8 an8 cd8 ct8), sl8⟩) (c8 : PySem.W.codeIn K cd8 "divisor" = true) (k8 : PySem.W.keepIn K (.ref f8) = true)
    (a9 : PySem.W.nsIn K mainGlobals "ratio" = some (some (.ref f9))) (l9 : K.lookup f9 = some ⟨oc9, od9, .func (PySem.W.fnOf "ratio" "ratio" (defArgs (topS 9)) (defBody (topS 9)) (defScope (topS 9)) .none kV9 dc9 pm9 an9 cd9 ct9), sl9⟩) (c9 : PySem.W.codeIn K cd9 "ratio" = true) (k9 : PySem.W.keepIn K (.ref f9) = true)
    (a11 : PySem.W.nsIn K mainGlobals "half" = some (some (.ref f11))) (l11 : K.lookup f11 = some ⟨oc11, od11, .func (PySem.W.fnOf "half" "half" (defArgs (topS 11)) (defBody (topS 11)) (defScope (topS 11)) .none kV11 dc11 pm11 an11 cd11 ct11), sl11⟩) (c11 : PySem.W.codeIn K cd11 "half" = true) (k11 : PySem.W.keepIn K (.ref f11) = true)
    (a12 : PySem.W.nsIn K mainGlobals "other_side" = some (some (.ref f12))) (l12 : K.lookup f12 = some ⟨oc12, od12, .func (PySem.W.fnOf "other_side" "other_side" (defArgs (topS 12)) (defBody (topS 12)) (defScope (topS 12)) .none kV12 dc12 pm12 an12 cd12 ct12), sl12⟩) (c12 : PySem.W.codeIn K cd12 "other_side" = true) (k12 : PySem.W.keepIn K (.ref f12) = true)
    (a13 : PySem.W.nsIn K mainGlobals "many_in" = some (some (.ref f13))) (l13 : K.lookup f13 = some ⟨oc13, od13, .func (PySem.W.fnOf "many_in" "many_in" (defArgs (topS 13)) (defBody (topS 13)) (defScope (topS 13)) .none kV13 dc13 pm13 an13 cd13 ct13), sl13⟩) (c13 : PySem.W.codeIn K cd13 "many_in" = true) (k13 : PySem.W.keepIn K (.ref f13) = true)
    (a16 : PySem.W.nsIn K mainGlobals "put_in" = some (some (.ref f16))) (l16 : K.lookup f16 = some ⟨oc16, od16, .func (PySem.W.fnOf "put_in" "put_in" (defArgs (topS 16)) (defBody (topS 16)) (defScope (topS 16)) .none kV16 dc16 pm16 an16 cd16 ct16), sl16⟩) (c16 : PySem.W.codeIn K cd16 "put_in" = true) (k16 : PySem.W.keepIn K (.ref f16) = true)
    (a15 : PySem.W.nsIn K mainGlobals "ways_from" = some (some (.ref f15))) (l15 : K.lookup f15 = some ⟨oc15, od15, .func (PySem.W.fnOf "ways_from" "ways_from" (defArgs (topS 15)) (defBody (topS 15)) (defScope (topS 15)) .none kV15 dc15 pm15 an15 cd15 ct15), sl15⟩) (c15 : PySem.W.codeIn K cd15 "ways_from" = true) (k15 : PySem.W.keepIn K (.ref f15) = true)
    (a17 : PySem.W.nsIn K mainGlobals "gaps_between" = some (some (.ref f17))) (l17 : K.lookup f17 = some ⟨oc17, od17, .func (PySem.W.fnOf "gaps_between" "gaps_between" (defArgs (topS 17)) (defBody (topS 17)) (defScope (topS 17)) .none kV17 dc17 pm17 an17 cd17 ct17), sl17⟩) (c17 : PySem.W.codeIn K cd17 "gaps_between" = true) (k17 : PySem.W.keepIn K (.ref f17) = true)
    (a18 : PySem.W.nsIn K mainGlobals "along" = some (some (.ref f18))) (l18 : K.lookup f18 = some ⟨oc18, od18, .func (PySem.W.fnOf "along" "along" (defArgs (topS 18)) (defBody (topS 18)) (defScope (topS 18)) .none kV18 dc18 pm18 an18 cd18 ct18), sl18⟩) (c18 : PySem.W.codeIn K cd18 "along" = true) (k18 : PySem.W.keepIn K (.ref f18) = true)
    (a19 : PySem.W.nsIn K mainGlobals "depth" = some (some (.ref f19))) (l19 : K.lookup f19 = some ⟨oc19, od19, .func (PySem.W.fnOf "depth" "depth" (defArgs (topS 19)) (defBody (topS 19)) (defScope (topS 19)) .none kV19 dc19 pm19 an19 cd19 ct19), sl19⟩) (c19 : PySem.W.codeIn K cd19 "depth" = true) (k19 : PySem.W.keepIn K (.ref f19) = true)
    (a21 : PySem.W.nsIn K mainGlobals "turned" = some (some (.ref f21))) (l21 : K.lookup f21 = some ⟨oc21, od21, .func (PySem.W.fnOf "turned" "turned" (defArgs (topS 21)) (defBody (topS 21)) (defScope (topS 21)) .none kV21 dc21 pm21 an21 cd21 ct21), sl21⟩) (c21 : PySem.W.codeIn K cd21 "turned" = true) (k21 : PySem.W.keepIn K (.ref f21) = true)
    (a22 : PySem.W.nsIn K mainGlobals "on_a_line" = some (some (.ref f22))) (l22 : K.lookup f22 = some ⟨oc22, od22, .func (PySem.W.fnOf "on_a_line" "on_a_line" (defArgs (topS 22)) (defBody (topS 22)) (defScope (topS 22)) .none kV22 dc22 pm22 an22 cd22 ct22), sl22⟩) (c22 : PySem.W.codeIn K cd22 "on_a_line" = true) (k22 : PySem.W.keepIn K (.ref f22) = true)
    (a23 : PySem.W.nsIn K mainGlobals "balance" = some (some (.ref f23))) (l23 : K.lookup f23 = some ⟨oc23, od23, .func (PySem.W.fnOf "balance" "balance" (defArgs (topS 23)) (defBody (topS 23)) (defScope (topS 23)) .none kV23 dc23 pm23 an23 cd23 ct23), sl23⟩) (c23 : PySem.W.codeIn K cd23 "balance" = true) (k23 : PySem.W.keepIn K (.ref f23) = true)
    (a24 : PySem.W.nsIn K mainGlobals "parted" = some (some (.ref f24))) (l24 : K.lookup f24 = some ⟨oc24, od24, .func (PySem.W.fnOf "parted" "parted" (defArgs (topS 24)) (defBody (topS 24)) (defScope (topS 24)) .none kV24 dc24 pm24 an24 cd24 ct24), sl24⟩) (c24 : PySem.W.codeIn K cd24 "parted" = true) (k24 : PySem.W.keepIn K (.ref f24) = true)
    (a25 : PySem.W.nsIn K mainGlobals "ranks" = some (some (.ref f25))) (l25 : K.lookup f25 = some ⟨oc25, od25, .func (PySem.W.fnOf "ranks" "ranks" (defArgs (topS 25)) (defBody (topS 25)) (defScope (topS 25)) .none kV25 dc25 pm25 an25 cd25 ct25), sl25⟩) (c25 : PySem.W.codeIn K cd25 "ranks" = true) (k25 : PySem.W.keepIn K (.ref f25) = true)
    (a27 : PySem.W.nsIn K mainGlobals "_law_cell_at" = some (some (.ref f27))) (l27 : K.lookup f27 = some ⟨oc27, od27, .func (PySem.W.fnOf "_law_cell_at" "_law_cell_at" (defArgs (topS 27)) (defBody (topS 27)) (defScope (topS 27)) .none kV27 dc27 pm27 an27 cd27 ct27), sl27⟩) (c27 : PySem.W.codeIn K cd27 "_law_cell_at" = true) (k27 : PySem.W.keepIn K (.ref f27) = true)
    (a29 : PySem.W.nsIn K mainGlobals "_law_block" = some (some (.ref f29))) (l29 : K.lookup f29 = some ⟨oc29, od29, .func (PySem.W.fnOf "_law_block" "_law_block" (defArgs (topS 29)) (defBody (topS 29)) (defScope (topS 29)) .none kV29 dc29 pm29 an29 cd29 ct29), sl29⟩) (c29 : PySem.W.codeIn K cd29 "_law_block" = true) (k29 : PySem.W.keepIn K (.ref f29) = true)
    (a30 : PySem.W.nsIn K mainGlobals "_law_mixed" = some (some (.ref f30))) (l30 : K.lookup f30 = some ⟨oc30, od30, .func (PySem.W.fnOf "_law_mixed" "_law_mixed" (defArgs (topS 30)) (defBody (topS 30)) (defScope (topS 30)) .none kV30 dc30 pm30 an30 cd30 ct30), sl30⟩) (c30 : PySem.W.codeIn K cd30 "_law_mixed" = true) (k30 : PySem.W.keepIn K (.ref f30) = true)
    (a31 : PySem.W.nsIn K mainGlobals "_law_points" = some (some (.ref f31))) (l31 : K.lookup f31 = some ⟨oc31, od31, .func (PySem.W.fnOf "_law_points" "_law_points" (defArgs (topS 31)) (defBody (topS 31)) (defScope (topS 31)) .none kV31 dc31 pm31 an31 cd31 ct31), sl31⟩) (c31 : PySem.W.codeIn K cd31 "_law_points" = true) (k31 : PySem.W.keepIn K (.ref f31) = true)
    (a32 : PySem.W.nsIn K mainGlobals "_law_caught" = some (some (.ref f32))) (l32 : K.lookup f32 = some ⟨oc32, od32, .func (PySem.W.fnOf "_law_caught" "_law_caught" (defArgs (topS 32)) (defBody (topS 32)) (defScope (topS 32)) .none kV32 dc32 pm32 an32 cd32 ct32), sl32⟩) (c32 : PySem.W.codeIn K cd32 "_law_caught" = true) (k32 : PySem.W.keepIn K (.ref f32) = true)
    (a33 : PySem.W.nsIn K mainGlobals "law" = some (some (.ref f33))) (l33 : K.lookup f33 = some ⟨oc33, od33, .func (PySem.W.fnOf "law" "law" (defArgs (topS 33)) (defBody (topS 33)) (defScope (topS 33)) .none kV33 dc33 pm33 an33 cd33 ct33), sl33⟩) (c33 : PySem.W.codeIn K cd33 "law" = true) (k33 : PySem.W.keepIn K (.ref f33) = true)
    {C0 C1 C2 C3 C4 C5 : Addr}
    (xa0 : PySem.W.nsIn K mainGlobals "SpotError" = some (some (.ref C0)))
    (xk0 : PySem.W.keepIn K (.ref C0) = true)
    (xt0 : PySem.W.typeIn K (.ref C0) = some (.type "type"))
    (xx0 : PySem.W.excIn K C0 [.type "ValueError", .type "Exception", .type "BaseException", .type "object"] "ValueError.__new__" = true)
    (xv0 : PySem.W.subIn K (.ref C0) (.type "ValueError") = some true)
    (xg0 : PySem.W.findIn K (.ref C0) "__getattribute__" = some (some (.builtin "BaseException.__getattribute__")))
    (xh0 : PySem.W.findIn K (.ref C0) "__getattr__" = some none)
    (xs0 : PySem.W.subIn K (.ref C0) (.type "BaseException") = some true)
    (xd0 : PySem.W.hasDictIn K C0 = true)
    (xb0 : PySem.W.findIn K (.ref C0) "__class__" = some (some (.builtin "object.__class__")))
    (xm0 : PySem.W.mroIn K C0 (.type "object") = some true)
    (xa1 : PySem.W.nsIn K mainGlobals "NoNumber" = some (some (.ref C1)))
    (xk1 : PySem.W.keepIn K (.ref C1) = true)
    (xt1 : PySem.W.typeIn K (.ref C1) = some (.type "type"))
    (xx1 : PySem.W.excIn K C1 [.type "ValueError", .type "Exception", .type "BaseException", .type "object"] "ValueError.__new__" = true)
    (xv1 : PySem.W.subIn K (.ref C1) (.type "ValueError") = some true)
    (xg1 : PySem.W.findIn K (.ref C1) "__getattribute__" = some (some (.builtin "BaseException.__getattribute__")))
    (xh1 : PySem.W.findIn K (.ref C1) "__getattr__" = some none)
    (xs1 : PySem.W.subIn K (.ref C1) (.type "BaseException") = some true)
    (xd1 : PySem.W.hasDictIn K C1 = true)
    (xb1 : PySem.W.findIn K (.ref C1) "__class__" = some (some (.builtin "object.__class__")))
    (xm1 : PySem.W.mroIn K C1 (.type "object") = some true)
    (xa2 : PySem.W.nsIn K mainGlobals "NoHalf" = some (some (.ref C2)))
    (xk2 : PySem.W.keepIn K (.ref C2) = true)
    (xt2 : PySem.W.typeIn K (.ref C2) = some (.type "type"))
    (xx2 : PySem.W.excIn K C2 [.type "ValueError", .type "Exception", .type "BaseException", .type "object"] "ValueError.__new__" = true)
    (xv2 : PySem.W.subIn K (.ref C2) (.type "ValueError") = some true)
    (xg2 : PySem.W.findIn K (.ref C2) "__getattribute__" = some (some (.builtin "BaseException.__getattribute__")))
    (xh2 : PySem.W.findIn K (.ref C2) "__getattr__" = some none)
    (xs2 : PySem.W.subIn K (.ref C2) (.type "BaseException") = some true)
    (xd2 : PySem.W.hasDictIn K C2 = true)
    (xb2 : PySem.W.findIn K (.ref C2) "__class__" = some (some (.builtin "object.__class__")))
    (xm2 : PySem.W.mroIn K C2 (.type "object") = some true)
    (xa3 : PySem.W.nsIn K mainGlobals "NoPoints" = some (some (.ref C3)))
    (xk3 : PySem.W.keepIn K (.ref C3) = true)
    (xt3 : PySem.W.typeIn K (.ref C3) = some (.type "type"))
    (xx3 : PySem.W.excIn K C3 [.type "ValueError", .type "Exception", .type "BaseException", .type "object"] "ValueError.__new__" = true)
    (xv3 : PySem.W.subIn K (.ref C3) (.type "ValueError") = some true)
    (xg3 : PySem.W.findIn K (.ref C3) "__getattribute__" = some (some (.builtin "BaseException.__getattribute__")))
    (xh3 : PySem.W.findIn K (.ref C3) "__getattr__" = some none)
    (xs3 : PySem.W.subIn K (.ref C3) (.type "BaseException") = some true)
    (xd3 : PySem.W.hasDictIn K C3 = true)
    (xb3 : PySem.W.findIn K (.ref C3) "__class__" = some (some (.builtin "object.__class__")))
    (xm3 : PySem.W.mroIn K C3 (.type "object") = some true)
    (xa4 : PySem.W.nsIn K mainGlobals "NoDepth" = some (some (.ref C4)))
    (xk4 : PySem.W.keepIn K (.ref C4) = true)
    (xt4 : PySem.W.typeIn K (.ref C4) = some (.type "type"))
    (xx4 : PySem.W.excIn K C4 [.type "ValueError", .type "Exception", .type "BaseException", .type "object"] "ValueError.__new__" = true)
    (xv4 : PySem.W.subIn K (.ref C4) (.type "ValueError") = some true)
    (xg4 : PySem.W.findIn K (.ref C4) "__getattribute__" = some (some (.builtin "BaseException.__getattribute__")))
    (xh4 : PySem.W.findIn K (.ref C4) "__getattr__" = some none)
    (xs4 : PySem.W.subIn K (.ref C4) (.type "BaseException") = some true)
    (xd4 : PySem.W.hasDictIn K C4 = true)
    (xb4 : PySem.W.findIn K (.ref C4) "__class__" = some (some (.builtin "object.__class__")))
    (xm4 : PySem.W.mroIn K C4 (.type "object") = some true)
    (xa5 : PySem.W.nsIn K mainGlobals "NotFour" = some (some (.ref C5)))
    (xk5 : PySem.W.keepIn K (.ref C5) = true)
    (xt5 : PySem.W.typeIn K (.ref C5) = some (.type "type"))
    (xx5 : PySem.W.excIn K C5 [.type "ValueError", .type "Exception", .type "BaseException", .type "object"] "ValueError.__new__" = true)
    (xv5 : PySem.W.subIn K (.ref C5) (.type "ValueError") = some true)
    (xg5 : PySem.W.findIn K (.ref C5) "__getattribute__" = some (some (.builtin "BaseException.__getattribute__")))
    (xh5 : PySem.W.findIn K (.ref C5) "__getattr__" = some none)
    (xs5 : PySem.W.subIn K (.ref C5) (.type "BaseException") = some true)
    (xd5 : PySem.W.hasDictIn K C5 = true)
    (xb5 : PySem.W.findIn K (.ref C5) "__class__" = some (some (.builtin "object.__class__")))
    (xm5 : PySem.W.mroIn K C5 (.type "object") = some true)
    (xp0_0 : PySem.W.subIn K (.ref C0) (.ref C0) = some true)
    (xp0_1 : PySem.W.subIn K (.ref C0) (.ref C1) = some false)
    (xp0_2 : PySem.W.subIn K (.ref C0) (.ref C2) = some false)
    (xp0_3 : PySem.W.subIn K (.ref C0) (.ref C3) = some false)
    (xp0_4 : PySem.W.subIn K (.ref C0) (.ref C4) = some false)
    (xp0_5 : PySem.W.subIn K (.ref C0) (.ref C5) = some false)
    (xp1_0 : PySem.W.subIn K (.ref C1) (.ref C0) = some true)
    (xp1_1 : PySem.W.subIn K (.ref C1) (.ref C1) = some true)
    (xp1_2 : PySem.W.subIn K (.ref C1) (.ref C2) = some false)
    (xp1_3 : PySem.W.subIn K (.ref C1) (.ref C3) = some false)
    (xp1_4 : PySem.W.subIn K (.ref C1) (.ref C4) = some false)
    (xp1_5 : PySem.W.subIn K (.ref C1) (.ref C5) = some false)
    (xp2_0 : PySem.W.subIn K (.ref C2) (.ref C0) = some true)
    (xp2_1 : PySem.W.subIn K (.ref C2) (.ref C1) = some false)
    (xp2_2 : PySem.W.subIn K (.ref C2) (.ref C2) = some true)
    (xp2_3 : PySem.W.subIn K (.ref C2) (.ref C3) = some false)
    (xp2_4 : PySem.W.subIn K (.ref C2) (.ref C4) = some false)
    (xp2_5 : PySem.W.subIn K (.ref C2) (.ref C5) = some false)
    (xp3_0 : PySem.W.subIn K (.ref C3) (.ref C0) = some true)
    (xp3_1 : PySem.W.subIn K (.ref C3) (.ref C1) = some false)
    (xp3_2 : PySem.W.subIn K (.ref C3) (.ref C2) = some false)
    (xp3_3 : PySem.W.subIn K (.ref C3) (.ref C3) = some true)
    (xp3_4 : PySem.W.subIn K (.ref C3) (.ref C4) = some false)
    (xp3_5 : PySem.W.subIn K (.ref C3) (.ref C5) = some false)
    (xp4_0 : PySem.W.subIn K (.ref C4) (.ref C0) = some true)
    (xp4_1 : PySem.W.subIn K (.ref C4) (.ref C1) = some false)
    (xp4_2 : PySem.W.subIn K (.ref C4) (.ref C2) = some false)
    (xp4_3 : PySem.W.subIn K (.ref C4) (.ref C3) = some false)
    (xp4_4 : PySem.W.subIn K (.ref C4) (.ref C4) = some true)
    (xp4_5 : PySem.W.subIn K (.ref C4) (.ref C5) = some false)
    (xp5_0 : PySem.W.subIn K (.ref C5) (.ref C0) = some true)
    (xp5_1 : PySem.W.subIn K (.ref C5) (.ref C1) = some false)
    (xp5_2 : PySem.W.subIn K (.ref C5) (.ref C2) = some false)
    (xp5_3 : PySem.W.subIn K (.ref C5) (.ref C3) = some false)
    (xp5_4 : PySem.W.subIn K (.ref C5) (.ref C4) = some false)
    (xp5_5 : PySem.W.subIn K (.ref C5) (.ref C5) = some true)
    (xn : PySem.W.specialIn K (.builtin "object.__class__") "__get__" = some (some (.builtin "getset_descriptor.__get__")))
    (xq : PySem.W.takesIn K (.builtin "object.__class__") = some true)
    (xe : PySem.W.nsIn K mainGlobals "ValueError" = some none)
    (z0 : PySem.W.nsIn K mainGlobals "abs" = some none) (z1 : PySem.W.nsIn K mainGlobals "bool" = some none) (z2 : PySem.W.nsIn K mainGlobals "enumerate" = some none) (z3 : PySem.W.nsIn K mainGlobals "int" = some none) (z4 : PySem.W.nsIn K mainGlobals "isinstance" = some none) (z5 : PySem.W.nsIn K mainGlobals "len" = some none) (z6 : PySem.W.nsIn K mainGlobals "list" = some none) (z7 : PySem.W.nsIn K mainGlobals "max" = some none) (z8 : PySem.W.nsIn K mainGlobals "min" = some none) (z9 : PySem.W.nsIn K mainGlobals "range" = some none) (z10 : PySem.W.nsIn K mainGlobals "reversed" = some none) (z11 : PySem.W.nsIn K mainGlobals "set" = some none) (z12 : PySem.W.nsIn K mainGlobals "sorted" = some none) (z13 : PySem.W.nsIn K mainGlobals "sum" = some none) (z14 : PySem.W.nsIn K mainGlobals "tuple" = some none) (z15 : PySem.W.nsIn K mainGlobals "zip" = some none) :
    ∃ fd : FuncData, (∀ (s : Shared) (v : Value), BindsTo s fd ⟨[v], []⟩ [("_law_script", v)]) ∧ ∀ base : Heap, K.In base → base.Ns mainGlobals mg → FnOk l.prog w K mg base CX0 21 fa fd ["_law_script"] (spL K) := by
  have e := hfa.symm.trans (PySem.W.mg_of X G a33)
  cases e
  have F8 := fun_mk (st := topS 8) l8 c8 k8
  have b8 := F8.binds (ps := ["one", "other"]) fun _ _ _ _ _ _ us hl => match us, hl with | [_, _], _ => rfl
  have F9 := fun_mk (st := topS 9) l9 c9 k9
  have b9 := F9.binds (ps := ["top", "bottom"]) fun _ _ _ _ _ _ us hl => match us, hl with | [_, _], _ => rfl
  have F11 := fun_mk (st := topS 11) l11 c11 k11
  have b11 := F11.binds (ps := ["a", "b", "c"]) fun _ _ _ _ _ _ us hl => match us, hl with | [_, _, _], _ => rfl
  have F12 := fun_mk (st := topS 12) l12 c12 k12
  have b12 := F12.binds (ps := ["one"]) fun _ _ _ _ _ _ us hl => match us, hl with | [_], _ => rfl
  have F13 := fun_mk (st := topS 13) l13 c13 k13
  have b13 := F13.binds (ps := ["one", "points"]) fun _ _ _ _ _ _ us hl => match us, hl with | [_, _], _ => rfl
  have F16 := fun_mk (st := topS 16) l16 c16 k16
  have b16 := F16.binds (ps := ["ways", "way"]) fun _ _ _ _ _ _ us hl => match us, hl with | [_, _], _ => rfl
  have F15 := fun_mk (st := topS 15) l15 c15 k15
  have b15 := F15.binds (ps := ["points", "spot"]) fun _ _ _ _ _ _ us hl => match us, hl with | [_, _], _ => rfl
  have F17 := fun_mk (st := topS 17) l17 c17 k17
  have b17 := F17.binds (ps := ["ways"]) fun _ _ _ _ _ _ us hl => match us, hl with | [_], _ => rfl
  have F18 := fun_mk (st := topS 18) l18 c18 k18
  have b18 := F18.binds (ps := ["way", "spot"]) fun _ _ _ _ _ _ us hl => match us, hl with | [_, _], _ => rfl
  have F19 := fun_mk (st := topS 19) l19 c19 k19
  have b19 := F19.binds (ps := ["points", "spot"]) fun _ _ _ _ _ _ us hl => match us, hl with | [_, _], _ => rfl
  have F21 := fun_mk (st := topS 21) l21 c21 k21
  have b21 := F21.binds (ps := ["one", "two", "three"]) fun _ _ _ _ _ _ us hl => match us, hl with | [_, _, _], _ => rfl
  have F22 := fun_mk (st := topS 22) l22 c22 k22
  have b22 := F22.binds (ps := ["points"]) fun _ _ _ _ _ _ us hl => match us, hl with | [_], _ => rfl
  have F23 := fun_mk (st := topS 23) l23 c23 k23
  have b23 := F23.binds (ps := ["points"]) fun _ _ _ _ _ _ us hl => match us, hl with | [_], _ => rfl
  have F24 := fun_mk (st := topS 24) l24 c24 k24
  have b24 := F24.binds (ps := ["points"]) fun _ _ _ _ _ _ us hl => match us, hl with | [_], _ => rfl
  have F25 := fun_mk (st := topS 25) l25 c25 k25
  have b25 := F25.binds (ps := ["points"]) fun _ _ _ _ _ _ us hl => match us, hl with | [_], _ => rfl
  have F27 := fun_mk (st := topS 27) l27 c27 k27
  have b27 := F27.binds (ps := ["_law_script", "_law_k"]) fun _ _ _ _ _ _ us hl => match us, hl with | [_, _], _ => rfl
  have F29 := fun_mk (st := topS 29) l29 c29 k29
  have b29 := F29.binds (ps := ["_law_script", "_law_k"]) fun _ _ _ _ _ _ us hl => match us, hl with | [_, _], _ => rfl
  have F30 := fun_mk (st := topS 30) l30 c30 k30
  have b30 := F30.binds (ps := ["_law_script", "_law_k"]) fun _ _ _ _ _ _ us hl => match us, hl with | [_, _], _ => rfl
  have F31 := fun_mk (st := topS 31) l31 c31 k31
  have b31 := F31.binds (ps := ["_law_script", "_law_start", "_law_many"]) fun _ _ _ _ _ _ us hl => match us, hl with | [_, _, _], _ => rfl
  have F32 := fun_mk (st := topS 32) l32 c32 k32
  have b32 := F32.binds (ps := ["_law_points_here"]) fun _ _ _ _ _ _ us hl => match us, hl with | [_], _ => rfl
  have F33 := fun_mk (st := topS 33) l33 c33 k33
  have b33 := F33.binds (ps := ["_law_script"]) fun _ _ _ _ _ _ us hl => match us, hl with | [_], _ => rfl
  have blt : ∀ y ∈ bltNames, mg y = none := by
    intro y hy
    simp only [bltNames, List.mem_cons, List.not_mem_nil, or_false] at hy
    rcases hy with rfl | rfl | rfl | rfl | rfl | rfl | rfl | rfl | rfl | rfl | rfl | rfl | rfl | rfl | rfl | rfl
    · exact PySem.W.mg_none_of X G z0
    · exact PySem.W.mg_none_of X G z5
    · exact PySem.W.mg_none_of X G z3
    · exact PySem.W.mg_none_of X G z13
    · exact PySem.W.mg_none_of X G z8
    · exact PySem.W.mg_none_of X G z7
    · exact PySem.W.mg_none_of X G z6
    · exact PySem.W.mg_none_of X G z12
    · exact PySem.W.mg_none_of X G z11
    · exact PySem.W.mg_none_of X G z4
    · exact PySem.W.mg_none_of X G z1
    · exact PySem.W.mg_none_of X G z14
    · exact PySem.W.mg_none_of X G z9
    · exact PySem.W.mg_none_of X G z15
    · exact PySem.W.mg_none_of X G z2
    · exact PySem.W.mg_none_of X G z10
  refine ⟨PySem.W.fnOf "law" "law" (defArgs (topS 33)) (defBody (topS 33)) (defScope (topS 33)) .none kV33 dc33 pm33 an33 cd33 ct33, fun s v => .of_eq rfl, fun base _ _ => ?_⟩
  · have _here : True := trivial
    have q0 : ClsK K mg 0 C0 := ⟨by unfold clsA; rw [show xName 0 = ("SpotError" : Str) from rfl, xa0], PySem.W.mg_of X G xa0, xk0, xt0, xx0, ⟨xg0, xh0, xs0, xd0, xb0, xn, xq, xm0⟩, xv0⟩
    have q1 : ClsK K mg 1 C1 := ⟨by unfold clsA; rw [show xName 1 = ("NoNumber" : Str) from rfl, xa1], PySem.W.mg_of X G xa1, xk1, xt1, xx1, ⟨xg1, xh1, xs1, xd1, xb1, xn, xq, xm1⟩, xv1⟩
    have q2 : ClsK K mg 2 C2 := ⟨by unfold clsA; rw [show xName 2 = ("NoHalf" : Str) from rfl, xa2], PySem.W.mg_of X G xa2, xk2, xt2, xx2, ⟨xg2, xh2, xs2, xd2, xb2, xn, xq, xm2⟩, xv2⟩
    have q3 : ClsK K mg 3 C3 := ⟨by unfold clsA; rw [show xName 3 = ("NoPoints" : Str) from rfl, xa3], PySem.W.mg_of X G xa3, xk3, xt3, xx3, ⟨xg3, xh3, xs3, xd3, xb3, xn, xq, xm3⟩, xv3⟩
    have q4 : ClsK K mg 4 C4 := ⟨by unfold clsA; rw [show xName 4 = ("NoDepth" : Str) from rfl, xa4], PySem.W.mg_of X G xa4, xk4, xt4, xx4, ⟨xg4, xh4, xs4, xd4, xb4, xn, xq, xm4⟩, xv4⟩
    have q5 : ClsK K mg 5 C5 := ⟨by unfold clsA; rw [show xName 5 = ("NotFour" : Str) from rfl, xa5], PySem.W.mg_of X G xa5, xk5, xt5, xx5, ⟨xg5, xh5, xs5, xd5, xb5, xn, xq, xm5⟩, xv5⟩
    have XX : XK K mg := by
      refine ⟨fun c hc => ?_, fun c d C D hc hd eC eD => ?_, PySem.W.mg_none_of X G xe⟩
      · rcases (show c = 0 ∨ c = 1 ∨ c = 2 ∨ c = 3 ∨ c = 4 ∨ c = 5 by omega) with rfl | rfl | rfl | rfl | rfl | rfl
        · exact ⟨_, q0⟩
        · exact ⟨_, q1⟩
        · exact ⟨_, q2⟩
        · exact ⟨_, q3⟩
        · exact ⟨_, q4⟩
        · exact ⟨_, q5⟩
      · rcases (show c = 0 ∨ c = 1 ∨ c = 2 ∨ c = 3 ∨ c = 4 ∨ c = 5 by omega) with rfl | rfl | rfl | rfl | rfl | rfl
        · cases q0.at_.symm.trans eC
          rcases (show d = 0 ∨ d = 1 ∨ d = 2 ∨ d = 3 ∨ d = 4 ∨ d = 5 by omega) with rfl | rfl | rfl | rfl | rfl | rfl
          · cases q0.at_.symm.trans eD; exact xp0_0
          · cases q1.at_.symm.trans eD; exact xp0_1
          · cases q2.at_.symm.trans eD; exact xp0_2
          · cases q3.at_.symm.trans eD; exact xp0_3
          · cases q4.at_.symm.trans eD; exact xp0_4
          · cases q5.at_.symm.trans eD; exact xp0_5
        · cases q1.at_.symm.trans eC
          rcases (show d = 0 ∨ d = 1 ∨ d = 2 ∨ d = 3 ∨ d = 4 ∨ d = 5 by omega) with rfl | rfl | rfl | rfl | rfl | rfl
          · cases q0.at_.symm.trans eD; exact xp1_0
          · cases q1.at_.symm.trans eD; exact xp1_1
          · cases q2.at_.symm.trans eD; exact xp1_2
          · cases q3.at_.symm.trans eD; exact xp1_3
          · cases q4.at_.symm.trans eD; exact xp1_4
          · cases q5.at_.symm.trans eD; exact xp1_5
        · cases q2.at_.symm.trans eC
          rcases (show d = 0 ∨ d = 1 ∨ d = 2 ∨ d = 3 ∨ d = 4 ∨ d = 5 by omega) with rfl | rfl | rfl | rfl | rfl | rfl
          · cases q0.at_.symm.trans eD; exact xp2_0
          · cases q1.at_.symm.trans eD; exact xp2_1
          · cases q2.at_.symm.trans eD; exact xp2_2
          · cases q3.at_.symm.trans eD; exact xp2_3
          · cases q4.at_.symm.trans eD; exact xp2_4
          · cases q5.at_.symm.trans eD; exact xp2_5
        · cases q3.at_.symm.trans eC
          rcases (show d = 0 ∨ d = 1 ∨ d = 2 ∨ d = 3 ∨ d = 4 ∨ d = 5 by omega) with rfl | rfl | rfl | rfl | rfl | rfl
          · cases q0.at_.symm.trans eD; exact xp3_0
          · cases q1.at_.symm.trans eD; exact xp3_1
          · cases q2.at_.symm.trans eD; exact xp3_2
          · cases q3.at_.symm.trans eD; exact xp3_3
          · cases q4.at_.symm.trans eD; exact xp3_4
          · cases q5.at_.symm.trans eD; exact xp3_5
        · cases q4.at_.symm.trans eC
          rcases (show d = 0 ∨ d = 1 ∨ d = 2 ∨ d = 3 ∨ d = 4 ∨ d = 5 by omega) with rfl | rfl | rfl | rfl | rfl | rfl
          · cases q0.at_.symm.trans eD; exact xp4_0
          · cases q1.at_.symm.trans eD; exact xp4_1
          · cases q2.at_.symm.trans eD; exact xp4_2
          · cases q3.at_.symm.trans eD; exact xp4_3
          · cases q4.at_.symm.trans eD; exact xp4_4
          · cases q5.at_.symm.trans eD; exact xp4_5
        · cases q5.at_.symm.trans eC
          rcases (show d = 0 ∨ d = 1 ∨ d = 2 ∨ d = 3 ∨ d = 4 ∨ d = 5 by omega) with rfl | rfl | rfl | rfl | rfl | rfl
          · cases q0.at_.symm.trans eD; exact xp5_0
          · cases q1.at_.symm.trans eD; exact xp5_1
          · cases q2.at_.symm.trans eD; exact xp5_2
          · cases q3.at_.symm.trans eD; exact xp5_3
          · cases q4.at_.symm.trans eD; exact xp5_4
          · cases q5.at_.symm.trans eD; exact xp5_5
    have A0 : AllOk l.prog w K mg base (nmOf names) (callT fuel [(flagX, fnX)]) 0 := AllOk.startX XX (by decide +kernel) fun f x e => by
      unfold names at e
      rcases nmOf_cons e with ⟨rfl, rfl⟩ | e
      · exact ⟨_, _, _, PySem.W.mg_of X G a8, k8, b8⟩
      rcases nmOf_cons e with ⟨rfl, rfl⟩ | e
      · exact ⟨_, _, _, PySem.W.mg_of X G a9, k9, b9⟩
      rcases nmOf_cons e with ⟨rfl, rfl⟩ | e
      · exact ⟨_, _, _, PySem.W.mg_of X G a11, k11, b11⟩
      rcases nmOf_cons e with ⟨rfl, rfl⟩ | e
      · exact ⟨_, _, _, PySem.W.mg_of X G a12, k12, b12⟩
      rcases nmOf_cons e with ⟨rfl, rfl⟩ | e
      · exact ⟨_, _, _, PySem.W.mg_of X G a13, k13, b13⟩
      rcases nmOf_cons e with ⟨rfl, rfl⟩ | e
      · exact ⟨_, _, _, PySem.W.mg_of X G a16, k16, b16⟩
      rcases nmOf_cons e with ⟨rfl, rfl⟩ | e
      · exact ⟨_, _, _, PySem.W.mg_of X G a15, k15, b15⟩
      rcases nmOf_cons e with ⟨rfl, rfl⟩ | e
      · exact ⟨_, _, _, PySem.W.mg_of X G a17, k17, b17⟩
      rcases nmOf_cons e with ⟨rfl, rfl⟩ | e
      · exact ⟨_, _, _, PySem.W.mg_of X G a18, k18, b18⟩
      rcases nmOf_cons e with ⟨rfl, rfl⟩ | e
      · exact ⟨_, _, _, PySem.W.mg_of X G a19, k19, b19⟩
      rcases nmOf_cons e with ⟨rfl, rfl⟩ | e
      · exact ⟨_, _, _, PySem.W.mg_of X G a21, k21, b21⟩
      rcases nmOf_cons e with ⟨rfl, rfl⟩ | e
      · exact ⟨_, _, _, PySem.W.mg_of X G a22, k22, b22⟩
      rcases nmOf_cons e with ⟨rfl, rfl⟩ | e
      · exact ⟨_, _, _, PySem.W.mg_of X G a23, k23, b23⟩
      rcases nmOf_cons e with ⟨rfl, rfl⟩ | e
      · exact ⟨_, _, _, PySem.W.mg_of X G a24, k24, b24⟩
      rcases nmOf_cons e with ⟨rfl, rfl⟩ | e
      · exact ⟨_, _, _, PySem.W.mg_of X G a25, k25, b25⟩
      rcases nmOf_cons e with ⟨rfl, rfl⟩ | e
      · exact ⟨_, _, _, PySem.W.mg_of X G a27, k27, b27⟩
      rcases nmOf_cons e with ⟨rfl, rfl⟩ | e
      · exact ⟨_, _, _, PySem.W.mg_of X G a29, k29, b29⟩
      rcases nmOf_cons e with ⟨rfl, rfl⟩ | e
      · exact ⟨_, _, _, PySem.W.mg_of X G a30, k30, b30⟩
      rcases nmOf_cons e with ⟨rfl, rfl⟩ | e
      · exact ⟨_, _, _, PySem.W.mg_of X G a31, k31, b31⟩
      rcases nmOf_cons e with ⟨rfl, rfl⟩ | e
      · exact ⟨_, _, _, PySem.W.mg_of X G a32, k32, b32⟩
      rcases nmOf_cons e with ⟨rfl, rfl⟩ | e
      · exact ⟨_, _, _, PySem.W.mg_of X G a33, k33, b33⟩
      cases e
    have A1 := AllOk.step (i := 0) (fn := f_divisor) A0 (by decide +kernel) (by decide) (PySem.W.mg_of X G a8) F8 b8 sc_8 ok_8 blt
    have A2 := AllOk.step (i := 7) (fn := f_ratio) A1 (by decide +kernel) (by decide) (PySem.W.mg_of X G a9) F9 b9 sc_9 ok_9 blt
    have A3 := AllOk.step (i := 13) (fn := f_half) A2 (by decide +kernel) (by decide) (PySem.W.mg_of X G a11) F11 b11 sc_11 ok_11 blt
    have A4 := AllOk.step (i := 22) (fn := f_other_side) A3 (by decide +kernel) (by decide) (PySem.W.mg_of X G a12) F12 b12 sc_12 ok_12 blt
    have A5 := AllOk.step (i := 34) (fn := f_many_in) A4 (by decide +kernel) (by decide) (PySem.W.mg_of X G a13) F13 b13 sc_13 ok_13 blt
    have A6 := AllOk.step (i := 90) (fn := f_put_in) A5 (by decide +kernel) (by decide) (PySem.W.mg_of X G a16) F16 b16 sc_16 ok_16 blt
    have A7 := AllOk.step (i := 91) (fn := f_ways_from) A6 (by decide +kernel) (by decide) (PySem.W.mg_of X G a15) F15 b15 sc_15 ok_15 blt
    have A8 := AllOk.step (i := 92) (fn := f_gaps_between) A7 (by decide +kernel) (by decide) (PySem.W.mg_of X G a17) F17 b17 sc_17 ok_17 blt
    have A9 := AllOk.step (i := 93) (fn := f_along) A8 (by decide +kernel) (by decide) (PySem.W.mg_of X G a18) F18 b18 sc_18 ok_18 blt
    have A10 := AllOk.step (i := 94) (fn := f_depth) A9 (by decide +kernel) (by decide) (PySem.W.mg_of X G a19) F19 b19 sc_19 ok_19 blt
    have A11 := AllOk.step (i := 124) (fn := f_turned) A10 (by decide +kernel) (by decide) (PySem.W.mg_of X G a21) F21 b21 sc_21 ok_21 blt
    have A12 := AllOk.step (i := 125) (fn := f_on_a_line) A11 (by decide +kernel) (by decide) (PySem.W.mg_of X G a22) F22 b22 sc_22 ok_22 blt
    have A13 := AllOk.step (i := 126) (fn := f_balance) A12 (by decide +kernel) (by decide) (PySem.W.mg_of X G a23) F23 b23 sc_23 ok_23 blt
    have A14 := AllOk.step (i := 127) (fn := f_parted) A13 (by decide +kernel) (by decide) (PySem.W.mg_of X G a24) F24 b24 sc_24 ok_24 blt
    have A15 := AllOk.step (i := 135) (fn := f_ranks) A14 (by decide +kernel) (by decide) (PySem.W.mg_of X G a25) F25 b25 sc_25 ok_25 blt
    have A16 := AllOk.step (i := 1) (fn := f_law_cell_at) A15 (by decide +kernel) (by decide) (PySem.W.mg_of X G a27) F27 b27 sc_27 ok_27 blt
    have A17 := AllOk.step (i := 14) (fn := f_law_block) A16 (by decide +kernel) (by decide) (PySem.W.mg_of X G a29) F29 b29 sc_29 ok_29 blt
    have A18 := AllOk.step (i := 15) (fn := f_law_mixed) A17 (by decide +kernel) (by decide) (PySem.W.mg_of X G a30) F30 b30 sc_30 ok_30 blt
    have A19 := AllOk.step (i := 128) (fn := f_law_points_k51) A18 (by decide +kernel) (by decide) (PySem.W.mg_of X G a31) F31 b31 sc_31 ok_31 blt
    have A20 := AllOk.step (i := 136) (fn := f_law_caught) A19 (by decide +kernel) (by decide) (PySem.W.mg_of X G a32) F32 b32 sc_32 ok_32 blt
    exact law_imp (AllOk.main (i := 137) (fn := f_law_k52) A20 F33 sc_33 ok_33 blt) pure_
end Law
open PySem PySem.W PyProof.Rows
set_option maxHeartbeats 0 in
theorem PySem.Challenge.cw_deepspot_k52_not_four_holds : PySem.Challenge.rw_deepspot_k52_not_four.Holds := by
  w_on; o_law; k_head; (case hw => w_witness2)
  k_fill
  refine L2.walk_of (l := PySem.Challenge.rw_deepspot_k52_not_four) (n := 63) (k := 21) (x := "_law_script") (CX := fun _ => L2.CX0) (sp := fun w => Ev.spL _) rfl (by decide) rfl ⟨rfl, by decide, by decide⟩ (fun w h Y => PySem.W.kIn_of Y) ?F (fun _ _ a ns hl ho hS => ⟨a, ns, rfl, ho, hS, hl, fun _ => rfl⟩) (fun _ _ _ _ _ h => h)
  case F =>
    intro w mg fa h KX G hmg
    refine' Law.all_mk KX G hmg Law.pure_law ?a8 ?l8 ?c8 ?k8 ?a9 ?l9 ?c9 ?k9 ?a11 ?l11 ?c11 ?k11 ?a12 ?l12 ?c12 ?k12 ?a13 ?l13 ?c13 ?k13 ?a16 ?l16 ?c16 ?k16 ?a15 ?l15 ?c15 ?k15 ?a17 ?l17 ?c17 ?k17 ?a18 ?l18 ?c18 ?k18 ?a19 ?l19 ?c19 ?k19 ?a21 ?l21 ?c21 ?k21 ?a22 ?l22 ?c22 ?k22 ?a23 ?l23 ?c23 ?k23 ?a24 ?l24 ?c24 ?k24 ?a25 ?l25 ?c25 ?k25 ?a27 ?l27 ?c27 ?k27 ?a29 ?l29 ?c29 ?k29 ?a30 ?l30 ?c30 ?k30 ?a31 ?l31 ?c31 ?k31 ?a32 ?l32 ?c32 ?k32 ?a33 ?l33 ?c33 ?k33 ?xa0 ?xk0 ?xt0 ?xx0 ?xv0 ?xg0 ?xh0 ?xs0 ?xd0 ?xb0 ?xm0 ?xa1 ?xk1 ?xt1 ?xx1 ?xv1 ?xg1 ?xh1 ?xs1 ?xd1 ?xb1 ?xm1 ?xa2 ?xk2 ?xt2 ?xx2 ?xv2 ?xg2 ?xh2 ?xs2 ?xd2 ?xb2 ?xm2 ?xa3 ?xk3 ?xt3 ?xx3 ?xv3 ?xg3 ?xh3 ?xs3 ?xd3 ?xb3 ?xm3 ?xa4 ?xk4 ?xt4 ?xx4 ?xv4 ?xg4 ?xh4 ?xs4 ?xd4 ?xb4 ?xm4 ?xa5 ?xk5 ?xt5 ?xx5 ?xv5 ?xg5 ?xh5 ?xs5 ?xd5 ?xb5 ?xm5 ?xp0_0 ?xp0_1 ?xp0_2 ?xp0_3 ?xp0_4 ?xp0_5 ?xp1_0 ?xp1_1 ?xp1_2 ?xp1_3 ?xp1_4 ?xp1_5 ?xp2_0 ?xp2_1 ?xp2_2 ?xp2_3 ?xp2_4 ?xp2_5 ?xp3_0 ?xp3_1 ?xp3_2 ?xp3_3 ?xp3_4 ?xp3_5 ?xp4_0 ?xp4_1 ?xp4_2 ?xp4_3 ?xp4_4 ?xp4_5 ?xp5_0 ?xp5_1 ?xp5_2 ?xp5_3 ?xp5_4 ?xp5_5 ?xn ?xq ?xe ?z0 ?z1 ?z2 ?z3 ?z4 ?z5 ?z6 ?z7 ?z8 ?z9 ?z10 ?z11 ?z12 ?z13 ?z14 ?z15
    (case a8 => k_is)
    (case l8 => k_is)
    (case c8 => k_is)
    (case k8 => k_is)
    (case a9 => k_is)
    (case l9 => k_is)
    (case c9 => k_is)
    (case k9 => k_is)
    (case a11 => k_is)
    (case l11 => k_is)
    (case c11 => k_is)
    (case k11 => k_is)
    (case a12 => k_is)
    (case l12 => k_is)
    (case c12 => k_is)
    (case k12 => k_is)
    (case a13 => k_is)
    (case l13 => k_is)
    (case c13 => k_is)
    (case k13 => k_is)
    (case a16 => k_is)
    (case l16 => k_is)
    (case c16 => k_is)
    (case k16 => k_is)
    (case a15 => k_is)
    (case l15 => k_is)
    (case c15 => k_is)
    (case k15 => k_is)
    (case a17 => k_is)
    (case l17 => k_is)
    (case c17 => k_is)
    (case k17 => k_is)
    (case a18 => k_is)
    (case l18 => k_is)
    (case c18 => k_is)
    (case k18 => k_is)
    (case a19 => k_is)
    (case l19 => k_is)
    (case c19 => k_is)
    (case k19 => k_is)
    (case a21 => k_is)
    (case l21 => k_is)
    (case c21 => k_is)
    (case k21 => k_is)
    (case a22 => k_is)
    (case l22 => k_is)
    (case c22 => k_is)
    (case k22 => k_is)
    (case a23 => k_is)
    (case l23 => k_is)
    (case c23 => k_is)
    (case k23 => k_is)
    (case a24 => k_is)
    (case l24 => k_is)
    (case c24 => k_is)
    (case k24 => k_is)
    (case a25 => k_is)
    (case l25 => k_is)
    (case c25 => k_is)
    (case k25 => k_is)
    (case a27 => k_is)
    (case l27 => k_is)
    (case c27 => k_is)
    (case k27 => k_is)
    (case a29 => k_is)
    (case l29 => k_is)
    (case c29 => k_is)
    (case k29 => k_is)
    (case a30 => k_is)
    (case l30 => k_is)
    (case c30 => k_is)
    (case k30 => k_is)
    (case a31 => k_is)
    (case l31 => k_is)
    (case c31 => k_is)
    (case k31 => k_is)
    (case a32 => k_is)
    (case l32 => k_is)
    (case c32 => k_is)
    (case k32 => k_is)
    (case a33 => k_is)
    (case l33 => k_is)
    (case c33 => k_is)
    (case k33 => k_is)
    (case xa0 => k_is)
    (case xk0 => k_is)
    (case xt0 => k_is)
    (case xx0 => k_exc)
    (case xv0 => k_is)
    (case xg0 => k_is)
    (case xh0 => k_is)
    (case xs0 => k_is)
    (case xd0 => k_is)
    (case xb0 => k_is)
    (case xm0 => k_is)
    (case xa1 => k_is)
    (case xk1 => k_is)
    (case xt1 => k_is)
    (case xx1 => k_exc)
    (case xv1 => k_is)
    (case xg1 => k_is)
    (case xh1 => k_is)
    (case xs1 => k_is)
    (case xd1 => k_is)
    (case xb1 => k_is)
    (case xm1 => k_is)
    (case xa2 => k_is)
    (case xk2 => k_is)
    (case xt2 => k_is)
    (case xx2 => k_exc)
    (case xv2 => k_is)
    (case xg2 => k_is)
    (case xh2 => k_is)
    (case xs2 => k_is)
    (case xd2 => k_is)
    (case xb2 => k_is)
    (case xm2 => k_is)
    (case xa3 => k_is)
    (case xk3 => k_is)
    (case xt3 => k_is)
    (case xx3 => k_exc)
    (case xv3 => k_is)
    (case xg3 => k_is)
    (case xh3 => k_is)
    (case xs3 => k_is)
    (case xd3 => k_is)
    (case xb3 => k_is)
    (case xm3 => k_is)
    (case xa4 => k_is)
    (case xk4 => k_is)
    (case xt4 => k_is)
    (case xx4 => k_exc)
    (case xv4 => k_is)
    (case xg4 => k_is)
    (case xh4 => k_is)
    (case xs4 => k_is)
    (case xd4 => k_is)
    (case xb4 => k_is)
    (case xm4 => k_is)
    (case xa5 => k_is)
    (case xk5 => k_is)
    (case xt5 => k_is)
    (case xx5 => k_exc)
    (case xv5 => k_is)
    (case xg5 => k_is)
    (case xh5 => k_is)
    (case xs5 => k_is)
    (case xd5 => k_is)
    (case xb5 => k_is)
    (case xm5 => k_is)
    (case xp0_0 => k_is)
    (case xp0_1 => k_is)
    (case xp0_2 => k_is)
    (case xp0_3 => k_is)
    (case xp0_4 => k_is)
    (case xp0_5 => k_is)
    (case xp1_0 => k_is)
    (case xp1_1 => k_is)
    (case xp1_2 => k_is)
    (case xp1_3 => k_is)
    (case xp1_4 => k_is)
    (case xp1_5 => k_is)
    (case xp2_0 => k_is)
    (case xp2_1 => k_is)
    (case xp2_2 => k_is)
    (case xp2_3 => k_is)
    (case xp2_4 => k_is)
    (case xp2_5 => k_is)
    (case xp3_0 => k_is)
    (case xp3_1 => k_is)
    (case xp3_2 => k_is)
    (case xp3_3 => k_is)
    (case xp3_4 => k_is)
    (case xp3_5 => k_is)
    (case xp4_0 => k_is)
    (case xp4_1 => k_is)
    (case xp4_2 => k_is)
    (case xp4_3 => k_is)
    (case xp4_4 => k_is)
    (case xp4_5 => k_is)
    (case xp5_0 => k_is)
    (case xp5_1 => k_is)
    (case xp5_2 => k_is)
    (case xp5_3 => k_is)
    (case xp5_4 => k_is)
    (case xp5_5 => k_is)
    (case xn => k_is)
    (case xq => k_is)
    (case xe => k_is)
    (case z0 => k_is)
    (case z1 => k_is)
    (case z2 => k_is)
    (case z3 => k_is)
    (case z4 => k_is)
    (case z5 => k_is)
    (case z6 => k_is)
    (case z7 => k_is)
    (case z8 => k_is)
    (case z9 => k_is)
    (case z10 => k_is)
    (case z11 => k_is)
    (case z12 => k_is)
    (case z13 => k_is)
    (case z14 => k_is)
    (case z15 => k_is)
