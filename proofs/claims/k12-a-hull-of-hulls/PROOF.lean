import PyProof.Rows.All
import Wide.All
import OpenK.AllK
import Wide.FinOn
import HandS.ForExc
import HandS.ForMost
import HandS.Wide
import HandS.TupSets
import HandS.IsInst
import HandS.Deep
import HandS.Zip
import HandS.Rev
import HandS.Exc
import HandS.ExcOwn
import HandS.ExcIs
import KE.KExcLine
import HandS.TryOnly
import HandS.WordsExc
import HandS.Conv
import KE.KSortTupG
import HandS.DictTup
import HandS.Small
import HandS.SortKw
import KE.SortData
import PySem.Challenge.RW_deepspot_k12_a_hull_of_hulls
set_option Elab.async false
set_option linter.all false
set_option maxRecDepth 100000
/-! Ev: data as values, and how they lie in the abstract heap. -/
namespace Ev
open PySem PySem.Spec PyProof.Rows L2

/-- data: values with their contents; scr: the locked list of ints that the law is given; exc: a caught error of the class c -/
inductive D where
  | non | bl (b : Bool) | int (i : Int) | str (s : Str) | tup (xs : List D) | lst (xs : List D) | scr (ns : List Int) | exc (c : Nat)
/-- the program's classes of errors -/
def xNames : List Str := ["SpotError", "NoNumber", "NoHalf", "NoPoints", "NoDepth", "NotFour"]
def xName (c : Nat) : Str := xNames.getD c ""
/-- where the class c stands -/
def clsA (K : PySem.W.Frag) (c : Nat) : Option Addr := match PySem.W.nsIn K mainGlobals (xName c) with
  | some (some (.ref C)) => some C
  | _ => none
/-- an error of the class cls, once raised and caught, at a -/
def ExV (cls : Value) (a : Addr) : HO := .ext fun h => ∃ (oe : Obj) (vs : Array Value), h.get? a = some oe ∧ Zc cls none oe ∧ oe.data = .fields vs

abbrev AS := Addr → Prop
/-- a list of the written part -/
def KL (K : PySem.W.Frag) (a : Addr) (xs : List V) : Prop :=
  ∃ (o : Obj) (its : Array Value) (n : Nat), K.lookup a = some o ∧ o.cls = .type "list" ∧ o.dict = none ∧ o.data = .seq its n ∧ its.size ≤ sizeLine ∧ Vals xs its.toList
mutual
/-- v stands for d; no address of it is in O -/
def Rp (K : PySem.W.Frag) (O : AS) (H : Hp) : D → V → Prop
  | .non, v => v = .non
  | .bl b, v => v = .bl b
  | .int i, v => v = .int i
  | .str s, v => v = .str s
  | .tup ds, v => ∃ a vs, v = .ref a ∧ ¬ O a ∧ H a = some (.tup vs) ∧ Rps K O H ds vs
  | .lst ds, v => ∃ a vs, v = .ref a ∧ ¬ O a ∧ H a = some (.lst vs) ∧ Rps K O H ds vs
  | .scr ns, v => ∃ a, v = .ref a ∧ ((¬ O a ∧ ∃ o, H a = some (.frz o (.lst (ns.map V.int)))) ∨ KL K a (ns.map V.int))
  | .exc c, v => ∃ a C, v = .ref a ∧ ¬ O a ∧ clsA K c = some C ∧ H a = some (ExV (.ref C) a)
def Rps (K : PySem.W.Frag) (O : AS) (H : Hp) : List D → List V → Prop
  | [], vs => vs = []
  | d :: ds, vs => ∃ v vr, vs = v :: vr ∧ Rp K O H d v ∧ Rps K O H ds vr
end

/-- from (O, H) to (O', H'): what is tracked and not in O stays; what is new in O' is a new address -/
structure Nxt (O : AS) (H : Hp) (O' : AS) (H' : Hp) : Prop where
  keep : ∀ b o, ¬ O b → H b = some o → H' b = some o
  own : ∀ a, O' a → O a ∨ H a = none
theorem Nxt.refl (O : AS) (H : Hp) : Nxt O H O H := ⟨fun _ _ _ h => h, fun _ h => .inl h⟩
theorem Nxt.trans {O O1 O2 : AS} {H H1 H2 : Hp} (a : Nxt O H O1 H1) (b : Nxt O1 H1 O2 H2) : Nxt O H O2 H2 := by
  refine ⟨fun c o n h => ?_, fun c h => ?_⟩
  · have h1 := a.keep c o n h
    refine b.keep c o (fun z => ?_) h1
    rcases a.own c z with z | z
    · exact n z
    · rw [h] at z; cases z
  · by_cases z : O c
    · exact .inl z
    · rcases b.own c h with y | y
      · exact a.own c y
      · refine .inr ?_
        cases e : H c with
        | none => rfl
        | some o => rw [a.keep c o z e] at y; cases y
theorem Nxt.same {O : AS} {H H' : Hp} (s : Same H H') : Nxt O H O H' := ⟨fun b o _ h => s b o h, fun _ h => .inl h⟩
theorem Nxt.less {O O' : AS} {H : Hp} (s : ∀ a, O' a → O a) : Nxt O H O' H := ⟨fun _ _ _ h => h, fun a h => .inl (s a h)⟩

section
variable {K : PySem.W.Frag} {O O' : AS} {H H' : Hp}
theorem Nxt.not {a : Addr} {o : HO} (n : Nxt O H O' H') (hO : ¬ O a) (h : H a = some o) : ¬ O' a := fun z => by
  rcases n.own a z with z | z
  · exact hO z
  · rw [h] at z; cases z
mutual
theorem Rp.nxt (n : Nxt O H O' H') : ∀ (d : D) (v : V), Rp K O H d v → Rp K O' H' d v
  | .non, _, h => h
  | .bl _, _, h => h
  | .int _, _, h => h
  | .str _, _, h => h
  | .tup ds, v, ⟨a, vs, e, hO, hh, hs⟩ => ⟨a, vs, e, n.not hO hh, n.keep _ _ hO hh, Rps.nxt n ds vs hs⟩
  | .lst ds, v, ⟨a, vs, e, hO, hh, hs⟩ => ⟨a, vs, e, n.not hO hh, n.keep _ _ hO hh, Rps.nxt n ds vs hs⟩
  | .scr ns, v, ⟨a, e, hs⟩ => ⟨a, e, hs.imp (fun ⟨hO, o, h⟩ => ⟨n.not hO h, o, n.keep _ _ hO h⟩) id⟩
  | .exc c, v, ⟨a, C, e, hO, hc, h⟩ => ⟨a, C, e, n.not hO h, hc, n.keep _ _ hO h⟩
theorem Rps.nxt (n : Nxt O H O' H') : ∀ (ds : List D) (vs : List V), Rps K O H ds vs → Rps K O' H' ds vs
  | [], _, h => h
  | d :: ds, vs, ⟨v, vr, e, h1, h2⟩ => ⟨v, vr, e, Rp.nxt n d v h1, Rps.nxt n ds vr h2⟩
end
theorem Rps.len : ∀ {ds : List D} {vs : List V}, Rps K O H ds vs → vs.length = ds.length
  | [], _, h => by rw [show _ = [] from h]; rfl
  | d :: ds, vs, ⟨v, vr, e, _, h2⟩ => by rw [e, List.length_cons, List.length_cons, Rps.len h2]
theorem Rps.get : ∀ {ds : List D} {vs : List V} {i : Nat} {d : D}, Rps K O H ds vs → ds[i]? = some d → ∃ v, vs[i]? = some v ∧ Rp K O H d v
  | [], _, _, _, _, h => by simp at h
  | d :: ds, vs, 0, _, ⟨v, vr, e, h1, _⟩, h => by
    simp at h; subst h; exact ⟨v, by rw [e]; rfl, h1⟩
  | d :: ds, vs, i + 1, _, ⟨v, vr, e, _, h2⟩, h => by
    obtain ⟨u, h3, h4⟩ := Rps.get h2 (i := i) (by simpa using h)
    exact ⟨u, by rw [e]; simpa using h3, h4⟩
theorem Rps.getv : ∀ {ds : List D} {vs : List V} {i : Nat} {v : V}, Rps K O H ds vs → vs[i]? = some v → ∃ d, ds[i]? = some d ∧ Rp K O H d v := fun {ds vs i v} h e => by
  have hl := h.len
  obtain ⟨hi, _⟩ := List.getElem?_eq_some_iff.mp e
  have : i < ds.length := by omega
  obtain ⟨u, h1, h2⟩ := h.get (List.getElem?_eq_getElem this)
  rw [h1] at e; cases e
  exact ⟨_, List.getElem?_eq_getElem this, h2⟩
theorem Rps.app : ∀ {ds es : List D} {vs ws : List V}, Rps K O H ds vs → Rps K O H es ws → Rps K O H (ds ++ es) (vs ++ ws)
  | [], _, _, _, h, g => by rw [show _ = [] from h]; exact g
  | d :: ds, _, _, _, ⟨v, vr, e, h1, h2⟩, g => by rw [e]; exact ⟨v, _, rfl, h1, h2.app g⟩
theorem Rps.one {d : D} {v : V} (h : Rp K O H d v) : Rps K O H [d] [v] := ⟨v, [], rfl, h, rfl⟩
theorem Rps.drop : ∀ {ds : List D} {vs : List V} (n : Nat), Rps K O H ds vs → Rps K O H (ds.drop n) (vs.drop n)
  | _, _, 0, h => h
  | [], _, n + 1, h => by rw [show _ = [] from h]; exact rfl
  | d :: ds, _, n + 1, ⟨v, vr, e, h1, h2⟩ => by rw [e]; exact h2.drop n
theorem Rps.take : ∀ {ds : List D} {vs : List V} (n : Nat), Rps K O H ds vs → Rps K O H (ds.take n) (vs.take n)
  | _, _, 0, h => rfl
  | [], _, n + 1, h => by rw [show _ = [] from h]; exact rfl
  | d :: ds, _, n + 1, ⟨v, vr, e, h1, h2⟩ => by rw [e]; exact ⟨v, _, rfl, h1, h2.take n⟩
theorem Rps.set : ∀ {ds : List D} {vs : List V} (i : Nat) {d : D} {v : V}, Rps K O H ds vs → Rp K O H d v → Rps K O H (ds.set i d) (vs.set i v)
  | [], _, _, _, _, h, _ => by rw [show _ = [] from h]; exact rfl
  | d :: ds, _, 0, _, _, ⟨v, vr, e, h1, h2⟩, g => by rw [e]; exact ⟨_, _, rfl, g, h2⟩
  | d :: ds, _, i + 1, _, _, ⟨v, vr, e, h1, h2⟩, g => by rw [e]; exact ⟨_, _, rfl, h1, h2.set i g⟩
theorem Rps.rev {ds : List D} {vs : List V} (h : Rps K O H ds vs) : Rps K O H ds.reverse vs.reverse := by
  induction ds generalizing vs with
  | nil => rw [show vs = [] from h]; exact rfl
  | cons d ds ih =>
    obtain ⟨v, vr, e, h1, h2⟩ := h
    rw [e, List.reverse_cons, List.reverse_cons]
    exact (ih h2).app (.one h1)
theorem Rps.dropLast {ds : List D} {vs : List V} (h : Rps K O H ds vs) : Rps K O H ds.dropLast vs.dropLast := by
  rw [List.dropLast_eq_take, List.dropLast_eq_take, h.len]; exact h.take _
theorem Rps.ints : ∀ {ns : List Int} {vs : List V}, Rps K O H (ns.map D.int) vs → vs = ns.map V.int
  | [], _, h => h
  | n :: ns, _, ⟨v, vr, e, h1, h2⟩ => by rw [e, show v = .int n from h1, h2.ints]; rfl
theorem Rps.ofInts : ∀ (ns : List Int), Rps K O H (ns.map D.int) (ns.map V.int)
  | [] => rfl
  | n :: ns => ⟨_, _, rfl, rfl, Rps.ofInts ns⟩

/-! ### data as the library's data -/
mutual
def toPy : D → PyData
  | .non => .none
  | .bl b => .bool b
  | .int i => .int i
  | .str s => .str s
  | .tup ds => .tuple (toPys ds)
  | .lst ds => .list (toPys ds)
  | .scr ns => .list (ns.map PyData.int)
  | .exc _ => .none
def toPys : List D → List PyData
  | [] => []
  | d :: ds => toPy d :: toPys ds
end
mutual
/-- no error within -/
def noX : D → Bool
  | .exc _ => false
  | .tup ds => noXs ds
  | .lst ds => noXs ds
  | _ => true
def noXs : List D → Bool
  | [] => true
  | d :: ds => noX d && noXs ds
end
theorem DpAll.ints : ∀ (ns : List Int), DpAll K H (ns.map V.int) (ns.map PyData.int)
  | [] => .nil
  | n :: ns => .cons (.int n) (DpAll.ints ns)
mutual
theorem Rp.dp : ∀ (d : D) (v : V), noX d = true → Rp K O H d v → Dp K H v (toPy d)
  | .non, _, _, h => by rw [show _ = V.non from h, toPy]; exact .non
  | .bl b, _, _, h => by rw [show _ = V.bl b from h, toPy]; exact .bl b
  | .int i, _, _, h => by rw [show _ = V.int i from h, toPy]; exact .int i
  | .str s, _, _, h => by rw [show _ = V.str s from h, toPy]; exact .str s
  | .tup ds, _, x, ⟨a, vs, e, _, hh, hs⟩ => by rw [e, toPy]; exact .tup (SqT.of hh) (Rps.dp ds vs (by rw [noX] at x; exact x) hs)
  | .lst ds, _, x, ⟨a, vs, e, _, hh, hs⟩ => by rw [e, toPy]; exact .lst (SqL.of hh) (Rps.dp ds vs (by rw [noX] at x; exact x) hs)
  | .scr ns, _, _, ⟨a, e, hs⟩ => by rw [e, toPy]; exact .lst (hs.elim (fun ⟨_, o, h⟩ => .inl (.inr ⟨o, h⟩)) .inr) (DpAll.ints ns)
  | .exc _, _, x, _ => by simp [noX] at x
theorem Rps.dp : ∀ (ds : List D) (vs : List V), noXs ds = true → Rps K O H ds vs → DpAll K H vs (toPys ds)
  | [], _, _, h => by rw [show _ = [] from h, toPys]; exact .nil
  | d :: ds, _, x, ⟨v, vr, e, h1, h2⟩ => by
    rw [noXs, Bool.and_eq_true] at x
    rw [e, toPys]; exact .cons (Rp.dp d v x.1 h1) (Rps.dp ds vr x.2 h2)
end
end

/-! ### the slots of a def, and what a value is known to be -/
/-- ex: no value, but an error let out -/
inductive M where | sh | fr | bo | ex
  deriving DecidableEq
inductive Sl where
  | no | sh (d : D) | ow (ds : List D) | od (ks : List (List Int)) | fd (ks : List (List Int))
/-- what a def itself changes -/
def Sl.own : Sl → Bool
  | .ow _ => true
  | .od _ => true
  | _ => false
/-- a dict whose keys are rows of ints, whose values are True -/
def dkV (ks : List (List Int)) : List (List Key × V) := ks.map fun r => (r.map Sum.inl, V.bl true)
/-- what an address of ours may hold -/
def Held (H : Hp) (a : Addr) : Prop := H a ≠ none ∧ ∀ vs, H a ≠ some (.tup vs)
abbrev Env' := List Sl
/-- the value v of mode m, made between H and H' -/
def Rm (K : PySem.W.Frag) (O : AS) (H H' : Hp) : M → D → V → Prop
  | .sh, d, v => Rp K O H' d v
  | .fr, .lst ds, v => ∃ p vs, v = .ref p ∧ H p = none ∧ H' p = some (.lst vs) ∧ Rps K (fun a => O a ∨ a = p) H' ds vs
  | .fr, _, _ => False
  | .bo, .lst ds, v => ∃ a vs, v = .ref a ∧ H' a = some (.lst vs) ∧ Rps K O H' ds vs
  | .bo, _, _ => False
  | .ex, _, _ => False
/-- read alone: a list at its address, or a value -/
def Rb (K : PySem.W.Frag) (O : AS) (H : Hp) : D → V → Prop
  | .lst ds, v => ∃ a vs, v = .ref a ∧ H a = some (.lst vs) ∧ Rps K O H ds vs
  | d, v => Rp K O H d v
end Ev
/-! Ev: the small language and its evaluator. -/
namespace Ev
open PySem PySem.Spec PyProof.Rows L2

inductive Bop where | add | sub | mul | div | mod | pow
  deriving DecidableEq
inductive Cop where | lt | le | gt | ge | eq | ne
  deriving DecidableEq
inductive Bi where | abs | len | int | sum | min | max | list | lrev | sset | srt | ssp
  deriving DecidableEq
inductive B2 where | min | max
  deriving DecidableEq
inductive Ty where | int | bool | tuple | list
  deriving DecidableEq
/-- targets: a slot, or a tuple of slots -/
inductive Tg where | one (i : Nat) | many (is : List Nat)
  deriving DecidableEq
mutual
inductive Ex where
  | var (i : Nat) | int (n : Int) | bl (b : Bool) | non | str (s : Str)
  | bin (o : Bop) (a b : Ex) | neg (a : Ex) | cmp (o : Cop) (a b : Ex)
  | isN (a : Ex) | notN (a : Ex) | inn (a b : Ex) | nin (a b : Ex)
  | ands (es : Exs) | ors (es : Exs) | not (a : Ex)
  | tup (es : Exs) | lst (es : Exs)
  | idx (a i : Ex) | slc (a lo hi : Ex)
  | b1 (f : Bi) (a : Ex) | ldk (i : Nat) | b2 (f : B2) (a b : Ex) | isi (a : Ex) (t : Ty) | maxd (a d : Ex) | cnt (a b : Ex)
  | call (f : Nat) (es : Exs)
  | isx (a : Ex) (cs : List Nat) (many : Bool)
  | callB (f : Nat) (es : Exs)
  | comp (elt : Ex) (tg : Tg) (it : Itx) (c : Exs)
inductive Exs where | nil | cons (e : Ex) (es : Exs)
inductive Itx where | ex (e : Ex) | dk (i : Nat) | rng (a : Ex) | rng2 (a b : Ex) | zip (a b : Ex) | enum (a : Ex) | rev (a : Ex)
end

/-- what a statement does -/
inductive Out where | nx (g : Env') | rt (m : M) (d : D) | ex (c : Nat) (g : Env')
abbrev Rs := Option (M × D)
abbrev Ct := Nat → List D → Rs

def mulOk (i j : Int) : Bool := decide (i.natAbs.log2 + j.natAbs.log2 + 2 ≤ bitsLine)
def divOk (j : Int) : Bool := decide (j ≠ 0 ∧ j.natAbs.log2 < 9000)
def powOk (i j : Int) : Bool := decide (0 ≤ j ∧ j ≤ 1000000 ∧ i.natAbs < 2 ^ 64)
def lenOk (n : Nat) : Bool := decide (n < sizeLine)
def binD : Bop → D → D → Rs
  | .add, .int i, .int j => some (.sh, .int (i + j))
  | .add, .lst xs, .lst ys => if lenOk (xs.length + ys.length) then some (.fr, .lst (xs ++ ys)) else none
  | .sub, .int i, .int j => some (.sh, .int (i - j))
  | .mul, .int i, .int j => if mulOk i j then some (.sh, .int (i * j)) else none
  | .div, .int i, .int j => if divOk j then some (.sh, .int (i.fdiv j)) else none
  | .mod, .int i, .int j => if j ≠ 0 then some (.sh, .int (i.fmod j)) else none
  | .pow, .int i, .int j => if powOk i j then some (.sh, .int (i ^ j.toNat)) else none
  | _, _, _ => none
def eqvD (x y : D) : Bool := PyData.eqv (toPy x) (toPy y)
def shD (x : D) : Bool := noX x && SeqAt.shaped (toPy x)
def cmpD : Cop → D → D → Option Bool
  | .lt, .int i, .int j => some (decide (i < j))
  | .le, .int i, .int j => some (decide (i ≤ j))
  | .gt, .int i, .int j => some (decide (j < i))
  | .ge, .int i, .int j => some (decide (j ≤ i))
  | .eq, x, y => if shD x && shD y then some (eqvD x y) else none
  | .ne, x, y => if shD x && shD y then some (!eqvD x y) else none
  | _, _, _ => none
def isNonD : D → Bool
  | .non => true
  | _ => false
/-- a list's items -/
def asL : D → Option (List D)
  | .lst ds => some ds
  | .scr ns => some (ns.map D.int)
  | _ => none
/-- a list's or a tuple's items -/
def asLT : D → Option (List D)
  | .lst ds => some ds
  | .scr ns => some (ns.map D.int)
  | .tup ds => some ds
  | _ => none
def inD (x : D) : D → Option Bool
  | .lst ds => if shD x && shD (.lst ds) then some (ds.any fun z => eqvD z x) else none
  | _ => none
def cutD {α : Type} (xs : List α) (lo hi : Option Int) : List α := (xs.drop (HT.sIx xs.length 0 lo)).take (HT.sIx xs.length xs.length hi - HT.sIx xs.length 0 lo)
def slcD (x : D) (lo hi : Option Int) : Rs :=
  match x with
  | .lst ds => some (.fr, .lst (cutD ds lo hi))
  | .scr ns => some (.fr, .lst (cutD (ns.map D.int) lo hi))
  | .tup ds => if (cutD ds lo hi).length < ds.length then some (.sh, .tup (cutD ds lo hi)) else none
  | _ => none
def asInt : D → Option Int
  | .int i => some i
  | _ => none
def asBl : D → Option Bool
  | .bl b => some b
  | _ => none
def asInts : List D → Option (List Int)
  | [] => some []
  | d :: ds => do let i ← asInt d; let r ← asInts ds; pure (i :: r)
def lminI : List Int → Option Int
  | [] => none
  | x :: xs => some (xs.foldl min x)
def lmaxI : List Int → Option Int
  | [] => none
  | x :: xs => some (xs.foldl max x)
/-- tuples of d ints each -/
def asRow : D → Option (List Int)
  | .tup ds => asInts ds
  | _ => none
def asRows : List D → Option (List (List Int))
  | [] => some []
  | d :: ds => do let i ← asRow d; let r ← asRows ds; pure (i :: r)
def rowD (r : List Int) : D := .tup (r.map D.int)
/-- strictly ahead, in the order of tuples of ints -/
def lexK (a : List Int) : List (Int ⊕ List Nat) := a.map Sum.inl
def lexI (a b : List Int) : Bool := lexLt itemOrd (lexK a) (lexK b)
def insR (r : List Int) : List (List Int) → List (List Int)
  | [] => [r]
  | x :: xs => if lexI x r then x :: insR r xs else r :: x :: xs
def sortR : List (List Int) → List (List Int)
  | [] => []
  | x :: xs => insR x (sortR xs)
def dedupR : List (List Int) → List (List Int)
  | [] => []
  | x :: xs => if x ∈ xs then dedupR xs else x :: dedupR xs
/-- a spot: a tuple of two pairs of ints -/
def isSp : D → Bool
  | .tup [.tup [.int _, .int _], .tup [.int _, .int _]] => true
  | _ => false
def b1D : Bi → D → Rs
  | .abs, .int i => some (.sh, .int (if i < 0 then -i else i))
  | .len, d => (asLT d).map fun ds => (.sh, .int ds.length)
  | .int, .int i => some (.sh, .int i)
  | .int, .bl b => some (.sh, .int (if b then 1 else 0))
  | .sum, d => do let ds ← asL d; let ns ← asInts ds; pure (.sh, .int ns.sum)
  | .min, d => do let ds ← asL d; let ns ← asInts ds; let m ← lminI ns; pure (.sh, .int m)
  | .max, d => do let ds ← asL d; let ns ← asInts ds; let m ← lmaxI ns; pure (.sh, .int m)
  | .list, d => (asLT d).map fun ds => (.fr, .lst ds)
  | .lrev, d => (asL d).map fun ds => (.fr, .lst ds.reverse)
  | .sset, d => do
    let ds ← asL d
    let rs ← asRows ds
    if rs.length < 65 ∧ rs.all (fun r => r.length == 2) then pure (.fr, .lst ((sortR (dedupR rs)).map rowD)) else none
  | .srt, d => do
    let ds ← asL d
    let rs ← asRows ds
    if rs.all (fun r => !r.isEmpty) then pure (.fr, .lst ((sortR rs).map rowD)) else none
  | .ssp, d => do
    let ds ← asL d
    if ds.all isSp then pure (.fr, .lst (ds.mergeSort (PySem.W.dataLe false toPy))) else none
  | _, _ => none
def b2D : B2 → D → D → Rs
  | .max, .int i, .int j => some (.sh, .int (if j > i then j else i))
  | .min, .int i, .int j => some (.sh, .int (if j < i then j else i))
  | _, _, _ => none
/-- of which class an error of the class c is, 6: ValueError -/
def subX (c d : Nat) : Bool := c == d || d == 0 || d == 6
/-- isinstance(error, one of cs) -/
def isxD (cs : List Nat) : D → Option Bool
  | .exc c => if c < 6 then some (cs.any fun d => subX c d) else none
  | _ => none
def isX : D → Bool
  | .exc _ => true
  | _ => false
def isiD : Ty → D → Bool
  | .int, .int _ => true
  | .int, .bl _ => true
  | .bool, .bl _ => true
  | .tuple, .tup _ => true
  | .list, .lst _ => true
  | .list, .scr _ => true
  | _, _ => false
def storable : M × D → Option D
  | (.bo, _) => none
  | (.ex, _) => none
  | (_, d) => some d
def setSl (i : Nat) (s : Sl) (g : Env') : Option Env' := if i < g.length then some (g.set i s) else none
def asgAll : List Nat → List D → Env' → Option Env'
  | [], [], g => some g
  | i :: is, d :: ds, g => do let g1 ← setSl i (.sh d) g; asgAll is ds g1
  | _, _, _ => none
def asg : Tg → D → Env' → Option Env'
  | .one i, d, g => setSl i (.sh d) g
  | .many is, .tup ds, g => asgAll is ds g
  | .many is, .lst ds, g => asgAll is ds g
  | _, _, _ => none
def tgSlots : Tg → List Nat
  | .one i => [i]
  | .many is => is
def wipeE (g : Env') : List Nat → Env'
  | [] => g
  | v :: vs => (wipeE g vs).set v .no
/-- the comprehension's turns -/
def compF (a : D → Env' → Option Env') (c : Env' → Option Bool) (e : Env' → Rs) (g : Env') : List D → List D → Option (List D)
  | [], acc => some acc
  | d :: ds, acc => do
    let g1 ← a d g
    let b ← c g1
    if b then do
      let r ← e g1
      let x ← storable r
      if lenOk acc.length then compF a c e g ds (acc ++ [x]) else none
    else compF a c e g ds acc
def isNonE : Ex → Bool
  | .non => true
  | _ => false
/-- a slice's part -/
def partV (none_ : Bool) (r : Rs) : Option (Option Int) := if none_ then some none else do let y ← r; let i ← asInt y.2; pure (some i)
/-- the instance is chosen: nothing may compute it -/
noncomputable def rngOk (i : Int) : Bool := @decide (-(2 ^ 62) ≤ i ∧ i < 2 ^ 62) (Classical.propDecidable _)
theorem rngOk_some {i : Int} (h : rngOk i = true) : -(2 ^ 62) ≤ i ∧ i < 2 ^ 62 := @of_decide_eq_true _ (Classical.propDecidable _) h
theorem rngOk_small (i : Int) (h : -(2 ^ 62) ≤ i ∧ i < 2 ^ 62) : rngOk i = true := @decide_eq_true _ (Classical.propDecidable _) h
noncomputable section
def rngL (lo : Int) (n : Nat) : List D := (List.range n).map fun (k : Nat) => D.int (lo + (k : Int))
def enumL : Nat → List D → List D
  | _, [] => []
  | i, d :: ds => .tup [.int i, d] :: enumL (i + 1) ds
def zipL : List D → List D → List D
  | x :: xs, y :: ys => .tup [x, y] :: zipL xs ys
  | _, _ => []
/-- a call's error -/
def exOf : Rs → Option Nat
  | some (.ex, .exc c) => some c
  | _ => none
/-- the number that stands in the table of a text with the classes of errors -/
def flagX : Nat := 999999
/-- a call's value -/
def noEx : Rs → Rs
  | some (.ex, _) => none
  | r => r
mutual
/-- no list within -/
def noLd : D → Bool
  | .tup ds => noLds ds
  | .lst _ => false
  | .scr _ => false
  | .exc _ => false
  | _ => true
def noLds : List D → Bool
  | [] => true
  | d :: ds => noLd d && noLds ds
end
/-- a result that holds no list, or a new list of such -/
def scOf : M × D → Bool
  | (.sh, d) => noLd d
  | (.fr, .lst ds) => noLds ds
  | _ => false
/-- a call that may read lists that are still being made: then its result holds none -/
def callBF (ct : Ct) (f : Nat) : Option (List D) → Option (List D) → Rs
  | some ds, _ => noEx (ct f ds)
  | none, b => do let ds ← b; let r ← noEx (ct f ds); if scOf r then pure r else none
def odAt (g : Env') (i : Nat) : Option (List (List Int)) := match g[i]? with
  | some (.od ks) => some ks
  | _ => none
def fdAt (g : Env') (i : Nat) : Option (List (List Int)) := match g[i]? with
  | some (.fd ks) => some ks
  | _ => none
/-- one key more, or as it was -/
def putR (r : List Int) (ks : List (List Int)) : List (List Int) := if r ∈ ks then ks else ks ++ [r]
def itM (m : M) : M := if m = .bo then .bo else .sh
mutual
def evE (ct : Ct) (g : Env') : Ex → Rs
  | .var i => match g[i]? with
    | some (.sh d) => some (.sh, d)
    | some (.ow ds) => some (.bo, .lst ds)
    | _ => none
  | .int n => some (.sh, .int n)
  | .bl b => some (.sh, .bl b)
  | .non => some (.sh, .non)
  | .str s => some (.sh, .str s)
  | .bin o a b => do let x ← evE ct g a; let y ← evE ct g b; binD o x.2 y.2
  | .neg a => do let x ← evE ct g a; let i ← asInt x.2; pure (.sh, .int (-i))
  | .cmp o a b => do let x ← evE ct g a; let y ← evE ct g b; let k ← cmpD o x.2 y.2; pure (.sh, .bl k)
  | .isN a => do let x ← evE ct g a; pure (.sh, .bl (if false then !isNonD x.2 else isNonD x.2))
  | .notN a => do let x ← evE ct g a; pure (.sh, .bl (if true then !isNonD x.2 else isNonD x.2))
  | .inn a b => do let x ← evE ct g a; let y ← evE ct g b; let k ← inD x.2 y.2; pure (.sh, .bl (if false then !k else k))
  | .nin a b => do let x ← evE ct g a; let y ← evE ct g b; let k ← inD x.2 y.2; pure (.sh, .bl (if true then !k else k))
  | .ands es => evAnd ct g es
  | .ors es => evOr ct g es
  | .not a => do let x ← evE ct g a; let k ← asBl x.2; pure (.sh, .bl (!k))
  | .tup es => do let ds ← evs ct g es; if lenOk ds.length then pure (.sh, .tup ds) else none
  | .lst es => do let ds ← evs ct g es; if lenOk ds.length then pure (.fr, .lst ds) else none
  | .idx a i => do let x ← evE ct g a; let y ← evE ct g i; let k ← asInt y.2; let ds ← asLT x.2; let d ← atI ds k; pure (.sh, d)
  | .slc a lo hi => do
    let x ← evE ct g a
    let l ← partV (isNonE lo) (evE ct g lo)
    let h ← partV (isNonE hi) (evE ct g hi)
    slcD x.2 l h
  | .b1 f a => do let x ← evE ct g a; b1D f x.2
  | .ldk i => do let ks ← fdAt g i; pure (.fr, .lst (ks.map rowD))
  | .b2 f a b => do let x ← evE ct g a; let y ← evE ct g b; b2D f x.2 y.2
  | .isi a t => do let x ← evE ct g a; if isX x.2 then none else pure (.sh, .bl (isiD t x.2))
  | .isx a cs _ => do let _ ← ct flagX []; let x ← evE ct g a; let k ← isxD cs x.2; pure (.sh, .bl k)
  | .maxd a d => do let x ← evE ct g a; let y ← evE ct g d; let ds ← asL x.2; let ns ← asInts ds; let z ← asInt y.2; pure (.sh, .int ((lmaxI ns).getD z))
  | .cnt a b => do let x ← evE ct g a; let y ← evE ct g b; let ds ← asL x.2; if shD (.lst ds) && shD y.2 then pure (.sh, .int ((ds.filter fun z => eqvD z y.2).length : Nat)) else none
  | .call f es => do let ds ← evs ct g es; noEx (ct f ds)
  | .callB f es => callBF ct f (evs ct g es) (evsB ct g es)
  | .comp e tg it c => do
    let r ← evI ct g it
    let ds ← compF (asg tg) (fun g1 => evC ct g1 c) (fun g1 => evE ct g1 e) (wipeE g (tgSlots tg)) r.2 []
    pure (.fr, .lst ds)
def evAnd (ct : Ct) (g : Env') : Exs → Rs
  | .nil => none
  | .cons e .nil => do let x ← evE ct g e; let k ← asBl x.2; pure (.sh, .bl k)
  | .cons e es => do let x ← evE ct g e; let k ← asBl x.2; if k then evAnd ct g es else pure (.sh, .bl false)
def evOr (ct : Ct) (g : Env') : Exs → Rs
  | .nil => none
  | .cons e .nil => do let x ← evE ct g e; let k ← asBl x.2; pure (.sh, .bl k)
  | .cons e es => do let x ← evE ct g e; let k ← asBl x.2; if k then pure (.sh, .bl true) else evOr ct g es
def evs (ct : Ct) (g : Env') : Exs → Option (List D)
  | .nil => some []
  | .cons e es => do let x ← evE ct g e; let d ← storable x; let ds ← evs ct g es; pure (d :: ds)
/-- arguments that are only read -/
def evsB (ct : Ct) (g : Env') : Exs → Option (List D)
  | .nil => some []
  | .cons e es => do let x ← evE ct g e; let ds ← evsB ct g es; pure (x.2 :: ds)
/-- a comprehension's tests: none or one -/
def evC (ct : Ct) (g : Env') : Exs → Option Bool
  | .nil => some true
  | .cons e .nil => do let x ← evE ct g e; asBl x.2
  | .cons _ (.cons _ _) => none
def evI (ct : Ct) (g : Env') : Itx → Option (M × List D)
  | .ex e => do let x ← evE ct g e; let ds ← asLT x.2; pure (itM x.1, ds)
  | .dk i => do let ks ← fdAt g i; pure (.sh, ks.map rowD)
  | .rng a => do let x ← evE ct g a; let i ← asInt x.2; if rngOk i then pure (.sh, rngL 0 i.toNat) else none
  | .rng2 a b => do let x ← evE ct g a; let y ← evE ct g b; let i ← asInt x.2; let j ← asInt y.2; if rngOk i && rngOk j then pure (.sh, rngL i (j - i).toNat) else none
  | .zip a b => do let x ← evE ct g a; let y ← evE ct g b; let ds ← asL x.2; let es ← asL y.2; pure (if x.1 = .bo ∨ y.1 = .bo then .bo else .sh, zipL ds es)
  | .enum a => do let x ← evE ct g a; let ds ← asL x.2; pure (itM x.1, enumL 0 ds)
  | .rev a => do let x ← evE ct g a; let ds ← asL x.2; pure (itM x.1, ds.reverse)
end

mutual
inductive Sm where
  | set (own : Bool) (i : Nat) (e : Ex)
  | unp (is : List Nat) (e : Ex)
  | par (i j : Nat) (a b : Ex)
  | sub (i : Nat) (k e : Ex)
  | app (i : Nat) (e : Ex) | pop (i : Nat) | popTo (j i : Nat) | clr (i : Nat) | frz (i : Nat)
  | ret (e : Ex) | retv (i : Nat)
  | ife (c : Ex) (a b : Sms) | whl (c : Ex) (b : Sms) | fr (tg : Tg) (it : Itx) (b : Sms)
  | never
  | dnw (i : Nat) | dpt (i : Nat) (k : Ex) | clrX (e : Ex)
  | setX (own : Bool) (i : Nat) (f : Nat) (es : Exs) | retX (f : Nat) (es : Exs) | expX (f : Nat) (es : Exs) | rse (c : Nat) | tryK (b : Sms) (n j : Nat)
inductive Sms where | nil | cons (s : Sm) (ss : Sms)
end
def whlF (c : Env' → Option Bool) (b : Env' → Option Out) : Nat → Env' → Option Out
  | 0, _ => none
  | n + 1, g => do
    let k ← c g
    if k then do
      let o ← b g
      match o with
      | .nx g' => whlF c b n g'
      | .rt m d => some (.rt m d)
      | .ex k g' => some (.ex k g')
    else some (.nx g)
def forF (a : D → Env' → Option Env') (b : Env' → Option Out) : List D → Env' → Option Out
  | [], g => some (.nx g)
  | d :: ds, g => do
    let g1 ← a d g
    let o ← b g1
    match o with
    | .nx g' => forF a b ds g'
    | .rt m d => some (.rt m d)
    | .ex k g' => some (.ex k g')
def ownAt (g : Env') (i : Nat) : Option (List D) := match g[i]? with
  | some (.ow ds) => some ds
  | _ => none
def slOf (own : Bool) : M × D → Option Sl
  | (.fr, .lst ds) => if own then some (.ow ds) else some (.sh (.lst ds))
  | (.sh, d) => some (.sh d)
  | _ => none
/-- no further change: a list that is made becomes a value; a value stays -/
def frzO (g : Env') (i : Nat) : Option Sl → Option Out
  | some (.sh _) => some (.nx g)
  | some (.ow ds) => do let g' ← setSl i (.sh (.lst ds)) g; pure (.nx g')
  | some (.od ks) => do let g' ← setSl i (.fd ks) g; pure (.nx g')
  | some (.fd _) => some (.nx g)
  | _ => none
/-- a call's list, emptied -/
def clrO (g : Env') : M × D → Option Out
  | (.fr, .lst _) => some (.nx g)
  | _ => none
mutual
def evS (ct : Ct) (n : Nat) : Sm → Env' → Option Out
  | .set own i e, g => do let r ← evE ct g e; let s ← slOf own r; let g' ← setSl i s g; pure (.nx g')
  | .unp is e, g => do let r ← evE ct g e; let d ← storable r; let g' ← asg (.many is) d g; pure (.nx g')
  | .par i j a b, g => do
    let x ← evE ct g a
    let x' ← storable x
    let y ← evE ct g b
    let y' ← storable y
    let g1 ← setSl i (.sh x') g
    let g2 ← setSl j (.sh y') g1
    pure (.nx g2)
  | .sub i k e, g => do
    let r ← evE ct g e
    let x ← storable r
    let kk ← evE ct g k
    let z ← asInt kk.2
    let ds ← ownAt g i
    let j ← ixN ds.length z
    let g' ← setSl i (.ow (ds.set j x)) g
    pure (.nx g')
  | .app i e, g => do
    let r ← evE ct g e
    let x ← storable r
    let ds ← ownAt g i
    if lenOk ds.length then do let g' ← setSl i (.ow (ds ++ [x])) g; pure (.nx g') else none
  | .pop i, g => do
    let ds ← ownAt g i
    let x ← ds[ds.length - 1]?
    let g' ← setSl i (.ow ds.dropLast) g
    pure (.nx g')
  | .popTo j i, g => do
    let ds ← ownAt g i
    let x ← ds[ds.length - 1]?
    let g' ← setSl i (.ow ds.dropLast) g
    if i = j then none else do let g2 ← setSl j (.sh x) g'; pure (.nx g2)
  | .clr i, g => do let ds ← ownAt g i; let g' ← setSl i (.ow []) g; pure (.nx g')
  | .frz i, g => frzO g i g[i]?
  | .ret e, g => do let r ← evE ct g e; let _ ← storable r; pure (.rt r.1 r.2)
  | .retv i, g => do let ds ← ownAt g i; pure (.rt .fr (.lst ds))
  | .ife c a b, g => do
    let x ← evE ct g c
    let k ← asBl x.2
    if k then evSs ct n a g else evSs ct n b g
  | .whl c b, g => whlF (fun g => do let x ← evE ct g c; asBl x.2) (fun g => evSs ct n b g) n g
  | .fr tg it b, g => do
    let r ← evI ct g it
    if r.1 = .bo then none else forF (asg tg) (fun g => evSs ct n b g) r.2 g
  | .never, _ => none
  | .dnw i, g => do let g' ← setSl i (.od []) g; pure (.nx g')
  | .dpt i k, g => do
    let x ← evE ct g k
    let r ← asRow x.2
    let ks ← odAt g i
    if lenOk ks.length then do let g' ← setSl i (.od (putR r ks)) g; pure (.nx g') else none
  | .clrX e, g => do let r ← evE ct g e; clrO g r
  | .setX own i f es, g => do
    let ds ← evs ct g es
    match exOf (ct f ds) with
    | some c => some (.ex c g)
    | none => do let r ← noEx (ct f ds); let s ← slOf own r; let g' ← setSl i s g; pure (.nx g')
  | .retX f es, g => do
    let ds ← evs ct g es
    match exOf (ct f ds) with
    | some c => some (.ex c g)
    | none => do let r ← noEx (ct f ds); let _ ← storable r; pure (.rt r.1 r.2)
  | .expX f es, g => do
    let ds ← evs ct g es
    match exOf (ct f ds) with
    | some c => some (.ex c g)
    | none => do let _ ← noEx (ct f ds); pure (.nx g)
  | .rse c, g => do let _ ← ct flagX []; if c < 6 then pure (.ex c g) else none
  | .tryK b i j, g => do
    let _ ← ct flagX []
    let o ← evSs ct n b g
    match o with
    | .nx g' => some (.nx g')
    | .rt m d => some (.rt m d)
    | .ex c g' => if c < 6 then do let g1 ← setSl j (.sh (.exc c)) g'; let g2 ← setSl i .no g1; pure (.nx g2) else none
def evSs (ct : Ct) (n : Nat) : Sms → Env' → Option Out
  | .nil, g => some (.nx g)
  | .cons s ss, g => do
    let o ← evS ct n s g
    match o with
    | .nx g' => evSs ct n ss g'
    | .rt m d => some (.rt m d)
    | .ex k g' => some (.ex k g')
end
/-- a def: its slots, its parameters, its body -/
structure Fn where
  slots : Nat
  params : Nat
  body : Sms
def startE (f : Fn) (ds : List D) : Env' := ds.map Sl.sh ++ List.replicate (f.slots - ds.length) .no
def runFn (f : Fn) (ct : Ct) (n : Nat) (ds : List D) : Rs :=
  if ds.length = f.params then
    (evSs ct n f.body (startE f ds)).map fun o => match o with
      | .nx _ => (.sh, .non)
      | .rt m d => (m, d)
      | .ex c _ => (.ex, .exc c)
  else none
/-- the table: the last def first -/
def callT (n : Nat) : List (Nat × Fn) → Ct
  | [], _, _ => none
  | (i, f) :: fs, j, ds => if j = i then runFn f (callT n fs) n ds else callT n fs j ds
end
end Ev
/-! Ev: the state, and the rules for expressions. -/
namespace Ev
open PySem PySem.Spec PyProof.Rows L2

/-! ### the state -/
def SlotR (K : PySem.W.Frag) (H0 : Hp) (O : AS) (H : Hp) : Sl → Option V → Prop
  | .no, _ => True
  | .sh d, v => ∃ u, v = some u ∧ Rp K O H d u
  | .ow ds, v => ∃ a vs, v = some (.ref a) ∧ O a ∧ H0 a = none ∧ H a = some (.lst vs) ∧ Rps K O H ds vs
  | .od ks, v => ∃ a, v = some (.ref a) ∧ O a ∧ H0 a = none ∧ H a = some (.dT (dkV ks))
  | .fd ks, v => ∃ a o, v = some (.ref a) ∧ ¬ O a ∧ H a = some (.frz o (.dT (dkV ks)))
structure SR (K : PySem.W.Frag) (H0 : Hp) (O : AS) (H : Hp) (g : Env') (σ : L2.St) : Prop where
  trk : ∀ a, O a → Held H a
  len : g.length = σ.length
  slot : ∀ (i : Nat) (s : Sl) (v : Option V), g[i]? = some s → σ[i]? = some v → SlotR K H0 O H s v
  dis : ∀ (i j : Nat) (s t : Sl) (a : Addr), s.own = true → t.own = true → g[i]? = some s → g[j]? = some t → σ[i]? = some (some (.ref a)) → σ[j]? = some (some (.ref a)) → i = j
section
variable {K : PySem.W.Frag} {H0 : Hp} {O O' : AS} {H H' H'' : Hp} {g : Env'} {σ : L2.St}
theorem SlotR.same (s : Same H H') : ∀ {x : Sl} {v : Option V}, SlotR K H0 O H x v → SlotR K H0 O H' x v
  | .no, _, _ => trivial
  | .sh d, _, ⟨u, e, h⟩ => ⟨u, e, Rp.nxt (.same s) d u h⟩
  | .ow ds, _, ⟨a, vs, e, h1, h2, h3, h4⟩ => ⟨a, vs, e, h1, h2, s _ _ h3, Rps.nxt (.same s) ds vs h4⟩
  | .od ks, _, ⟨a, e, h1, h2, h3⟩ => ⟨a, e, h1, h2, s _ _ h3⟩
  | .fd ks, _, ⟨a, o, e, h1, h2⟩ => ⟨a, o, e, h1, s _ _ h2⟩
theorem Held.same {a : Addr} (h : Held H a) (s : Same H H') : Held H' a := by
  obtain ⟨h1, h2⟩ := h
  cases e : H a with
  | none => exact absurd e h1
  | some o =>
    refine ⟨by rw [s _ _ e]; simp, fun vs z => ?_⟩
    rw [s _ _ e] at z
    exact h2 vs (by rw [e]; exact z)
theorem Held.lst {a : Addr} {vs : List V} (e : H a = some (.lst vs)) : Held H a := ⟨by rw [e]; simp, fun ws z => by rw [e] at z; cases z⟩
theorem Held.dT {a : Addr} {ks : List (List Key × V)} (e : H a = some (.dT ks)) : Held H a := ⟨by rw [e]; simp, fun ws z => by rw [e] at z; cases z⟩
theorem trk_same (h : ∀ a, O a → Held H a) (s : Same H H') : ∀ a, O a → Held H' a := fun a ha => (h a ha).same s
theorem not_tup (h : ∀ a, O a → Held H a) {a : Addr} {vs : List V} (e : H a = some (.tup vs)) : ¬ O a := fun z => (h a z).2 vs e
theorem SR.same (S : SR K H0 O H g σ) (s : Same H H') : SR K H0 O H' g σ :=
  ⟨trk_same S.trk s, S.len, fun i x v e1 e2 => (S.slot i x v e1 e2).same s, S.dis⟩
theorem SR.get (S : SR K H0 O H g σ) {i : Nat} {s : Sl} (h : g[i]? = some s) : ∃ v, σ[i]? = some v ∧ SlotR K H0 O H s v := by
  obtain ⟨hi, _⟩ := List.getElem?_eq_some_iff.mp h
  have : i < σ.length := by rw [← S.len]; exact hi
  exact ⟨_, List.getElem?_eq_getElem this, S.slot i s _ h (List.getElem?_eq_getElem this)⟩
theorem same_new {p : Addr} {o : HO} (hp : H p = none) : Same H (upd H p o) := fun b x e => by rw [upd_ne (ne_of_none e hp)]; exact e
theorem not_new (h : ∀ a, O a → Held H a) {p : Addr} (hp : H p = none) : ¬ O p := fun z => (h p z).1 hp
theorem Rps.less {ds : List D} {vs : List V} (s : ∀ a, O' a → O a) (h : Rps K O H ds vs) : Rps K O' H ds vs := Rps.nxt (.less s) ds vs h
theorem Rp.less {d : D} {v : V} (s : ∀ a, O' a → O a) (h : Rp K O H d v) : Rp K O' H d v := Rp.nxt (.less s) d v h
/-- from the time p was new on: its address is in no datum -/
theorem Rps.plus {ds : List D} {vs : List V} {p : Addr} (hp : H p = none) (h : Rps K O H ds vs) : Rps K (fun a => O a ∨ a = p) H ds vs :=
  Rps.nxt (O := O) (H := H) ⟨fun _ _ _ q => q, fun a q => q.imp id fun e => by rw [e]; exact hp⟩ ds vs h
theorem Rp.plus {d : D} {v : V} {p : Addr} (hp : H p = none) (h : Rp K O H d v) : Rp K (fun a => O a ∨ a = p) H d v :=
  Rp.nxt (O := O) (H := H) ⟨fun _ _ _ q => q, fun a q => q.imp id fun e => by rw [e]; exact hp⟩ d v h
theorem Rb.of : ∀ {d : D} {v : V}, Rp K O H d v → Rb K O H d v
  | .lst ds, _, ⟨a, vs, e, _, h, r⟩ => ⟨a, vs, e, h, r⟩
  | .non, _, h => h
  | .bl _, _, h => h
  | .int _, _, h => h
  | .str _, _, h => h
  | .tup _, _, h => h
  | .scr _, _, h => h
  | .exc _, _, h => h
theorem Rb.same (s : Same H H') : ∀ {d : D} {v : V}, Rb K O H d v → Rb K O H' d v
  | .lst ds, _, ⟨a, vs, e, h, r⟩ => ⟨a, vs, e, s _ _ h, Rps.nxt (.same s) ds vs r⟩
  | .non, _, h => h
  | .bl _, _, h => h
  | .int _, _, h => h
  | .str _, _, h => h
  | .tup ds, v, h => Rp.nxt (.same s) (.tup ds) v h
  | .scr ns, v, h => Rp.nxt (.same s) (.scr ns) v h
  | .exc c, v, h => Rp.nxt (.same s) (.exc c) v h
theorem Rm.rb : ∀ {m : M} {d : D} {v : V}, Rm K O H H' m d v → Rb K O H' d v
  | .sh, d, v, h => Rb.of h
  | .fr, .lst ds, v, ⟨p, vs, e, _, h, r⟩ => ⟨p, vs, e, h, r.less fun a z => .inl z⟩
  | .bo, .lst ds, v, h => h
theorem Rm.store (trk : ∀ a, O a → Held H a) : ∀ {m : M} {d x : D} {v : V}, Rm K O H H' m d v → storable (m, d) = some x → Rp K O H' x v
  | .sh, d, x, v, h, e => by cases (Option.some.inj e); exact h
  | .fr, .lst ds, x, v, ⟨p, vs, e1, hp, h, r⟩, e => by
    cases (Option.some.inj e)
    exact ⟨p, vs, e1, not_new trk hp, h, r.less fun a z => .inl z⟩
theorem Rm.late (s : Same H H') : ∀ {m : M} {d : D} {v : V}, Rm K O H' H'' m d v → Rm K O H H'' m d v
  | .sh, _, _, h => h
  | .fr, .lst ds, _, ⟨p, vs, e, hp, h⟩ => ⟨p, vs, e, s.free hp, h⟩
  | .bo, .lst ds, _, h => h
theorem Rb.dp : ∀ {d : D} {v : V}, noX d = true → Rb K O H d v → Dp K H v (toPy d)
  | .lst ds, _, x, ⟨a, vs, e, h, r⟩ => by rw [e, toPy]; exact .lst (SqL.of h) (Rps.dp ds vs (by rw [noX] at x; exact x) r)
  | .non, v, x, h => Rp.dp (O := O) .non v x h
  | .bl b, v, x, h => Rp.dp (O := O) (.bl b) v x h
  | .int b, v, x, h => Rp.dp (O := O) (.int b) v x h
  | .str b, v, x, h => Rp.dp (O := O) (.str b) v x h
  | .tup b, v, x, h => Rp.dp (.tup b) v x h
  | .scr b, v, x, h => Rp.dp (.scr b) v x h
  | .exc b, v, x, h => Rp.dp (.exc b) v x h
theorem Rb.int {i : Int} {v : V} (h : Rb K O H (.int i) v) : v = .int i := h
theorem Rb.bl {i : Bool} {v : V} (h : Rb K O H (.bl i) v) : v = .bl i := h
theorem Rb.toInt {d : D} {i : Int} {v : V} (h : Rb K O H d v) (e : asInt d = some i) : v = .int i := by
  cases d <;> simp [asInt] at e
  subst e; exact h
theorem Rb.toBl {d : D} {i : Bool} {v : V} (h : Rb K O H d v) (e : asBl d = some i) : v = .bl i := by
  cases d <;> simp [asBl] at e
  subst e; exact h
theorem kl_of {a : Addr} {xs : List V} (h : KL K a xs) : SqL K H a xs := .inr h
/-- a list that is read -/
theorem Rb.toL {d : D} {ds : List D} {v : V} (h : Rb K O H d v) (e : asL d = some ds) : ∃ a vs, v = .ref a ∧ SqL K H a vs ∧ Rps K O H ds vs := by
  cases d <;> simp [asL] at e
  · subst e
    obtain ⟨a, vs, e, h, r⟩ := h
    exact ⟨a, vs, e, SqL.of h, r⟩
  · subst e
    obtain ⟨a, e, h⟩ := h
    exact ⟨a, _, e, h.elim (fun ⟨_, o, h⟩ => .inl (.inr ⟨o, h⟩)) kl_of, Rps.ofInts _⟩
theorem Rb.toLT {d : D} {ds : List D} {v : V} (h : Rb K O H d v) (e : asLT d = some ds) : ∃ a vs, v = .ref a ∧ (SqL K H a vs ∨ SqT K H a vs) ∧ Rps K O H ds vs := by
  cases d with
  | tup xs =>
    simp [asLT] at e
    subst e
    obtain ⟨a, vs, e, _, h, r⟩ := h
    exact ⟨a, vs, e, .inr (SqT.of h), r⟩
  | lst xs =>
    obtain ⟨a, vs, e1, h1, r⟩ := Rb.toL (d := .lst xs) (ds := ds) h e
    exact ⟨a, vs, e1, .inl h1, r⟩
  | scr xs =>
    obtain ⟨a, vs, e1, h1, r⟩ := Rb.toL (d := .scr xs) (ds := ds) h e
    exact ⟨a, vs, e1, .inl h1, r⟩
  | _ => simp [asLT] at e
end

/-! ### the readings -/
section
variable {K : PySem.W.Frag}
def tQ (K : PySem.W.Frag) (f : Env' → Rs) : TE := fun σ H Q => ∃ H0 O g m d, SR K H0 O H g σ ∧ f g = some (m, d) ∧ ∀ v H', Same H H' → Rm K O H H' m d v → Q v H'
def tQT (K : PySem.W.Frag) (f : Env' → Option Bool) : TT := fun σ H Q => ∃ H0 O g b, SR K H0 O H g σ ∧ f g = some b ∧ ∀ H', Same H H' → Q b H'
def tQA (K : PySem.W.Frag) (f : Env' → Option (List D)) : TA := fun σ H Q => ∃ H0 O g ds, SR K H0 O H g σ ∧ f g = some ds ∧ ∀ vs H', Same H H' → Rps K O H' ds vs → Q vs H'
/-- the test of an expression's value -/
def bOf (f : Env' → Rs) : Env' → Option Bool := fun g => do let x ← f g; asBl x.2
variable {σ : L2.St} {H H0 : Hp} {O : AS} {g : Env'}
theorem tQ.use {f : Env' → Rs} {Q : VK} {x : M × D} (S : SR K H0 O H g σ) (e : f g = some x) (h : ∀ v H', Same H H' → Rm K O H H' x.1 x.2 v → Q v H') : tQ K f σ H Q := ⟨H0, O, g, x.1, x.2, S, e, h⟩
theorem tQ.two {fa fb : Env' → Rs} {R : V → V → Hp → Prop} {x y : M × D} (S : SR K H0 O H g σ) (ea : fa g = some x) (eb : fb g = some y)
    (h : ∀ v w H', Same H H' → Rb K O H' x.2 v → Rb K O H' y.2 w → R v w H') : tQ K fa σ H fun v H1 => tQ K fb σ H1 fun w H2 => R v w H2 := by
  refine tQ.use S ea fun v H1 s1 r1 => tQ.use (S.same s1) eb fun w H2 s2 r2 => ?_
  exact h v w H2 (s1.trans s2) (r1.rb.same s2) r2.rb
end
section
variable {X : Cx}
theorem _root_.L2.PE.imp {e : Expr} {t t' : TE} (h : PE X e t) (k : ∀ σ H Q, t' σ H Q → t σ H Q) : PE X e t' := ⟨fun pins s σ H Q I q => h.run pins s σ H Q I (k _ _ _ q)⟩
theorem _root_.L2.PT.imp {e : Expr} {t t' : TT} (h : PT X e t) (k : ∀ σ H Q, t' σ H Q → t σ H Q) : PT X e t' := ⟨fun pins s σ H Q I q => h.run pins s σ H Q I (k _ _ _ q)⟩
theorem _root_.L2.PW.imp {e : Expr} {t t' : TT} (h : PW X e t) (k : ∀ σ H Q, t' σ H Q → t σ H Q) : PW X e t' := ⟨fun wh pins s σ H Q I q => h.run wh pins s σ H Q I (k _ _ _ q)⟩
theorem _root_.L2.PA.imp {e : List Expr} {t t' : TA} (h : PA X e t) (k : ∀ σ H Q, t' σ H Q → t σ H Q) : PA X e t' := ⟨fun pos pins s σ H Q I q => h.run pos pins s σ H Q I (k _ _ _ q)⟩
theorem _root_.L2.PS.imp {e : Stmt} {t t' : TS} (h : PS X e t) (k : ∀ D σ H, t' D σ H → t D σ H) : PS X e t' := ⟨fun pins s σ H D I q => h.run pins s σ H D I (k _ _ _ q)⟩
theorem _root_.L2.PSs.imp {e : List Stmt} {t t' : TS} (h : PSs X e t) (k : ∀ D σ H, t' D σ H → t D σ H) : PSs X e t' := ⟨fun pins s σ H D I q => h.run pins s σ H D I (k _ _ _ q)⟩

/-- isTrue of such a tree asks its value -/
def PlainTest (e : Expr) : Prop := ∀ (env : Env) (whole : Sem Value), isTrue e env whole = (do let v ← whole; standAt e.pos; holding [v] (truthy v))
theorem q_test {e : Expr} {f : Env' → Rs} (h : PE X e (tQ X.K f)) (hp : PlainTest e) : PT X e (tQT X.K (bOf f)) := by
  refine (pt_val h (hp X.env)).imp fun σ H Q ⟨H0, O, g, b, S, e, q⟩ => ?_
  simp only [bOf, Option.bind_eq_bind, Option.bind_eq_some_iff] at e
  obtain ⟨x, ex, eb⟩ := e
  exact tQ.use S ex fun v H' s r => ⟨b, r.rb.toBl eb, q H' s⟩

variable {a b : Expr} {fa fb : Env' → Rs} {pos : Pos}
/-! ### constants and names -/
theorem q_const {e : Expr} {v : V} {d : D} (h : PE X e (tC v)) (r : ∀ O H, Rp X.K O H d v) : PE X e (tQ X.K fun _ => some (.sh, d)) := by
  refine h.imp fun σ H Q ⟨H0, O, g, m, d', S, e, q⟩ => ?_
  cases e
  exact q v H (Same.refl H) (r O H)
theorem q_var {i : Nat} {x : Str} (h : PE X (.Name x pos) (tVar i)) : PE X (.Name x pos) (tQ X.K fun g => match g[i]? with
    | some (.sh d) => some (.sh, d)
    | some (.ow ds) => some (.bo, .lst ds)
    | _ => none) := by
  refine h.imp fun σ H Q ⟨H0, O, g, m, d, S, e, q⟩ => ?_
  cases es : g[i]? with
  | none => simp only [es] at e; cases e
  | some sl =>
    obtain ⟨v, ev, r⟩ := S.get es
    cases sl with
    | no => simp only [es] at e; cases e
    | sh d' =>
      simp only [es] at e
      cases e
      obtain ⟨u, rfl, r⟩ := r
      exact ⟨u, ev, q u H (Same.refl H) r⟩
    | ow ds =>
      simp only [es] at e
      cases e
      obtain ⟨p, vs, rfl, r1, r2, r3, r4⟩ := r
      exact ⟨_, ev, q _ H (Same.refl H) ⟨p, vs, rfl, r3, r4⟩⟩
    | od ks => simp only [es] at e; cases e
    | fd ks => simp only [es] at e; cases e

/-! ### operators -/
theorem op_mulE : OpR X (binaryOp .Mult) (rI (fun i j => mulOk i j = true) fun i j => .int (i * j)) := opI fun i j _ _ _ _ _ hc q => by
  refine mul_int q ?_
  have hc := of_decide_eq_true hc
  have b : ∀ x : Int, Builtin.Int.intBits x ≤ x.natAbs.log2 + 1 := fun x => by
    unfold Builtin.Int.intBits
    split <;> omega
  have h1 := b i
  have h2 := b j
  unfold IntMulOk
  intro z
  rw [Bool.and_eq_true] at z
  have z2 := z.2
  unfold Builtin.Int.intTooBig at z2
  have z3 := of_decide_eq_true z2
  omega
theorem op_fdivE : OpR X (binaryOp .FloorDiv) (rI (fun _ j => divOk j = true) fun i j => .int (i.fdiv j)) := opI fun i j _ _ _ _ _ hc q => by
  have hc := of_decide_eq_true hc
  exact floordiv_int hc.1 q (.inl (PyProof.noPylong_of_log2 hc.2))
theorem powOk_of {i j : Int} (h : powOk i j = true) : CPow i j := by
  unfold powOk at h
  have h' := of_decide_eq_true h
  exact h'
def bopOf : Bop → Operator
  | .add => .Add | .sub => .Sub | .mul => .Mult | .div => .FloorDiv | .mod => .Mod | .pow => .Pow
/-- what binD asks of a binary operator, by values -/
def rBin (K : PySem.W.Frag) (o : Bop) : R2 := fun x y H Q => ∃ O d e m r, (∀ a, O a → Held H a) ∧ Rb K O H d x ∧ Rb K O H e y ∧ binD o d e = some (m, r) ∧ ∀ v H', Same H H' → Rm K O H H' m r v → Q v H'
theorem op_cats : OpR X (binaryOp .Add) rCat := op_cat
theorem op_binE (o : Bop) : OpR X (binaryOp (bopOf o)) (rBin X.K o) := by
  intro pins s σ H x y v u Q I rx ry ⟨O, d, e, m, r, trk, rd, re, hb, q⟩
  cases o with
  | add =>
    cases d <;> cases e <;> simp only [binD] at hb <;> try cases hb
    · cases rd; cases re
      exact op_add pins s σ H _ _ v u Q I rx ry ⟨_, _, rfl, rfl, q _ H (Same.refl H) rfl⟩
    · rename_i xs ys
      split at hb
      · rename_i hl
        cases hb
        obtain ⟨a, vs, rfl, h1, r1⟩ := rd
        obtain ⟨b, ws, rfl, h2, r2⟩ := re
        have hl := of_decide_eq_true hl
        refine op_cat pins s σ H _ _ v u Q I rx ry ⟨a, b, vs, ws, rfl, rfl, h1, h2, by rw [r1.len, r2.len]; omega, fun p hp => ?_⟩
        refine q _ _ (same_new hp) ⟨p, _, rfl, hp, upd_same, ?_⟩
        exact Rps.nxt (.same (same_new hp)) _ _ ((r1.app r2).plus hp)
      · cases hb
  | sub =>
    cases d <;> cases e <;> simp only [binD] at hb <;> try cases hb
    cases rd; cases re
    exact op_sub pins s σ H _ _ v u Q I rx ry ⟨_, _, rfl, rfl, q _ H (Same.refl H) rfl⟩
  | mul =>
    cases d <;> cases e <;> simp only [binD] at hb <;> try cases hb
    split at hb
    · rename_i hk
      cases hb
      cases rd; cases re
      exact op_mulE pins s σ H _ _ v u Q I rx ry ⟨_, _, rfl, rfl, hk, q _ H (Same.refl H) rfl⟩
    · cases hb
  | div =>
    cases d <;> cases e <;> simp only [binD] at hb <;> try cases hb
    split at hb
    · rename_i hk
      cases hb
      cases rd; cases re
      exact op_fdivE pins s σ H _ _ v u Q I rx ry ⟨_, _, rfl, rfl, hk, q _ H (Same.refl H) rfl⟩
    · cases hb
  | mod =>
    cases d <;> cases e <;> simp only [binD] at hb <;> try cases hb
    split at hb
    · rename_i hk
      cases hb
      cases rd; cases re
      exact op_modN pins s σ H _ _ v u Q I rx ry ⟨_, _, rfl, rfl, hk, q _ H (Same.refl H) rfl⟩
    · cases hb
  | pow =>
    cases d <;> cases e <;> simp only [binD] at hb <;> try cases hb
    split at hb
    · rename_i hk
      cases hb
      cases rd; cases re
      exact op_pow pins s σ H _ _ v u Q I rx ry ⟨_, _, rfl, rfl, powOk_of hk, q _ H (Same.refl H) rfl⟩
    · cases hb
theorem Same.late {H H1 : Hp} {K : PySem.W.Frag} {O : AS} {m : M} {d : D} {Q : VK} (s : Same H H1) (q : ∀ v H', Same H H' → Rm K O H H' m d v → Q v H') : ∀ v H', Same H1 H' → Rm K O H1 H' m d v → Q v H' :=
  fun v H' s2 r => q v H' (s.trans s2) (r.late s)
theorem q_bin {o : Bop} (ha : PE X a (tQ X.K fa)) (hb : PE X b (tQ X.K fb)) : PE X (.BinOp a (bopOf o) b pos) (tQ X.K fun g => do let x ← fa g; let y ← fb g; binD o x.2 y.2) := by
  refine (pe_op (op_binE o) ha hb).imp fun σ H Q ⟨H0, O, g, m, d, S, e, q⟩ => ?_
  simp only [Option.bind_eq_bind, Option.bind_eq_some_iff] at e
  obtain ⟨x, ex, y, ey, eb⟩ := e
  exact tQ.two S ex ey fun v w H' s r1 r2 => ⟨O, x.2, y.2, m, d, trk_same S.trk s, r1, r2, eb, Same.late s q⟩
theorem q_neg (ha : PE X a (tQ X.K fa)) : PE X (.UnaryOp .USub a pos) (tQ X.K fun g => do let x ← fa g; let i ← asInt x.2; pure (.sh, .int (-i))) := by
  refine (pe_un un_neg ha).imp fun σ H Q ⟨H0, O, g, m, d, S, e, q⟩ => ?_
  simp only [Option.bind_eq_bind, Option.bind_eq_some_iff, Option.pure_def, Option.some.injEq] at e
  obtain ⟨x, ex, i, ei, eb⟩ := e
  cases eb
  exact tQ.use S ex fun v H' s r => ⟨i, r.rb.toInt ei, q _ _ s rfl⟩
/-! ### comparisons -/
def copOf : Cop → CmpOp
  | .lt => .Lt | .le => .LtE | .gt => .Gt | .ge => .GtE | .eq => .Eq | .ne => .NotEq
def rCmp (K : PySem.W.Frag) (o : Cop) : R2 := fun x y H Q => ∃ O d e k, Rb K O H d x ∧ Rb K O H e y ∧ cmpD o d e = some k ∧ Q (.bl k) H
theorem op_cmpE (hu : X.A.units + 64 < cLine) (o : Cop) : OpR X (compareOp (copOf o)) (rCmp X.K o) := by
  intro pins s σ H x y v u Q I rx ry ⟨O, d, e, k, rd, re, hb, q⟩
  cases o with
  | lt =>
    cases d <;> cases e <;> simp only [cmpD] at hb <;> try cases hb
    cases rd; cases re
    exact op_lt pins s σ H _ _ v u Q I rx ry ⟨_, _, rfl, rfl, q⟩
  | le =>
    cases d <;> cases e <;> simp only [cmpD] at hb <;> try cases hb
    cases rd; cases re
    exact op_le pins s σ H _ _ v u Q I rx ry ⟨_, _, rfl, rfl, q⟩
  | gt =>
    cases d <;> cases e <;> simp only [cmpD] at hb <;> try cases hb
    cases rd; cases re
    exact op_gt pins s σ H _ _ v u Q I rx ry ⟨_, _, rfl, rfl, q⟩
  | ge =>
    cases d <;> cases e <;> simp only [cmpD] at hb <;> try cases hb
    cases rd; cases re
    exact op_ge pins s σ H _ _ v u Q I rx ry ⟨_, _, rfl, rfl, q⟩
  | eq =>
    simp only [cmpD] at hb
    split at hb
    · rename_i hk
      rw [Bool.and_eq_true] at hk
      cases hb
      simp only [shD, Bool.and_eq_true] at hk
      exact op_eqD hu pins s σ H _ _ v u Q I rx ry ⟨_, _, rd.dp hk.1.1, re.dp hk.2.1, hk.1.2, hk.2.2, q⟩
    · cases hb
  | ne =>
    simp only [cmpD] at hb
    split at hb
    · rename_i hk
      rw [Bool.and_eq_true] at hk
      cases hb
      simp only [shD, Bool.and_eq_true] at hk
      exact op_neD hu pins s σ H _ _ v u Q I rx ry ⟨_, _, rd.dp hk.1.1, re.dp hk.2.1, hk.1.2, hk.2.2, q⟩
    · cases hb
theorem nomark' (b : Expr) (o : Cop) : behindInMarks (copOf o) b = false := nobehind b (by cases o <;> decide) (by cases o <;> decide)
def cmpF (o : Cop) (fa fb : Env' → Rs) : Env' → Rs := fun g => do let x ← fa g; let y ← fb g; let k ← cmpD o x.2 y.2; pure (.sh, .bl k)
theorem q_cmp {o : Cop} (hu : X.A.units + 64 < cLine) (ha : PE X a (tQ X.K fa)) (hb : PE X b (tQ X.K fb)) : PE X (.Compare a [copOf o] [b] pos) (tQ X.K (cmpF o fa fb)) := by
  refine (pe_cmpR (op_cmpE hu o) ha hb (nomark' b o)).imp fun σ H Q ⟨H0, O, g, m, d, S, e, q⟩ => ?_
  simp only [cmpF, Option.bind_eq_bind, Option.bind_eq_some_iff, Option.pure_def, Option.some.injEq] at e
  obtain ⟨x, ex, y, ey, k, ek, eb⟩ := e
  cases eb
  exact tQ.two S ex ey fun v w H' s r1 r2 => ⟨O, x.2, y.2, k, r1, r2, ek, q _ _ s rfl⟩
theorem q_cmpT {o : Cop} (hu : X.A.units + 64 < cLine) (ha : PE X a (tQ X.K fa)) (hb : PE X b (tQ X.K fb)) : PT X (.Compare a [copOf o] [b] pos) (tQT X.K (bOf (cmpF o fa fb))) := by
  refine (pt_cmpR (op_cmpE hu o) ha hb (nomark' b o)).imp fun σ H Q ⟨H0, O, g, k', S, e, q⟩ => ?_
  simp only [bOf, cmpF, Option.bind_eq_bind, Option.bind_eq_some_iff, Option.pure_def, Option.some.injEq] at e
  obtain ⟨z, ⟨x, ex, y, ey, k, ek, eb⟩, ez⟩ := e
  subst eb
  have ez : k = k' := Option.some.inj ez
  subst ez
  exact tQ.two S ex ey fun v w H' s r1 r2 => ⟨O, x.2, y.2, k, r1, r2, ek, k, rfl, q _ s⟩
theorem Rb.nonD {K : PySem.W.Frag} {O : AS} {H : Hp} {d : D} {v : V} (r : Rb K O H d v) : decide (v = .non) = isNonD d := by
  cases d with
  | non => cases r; rfl
  | bl _ => cases r; rfl
  | int _ => cases r; rfl
  | str _ => cases r; rfl
  | tup _ => obtain ⟨a, _, rfl, _⟩ := r; rfl
  | lst _ => obtain ⟨a, _, rfl, _⟩ := r; rfl
  | scr _ => obtain ⟨a, rfl, _⟩ := r; rfl
  | exc _ => obtain ⟨a, C, rfl, _⟩ := r; rfl
def isNF (n : Bool) (fa : Env' → Rs) : Env' → Rs := fun g => do let x ← fa g; pure (.sh, .bl (if n then !isNonD x.2 else isNonD x.2))
theorem q_isN {j pos'} (ha : PE X a (tQ X.K fa)) : PE X (.Compare a [.Is] [.Constant .none j pos'] pos) (tQ X.K (isNF false fa)) := by
  refine (pe_cmp (pc_isN ha)).imp fun σ H Q ⟨H0, O, g, m, d, S, e, q⟩ => ?_
  simp only [isNF, Option.bind_eq_bind, Option.bind_eq_some_iff, Option.pure_def, Option.some.injEq] at e
  obtain ⟨x, ex, eb⟩ := e
  cases eb
  exact tQ.use S ex fun v H' s r => by rw [r.rb.nonD]; exact q _ _ s rfl
theorem q_notN {j pos'} (ha : PE X a (tQ X.K fa)) : PE X (.Compare a [.IsNot] [.Constant .none j pos'] pos) (tQ X.K (isNF true fa)) := by
  refine (pe_cmp (pc_notN ha)).imp fun σ H Q ⟨H0, O, g, m, d, S, e, q⟩ => ?_
  simp only [isNF, Option.bind_eq_bind, Option.bind_eq_some_iff, Option.pure_def, Option.some.injEq] at e
  obtain ⟨x, ex, eb⟩ := e
  cases eb
  exact tQ.use S ex fun v H' s r => by rw [r.rb.nonD]; exact q _ _ s rfl
theorem q_isNT {j pos'} (ha : PE X a (tQ X.K fa)) : PT X (.Compare a [.Is] [.Constant .none j pos'] pos) (tQT X.K (bOf (isNF false fa))) := by
  refine (pt_cmp (pc_isN ha)).imp fun σ H Q ⟨H0, O, g, b, S, e, q⟩ => ?_
  simp only [bOf, isNF, Option.bind_eq_bind, Option.bind_eq_some_iff, Option.pure_def, Option.some.injEq] at e
  obtain ⟨z, ⟨x, ex, eb⟩, ez⟩ := e
  cases eb
  cases ez
  exact tQ.use S ex fun v H' s r => by rw [r.rb.nonD]; exact ⟨_, rfl, q _ s⟩
theorem q_notNT {j pos'} (ha : PE X a (tQ X.K fa)) : PT X (.Compare a [.IsNot] [.Constant .none j pos'] pos) (tQT X.K (bOf (isNF true fa))) := by
  refine (pt_cmp (pc_notN ha)).imp fun σ H Q ⟨H0, O, g, b, S, e, q⟩ => ?_
  simp only [bOf, isNF, Option.bind_eq_bind, Option.bind_eq_some_iff, Option.pure_def, Option.some.injEq] at e
  obtain ⟨z, ⟨x, ex, eb⟩, ez⟩ := e
  cases eb
  cases ez
  exact tQ.use S ex fun v H' s r => by rw [r.rb.nonD]; exact ⟨_, rfl, q _ s⟩
/-! ### in -/
def inF (n : Bool) (fa fb : Env' → Rs) : Env' → Rs := fun g => do let x ← fa g; let y ← fb g; let k ← inD x.2 y.2; pure (.sh, .bl (if n then !k else k))
theorem inD_some {x y : D} {k : Bool} (h : inD x y = some k) : ∃ ds, y = .lst ds ∧ shD x = true ∧ shD (.lst ds) = true ∧ k = ds.any fun z => eqvD z x := by
  cases y <;> simp only [inD] at h <;> try cases h
  split at h
  · rename_i hk
    rw [Bool.and_eq_true] at hk
    cases h
    exact ⟨_, rfl, hk.1, hk.2, rfl⟩
  · cases h
theorem any_toPys (x : D) : ∀ ds : List D, (toPys ds).any (fun z => PyData.eqv z (toPy x)) = ds.any fun z => eqvD z x
  | [] => rfl
  | d :: ds => by rw [toPys, List.any_cons, List.any_cons, any_toPys x ds]; rfl
theorem in_two {σ : L2.St} {H H0 : Hp} {O : AS} {g : Env'} {x y : M × D} {k : Bool} {R : V → V → Hp → Prop} (S : SR X.K H0 O H g σ) (ea : fa g = some x) (eb : fb g = some y) (ek : inD x.2 y.2 = some k)
    (h : ∀ v w H' d ds, Same H H' → Dp X.K H' v d → Dp X.K H' w (.list ds) → SeqAt.shaped d = true → SeqAt.shaped (.list ds) = true → (ds.any fun z => PyData.eqv z d) = k → R v w H') :
    tQ X.K fa σ H fun v H1 => tQ X.K fb σ H1 fun w H2 => R v w H2 := by
  refine tQ.two S ea eb fun v w H' s r1 r2 => ?_
  obtain ⟨ds, e, h1, h2, h3⟩ := inD_some ek
  rw [e] at r2
  simp only [shD, Bool.and_eq_true] at h1 h2
  have r2 := r2.dp h2.1
  have h2' : SeqAt.shaped (.list (toPys ds)) = true := h2.2
  rw [toPy] at r2
  exact h v w H' _ _ s (r1.dp h1.1) r2 h1.2 h2' ((any_toPys x.2 ds).trans h3.symm)
theorem q_in (hu : X.A.units + 65 < cLine) (hm : behindInMarks .In b = false) (ha : PE X a (tQ X.K fa)) (hb : PE X b (tQ X.K fb)) : PE X (.Compare a [.In] [b] pos) (tQ X.K (inF false fa fb)) := by
  refine (pe_cmpR (op_inD hu) ha hb hm).imp fun σ H Q ⟨H0, O, g, m, d, S, e, q⟩ => ?_
  simp only [inF, Option.bind_eq_bind, Option.bind_eq_some_iff, Option.pure_def, Option.some.injEq] at e
  obtain ⟨x, ex, y, ey, k, ek, eb⟩ := e
  cases eb
  exact in_two S ex ey ek fun v w H' d ds s d1 d2 s1 s2 he => ⟨d, ds, d1, d2, s1, s2, by rw [he]; exact q _ _ s rfl⟩
theorem q_inT (hu : X.A.units + 65 < cLine) (hm : behindInMarks .In b = false) (ha : PE X a (tQ X.K fa)) (hb : PE X b (tQ X.K fb)) : PT X (.Compare a [.In] [b] pos) (tQT X.K (bOf (inF false fa fb))) := by
  refine (pt_cmpR (op_inD hu) ha hb hm).imp fun σ H Q ⟨H0, O, g, b', S, e, q⟩ => ?_
  simp only [bOf, inF, Option.bind_eq_bind, Option.bind_eq_some_iff, Option.pure_def, Option.some.injEq] at e
  obtain ⟨z, ⟨x, ex, y, ey, k, ek, eb⟩, ez⟩ := e
  cases eb
  cases ez
  exact in_two S ex ey ek fun v w H' d ds s d1 d2 s1 s2 he => ⟨d, ds, d1, d2, s1, s2, _, rfl, by rw [he]; exact q _ s⟩
theorem q_nin (hu : X.A.units + 65 < cLine) (hm : behindInMarks .NotIn b = false) (ha : PE X a (tQ X.K fa)) (hb : PE X b (tQ X.K fb)) : PE X (.Compare a [.NotIn] [b] pos) (tQ X.K (inF true fa fb)) := by
  refine (pe_cmpR (op_notInD hu) ha hb hm).imp fun σ H Q ⟨H0, O, g, m, d, S, e, q⟩ => ?_
  simp only [inF, Option.bind_eq_bind, Option.bind_eq_some_iff, Option.pure_def, Option.some.injEq] at e
  obtain ⟨x, ex, y, ey, k, ek, eb⟩ := e
  cases eb
  exact in_two S ex ey ek fun v w H' d ds s d1 d2 s1 s2 he => ⟨d, ds, d1, d2, s1, s2, by rw [he]; exact q _ _ s rfl⟩
theorem q_ninT (hu : X.A.units + 65 < cLine) (hm : behindInMarks .NotIn b = false) (ha : PE X a (tQ X.K fa)) (hb : PE X b (tQ X.K fb)) : PT X (.Compare a [.NotIn] [b] pos) (tQT X.K (bOf (inF true fa fb))) := by
  refine (pt_cmpR (op_notInD hu) ha hb hm).imp fun σ H Q ⟨H0, O, g, b', S, e, q⟩ => ?_
  simp only [bOf, inF, Option.bind_eq_bind, Option.bind_eq_some_iff, Option.pure_def, Option.some.injEq] at e
  obtain ⟨z, ⟨x, ex, y, ey, k, ek, eb⟩, ez⟩ := e
  cases eb
  cases ez
  exact in_two S ex ey ek fun v w H' d ds s d1 d2 s1 s2 he => ⟨d, ds, d1, d2, s1, s2, _, rfl, by rw [he]; exact q _ s⟩
/-! ### not, and, or -/
def notF (fa : Env' → Rs) : Env' → Rs := fun g => do let x ← fa g; let k ← asBl x.2; pure (.sh, .bl (!k))
theorem q_not (ha : PE X a (tQ X.K fa)) : PE X (.UnaryOp .Not a pos) (tQ X.K (notF fa)) := by
  refine (pe_not ha).imp fun σ H Q ⟨H0, O, g, m, d, S, e, q⟩ => ?_
  simp only [notF, Option.bind_eq_bind, Option.bind_eq_some_iff, Option.pure_def, Option.some.injEq] at e
  obtain ⟨x, ex, k, ek, eb⟩ := e
  cases eb
  exact tQ.use S ex fun v H' s r => ⟨k, r.rb.toBl ek, q _ _ s rfl⟩
theorem q_notT (ha : PT X a (tQT X.K (bOf fa))) : PT X (.UnaryOp .Not a pos) (tQT X.K (bOf (notF fa))) := by
  refine (pt_not ha).imp fun σ H Q ⟨H0, O, g, b, S, e, q⟩ => ?_
  simp only [bOf, notF, Option.bind_eq_bind, Option.bind_eq_some_iff, Option.pure_def, Option.some.injEq] at e
  obtain ⟨z, ⟨x, ex, k, ek, eb⟩, ez⟩ := e
  cases eb
  cases ez
  exact ⟨H0, O, g, k, S, by simp [bOf, ex, ek], fun H' s => q H' s⟩
def oneF (fa : Env' → Rs) : Env' → Rs := fun g => do let x ← fa g; let k ← asBl x.2; pure (.sh, .bl k)
def andF (fa fb : Env' → Rs) : Env' → Rs := fun g => do let x ← fa g; let k ← asBl x.2; if k then fb g else pure (.sh, .bl false)
def orF (fa fb : Env' → Rs) : Env' → Rs := fun g => do let x ← fa g; let k ← asBl x.2; if k then pure (.sh, .bl true) else fb g
theorem q_one {op : BoolOp} (ha : PE X a (tQ X.K fa)) : PE X (.BoolOp op [a] pos) (tQ X.K (oneF fa)) := by
  refine (pe_one ha).imp fun σ H Q ⟨H0, O, g, m, d, S, e, q⟩ => ?_
  simp only [oneF, Option.bind_eq_bind, Option.bind_eq_some_iff, Option.pure_def, Option.some.injEq] at e
  obtain ⟨x, ex, k, ek, eb⟩ := e
  cases eb
  exact tQ.use S ex fun v H' s r => q _ _ s (r.rb.toBl ek)
theorem bOf_one (g : Env') : bOf (oneF fa) g = bOf fa g := by
  simp only [bOf, oneF, Option.bind_eq_bind, Option.pure_def]
  cases fa g with
  | none => rfl
  | some x =>
    simp only [Option.bind_some]
    cases asBl x.2 with
    | none => rfl
    | some k => rfl
theorem tQT.eq {f f' : Env' → Option Bool} {K : PySem.W.Frag} {σ : L2.St} {H : Hp} {Q : Bool → Hp → Prop} (e : ∀ g, f g = f' g) (h : tQT K f σ H Q) : tQT K f' σ H Q := by
  obtain ⟨H0, O, g, b, S, h1, q⟩ := h
  exact ⟨H0, O, g, b, S, (e g).symm.trans h1, q⟩
theorem q_oneW_and (ha : PT X a (tQT X.K (bOf fa))) : PW X (.BoolOp .And [a] pos) (tQT X.K (bOf (oneF fa))) := (pw_and1 ha).imp fun _ _ _ h => h.eq bOf_one
theorem q_oneW_or (ha : PT X a (tQT X.K (bOf fa))) : PW X (.BoolOp .Or [a] pos) (tQT X.K (bOf (oneF fa))) := (pw_or1 ha).imp fun _ _ _ h => h.eq bOf_one
variable {rest : List Expr}
theorem q_and (ha : PE X a (tQ X.K fa)) (hb : PE X (.BoolOp .And (b :: rest) pos) (tQ X.K fb)) : PE X (.BoolOp .And (a :: b :: rest) pos) (tQ X.K (andF fa fb)) := by
  refine (pe_and ha hb).imp fun σ H Q ⟨H0, O, g, m, d, S, e, q⟩ => ?_
  simp only [andF, Option.bind_eq_bind, Option.bind_eq_some_iff, Option.pure_def] at e
  obtain ⟨x, ex, k, ek, eb⟩ := e
  refine tQ.use S ex fun v H' s r => ⟨k, r.rb.toBl ek, ?_⟩
  cases k with
  | true =>
    rw [if_pos rfl] at eb ⊢
    exact ⟨H0, O, g, m, d, S.same s, eb, Same.late s q⟩
  | false =>
    rw [if_neg (by decide)] at eb ⊢
    cases eb
    exact q _ _ s rfl
theorem q_or (ha : PE X a (tQ X.K fa)) (hb : PE X (.BoolOp .Or (b :: rest) pos) (tQ X.K fb)) : PE X (.BoolOp .Or (a :: b :: rest) pos) (tQ X.K (orF fa fb)) := by
  refine (pe_or ha hb).imp fun σ H Q ⟨H0, O, g, m, d, S, e, q⟩ => ?_
  simp only [orF, Option.bind_eq_bind, Option.bind_eq_some_iff, Option.pure_def] at e
  obtain ⟨x, ex, k, ek, eb⟩ := e
  refine tQ.use S ex fun v H' s r => ⟨k, r.rb.toBl ek, ?_⟩
  cases k with
  | false =>
    rw [if_neg (by decide)] at eb ⊢
    exact ⟨H0, O, g, m, d, S.same s, eb, Same.late s q⟩
  | true =>
    rw [if_pos rfl] at eb ⊢
    cases eb
    exact q _ _ s rfl
theorem q_andW (ha : PT X a (tQT X.K (bOf fa))) (hb : PW X (.BoolOp .And (b :: rest) pos) (tQT X.K (bOf fb))) : PW X (.BoolOp .And (a :: b :: rest) pos) (tQT X.K (bOf (andF fa fb))) := by
  refine (pw_and ha hb).imp fun σ H Q ⟨H0, O, g, c, S, e, q⟩ => ?_
  simp only [bOf, andF, Option.bind_eq_bind, Option.bind_eq_some_iff, Option.pure_def] at e
  obtain ⟨z, ⟨x, ex, k, ek, eb⟩, ez⟩ := e
  refine ⟨H0, O, g, k, S, by simp [bOf, ex, ek], fun H' s => ?_⟩
  cases k with
  | true =>
    rw [if_pos rfl] at eb ⊢
    exact ⟨H0, O, g, c, S.same s, by simp [bOf, eb, ez], fun H2 s2 => q H2 (s.trans s2)⟩
  | false =>
    rw [if_neg (by decide)] at eb ⊢
    cases eb
    cases ez
    exact q _ s
theorem q_orW (ha : PT X a (tQT X.K (bOf fa))) (hb : PW X (.BoolOp .Or (b :: rest) pos) (tQT X.K (bOf fb))) : PW X (.BoolOp .Or (a :: b :: rest) pos) (tQT X.K (bOf (orF fa fb))) := by
  refine (pw_or ha hb).imp fun σ H Q ⟨H0, O, g, c, S, e, q⟩ => ?_
  simp only [bOf, orF, Option.bind_eq_bind, Option.bind_eq_some_iff, Option.pure_def] at e
  obtain ⟨z, ⟨x, ex, k, ek, eb⟩, ez⟩ := e
  refine ⟨H0, O, g, k, S, by simp [bOf, ex, ek], fun H' s => ?_⟩
  cases k with
  | false =>
    rw [if_neg (by decide)] at eb ⊢
    exact ⟨H0, O, g, c, S.same s, by simp [bOf, eb, ez], fun H2 s2 => q H2 (s.trans s2)⟩
  | true =>
    rw [if_pos rfl] at eb ⊢
    cases eb
    cases ez
    exact q _ s
/-! ### argument lists, displays -/
theorem qa_nil : PA X [] (tQA X.K fun _ => some []) := pa_nil.imp fun σ H Q ⟨H0, O, g, ds, S, e, q⟩ => by
  cases e
  exact q [] H (Same.refl H) rfl
theorem qa_cons {e : Expr} {es : List Expr} {f : Env' → Rs} {fs : Env' → Option (List D)} (ha : PE X e (tQ X.K f)) (hr : PA X es (tQA X.K fs)) (hs : starEach (e :: es) X.env = (false, eval e X.env) :: starEach es X.env) :
    PA X (e :: es) (tQA X.K fun g => do let x ← f g; let d ← storable x; let ds ← fs g; pure (d :: ds)) := by
  refine (pa_cons ha hr hs).imp fun σ H Q ⟨H0, O, g, ds, S, e, q⟩ => ?_
  simp only [Option.bind_eq_bind, Option.bind_eq_some_iff, Option.pure_def, Option.some.injEq] at e
  obtain ⟨x, ex, d, ed, ds', eds, eb⟩ := e
  subst eb
  refine tQ.use S ex fun v H1 s1 r1 => ⟨H0, O, g, ds', S.same s1, eds, fun vs H2 s2 r2 => ?_⟩
  have r1 := Rm.store S.trk r1 ed
  exact q _ _ (s1.trans s2) ⟨v, vs, rfl, Rp.nxt (.same s2) d v r1, r2⟩
variable {es : List Expr} {fs : Env' → Option (List D)}
theorem q_tup {x1} (h : PA X es (tQA X.K fs)) : PE X (.Tuple es x1 pos) (tQ X.K fun g => do let ds ← fs g; if lenOk ds.length then pure (.sh, .tup ds) else none) := by
  refine (pe_tup h).imp fun σ H Q ⟨H0, O, g, m, d, S, e, q⟩ => ?_
  simp only [Option.bind_eq_bind, Option.bind_eq_some_iff, Option.pure_def] at e
  obtain ⟨ds, eds, eb⟩ := e
  split at eb
  · rename_i hl
    cases eb
    refine ⟨H0, O, g, ds, S, eds, fun vs H1 s1 r1 => ⟨by rw [r1.len]; exact Nat.le_of_lt (of_decide_eq_true hl), fun p hp => ?_⟩⟩
    exact q _ _ (s1.trans (same_new hp)) ⟨p, vs, rfl, not_new (trk_same S.trk s1) hp, upd_same, Rps.nxt (.same (same_new hp)) _ _ r1⟩
  · cases eb
theorem q_lst (h : PA X es (tQA X.K fs)) : PE X (.List es pos) (tQ X.K fun g => do let ds ← fs g; if lenOk ds.length then pure (.fr, .lst ds) else none) := by
  refine (pe_lst h).imp fun σ H Q ⟨H0, O, g, m, d, S, e, q⟩ => ?_
  simp only [Option.bind_eq_bind, Option.bind_eq_some_iff, Option.pure_def] at e
  obtain ⟨ds, eds, eb⟩ := e
  split at eb
  · rename_i hl
    cases eb
    refine ⟨H0, O, g, ds, S, eds, fun vs H1 s1 r1 => ⟨by rw [r1.len]; exact Nat.le_of_lt (of_decide_eq_true hl), fun p hp => ?_⟩⟩
    exact q _ _ (s1.trans (same_new hp)) ⟨p, vs, rfl, s1.free hp, upd_same, Rps.nxt (.same (same_new hp)) _ _ (r1.plus hp)⟩
  · cases eb
/-! ### items, slices -/
theorem q_idx (hs : PlainIx b) (ha : PE X a (tQ X.K fa)) (hb : PE X b (tQ X.K fb)) : PE X (.Subscript a b pos) (tQ X.K fun g => do let x ← fa g; let y ← fb g; let k ← asInt y.2; let ds ← asLT x.2; let d ← atI ds k; pure (.sh, d)) := by
  refine (pe_ix ix_seq ha hb hs).imp fun σ H Q ⟨H0, O, g, m, d, S, e, q⟩ => ?_
  simp only [Option.bind_eq_bind, Option.bind_eq_some_iff, Option.pure_def, Option.some.injEq] at e
  obtain ⟨x, ex, y, ey, k, ek, ds, eds, d', ed, eb⟩ := e
  cases eb
  refine tQ.two S ex ey fun v w H' s r1 r2 => ?_
  obtain ⟨p, vs, rfl, hl, rs⟩ := r1.toLT eds
  have rw' := r2.toInt ek
  subst rw'
  have hat : ∃ u, atI vs k = some u ∧ Rp X.K O H' d u := by
    unfold atI at ed ⊢
    rw [rs.len]
    cases hx : ixN ds.length k with
    | none => rw [hx] at ed; cases ed
    | some j =>
      rw [hx] at ed
      exact rs.get ed
  obtain ⟨u, hu, ru⟩ := hat
  rcases hl with hl | hl
  · exact .inl ⟨p, vs, k, u, rfl, rfl, hl, hu, q _ _ s ru⟩
  · exact .inr (.inl ⟨p, vs, k, u, rfl, rfl, hl, hu, q _ _ s ru⟩)
theorem Rps.cut {K : PySem.W.Frag} {O : AS} {H : Hp} {ds : List D} {vs : List V} (lo hi : Option Int) (h : Rps K O H ds vs) : Rps K O H (cutD ds lo hi) (cutV vs lo hi) := by
  unfold cutD cutV
  rw [h.len]
  exact (h.drop _).take _
/-- a slice's part -/
def tQO (K : PySem.W.Frag) (f : Env' → Option (Option Int)) : TO := fun σ H Q => ∃ H0 O g i, SR K H0 O H g σ ∧ f g = some i ∧ ∀ H', Same H H' → Q i H'
theorem _root_.L2.PO.imp {e : Option Expr} {t t' : TO} (h : PO X e t) (k : ∀ σ H Q, t' σ H Q → t σ H Q) : PO X e t' := ⟨fun pins s σ H Q I q => h.run pins s σ H Q I (k _ _ _ q)⟩
theorem qo_none : PO X none (tQO X.K fun _ => some none) := by
  refine po_none.imp fun σ H Q ⟨H0, O, g, i, S, e, q⟩ => ?_
  cases e
  exact q H (Same.refl H)
theorem qo_some (ha : PE X a (tQ X.K fa)) : PO X (some a) (tQO X.K fun g => do let y ← fa g; let i ← asInt y.2; pure (some i)) := by
  refine (po_some ha).imp fun σ H Q ⟨H0, O, g, i, S, e, q⟩ => ?_
  simp only [Option.bind_eq_bind, Option.bind_eq_some_iff, Option.pure_def, Option.some.injEq] at e
  obtain ⟨x, ex, k, ek, eb⟩ := e
  subst eb
  exact tQ.use S ex fun v H' s r => ⟨k, r.rb.toInt ek, q _ s⟩
def rSlE (K : PySem.W.Frag) : V → Option Int → Option Int → Hp → VK → Prop := fun x lo hi H Q => rSlL K x lo hi H Q ∨ rSlT K x lo hi H Q
theorem q_slc {lo hi : Option Expr} {fl fh : Env' → Option (Option Int)} {p2 : Pos} (ha : PE X a (tQ X.K fa)) (hl : PO X lo (tQO X.K fl)) (hh : PO X hi (tQO X.K fh)) :
    PE X (.Subscript a (.Slice lo hi none p2) pos) (tQ X.K fun g => do let x ← fa g; let l ← fl g; let h ← fh g; slcD x.2 l h) := by
  refine (pe_slice (sl_list.or sl_tup) ha hl hh).imp fun σ H Q ⟨H0, O, g, m, d, S, e, q⟩ => ?_
  simp only [Option.bind_eq_bind, Option.bind_eq_some_iff, Option.pure_def] at e
  obtain ⟨x, ex, l, el, h, eh, eb⟩ := e
  refine tQ.use S ex fun v H1 s1 r1 => ⟨H0, O, g, l, S.same s1, el, fun H2 s2 => ⟨H0, O, g, h, (S.same s1).same s2, eh, fun H3 s3 => ?_⟩⟩
  have r3 := (r1.rb.same s2).same s3
  have s : Same H H3 := (s1.trans s2).trans s3
  have T := trk_same S.trk s
  obtain ⟨m1, x⟩ := x
  cases x with
  | lst ds =>
    cases eb
    obtain ⟨a', vs, rfl, h1, rs⟩ := r3
    refine .inl ⟨a', vs, rfl, SqL.of h1, fun p hp => q _ _ (s.trans (same_new hp)) ⟨p, _, rfl, s.free hp, upd_same, ?_⟩⟩
    exact Rps.nxt (.same (same_new hp)) _ _ ((rs.cut l h).plus hp)
  | scr ns =>
    cases eb
    obtain ⟨a', rfl, h1⟩ := r3
    have hq : SqL X.K H3 a' (ns.map V.int) := h1.elim (fun ⟨_, o, h⟩ => .inl (.inr ⟨o, h⟩)) kl_of
    refine .inl ⟨a', _, rfl, hq, fun p hp => q _ _ (s.trans (same_new hp)) ⟨p, _, rfl, s.free hp, upd_same, ?_⟩⟩
    exact Rps.nxt (.same (same_new hp)) _ _ (((Rps.ofInts ns).cut l h).plus hp)
  | tup ds =>
    simp only [slcD] at eb
    split at eb
    · rename_i hlt
      cases eb
      obtain ⟨a', vs, rfl, hO, h1, rs⟩ := r3
      have rc := rs.cut l h
      refine .inr ⟨a', vs, rfl, SqT.of h1, ?_⟩
      have hl2 : (cutV vs l h).length < vs.length := by rw [rc.len, rs.len]; exact hlt
      refine ⟨fun ⟨z1, z2⟩ => ?_, fun p hp => q _ _ (s.trans (same_new hp)) ⟨p, _, rfl, not_new T hp, upd_same, Rps.nxt (.same (same_new hp)) _ _ rc⟩⟩
      unfold cutV at hl2
      rw [z1, z2, List.length_take, List.length_drop] at hl2
      omega
    · cases eb
  | _ => cases eb
end
end Ev
/-! Ev: calls, targets, iterators, comprehensions. -/
namespace Ev
open PySem PySem.Spec PyProof.Rows L2
section
variable {X : Cx} {a b e : Expr} {es : List Expr} {fa fb : Env' → Rs} {pos p : Pos} {x : Str}
/-! ### built-in calls, by values -/
def NoStar (e : Expr) : Prop := ∀ (es : List Expr) (env : Env), starEach (e :: es) env = (false, eval e env) :: starEach es env
/-- one argument -/
theorem q_use1 {r : List V → Hp → VK → Prop} {F : D → Rs} {e : Expr} (hc : PE X e (tCB r (tCons (tQ X.K fa) tNil)))
    (k : ∀ O H d m z v Q, (∀ a, O a → Held H a) → Rb X.K O H d v → F d = some (m, z) → (∀ w H2, Same H H2 → Rm X.K O H H2 m z w → Q w H2) → r [v] H Q) :
    PE X e (tQ X.K fun g => do let x ← fa g; F x.2) := by
  refine hc.imp fun σ H Q ⟨H0, O, g, m, d, S, e, q⟩ => ?_
  simp only [Option.bind_eq_bind, Option.bind_eq_some_iff] at e
  obtain ⟨x, ex, eb⟩ := e
  exact tQ.use S ex fun v H' s r => k O H' x.2 m d v Q (trk_same S.trk s) r.rb eb (Same.late s q)
theorem q_use2 {r : List V → Hp → VK → Prop} {F : D → D → Rs} {e : Expr} (hc : PE X e (tCB r (tCons (tQ X.K fa) (tCons (tQ X.K fb) tNil))))
    (k : ∀ O H d1 d2 m z v w Q, (∀ a, O a → Held H a) → Rb X.K O H d1 v → Rb X.K O H d2 w → F d1 d2 = some (m, z) → (∀ w H2, Same H H2 → Rm X.K O H H2 m z w → Q w H2) → r [v, w] H Q) :
    PE X e (tQ X.K fun g => do let x ← fa g; let y ← fb g; F x.2 y.2) := by
  refine hc.imp fun σ H Q ⟨H0, O, g, m, d, S, e, q⟩ => ?_
  simp only [Option.bind_eq_bind, Option.bind_eq_some_iff] at e
  obtain ⟨x, ex, y, ey, eb⟩ := e
  exact tQ.two S ex ey fun v w H' s r1 r2 => k O H' x.2 y.2 m d v w Q (trk_same S.trk s) r1 r2 eb (Same.late s q)
theorem asInts_some : ∀ {ds : List D} {ns : List Int}, asInts ds = some ns → ds = ns.map D.int
  | [], ns, h => by cases h; rfl
  | d :: ds, ns, h => by
    simp only [asInts, Option.bind_eq_bind, Option.bind_eq_some_iff, Option.pure_def, Option.some.injEq] at h
    obtain ⟨i, hi, r, hr, rfl⟩ := h
    rw [asInts_some hr]
    cases d <;> simp [asInt] at hi
    subst hi; rfl
theorem Rb.intsL {K : PySem.W.Frag} {O : AS} {H : Hp} {d : D} {ds : List D} {ns : List Int} {v : V} (r : Rb K O H d v) (e1 : asL d = some ds) (e2 : asInts ds = some ns) : ∃ a, v = .ref a ∧ SqL K H a (ns.map V.int) := by
  obtain ⟨a, vs, rfl, hl, rs⟩ := r.toL e1
  rw [asInts_some e2] at rs
  rw [rs.ints] at hl
  exact ⟨a, rfl, hl⟩
theorem foldl_min_mem : ∀ (xs : List Int) (x : Int), xs.foldl min x ∈ x :: xs
  | [], x => by simp
  | y :: ys, x => by
    have h := foldl_min_mem ys (min x y)
    rw [List.foldl_cons]
    rcases List.mem_cons.mp h with h | h
    · rw [h]
      rcases Int.le_total x y with z | z
      · rw [Int.min_eq_left z]; simp
      · rw [Int.min_eq_right z]; simp
    · exact List.mem_cons_of_mem _ (List.mem_cons_of_mem _ h)
theorem foldl_max_mem : ∀ (xs : List Int) (x : Int), xs.foldl max x ∈ x :: xs
  | [], x => by simp
  | y :: ys, x => by
    have h := foldl_max_mem ys (max x y)
    rw [List.foldl_cons]
    rcases List.mem_cons.mp h with h | h
    · rw [h]
      rcases Int.le_total x y with z | z
      · rw [Int.max_eq_right z]; simp
      · rw [Int.max_eq_left z]; simp
    · exact List.mem_cons_of_mem _ (List.mem_cons_of_mem _ h)
theorem foldl_min_le : ∀ (xs : List Int) (x y : Int), y ∈ x :: xs → xs.foldl min x ≤ y
  | [], x, y, h => by simp at h; rw [h]; exact Int.le_refl _
  | z :: ys, x, y, h => by
    rw [List.foldl_cons]
    have h0 := foldl_min_le ys (min x z) (min x z) List.mem_cons_self
    rcases List.mem_cons.mp h with h | h
    · rw [h]; exact Int.le_trans h0 (Int.min_le_left _ _)
    · rcases List.mem_cons.mp h with h | h
      · rw [h]; exact Int.le_trans h0 (Int.min_le_right _ _)
      · exact foldl_min_le ys (min x z) y (List.mem_cons_of_mem _ h)
theorem foldl_max_ge : ∀ (xs : List Int) (x y : Int), y ∈ x :: xs → y ≤ xs.foldl max x
  | [], x, y, h => by simp at h; rw [h]; exact Int.le_refl _
  | z :: ys, x, y, h => by
    rw [List.foldl_cons]
    have h0 := foldl_max_ge ys (max x z) (max x z) List.mem_cons_self
    rcases List.mem_cons.mp h with h | h
    · rw [h]; exact Int.le_trans (Int.le_max_left _ _) h0
    · rcases List.mem_cons.mp h with h | h
      · rw [h]; exact Int.le_trans (Int.le_max_right _ _) h0
      · exact foldl_max_ge ys (max x z) y (List.mem_cons_of_mem _ h)
theorem q_abs (hg : Gl X "abs") (hm : X.mg "abs" = none) (ns : NoStar a) (ha : PE X a (tQ X.K fa)) : PE X (.Call (.Name "abs" p) [a] [] pos) (tQ X.K fun g => do let x ← fa g; b1D .abs x.2) := by
  refine q_use1 (pe_callB call_abs hg hm boot_abs (pa_cons ha pa_nil (ns _ _)) (by decide) (by decide) (ns _ _)) fun O H d m z v Q T r e q => ?_
  cases d <;> simp only [b1D] at e <;> cases e
  cases r
  exact ⟨_, rfl, q _ H (Same.refl H) rfl⟩
theorem q_len (hg : Gl X "len") (hm : X.mg "len" = none) (ns : NoStar a) (ha : PE X a (tQ X.K fa)) : PE X (.Call (.Name "len" p) [a] [] pos) (tQ X.K fun g => do let x ← fa g; b1D .len x.2) := by
  refine q_use1 (pe_callB call_len_seq hg hm PySem.boot_len (pa_cons ha pa_nil (ns _ _)) (by decide) (by decide) (ns _ _)) fun O H d m z v Q T r e q => ?_
  simp only [b1D, Option.map_eq_some_iff] at e
  obtain ⟨ds, e1, e2⟩ := e
  cases e2
  obtain ⟨a, vs, rfl, hl, rs⟩ := r.toLT e1
  exact ⟨a, vs, rfl, hl, by rw [rs.len]; exact q _ H (Same.refl H) rfl⟩
theorem q_int (hg : Gl X "int") (hm : X.mg "int" = none) (ns : NoStar a) (ha : PE X a (tQ X.K fa)) : PE X (.Call (.Name "int" p) [a] [] pos) (tQ X.K fun g => do let x ← fa g; b1D .int x.2) := by
  refine q_use1 (pe_callTy call_int1 hg hm boot_int (pa_cons ha pa_nil (ns _ _)) (by decide) (by decide) (ns _ _)) fun O H d m z v Q T r e q => ?_
  cases d <;> simp only [b1D] at e <;> cases e
  · cases r
    exact .inr ⟨_, rfl, q _ H (Same.refl H) rfl⟩
  · cases r
    exact .inl ⟨_, rfl, q _ H (Same.refl H) rfl⟩
theorem q_sum (hc : X.calm = true) (hg : Gl X "sum") (hm : X.mg "sum" = none) (ns : NoStar a) (ha : PE X a (tQ X.K fa)) : PE X (.Call (.Name "sum" p) [a] [] pos) (tQ X.K fun g => do let x ← fa g; b1D .sum x.2) := by
  refine q_use1 (pe_callB (cr_sum hc) hg hm (by decide +kernel) (pa_cons ha pa_nil (ns _ _)) (by decide) (by decide) (ns _ _)) fun O H d m z v Q T r e q => ?_
  simp only [b1D, Option.bind_eq_bind, Option.bind_eq_some_iff, Option.pure_def, Option.some.injEq] at e
  obtain ⟨ds, e1, k, e2, e3⟩ := e
  cases e3
  obtain ⟨a, rfl, hl⟩ := r.intsL e1 e2
  exact ⟨a, k, rfl, hl, q _ H (Same.refl H) rfl⟩
theorem q_min (hc : X.calm = true) (hg : Gl X "min") (hm : X.mg "min" = none) (ns : NoStar a) (ha : PE X a (tQ X.K fa)) : PE X (.Call (.Name "min" p) [a] [] pos) (tQ X.K fun g => do let x ← fa g; b1D .min x.2) := by
  refine q_use1 (pe_callB (cr_min hc) hg hm (by decide +kernel) (pa_cons ha pa_nil (ns _ _)) (by decide) (by decide) (ns _ _)) fun O H d m z v Q T r e q => ?_
  simp only [b1D, Option.bind_eq_bind, Option.bind_eq_some_iff, Option.pure_def, Option.some.injEq] at e
  obtain ⟨ds, e1, k, e2, n, e4, e3⟩ := e
  cases e3
  obtain ⟨a, rfl, hl⟩ := r.intsL e1 e2
  refine ⟨a, k, rfl, hl, ?_, fun m hm h => ?_⟩
  · cases k with
    | nil => cases e4
    | cons => simp
  · cases k with
    | nil => cases e4
    | cons y ys =>
      cases e4
      have h1 := h _ (foldl_min_mem ys y)
      have h2 := foldl_min_le ys y m hm
      rw [show m = ys.foldl min y by omega]
      exact q _ H (Same.refl H) rfl
theorem q_max (hc : X.calm = true) (hg : Gl X "max") (hm : X.mg "max" = none) (ns : NoStar a) (ha : PE X a (tQ X.K fa)) : PE X (.Call (.Name "max" p) [a] [] pos) (tQ X.K fun g => do let x ← fa g; b1D .max x.2) := by
  refine q_use1 (pe_callB (cr_max hc) hg hm (by decide +kernel) (pa_cons ha pa_nil (ns _ _)) (by decide) (by decide) (ns _ _)) fun O H d m z v Q T r e q => ?_
  simp only [b1D, Option.bind_eq_bind, Option.bind_eq_some_iff, Option.pure_def, Option.some.injEq] at e
  obtain ⟨ds, e1, k, e2, n, e4, e3⟩ := e
  cases e3
  obtain ⟨a, rfl, hl⟩ := r.intsL e1 e2
  refine ⟨a, k, rfl, hl, ?_, fun m hm h => ?_⟩
  · cases k with
    | nil => cases e4
    | cons => simp
  · cases k with
    | nil => cases e4
    | cons y ys =>
      cases e4
      have h1 := h _ (foldl_max_mem ys y)
      have h2 := foldl_max_ge ys y m hm
      rw [show m = ys.foldl max y by omega]
      exact q _ H (Same.refl H) rfl
theorem q_list (hg : Gl X "list") (hm : X.mg "list" = none) (ns : NoStar a) (ha : PE X a (tQ X.K fa)) : PE X (.Call (.Name "list" p) [a] [] pos) (tQ X.K fun g => do let x ← fa g; b1D .list x.2) := by
  refine q_use1 (pe_callTy call_list_of hg hm boot_list (pa_cons ha pa_nil (ns _ _)) (by decide) (by decide) (ns _ _)) fun O H d m z v Q T r e q => ?_
  simp only [b1D, Option.map_eq_some_iff] at e
  obtain ⟨ds, e1, e2⟩ := e
  cases e2
  obtain ⟨a, vs, rfl, hl, rs⟩ := r.toLT e1
  exact ⟨a, vs, rfl, hl, fun p hp => q _ _ (same_new hp) ⟨p, vs, rfl, hp, upd_same, Rps.nxt (.same (same_new hp)) _ _ (rs.plus hp)⟩⟩
theorem q_max2 (hc : X.calm = true) (hg : Gl X "max") (hm : X.mg "max" = none) (ns : NoStar a) (ns2 : NoStar b) (ha : PE X a (tQ X.K fa)) (hb : PE X b (tQ X.K fb)) :
    PE X (.Call (.Name "max" p) [a, b] [] pos) (tQ X.K fun g => do let x ← fa g; let y ← fb g; b2D .max x.2 y.2) := by
  refine q_use2 (pe_callB (call_max2 hc) hg hm (by decide +kernel) (pa_cons ha (pa_cons hb pa_nil (ns2 _ _)) (ns _ _)) (by decide) (by decide) (ns _ _) (by rw [ns2]; rfl)) fun O H d1 d2 m z v w Q T r1 r2 e q => ?_
  cases d1 <;> cases d2 <;> simp only [b2D] at e <;> cases e
  cases r1; cases r2
  exact ⟨_, _, rfl, q _ H (Same.refl H) rfl⟩
theorem q_min2 (hc : X.calm = true) (hg : Gl X "min") (hm : X.mg "min" = none) (ns : NoStar a) (ns2 : NoStar b) (ha : PE X a (tQ X.K fa)) (hb : PE X b (tQ X.K fb)) :
    PE X (.Call (.Name "min" p) [a, b] [] pos) (tQ X.K fun g => do let x ← fa g; let y ← fb g; b2D .min x.2 y.2) := by
  refine q_use2 (pe_callB (call_min2 hc) hg hm (by decide +kernel) (pa_cons ha (pa_cons hb pa_nil (ns2 _ _)) (ns _ _)) (by decide) (by decide) (ns _ _) (by rw [ns2]; rfl)) fun O H d1 d2 m z v w Q T r1 r2 e q => ?_
  cases d1 <;> cases d2 <;> simp only [b2D] at e <;> cases e
  cases r1; cases r2
  exact ⟨_, _, rfl, q _ H (Same.refl H) rfl⟩
/-! ### isinstance -/
def tyS : Ty → String
  | .int => "int" | .bool => "bool" | .tuple => "tuple" | .list => "list"
def tnD : D → String
  | .non => "NoneType" | .bl _ => "bool" | .int _ => "int" | .str _ => "str" | .tup _ => "tuple" | .lst _ => "list" | .scr _ => "list" | .exc _ => ""
theorem Rb.tyX {K : PySem.W.Frag} {O : AS} {H : Hp} {d : D} {v : V} (x : isX d = false) (r : Rb K O H d v) : TyX K H v (.type (tnD d)) := by
  cases d with
  | non => cases r; exact .base .non
  | bl b => cases r; exact .base (.bl b)
  | int i => cases r; exact .base (.int i)
  | str i => cases r; exact .base (.str i)
  | tup ds => obtain ⟨a, vs, rfl, _, h, _⟩ := r; exact .base (.tup h)
  | lst ds => obtain ⟨a, vs, rfl, h, _⟩ := r; exact .base (.lst h)
  | scr ns =>
    obtain ⟨a, rfl, ⟨_, o, h⟩ | ⟨o, its, n, h, c, _⟩⟩ := r
    · exact .base (.frz h)
    · exact .kList h c
  | exc c => simp [isX] at x
theorem kit_isi (t : Ty) (d : D) (x : isX d = false) : kitB (tnD d) (tyS t) = some (isiD t d) := by
  cases t <;> cases d <;> first | (simp only [tnD, tyS, isiD]; decide +kernel) | simp [isX] at x
theorem boot_ty (t : Ty) : bootBuiltins (Str.ofString (tyS t)) = some (.type (tyS t)) := by cases t <;> (simp only [tyS]; decide +kernel)
theorem q_isi {t : Ty} {q : Pos} (hg : Gl X "isinstance") (hm : X.mg "isinstance" = none) (hg2 : Gl X (Str.ofString (tyS t))) (hm2 : X.mg (Str.ofString (tyS t)) = none) (ns : NoStar a) (ha : PE X a (tQ X.K fa)) :
    PE X (.Call (.Name "isinstance" p) [a, .Name (Str.ofString (tyS t)) q] [] pos) (tQ X.K fun g => do let x ← fa g; if isX x.2 then none else pure (.sh, .bl (isiD t x.2))) := by
  have hT : PE X (.Name (Str.ofString (tyS t)) q) (tC (.ty (tyS t))) := pe_bltn hg2 hm2 (boot_ty t) rfl (by cases t <;> decide +kernel) (by cases t <;> decide +kernel)
  refine (pe_callB call_isi hg hm boot_isinstance (pa_cons ha (pa_cons hT pa_nil) (ns _ _)) (by decide) (by decide) (ns _ _)).imp fun σ H Q ⟨H0, O, g, m, d, S, e, q⟩ => ?_
  simp only [Option.bind_eq_bind, Option.bind_eq_some_iff, Option.pure_def] at e
  obtain ⟨x, ex, eb⟩ := e
  split at eb
  · cases eb
  · rename_i hx
    have hx : isX x.2 = false := by simpa using hx
    cases eb
    refine tQ.use S ex fun v H' s r => ?_
    exact ⟨v, _, _, _, _, rfl, .ty _, r.rb.tyX hx, kit_ty (kit_isi t x.2 hx), q _ _ s rfl⟩
/-! ### calls of the text's own defs -/
def spF (K : PySem.W.Frag) (ct : Ct) (f : Nat) : Sp := fun vs H Q _ => ∃ O ds m d, (∀ a, O a → Held H a) ∧ Rps K O H ds vs ∧ noEx (ct f ds) = some (m, d) ∧ ∀ v H', Same H H' → Rm K O H H' m d v → Q v H'
theorem q_call {k : Nat} {fa : Addr} {fd : FuncData} {ps : List Str} {ct : Ct} {f : Nat} {fs : Env' → Option (List D)} (F : FnOk X.prog X.w X.K X.mg X.base CX0 k fa fd ps (spF X.K ct f)) (hr : Room k X.A) (hg : Gl X x) (hm : X.mg x = some (.ref fa)) (hk : PySem.W.keepIn X.K (.ref fa) = true) (hb : Binds X.K fd ps [])
    (hdb : (x == ("__debug__" : Str)) = false) (ns : NoStar e) (hpl : (backTo pos (starEach es X.env)).any (·.1) = false) (ha : PA X (e :: es) (tQA X.K fs)) :
    PE X (.Call (.Name x p) (e :: es) [] pos) (tQ X.K fun g => do let ds ← fs g; noEx (ct f ds)) := by
  refine (pe_call (E := E0) F hr hg hm hk hb .nil pass0 ha hdb (ns _ _) hpl).imp fun σ H Q ⟨H0, O, g, m, d, S, e, q⟩ => ?_
  simp only [Option.bind_eq_bind, Option.bind_eq_some_iff] at e
  obtain ⟨ds, e1, e2⟩ := e
  refine ⟨H0, O, g, ds, S, e1, fun vs H' s r => ?_⟩
  show spF X.K ct f (vs ++ []) H' Q E0
  rw [List.append_nil]
  exact ⟨O, ds, m, d, trk_same S.trk s, r, e2, Same.late s q⟩
/-! ### arguments that are only read -/
def tQB (K : PySem.W.Frag) (f : Env' → Option (List D)) : TA := fun σ H Q => ∃ H0 O g ds, SR K H0 O H g σ ∧ f g = some ds ∧ ∀ vs H', Same H H' → Rps K (fun _ => False) H' ds vs → Q vs H'
theorem Rm.any {K : PySem.W.Frag} {O : AS} {H H' : Hp} : ∀ {m : M} {d : D} {v : V}, Rm K O H H' m d v → Rp K (fun _ => False) H' d v
  | .sh, d, v, h => h.less fun a z => z.elim
  | .fr, .lst ds, v, ⟨p, vs, e, _, h, r⟩ => ⟨p, vs, e, fun z => z, h, r.less fun a z => z.elim⟩
  | .bo, .lst ds, v, ⟨a, vs, e, h, r⟩ => ⟨a, vs, e, fun z => z, h, r.less fun a z => z.elim⟩
theorem qb_nil : PA X [] (tQB X.K fun _ => some []) := pa_nil.imp fun σ H Q ⟨H0, O, g, ds, S, e, q⟩ => by
  cases e
  exact q [] H (Same.refl H) rfl
theorem qb_cons {e : Expr} {es : List Expr} {f : Env' → Rs} {fs : Env' → Option (List D)} (ha : PE X e (tQ X.K f)) (hr : PA X es (tQB X.K fs)) (hs : starEach (e :: es) X.env = (false, eval e X.env) :: starEach es X.env) :
    PA X (e :: es) (tQB X.K fun g => do let x ← f g; let ds ← fs g; pure (x.2 :: ds)) := by
  refine (pa_cons ha hr hs).imp fun σ H Q ⟨H0, O, g, ds, S, e, q⟩ => ?_
  simp only [Option.bind_eq_bind, Option.bind_eq_some_iff, Option.pure_def, Option.some.injEq] at e
  obtain ⟨x, ex, ds', eds, eb⟩ := e
  subst eb
  refine tQ.use S ex fun v H1 s1 r1 => ⟨H0, O, g, ds', S.same s1, eds, fun vs H2 s2 r2 => ?_⟩
  exact q _ _ (s1.trans s2) ⟨v, vs, rfl, Rp.nxt (.same s2) _ v r1.any, r2⟩
mutual
theorem Rp.noL {K : PySem.W.Frag} {O O' : AS} {H : Hp} (trk : ∀ a, O a → Held H a) : ∀ {d : D} {v : V}, noLd d = true → Rp K O' H d v → Rp K O H d v
  | .non, _, _, h => h
  | .bl _, _, _, h => h
  | .int _, _, _, h => h
  | .str _, _, _, h => h
  | .tup ds, _, x, ⟨a, vs, e, _, hh, hs⟩ => ⟨a, vs, e, not_tup trk hh, hh, Rps.noL trk (by rw [noLd] at x; exact x) hs⟩
  | .lst _, _, x, _ => by simp [noLd] at x
  | .scr _, _, x, _ => by simp [noLd] at x
  | .exc _, _, x, _ => by simp [noLd] at x
theorem Rps.noL {K : PySem.W.Frag} {O O' : AS} {H : Hp} (trk : ∀ a, O a → Held H a) : ∀ {ds : List D} {vs : List V}, noLds ds = true → Rps K O' H ds vs → Rps K O H ds vs
  | [], _, _, h => h
  | d :: ds, vs, x, ⟨v, vr, e, h1, h2⟩ => by
    rw [noLds, Bool.and_eq_true] at x
    exact ⟨v, vr, e, Rp.noL trk x.1 h1, Rps.noL trk x.2 h2⟩
end
theorem q_callB {k : Nat} {fa : Addr} {fd : FuncData} {ps : List Str} {ct : Ct} {f : Nat} {fs : Env' → Option (List D)} (F : FnOk X.prog X.w X.K X.mg X.base CX0 k fa fd ps (spF X.K ct f)) (hr : Room k X.A) (hg : Gl X x) (hm : X.mg x = some (.ref fa)) (hk : PySem.W.keepIn X.K (.ref fa) = true) (hb : Binds X.K fd ps [])
    (hdb : (x == ("__debug__" : Str)) = false) (ns : NoStar e) (hpl : (backTo pos (starEach es X.env)).any (·.1) = false) (ha : PA X (e :: es) (tQB X.K fs)) :
    PE X (.Call (.Name x p) (e :: es) [] pos) (tQ X.K fun g => do let ds ← fs g; let r ← noEx (ct f ds); if scOf r then pure r else none) := by
  refine (pe_call (E := E0) F hr hg hm hk hb .nil pass0 ha hdb (ns _ _) hpl).imp fun σ H Q ⟨H0, O, g, m, d, S, e, q⟩ => ?_
  simp only [Option.bind_eq_bind, Option.bind_eq_some_iff] at e
  obtain ⟨ds, e1, r, e2, e3⟩ := e
  split at e3
  · rename_i hsc
    cases e3
    refine ⟨H0, O, g, ds, S, e1, fun vs H' s rs => ?_⟩
    show spF X.K ct f (vs ++ []) H' Q E0
    rw [List.append_nil]
    refine ⟨fun _ => False, ds, m, d, fun a z => z.elim, rs, e2, fun v H2 s2 r2 => q v H2 (s.trans s2) ?_⟩
    have trk := trk_same S.trk (s.trans s2)
    cases m with
    | sh => exact Rp.noL trk (by cases d <;> exact hsc) r2
    | fr =>
      cases d with
      | lst xs =>
        obtain ⟨p, vs, e, hp, hH, r⟩ := r2
        have hp0 : H p = none := s.free hp
        exact ⟨p, vs, e, hp0, hH, Rps.noL (fun a z => z.elim (trk a) fun e => by rw [e]; exact .lst hH) hsc r⟩
      | _ => cases hsc
    | bo => cases d <;> cases hsc
    | ex => cases d <;> cases hsc
  · cases e3
end

theorem pe_or {X : Cx} {e : Expr} {t t' : TE} (h : PE X e t) (h' : PE X e t') : PE X e (fun σ H Q => t σ H Q ∨ t' σ H Q) :=
  ⟨fun pins s σ H Q I q => q.elim (h.run pins s σ H Q I) (h'.run pins s σ H Q I)⟩
theorem q_callBF {X : Cx} {e : Expr} {ct : Ct} {f : Nat} {fs fb : Env' → Option (List D)} (h : PE X e (tQ X.K fun g => do let ds ← fs g; noEx (ct f ds))) (h' : PE X e (tQ X.K fun g => do let ds ← fb g; let r ← noEx (ct f ds); if scOf r then pure r else none)) :
    PE X e (tQ X.K fun g => callBF ct f (fs g) (fb g)) := by
  refine (pe_or h h').imp fun σ H Q ⟨H0, O, g, m, d, S, e, q⟩ => ?_
  replace e : callBF ct f (fs g) (fb g) = some (m, d) := e
  cases hf : fs g with
  | some ds =>
    rw [hf] at e
    refine .inl ⟨H0, O, g, m, d, S, ?_, q⟩
    show (do let ds ← fs g; noEx (ct f ds)) = some (m, d)
    rw [hf]; exact e
  | none =>
    rw [hf] at e
    exact .inr ⟨H0, O, g, m, d, S, e, q⟩
/-! ### storing -/
section
variable {K : PySem.W.Frag} {H0 : Hp} {O : AS} {H : Hp} {g g' : Env'} {σ : L2.St}
theorem setSl_some {i : Nat} {s : Sl} (h : setSl i s g = some g') : i < g.length ∧ g' = g.set i s := by
  unfold setSl at h
  split at h
  · cases h; exact ⟨by assumption, rfl⟩
  · cases h
theorem SR.setSh (S : SR K H0 O H g σ) {i : Nat} {d : D} {v : V} (r : Rp K O H d v) (h : setSl i (.sh d) g = some g') : SR K H0 O H g' (σ.set i (some v)) := by
  obtain ⟨hi, rfl⟩ := setSl_some h
  have hσ : i < σ.length := by rw [← S.len]; exact hi
  refine ⟨S.trk, by simp [S.len], fun j s u e1 e2 => ?_, fun j k ds es a o1 o2 e1 e2 e3 e4 => ?_⟩
  · by_cases hj : i = j
    · subst hj
      rw [List.getElem?_set_self hi] at e1
      rw [List.getElem?_set_self hσ] at e2
      cases e1; cases e2
      exact ⟨v, rfl, r⟩
    · rw [List.getElem?_set_ne hj] at e1 e2
      exact S.slot j s u e1 e2
  · have hj : i ≠ j := fun z => by subst z; rw [List.getElem?_set_self hi] at e1; cases e1; cases o1
    have hk : i ≠ k := fun z => by subst z; rw [List.getElem?_set_self hi] at e2; cases e2; cases o2
    rw [List.getElem?_set_ne hj] at e1 e3
    rw [List.getElem?_set_ne hk] at e2 e4
    exact S.dis j k ds es a o1 o2 e1 e2 e3 e4
def gQ (K : PySem.W.Frag) (tg : Tg) : TG := fun v σ H Q => ∃ H0 O g g' d, SR K H0 O H g σ ∧ Rp K O H d v ∧ asg tg d g = some g' ∧
  ∀ σ' : L2.St, SR K H0 O H g' σ' → σ'.length = σ.length → (∀ j, j ∉ tgSlots tg → σ'[j]? = σ[j]?) → Q σ' H
end
section
variable {X : Cx}
theorem _root_.L2.PG.imp {e : Expr} {t t' : TG} (h : PG X e t) (k : ∀ v σ H Q, t' v σ H Q → t v σ H Q) : PG X e t' := ⟨fun pins s σ H v u Q I r q => h.run pins s σ H v u Q I r (k _ _ _ _ q)⟩
theorem g_one {i : Nat} {x : Str} {pos : Pos} (h : PG X (.Name x pos) (gName i)) : PG X (.Name x pos) (gQ X.K (.one i)) := by
  refine h.imp fun v σ H Q ⟨H0, O, g, g', d, S, r, e, q⟩ => ?_
  refine q _ (S.setSh r e) (by simp) fun j hj => ?_
  exact List.getElem?_set_ne (fun z => hj (by simp [tgSlots, z]))
def gNames : List Nat → TGs
  | [] => gNil
  | i :: is => gCons (gName i) (gNames is)
theorem gNames_run {K : PySem.W.Frag} {H0 : Hp} {O : AS} {H : Hp} {Q : L2.St → Hp → Prop} : ∀ {is : List Nat} {ds : List D} {vs : List V} {g g' : Env'} {σ : L2.St}, SR K H0 O H g σ → Rps K O H ds vs → asgAll is ds g = some g' →
    (∀ σ' : L2.St, SR K H0 O H g' σ' → σ'.length = σ.length → (∀ j, j ∉ is → σ'[j]? = σ[j]?) → Q σ' H) → gNames is vs σ H Q
  | [], [], vs, g, g', σ, S, r, e, q => by
    cases e
    exact ⟨r, q σ S rfl fun _ _ => rfl⟩
  | i :: is, d :: ds, vs, g, g', σ, S, ⟨v, vr, ev, r1, r2⟩, e, q => by
    simp only [asgAll, Option.bind_eq_bind, Option.bind_eq_some_iff] at e
    obtain ⟨g1, e1, e2⟩ := e
    refine ⟨v, vr, ev, gNames_run (S.setSh r1 e1) r2 e2 fun σ' S' l h => q σ' S' (by rw [l]; simp) fun j hj => ?_⟩
    rw [h j (fun z => hj (List.mem_cons_of_mem _ z))]
    exact List.getElem?_set_ne (fun z => hj (by simp [z]))
  | [], _ :: _, _, _, _, _, _, _, e, _ => by cases e
  | _ :: _, [], _, _, _, _, _, _, e, _ => by cases e
theorem asgAll_len : ∀ {is : List Nat} {ds : List D} {g g' : Env'}, asgAll is ds g = some g' → ds.length = is.length
  | [], [], _, _, _ => rfl
  | i :: is, d :: ds, g, g', e => by
    simp only [asgAll, Option.bind_eq_bind, Option.bind_eq_some_iff] at e
    obtain ⟨g1, e1, e2⟩ := e
    rw [List.length_cons, List.length_cons, asgAll_len e2]
  | [], _ :: _, _, _, e => by cases e
  | _ :: _, [], _, _, e => by cases e
theorem pg_or {e : Expr} {t t' : TG} (h : PG X e t) (h' : PG X e t') : PG X e (fun v σ H Q => t v σ H Q ∨ t' v σ H Q) :=
  ⟨fun pins s σ H v u Q I r q => q.elim (h.run pins s σ H v u Q I r) (h'.run pins s σ H v u Q I r)⟩
theorem g_many {is : List Nat} {es : List Expr} {k : Nat} {pos : Pos} (h : PG X (.Tuple es k pos) (gTup X.K is.length (gNames is))) (h' : PG X (.Tuple es k pos) (gLst X.K is.length (gNames is))) : PG X (.Tuple es k pos) (gQ X.K (.many is)) := by
  refine (pg_or h h').imp fun v σ H Q ⟨H0, O, g, g', d, S, r, e, q⟩ => ?_
  cases d <;> simp only [asg] at e <;> try cases e
  · obtain ⟨a, vs, rfl, _, hh, rs⟩ := r
    exact .inl ⟨a, vs, rfl, SqT.of hh, by rw [rs.len]; exact asgAll_len e, gNames_run S rs e q⟩
  · obtain ⟨a, vs, rfl, _, hh, rs⟩ := r
    exact .inr ⟨a, vs, rfl, SqL.of hh, by rw [rs.len]; exact asgAll_len e, gNames_run S rs e q⟩
end

/-! ### what is walked -/
def Cn (b : Bool) (O : AS) (H : Hp) (Oc : AS) (Hc : Hp) : Prop := Nxt O H Oc Hc ∧ (b = true → Same H Hc) ∧ ∀ a, Oc a → Held Hc a
structure Wk (K : PySem.W.Frag) (O : AS) (H : Hp) (J : It) (ds : List D) (b : Bool) : Prop where
  go : ∀ i Oc Hc, Cn b O H Oc Hc → i < ds.length → J.go i Hc
  yld : ∀ i Oc Hc x H2 d, Cn b O H Oc Hc → J.yld i Hc x H2 → ds[i]? = some d → Same Hc H2 ∧ Rp K Oc H2 d x
  stop : ∀ i Oc Hc, Cn b O H Oc Hc → ds.length ≤ i → J.stop i Hc
def tQI (K : PySem.W.Frag) (f : Env' → Option (M × List D)) : TI := fun σ H R => ∃ H0 O g m ds, SR K H0 O H g σ ∧ f g = some (m, ds) ∧ ∀ J H', Same H H' → Wk K O H' J ds (decide (m = .bo)) → R J H'
section
variable {K : PySem.W.Frag} {O : AS} {H H' : Hp} {ds es : List D} {a c : Addr} {vs ws : List V} {b : Bool}
theorem wk_list (h : ∀ Oc Hc, Cn b O H Oc Hc → SqL K Hc a vs ∧ Rps K Oc Hc ds vs) : Wk K O H (Itl K a) ds b where
  go := fun i Oc Hc n hi => by
    obtain ⟨h1, h2⟩ := h Oc Hc n
    obtain ⟨v, e, _⟩ := h2.get (List.getElem?_eq_getElem hi)
    exact ⟨vs, v, h1, e⟩
  yld := fun i Oc Hc x H2 d n ⟨e, y⟩ hd => by
    subst e
    obtain ⟨h1, h2⟩ := h Oc H2 n
    obtain ⟨v, e, r⟩ := h2.get hd
    have := y vs h1
    rw [e] at this; cases this
    exact ⟨Same.refl _, r⟩
  stop := fun i Oc Hc n hi => by
    obtain ⟨h1, h2⟩ := h Oc Hc n
    exact ⟨vs, h1, by rw [h2.len]; exact hi⟩
theorem wk_tup (h : ∀ Oc Hc, Cn b O H Oc Hc → SqT K Hc a vs ∧ Rps K Oc Hc ds vs) : Wk K O H (Itt K a) ds b where
  go := fun i Oc Hc n hi => by
    obtain ⟨h1, h2⟩ := h Oc Hc n
    obtain ⟨v, e, _⟩ := h2.get (List.getElem?_eq_getElem hi)
    exact ⟨vs, v, h1, e⟩
  yld := fun i Oc Hc x H2 d n ⟨e, y⟩ hd => by
    subst e
    obtain ⟨h1, h2⟩ := h Oc H2 n
    obtain ⟨v, e, r⟩ := h2.get hd
    have := y vs h1
    rw [e] at this; cases this
    exact ⟨Same.refl _, r⟩
  stop := fun i Oc Hc n hi => by
    obtain ⟨h1, h2⟩ := h Oc Hc n
    exact ⟨vs, h1, by rw [h2.len]; exact hi⟩
theorem wk_rng {lo : Int} {n : Nat} : Wk K O H (Itr lo n) (rngL lo n) b where
  go := fun i Oc Hc _ hi => by
    have : i < n := by simpa [rngL] using hi
    exact this
  yld := fun i Oc Hc x H2 d _ ⟨e, y⟩ hd => by
    subst e y
    refine ⟨Same.refl _, ?_⟩
    simp only [rngL, List.getElem?_map, Option.map_eq_some_iff] at hd
    obtain ⟨k, e1, e2⟩ := hd
    subst e2
    have hk : k = i := by
      obtain ⟨h1, h2⟩ := List.getElem?_eq_some_iff.mp e1
      rw [← h2]; simp
    rw [hk]; rfl
  stop := fun i Oc Hc _ hi => by
    have : n ≤ i := by simpa [rngL] using hi
    exact this
theorem zipL_len : ∀ (ds es : List D), (zipL ds es).length = min ds.length es.length
  | [], _ => by simp [zipL]
  | _ :: _, [] => by simp [zipL]
  | d :: ds, e :: es => by rw [zipL, List.length_cons, zipL_len ds es, List.length_cons, List.length_cons]; omega
theorem zipL_get : ∀ (ds es : List D) (i : Nat) (d : D), (zipL ds es)[i]? = some d → ∃ x y, ds[i]? = some x ∧ es[i]? = some y ∧ d = .tup [x, y]
  | [], _, _, _, h => by simp [zipL] at h
  | _ :: _, [], _, _, h => by simp [zipL] at h
  | x :: ds, y :: es, 0, d, h => by simp [zipL] at h; exact ⟨x, y, rfl, rfl, h.symm⟩
  | x :: ds, y :: es, i + 1, d, h => by
    obtain ⟨u, v, h1, h2, h3⟩ := zipL_get ds es i d (by simpa [zipL] using h)
    exact ⟨u, v, by simpa using h1, by simpa using h2, h3⟩
theorem wk_zip (h : ∀ Oc Hc, Cn b O H Oc Hc → (SqL K Hc a vs ∧ Rps K Oc Hc ds vs) ∧ SqL K Hc c ws ∧ Rps K Oc Hc es ws) : Wk K O H (Itz K a c) (zipL ds es) b where
  go := fun i Oc Hc n hi => by
    obtain ⟨⟨h1, h2⟩, h3, h4⟩ := h Oc Hc n
    rw [zipL_len] at hi
    obtain ⟨v, e, _⟩ := h2.get (List.getElem?_eq_getElem (show i < ds.length by omega))
    obtain ⟨w, e2, _⟩ := h4.get (List.getElem?_eq_getElem (show i < es.length by omega))
    exact ⟨vs, ws, v, w, h1, h3, e, e2⟩
  yld := fun i Oc Hc x H2 d n ⟨T, x1, x2, e1, nT, e2, f1, f2⟩ hd => by
    obtain ⟨⟨h1, h2⟩, h3, h4⟩ := h Oc Hc n
    obtain ⟨u, v, g1, g2, rfl⟩ := zipL_get ds es i d hd
    obtain ⟨v1, k1, r1⟩ := h2.get g1
    obtain ⟨v2, k2, r2⟩ := h4.get g2
    have z1 := f1 vs h1
    have z2 := f2 ws h3
    rw [k1] at z1; cases z1
    rw [k2] at z2; cases z2
    subst e2
    refine ⟨same_new nT, T, [x1, x2], e1, not_new n.2.2 nT, upd_same, x1, [x2], rfl, ?_, x2, [], rfl, ?_, rfl⟩
    · exact Rp.nxt (.same (same_new nT)) _ _ r1
    · exact Rp.nxt (.same (same_new nT)) _ _ r2
  stop := fun i Oc Hc n hi => by
    obtain ⟨⟨h1, h2⟩, h3, h4⟩ := h Oc Hc n
    rw [zipL_len] at hi
    exact ⟨vs, ws, h1, h3, by rw [h2.len, h4.len]; omega⟩
theorem enumL_len : ∀ (ds : List D) (i : Nat), (enumL i ds).length = ds.length
  | [], _ => rfl
  | d :: ds, i => by rw [enumL, List.length_cons, List.length_cons, enumL_len ds]
theorem enumL_get : ∀ (ds : List D) (j i : Nat) (d : D), (enumL j ds)[i]? = some d → ∃ x, ds[i]? = some x ∧ d = .tup [.int ((j + i : Nat) : Int), x]
  | [], _, _, _, h => by simp [enumL] at h
  | x :: ds, j, 0, d, h => by simp [enumL] at h; exact ⟨x, rfl, h.symm⟩
  | x :: ds, j, i + 1, d, h => by
    obtain ⟨u, h1, h3⟩ := enumL_get ds (j + 1) i d (by simpa [enumL] using h)
    exact ⟨u, by simpa using h1, by rw [h3, show j + 1 + i = j + (i + 1) by omega]⟩
theorem wk_rev (h : ∀ Oc Hc, Cn b O H Oc Hc → SqL K Hc a vs ∧ Rps K Oc Hc ds vs) (hl : vs.length = ds.length) : Wk K O H (Itv K a vs.length) ds.reverse b where
  go := fun i Oc Hc n hi => by
    obtain ⟨h1, h2⟩ := h Oc Hc n
    rw [List.length_reverse] at hi
    obtain ⟨v, e, _⟩ := h2.get (List.getElem?_eq_getElem (show ds.length - 1 - i < ds.length by omega))
    exact ⟨by omega, vs, v, h1, by rw [hl]; exact e⟩
  yld := fun i Oc Hc x H2 d n ⟨e, y⟩ hd => by
    subst e
    obtain ⟨h1, h2⟩ := h Oc H2 n
    obtain ⟨hi, hd'⟩ := List.getElem?_eq_some_iff.mp hd
    rw [List.length_reverse] at hi
    rw [List.getElem?_reverse hi] at hd
    obtain ⟨v, e, r⟩ := h2.get hd
    have := y vs h1
    rw [hl, e] at this; cases this
    exact ⟨Same.refl _, r⟩
  stop := fun i Oc Hc n hi => by
    rw [List.length_reverse] at hi
    show vs.length ≤ i
    omega
/-- a list just read stays what it is -/
theorem Rm.stays {H1 : Hp} {m : M} {d : D} {v : V} (trk : ∀ a, O a → Held H a) (r : Rm K O H H' m d v) (s : Same H' H1) (e : asL d = some ds) (hb : m = .bo → b = true) :
    ∃ a vs, v = .ref a ∧ SqL K H1 a vs ∧ vs.length = ds.length ∧ ∀ Oc Hc, Cn b O H1 Oc Hc → SqL K Hc a vs ∧ Rps K Oc Hc ds vs := by
  cases d <;> simp [asL] at e
  · subst e
    rename_i xs
    have key : ∀ (a : Addr) (vs : List V), H' a = some (.lst vs) → Rps K O H' xs vs → (¬ O a ∨ b = true) → ∀ Oc Hc, Cn b O H1 Oc Hc → SqL K Hc a vs ∧ Rps K Oc Hc xs vs := fun a vs h1 h2 h3 Oc Hc ⟨n1, n2, n3⟩ => by
      have n : Nxt O H' Oc Hc := (Nxt.same s).trans n1
      refine ⟨SqL.of ?_, Rps.nxt n _ _ h2⟩
      rcases h3 with h3 | h3
      · exact n.keep _ _ h3 h1
      · exact n2 h3 _ _ (s _ _ h1)
    cases m with
    | sh =>
      obtain ⟨a, vs, rfl, hO, h1, h2⟩ := r
      exact ⟨a, vs, rfl, SqL.of (s _ _ h1), h2.len, key a vs h1 h2 (.inl hO)⟩
    | fr =>
      obtain ⟨p, vs, rfl, hp, h1, h2⟩ := r
      have h2 := h2.less (O' := O) fun a z => .inl z
      exact ⟨p, vs, rfl, SqL.of (s _ _ h1), h2.len, key p vs h1 h2 (.inl (not_new trk hp))⟩
    | bo =>
      obtain ⟨a, vs, rfl, h1, h2⟩ := r
      exact ⟨a, vs, rfl, SqL.of (s _ _ h1), h2.len, key a vs h1 h2 (.inr (hb rfl))⟩
    | ex => exact r.elim
  · subst e
    rename_i ns
    cases m with
    | sh =>
      obtain ⟨a, rfl, h⟩ := r
      refine ⟨a, _, rfl, ?_, by simp, fun Oc Hc ⟨n1, _, _⟩ => ⟨?_, Rps.ofInts ns⟩⟩
      · exact h.elim (fun ⟨_, o, h⟩ => .inl (.inr ⟨o, s _ _ h⟩)) kl_of
      · exact h.elim (fun ⟨hO, o, h⟩ => .inl (.inr ⟨o, n1.keep _ _ hO (s _ _ h)⟩)) kl_of
    | fr => exact r.elim
    | bo => exact r.elim
    | ex => exact r.elim
theorem Rm.staysT {H1 : Hp} {m : M} {xs : List D} {v : V} (r : Rm K O H H' m (.tup xs) v) (s : Same H' H1) :
    ∃ a vs, v = .ref a ∧ SqT K H1 a vs ∧ ∀ Oc Hc, Cn b O H1 Oc Hc → SqT K Hc a vs ∧ Rps K Oc Hc xs vs := by
  cases m with
  | sh =>
    obtain ⟨a, vs, rfl, hO, h1, h2⟩ := r
    refine ⟨a, vs, rfl, SqT.of (s _ _ h1), fun Oc Hc ⟨n1, _, _⟩ => ⟨SqT.of (n1.keep _ _ hO (s _ _ h1)), Rps.nxt ((Nxt.same s).trans n1) _ _ h2⟩⟩
  | fr => exact r.elim
  | bo => exact r.elim
  | ex => exact r.elim
end
section
variable {X : Cx} {a b e : Expr} {fa fb : Env' → Rs} {pos p : Pos} {tg : Expr}
theorem _root_.L2.PI.imp {e : Expr} {t t' : TI} (h : PI X tg e t) (k : ∀ σ H R, t' σ H R → t σ H R) : PI X tg e t' := ⟨fun pins s σ H R I q => h.run pins s σ H R I (k _ _ _ q)⟩
/-- a list or a tuple, walked -/
def iBoth (K : PySem.W.Frag) (tl : TE) : TI := fun σ H R => tl σ H fun x H1 => ∃ a, x = .ref a ∧ (((∃ xs, SqL K H1 a xs) ∧ R (Itl K a) H1) ∨ ((∃ xs, SqT K H1 a xs) ∧ R (Itt K a) H1))
theorem pi_both {l : Expr} {tl : TE} (hl : PE X l tl) : PI X tg l (iBoth X.K tl) := ⟨fun pins s σ H R I h => thn (hl.run pins s σ H _ I h) fun v t ⟨x, H1, J, rx, a, e, w⟩ => by
  subst e
  cases rx
  rcases w with ⟨⟨xs, hx⟩, hr⟩ | ⟨⟨xs, hx⟩, hr⟩
  · obtain ⟨_, _, lst, _⟩ := J.list hx
    exact wpAny_pyIter_list lst.isList (pi_one (tk := t.toks) J _ (turn_list a _) ⟨_, Heap.get?_push_size _ rfl, rfl, rfl⟩ hr)
  · obtain ⟨its, _, tup, _⟩ := J.tuple hx
    exact wpAny_pyIter_tuple (items := its.toArray) tup (pi_one (tk := t.toks) J _ (turn_tuple a _) ⟨_, Heap.get?_push_size _ rfl, rfl, rfl⟩ hr)⟩
theorem itM_bo {m : M} (h : m = .bo) : decide (itM m = .bo) = true := by subst h; rfl
theorem i_ex (ha : PE X a (tQ X.K fa)) : PI X tg a (tQI X.K fun g => do let x ← fa g; let ds ← asLT x.2; pure (itM x.1, ds)) := by
  refine (pi_both ha).imp fun σ H R ⟨H0, O, g, m, ds, S, e, q⟩ => ?_
  simp only [Option.bind_eq_bind, Option.bind_eq_some_iff, Option.pure_def, Option.some.injEq] at e
  obtain ⟨⟨m1, d1⟩, ex, ds', e1, eb⟩ := e
  cases eb
  refine tQ.use S ex fun v H' s r => ?_
  have list : ∀ d, d1 = d → asL d = some ds → ∃ a, v = .ref a ∧ (((∃ xs, SqL X.K H' a xs) ∧ R (Itl X.K a) H') ∨ ((∃ xs, SqT X.K H' a xs) ∧ R (Itt X.K a) H')) := fun d ed el => by
    subst ed
    obtain ⟨a', vs, rfl, h1, _, h2⟩ := Rm.stays S.trk r (Same.refl H') el (b := decide (itM m1 = .bo)) itM_bo
    exact ⟨a', rfl, .inl ⟨⟨vs, h1⟩, q _ _ s (wk_list h2)⟩⟩
  cases d1 with
  | lst xs => exact list _ rfl e1
  | scr ns => exact list _ rfl e1
  | tup xs =>
    cases e1
    obtain ⟨a', vs, rfl, h1, h2⟩ := Rm.staysT r (Same.refl H') (b := decide (itM m1 = .bo))
    exact ⟨a', rfl, .inr ⟨⟨vs, h1⟩, q _ _ s (wk_tup h2)⟩⟩
  | _ => cases e1
theorem i_rng (hg : Gl X "range") (hm : X.mg "range" = none) (ns : NoStar a) (ha : PE X a (tQ X.K fa)) : PI X tg (.Call (.Name "range" p) [a] [] pos) (tQI X.K fun g => do let x ← fa g; let i ← asInt x.2; if rngOk i then pure (.sh, rngL 0 i.toNat) else none) := by
  refine (pi_range1 hg hm (pa_cons ha pa_nil (ns _ _)) (ns _ _)).imp fun σ H R ⟨H0, O, g, m, ds, S, e, q⟩ => ?_
  simp only [Option.bind_eq_bind, Option.bind_eq_some_iff, Option.pure_def] at e
  obtain ⟨x, ex, i, ei, eb⟩ := e
  split at eb
  · rename_i hk
    have hk := rngOk_some hk
    cases eb
    exact tQ.use S ex fun v H' s r => ⟨i, by rw [r.rb.toInt ei], hk.1, hk.2, q _ _ s wk_rng⟩
  · cases eb
theorem i_rng2 (hg : Gl X "range") (hm : X.mg "range" = none) (ns : NoStar a) (ns2 : NoStar b) (ha : PE X a (tQ X.K fa)) (hb : PE X b (tQ X.K fb)) :
    PI X tg (.Call (.Name "range" p) [a, b] [] pos) (tQI X.K fun g => do let x ← fa g; let y ← fb g; let i ← asInt x.2; let j ← asInt y.2; if rngOk i && rngOk j then pure (.sh, rngL i (j - i).toNat) else none) := by
  refine (pi_range2 hg hm (pa_cons ha (pa_cons hb pa_nil (ns2 _ _)) (ns _ _)) (by rw [ns, ns2]; rfl) (ns2 _ _)).imp fun σ H R ⟨H0, O, g, m, ds, S, e, q⟩ => ?_
  simp only [Option.bind_eq_bind, Option.bind_eq_some_iff, Option.pure_def] at e
  obtain ⟨x, ex, y, ey, i, ei, j, ej, eb⟩ := e
  split at eb
  · rename_i hk
    rw [Bool.and_eq_true] at hk
    have h1 := rngOk_some hk.1
    have h2 := rngOk_some hk.2
    cases eb
    exact tQ.two S ex ey fun v w H' s r1 r2 => ⟨i, j, by rw [r1.toInt ei, r2.toInt ej], ⟨h1.1, h1.2, h2.1, h2.2⟩, q _ _ s wk_rng⟩
  · cases eb
theorem i_rev (hg : Gl X "reversed") (hm : X.mg "reversed" = none) (ns : NoStar a) (ha : PE X a (tQ X.K fa)) :
    PI X tg (.Call (.Name "reversed" p) [a] [] pos) (tQI X.K fun g => do let x ← fa g; let ds ← asL x.2; pure (itM x.1, ds.reverse)) := by
  refine (pi_reversed hg hm (pa_cons ha pa_nil (ns _ _)) (ns _ _)).imp fun σ H R ⟨H0, O, g, m, ds, S, e, q⟩ => ?_
  simp only [Option.bind_eq_bind, Option.bind_eq_some_iff, Option.pure_def, Option.some.injEq] at e
  obtain ⟨⟨m1, d1⟩, ex, ds', e1, eb⟩ := e
  cases eb
  refine tQ.use S ex fun v H' s r => ?_
  obtain ⟨a', vs, rfl, h1, hl, h2⟩ := Rm.stays S.trk r (Same.refl H') e1 (b := decide (itM m1 = .bo)) itM_bo
  exact ⟨a', vs, rfl, h1, q _ _ s (wk_rev h2 hl)⟩
theorem i_zip {elts : List Expr} {kk : Nat} {tpos : Pos} (hg : Gl X "zip") (hm : X.mg "zip" = none) (ns : NoStar a) (ns2 : NoStar b) (ha : PE X a (tQ X.K fa)) (hb : PE X b (tQ X.K fb)) :
    PI X (.Tuple elts kk tpos) (.Call (.Name "zip" p) [a, b] [] pos) (tQI X.K fun g => do let x ← fa g; let y ← fb g; let ds ← asL x.2; let es ← asL y.2; pure (if x.1 = .bo ∨ y.1 = .bo then .bo else .sh, zipL ds es)) := by
  refine (pi_zip hg hm (pa_cons ha (pa_cons hb pa_nil (ns2 _ _)) (ns _ _)) (ns _ _) (by rw [ns2]; rfl)).imp fun σ H R ⟨H0, O, g, m, ds, S, e, q⟩ => ?_
  simp only [Option.bind_eq_bind, Option.bind_eq_some_iff, Option.pure_def, Option.some.injEq] at e
  obtain ⟨⟨m1, d1⟩, ex, ⟨m2, d2⟩, ey, ds1, e1, ds2, e2, eb⟩ := e
  cases eb
  refine tQ.use S ex fun v H1 s1 r1 => tQ.use (S.same s1) ey fun w H2 s2 r2 => ?_
  obtain ⟨a1, vs, rfl, h1, _, k1⟩ := Rm.stays S.trk r1 s2 e1 (b := decide ((if m1 = .bo ∨ m2 = .bo then M.bo else .sh) = .bo)) fun z => by rw [if_pos (.inl z)]; rfl
  obtain ⟨a2, ws, rfl, h2, _, k2⟩ := Rm.stays (S.same s1).trk r2 (Same.refl H2) e2 (b := decide ((if m1 = .bo ∨ m2 = .bo then M.bo else .sh) = .bo)) fun z => by rw [if_pos (.inr z)]; rfl
  exact ⟨a1, a2, vs, ws, rfl, h1, h2, q _ _ (s1.trans s2) (wk_zip fun Oc Hc n => ⟨k1 Oc Hc n, k2 Oc Hc n⟩)⟩
end
end Ev
/-! Ev: comprehensions and statements. -/
namespace Ev
open PySem PySem.Spec PyProof.Rows L2

/-! ### comprehensions -/
section
variable {K : PySem.W.Frag} {H0 : Hp} {O : AS} {H H' : Hp} {g : Env'} {σ : L2.St}
theorem wipeE_length (g : Env') : ∀ vs : List Nat, (wipeE g vs).length = g.length
  | [] => rfl
  | v :: vs => by unfold wipeE; rw [List.length_set, wipeE_length g vs]
theorem SR.setNo (S : SR K H0 O H g σ) (i : Nat) : SR K H0 O H (g.set i .no) (σ.set i none) := by
  refine ⟨S.trk, by simp [S.len], fun j s u e1 e2 => ?_, fun j k ds es a o1 o2 e1 e2 e3 e4 => ?_⟩
  · by_cases hj : i = j
    · subst hj
      by_cases hi : i < g.length
      · rw [List.getElem?_set_self hi] at e1
        cases e1; trivial
      · rw [List.getElem?_eq_none (by simpa using hi)] at e1; cases e1
    · rw [List.getElem?_set_ne hj] at e1 e2
      exact S.slot j s u e1 e2
  · have hj : i ≠ j := fun z => by
      subst z
      by_cases hi : i < g.length
      · rw [List.getElem?_set_self hi] at e1; cases e1; cases o1
      · rw [List.getElem?_eq_none (by simpa using hi)] at e1; cases e1
    have hk : i ≠ k := fun z => by
      subst z
      by_cases hi : i < g.length
      · rw [List.getElem?_set_self hi] at e2; cases e2; cases o2
      · rw [List.getElem?_eq_none (by simpa using hi)] at e2; cases e2
    rw [List.getElem?_set_ne hj] at e1 e3
    rw [List.getElem?_set_ne hk] at e2 e4
    exact S.dis j k ds es a o1 o2 e1 e2 e3 e4
theorem SR.wipe (S : SR K H0 O H g σ) : ∀ vs : List Nat, SR K H0 O H (wipeE g vs) (wipe σ vs)
  | [] => S
  | v :: vs => by
    unfold wipeE L2.wipe
    exact (SR.wipe S vs).setNo v
/-- a list D is being made, unknown to all data -/
theorem SR.grow (S : SR K H0 O H g σ) (s : Same H H') {D : Addr} (hD : H D = none) (hD' : Held H' D) : SR K H0 (fun a => O a ∨ a = D) H' g σ := by
  have n : Nxt O H (fun a => O a ∨ a = D) H' := ⟨fun b o _ h => s b o h, fun a z => z.imp id fun e => by rw [e]; exact hD⟩
  refine ⟨fun a z => ?_, S.len, fun i x v e1 e2 => ?_, S.dis⟩
  · rcases z with z | z
    · exact trk_same S.trk s a z
    · rw [z]; exact hD'
  · have h := S.slot i x v e1 e2
    cases x with
    | no => trivial
    | sh d =>
      obtain ⟨u, e, r⟩ := h
      exact ⟨u, e, Rp.nxt n d u r⟩
    | ow ds =>
      obtain ⟨a, vs, e, h1, h2, h3, h4⟩ := h
      exact ⟨a, vs, e, .inl h1, h2, s _ _ h3, Rps.nxt n ds vs h4⟩
    | od ks =>
      obtain ⟨a, e, h1, h2, h3⟩ := h
      exact ⟨a, e, .inl h1, h2, s _ _ h3⟩
    | fd ks =>
      obtain ⟨a, o, e, h1, h2⟩ := h
      exact ⟨a, o, e, fun z => z.elim h1 fun z => (by rw [z, hD] at h2; cases h2), s _ _ h2⟩
theorem wipe_get {σ : L2.St} {j : Nat} : ∀ {vs : List Nat}, j ∉ vs → (wipe σ vs)[j]? = σ[j]?
  | [], _ => rfl
  | v :: vs, h => by
    unfold wipe
    rw [List.getElem?_set_ne (fun z => h (by simp [z])), wipe_get fun z => h (by simp [z])]
theorem wipe_in {σ : L2.St} {j : Nat} : ∀ {vs : List Nat}, j ∈ vs → j < σ.length → (wipe σ vs)[j]? = some none
  | v :: vs, h, hl => by
    unfold wipe
    by_cases hj : v = j
    · subst hj
      rw [List.getElem?_set_self (by rw [wipe_length]; exact hl)]
    · rw [List.getElem?_set_ne hj]
      exact wipe_in ((List.mem_cons.mp h).resolve_left fun z => hj z.symm) hl
theorem wipe_eq {σ σ' : L2.St} {vs : List Nat} (hl : σ'.length = σ.length) (h : ∀ j, j ∉ vs → σ'[j]? = (wipe σ vs)[j]?) : wipe σ' vs = wipe σ vs := by
  apply List.ext_getElem?
  intro j
  by_cases hj : j ∈ vs
  · by_cases hlt : j < σ.length
    · rw [wipe_in hj hlt, wipe_in hj (by rw [hl]; exact hlt)]
    · rw [List.getElem?_eq_none (by rw [wipe_length, hl]; omega), List.getElem?_eq_none (by rw [wipe_length]; omega)]
  · rw [wipe_get hj, h j hj]
def compQ (tg : Tg) (fi : Env' → Option (M × List D)) (fc : Env' → Option Bool) (fe : Env' → Rs) : Env' → Rs := fun g => do
  let r ← fi g
  let ds ← compF (asg tg) fc fe (wipeE g (tgSlots tg)) r.2 []
  pure (.fr, .lst ds)
theorem comp_read {tg : Tg} {fi : Env' → Option (M × List D)} {fc : Env' → Option Bool} {fe : Env' → Rs} {Q : VK} (h : tQ K (compQ tg fi fc fe) σ H Q) : tLc (tQI K fi) (gQ K tg) (tQT K fc) (tQ K fe) (tgSlots tg) σ H Q := by
  obtain ⟨H0, O, g, m, d, S, e, q⟩ := h
  simp only [compQ, Option.bind_eq_bind, Option.bind_eq_some_iff, Option.pure_def, Option.some.injEq] at e
  obtain ⟨⟨mi, ds⟩, ei, out, ec, eb⟩ := e
  cases eb
  refine ⟨H0, O, g, mi, ds, S, ei, fun J H1 s1 wk D hD => ?_⟩
  have hD0 : H D = none := s1.free hD
  refine ⟨fun i m Hc => m = ds.length - i ∧ i ≤ ds.length ∧ Same H1 Hc ∧ ∃ acc vs, Hc D = some (.lst vs) ∧ Rps K (fun a => O a ∨ a = D) Hc acc vs ∧ compF (asg tg) fc fe (wipeE g (tgSlots tg)) (ds.drop i) acc = some out,
    ⟨ds.length, rfl, Nat.zero_le _, same_new hD, [], [], upd_same, rfl, ec⟩, ?_⟩
  rintro i m Hc ⟨rfl, hi, sc, acc, vs, hc, rs, eo⟩
  have sH : Same H Hc := s1.trans sc
  have cn : Cn (decide (mi = .bo)) O H1 (fun a => O a ∨ a = D) Hc := ⟨⟨fun b o _ z => sc b o z, fun a z => z.imp id fun e => by rw [e]; exact hD⟩, fun _ => sc, fun a z => by
    rcases z with z | z
    · exact trk_same S.trk sH a z
    · rw [z]; exact .lst hc⟩
  by_cases hlt : i < ds.length
  · refine .inr ⟨wk.go i _ _ cn hlt, fun H2 => Same H1 H2 ∧ ∃ acc vs, H2 D = some (.lst vs) ∧ Rps K (fun a => O a ∨ a = D) H2 acc vs ∧ compF (asg tg) fc fe (wipeE g (tgSlots tg)) (ds.drop (i + 1)) acc = some out, fun H2 ⟨z1, z2⟩ => ⟨ds.length - (i + 1), by omega, rfl, hlt, z1, z2⟩, fun x H2 y => ?_⟩
    have hd := List.getElem?_eq_getElem hlt
    obtain ⟨s2, rx⟩ := wk.yld i _ _ x H2 _ cn y hd
    rw [List.drop_eq_getElem_cons hlt] at eo
    simp only [compF, Option.bind_eq_bind, Option.bind_eq_some_iff] at eo
    obtain ⟨g1, eg, b, eb, er⟩ := eo
    have S2 : SR K H0 (fun a => O a ∨ a = D) H2 (wipeE g (tgSlots tg)) (wipe σ (tgSlots tg)) := (S.wipe _).grow (sH.trans s2) hD0 (.lst (s2 _ _ hc))
    refine ⟨H0, _, _, g1, _, S2, rx, eg, fun σ' S' l h => ⟨wipe_eq (by rw [l, wipe_length]) h, ?_⟩⟩
    refine ⟨H0, _, g1, b, S', eb, fun H3 s3 => ?_⟩
    cases b with
    | false =>
      rw [if_neg (by decide)] at er ⊢
      have s23 := s2.trans s3
      exact ⟨sc.trans s23, acc, vs, s23 _ _ hc, Rps.nxt (.same s23) _ _ rs, er⟩
    | true =>
      rw [if_pos rfl] at er ⊢
      simp only [Option.bind_eq_some_iff] at er
      obtain ⟨r, e1, z, e2, e3⟩ := er
      split at e3
      · rename_i hl
        have S3 := S'.same s3
        refine ⟨H0, _, g1, r.1, r.2, S3, e1, fun w H4 s4 rw' => ?_⟩
        have s24 := (s2.trans s3).trans s4
        have rz := Rm.store S3.trk rw' e2
        refine ⟨vs, s24 _ _ hc, by rw [rs.len]; exact of_decide_eq_true hl, ?_, acc ++ [z], vs ++ [w], upd_same, ?_, e3⟩
        · intro b o hb
          rw [upd_ne (ne_of_none hb hD)]
          exact s24 _ _ (sc _ _ hb)
        · have n : Nxt (fun a => O a ∨ a = D) H4 (fun a => O a ∨ a = D) (upd H4 D (.lst (vs ++ [w]))) := ⟨fun b o hb h => by rw [upd_ne fun z => hb (.inr z)]; exact h, fun a z => .inl z⟩
          exact Rps.nxt n _ _ ((Rps.nxt (.same s24) _ _ rs).app (.one rz))
      · cases e3
  · have hi' : i = ds.length := by omega
    subst hi'
    rw [List.drop_length, compF] at eo
    cases eo
    exact .inl ⟨wk.stop _ _ _ cn (Nat.le_refl _), q _ _ sH ⟨D, vs, rfl, hD0, hc, rs⟩⟩
end

/-! ### statements -/
structure SI (K : PySem.W.Frag) (H0 : Hp) (Oc O : AS) (H : Hp) (g : Env') (σ : L2.St) : Prop where
  sr : SR K H0 O H g σ
  same : Same H0 H
  out : ∀ a, Oc a → O a
  otrk : ∀ a, Oc a → Held H0 a
def tS (K : PySem.W.Frag) (W : WX) (f : Env' → Option Out) : TS := fun D σ H => ∃ H0 Oc O g out, SI K H0 Oc O H g σ ∧ f g = some out ∧ match out with
  | .nx g' => ∀ σ' H' O', SI K H0 Oc O' H' g' σ' → Nxt O H O' H' → D.nx σ' H'
  | .rt m d => ∀ v H', Same H0 H' → Rm K Oc H0 H' m d v → D.rt v H'
  | .ex c g' => ∀ σ' H' O' C, SI K H0 Oc O' H' g' σ' → Nxt O H O' H' → clsA K c = some C → W (.ref C) none σ' H'
def seqF (f f2 : Env' → Option Out) : Env' → Option Out := fun g => do
  let o ← f g
  match o with
  | .nx g' => f2 g'
  | .rt m d => some (.rt m d)
  | .ex c g' => some (.ex c g')
section
variable {X : Cx} {W : WX} {st : Stmt} {sts : List Stmt} {f f2 : Env' → Option Out}
theorem s_nil : PSs X [] (tS X.K W fun g => some (.nx g)) := pss_nil.imp fun D σ H ⟨H0, Oc, O, g, out, S, e, q⟩ => by
  cases e
  exact q σ H O S (Nxt.refl O H)
theorem s_cons (h1 : PS X st (tS X.K W f)) (h2 : PSs X sts (tS X.K W f2)) : PSs X (st :: sts) (tS X.K W (seqF f f2)) := by
  refine (pss_cons h1 h2).imp fun D σ H ⟨H0, Oc, O, g, out, S, e, q⟩ => ?_
  simp only [seqF, Option.bind_eq_bind, Option.bind_eq_some_iff] at e
  obtain ⟨o, e1, e2⟩ := e
  refine ⟨H0, Oc, O, g, o, S, e1, ?_⟩
  cases o with
  | nx g' =>
    intro σ' H' O' S' n
    refine ⟨H0, Oc, O', g', out, S', e2, ?_⟩
    cases out with
    | nx g2 => exact fun σ2 H2 O2 S2 n2 => q σ2 H2 O2 S2 (n.trans n2)
    | rt m d => exact q
    | ex c g2 => exact fun σ2 H2 O2 C S2 n2 hc => q σ2 H2 O2 C S2 (n.trans n2) hc
  | rt m d =>
    cases e2
    exact q
  | ex c g2 =>
    cases e2
    exact q
/-- a slot's list or dict is changed no more: what it is read as from now on -/
theorem SI.freeze {K : PySem.W.Frag} {H0 H H' : Hp} {Oc O : AS} {g : Env'} {σ : L2.St} {i : Nat} {s t : Sl} {a : Addr} (S : SI K H0 Oc O H g σ) (hi : g[i]? = some s) (hs : s.own = true) (ev : σ[i]? = some (some (.ref a))) (h2 : H0 a = none)
    (hH : ∀ b, b ≠ a → H' b = H b) (ht : t.own = false) (r : SlotR K H0 (fun b => O b ∧ b ≠ a) H' t (some (.ref a))) (hn : ∀ d v, Rp K O H d v → Rp K (fun b => O b ∧ b ≠ a) H' d v) (hns : ∀ d v, Rps K O H d v → Rps K (fun b => O b ∧ b ≠ a) H' d v) (hfd : ¬ ∃ o u, H a = some (.frz o u)) :
    SI K H0 Oc (fun b => O b ∧ b ≠ a) H' (g.set i t) σ := by
  have hil : i < g.length := (List.getElem?_eq_some_iff.mp hi).1
  have hO : ¬ Oc a := fun z => (S.otrk a z).1 h2
  refine ⟨⟨fun b z => ?_, by simp [S.sr.len], fun j s' u e5 e6 => ?_, fun j k ds' es b o1 o2 e5 e6 e7 e8 => ?_⟩, fun b o hb => ?_, fun b z => ⟨S.out b z, fun y => hO (y ▸ z)⟩, S.otrk⟩
  · obtain ⟨k1, k2⟩ := S.sr.trk b z.1
    exact ⟨by rw [hH b z.2]; exact k1, fun vs => by rw [hH b z.2]; exact k2 vs⟩
  · by_cases hj : i = j
    · subst hj
      rw [List.getElem?_set_self hil] at e5
      cases e5
      rw [ev] at e6; cases e6
      exact r
    · rw [List.getElem?_set_ne hj] at e5
      have hs' := S.sr.slot j s' u e5 e6
      have other : ∀ b, s'.own = true → u = some (.ref b) → b ≠ a := fun b ho e z => by
        subst e z
        exact hj (S.sr.dis i j s s' b hs ho hi e5 ev e6)
      cases s' with
      | no => trivial
      | sh d =>
        obtain ⟨w, e, r⟩ := hs'
        exact ⟨w, e, hn _ _ r⟩
      | ow es =>
        obtain ⟨b, ws, e, k1, k2, k3, k4⟩ := hs'
        have nb := other b rfl e
        exact ⟨b, ws, e, ⟨k1, nb⟩, k2, by rw [hH b nb]; exact k3, hns _ _ k4⟩
      | od ks =>
        obtain ⟨b, e, k1, k2, k3⟩ := hs'
        have nb := other b rfl e
        exact ⟨b, e, ⟨k1, nb⟩, k2, by rw [hH b nb]; exact k3⟩
      | fd ks =>
        obtain ⟨b, o, e, k1, k2⟩ := hs'
        refine ⟨b, o, e, fun z => k1 z.1, ?_⟩
        rw [hH b fun z => hfd ⟨o, _, by rw [← z]; exact k2⟩]
        exact k2
  · have hj : i ≠ j := fun z => by subst z; rw [List.getElem?_set_self hil] at e5; cases e5; rw [ht] at o1; cases o1
    have hk : i ≠ k := fun z => by subst z; rw [List.getElem?_set_self hil] at e6; cases e6; rw [ht] at o2; cases o2
    rw [List.getElem?_set_ne hj] at e5
    rw [List.getElem?_set_ne hk] at e6
    exact S.sr.dis j k ds' es b o1 o2 e5 e6 e7 e8
  · rw [hH b fun z => by rw [z, h2] at hb; cases hb]
    exact S.same b o hb
theorem pss_lock {t : TS} (h : PSs X sts t) : PSs X sts fun D σ H => ∃ d u, H d = some u ∧ Mut (some u) ∧ ∀ od, t D σ (upd H d (.frz od u)) :=
  ⟨fun pins s σ H D I ⟨d, u, hd, mu, hw⟩ => by
    obtain ⟨od, I1⟩ := I.lock hd mu
    exact h.run pins s σ _ D I1 (hw od)⟩
theorem pss_or {t t' : TS} (h : PSs X sts t) (h' : PSs X sts t') : PSs X sts fun D σ H => t D σ H ∨ t' D σ H :=
  ⟨fun pins s σ H D I q => q.elim (h.run pins s σ H D I) (h'.run pins s σ H D I)⟩
/-- a no-op of the small language -/
theorem s_frz {i : Nat} (h : PSs X sts (tS X.K W f2)) : PSs X sts (tS X.K W (seqF (fun g => frzO g i g[i]?) f2)) := by
  refine (pss_or h (pss_lock h)).imp fun D σ H ⟨H0, Oc, O, g, out, S, e, q⟩ => ?_
  simp only [seqF, Option.bind_eq_bind, Option.bind_eq_some_iff] at e
  obtain ⟨o, e1, e2⟩ := e
  obtain ⟨x, hx⟩ : ∃ x, g[i]? = x := ⟨_, rfl⟩
  rw [hx] at e1
  have fin : ∀ {O1 : AS} {H1 : Hp} {g1 : Env'}, SI X.K H0 Oc O1 H1 g1 σ → Nxt O H O1 H1 → f2 g1 = some out → tS X.K W f2 D σ H1 := fun {O1 H1 g1} S' n e2 => by
    refine ⟨H0, Oc, _, _, out, S', e2, ?_⟩
    cases out with
    | nx g2 => exact fun σ2 H2 O2 S2 n2 => q σ2 H2 O2 S2 (n.trans n2)
    | rt m d => exact q
    | ex c g2 => exact fun σ2 H2 O2 C S2 n2 hc => q σ2 H2 O2 C S2 (n.trans n2) hc
  match x, hx, e1 with
  | some (.sh d), hx, e1 =>
    cases e1
    exact .inl ⟨H0, Oc, O, g, out, S, e2, q⟩
  | some (.fd ks), hx, e1 =>
    cases e1
    exact .inl ⟨H0, Oc, O, g, out, S, e2, q⟩
  | some .no, _, e1 => cases e1
  | none, _, e1 => cases e1
  | some (.ow ds), hi, e1 =>
    simp only [frzO, Option.bind_eq_bind, Option.bind_eq_some_iff, Option.pure_def, Option.some.injEq] at e1
    obtain ⟨g', e3, rfl⟩ := e1
    have e2 : f2 g' = some out := e2
    obtain ⟨hil, rfl⟩ := setSl_some e3
    obtain ⟨v, ev, a, vs, rfl, h1, h2, h3, h4⟩ := S.sr.get hi
    have n : Nxt O H (fun b => O b ∧ b ≠ a) H := .less fun b z => z.1
    refine .inl (fin (S.freeze (t := .sh (.lst ds)) hi rfl ev h2 (fun _ _ => rfl) rfl ⟨_, rfl, a, vs, rfl, fun z => z.2 rfl, h3, h4.less fun b z => z.1⟩ (fun d v r => Rp.nxt n d v r) (fun d v r => Rps.nxt n d v r) fun ⟨o, u, z⟩ => by rw [h3] at z; cases z) n e2)
  | some (.od ks), hi, e1 =>
    simp only [frzO, Option.bind_eq_bind, Option.bind_eq_some_iff, Option.pure_def, Option.some.injEq] at e1
    obtain ⟨g', e3, rfl⟩ := e1
    have e2 : f2 g' = some out := e2
    obtain ⟨hil, rfl⟩ := setSl_some e3
    obtain ⟨v, ev, a, rfl, h1, h2, h3⟩ := S.sr.get hi
    refine .inr ⟨a, _, h3, trivial, fun od => ?_⟩
    have n : Nxt O H (fun b => O b ∧ b ≠ a) (upd H a (.frz od (.dT (dkV ks)))) :=
      ⟨fun b o hb hh => by rw [upd_ne fun z => hb (by rw [z]; exact h1)]; exact hh, fun b z => .inl z.1⟩
    refine fin (S.freeze (t := .fd ks) hi rfl ev h2 (fun b hb => upd_ne hb) rfl ⟨a, od, rfl, fun z => z.2 rfl, upd_same⟩ (fun d v r => Rp.nxt n d v r) (fun d v r => Rps.nxt n d v r) fun ⟨o, u, z⟩ => by rw [h3] at z; cases z) n e2
/-! ### x = e -/
variable {e : Expr} {fe : Env' → Rs} {i : Nat} {te : TE}
def setF (own : Bool) (i : Nat) (fe : Env' → Rs) : Env' → Option Out := fun g => do let r ← fe g; let s ← slOf own r; let g' ← setSl i s g; pure (.nx g')
theorem SI.same' {K : PySem.W.Frag} {H0 H H' : Hp} {Oc O : AS} {g : Env'} {σ : L2.St} (S : SI K H0 Oc O H g σ) (s : Same H H') : SI K H0 Oc O H' g σ := ⟨S.sr.same s, S.same.trans s, S.out, S.otrk⟩
theorem SI.setSh {K : PySem.W.Frag} {H0 H : Hp} {Oc O : AS} {g g' : Env'} {σ : L2.St} (S : SI K H0 Oc O H g σ) {i : Nat} {d : D} {v : V} (r : Rp K O H d v) (h : setSl i (.sh d) g = some g') : SI K H0 Oc O H g' (σ.set i (some v)) :=
  ⟨S.sr.setSh r h, S.same, S.out, S.otrk⟩
/-- a new list or dict gets a name -/
theorem SI.setNew {K : PySem.W.Frag} {H0 H H' : Hp} {Oc O : AS} {g g' : Env'} {σ : L2.St} {p : Addr} {s' : Sl} {i : Nat} (S : SI K H0 Oc O H g σ) (s : Same H H') (hp : H p = none) (hp' : Held H' p) (r : SlotR K H0 (fun a => O a ∨ a = p) H' s' (some (.ref p)))
    (h : setSl i s' g = some g') : SI K H0 Oc (fun a => O a ∨ a = p) H' g' (σ.set i (some (.ref p))) := by
  obtain ⟨hil, rfl⟩ := setSl_some h
  have hσ : i < σ.length := by rw [← S.sr.len]; exact hil
  have S1 := S.sr.grow s hp hp'
  refine ⟨⟨S1.trk, by simp [S1.len], fun j s u e5 e6 => ?_, fun j k ds' es b o1 o2 e5 e6 e7 e8 => ?_⟩, S.same.trans s, fun b z => .inl (S.out b z), S.otrk⟩
  · by_cases hj : i = j
    · subst hj
      rw [List.getElem?_set_self hil] at e5
      rw [List.getElem?_set_self hσ] at e6
      cases e5; cases e6
      exact r
    · rw [List.getElem?_set_ne hj] at e5 e6
      exact S1.slot j s u e5 e6
  · have other : ∀ (j : Nat) (x : Sl) (b : Addr), x.own = true → g[j]? = some x → σ[j]? = some (some (.ref b)) → b ≠ p := fun j x b ho y1 y2 z => by
      obtain ⟨u, eu, hx⟩ := S.sr.get y1
      rw [y2] at eu; cases eu
      cases x with
      | ow es =>
        obtain ⟨b', ws, e', _, _, hb, _⟩ := hx
        cases e'
        rw [z, hp] at hb; cases hb
      | od es =>
        obtain ⟨b', e', _, _, hb⟩ := hx
        cases e'
        rw [z, hp] at hb; cases hb
      | _ => cases ho
    by_cases hj : i = j
    · by_cases hk : i = k
      · exact hj.symm.trans hk
      · subst hj
        rw [List.getElem?_set_self hσ] at e7
        cases e7
        rw [List.getElem?_set_ne hk] at e6 e8
        exact absurd rfl (other k es p o2 e6 e8)
    · by_cases hk : i = k
      · subst hk
        rw [List.getElem?_set_self hσ] at e8
        cases e8
        rw [List.getElem?_set_ne hj] at e5 e7
        exact absurd rfl (other j ds' p o1 e5 e7)
      · rw [List.getElem?_set_ne hj] at e5 e7
        rw [List.getElem?_set_ne hk] at e6 e8
        exact S.sr.dis j k ds' es b o1 o2 e5 e6 e7 e8
theorem SI.setOw {K : PySem.W.Frag} {H0 H H' : Hp} {Oc O : AS} {g g' : Env'} {σ : L2.St} {p : Addr} {vs : List V} {ds : List D} {i : Nat} (S : SI K H0 Oc O H g σ) (s : Same H H') (hp : H p = none) (hp' : H' p = some (.lst vs)) (r : Rps K (fun a => O a ∨ a = p) H' ds vs)
    (h : setSl i (.ow ds) g = some g') : SI K H0 Oc (fun a => O a ∨ a = p) H' g' (σ.set i (some (.ref p))) :=
  S.setNew (s' := .ow ds) s hp (.lst hp') ⟨p, vs, rfl, .inr rfl, S.same.free hp, hp', r⟩ h
theorem set_read {K : PySem.W.Frag} {own : Bool} {D' : Ends} {σ : L2.St} {H : Hp} (h : tS K W (setF own i fe) D' σ H) : tAsg (tQ K fe) (gName i) D' σ H := by
  obtain ⟨H0, Oc, O, g, out, S, e, q⟩ := h
  simp only [setF, Option.bind_eq_bind, Option.bind_eq_some_iff, Option.pure_def, Option.some.injEq] at e
  obtain ⟨⟨m, d⟩, ex, sl, es, g', eg, rfl⟩ := e
  refine tQ.use S.sr ex fun v H' s r => ?_
  show D'.nx (σ.set i (some v)) H'
  cases m with
  | sh =>
    cases es
    exact q _ _ O ((S.same' s).setSh r eg) (.same s)
  | bo => cases es
  | ex => cases es
  | fr =>
    cases d with
    | lst ds =>
      obtain ⟨p, vs, rfl, hp, hp', rs⟩ := r
      simp only [slOf] at es
      split at es
      · cases es
        refine q _ _ _ (S.setOw s hp hp' rs eg) ⟨fun b o _ h => s b o h, fun a z => z.imp id fun e => by rw [e]; exact hp⟩
      · cases es
        exact q _ _ O ((S.same' s).setSh (d := .lst ds) ⟨p, vs, rfl, not_new S.sr.trk hp, hp', rs.less fun b z => .inl z⟩ eg) (.same s)
    | _ => cases es
theorem s_set {own : Bool} (h : PS X st (tAsg (tQ X.K fe) (gName i))) : PS X st (tS X.K W (setF own i fe)) := h.imp fun _ _ _ z => set_read z
theorem s_setC {own : Bool} {tg : Tg} {fi : Env' → Option (M × List D)} {fc : Env' → Option Bool} {fe : Env' → Rs} (h : PS X st (tAsg (tLc (tQI X.K fi) (gQ X.K tg) (tQT X.K fc) (tQ X.K fe) (tgSlots tg)) (gName i))) : PS X st (tS X.K W (setF own i (compQ tg fi fc fe))) :=
  h.imp fun _ _ _ z => comp_read (set_read z)
/-! ### targets of several names -/
def unpF (is : List Nat) (fe : Env' → Rs) : Env' → Option Out := fun g => do let r ← fe g; let d ← storable r; let g' ← asg (.many is) d g; pure (.nx g')
theorem s_unp {is : List Nat} (h : PS X st (tAsg (tQ X.K fe) (gQ X.K (.many is)))) : PS X st (tS X.K W (unpF is fe)) := by
  refine h.imp fun D' σ H ⟨H0, Oc, O, g, out, S, e, q⟩ => ?_
  simp only [unpF, Option.bind_eq_bind, Option.bind_eq_some_iff, Option.pure_def, Option.some.injEq] at e
  obtain ⟨⟨m, d⟩, ex, d', ed, g', eg, rfl⟩ := e
  refine tQ.use S.sr ex fun v H' s r => ?_
  exact ⟨H0, O, g, g', d', S.sr.same s, r.store S.sr.trk ed, eg, fun σ' S' _ _ => q σ' H' O ⟨S', S.same.trans s, S.out, S.otrk⟩ (.same s)⟩
def parF (i j : Nat) (fa fb : Env' → Rs) : Env' → Option Out := fun g => do
  let x ← fa g
  let x' ← storable x
  let y ← fb g
  let y' ← storable y
  let g1 ← setSl i (.sh x') g
  let g2 ← setSl j (.sh y') g1
  pure (.nx g2)
theorem s_par {i j : Nat} {fa fb : Env' → Rs} (h : PS X st (tPar i j (tCons (tQ X.K fa) (tCons (tQ X.K fb) tNil)))) : PS X st (tS X.K W (parF i j fa fb)) := by
  refine h.imp fun D' σ H ⟨H0, Oc, O, g, out, S, e, q⟩ => ?_
  simp only [parF, Option.bind_eq_bind, Option.bind_eq_some_iff, Option.pure_def, Option.some.injEq] at e
  obtain ⟨⟨m1, d1⟩, ex, x', e1, ⟨m2, d2⟩, ey, y', e2, g1, e3, g2, e4, rfl⟩ := e
  refine tQ.use S.sr ex fun v H1 s1 r1 => tQ.use (S.sr.same s1) ey fun w H2 s2 r2 => ?_
  have r1 := Rp.nxt (.same s2) _ _ (r1.store S.sr.trk e1)
  have r2 := r2.store (S.sr.same s1).trk e2
  have s := s1.trans s2
  exact ⟨v, w, rfl, q _ H2 O (((S.same' s).setSh r1 e3).setSh r2 e4) (.same s)⟩
/-! ### lists that a def changes -/
theorem ownAt_some {g : Env'} {i : Nat} {ds : List D} (h : ownAt g i = some ds) : g[i]? = some (.ow ds) := by
  unfold ownAt at h
  split at h
  · cases h; assumption
  · cases h
/-- the list or dict in slot i is changed -/
theorem SI.change' {K : PySem.W.Frag} {H0 H : Hp} {Oc O : AS} {g g' : Env'} {σ : L2.St} {i : Nat} {s s' : Sl} {p : Addr} {o' : HO} (S : SI K H0 Oc O H g σ) (hi : g[i]? = some s) (hs : s.own = true) (hs' : s'.own = true) (hσ : σ[i]? = some (some (.ref p))) (h1 : O p) (h2 : H0 p = none) (ho : ∀ vs, o' ≠ .tup vs)
    (r : SlotR K H0 O (upd H p o') s' (some (.ref p))) (h : setSl i s' g = some g') : SI K H0 Oc O (upd H p o') g' σ ∧ Nxt O H O (upd H p o') := by
  obtain ⟨hil, rfl⟩ := setSl_some h
  have n : Nxt O H O (upd H p o') := ⟨fun b o hb hh => by rw [upd_ne fun z => hb (by rw [z]; exact h1)]; exact hh, fun a z => .inl z⟩
  refine ⟨⟨⟨fun a z => ?_, by simp [S.sr.len], fun j x u e5 e6 => ?_, fun j k ds' es' b o1 o2 e5 e6 e7 e8 => ?_⟩, fun b o hb => ?_, S.out, S.otrk⟩, n⟩
  · by_cases ha : a = p
    · rw [ha]
      exact ⟨by rw [upd_same]; simp, fun vs z => by rw [upd_same] at z; exact ho vs (Option.some.inj z)⟩
    · obtain ⟨k1, k2⟩ := S.sr.trk a z
      exact ⟨by rw [upd_ne ha]; exact k1, fun vs => by rw [upd_ne ha]; exact k2 vs⟩
  · by_cases hj : i = j
    · subst hj
      rw [List.getElem?_set_self hil] at e5
      cases e5
      rw [hσ] at e6; cases e6
      exact r
    · rw [List.getElem?_set_ne hj] at e5
      have hx := S.sr.slot j x u e5 e6
      have other : ∀ b, x.own = true → u = some (.ref b) → b ≠ p := fun b ho e z => by
        subst e z
        exact hj (S.sr.dis i j s x b hs ho hi e5 hσ e6)
      cases x with
      | no => trivial
      | sh d =>
        obtain ⟨w, e, r⟩ := hx
        exact ⟨w, e, Rp.nxt n _ _ r⟩
      | ow es' =>
        obtain ⟨b, ws', e, k1, k2, k3, k4⟩ := hx
        exact ⟨b, ws', e, k1, k2, by rw [upd_ne (other b rfl e)]; exact k3, Rps.nxt n _ _ k4⟩
      | od es' =>
        obtain ⟨b, e, k1, k2, k3⟩ := hx
        exact ⟨b, e, k1, k2, by rw [upd_ne (other b rfl e)]; exact k3⟩
      | fd es' =>
        obtain ⟨b, o, e, k1, k2⟩ := hx
        exact ⟨b, o, e, k1, n.keep _ _ k1 k2⟩
  · have own : ∀ (j : Nat) (x : Sl), x.own = true → (g.set i s')[j]? = some x → ∃ y, y.own = true ∧ g[j]? = some y := fun j x ho z => by
      by_cases hj : i = j
      · subst hj; exact ⟨_, hs, hi⟩
      · rw [List.getElem?_set_ne hj] at z; exact ⟨_, ho, z⟩
    obtain ⟨x1, w1, y1⟩ := own j ds' o1 e5
    obtain ⟨x2, w2, y2⟩ := own k es' o2 e6
    exact S.sr.dis j k x1 x2 b w1 w2 y1 y2 e7 e8
  · have hb' := S.same b o hb
    rw [upd_ne fun z => by rw [z, h2] at hb; cases hb]
    exact hb'
theorem SI.change {K : PySem.W.Frag} {H0 H : Hp} {Oc O : AS} {g g' : Env'} {σ : L2.St} {i : Nat} {ds es : List D} {p : Addr} {vs ws : List V} (S : SI K H0 Oc O H g σ) (hi : g[i]? = some (.ow ds)) (hσ : σ[i]? = some (some (.ref p))) (hH : H p = some (.lst vs))
    (r : Rps K O H es ws) (h : setSl i (.ow es) g = some g') : SI K H0 Oc O (upd H p (.lst ws)) g' σ ∧ Nxt O H O (upd H p (.lst ws)) := by
  obtain ⟨u, eu, p', vs', e', h1, h2, h3, h4⟩ := S.sr.get hi
  rw [hσ] at eu; cases eu; cases e'
  have n : Nxt O H O (upd H p (.lst ws)) := ⟨fun b o hb hh => by rw [upd_ne fun z => hb (by rw [z]; exact h1)]; exact hh, fun a z => .inl z⟩
  exact S.change' (s' := .ow es) hi rfl rfl hσ h1 h2 (fun vs z => by cases z) ⟨p, ws, rfl, h1, h2, upd_same, Rps.nxt n _ _ r⟩ h
theorem SI.own {K : PySem.W.Frag} {H0 H : Hp} {Oc O : AS} {g : Env'} {σ : L2.St} {i : Nat} {ds : List D} (S : SI K H0 Oc O H g σ) (hi : g[i]? = some (.ow ds)) : ∃ p vs, σ[i]? = some (some (.ref p)) ∧ H p = some (.lst vs) ∧ Rps K O H ds vs := by
  obtain ⟨u, eu, p, vs, rfl, _, _, h3, h4⟩ := S.sr.get hi
  exact ⟨p, vs, eu, h3, h4⟩
def appF (i : Nat) (fe : Env' → Rs) : Env' → Option Out := fun g => do
  let r ← fe g
  let x ← storable r
  let ds ← ownAt g i
  if lenOk ds.length then do let g' ← setSl i (.ow (ds ++ [x])) g; pure (.nx g') else none
theorem s_app (h : PS X st (tDrop (tBM X.K "list" rAppend (tVar i) (tCons (tQ X.K fe) tNil)))) : PS X st (tS X.K W (appF i fe)) := by
  refine h.imp fun D' σ H ⟨H0, Oc, O, g, out, S, e, q⟩ => ?_
  simp only [appF, Option.bind_eq_bind, Option.bind_eq_some_iff, Option.pure_def] at e
  obtain ⟨⟨m, d⟩, ex, x', e1, ds, e2, e3⟩ := e
  split at e3
  · rename_i hl
    simp only [Option.bind_eq_some_iff, Option.some.injEq] at e3
    obtain ⟨g', e4, rfl⟩ := e3
    have hi := ownAt_some e2
    obtain ⟨p, vs, hσ, hH, rs⟩ := S.own hi
    refine ⟨.ref p, hσ, .inl ⟨rfl, vs, SqL.of hH⟩, ?_⟩
    refine tQ.use S.sr ex fun v H' s r => ?_
    have r := r.store S.sr.trk e1
    have S' := S.same' s
    obtain ⟨p', vs', hσ', hH', rs'⟩ := S'.own hi
    rw [hσ] at hσ'; cases hσ'
    obtain ⟨S2, n2⟩ := S'.change (ws := vs' ++ [v]) hi hσ hH' (rs'.app (.one r)) e4
    refine ⟨p, vs', v, rfl, rfl, hH', by rw [rs'.len]; exact of_decide_eq_true hl, q σ _ O S2 ((Nxt.same s).trans n2)⟩
  · cases e3
def popF (i : Nat) : Env' → Option Out := fun g => do
  let ds ← ownAt g i
  let x ← ds[ds.length - 1]?
  let g' ← setSl i (.ow ds.dropLast) g
  pure (.nx g')
theorem s_pop (h : PS X st (tDrop (tBM0 X.K "list" rPop (tVar i)))) : PS X st (tS X.K W (popF i)) := by
  refine h.imp fun D' σ H ⟨H0, Oc, O, g, out, S, e, q⟩ => ?_
  simp only [popF, Option.bind_eq_bind, Option.bind_eq_some_iff, Option.pure_def, Option.some.injEq] at e
  obtain ⟨ds, e2, x, ex, g', e4, rfl⟩ := e
  have hi := ownAt_some e2
  obtain ⟨p, vs, hσ, hH, rs⟩ := S.own hi
  obtain ⟨S2, n2⟩ := S.change (ws := vs.dropLast) hi hσ hH rs.dropLast e4
  obtain ⟨y, ey, _⟩ := rs.get ex
  exact ⟨.ref p, hσ, .inl ⟨rfl, vs, SqL.of hH⟩, p, vs, y, rfl, rfl, hH, by rw [rs.len]; exact ey, q σ _ O S2 n2⟩
def popToF (j i : Nat) : Env' → Option Out := fun g => do
  let ds ← ownAt g i
  let x ← ds[ds.length - 1]?
  let g' ← setSl i (.ow ds.dropLast) g
  if i = j then none else do let g2 ← setSl j (.sh x) g'; pure (.nx g2)
theorem s_popTo {j : Nat} (h : PS X st (tAsg (tBM0 X.K "list" rPop (tVar i)) (gName j))) : PS X st (tS X.K W (popToF j i)) := by
  refine h.imp fun D' σ H ⟨H0, Oc, O, g, out, S, e, q⟩ => ?_
  simp only [popToF, Option.bind_eq_bind, Option.bind_eq_some_iff, Option.pure_def] at e
  obtain ⟨ds, e2, x, ex, g', e4, e5⟩ := e
  split at e5
  · cases e5
  · simp only [Option.bind_eq_some_iff, Option.some.injEq] at e5
    obtain ⟨g2, e6, rfl⟩ := e5
    have hi := ownAt_some e2
    obtain ⟨p, vs, hσ, hH, rs⟩ := S.own hi
    obtain ⟨S2, n2⟩ := S.change (ws := vs.dropLast) hi hσ hH rs.dropLast e4
    obtain ⟨y, ey, ry⟩ := rs.get ex
    refine ⟨.ref p, hσ, .inl ⟨rfl, vs, SqL.of hH⟩, p, vs, y, rfl, rfl, hH, by rw [rs.len]; exact ey, ?_⟩
    exact q _ _ O (S2.setSh (Rp.nxt n2 _ _ ry) e6) n2
def clrF (i : Nat) : Env' → Option Out := fun g => do let ds ← ownAt g i; let g' ← setSl i (.ow []) g; pure (.nx g')
theorem s_clr (h : PS X st (tDrop (tBM0 X.K "list" rClear (tVar i)))) : PS X st (tS X.K W (clrF i)) := by
  refine h.imp fun D' σ H ⟨H0, Oc, O, g, out, S, e, q⟩ => ?_
  simp only [clrF, Option.bind_eq_bind, Option.bind_eq_some_iff, Option.pure_def, Option.some.injEq] at e
  obtain ⟨ds, e2, g', e4, rfl⟩ := e
  have hi := ownAt_some e2
  obtain ⟨p, vs, hσ, hH, rs⟩ := S.own hi
  obtain ⟨S2, n2⟩ := S.change (ws := []) (es := []) hi hσ hH rfl e4
  exact ⟨.ref p, hσ, .inl ⟨rfl, vs, SqL.of hH⟩, p, vs, rfl, rfl, hH, q σ _ O S2 n2⟩
def subF (i : Nat) (fk fe : Env' → Rs) : Env' → Option Out := fun g => do
  let r ← fe g
  let x ← storable r
  let kk ← fk g
  let z ← asInt kk.2
  let ds ← ownAt g i
  let j ← ixN ds.length z
  let g' ← setSl i (.ow (ds.set j x)) g
  pure (.nx g')
theorem s_sub {fk : Env' → Rs} (h : PS X st (tAsg (tQ X.K fe) (gSub (tVar i) (tQ X.K fk) rSetL))) : PS X st (tS X.K W (subF i fk fe)) := by
  refine h.imp fun D' σ H ⟨H0, Oc, O, g, out, S, e, q⟩ => ?_
  simp only [subF, Option.bind_eq_bind, Option.bind_eq_some_iff, Option.pure_def, Option.some.injEq] at e
  obtain ⟨⟨m, d⟩, ex, x', e1, ⟨mk, dk⟩, ek, z, ez, ds, e2, j, ej, g', e4, rfl⟩ := e
  have hi := ownAt_some e2
  refine tQ.use S.sr ex fun v H1 s1 r1 => ?_
  have S1 := S.same' s1
  obtain ⟨p, vs, hσ, _, _⟩ := S1.own hi
  refine ⟨.ref p, hσ, tQ.use S1.sr ek fun w H2 s2 r2 => ?_⟩
  have S2 := S1.same' s2
  obtain ⟨p', vs', hσ', hH, rs⟩ := S2.own hi
  rw [hσ] at hσ'; cases hσ'
  have rv := Rp.nxt (.same s2) _ _ (r1.store S.sr.trk e1)
  obtain ⟨S3, n3⟩ := S2.change (ws := vs'.set j v) hi hσ hH (rs.set j rv) e4
  exact ⟨p, vs', z, j, rfl, r2.rb.toInt ez, hH, by rw [rs.len]; exact ej, q σ _ O S3 ((Nxt.same (s1.trans s2)).trans n3)⟩
/-! ### return -/
def retF (fe : Env' → Rs) : Env' → Option Out := fun g => do let r ← fe g; let _ ← storable r; pure (.rt r.1 r.2)
theorem Rm.outer {K : PySem.W.Frag} {O Oc : AS} {H0 H H' : Hp} (s : Same H0 H) (o : ∀ a, Oc a → O a) : ∀ {m : M} {d : D} {v : V}, Rm K O H H' m d v → Rm K Oc H0 H' m d v
  | .sh, _, _, h => h.less o
  | .fr, .lst ds, _, ⟨p, vs, e, hp, h, r⟩ => ⟨p, vs, e, s.free hp, h, r.less fun a z => z.imp (o a) id⟩
  | .bo, .lst ds, _, ⟨a, vs, e, h, r⟩ => ⟨a, vs, e, h, r.less o⟩
theorem s_ret (h : PS X st (tRet (tQ X.K fe))) : PS X st (tS X.K W (retF fe)) := by
  refine h.imp fun D' σ H ⟨H0, Oc, O, g, out, S, e, q⟩ => ?_
  simp only [retF, Option.bind_eq_bind, Option.bind_eq_some_iff, Option.pure_def, Option.some.injEq] at e
  obtain ⟨r, ex, x', e1, rfl⟩ := e
  exact tQ.use S.sr ex fun v H' s r => q v H' (S.same.trans s) (r.outer S.same S.out)
def retvF (i : Nat) : Env' → Option Out := fun g => do let ds ← ownAt g i; pure (.rt .fr (.lst ds))
theorem s_retv (h : PS X st (tRet (tVar i))) : PS X st (tS X.K W (retvF i)) := by
  refine h.imp fun D' σ H ⟨H0, Oc, O, g, out, S, e, q⟩ => ?_
  simp only [retvF, Option.bind_eq_bind, Option.bind_eq_some_iff, Option.pure_def, Option.some.injEq] at e
  obtain ⟨ds, e2, rfl⟩ := e
  obtain ⟨u, eu, p, vs, rfl, h1, h2, h3, h4⟩ := S.sr.get (ownAt_some e2)
  exact ⟨_, eu, q _ H S.same ⟨p, vs, rfl, h2, h3, h4.less fun a z => z.elim (S.out a) fun y => by rw [y]; exact h1⟩⟩
/-! ### if, while, for -/
variable {fc : Env' → Option Bool} {a b : List Stmt} {c : Expr} {pos : Pos}
def ifF (fc : Env' → Option Bool) (f f2 : Env' → Option Out) : Env' → Option Out := fun g => do let k ← fc g; if k then f g else f2 g
theorem s_if (hc : PT X c (tQT X.K fc)) (ha : PSs X a (tS X.K W f)) (hb : PSs X b (tS X.K W f2)) : PS X (.If c a b pos) (tS X.K W (ifF fc f f2)) := by
  refine (ps_if hc ha hb).imp fun D' σ H ⟨H0, Oc, O, g, out, S, e, q⟩ => ?_
  simp only [ifF, Option.bind_eq_bind, Option.bind_eq_some_iff] at e
  obtain ⟨k, ek, e2⟩ := e
  refine ⟨H0, O, g, k, S.sr, ek, fun H' s => ?_⟩
  have fin : ∀ {f : Env' → Option Out}, f g = some out → tS X.K W f D' σ H' := fun {f} e2 => by
    refine ⟨H0, Oc, O, g, out, S.same' s, e2, ?_⟩
    cases out with
    | nx g2 => exact fun σ2 H2 O2 S2 n2 => q σ2 H2 O2 S2 ((Nxt.same s).trans n2)
    | rt m d => exact q
    | ex c g2 => exact fun σ2 H2 O2 C S2 n2 hc => q σ2 H2 O2 C S2 ((Nxt.same s).trans n2) hc
  cases k with
  | true =>
    rw [if_pos rfl] at e2
    exact iteT (fin e2)
  | false =>
    rw [if_neg (by decide)] at e2
    exact iteF (fin e2)
theorem s_while (hp : PassesOwn (model X.prog X.w) X.A X.env X.xe) (n : Nat) (hc : PT X c (tQT X.K fc)) (hb : PSs X b (tS X.K W f)) : PS X (.While c b [] pos) (tS X.K W (whlF fc f n)) := by
  refine (ps_while hp hc hb).imp fun D' σ H ⟨H0, Oc, O, g, out, S, e, q⟩ => ?_
  refine ⟨fun m σ1 H1 => ∃ O1 g1, SI X.K H0 Oc O1 H1 g1 σ1 ∧ Nxt O H O1 H1 ∧ whlF fc f m g1 = some out, ⟨n, O, g, S, Nxt.refl O H, e⟩, ?_⟩
  rintro m σ1 H1 ⟨O1, g1, S1, n1, e1⟩
  cases m with
  | zero => cases e1
  | succ m =>
    simp only [whlF, Option.bind_eq_bind, Option.bind_eq_some_iff] at e1
    obtain ⟨k, ek, e2⟩ := e1
    refine ⟨H0, O1, g1, k, S1.sr, ek, fun H2 s2 => ?_⟩
    cases k with
    | false =>
      rw [if_neg (by decide)] at e2 ⊢
      cases e2
      exact q σ1 H2 O1 (S1.same' s2) (n1.trans (.same s2))
    | true =>
      rw [if_pos rfl] at e2 ⊢
      simp only [Option.bind_eq_some_iff] at e2
      obtain ⟨o, e3, e4⟩ := e2
      refine ⟨fun σ2 H2 => ∃ O1 g1, SI X.K H0 Oc O1 H2 g1 σ2 ∧ Nxt O H O1 H2 ∧ whlF fc f m g1 = some out, fun σ2 H2 z => ⟨m, Nat.lt_succ_self m, z⟩, H0, Oc, O1, g1, o, S1.same' s2, e3, ?_⟩
      cases o with
      | nx g' => exact fun σ3 H3 O3 S3 n3 => ⟨O3, g', S3, (n1.trans (.same s2)).trans n3, e4⟩
      | rt m d =>
        cases e4
        exact q
      | ex c g' =>
        cases e4
        exact fun σ3 H3 O3 C S3 n3 hc => q σ3 H3 O3 C S3 ((n1.trans (.same s2)).trans n3) hc
def forQ (tg : Tg) (fi : Env' → Option (M × List D)) (f : Env' → Option Out) : Env' → Option Out := fun g => do
  let r ← fi g
  if r.1 = .bo then none else forF (asg tg) f r.2 g
theorem s_for {tg iter : Expr} {t : Tg} {fi : Env' → Option (M × List D)} (hp : PassesOwn (model X.prog X.w) X.A X.env X.xe) (hcalm : X.calm = true) (hi : PI X tg iter (tQI X.K fi)) (hg : PG X tg (gQ X.K t)) (hb : PSs X b (tS X.K W f))
    (hs : ∀ x, foldedSetIterable iter X.env x = pure x) : PS X (.For tg iter b [] pos) (tS X.K W (forQ t fi f)) := by
  refine (ps_for hp hcalm hi hg hb hs).imp fun D' σ H ⟨H0, Oc, O, g, out, S, e, q⟩ => ?_
  simp only [forQ, Option.bind_eq_bind, Option.bind_eq_some_iff] at e
  obtain ⟨⟨mi, ds⟩, ei, e2⟩ := e
  split at e2
  · cases e2
  · rename_i hbo
    have hbo : ¬ mi = .bo := hbo
    refine ⟨H0, O, g, mi, ds, S.sr, ei, fun J H1 s1 wk => ?_⟩
    refine ⟨fun i m σ1 H2 => m = ds.length - i ∧ i ≤ ds.length ∧ ∃ O1 g1, SI X.K H0 Oc O1 H2 g1 σ1 ∧ Nxt O H1 O1 H2 ∧ forF (asg t) f (ds.drop i) g1 = some out, ⟨ds.length, rfl, Nat.zero_le _, O, g, S.same' s1, Nxt.refl O H1, e2⟩, ?_⟩
    rintro i m σ1 H2 ⟨rfl, hi, O1, g1, S1, n1, e1⟩
    have cn : Cn (decide (mi = .bo)) O H1 O1 H2 := ⟨n1, fun z => absurd (of_decide_eq_true z) hbo, S1.sr.trk⟩
    by_cases hlt : i < ds.length
    · rw [List.drop_eq_getElem_cons hlt] at e1
      simp only [forF, Option.bind_eq_bind, Option.bind_eq_some_iff] at e1
      obtain ⟨g2, eg, o, eo, e3⟩ := e1
      refine .inr ⟨wk.go i _ _ cn hlt, fun σ3 H3 => ∃ O1 g1, SI X.K H0 Oc O1 H3 g1 σ3 ∧ Nxt O H1 O1 H3 ∧ forF (asg t) f (ds.drop (i + 1)) g1 = some out, fun σ3 H3 z => ⟨ds.length - (i + 1), by omega, rfl, hlt, z⟩, fun x H3 y => ?_⟩
      obtain ⟨s2, rx⟩ := wk.yld i _ _ x H3 _ cn y (List.getElem?_eq_getElem hlt)
      refine ⟨H0, O1, g1, g2, _, S1.sr.same s2, rx, eg, fun σ' S' _ _ => ?_⟩
      refine ⟨H0, Oc, O1, g2, o, ⟨S', S1.same.trans s2, S1.out, S1.otrk⟩, eo, ?_⟩
      cases o with
      | nx g' => exact fun σ3 H4 O3 S3 n3 => ⟨O3, g', S3, (n1.trans (.same s2)).trans n3, e3⟩
      | rt m d =>
        cases e3
        exact q
      | ex c g' =>
        cases e3
        exact fun σ3 H4 O3 C S3 n3 hc => q σ3 H4 O3 C S3 ((Nxt.same s1).trans ((n1.trans (.same s2)).trans n3)) hc
    · have hi' : i = ds.length := by omega
      subst hi'
      rw [List.drop_length, forF] at e1
      cases e1
      exact .inl ⟨wk.stop _ _ _ cn (Nat.le_refl _), q σ1 H2 O1 S1 ((Nxt.same s1).trans n1)⟩
theorem s_never : PS X st (tS X.K W fun _ => none) := ps_never.imp fun D' σ H ⟨H0, Oc, O, g, out, S, e, q⟩ => by cases e
end
end Ev
/-! Ev: list(reversed(list)), l.count(x). -/
namespace Ev
open PySem PySem.Spec PyProof.Rows L2
section
variable {prog : Program} {w : World} {A : Around} {E : Value → Shared → Prop} {s : Shared}
theorem init_listRev {I l : Addr} {items : Array Value} {R : Result → Shared → Prop} (hh : A.handled = none) (S : Addr) (hit : s.heap.IsRevIter I l ((items.size : Int) - 1)) (hl : s.heap.IsList l items) (hne : l ≠ I) (hSI : S ≠ I) (hSl : S ≠ l)
    (hS : s.heap.get? S = some { cls := .type "list", data := .seq #[] })
    (hR : ∀ s' acc' c', Moved [S, I] (fun a b => b = a) s s' → s'.heap.get? S = some { cls := .type "list", dict := none, data := .seq acc' c', slots := #[] } → ItemsOf (fun i v => items[items.size - 1 - i]? = some v) acc' items.size → R (.ok (.ret .none)) s') (hn : items.size ≤ sizeLine) :
    wpAny (model prog w) A.in1 (Builtin.«list.__init__» ⟨[.ref S, .ref I], []⟩)
      (fun fin s' => match fin with | .done f => R (.ok f) s' | .again c' => c'.quiet = true ∧ codeAny (model prog w) A c' R s') (fun e s' => R (.error e) s') s := by
  have W := (Walks.listRev (prog := prog) (w := w) (A := A.in1) hh I l hne items).toS
  have hSf : S ∉ [I, l] := by simp only [List.mem_cons, List.not_mem_nil, or_false, not_or]; exact ⟨hSI, hSl⟩
  show wpAny _ A.in1 (do let old ← Builtin.List.listItems (.ref S); Builtin.List.listUpdate (.ref S) (fun _ => #[]); letGo old.toList.reverse; Builtin.List.listExtendWith (.ref S) (.ref I) .none) _ _ s
  refine wpAny_bind ?_
  unfold Builtin.List.listItems
  refine wpAny_bind (wpAny_seqItems hS rfl (wpAny_pure ?_))
  show wpAny _ A.in1 (updateSeq S (fun _ => #[]) >>= fun _ => letGo (#[] : Array Value).toList.reverse >>= fun _ => Builtin.List.listExtendWith (.ref S) (.ref I) .none) _ _ s
  refine wpAny_bind (wpAny_updateSeq hS rfl ?_)
  have hS₂ := Heap.get?_update_self (Obj.mapSeq (fun _ => (#[] : Array Value))) hS rfl
  have oth : ∀ b o, b ≠ S → s.heap.get? b = some o → (s.heap.update S (Obj.mapSeq (fun _ => (#[] : Array Value)))).get? b = some o :=
    fun b o hb e => (Heap.get?_update_other _ _ (Ne.symm hb)).trans e
  refine wpAny_bind (wpAny_letGo ?_)
  have hit1 : (s.heap.update S (Obj.mapSeq (fun _ => (#[] : Array Value)))).IsRevIter I l ((items.size : Int) - 1) := hit.at fun o e => oth _ _ (Ne.symm hSI) e
  have hl1 : (s.heap.update S (Obj.mapSeq (fun _ => (#[] : Array Value)))).IsList l items := hl.at fun o e => oth _ _ (Ne.symm hSl) e
  have hT : ({ s with heap := s.heap.update S (Obj.mapSeq (fun _ => (#[] : Array Value))) } : Shared).TypeIs (.ref I) "list_reverseiterator" := Heap.IsRevIter.typeIs (s := { s with heap := s.heap.update S (Obj.mapSeq (fun _ => (#[] : Array Value))) }) hit1
  have h1 : Builtin.List.listSameRef (.ref S) (.ref I) = false := by simp [Builtin.List.listSameRef, hSI]
  have h2 : (Value.type "list_reverseiterator" == Value.type "list") = false := by decide
  have h3 : (Value.type "list_reverseiterator" == Value.type "tuple") = false := by decide
  unfold Builtin.List.listExtendWith
  refine wpAny_bind (wpAny_typeOf hT ?_)
  simp only [h1, h2, h3, Bool.or_false, Bool.false_eq_true, if_false]
  refine wpAny_bind (wpAny_pyIter_revIter (s := { s with heap := s.heap.update S (Obj.mapSeq (fun _ => (#[] : Array Value))) }) hit1 ?_)
  refine wpAny_bind (wpAny_holding ?_)
  unfold Builtin.List.listLengthHint
  refine wpAny_bind (wpAny_specialOf hT RT.nolen_lri ?_)
  show wpAny _ A.in1 (specialOf (Value.ref I) (Str.ofString "__length_hint__") >>= _) _ _ _
  refine wpAny_bind (wpAny_specialOf hT RT.hint_lri ?_)
  generalize hid : ("list_reverseiterator.__length_hint__" : String) = id0
  wp_delta
  rw [show splitId id0 = some ("list_reverseiterator", "__length_hint__") from by subst hid; decide +kernel]
  subst hid
  refine wpAny_bind (wpAny_isInstance (b := true) hT (by rw [isSubtype_type]; kernel_rfl) ?_)
  refine wpAny_pure ?_
  rw [if_neg (by decide)]
  have oth2 := oth
  have e0 : ((items.size : Nat) : Int) - 1 - ((0 : Nat) : Int) = (items.size : Int) - 1 := by omega
  refine wpAny_pure ⟨plainId_quiet F.plain_extend_loop _, codeAny_extend_loopS W hn _ hSf _ items.size 0 _ _ _ rfl (Nat.zero_le _)
    ⟨Nat.zero_le _, by rw [e0]; exact hit.at fun o e => oth2 _ _ (Ne.symm hSI) e, hl.at fun o e => oth2 _ _ (Ne.symm hSl) e⟩ hS₂ (ItemsOf.nil _) fun s' acc' c' hm hS' hacc => ?_⟩
  have m0 : Moved [S, I] (fun a b => b = a) s { s with heap := s.heap.update S (Obj.mapSeq (fun _ => (#[] : Array Value))) } :=
    ⟨fun b o hb e => oth2 b o (fun h => hb (by rw [h]; exact List.mem_cons_self)) e, rfl, rfl, rfl, Nat.le_refl _⟩
  exact hR s' acc' c' (Moved.trans W.gtrans m0 hm) hS' hacc
theorem call_listRev {I l : Addr} {items : Array Value} {Q : Value → Shared → Prop} (hh : A.handled = none) (hit : s.heap.IsRevIter I l ((items.size : Int) - 1)) (hl : s.heap.IsList l items) (hne : l ≠ I) (hn : items.size ≤ sizeLine)
    (hQ : ∀ s' acc' c', Moved [s.heap.objs.size, I] (fun a b => b = a) { s with heap := s.heap.push { cls := .type "list", data := .seq #[] } } s' →
      s'.heap.get? s.heap.objs.size = some { cls := .type "list", dict := none, data := .seq acc' c', slots := #[] } → ItemsOf (fun i v => items[items.size - 1 - i]? = some v) acc' items.size → Q (.ref s.heap.objs.size) s') :
    wpAny (model prog w) A (call (.type "list") [.ref I]) Q E s := by
  obtain ⟨oi, hoi, _⟩ := id hit
  obtain ⟨ol, hol, _⟩ := id hl
  have hSI : s.heap.objs.size ≠ I := Nat.ne_of_gt (Heap.lt_size hoi)
  have hSl : s.heap.objs.size ≠ l := Nat.ne_of_gt (Heap.lt_size hol)
  refine callType_codes (Q₁ := fun obj s₁ => obj = .ref s.heap.objs.size ∧ s₁ = { s with heap := s.heap.push { cls := .type "list", data := .seq #[] } }) F.called_list (F.typeCall_list_1 _) F.entry_list_init
    (code_list_new _ ⟨rfl, rfl⟩) fun obj s₁ h₁ => ?_
  obtain ⟨rfl, rfl⟩ := h₁
  have hS : (s.heap.push { cls := .type "list", data := .seq #[] }).get? s.heap.objs.size = some { cls := .type "list", data := .seq #[] } := Heap.get?_push_size _ rfl
  refine ⟨⟨_, hS, rfl⟩, F.args_list_init_2 _ _, init_listRev (A := A.in1) hh _ (hit.at fun o e => Heap.get?_push_of_some _ e) (hl.push _) hne hSI hSl hS (fun s' acc' c' hm hS' hacc => ?_) hn⟩
  exact ⟨rfl, hQ s' acc' c' hm hS' hacc⟩
end
def tListRev (K : PySem.W.Frag) (te : TE) : TE := fun σ H Q => te σ H fun v H1 => ∃ (a : Addr) (xs : List V), v = .ref a ∧ SqL K H1 a xs ∧ ∀ b, H1 b = none → Q (.ref b) (upd H1 b (.lst xs.reverse))
section
variable {X : Cx}
theorem pe_listRev {e : Expr} {te : TE} {p p2 pos pos2 : Pos} (hc : X.calm = true) (hg : Gl X "list") (hm : X.mg "list" = none) (hg2 : Gl X "reversed") (hm2 : X.mg "reversed" = none) (he : PE X e te)
    (hs : starEach [e] X.env = (false, eval e X.env) :: starEach [] X.env := by rfl)
    (hs2 : starEach [.Call (.Name "reversed" p2) [e] [] pos2] X.env = (false, eval (.Call (.Name "reversed" p2) [e] [] pos2) X.env) :: starEach [] X.env := by rfl) :
    PE X (.Call (.Name "list" p) [.Call (.Name "reversed" p2) [e] [] pos2] [] pos) (tListRev X.K te) := by
  refine ⟨fun pins s σ H Q I h => ?_⟩
  refine Call_ (ld_blt I hg hm boot_list (PyProof.Rows.callWith_type1 (args_cons (Call_ (ld_blt I hg2 hm2 PyProof.Rows.boot_reversed (PyProof.Rows.callWith_type1 (args_cons (thn (he.run pins s σ H _ I h) fun u s1 ⟨v, H1, I1, r1, q1⟩ => args_nil ?_) hs) hs rfl))) hs2) hs2 rfl))
  obtain ⟨a, xs, ev, hq, q⟩ := q1
  subst ev
  obtain rfl : u = Value.ref a := r1
  obtain ⟨its, rv, p', hz⟩ := I1.list hq
  refine call_reversed_list p'.isList (args_nil ?_)
  have k0 : ∀ b o, s1.heap.get? b = some o → (s1.heap.push (revObj a ((its.toArray.size : Int) - 1))).get? b = some o := fun b o e => Heap.get?_push_of_some _ e
  have I2 : Inv X pins σ H1 { s1 with heap := s1.heap.push (revObj a ((its.toArray.size : Int) - 1)) } := I1.kept (t' := s1.toks) k0
  obtain ⟨f0, f1, f2, f3, f4, f5⟩ := I1.fpOk (H' := H1) (b := s1.heap.objs.size) (Nat.le_refl _) (I1.hok.fresh (Nat.le_refl _))
  have hl := p'.isList
  obtain ⟨ol, hol, _⟩ := id hl
  have hne : a ≠ s1.heap.objs.size := Nat.ne_of_lt (Heap.lt_size hol)
  have hn : its.toArray.size ≤ sizeLine := by rw [List.size_toArray, ← rv.length]; exact hz
  refine call_listRev (s := { s1 with heap := s1.heap.push (revObj a ((its.toArray.size : Int) - 1)) }) (I1.ok.hd hc) ⟨_, Heap.get?_push_size _ rfl, rfl, rfl⟩ (hl.push _) hne hn fun s' acc c' hm hS hi => ?_
  have hsz : (s1.heap.push (revObj a ((its.toArray.size : Int) - 1))).objs.size = s1.heap.objs.size + 1 := by simp [Heap.push]
  have big : s1.heap.objs.size ≤ (s1.heap.push (revObj a ((its.toArray.size : Int) - 1))).objs.size := by rw [hsz]; omega
  have hk : ∀ b o, b ≠ s1.heap.objs.size → (s1.heap.push (revObj a ((its.toArray.size : Int) - 1))).get? b = some o → s'.heap.get? b = some o := fun b o hb e => hm.heap b o (fun z => by
    rcases List.mem_cons.mp z with z | z
    · exact absurd (Heap.lt_size e) (by rw [z]; exact Nat.lt_irrefl _)
    · exact hb (List.mem_singleton.mp z)) (Heap.get?_push_of_some _ e)
  have es0 := Moved.eq_with hm
  have es : s' = { s1 with heap := s'.heap, toks := s'.toks } := es0
  have hk0 : ∀ b o, s1.heap.get? b = some o → s'.heap.get? b = some o := fun b o e => hk b o (Nat.ne_of_lt (Heap.lt_size e)) (k0 b o e)
  rw [es]
  refine ⟨.ref _, upd H1 _ (.lst xs.reverse), I1.laid (t' := s'.toks) hk0 big (show ObjOk X.prog X.w _ _ _ (.lst xs.reverse) from ⟨by rw [List.length_reverse]; exact hz, acc.toList, c', RT.vals_rev rv hi, ?_⟩), rfl, q _ (I1.hok.fresh big)⟩
  rw [Array.toArray_toList]
  exact hS
end
theorem countP_toPys (x : D) : ∀ ds : List D, (toPys ds).countP (fun z => PyData.eqv z (toPy x)) = (ds.filter fun z => eqvD z x).length
  | [] => rfl
  | d :: ds => by
    rw [toPys, List.countP_cons, countP_toPys x ds, List.filter_cons]
    show _ + (if eqvD d x = true then 1 else 0) = _
    cases eqvD d x <;> rfl
/-- l.count(x) -/
def rCntD (K : PySem.W.Frag) : V → List V → Hp → VK → Prop := fun x xs H Q => ∃ (a : Addr) (ys : List V) (y : V) (d : PyData) (ds : List PyData), x = V.ref a ∧ xs = [y] ∧ SqL K H a ys ∧ DpAll K H ys ds ∧ Dp K H y d ∧
  SeqAt.shaped (.list ds) = true ∧ SeqAt.shaped d = true ∧ Q (.int ((ds.countP fun z => PyData.eqv z d : Nat) : Int)) H
section
variable {X : Cx}
theorem mt_cntD (hu : X.A.units + 65 < cLine) : MtR X "list.count" (rCntD X.K) := by
  intro pins s σ H x xs v us Q I rx rxs h
  obtain ⟨a, ys, y, d, ds, rfl, rfl, hs, ha, hy, sl, sd, q⟩ := h
  cases rx
  obtain ⟨uy, rfl, ry⟩ := rxs.one
  obtain ⟨bs, r1⟩ := Dp.reads I d y uy hy ry
  have hxs : PyData.canLayAll0 ds = true := SeqAt.canLay_of_shaped sl
  have hroom : X.A.units + 1 + min (PyData.depthAll ds) d.depth < cLine := room_in_shaped sd hu
  obtain ⟨its, rv, ⟨⟨cls, dd, data, sls⟩, n, ho, hc, hdn, hdt⟩, hlen⟩ := I.list hs
  simp only at hc hdt
  subst hc hdt
  obtain ⟨as, h4⟩ := Dp.readsAll I ds _ its ha rv
  have hmap : its.map (SeqAt.readOf s.heap) = ds := SeqAt.readsAll_map ds its as hxs h4
  refine call_meets PySem.F.slot_list_count ⟨_, ho, rfl⟩ PySem.F.entry_list_count (PySem.F.args_list_count_2 _ _)
    (SeqAt.list_countAt a its.toArray n dd sls uy (fun u => PyData.eqv (SeqAt.readOf s.heap u) d)) ⟨ho, SeqAt.items_eqAt (vs := its.toArray) (show ReadsAll s.heap its.toArray.toList ds as from h4) r1 hxs (SeqAt.canLay_of_shaped sd) hroom, ?_⟩
  have ec : its.toArray.toList.countP (fun u => PyData.eqv (SeqAt.readOf s.heap u) d) = ds.countP fun z => PyData.eqv z d := by
    rw [← hmap, List.countP_map]
    rfl
  refine ⟨.int ((ds.countP fun z => PyData.eqv z d : Nat) : Int), H, I.tok _, ⟨s.toks, ?_⟩, q⟩
  show Value.int ((its.toArray.toList.countP (fun u => PyData.eqv (SeqAt.readOf s.heap u) d) : Nat) : Int) s.toks = Value.int ((ds.countP fun z => PyData.eqv z d : Nat) : Int) s.toks
  rw [ec]
variable {a b : Expr} {fa fb : Env' → Rs} {pos : Pos} {tg : Expr}
theorem q_cnt {x : Str} {p apos cpos : Pos} (hu : X.A.units + 65 < cLine) (nb : NoStar b) (hl : (apos.endLine == cpos.line) = true) (hf : ((backTo cpos (starEach [b] X.env)).all (fun x => !x.1) && (backToKw cpos (keywordEach [] X.env)).all (fun x => x.1.isSome)
      && decide ([b].length + ([] : List Keyword).length + (if ([] : List Keyword).isEmpty then 0 else 1) < 30)) = true) (ha : PE X (.Name x p) (tQ X.K fa)) (hb : PE X b (tQ X.K fb)) :
    PE X (.Call (.Attribute (.Name x p) "count" apos) [b] [] cpos) (tQ X.K fun g => do let x ← fa g; let y ← fb g; let ds ← asL x.2; if shD (.lst ds) && shD y.2 then pure (.sh, .int ((ds.filter fun z => eqvD z y.2).length : Nat)) else none) := by
  refine (pe_bm PySem.F.plainAttrs_list PySem.F.slot_list_count PySem.F.type_list_count (mt_cntD hu) ha (pa_cons hb pa_nil (nb _ _)) rfl hf hl (nb _ _) rfl).imp fun σ H Q ⟨H0, O, g, m, d, S, e, q⟩ => ?_
  simp only [Option.bind_eq_bind, Option.bind_eq_some_iff] at e
  obtain ⟨x, ex, y, ey, ds, ed, eb⟩ := e
  split at eb
  · rename_i hk
    simp only [shD, Bool.and_eq_true] at hk
    cases eb
    refine tQ.use S ex fun v H1 s1 r1 => ?_
    obtain ⟨a, vs, rfl, hs, rs⟩ := r1.rb.toL ed
    refine ⟨.inl ⟨rfl, vs, hs⟩, ?_⟩
    refine tQ.use (S.same s1) ey fun w H2 s2 r2 => ?_
    obtain ⟨a', vs', e', hs', rs'⟩ := (r1.rb.same s2).toL ed
    cases e'
    refine ⟨a, vs', w, toPy y.2, toPys ds, rfl, rfl, hs', Rps.dp _ _ (by have := hk.1.1; rw [noX] at this; exact this) rs', r2.rb.dp hk.2.1, hk.1.2, hk.2.2, ?_⟩
    rw [countP_toPys]
    exact q _ H2 (s1.trans s2) rfl
  · cases eb
theorem q_listRev {p p2 pos2 : Pos} (hc : X.calm = true) (hg : Gl X "list") (hm : X.mg "list" = none) (hg2 : Gl X "reversed") (hm2 : X.mg "reversed" = none) (ns : NoStar a) (ha : PE X a (tQ X.K fa)) :
    PE X (.Call (.Name "list" p) [.Call (.Name "reversed" p2) [a] [] pos2] [] pos) (tQ X.K fun g => do let x ← fa g; b1D .lrev x.2) := by
  refine (pe_listRev hc hg hm hg2 hm2 ha (ns _ _) rfl).imp fun σ H Q ⟨H0, O, g, m, d, S, e, q⟩ => ?_
  simp only [Option.bind_eq_bind, Option.bind_eq_some_iff] at e
  obtain ⟨x, ex, eb⟩ := e
  simp only [b1D, Option.map_eq_some_iff] at eb
  obtain ⟨ds, e1, e2⟩ := eb
  cases e2
  refine tQ.use S ex fun v H' s r => ?_
  obtain ⟨a, vs, rfl, hs, rs⟩ := r.rb.toL e1
  refine ⟨a, vs, rfl, hs, fun p hp => q _ _ (s.trans (same_new hp)) ⟨p, _, rfl, s.free hp, upd_same, Rps.nxt (.same (same_new hp)) _ _ (rs.rev.plus hp)⟩⟩
theorem wk_enum {K : PySem.W.Frag} {O : AS} {H : Hp} {ds : List D} {a : Addr} {vs : List V} {b : Bool} (h : ∀ Oc Hc, Cn b O H Oc Hc → SqL K Hc a vs ∧ Rps K Oc Hc ds vs) : Wk K O H (Ite K a) (enumL 0 ds) b where
  go := fun i Oc Hc n hi => by
    obtain ⟨h1, h2⟩ := h Oc Hc n
    rw [enumL_len] at hi
    obtain ⟨v, e, _⟩ := h2.get (List.getElem?_eq_getElem hi)
    exact ⟨vs, v, h1, e⟩
  yld := fun i Oc Hc x H2 d n ⟨T, x1, e1, nT, e2, f1⟩ hd => by
    obtain ⟨h1, h2⟩ := h Oc Hc n
    obtain ⟨u, g1, rfl⟩ := enumL_get ds 0 i d hd
    obtain ⟨v1, k1, r1⟩ := h2.get g1
    have z1 := f1 vs h1
    rw [k1] at z1; cases z1
    subst e2
    refine ⟨same_new nT, T, [.int (i : Nat), x1], e1, not_new n.2.2 nT, upd_same, .int (i : Nat), [x1], rfl, by rw [Nat.zero_add]; exact rfl, x1, [], rfl, ?_, rfl⟩
    exact Rp.nxt (.same (same_new nT)) _ _ r1
  stop := fun i Oc Hc n hi => by
    obtain ⟨h1, h2⟩ := h Oc Hc n
    rw [enumL_len] at hi
    exact ⟨vs, h1, by rw [h2.len]; exact hi⟩
theorem i_enum {elts : List Expr} {kk : Nat} {p tpos : Pos} (hg : Gl X "enumerate") (hm : X.mg "enumerate" = none) (ns : NoStar a) (ha : PE X a (tQ X.K fa)) :
    PI X (.Tuple elts kk tpos) (.Call (.Name "enumerate" p) [a] [] pos) (tQI X.K fun g => do let x ← fa g; let ds ← asL x.2; pure (itM x.1, enumL 0 ds)) := by
  refine (pi_enum hg hm (pa_cons ha pa_nil (ns _ _)) (ns _ _)).imp fun σ H R ⟨H0, O, g, m, ds, S, e, q⟩ => ?_
  simp only [Option.bind_eq_bind, Option.bind_eq_some_iff, Option.pure_def, Option.some.injEq] at e
  obtain ⟨⟨m1, d1⟩, ex, ds', e1, eb⟩ := e
  cases eb
  refine tQ.use S ex fun v H' s r => ?_
  obtain ⟨a', vs, rfl, h1, hl, h2⟩ := Rm.stays S.trk r (Same.refl H') e1 (b := decide (itM m1 = .bo)) itM_bo
  exact ⟨a', vs, rfl, h1, q _ _ s (wk_enum h2)⟩
end
end Ev
/-! Ev: errors: the classes, isinstance, raise, try. -/
namespace Ev
open PySem PySem.Spec PyProof.Rows L2
/-- what the written part says of the class c, at C -/
structure ClsK (K : PySem.W.Frag) (mg : Str → Option Value) (c : Nat) (C : Addr) : Prop where
  at_ : clsA K c = some C
  mg : mg (xName c) = some (.ref C)
  keep : PySem.W.keepIn K (.ref C) = true
  ty : PySem.W.typeIn K (.ref C) = some (.type "type")
  ex : PySem.W.excIn K C [.type "ValueError", .type "Exception", .type "BaseException", .type "object"] "ValueError.__new__" = true
  ec : ExcC K C
  val : PySem.W.subIn K (.ref C) (.type "ValueError") = some true
structure XK (K : PySem.W.Frag) (mg : Str → Option Value) : Prop where
  cls : ∀ c, c < 6 → ∃ C, ClsK K mg c C
  sub : ∀ c d C D, c < 6 → d < 6 → clsA K c = some C → clsA K d = some D → PySem.W.subIn K (.ref C) (.ref D) = some (subX c d)
  ve : mg "ValueError" = none
section
variable {K : PySem.W.Frag} {mg : Str → Option Value}
theorem subX_self (c : Nat) : subX c c = true := by unfold subX; simp
theorem XK.kit (x : XK K mg) {c d : Nat} {C D : Addr} (hc : c < 6) (hd : d < 6) (eC : clsA K c = some C) (eD : clsA K d = some D) : PySem.W.kitOne K (.ref C) (.ref D) = some (subX c d) := by
  have h := x.sub c d C D hc hd eC eD
  unfold PySem.W.kitOne
  by_cases e : (Value.ref C == Value.ref D) = true
  · rw [if_pos e]
    have e' : C = D := Value.ref.inj (beq_iff_eq.mp e)
    subst e'
    have h2 := x.sub c c C C hc hc eC eC
    rw [h, subX_self] at h2
    exact h2.symm
  · rw [if_neg e]
    obtain ⟨D', k⟩ := x.cls d hd
    have e2 := k.at_
    rw [eD] at e2; cases e2
    obtain ⟨cd, hcd, _⟩ := PySem.W.any_some k.ec.hd
    show (if ((PySem.W.clsIn K D).isSome && PySem.W.typeIn K (.ref D) == some (.type "type")) = true then PySem.W.subIn K (.ref C) (.ref D) else none) = _
    have z : ((PySem.W.clsIn K D).isSome && PySem.W.typeIn K (.ref D) == some (.type "type")) = true := by rw [hcd, k.ty]; rfl
    rw [if_pos z]
    exact h
theorem XK.kitV (x : XK K mg) {c : Nat} {C : Addr} (hc : c < 6) (eC : clsA K c = some C) : PySem.W.kitOne K (.ref C) (.type "ValueError") = some true := by
  obtain ⟨C', k⟩ := x.cls c hc
  have e2 := k.at_
  rw [eC] at e2; cases e2
  unfold PySem.W.kitOne
  rw [if_neg (fun z => by cases beq_iff_eq.mp z)]
  show (if PySem.W.kitMeta "ValueError" = true then PySem.W.subIn K (.ref C) (.type "ValueError") else none) = _
  rw [if_pos (by decide +kernel), k.val]
theorem XK.exm (x : XK K mg) {c : Nat} {C D : Addr} (hc : c < 6) (eC : clsA K c = some C) (eD : clsA K 0 = some D) : PySem.W.exmOne K (.ref C) (.ref D) = some true := by
  obtain ⟨D', k⟩ := x.cls 0 (by omega)
  have e2 := k.at_
  rw [eD] at e2; cases e2
  have h := x.sub c 0 C D hc (by omega) eC eD
  exact PySem.W.exm_ref k.ec.hs k.ec.hd k.ty (by rw [h]; simp [subX])
end

/-! ### isinstance -/
def xNameV (d : Nat) : Str := if d = 6 then "ValueError" else xName d
def rIsX (K : PySem.W.Frag) : List V → Hp → VK → Prop := fun xs H Q => ∃ (a C : Addr) (y : V) (b : Bool), xs = [.ref a, y] ∧ H a = some (ExV (.ref C) a) ∧ ExcC K C ∧
  ((∃ c, (∀ u, RelV y u → u = c) ∧ PySem.W.kitOne K (.ref C) c = some b) ∨ (∃ T ys cs, y = .ref T ∧ H T = some (.tup ys) ∧ (∀ us, Vals ys us → us = cs) ∧ PySem.W.kitAny K (.ref C) cs = some b)) ∧ Q (.bl b) H
section
variable {X : Cx}
theorem call_isX : CallR X (.builtin "isinstance") (rIsX X.K) := by
  intro pins s σ H xs us Q I r h
  obtain ⟨a, C, y, b, rfl, ha, ec, hy, q⟩ := h
  cases r with
  | cons rx rr =>
    cases rr with
    | cons rt rr =>
      rename_i uy _
      cases rr
      cases rx
      obtain ⟨⟨oe, vs, hget, hz, hv⟩, _, _⟩ := (show ObjOk X.prog X.w H s.heap a (ExV (.ref C) a) from I.hok a _ ha)
      have J : PySem.W.InstAt s.heap a oe C none := by
        obtain ⟨oc, od, oda, osl⟩ := oe
        obtain ⟨h1, h2⟩ := hz
        dsimp only at h1 h2 hv
        subst h1 h2 hv
        exact ⟨hget, rfl, rfl, trivial⟩
      have Z := PySem.W.handS_kitx_exc (x := a) (ox := oe) ec.hg ec.hk ec.hs ec.hd ec.ha ec.hn ec.ht ec.hm
      rcases hy with ⟨c, hc, e⟩ | ⟨T, ys, cs, rfl, hT, hcs, e⟩
      · obtain rfl := hc _ rt
        exact PySem.W.kia_one Z I.kIn J e (fun z => nomatch z) fun tk => ⟨.bl b, H, I.kept (t' := tk) fun _ _ z => z, rfl, q⟩
      · cases rt
        obtain ⟨its, rv, ⟨o, ho, hcl, n, hd⟩, _⟩ := I.tuple (SqT.of hT)
        obtain rfl := hcs _ rv
        obtain ⟨oc, od, oda, osl⟩ := o
        dsimp only at hcl hd
        subst hcl hd
        exact PySem.W.kia_tup Z I.kIn J ho e (fun z => nomatch z) fun tk => ⟨.bl b, H, I.kept (t' := tk) fun _ _ z => z, rfl, q⟩
variable {a y : Expr} {fa : Env' → Rs} {p pos : Pos}
theorem pe_cls (xk : XK X.K X.mg) {d : Nat} (hd : d < 7) {q : Pos} (hg : Gl X (xNameV d)) : ∃ v cv, PE X (.Name (xNameV d) q) (tC v) ∧ (∀ u, RelV v u → u = cv) ∧ ∀ c C, c < 6 → clsA X.K c = some C → PySem.W.kitOne X.K (.ref C) cv = some (subX c d) := by
  by_cases h6 : d = 6
  · subst h6
    refine ⟨.ty "ValueError", .type "ValueError", pe_bltn hg xk.ve (by decide +kernel) rfl (by decide +kernel) (by decide +kernel), fun u z => z, fun c C hc eC => ?_⟩
    rw [xk.kitV hc eC]
    simp [subX]
  · have hd6 : d < 6 := by omega
    have en : xNameV d = xName d := if_neg h6
    obtain ⟨D, k⟩ := xk.cls d hd6
    rw [en] at hg ⊢
    exact ⟨.ref D, .ref D, pe_glob hg k.mg rfl (by
      rcases (show d = 0 ∨ d = 1 ∨ d = 2 ∨ d = 3 ∨ d = 4 ∨ d = 5 by omega) with rfl | rfl | rfl | rfl | rfl | rfl <;> decide +kernel), fun u z => z, fun c C hc eC => xk.kit hc hd6 eC k.at_⟩
/-- names of classes -/
def okCls (glob : Str → Bool) : List Nat → List Expr → Bool
  | [], [] => true
  | d :: ds, e :: es => decide (d < 7) && (match e with
    | .Name x _ => decide (x = xNameV d) && glob x
    | _ => false) && okCls glob ds es
  | _, _ => false
def tVs (vs : List V) : TA := fun _ H Q => Q vs H
theorem pa_cls (xk : XK X.K X.mg) {glob : Str → Bool} (hg : ∀ x, glob x = true → Gl X x) : ∀ (ds : List Nat) (es : List Expr), okCls glob ds es = true →
    ∃ vs cs, PA X es (tVs vs) ∧ (∀ us, Vals vs us → us = cs) ∧ vs.length = ds.length ∧ (∀ env, starEach es env = es.map fun e => (false, eval e env)) ∧ ∀ c C, c < 6 → clsA X.K c = some C → PySem.W.kitAny X.K (.ref C) cs = some (ds.any fun d => subX c d)
  | [], [], _ => ⟨[], [], pa_nil.imp fun σ H Q h => h, fun us r => by cases r; rfl, rfl, fun _ => rfl, fun c C hc eC => rfl⟩
  | d :: ds, e :: es, h => by
    unfold okCls at h
    simp only [Bool.and_eq_true, decide_eq_true_eq] at h
    obtain ⟨⟨h1, h2⟩, h3⟩ := h
    split at h2
    · rename_i x q
      simp only [Bool.and_eq_true, decide_eq_true_eq] at h2
      obtain ⟨rfl, h4⟩ := h2
      obtain ⟨v, cv, pv, rv, kv⟩ := pe_cls xk h1 (q := q) (hg _ h4)
      obtain ⟨vs, cs, pvs, rvs, hl, hst, kvs⟩ := pa_cls xk hg ds es h3
      refine ⟨v :: vs, cv :: cs, (pa_cons pv pvs rfl).imp fun σ H Q z => ?_, fun us r => ?_, by simp [hl], fun env => ?_, fun c C hc eC => ?_⟩
      · exact z
      · cases r with
        | cons r rr => rw [rv _ r, rvs _ rr]
      · show (false, eval _ env) :: starEach es env = _
        rw [hst]; rfl
      · unfold PySem.W.kitAny
        rw [kv c C hc eC, List.any_cons]
        cases subX c d with
        | true => rfl
        | false =>
          show PySem.W.kitAny X.K (.ref C) cs = _
          rw [kvs c C hc eC]; rfl
    · cases h2
  | [], _ :: _, h => by cases h
  | _ :: _, [], h => by cases h
/-- isinstance(e, C), isinstance(e, (C, ..)) -/
def isxF (cs : List Nat) (fa : Env' → Rs) : Env' → Rs := fun g => do let x ← fa g; let k ← isxD cs x.2; pure (.sh, .bl k)
theorem isxD_some {cs : List Nat} {d : D} {k : Bool} (h : isxD cs d = some k) : ∃ c, d = .exc c ∧ c < 6 ∧ k = cs.any fun d => subX c d := by
  cases d <;> simp only [isxD] at h <;> try cases h
  split at h
  · cases h; exact ⟨_, rfl, by assumption, rfl⟩
  · cases h
theorem q_isx1 (xk : XK X.K X.mg) {d : Nat} {q : Pos} (hd : d < 7) (hg : Gl X "isinstance") (hm : X.mg "isinstance" = none) (hg2 : Gl X (xNameV d)) (ns : NoStar a) (ha : PE X a (tQ X.K fa)) :
    PE X (.Call (.Name "isinstance" p) [a, .Name (xNameV d) q] [] pos) (tQ X.K (isxF [d] fa)) := by
  obtain ⟨v, cv, pv, rv, kv⟩ := pe_cls xk hd (q := q) hg2
  refine (pe_callB call_isX hg hm boot_isinstance (pa_cons ha (pa_cons pv pa_nil) (ns _ _)) (by decide) (by decide) (ns _ _)).imp fun σ H Q ⟨H0, O, g, m, z, S, e, q⟩ => ?_
  simp only [isxF, Option.bind_eq_bind, Option.bind_eq_some_iff, Option.pure_def, Option.some.injEq] at e
  obtain ⟨x, ex, k, ek, eb⟩ := e
  cases eb
  obtain ⟨c, e1, hc, rfl⟩ := isxD_some ek
  refine tQ.use S ex fun w H' s r => ?_
  have r := r.rb
  rw [e1] at r
  obtain ⟨a', C, rfl, _, eC, hH⟩ := r
  obtain ⟨C', k⟩ := xk.cls c hc
  have e2 := k.at_
  rw [eC] at e2; cases e2
  refine ⟨a', C, v, _, rfl, hH, k.ec, .inl ⟨cv, rv, kv c C hc eC⟩, ?_⟩
  have ee : ([d].any fun d => subX c d) = subX c d := by simp
  rw [ee] at q
  exact q _ H' s rfl
theorem q_isxs (xk : XK X.K X.mg) {ds : List Nat} {es : List Expr} {kk : Nat} {q : Pos} {glob : Str → Bool} (hgl : ∀ x, glob x = true → Gl X x) (ho : okCls glob ds es = true) (hl : ds.length ≤ 1000) (hg : Gl X "isinstance") (hm : X.mg "isinstance" = none) (ns : NoStar a) (ha : PE X a (tQ X.K fa)) :
    PE X (.Call (.Name "isinstance" p) [a, .Tuple es kk q] [] pos) (tQ X.K (isxF ds fa)) := by
  obtain ⟨vs, cs, pvs, rvs, hlv, hst, kvs⟩ := pa_cls xk hgl ds es ho
  refine (pe_callB call_isX hg hm boot_isinstance (pa_cons ha (pa_cons (pe_tup pvs) pa_nil) (ns _ _)) (by decide) (by decide) (ns _ _)).imp fun σ H Q ⟨H0, O, g, m, z, S, e, q⟩ => ?_
  simp only [isxF, Option.bind_eq_bind, Option.bind_eq_some_iff, Option.pure_def, Option.some.injEq] at e
  obtain ⟨x, ex, k, ek, eb⟩ := e
  cases eb
  obtain ⟨c, e1, hc, rfl⟩ := isxD_some ek
  refine tQ.use S ex fun w H' s r => ?_
  have r := r.rb
  rw [e1] at r
  obtain ⟨a', C, rfl, _, eC, hH⟩ := r
  obtain ⟨C', k⟩ := xk.cls c hc
  have e2 := k.at_
  rw [eC] at e2; cases e2
  refine ⟨by rw [hlv, sizeLine_eq]; omega, fun T hT => ?_⟩
  refine ⟨a', C, .ref T, _, rfl, by rw [upd_ne (ne_of_none hH hT)]; exact hH, k.ec, .inr ⟨T, vs, cs, rfl, upd_same, rvs, kvs c C hc eC⟩, ?_⟩
  exact q _ _ (s.trans (same_new hT)) rfl
end
end Ev
/-! Ev: try: body, except C as n: y = n; the error stays what it is behind the clause. -/
namespace Ev
open PySem PySem.Spec PyProof.Rows L2
section
variable {X : Cx} {pins : List (Addr × Obj)} {σ : L2.St} {H : Hp} {s : Shared}
theorem exV_ok {P : Program} {w : World} {H : Hp} {h : Heap} {a : Addr} {cls : Value} {oe : Obj} {vs : Array Value} (e : h.get? a = some oe) (z : Zc cls none oe) (d : oe.data = .fields vs) : ObjOk P w H h a (ExV cls a) :=
  ⟨⟨oe, vs, e, z, d⟩, ⟨oe, e⟩, fun _ _ ⟨o, v, q, r⟩ k => ⟨o, v, k o q, r⟩⟩
theorem hok_track {P : Program} {w : World} {H : Hp} {h : Heap} {a : Addr} {o : HO} (x : HOk P w H h) (hn : H a = none) (new : ObjOk P w (upd H a o) h a o) : HOk P w (upd H a o) h := fun b u e => by
  by_cases hb : b = a
  · subst hb
    rw [upd_same] at e
    cases e
    exact new
  · rw [upd_ne hb] at e
    exact (x b u e).stay (fun c v _ q => q) (fun c q => by rw [upd_ne (ne_of_none q hn)]; exact q) fun c xs q => by rw [upd_ne (ne_of_none q hn)]; exact q
/-- an object that is new since the entry, not tracked: it may be -/
theorem _root_.L2.Inv.track {a : Addr} {o : HO} {oe : Obj} (I : Inv X pins σ H s) (ha : s.heap.get? a = some oe) (na : H a = none) (n0 : X.s_0.heap.get? a = none) (np : ∀ p ∈ X.pn ++ pins, p.1 ≠ a) (nL : a ≠ X.env.locals) (hd : ∀ v, oe.data ≠ .cell v)
    (new : ObjOk X.prog X.w (upd H a o) s.heap a o) : Inv X pins σ (upd H a o) s := by
  refine ⟨I.ok, I.os, I.bare, ⟨I.base.keep, I.base.slot, fun b u q n hx => ?_, I.base.there, fun b xs q => ?_, fun b u xs q => ?_, fun b ps q => ?_⟩, I.loc, I.cell, ?_, fun x c e => ?_, fun p hp => ?_, hok_track I.hok na new, I.len⟩
  · rw [upd_ne (fun z => by rw [z, n0] at q; cases q)]
    exact I.base.free b u q n hx
  · have z := I.base.tups b xs q
    rw [upd_ne (ne_of_none z na)]; exact z
  · have z := I.base.frzs b u xs q
    rw [upd_ne (ne_of_none z na)]; exact z
  · obtain ⟨m, z⟩ := I.base.tbls b ps q
    exact ⟨m, by rw [upd_ne (ne_of_none z na)]; exact z⟩
  · rw [upd_ne (Ne.symm nL)]; exact I.free
  · rw [upd_ne (fun z => ?_)]
    · exact I.freeC x c e
    · subst z
      obtain ⟨v, o', ho, hdo⟩ := I.cell x c e
      rw [ha] at ho; cases ho
      exact hd _ hdo
  · obtain ⟨e, n, ne, nf, d⟩ := I.pin p hp
    exact ⟨e, by rw [upd_ne (np p hp)]; exact n, ne, nf, d⟩
end
/-- what the clause 'except c as n: y = n' wishes: slots i (n's) and j (y's) -/
def wKeep (K : PySem.W.Frag) (c : Value) (i j : Nat) (D : Ends) : WX := fun cls d σ H => d = none ∧ PySem.W.exmOne K cls c = some true ∧ ∀ a, H a = none → D.nx (((σ.set i (some (.ref a))).set j (some (.ref a))).set i none) (upd H a (ExV cls a))
section
variable {X : Cx} {x n y : Str} {c : Value} {i j : Nat} {body : List Stmt} {np pn' py pa pos pos' : Pos} {tb : WX → TS}
theorem ps_tryK (hs : X.stack = X.env :: X.outer) (hf : X.env.frame = some X.env.locals) (hex : X.ex = []) (hN : X.N.Nodup) (hi : X.N[i]? = some n) (hln : X.env.kindOf n = some .local) (hj : X.N[j]? = some y) (hlj : Loc X.env.scope y) (hfj : X.fn y = true) (hc : Names X x c)
    (d1 : (n == ("__debug__" : Str)) = false) (d2 : (n == ("__classdict__" : Str)) = false)
    (hb : ∀ (W : WX) (pn : List (Addr × Obj)) (xe : Value → Shared → Prop), Takes (X.tr pn xe) W → PassesOwn (model X.prog X.w) X.A X.env xe → PSs (X.tr pn xe) body (tb W)) :
    PS X (.Try body [.ExceptHandler (some (.Name x np)) (some n) [.Assign [.Name y py] (.Name n pn') pa] pos'] [] [] pos) (fun D σ H => tb (wKeep X.K c i j D) D σ H) := by
  refine ⟨fun pins s σ H D I h => ?_⟩
  have ok := I.ok
  have hfr : X.A.frames = some (X.env :: X.outer) := by rw [ok.frames, hs]
  have hloc : Loc X.env.scope n := .inl hln
  refine wpAny_Try_except ?_
  refine wpAny_mono ((hb (wKeep X.K c i j D) (X.pn ++ pins) (fun e s₁ => wpAny (model X.prog X.w) X.A (noteFrame e X.env) (fun _ s₂ => wpAny (model X.prog X.w) X.A (setFlight e none) (fun _ s₃ =>
    wpAny (model X.prog X.w) X.A (handleBy e X.env [.ExceptHandler (some (.Name x np)) (some n) [.Assign [.Name y py] (.Name n pn') pa] pos']) (SP X pins D) X.xe s₃) X.xe s₂) X.xe s₁) (fun u s' xx => ?_) PassesOwn.looking).run [] s σ H D (I.toTry _) h) (fun f s1 hsp => ?_) (fun e s1 he => he)
  · obtain ⟨a, B, sI, pins', σ', H', cls, d, rfl, J', nb, up, sky, na, os, ag, ed, hb1, hyes⟩ := xx
    subst ed
    have J : Inv X pins σ' H' sI := J'.ofTry ok
    have sky' : Sky B (X.env :: X.outer) a (Zc cls none) X.env.locals s'.heap := by rw [← hs]; exact sky
    show wpAny (model X.prog X.w) X.A (noteFrame (.ref a) X.env) _ _ _
    refine Sky.land Zc.steady hfr hf sky' fun h3 fl3 up3 => ?_
    have J3 : Inv X pins σ' H' { s' with heap := h3 } := J.landed nb fl3.1 (up.trans up3) os ag
    obtain ⟨oe3, vs3, he3, hz3, hd3⟩ := fl3.there
    have notFr : ∀ {h : Heap} {o : Obj} {vs : Array Value}, h.FunFrames B (X.env :: X.outer) → h.get? a = some o → o.data = .fields vs → a ∉ frs (X.env :: X.outer) := fun {h o vs} ff e dd hm => by
      obtain ⟨_, o', e', hnf⟩ := ff.mem hm
      rw [e] at e'; cases e'
      exact hnf _ dd
    have nfr := notFr fl3.2.2.1 he3 hd3
    have nB : B.get? a = none := fl3.2.1
    have nL : a ≠ X.env.locals := fun z => nfr (List.mem_filterMap.mpr ⟨X.env, List.mem_cons_self, by rw [hf, z]⟩)
    have nF : a ∉ X.fs := fun hm => by
      obtain ⟨e, he, q⟩ := List.mem_filterMap.mp hm
      exact nfr (List.mem_filterMap.mpr ⟨e, List.mem_cons_of_mem _ he, q⟩)
    have nI : sI.heap.get? a = none := by
      cases q : sI.heap.get? a with
      | none => rfl
      | some o =>
        have z := nb a o q (by rw [hs]; exact nfr)
        rw [nB] at z; cases z
    have n0 : X.s_0.heap.get? a = none := by
      cases q : X.s_0.heap.get? a with
      | none => rfl
      | some o =>
        obtain ⟨o', z⟩ := J.base.there a o q (by rw [hex]; exact fun z => nomatch z)
        rw [nI] at z; cases z
    have npn : ∀ p ∈ X.pn ++ pins, p.1 ≠ a := fun p hp z => by
      obtain ⟨e, _⟩ := J.pin p hp
      rw [z, nI] at e; cases e
    have S3 := J3.suite he3 hd3 na nL nF
    refine wpAny_handleBy_cons (codeAny_handlers_test ?_) (by intro q; cases q)
    have LT : PySem.W.Looks (model X.prog X.w) h3 (typeOf (.ref a)) cls := fun A Q E s k q => wpAny_typeOf_ref (k _ _ he3) (by rw [hz3.1]; exact q)
    have LM := PySem.W.exm_one (M := model X.prog X.w) (J3.kIn) LT hb1
    have test : ∀ {Q : Value → Shared → Prop} {E : Value → Shared → Prop}, Q c { s' with heap := h3 } → wpAny (model X.prog X.w) (X.A.mark (some (.ref a))) (eval (.Name x np) X.env) Q E { s' with heap := h3 } := fun {Q E} q => by
      obtain ⟨hg, hdbg, hm | ⟨hm, hv, hnn⟩⟩ := hc
      · exact ld_glob (X := X.suite a ((a, oe3) :: (X.pn ++ pins))) S3 hg hm q hdbg
      · exact ld_blt (X := X.suite a ((a, oe3) :: (X.pn ++ pins))) S3 hg hm hv q hnn hdbg
    refine test (LM.here ?_)
    refine codeAny_handlers_suite_as ?_
    refine HandSPX.lands_againZ fl3 fun h4 fl4 up4 => ?_
    have J4 : Inv X pins σ' H' { s' with heap := h4 } := J.landed nb fl4.1 ((up.trans up3).trans up4) os ag
    obtain ⟨oe4, vs4, he4, hz4, hd4⟩ := fl4.there
    have S4 := J4.suite he4 hd4 na nL nF
    refine store_ok (X := X.suite a ((a, oe4) :: (X.pn ++ pins))) (v := .ref a) S4 hN hi hloc rfl (fun s5 S5 => ?_) (.inr hln)
    have hiσ : i < σ'.length := by rw [J.len]; exact (List.getElem?_eq_some_iff.mp hi).1
    have su : PSs (X.suite a ((a, oe4) :: (X.pn ++ pins))) [.Assign [.Name y py] (.Name n pn') pa] (tAsg (tVar i) (gName j)) :=
      pss_one (ps_set (X := X.suite a ((a, oe4) :: (X.pn ++ pins))) hN hj hlj (pe_var hi (.inl hln) d1 d2) (by rfl) (.inl hfj))
    refine wpAny_mono (su.run [] s5 _ H' { nx := fun σ6 H6 => σ6 = (σ'.set i (some (.ref a))).set j (some (.ref a)) ∧ H6 = H', rt := fun _ _ => False, bk := fun _ _ => False, ct := fun _ _ => False } S5 ⟨.ref a, by rw [List.getElem?_set_self hiσ], rfl, rfl⟩) (fun f s6 hsp => ?_) (fun _ _ z => False.elim z)
    cases f with
    | next =>
      obtain ⟨σ6, H6, S6, e6, e7⟩ := hsp
      subst e6 e7
      refine gone_ok (X := X.suite a ((a, oe4) :: (X.pn ++ pins))) S6 hN hi hln fun s7 S7 => ?_
      obtain ⟨he7, _⟩ := S7.pin (a, oe4) (List.mem_append.mpr (.inl List.mem_cons_self))
      have J7 := S7.unsuite ok
      exact ⟨_, _, J7.track (o := ExV cls a) he7 na n0 npn nL (fun v z => by rw [hd4] at z; cases z) (exV_ok he7 hz4 hd4), hyes a na⟩
    | brk =>
      obtain ⟨_, _, _, z⟩ := hsp
      exact z.elim
    | cont =>
      obtain ⟨_, _, _, z⟩ := hsp
      exact z.elim
    | ret u =>
      obtain ⟨_, _, _, _, _, z⟩ := hsp
      exact z.elim
  · cases f with
    | next =>
      obtain ⟨σ', H', J', q⟩ := hsp
      exact wpAny_execs_nil ⟨σ', H', J'.ofTry ok, q⟩
    | brk =>
      obtain ⟨σ', H', J', q⟩ := hsp
      exact ⟨σ', H', J'.ofTry ok, q⟩
    | cont =>
      obtain ⟨σ', H', J', q⟩ := hsp
      exact ⟨σ', H', J'.ofTry ok, q⟩
    | ret u =>
      obtain ⟨v, σ', H', J', r, q⟩ := hsp
      exact ⟨v, σ', H', J'.ofTry ok, r, q⟩
end
end Ev
/-! Ev: statements that may let an error out. -/
namespace Ev
open PySem PySem.Spec PyProof.Rows L2
/-- a def's promise, its errors too -/
def spU (K : PySem.W.Frag) (ct : Ct) (f : Nat) : Sp := fun vs H Q E => ∃ O ds, (∀ a, O a → Held H a) ∧ Rps K O H ds vs ∧
  ((∃ m d, noEx (ct f ds) = some (m, d) ∧ ∀ v H', Same H H' → Rm K O H H' m d v → Q v H') ∨ (∃ c, ct f ds = some (.ex, .exc c) ∧ ∀ C H', Same H H' → clsA K c = some C → E (.ref C) none H'))
theorem FnOk.quiet {P : Program} {w : World} {K : PySem.W.Frag} {mg : Str → Option Value} {base : Heap} {k : Nat} {f : Addr} {fd : FuncData} {ps : List Str} {sp sp' : Sp} (F : FnOk P w K mg base (L2.CX P w) k f fd ps sp)
    (h : ∀ vs H Q E, sp' vs H Q E → sp vs H Q (fun _ _ _ => False)) : FnOk P w K mg base CX0 k f fd ps sp' :=
  ⟨fun vs H Q E q => F.len vs H Q _ (h _ _ _ _ q), fun A outer s H args us vs Q E hr he hb hv hs => codeAny_mono (F.run A outer s H args us vs Q (fun _ _ _ => False) hr he hb hv (h _ _ _ _ hs)) fun r s' hr' => by
    cases r with
    | error e =>
      obtain ⟨_, _, _, _, _, _, _, _, _, _, _, _, z⟩ := hr'
      exact z.elim
    | ok fl => cases fl <;> exact hr'⟩
theorem spU_quiet {P : Program} {w : World} {K : PySem.W.Frag} {mg : Str → Option Value} {base : Heap} {k : Nat} {f : Addr} {fd : FuncData} {ps : List Str} {ct : Ct} {i : Nat} (F : FnOk P w K mg base (L2.CX P w) k f fd ps (spU K ct i)) : FnOk P w K mg base CX0 k f fd ps (spF K ct i) :=
  FnOk.quiet F fun vs H Q E ⟨O, ds, m, d, h1, h2, h3, h4⟩ => ⟨O, ds, h1, h2, .inl ⟨m, d, h3, h4⟩⟩
section
variable {X : Cx} {W : WX} {st : Stmt} {fs : Env' → Option (List D)} {ct : Ct} {f i : Nat}
theorem q_callU {k : Nat} {fa : Addr} {fd : FuncData} {ps : List Str} {x : Str} {p pos : Pos} {e : Expr} {es : List Expr} (tk : Takes X W) (F : FnOk X.prog X.w X.K X.mg X.base (L2.CX X.prog X.w) k fa fd ps (spU X.K ct f)) (hr : Room k X.A) (hg : Gl X x) (hm : X.mg x = some (.ref fa)) (hk : PySem.W.keepIn X.K (.ref fa) = true) (hb : Binds X.K fd ps [])
    (hdb : (x == ("__debug__" : Str)) = false) (ns : NoStar e) (hpl : (backTo pos (starEach es X.env)).any (·.1) = false) (ha : PA X (e :: es) (tQA X.K fs)) :
    PE X (.Call (.Name x p) (e :: es) [] pos) (tCallS (spU X.K ct f) (WE W) (tQA X.K fs)) :=
  pe_callS F hr hg hm hk hb (fun σ => passAt tk σ) ha hdb (ns _ _) hpl
theorem exOf_some {r : Rs} {c : Nat} (h : exOf r = some c) : r = some (.ex, .exc c) := by
  unfold exOf at h
  split at h
  · cases h; rfl
  · cases h
def setXF (own : Bool) (i : Nat) (ct : Ct) (f : Nat) (fs : Env' → Option (List D)) : Env' → Option Out := fun g => do
  let ds ← fs g
  match exOf (ct f ds) with
  | some c => some (.ex c g)
  | none => do let r ← noEx (ct f ds); let s ← slOf own r; let g' ← setSl i s g; pure (.nx g')
theorem SI.setV {K : PySem.W.Frag} {H0 H H' : Hp} {Oc O : AS} {g g' : Env'} {σ : L2.St} {own : Bool} {m : M} {d : D} {sl : Sl} {i : Nat} {v : V} (S : SI K H0 Oc O H g σ) (s : Same H H') (r : Rm K O H H' m d v) (es : slOf own (m, d) = some sl) (eg : setSl i sl g = some g') :
    ∃ O', SI K H0 Oc O' H' g' (σ.set i (some v)) ∧ Nxt O H O' H' := by
  cases m with
  | sh =>
    cases es
    exact ⟨O, (S.same' s).setSh r eg, .same s⟩
  | bo => cases es
  | ex => cases es
  | fr =>
    cases d with
    | lst ds =>
      obtain ⟨p, vs, rfl, hp, hp', rs⟩ := r
      simp only [slOf] at es
      split at es
      · cases es
        exact ⟨_, S.setOw s hp hp' rs eg, fun b o _ h => s b o h, fun a z => z.imp id fun e => by rw [e]; exact hp⟩
      · cases es
        exact ⟨O, (S.same' s).setSh (d := .lst ds) ⟨p, vs, rfl, not_new S.sr.trk hp, hp', rs.less fun b z => .inl z⟩ eg, .same s⟩
    | _ => cases es
theorem s_setX {own : Bool} (h : PS X st (tAsg (tCallS (spU X.K ct f) (WE W) (tQA X.K fs)) (gName i))) : PS X st (tS X.K W (setXF own i ct f fs)) := by
  refine h.imp fun D' σ H ⟨H0, Oc, O, g, out, S, e, q⟩ => ?_
  simp only [setXF, Option.bind_eq_bind, Option.bind_eq_some_iff] at e
  obtain ⟨ds, e1, e2⟩ := e
  refine ⟨H0, O, g, ds, S.sr, e1, fun vs H' s r => ⟨O, ds, trk_same S.sr.trk s, r, ?_⟩⟩
  split at e2
  · rename_i c hc
    cases e2
    exact .inr ⟨c, exOf_some hc, fun C H2 s2 eC => q σ H2 O C (S.same' (s.trans s2)) (.same (s.trans s2)) eC⟩
  · simp only [Option.bind_eq_some_iff, Option.pure_def, Option.some.injEq] at e2
    obtain ⟨⟨m, d⟩, e3, sl, e4, g', e5, rfl⟩ := e2
    refine .inl ⟨m, d, e3, fun v H2 s2 r2 => ?_⟩
    obtain ⟨O', S', n'⟩ := (S.same' s).setV s2 r2 e4 e5
    exact q _ _ O' S' ((Nxt.same s).trans n')
def retXF (ct : Ct) (f : Nat) (fs : Env' → Option (List D)) : Env' → Option Out := fun g => do
  let ds ← fs g
  match exOf (ct f ds) with
  | some c => some (.ex c g)
  | none => do let r ← noEx (ct f ds); let _ ← storable r; pure (.rt r.1 r.2)
theorem s_retX (h : PS X st (tRet (tCallS (spU X.K ct f) (WE W) (tQA X.K fs)))) : PS X st (tS X.K W (retXF ct f fs)) := by
  refine h.imp fun D' σ H ⟨H0, Oc, O, g, out, S, e, q⟩ => ?_
  simp only [retXF, Option.bind_eq_bind, Option.bind_eq_some_iff] at e
  obtain ⟨ds, e1, e2⟩ := e
  refine ⟨H0, O, g, ds, S.sr, e1, fun vs H' s r => ⟨O, ds, trk_same S.sr.trk s, r, ?_⟩⟩
  split at e2
  · rename_i c hc
    cases e2
    exact .inr ⟨c, exOf_some hc, fun C H2 s2 eC => q σ H2 O C (S.same' (s.trans s2)) (.same (s.trans s2)) eC⟩
  · simp only [Option.bind_eq_some_iff, Option.pure_def, Option.some.injEq] at e2
    obtain ⟨⟨m, d⟩, e3, x, e4, rfl⟩ := e2
    refine .inl ⟨m, d, e3, fun v H2 s2 r2 => ?_⟩
    exact q v H2 ((S.same.trans s).trans s2) (r2.outer (S.same.trans s) S.out)
def expXF (ct : Ct) (f : Nat) (fs : Env' → Option (List D)) : Env' → Option Out := fun g => do
  let ds ← fs g
  match exOf (ct f ds) with
  | some c => some (.ex c g)
  | none => do let _ ← noEx (ct f ds); pure (.nx g)
theorem s_expX (h : PS X st (tDrop (tCallS (spU X.K ct f) (WE W) (tQA X.K fs)))) : PS X st (tS X.K W (expXF ct f fs)) := by
  refine h.imp fun D' σ H ⟨H0, Oc, O, g, out, S, e, q⟩ => ?_
  simp only [expXF, Option.bind_eq_bind, Option.bind_eq_some_iff] at e
  obtain ⟨ds, e1, e2⟩ := e
  refine ⟨H0, O, g, ds, S.sr, e1, fun vs H' s r => ⟨O, ds, trk_same S.sr.trk s, r, ?_⟩⟩
  split at e2
  · rename_i c hc
    cases e2
    exact .inr ⟨c, exOf_some hc, fun C H2 s2 eC => q σ H2 O C (S.same' (s.trans s2)) (.same (s.trans s2)) eC⟩
  · simp only [Option.bind_eq_some_iff, Option.pure_def, Option.some.injEq] at e2
    obtain ⟨⟨m, d⟩, e3, rfl⟩ := e2
    exact .inl ⟨m, d, e3, fun v H2 s2 r2 => q σ H2 O (S.same' (s.trans s2)) (.same (s.trans s2))⟩
/-! ### raise -/
theorem s_rse {c : Nat} {m : Str} {j : Nat} {p p2 p3 pos : Pos} (hc : X.calm = true) (tk : Takes X W) (xk : XK X.K X.mg) (h6 : c < 6) (hg : Gl X (xName c)) :
    PS X (.Raise (some (.Call (.Name (xName c) p) [.Constant (.str m) j p2] [] p3)) none pos) (tS X.K W fun g => some (.ex c g)) := by
  obtain ⟨C, k⟩ := xk.cls c h6
  refine (ps_raise hc tk (pmk_own PySem.F.excBase_ValueError k.ex k.mg k.keep (raises_own k.ec.hs k.ty) hg (by
    rcases (show c = 0 ∨ c = 1 ∨ c = 2 ∨ c = 3 ∨ c = 4 ∨ c = 5 by omega) with rfl | rfl | rfl | rfl | rfl | rfl <;> decide +kernel))).imp fun D' σ H ⟨H0, Oc, O, g, out, S, e, q⟩ => ?_
  cases e
  exact q σ H O C S (Nxt.refl O H) k.at_
/-! ### try -/
def tryF (i j : Nat) (f : Env' → Option Out) : Env' → Option Out := fun g => do
  let o ← f g
  match o with
  | .nx g' => some (.nx g')
  | .rt m d => some (.rt m d)
  | .ex c g' => if c < 6 then do let g1 ← setSl j (.sh (.exc c)) g'; let g2 ← setSl i .no g1; pure (.nx g2) else none
theorem set3 {α : Type} (l : List α) (i j : Nat) (x y z : α) : ((l.set i x).set j y).set i z = (l.set j y).set i z := by
  by_cases h : i = j
  · subst h; simp
  · rw [List.set_comm _ _ (Ne.symm h), List.set_set]
    by_cases hh : i = j
    · exact absurd hh h
    · first
        | rfl
        | rw [List.set_comm _ _ hh]
theorem s_tryK {f : Env' → Option Out} {j : Nat} {n y : Str} {body : List Stmt} {np pn' py pa pos pos' : Pos} (xk : XK X.K X.mg) (hs : X.stack = X.env :: X.outer) (hf : X.env.frame = some X.env.locals) (hex : X.ex = []) (hN : X.N.Nodup) (hi : X.N[i]? = some n) (hln : X.env.kindOf n = some .local) (hj : X.N[j]? = some y) (hlj : Loc X.env.scope y) (hfj : X.fn y = true) (hg : Gl X "SpotError")
    (d1 : (n == ("__debug__" : Str)) = false) (d2 : (n == ("__classdict__" : Str)) = false)
    (hb : ∀ (W : WX) (pn : List (Addr × Obj)) (xe : Value → Shared → Prop), Takes (X.tr pn xe) W → PassesOwn (model X.prog X.w) X.A X.env xe → PSs (X.tr pn xe) body (tS X.K W f)) :
    PS X (.Try body [.ExceptHandler (some (.Name "SpotError" np)) (some n) [.Assign [.Name y py] (.Name n pn') pa] pos'] [] [] pos) (tS X.K W (tryF i j f)) := by
  obtain ⟨C0, k0⟩ := xk.cls 0 (by omega)
  refine (ps_tryK (c := .ref C0) (tb := fun W => tS X.K W f) hs hf hex hN hi hln hj hlj hfj ⟨hg, by decide +kernel, .inl k0.mg⟩ d1 d2 hb).imp fun D' σ H ⟨H0, Oc, O, g, out, S, e, q⟩ => ?_
  simp only [tryF, Option.bind_eq_bind, Option.bind_eq_some_iff] at e
  obtain ⟨o, e1, e2⟩ := e
  refine ⟨H0, Oc, O, g, o, S, e1, ?_⟩
  cases o with
  | nx g' => cases e2; exact q
  | rt m d => cases e2; exact q
  | ex c g' =>
    simp only at e2
    split at e2
    · rename_i h6
      simp only [Option.bind_eq_some_iff, Option.pure_def, Option.some.injEq] at e2
      obtain ⟨g1, e3, g2, e4, rfl⟩ := e2
      intro σ' H' O' C S' n' eC
      refine ⟨rfl, xk.exm h6 eC k0.at_, fun a na => ?_⟩
      have su : Same H' (upd H' a (ExV (.ref C) a)) := same_new na
      have S1 := (S'.same' su).setSh (d := .exc c) (v := .ref a) ⟨a, C, rfl, not_new S'.sr.trk na, eC, upd_same⟩ e3
      obtain ⟨_, rfl⟩ := setSl_some e4
      have S2 : SI X.K H0 Oc O' (upd H' a (ExV (.ref C) a)) (g1.set i .no) ((σ'.set j (some (.ref a))).set i none) := ⟨S1.sr.setNo i, S1.same, S1.out, S1.otrk⟩
      rw [set3]
      exact q _ _ O' S2 (n'.trans (.same su))
    · cases e2
end
end Ev
/-! Ev: sets of up to 64 tuples (the library's rules end at 63): the 64th goes into the table of 128 as it is. -/
namespace Ev
open PySem PySem.Spec PyProof.Rows L2
section
variable {P : Program} {w : World} {A : Around} {E : Value → Shared → Prop} {s : Shared}
/-- SetTR, one row more -/
structure SetW (P : Program) (w : World) (h : Heap) (a : Addr) (L : List (Addr × List Int)) (es : Array (Int × Value)) (ep : Nat) (t : SetTable) : Prop where
  ob : ∃ o, h.get? a = some o ∧ o.ExactSet ∧ o.data = .set es ep t
  rows : es.toList = rowsOf P w L
  tab : TabOk t (L.map fun p => thash P w p.2)
  nd : (L.map (·.2)).Nodup
  tup : ∀ p ∈ L, IsT P w h p.2 p.1
  plain : t.plain = true
  led : w.params.followText "set-order" = true ∨ t.led = true
  room : L.length * 5 < t.mask * 3
  few : L.length < 65
variable {a : Addr} {L : List (Addr × List Int)} {es : Array (Int × Value)} {ep : Nat} {t : SetTable}
theorem SetW.of (R : SetTR P w s.heap a L es ep t) : SetW P w s.heap a L es ep t := ⟨R.ob, R.rows, R.tab, R.nd, R.tup, R.plain, R.led, R.room, Nat.lt_trans R.few (by decide)⟩
theorem SetW.small {h : Heap} (R : SetW P w h a L es ep t) (k : L.length < 64) : SetTR P w h a L es ep t := ⟨R.ob, R.rows, R.tab, R.nd, R.tup, R.plain, R.led, R.room, k⟩
theorem SetW.size {h : Heap} (R : SetW P w h a L es ep t) : es.size = L.length := by
  have := congrArg List.length R.rows
  unfold rowsOf at this
  rwa [Array.length_toList, List.length_map] at this
theorem SetW.fits {h : Heap} (R : SetW P w h a L es ep t) : t.fits es.size = true := by
  have h1 := R.tab.sz
  rw [List.length_map] at h1
  have h2 := R.size
  have h3 := R.room
  unfold SetTable.fits SetTable.fill
  rw [R.tab.dm, Bool.and_eq_true, beq_iff_eq, decide_eq_true_eq]
  show t.place.size = es.size ∧ t.place.size + 0 ≤ t.mask
  omega
theorem SetW.keep {h h' : Heap} (R : SetW P w h a L es ep t) (ha : ∀ o, h.get? a = some o → h'.get? a = some o) (ht : ∀ p ∈ L, IsT P w h' p.2 p.1) : SetW P w h' a L es ep t := by
  obtain ⟨o, ho, r⟩ := R.ob
  exact ⟨⟨o, ha o ho, r⟩, R.rows, R.tab, R.nd, ht, R.plain, R.led, R.room, R.few⟩
/-- the last one: no new table -/
theorem add_last (R : SetTR P w s.heap a L es ep t) (h63 : L.length = 63) {x : Addr} {k : List Int} (hx : IsT P w s.heap k x) (hu : A.units < cLine) {Q : Bool → Shared → Prop}
    (hQ : ∀ b h' L' es' ep' t', Heap.SameBut a s.heap h' → SetW P w h' a L' es' ep' t' → (k ∈ L.map (·.2) → L' = L) → (k ∉ L.map (·.2) → L'.Perm ((x, k) :: L)) → Q b { s with heap := h' }) :
    wpAny (model P w) A (setAddHashed a (.ref x) (thash P w k)) Q E s := by
  obtain ⟨o, ho, hex, hd⟩ := R.ob
  have hsl := R.size
  have hroom := R.room
  have mk : t.mask = 127 := by
    rcases R.tab.mok with e | e | e
    · rw [e] at hroom; omega
    · rw [e] at hroom; omega
    · exact e
  unfold setAddHashed
  refine wpAny_holding ?_
  rw [show (100000 : Nat) = 99999 + 1 from rfl, setAddHashedIn_succ]
  refine wpAny_bind (wpAny_setState_of ho hd R.fits ?_)
  dsimp only
  refine wp_if_neg (by simp [byScan, Value.scannable]) ?_
  try refine wpAny_bind (wpAny_pure ?_)
  refine wpAny_bind (search_at R hx hu (fun hm => ?_) fun K hm hK hb => ?_)
  · dsimp only
    exact wpAny_pure (hQ false s.heap L es ep t (Heap.SameBut.refl a s.heap) (.of R) (fun _ => rfl) fun z => absurd hm z)
  · dsimp only
    refine wpAny_bind (wpAny_setState_of ho hd R.fits ?_)
    dsimp only
    obtain ⟨q1, q2, q3, q4, q5, q6, q7, q8, q9⟩ := R.tab.put hK hb
    have hp1 : (t.put (way t.mask (thash P w k) K)).1.plain = true := by rw [q6]; exact R.plain
    generalize hpt : t.put (way t.mask (thash P w k) K) = pt at q1 q3 q4 q5 q6 q7 q8 q9 hp1 ⊢
    obtain ⟨t1, p⟩ := pt
    dsimp only at q1 q3 q4 q5 q6 q7 q8 q9 hp1 ⊢
    subst q1
    first
      | (refine wpAny_bind ?_; refine wp_if_pos hp1 ?_; refine hashBy_tup hx ?_)
      | refine wp_if_pos hp1 (wpAny_bind (hashBy_tup hx ?_))
    simp only [if_true]
    have hin : (SetTable.insertAt es (SetTable.below t.place (way t.mask (thash P w k) K)) (thash P w k, Value.ref x)).toList = rowsOf P w (L.take (SetTable.below t.place (way t.mask (thash P w k) K)) ++ (x, k) :: L.drop (SetTable.below t.place (way t.mask (thash P w k) K))) := by
      rw [SetTable.toList_insertAt, rows_put, R.rows]
    generalize hpp : SetTable.below t.place (way t.mask (thash P w k) K) = p at q2 q3 hin ⊢
    have pm := put_perm L p (x, k)
    have hlen : (L.take p ++ (x, k) :: L.drop p).length = L.length + 1 := pm.length_eq
    have hhs : (L.take p ++ (x, k) :: L.drop p).map (fun p => thash P w p.2) = (L.map fun p => thash P w p.2).take p ++ thash P w k :: (L.map fun p => thash P w p.2).drop p := by
      rw [List.map_append, List.map_cons, List.map_take, List.map_drop]
    rw [← hhs] at q3
    have nd1 : ((L.take p ++ (x, k) :: L.drop p).map (·.2)).Nodup := by
      refine (pm.map (·.2)).nodup_iff.mpr ?_
      rw [List.map_cons]
      exact List.nodup_cons.mpr ⟨hm, R.nd⟩
    have hes : (SetTable.insertAt es p (thash P w k, Value.ref x)).size = L.length + 1 := by
      have h := congrArg List.length hin
      unfold rowsOf at h
      rwa [Array.length_toList, List.length_map, hlen] at h
    generalize SetTable.insertAt es p (thash P w k, Value.ref x) = es1 at hin hes ⊢
    generalize L.take p ++ (x, k) :: L.drop p = L1 at pm hlen q3 nd1 hin
    refine wpAny_bind (wpAny_storeSet_of ho hd ?_ (by rw [hes, sizeLine_eq]; omega))
    have sb : Heap.SameBut a s.heap (s.heap.update a (Obj.putSet es1 t1)) := Heap.SameBut.update ..
    have ho1 := store_at (es' := es1) (t' := t1) ho hd
    generalize s.heap.update a (Obj.putSet es1 t1) = h1 at sb ho1 ⊢
    have tup1 : ∀ p ∈ L1, IsT P w h1 p.2 p.1 := fun p hp => by
      rcases List.mem_cons.mp (pm.mem_iff.mp hp) with e | hp
      · rw [e]; exact isT_same hx ho hd sb
      · exact isT_same (R.tup p hp) ho hd sb
    have ld1 : w.params.followText "set-order" = true ∨ t1.led = true := by rw [q5]; exact R.led
    have hf : ¬ t1.tooFull = true := by
      unfold SetTable.tooFull
      rw [decide_eq_true_eq, q9, List.length_map, q4, mk]
      omega
    first
      | refine wp_if_neg (by simp [hf]) ?_
      | (refine wpAny_bind ?_; refine wp_if_neg (by simp [hf]) ?_; refine wpAny_pure ?_)
    exact wpAny_pure (hQ true h1 L1 es1 (ep + 1) t1 sb ⟨⟨_, ho1, ⟨hex.1, hex.2.1, hex.2.2⟩, rfl⟩, hin, q3, nd1, tup1, hp1, ld1, by rw [hlen, q4, mk]; omega, by rw [hlen]; omega⟩ (fun z => absurd z hm) fun _ => pm)
theorem add_w (R : SetW P w s.heap a L es ep t) {x : Addr} {k : List Int} (hx : IsT P w s.heap k x) (hu : A.units < cLine) (hfew : L.length + 1 < 65) {Q : Bool → Shared → Prop}
    (hQ : ∀ b h' L' es' ep' t', Heap.SameBut a s.heap h' → SetW P w h' a L' es' ep' t' → (k ∈ L.map (·.2) → L' = L) → (k ∉ L.map (·.2) → L'.Perm ((x, k) :: L)) → Q b { s with heap := h' }) :
    wpAny (model P w) A (setAddHashed a (.ref x) (thash P w k)) Q E s := by
  have R' := R.small (by omega)
  by_cases h : L.length + 1 < 64
  · exact add_at R' hx hu h fun b h' L' es' ep' t' sb R2 => hQ b h' L' es' ep' t' sb (SetW.of (s := { s with heap := h' }) R2)
  · exact add_last R' (by omega) hx hu hQ
/-- set.update's turns -/
theorem update_w {I : Addr} {fp wr : List Addr} {G : Array GenState → Array GenState → Prop} {n : Nat} {Pv : Nat → Value → Prop} {St : Nat → Shared → Prop} {R : Result → Shared → Prop}
    (W : WalksS P w A.in1 I fp wr G n Pv St) (S : Addr) (hSf : S ∉ fp) (ks : List (Addr × List Int)) (hn : n = ks.length) (hfew : ks.length < 65) (hval : ∀ i v, Pv i v → ∃ p, ks[i]? = some p ∧ v = .ref p.1)
    (h0 : Heap) (hk : ∀ p ∈ ks, IsT P w h0 p.2 p.1) (hS0 : h0.get? S = none) (hw0 : ∀ b ∈ wr, h0.get? b = none) (hu : A.in1.units < cLine) :
    ∀ (k i : Nat) (s : Shared), n - i = k → i ≤ n → St i s → (∀ b o, h0.get? b = some o → s.heap.get? b = some o) → (∃ L es ep t, SetW P w s.heap S L es ep t ∧ Got ks i L) →
      (∀ s' L es ep t, Moved (S :: wr) G s s' → SetW P w s'.heap S L es ep t → Got ks n L → (∀ b o, h0.get? b = some o → s'.heap.get? b = some o) → R (.ok (.ret .none)) s') →
      codeAny (model P w) A (.builtin "set.update.loop" ⟨[.ref S, .ref I], []⟩) R s := by
  have hSw : S ∉ wr := fun h => hSf (W.sub _ h)
  have hsub : ∀ b ∈ wr, b ∈ S :: wr := fun b hb => List.mem_cons_of_mem _ hb
  have keepM : ∀ {s s' : Shared}, Moved wr G s s' → (∀ b o, h0.get? b = some o → s.heap.get? b = some o) → ∀ b o, h0.get? b = some o → s'.heap.get? b = some o := fun hm hkp b o e =>
    hm.heap b o (fun hb => by rw [hw0 b hb] at e; cases e) (hkp b o e)
  intro k
  induction k with
  | zero =>
    intro i s hk' hi hst hkp ⟨L, es, ep, t, hS, g⟩ hR
    obtain rfl : i = n := by omega
    refine codeAny_builtin F.entry_set_update_loop ?_
    rw [Around.under_plainId F.plain_set_update_loop _]
    show wpAny _ A.in1 (pyNext (.ref I) >>= _) _ _ s
    refine wpAny_bind (W.done s _ _ hst fun s' hm => ?_)
    show wpAny _ A.in1 (ret Value.none) _ _ s'
    have hkp' := keepM hm hkp
    exact wpAny_pure (hR s' L es ep t (hm.mono hsub) (hS.keep (fun o e => hm.heap S o hSw e) fun p hp => isT_keep (hk p (List.mem_of_mem_take (g.sub p hp))) hkp') g hkp')
  | succ k ih =>
    intro i s hk' hi hst hkp ⟨L, es, ep, t, hS, g⟩ hR
    have hlt : i < n := by omega
    refine codeAny_builtin F.entry_set_update_loop ?_
    rw [Around.under_plainId F.plain_set_update_loop _]
    show wpAny _ A.in1 (pyNext (.ref I) >>= _) _ _ s
    refine wpAny_bind (W.item i s _ _ hlt hst fun v s' hP hst' hm => ?_)
    obtain ⟨p, hp, rfl⟩ := hval i v hP
    have hkp' := keepM hm hkp
    have hS' : SetW P w s'.heap S L es ep t := hS.keep (fun o e => hm.heap S o hSw e) fun q hq => isT_keep (hk q (List.mem_of_mem_take (g.sub q hq))) hkp'
    have hx : IsT P w s'.heap p.2 p.1 := isT_keep (hk p (List.mem_of_getElem? hp)) hkp'
    show wpAny _ A.in1 (holding [Value.ref p.1] (setAdd S (.ref p.1)) >>= _) _ _ s'
    refine wpAny_bind (wpAny_holding ?_)
    unfold setAdd
    refine wpAny_holding ?_
    refine wpAny_bind (wpAny_pyHash_tuple hu hx ?_)
    refine add_w (s := { s' with toks := s'.toks + (p.2.length + 1) }) hS' hx hu (by have := g.len; omega) fun b h' L' es' ep' t' hsb hS2 c1 c2 => ?_
    have g' : Got ks (i + 1) L' := by
      rcases Classical.em (p.2 ∈ L.map (·.2)) with c | c
      · rw [c1 c]; exact g.same hp c
      · exact g.more hp (c2 c)
    have hkp2 : ∀ b o, h0.get? b = some o → h'.get? b = some o := fun b o e => (hsb.2 b (fun z => by rw [z, hS0] at e; cases e)).trans (hkp' b o e)
    refine wpAny_pure ⟨plainId_quiet F.plain_set_update_loop _, ih (i + 1) _ (by omega) hlt (W.frame _ s' _ _ hst' (Nat.le_add_right _ _) fun b hb o e => ?_) hkp2 ⟨L', es', ep', t', hS2, g'⟩ fun s'' L2 es2 ep2 t2 hm'' hS'' g'' hkp'' => ?_⟩
    · rw [hsb.2 b (fun h : b = S => hSf (by rw [← h]; exact hb))]; exact e
    · refine hR s'' L2 es2 ep2 t2 (Moved.trans W.gtrans ((hm.mono hsub).then_heap (Nat.le_add_right _ _) fun b o hb e => ?_) hm'') hS'' g'' hkp''
      rw [hsb.2 b (fun h : b = S => hb (by rw [h]; exact List.mem_cons_self))]; exact e
/-- an empty set, as it is made -/
def setObj0 (w : World) : Obj := { cls := .type "set", dict := none, data := .set #[] 0 (.fresh 0 0 (!w.params.followText "set-order")) }
set_option maxHeartbeats 3200000 in
/-- set(xs) -/
theorem call_set_w {l : Addr} {items : Array Value} (ks : List (Addr × List Int)) {Q : Value → Shared → Prop} (hh : A.handled = none) (hl : s.heap.IsList l items) (hit : items.toList = ks.map fun p => Value.ref p.1)
    (hk : ∀ p ∈ ks, IsT P w s.heap p.2 p.1) (hfew : ks.length < 65) (hu : A.units + 3 < cLine)
    (h : ∀ (h' : Heap) (tk : Nat) L es ep t, SetW P w h' s.heap.objs.size L es ep t → Got ks ks.length L → (∀ b o, s.heap.get? b = some o → h'.get? b = some o) → Q (.ref s.heap.objs.size) { s with heap := h', toks := tk }) :
    wpAny (model P w) A (call (.type "set") [.ref l]) Q E s := by
  have hisz : items.size = ks.length := by
    have q := congrArg List.length hit
    rwa [Array.length_toList, List.length_map] at q
  obtain ⟨c, tl, hmro⟩ := F.called_set.mro
  have hmade := F.called_set.made
  have hsub := F.called_set.sub
  refine wpAny_call (codeAny_of_tree ?_)
  show wpAny _ _ (callAny (.type "set") _) _ _ _
  refine wpAny_pure ⟨Code.quiet_builtin _ (by decide +kernel), codeAny_builtin F.entry_type_call ?_⟩
  rw [Around.under_plain (weight_type_call_type "set" [.ref l] []) rfl]
  have h1 := F.called_set.notType
  have h2 := F.called_set.canCreate
  have hct := F.typeCall_set_1 (.ref l)
  repeat (any_goals (first | assumption | wp_step))
  refine codeAny_mono (code_set_led1 (.ref l) (E := E) (Q₁ := fun obj s₁ => obj = .ref s.heap.objs.size ∧ s₁ = { s with heap := s.heap.push (setObj0 w) }) ⟨rfl, rfl⟩) fun r s₁ hr => ?_
  cases r with
  | error e => exact hr
  | ok fl =>
    cases fl with
    | ret obj =>
      obtain ⟨rfl, rfl⟩ := hr
      have hS : (s.heap.push (setObj0 w)).get? s.heap.objs.size = some (setObj0 w) := Heap.get?_push_size _ rfl
      have hT : Shared.TypeIs { s with heap := s.heap.push (setObj0 w) } (.ref s.heap.objs.size) "set" := ⟨_, hS, rfl⟩
      have hli := F.called_set.init.lookup
      have hbi := F.called_set.init.bind (.ref s.heap.objs.size)
      repeat (any_goals (first | assumption | wp_step))
      refine codeAny_mono (codeAny_call_builtin (R := wants (fun r s₂ => r = .none ∧ ∃ h' tk L es ep t, s₂ = { s with heap := h', toks := tk } ∧ SetW P w h' s.heap.objs.size L es ep t ∧ Got ks ks.length L ∧
          (∀ b o, s.heap.get? b = some o → h'.get? b = some o)) E) F.called_set.init.plain F.entry_set_init (check_set_init_1 hT ?_)) fun r₂ s₂ hr₂ => ?_
      · obtain ⟨ol, hol, hcl, nl, hdl⟩ := hl
        obtain ⟨ocls, odict, odata, oslots⟩ := ol
        simp only at hcl hdl
        subst hcl; subst hdl
        have hol' : (s.heap.push (setObj0 w)).get? l = some { cls := .type "list", dict := odict, data := .seq items nl, slots := oslots } := Heap.get?_push_of_some _ hol
        have hsls := F.sub_list_set
        have hslf := F.sub_list_frozenset
        have hne : (Value.type "list" == Value.type "dict") = false := by decide
        have hl1 : (s.heap.push (setObj0 w)).IsList l items := ⟨_, hol', rfl, nl, rfl⟩
        unfold Builtin.«set.__init__» noKeywords Builtin.Frozenset.updateFrom
        generalize hPI : pyIter = PI
        wp_walk
        subst hPI
        refine wpAny_pyIter_list hl1 ?_
        refine wpAny_bind (wpAny_runValue ?_)
        have hlS : l < s.heap.objs.size := Heap.lt_size hol
        have hh3 : A.in1.in1.in1.handled = none := by simp [hh]
        have hz1 : (s.heap.push (setObj0 w)).objs.size = s.heap.objs.size + 1 := Heap.size_push ..
        have hneI : l ≠ (s.heap.push (setObj0 w)).objs.size := by
          rw [hz1]; exact Nat.ne_of_lt (Nat.lt_succ_of_lt hlS)
        have hSf : s.heap.objs.size ∉ [(s.heap.push (setObj0 w)).objs.size, l] := by
          rw [hz1]; simp only [List.mem_cons, List.mem_singleton, List.not_mem_nil, or_false, not_or]
          exact ⟨Nat.ne_of_lt (Nat.lt_succ_self _), Nat.ne_of_gt hlS⟩
        have hval : ∀ (i : Nat) (v : Value), items[i]? = some v → ∃ p, ks[i]? = some p ∧ v = .ref p.1 := fun i v hv => by
          have q : items.toList[i]? = some v := by rw [Array.getElem?_toList]; exact hv
          rw [hit, List.getElem?_map] at q
          cases hq : ks[i]? with
          | none => rw [hq] at q; cases q
          | some p =>
            rw [hq] at q
            exact ⟨p, rfl, (Option.some.inj q).symm⟩
        have none_of : ∀ b, s.heap.objs.size ≤ b → s.heap.get? b = none := fun b hb => by
          cases q : s.heap.get? b with
          | none => rfl
          | some o => exact absurd (Nat.lt_of_lt_of_le (Heap.lt_size q) hb) (Nat.lt_irrefl _)
        refine update_w ((Walks.list hh3 _ l hneI items).toS) s.heap.objs.size
          hSf ks hisz hfew hval s.heap hk (none_of _ (Nat.le_refl _)) (fun b hb => none_of b (by
            rw [List.mem_singleton.mp hb, hz1]
            exact Nat.le_succ _)) hu (items.size - 0) 0 _ (by omega) (Nat.zero_le _)
          ⟨⟨_, Heap.get?_push_size _ rfl, rfl, rfl⟩, (hl1.push _)⟩ (fun b o e => Heap.get?_push_of_some _ (Heap.get?_push_of_some _ e)) ?hS0 ?hR
        case hS0 =>
          have hget : ((s.heap.push (setObj0 w)).push { cls := .type "list_iterator", data := .fields #[.ref l, .int 0 0] }).get? s.heap.objs.size = some (setObj0 w) := Heap.get?_push_of_some _ hS
          exact ⟨[], #[], 0, _, SetW.of (s := { s with heap := (s.heap.push (setObj0 w)).push { cls := .type "list_iterator", data := .fields #[.ref l, .int 0 0] } }) (setTR_fresh hget), Got.zero ks⟩
        case hR =>
          intro s' L es ep t hm hS' g' hkp
          obtain ⟨h', g2, d', tk', os'⟩ := s'
          have eg : g2 = s.gens := hm.gens
          have ed : d' = s.drawn := hm.drawn
          have eo : os' = s.os := hm.os
          subst eg; subst ed; subst eo
          show wpAny _ _ _ _ _ _
          refine wpAny_pure ?_
          show wpAny _ _ (ret Value.none) _ _ _
          rw [hisz] at g'
          exact wpAny_pure ⟨rfl, h', tk', L, es, ep, t, rfl, hS', g', hkp⟩
      · cases r₂ with
        | error e => exact hr₂
        | ok fl₂ =>
          cases fl₂ with
          | ret r =>
            obtain ⟨rfl, h', tk, L, es, ep, t, rfl, hS', g', hk'⟩ := hr₂
            repeat (any_goals (first | assumption | wp_step))
            exact h _ _ _ _ _ _ hS' g' hk'
          | _ => exact hr₂.elim
    | _ => exact hr.elim
/-- the set at a, without the tuples themselves -/
structure SetW0 (P : Program) (w : World) (h : Heap) (a : Addr) (L : List (Addr × List Int)) : Prop where
  ex : ∃ (es : Array (Int × Value)) (ep : Nat) (t : SetTable), (∃ o, h.get? a = some o ∧ o.ExactSet ∧ o.data = .set es ep t) ∧ es.toList = rowsOf P w L ∧ TabOk t (L.map fun p => thash P w p.2) ∧ (L.map (·.2)).Nodup ∧ t.plain = true ∧
    (w.params.followText "set-order" = true ∨ t.led = true) ∧ L.length * 5 < t.mask * 3 ∧ L.length < 65
def SetWO (P : Program) (w : World) (a : Addr) (L : List (Addr × List Int)) : HO := .ext fun h => SetW0 P w h a L
theorem SetW.w0 {h : Heap} (R : SetW P w h a L es ep t) : SetW0 P w h a L := ⟨es, ep, t, R.ob, R.rows, R.tab, R.nd, R.plain, R.led, R.room, R.few⟩
theorem SetW0.full {h : Heap} (R : SetW0 P w h a L) (ht : ∀ p ∈ L, IsT P w h p.2 p.1) : ∃ es ep t, SetW P w h a L es ep t := by
  obtain ⟨es, ep, t, h1, h2, h3, h4, h5, h6, h7, h8⟩ := R.ex
  exact ⟨es, ep, t, h1, h2, h3, h4, ht, h5, h6, h7, h8⟩
theorem setWO_new {H : Hp} {h : Heap} (R : SetW0 P w h a L) : ObjOk P w H h a (SetWO P w a L) := by
  have ⟨es, ep, t, ⟨o, ho, r⟩, q⟩ := R.ex
  refine ⟨R, ⟨o, ho⟩, fun h1 h2 p k => ?_⟩
  have ⟨es', ep', t', ⟨o', ho', r'⟩, q'⟩ := SetW0.ex p
  exact ⟨es', ep', t', ⟨o', k o' ho', r'⟩, q'⟩
end
section
variable {X : Cx}
def rSetOfW (K : PySem.W.Frag) (P : Program) (w : World) : List V → Hp → VK → Prop := fun xs H Q => ∃ (l : Addr) (ks : List (Addr × List Int)), xs = [V.ref l] ∧ SqL K H l (ks.map fun p => V.ref p.1) ∧ (∀ p ∈ ks, SqT K H p.1 (p.2.map V.int)) ∧ ks.length < 65 ∧
  ∀ a L, H a = none → (∀ p ∈ L, p ∈ ks) → (∀ p ∈ ks, p.2 ∈ L.map (·.2)) → Q (.ref a) (upd H a (SetWO P w a L))
theorem cr_setOfW (hc : X.calm = true) (hu : X.A.units + 64 < cLine) : CallR X (.type "set") (rSetOfW X.K X.prog X.w) := by
  intro pins s σ H xs us Q I r h
  obtain ⟨l, ks, rfl, hl, hk, hf, q⟩ := h
  rw [Vals.ref1 r]
  obtain ⟨its, rv, pl, hz⟩ := I.list hl
  have hn : H s.heap.objs.size = none := I.hok.fresh (Nat.le_refl _)
  refine call_set_w (P := X.prog) (w := X.w) ks (I.ok.hd hc) pl.isList (by simpa using refs_of_vals rv) (fun p hp => I.isT (hk p hp)) hf (by omega) fun h' tk L es ep t R g k => ?_
  refine ⟨.ref s.heap.objs.size, upd H s.heap.objs.size (SetWO X.prog X.w s.heap.objs.size L), I.laid (t' := tk) k (Nat.le_refl _) (setWO_new R.w0), rfl, q _ L hn (fun p hp => ?_) fun p hp => ?_⟩
  · exact List.mem_of_mem_take (g.sub p hp)
  · exact g.all p (by rw [List.take_length]; exact hp)
end
end Ev
/-! Ev: sorted(set(points)). -/
namespace Ev
open PySem PySem.Spec PyProof.Rows L2
section
variable {prog : Program} {w : World} {A : Around} {E : Value → Shared → Prop} {s : Shared}
def shp : Nat → Bool := fun _ => false
theorem tupItems_ints : ∀ {vs : List Value} {ns : List Int} (i : Nat), IntsAre vs ns → tupItems shp i vs = some (lexK ns)
  | _, _, _, .nil => rfl
  | _, _, i, .cons n t h => by
    have ih := tupItems_ints (i + 1) h
    show (if shp i = true then none else (tupItems shp (i + 1) _).map (Sum.inl n :: ·)) = _
    rw [if_neg (fun z => by cases z), ih]
    rfl
theorem keyOf_tup {h : Heap} {v : Value} {ns : List Int} (t : TS.TupInts h v ns) : G.tupKeyC h shp v = some (lexK ns) := by
  obtain ⟨b, items, rfl, ⟨o, ho, hc, n, hd⟩, hi⟩ := t
  unfold G.tupKeyC
  have e1 : G.isTupObj h (.ref b) = true := by
    simp only [G.isTupObj, ho, hc]
    decide
  rw [if_pos e1]
  simp only [tupKey, ho, hd]
  exact tupItems_ints 0 hi
theorem tupOf_tup {h : Heap} {v : Value} {ns : List Int} (t : TS.TupInts h v ns) (h0 : ns ≠ []) : ∃ f, TupOf h shp v f := by
  obtain ⟨b, items, rfl, ⟨o, ho, hc, n, hd⟩, hi⟩ := t
  cases ns with
  | nil => exact absurd rfl h0
  | cons k ns =>
    obtain ⟨l⟩ := items
    cases hi with
    | cons _ tk r =>
      exact ⟨_, b, o, _, n, rfl, ho, hc, hd, rfl, fun _ => ⟨_, _, rfl⟩, fun z => by cases z⟩
theorem tupsOf_all {h : Heap} : ∀ {vs : List Value}, (∀ v ∈ vs, ∃ ns, TS.TupInts h v ns ∧ ns ≠ []) → ∃ fs, TupsOf h shp vs fs
  | [], _ => ⟨[], .nil⟩
  | v :: vs, x => by
    obtain ⟨ns, t, h0⟩ := x v (by simp)
    obtain ⟨f, hf⟩ := tupOf_tup t h0
    obtain ⟨fs, hfs⟩ := tupsOf_all (vs := vs) fun u hu => x u (by simp [hu])
    exact ⟨f :: fs, .cons hf hfs⟩
theorem sort_tupsG {a : Addr} {vs : List Value} {n : Nat} {Q : Value → Shared → Prop} (ho : s.heap.get? a = some (seqObj "list" vs.toArray n)) (hL : vs.length ≤ sizeLine) (x : ∀ v ∈ vs, ∃ ns, TS.TupInts s.heap v ns ∧ ns ≠ [])
    (h : ∀ out : Array Value, out.toList.Perm vs → out.toList.Pairwise (fun u v => lexI (TS.intsOf s.heap v) (TS.intsOf s.heap u) = false) → Q .none { s with heap := sortedHeap s.heap a vs out }) :
    wpAny (model prog w) A (call (.builtin "list.sort") [.ref a]) Q E s := by
  obtain ⟨fs, ht⟩ := tupsOf_all x
  refine wpAny_call_entry slot_list_sort ⟨_, ho, rfl⟩ entry_list_sort (G.list_sort_tups ho ht (fun v hv => ?_) hL fun st' a1 a2 a3 => ⟨_, rfl, h _ ?_ ?_⟩) (args_list_sort _)
  · obtain ⟨ns, t, _⟩ := x v hv
    exact ⟨_, keyOf_tup t⟩
  · have z := a1.toList.map Prod.snd
    rw [pairsOf_toList, List.map_snd_zip (Nat.le_refl _)] at z
    simpa using z
  · have hp : ∀ p ∈ (arrOf st').toList, p.1 = p.2 ∧ p.1 ∈ vs := fun p hp => by
      have := a1.toList.mem_iff.mp hp
      rw [pairsOf_toList] at this
      exact mem_zip_self this
    rw [Array.toList_map, List.pairwise_map, List.pairwise_iff_getElem]
    intro i j hi hj hij
    have hsz : (arrOf st').size = (pairsOf vs).size := a1.size_eq
    have hi' : i < (arrOf st').size := by simpa using hi
    have hj' : j < (arrOf st').size := by simpa using hj
    have k := a2 i j (by omega) (by omega)
    have kk : ∀ m (hm : m < (arrOf st').size), KK (G.tupKindC s.heap shp) (arrOf st') m = lexK (TS.intsOf s.heap ((arrOf st')[m]).2) := fun m hm => by
      obtain ⟨e1, e2⟩ := hp (arrOf st')[m] (Array.getElem_mem_toList hm)
      obtain ⟨ns, t, _⟩ := x _ e2
      unfold KK
      rw [Array.getElem?_eq_getElem hm]
      show ((G.tupKeyC s.heap shp ((arrOf st')[m]).1).getD []) = _
      rw [keyOf_tup t, ← e1, t.ints]; rfl
    rw [kk i hi', kk j hj'] at k
    have k' : lexI (TS.intsOf s.heap ((arrOf st')[j]).2) (TS.intsOf s.heap ((arrOf st')[i]).2) = false := k
    simpa using k'
end
section
variable {P : Program} {w : World} {A : Around} {E : Value → Shared → Prop} {s : Shared}
/-- sorted(set), the tuples of ints, none empty -/
theorem sorted_setG {a : Addr} {L : List (Addr × List Int)} {es : Array (Int × Value)} {ep : Nat} {t : SetTable} {Q : Value → Shared → Prop} (R : SetW P w s.heap a L es ep t) (hh : A.handled = none) (h0 : ∀ p ∈ L, p.2 ≠ [])
    (hQ : ∀ s' p (out : Array Value) (c : Nat) (L' : List (Addr × List Int)), (∀ b o, s.heap.get? b = some o → s'.heap.get? b = some o) → s'.gens = s.gens → s'.os = s.os → s.heap.objs.size ≤ p →
      s'.heap.get? p = some (seqObj "list" out c) → out.toList = L'.map (fun q => Value.ref q.1) → L'.Perm L → L'.Pairwise (fun q r => lexI r.2 q.2 = false) → Q (.ref p) s') :
    wpAny (model P w) A (call (.builtin "sorted") [.ref a]) Q E s := by
  obtain ⟨o, ho, hex, hd⟩ := R.ob
  have hsz := R.size
  have hfew := R.few
  refine Calls.call_function_entry kind_sorted plain_sorted entry_sorted (args_sorted1 _) ?_
  unfold Builtin.«sorted»
  refine wpAny_bind (m := checkCount "sorted" 1 1 _) (wpAny_pure ?_)
  refine wpAny_bind (collect_set (A := A.in1) hh ⟨o, ho, hex.1, hd⟩ R.fits (by unfold scanBound; omega) R.tab.ris R.led fun s1 vs k1 hz g1 o1 pm => ?_)
  have hes : es.toList.map (·.2) = L.map fun q => Value.ref q.1 := by
    rw [R.rows]
    unfold rowsOf
    rw [List.map_map] <;> rfl
  rw [hes] at pm
  have ord : ∀ vs : List Value, (∀ v ∈ vs, ∃ q ∈ L, v = Value.ref q.1) → ∃ L1 : List (Addr × List Int), vs = L1.map (fun q => Value.ref q.1) ∧ ∀ q ∈ L1, q ∈ L := by
    intro vs
    induction vs with
    | nil => intro _; exact ⟨[], rfl, fun q hq => (by cases hq)⟩
    | cons v vs ih =>
      intro hv
      obtain ⟨q, hq, e⟩ := hv v List.mem_cons_self
      obtain ⟨L1, e1, hs⟩ := ih fun u hu => hv u (List.mem_cons_of_mem _ hu)
      refine ⟨q :: L1, by rw [List.map_cons, e, e1], fun r hr => ?_⟩
      rcases List.mem_cons.mp hr with z | z
      · rw [z]; exact hq
      · exact hs r z
  have one : ∀ q ∈ L, ∀ r ∈ L, q.1 = r.1 → q = r := fun q hq r hr e => by
    have a1 := R.tup q hq
    have a2 := R.tup r hr
    rw [e] at a1
    have e2 : q.2 = r.2 := a1.inj a2
    exact Prod.ext e e2
  have perm_of : ∀ L1 : List (Addr × List Int), (∀ q ∈ L1, q ∈ L) → (L1.map (fun q => Value.ref q.1)).Perm (L.map fun q => Value.ref q.1) → L1.Perm L := by
    intro L1 hs pm1
    have nL : L.Nodup := nodup_of_map R.nd
    have nref : (L.map fun q => Value.ref q.1).Nodup := by
      refine List.pairwise_map.mpr (List.Pairwise.imp_of_mem (fun {q r} hq hr hne e => ?_) nL)
      injection e with e
      exact hne (one q hq r hr e)
    have n1 : L1.Nodup := nodup_of_map (pm1.nodup_iff.mpr nref)
    refine (List.perm_ext_iff_of_nodup n1 nL).mpr fun q => ⟨hs q, fun hq => ?_⟩
    have hm : Value.ref q.1 ∈ L1.map (fun q => Value.ref q.1) := pm1.mem_iff.mpr (List.mem_map.mpr ⟨q, hq, rfl⟩)
    obtain ⟨r, hr, e⟩ := List.mem_map.mp hm
    injection e with e
    rw [← one r (hs r hr) q hq e]
    exact hr
  have hvl : vs.length < 65 := by rw [pm.length_eq, List.length_map]; exact hfew
  refine wpAny_bind (wpAny_newList ?_ (by rw [sizeLine_eq]; omega))
  have hoL : (s1.heap.push (seqObj "list" vs.toArray 0)).get? s1.heap.objs.size = some (seqObj "list" vs.toArray 0) := Heap.get?_push_size _ rfl
  have tk : ∀ q ∈ L, TS.TupInts (s1.heap.push (seqObj "list" vs.toArray 0)) (.ref q.1) q.2 := fun q hq => tupInts_of (P := P) (w := w) (isT_keep (R.tup q hq) fun b u e => Heap.get?_push_of_some _ (k1 b u e))
  have x : ∀ v ∈ vs, ∃ ns, TS.TupInts (s1.heap.push (seqObj "list" vs.toArray 0)) v ns ∧ ns ≠ [] := fun v hv => by
    obtain ⟨q, hq, e⟩ := List.mem_map.mp (pm.mem_iff.mp hv)
    rw [← e]
    exact ⟨q.2, tk q hq, h0 q hq⟩
  refine wpAny_bind (wpAny_holding (sort_tupsG (s := { s1 with heap := s1.heap.push (seqObj "list" vs.toArray 0) }) hoL (by rw [sizeLine_eq]; omega) x fun out a1 a2 => ?_))
  obtain ⟨c, hc⟩ := sortedHeap_at (vs := vs) (out := out) hoL
  obtain ⟨L', e', hs'⟩ := ord out.toList fun v hv => by
    obtain ⟨q, hq, e⟩ := List.mem_map.mp (pm.mem_iff.mp (a1.mem_iff.mp hv))
    exact ⟨q, hq, e.symm⟩
  have pL : L'.Perm L := perm_of L' hs' (by rw [← e']; exact a1.trans pm)
  have pw : L'.Pairwise (fun q r => lexI r.2 q.2 = false) := by
    rw [e'] at a2
    refine List.Pairwise.imp_of_mem (fun {q r} hq hr hle => ?_) (List.pairwise_map.mp a2)
    have f1 : TS.intsOf (s1.heap.push (seqObj "list" vs.toArray 0)) (.ref q.1) = q.2 := (tk q (hs' q hq)).ints
    have f2 : TS.intsOf (s1.heap.push (seqObj "list" vs.toArray 0)) (.ref r.1) = r.2 := (tk r (hs' r hr)).ints
    rw [← f1, ← f2]
    exact hle
  refine wpAny_pure ⟨_, rfl, hQ _ s1.heap.objs.size out c L' (fun b u e => ?_) g1 o1 hz hc e' pL pw⟩
  have q := k1 b u e
  have hlt := Heap.lt_size q
  show (sortedHeap (s1.heap.push (seqObj "list" vs.toArray 0)) s1.heap.objs.size vs out).get? b = some u
  rw [sortedHeap_old (Nat.ne_of_lt hlt) (by rw [size_push']; exact Nat.lt_succ_of_lt hlt)]
  exact Heap.get?_push_of_some _ q
end
section
variable {X : Cx}
def rSortedG (K : PySem.W.Frag) (P : Program) (w : World) : List V → Hp → VK → Prop := fun vs H Q => ∃ (a : Addr) (L : List (Addr × List Int)), vs = [V.ref a] ∧ H a = some (SetWO P w a L) ∧ (∀ p ∈ L, SqT K H p.1 (p.2.map V.int)) ∧ (∀ p ∈ L, p.2 ≠ []) ∧
  ∀ (L' : List (Addr × List Int)) (p : Addr), L'.Perm L → (L'.map (·.2)).Nodup → L'.Pairwise (fun q r => lexI r.2 q.2 = false) → H p = none → Q (.ref p) (upd H p (.lst (L'.map fun q => V.ref q.1)))
theorem cr_sortedG (hc : X.calm = true) : CallR X (.builtin "sorted") (rSortedG X.K X.prog X.w) := by
  intro pins s σ H vs us Q I r h
  obtain ⟨a, L, rfl, ha, hk, h0, q⟩ := h
  have R0 : SetW0 X.prog X.w s.heap a L := (I.hok a _ ha).1
  obtain ⟨es, ep, t, R⟩ := R0.full fun p hp => I.isT (hk p hp)
  rw [Vals.ref1 r]
  refine sorted_setG R (I.ok.hd hc) h0 fun s' p out c L' k g o hp hg hout pm pw => ?_
  have hfew : L'.length < 65 := by rw [pm.length_eq]; exact R.few
  have hlen : (L'.map fun q => V.ref q.1).length ≤ sizeLine := by rw [List.length_map, sizeLine_eq]; omega
  have hn : H p = none := I.hok.fresh hp
  have hv : Vals (L'.map fun q => V.ref q.1) out.toList := by rw [hout]; exact vals_of_refs L'
  have J : Inv X pins σ (upd H p (.lst (L'.map fun q => V.ref q.1))) { s with heap := s'.heap, gens := s'.gens, drawn := s'.drawn, toks := s'.toks } :=
    I.call (ch := []) (Un.laid k hp hn) (I.hok.laid k hp ⟨hlen, out.toList, c, hv, hg⟩) (by rw [g]; exact I.bare) (fun _ z => nomatch z)
  have e : s' = { s with heap := s'.heap, gens := s'.gens, drawn := s'.drawn, toks := s'.toks } := by
    cases s'
    cases s
    cases o
    rfl
  rw [e]
  exact ⟨.ref p, _, J, rfl, q L' p pm ((pm.map (·.2)).nodup_iff.mpr R.nd) pw hn⟩
end
/-! ### the sorted rows as a function -/
theorem lexK_inj {a b : List Int} (h : lexK a = lexK b) : a = b := List.map_inj_right (fun _ _ e => Sum.inl.inj e) |>.mp h
theorem lexI_anti {a b : List Int} (h1 : lexI b a = false) (h2 : lexI a b = false) : a = b := lexK_inj ((listOrd itemOrd).total _ _ h2 h1)
theorem lexI_trans {a b c : List Int} (h1 : lexI b a = false) (h2 : lexI c b = false) : lexI c a = false := (listOrd itemOrd).kle_trans (a := lexK a) (b := lexK b) (c := lexK c) h1 h2
theorem lexI_asymm {a b : List Int} (h : lexI a b = true) : lexI b a = false := (listOrd itemOrd).kle_of_klt (a := lexK a) (b := lexK b) h
theorem insR_perm (r : List Int) : ∀ xs, (insR r xs).Perm (r :: xs)
  | [] => .refl _
  | x :: xs => by
    unfold insR
    split
    · exact ((insR_perm r xs).cons x).trans (.swap _ _ _)
    · exact .refl _
theorem insR_pw (r : List Int) : ∀ xs, xs.Pairwise (fun a b => lexI b a = false) → (insR r xs).Pairwise fun a b => lexI b a = false
  | [], _ => by simp [insR]
  | x :: xs, h => by
    obtain ⟨h1, h2⟩ := List.pairwise_cons.mp h
    unfold insR
    split
    · rename_i hx
      refine List.pairwise_cons.mpr ⟨fun y hy => ?_, insR_pw r xs h2⟩
      rcases List.mem_cons.mp ((insR_perm r xs).mem_iff.mp hy) with rfl | hy
      · exact lexI_asymm hx
      · exact h1 y hy
    · rename_i hx
      have hx : lexI x r = false := by simpa using hx
      refine List.pairwise_cons.mpr ⟨fun y hy => ?_, h⟩
      rcases List.mem_cons.mp hy with rfl | hy
      · exact hx
      · exact lexI_trans hx (h1 y hy)
theorem sortR_perm : ∀ xs, (sortR xs).Perm xs
  | [] => .refl _
  | x :: xs => (insR_perm x _).trans ((sortR_perm xs).cons x)
theorem sortR_pw : ∀ xs, (sortR xs).Pairwise fun a b => lexI b a = false
  | [] => .nil
  | x :: xs => insR_pw x _ (sortR_pw xs)
theorem dedupR_mem {r : List Int} : ∀ {xs}, r ∈ dedupR xs ↔ r ∈ xs
  | [] => Iff.rfl
  | x :: xs => by
    unfold dedupR
    split
    · rename_i h
      rw [dedupR_mem, List.mem_cons]
      exact ⟨.inr, fun z => z.elim (fun e => e ▸ h) id⟩
    · rw [List.mem_cons, List.mem_cons, dedupR_mem]
theorem dedupR_nd : ∀ xs, (dedupR xs).Nodup
  | [] => .nil
  | x :: xs => by
    unfold dedupR
    split
    · exact dedupR_nd xs
    · rename_i h
      exact List.nodup_cons.mpr ⟨fun z => h (dedupR_mem.mp z), dedupR_nd xs⟩
theorem sorted_is {l rs : List (List Int)} (nd : l.Nodup) (pw : l.Pairwise fun a b => lexI b a = false) (hm : ∀ r, r ∈ l ↔ r ∈ rs) : l = sortR (dedupR rs) := by
  refine List.Perm.eq_of_pairwise (le := fun a b => lexI b a = false) (fun a b _ _ h1 h2 => lexI_anti h1 h2) pw (sortR_pw _) ?_
  refine (List.perm_ext_iff_of_nodup nd ((sortR_perm _).nodup_iff.mpr (dedupR_nd rs))).mpr fun r => ?_
  rw [hm, (sortR_perm _).mem_iff, dedupR_mem]
theorem asRows_some : ∀ {ds : List D} {rs : List (List Int)}, asRows ds = some rs → ds = rs.map rowD
  | [], _, h => by cases h; rfl
  | d :: ds, rs, h => by
    simp only [asRows, Option.bind_eq_bind, Option.bind_eq_some_iff, Option.pure_def, Option.some.injEq] at h
    obtain ⟨i, hi, r, hr, rfl⟩ := h
    cases d <;> simp only [asRow] at hi <;> try cases hi
    rw [List.map_cons, ← asRows_some hr, rowD, asInts_some hi]
theorem rows_of {K : PySem.W.Frag} {O : AS} {H : Hp} : ∀ {rs : List (List Int)} {vs : List V}, Rps K O H (rs.map rowD) vs → ∃ ks : List (Addr × List Int), vs = ks.map (fun p => V.ref p.1) ∧ ks.map (·.2) = rs ∧ ∀ p ∈ ks, ¬ O p.1 ∧ H p.1 = some (.tup (p.2.map V.int))
  | [], vs, h => ⟨[], h, rfl, fun p hp => by cases hp⟩
  | r :: rs, _, ⟨v, vr, e, ⟨a, ws, e1, hO, hH, hw⟩, h2⟩ => by
    obtain ⟨ks, k1, k2, k3⟩ := rows_of h2
    refine ⟨(a, r) :: ks, by rw [e, e1, k1]; rfl, by rw [List.map_cons, k2], fun p hp => ?_⟩
    rcases List.mem_cons.mp hp with rfl | hp
    · refine ⟨hO, ?_⟩
      rw [hH, Rps.ints hw]
    · exact k3 p hp
theorem rows_to {K : PySem.W.Frag} {O : AS} {H : Hp} : ∀ (L : List (Addr × List Int)), (∀ p ∈ L, ¬ O p.1 ∧ H p.1 = some (.tup (p.2.map V.int))) → Rps K O H ((L.map (·.2)).map rowD) (L.map fun p => V.ref p.1)
  | [], _ => rfl
  | p :: L, h => ⟨.ref p.1, _, rfl, ⟨p.1, _, rfl, (h p (by simp)).1, (h p (by simp)).2, Rps.ofInts _⟩, rows_to L fun q hq => h q (by simp [hq])⟩
section
variable {X : Cx} {a : Expr} {fa : Env' → Rs} {p p2 pos pos2 : Pos}
theorem q_sset (hc : X.calm = true) (hu : X.A.units + 64 < cLine) (hg : Gl X "sorted") (hm : X.mg "sorted" = none) (hg2 : Gl X "set") (hm2 : X.mg "set" = none) (ns : NoStar a) (ha : PE X a (tQ X.K fa)) :
    PE X (.Call (.Name "sorted" p) [.Call (.Name "set" p2) [a] [] pos2] [] pos) (tQ X.K fun g => do let x ← fa g; b1D .sset x.2) := by
  have hs : PE X (.Call (.Name "set" p2) [a] [] pos2) _ := pe_callTy (cr_setOfW hc hu) hg2 hm2 (by decide +kernel) (pa_cons ha pa_nil (ns _ _)) (by decide) (by decide) (ns _ _)
  refine (pe_callB (cr_sortedG hc) hg hm (by decide +kernel) (pa_cons hs pa_nil rfl) (by decide) (by decide) rfl).imp fun σ H Q ⟨H0, O, g, m, d, S, e, q⟩ => ?_
  simp only [b1D, Option.bind_eq_bind, Option.bind_eq_some_iff, Option.pure_def] at e
  obtain ⟨x, ex, ds, e1, rs, e2, e3⟩ := e
  split at e3
  · rename_i hk
    cases e3
    refine tQ.use S ex fun v H' s r => ?_
    obtain ⟨a', vs, rfl, hl, rr⟩ := r.rb.toL e1
    rw [asRows_some e2] at rr
    obtain ⟨ks, rfl, k2, k3⟩ := rows_of rr
    refine ⟨a', ks, rfl, hl, fun p hp => SqT.of (k3 p hp).2, by rw [← k2, List.length_map] at hk; exact hk.1, fun A L hA hsub hall => ?_⟩
    have sA : Same H' (upd H' A (SetWO X.prog X.w A L)) := same_new hA
    refine ⟨A, L, rfl, upd_same, fun p hp => SqT.of (sA _ _ (k3 p (hsub p hp)).2), fun p hp => ?_, fun L' P pm nd pw hP => ?_⟩
    · have hin : p.2 ∈ rs := by rw [← k2]; exact List.mem_map.mpr ⟨p, hsub p hp, rfl⟩
      have := List.all_eq_true.mp hk.2 _ hin
      intro z
      rw [z] at this
      exact absurd this (by decide)
    · have e4 : L'.map (·.2) = sortR (dedupR rs) := by
        refine sorted_is nd (List.pairwise_map.mpr pw) fun r => ?_
        rw [(pm.map (·.2)).mem_iff, ← k2]
        constructor
        · intro h
          obtain ⟨p, hp, rfl⟩ := List.mem_map.mp h
          exact List.mem_map.mpr ⟨p, hsub p hp, rfl⟩
        · intro h
          obtain ⟨p, hp, rfl⟩ := List.mem_map.mp h
          exact hall p hp
      have sP : Same (upd H' A (SetWO X.prog X.w A L)) (upd (upd H' A (SetWO X.prog X.w A L)) P (.lst (L'.map fun q => V.ref q.1))) := same_new hP
      have sall := (s.trans sA).trans sP
      refine q _ _ sall ⟨P, _, rfl, (s.trans sA).free hP, upd_same, ?_⟩
      rw [← e4]
      refine rows_to L' fun p hp => ?_
      obtain ⟨z1, z2⟩ := k3 p (hsub p (pm.mem_iff.mp hp))
      refine ⟨fun z => z.elim z1 fun z => ?_, sP _ _ (sA _ _ z2)⟩
      have := sA _ _ z2
      rw [z, hP] at this; cases this
  · cases e3
end
end Ev
/-! Ev: sorted(rows), dicts of rows, e.clear() of a call's value. -/
namespace Ev
open PySem PySem.Spec PyProof.Rows L2
section
variable {X : Cx}
def rSortedT (K : PySem.W.Frag) : List V → Hp → VK → Prop := fun vs H Q => ∃ (a : Addr) (L : List (Addr × List Int)), vs = [V.ref a] ∧ SqL K H a (L.map fun p => V.ref p.1) ∧ (∀ p ∈ L, SqT K H p.1 (p.2.map V.int)) ∧ (∀ p ∈ L, p.2 ≠ []) ∧
  ∀ (L' : List (Addr × List Int)) (p : Addr), L'.Perm L → L'.Pairwise (fun q r => lexI r.2 q.2 = false) → H p = none → Q (.ref p) (upd H p (.lst (L'.map fun q => V.ref q.1)))
theorem perm_of_refs {L : List (Addr × List Int)} (one : ∀ q ∈ L, ∀ r ∈ L, q.1 = r.1 → q = r) : ∀ {vs : List Value}, vs.Perm (L.map fun q => Value.ref q.1) → ∃ L' : List (Addr × List Int), vs = L'.map (fun q => Value.ref q.1) ∧ L'.Perm L := by
  intro vs hp
  have key : ∀ (us : List Value) (M : List (Addr × List Int)), us = M.map (fun q => Value.ref q.1) → (∀ q ∈ M, q ∈ L) → ∀ {vs : List Value}, us.Perm vs → ∃ L' : List (Addr × List Int), vs = L'.map (fun q => Value.ref q.1) ∧ L'.Perm M := by
    intro us M eu hm vs hp
    induction hp generalizing M with
    | nil =>
      cases M with
      | nil => exact ⟨[], rfl, .refl _⟩
      | cons => cases eu
    | cons x _ ih =>
      cases M with
      | nil => cases eu
      | cons m M =>
        rw [List.map_cons] at eu
        injection eu with e1 e2
        obtain ⟨L', h1, h2⟩ := ih M e2 fun q hq => hm q (List.mem_cons_of_mem _ hq)
        exact ⟨m :: L', by rw [List.map_cons, e1, h1], h2.cons m⟩
    | swap x y l =>
      match M, eu with
      | [], eu => cases eu
      | [_], eu => cases eu
      | m :: m2 :: M, eu =>
        rw [List.map_cons, List.map_cons] at eu
        injection eu with e1 e2
        injection e2 with e2 e3
        exact ⟨m2 :: m :: M, by rw [List.map_cons, List.map_cons, e1, e2, e3], .swap _ _ _⟩
    | trans p1 p2 ih1 ih2 =>
      obtain ⟨L1, h1, h2⟩ := ih1 M eu hm
      obtain ⟨L2, h3, h4⟩ := ih2 L1 h1 fun q hq => hm q (h2.mem_iff.mp hq)
      exact ⟨L2, h3, h4.trans h2⟩
  exact key _ L rfl (fun q hq => hq) hp.symm
theorem cr_sortedT : CallR X (.builtin "sorted") (rSortedT X.K) := by
  intro pins s σ H vs us Q I r h
  obtain ⟨a, L, rfl, hs, hk, h0, q⟩ := h
  obtain ⟨its, rv, hl, hz⟩ := I.list hs
  rw [Vals.ref1 r]
  have ei : its = L.map fun q => Value.ref q.1 := by
    have e : (L.map fun p => V.ref p.1) = (L.map (·.1)).map V.ref := by rw [List.map_map]; rfl
    rw [e] at rv
    rw [refs_at rv, List.map_map]; rfl
  have tk : ∀ q ∈ L, TS.TupInts s.heap (.ref q.1) q.2 := fun q hq => tupInts_of (P := X.prog) (w := X.w) (I.isT (hk q hq))
  have x : ∀ v ∈ its, ∃ ns, TS.TupInts s.heap v ns ∧ ns ≠ [] := fun v hv => by
    rw [ei] at hv
    obtain ⟨q, hq, rfl⟩ := List.mem_map.mp hv
    exact ⟨q.2, tk q hq, h0 q hq⟩
  obtain ⟨fs, ht⟩ := tupsOf_all x
  have hlen : its.length = L.length := by rw [ei, List.length_map]
  refine G.sorted_tups hl.isList ht (fun v hv => ?_) (by rw [hlen]; simpa using hz) fun st' a1 a2 a3 => ?_
  · obtain ⟨ns, t, _⟩ := x v hv
    exact ⟨_, keyOf_tup t⟩
  have b1 : ((arrOf st').map (·.2)).toList.Perm its := by
    have z := a1.toList.map Prod.snd
    rw [pairsOf_toList, List.map_snd_zip (Nat.le_refl _)] at z
    simpa using z
  have b2 : ((arrOf st').map (·.2)).toList.Pairwise (fun u v => lexI (TS.intsOf s.heap v) (TS.intsOf s.heap u) = false) := by
    have hp : ∀ p ∈ (arrOf st').toList, p.1 = p.2 ∧ p.1 ∈ its := fun p hp => by
      have := a1.toList.mem_iff.mp hp
      rw [pairsOf_toList] at this
      exact mem_zip_self this
    rw [Array.toList_map, List.pairwise_map, List.pairwise_iff_getElem]
    intro i j hi hj hij
    have hsz : (arrOf st').size = (pairsOf its).size := a1.size_eq
    have hi' : i < (arrOf st').size := by simpa using hi
    have hj' : j < (arrOf st').size := by simpa using hj
    have k := a2 i j (by omega) (by omega)
    have kk : ∀ m (hm : m < (arrOf st').size), KK (G.tupKindC s.heap shp) (arrOf st') m = lexK (TS.intsOf s.heap ((arrOf st')[m]).2) := fun m hm => by
      obtain ⟨e1, e2⟩ := hp (arrOf st')[m] (Array.getElem_mem_toList hm)
      obtain ⟨ns, t, _⟩ := x _ e2
      unfold KK
      rw [Array.getElem?_eq_getElem hm]
      show ((G.tupKeyC s.heap shp ((arrOf st')[m]).1).getD []) = _
      rw [keyOf_tup t, ← e1, t.ints]; rfl
    rw [kk i hi', kk j hj'] at k
    have k' : lexI (TS.intsOf s.heap ((arrOf st')[j]).2) (TS.intsOf s.heap ((arrOf st')[i]).2) = false := k
    simpa using k'
  generalize (arrOf st').map (·.2) = out at b1 b2 ⊢
  have one : ∀ q ∈ L, ∀ r ∈ L, q.1 = r.1 → q = r := fun q hq r hr e => by
    have f1 := (tk q hq).ints
    have f2 := (tk r hr).ints
    rw [e, f2] at f1
    exact Prod.ext e f1.symm
  rw [ei] at b1
  obtain ⟨L', e', pm⟩ := perm_of_refs one b1
  have pw : L'.Pairwise (fun q r => lexI r.2 q.2 = false) := by
    rw [e'] at b2
    refine List.Pairwise.imp_of_mem (fun {q r} hq hr hle => ?_) (List.pairwise_map.mp b2)
    rw [(tk q (pm.mem_iff.mp hq)).ints, (tk r (pm.mem_iff.mp hr)).ints] at hle
    exact hle
  obtain ⟨ep, he'⟩ := PyProof.Rows.sortedAll_at s.heap its out
  refine ⟨.ref _, upd H (s.heap.objs.size + 1) (.lst (L'.map fun q => V.ref q.1)), I.laid (t' := s.toks) (fun _ _ => PyProof.Rows.sortedAll_old) (Nat.le_succ _) ⟨?_, out.toList, ep, ?_, by rw [Array.toArray_toList]; exact he'⟩, rfl, q L' _ pm pw (I.hok.fresh (Nat.le_succ _))⟩
  · rw [List.length_map, pm.length_eq]; simpa using hz
  · rw [e']; exact vals_of_refs L'
theorem sortR_is {l rs : List (List Int)} (pm : l.Perm rs) (pw : l.Pairwise fun a b => lexI b a = false) : l = sortR rs :=
  List.Perm.eq_of_pairwise (le := fun a b => lexI b a = false) (fun a b _ _ h1 h2 => lexI_anti h1 h2) pw (sortR_pw _) (pm.trans (sortR_perm rs).symm)
variable {a : Expr} {fa : Env' → Rs} {p pos : Pos}
theorem q_srt (hg : Gl X "sorted") (hm : X.mg "sorted" = none) (ns : NoStar a) (ha : PE X a (tQ X.K fa)) : PE X (.Call (.Name "sorted" p) [a] [] pos) (tQ X.K fun g => do let x ← fa g; b1D .srt x.2) := by
  refine q_use1 (pe_callB cr_sortedT hg hm (by decide +kernel) (pa_cons ha pa_nil (ns _ _)) (by decide) (by decide) (ns _ _)) fun O H d m z v Q T r e q => ?_
  simp only [b1D, Option.bind_eq_bind, Option.bind_eq_some_iff, Option.pure_def] at e
  obtain ⟨ds, e1, rs, e2, e3⟩ := e
  split at e3
  · rename_i hk
    cases e3
    obtain ⟨a', vs, rfl, hl, rr⟩ := r.toL e1
    rw [asRows_some e2] at rr
    obtain ⟨ks, rfl, k2, k3⟩ := rows_of rr
    refine ⟨a', ks, rfl, hl, fun p hp => SqT.of (k3 p hp).2, fun p hp z => ?_, fun L' P pm pw hP => ?_⟩
    · have hin : p.2 ∈ rs := by rw [← k2]; exact List.mem_map.mpr ⟨p, hp, rfl⟩
      have := List.all_eq_true.mp hk _ hin
      rw [z] at this
      cases this
    · have e4 : L'.map (·.2) = sortR rs := sortR_is (by rw [← k2]; exact pm.map _) (List.pairwise_map.mpr pw)
      have sP : Same H (upd H P (.lst (L'.map fun q => V.ref q.1))) := same_new hP
      refine q _ _ sP ⟨P, _, rfl, hP, upd_same, ?_⟩
      rw [← e4]
      refine rows_to L' fun p hp => ?_
      obtain ⟨z1, z2⟩ := k3 p (pm.mem_iff.mp hp)
      refine ⟨fun z => z.elim z1 fun z => ?_, sP _ _ z2⟩
      rw [z, hP] at z2; cases z2
  · cases e3
/-! ### dicts -/
theorem kI_map (r : List Int) : (r.map Sum.inl : List Key).map kV = r.map V.int := by rw [List.map_map]; rfl
theorem fdAt_some {g : Env'} {i : Nat} {ks : List (List Int)} (h : fdAt g i = some ks) : g[i]? = some (.fd ks) := by
  unfold fdAt at h
  split at h
  · cases h; assumption
  · cases h
theorem odAt_some {g : Env'} {i : Nat} {ks : List (List Int)} (h : odAt g i = some ks) : g[i]? = some (.od ks) := by
  unfold odAt at h
  split at h
  · cases h; assumption
  · cases h
theorem rd_frz {H : Hp} {a : Addr} {o : Obj} {u : HO} (h : H a = some (.frz o u)) : Rd H a u := .inr ⟨o, h⟩
theorem isKeys_rows {K : PySem.W.Frag} {O : AS} {H H' : Hp} (trk : ∀ a, O a → Held H a) (s : Same H H') : ∀ {ks : List (List Int)} {bs : List Addr}, IsKeys H (dkV ks) bs → Rps K O H' (ks.map rowD) (bs.map V.ref)
  | [], _, h => by cases h; rfl
  | r :: ks, _, h => by
    cases h with
    | cons h1 t =>
      rename_i b bs
      rw [show (r.map Sum.inl : List Key).map kV = r.map V.int from kI_map r] at h1
      exact ⟨.ref b, _, rfl, ⟨b, _, rfl, not_tup trk h1, s _ _ h1, Rps.ofInts _⟩, isKeys_rows trk s t⟩
variable {i : Nat} {x : Str} {q2 : Pos}
theorem q_ldk (hc : X.calm = true) (hg : Gl X "list") (hm : X.mg "list" = none) (hv : PE X (.Name x q2) (tVar i)) : PE X (.Call (.Name "list" p) [.Name x q2] [] pos) (tQ X.K fun g => do let ks ← fdAt g i; pure (.fr, .lst (ks.map rowD))) := by
  refine (pe_callTy (call_list_dT hc) hg hm boot_list (pa_cons hv pa_nil rfl) (by decide) (by decide) rfl).imp fun σ H Q ⟨H0, O, g, m, d, S, e, q⟩ => ?_
  simp only [Option.bind_eq_bind, Option.bind_eq_some_iff, Option.pure_def, Option.some.injEq] at e
  obtain ⟨ks, e1, e2⟩ := e
  cases e2
  obtain ⟨v, ev, a', o, rfl, h1, h2⟩ := S.get (fdAt_some e1)
  refine ⟨_, ev, a', _, rfl, rd_frz h2, fun p bs hp hk => ?_⟩
  refine q _ _ (same_new hp) ⟨p, _, rfl, hp, upd_same, ?_⟩
  have := isKeys_rows (K := X.K) S.trk (Same.refl H) hk
  exact Rps.nxt (.same (same_new hp)) _ _ (this.plus hp)
theorem i_dk {tg : Expr} (hv : PE X (.Name x q2) (tVar i)) : PI X tg (.Name x q2) (tQI X.K fun g => do let ks ← fdAt g i; pure (.sh, ks.map rowD)) := by
  refine (pi_keys hv).imp fun σ H R ⟨H0, O, g, m, ds, S, e, q⟩ => ?_
  simp only [Option.bind_eq_bind, Option.bind_eq_some_iff, Option.pure_def, Option.some.injEq] at e
  obtain ⟨ks, e1, e2⟩ := e
  cases e2
  obtain ⟨v, ev, a', o, rfl, h1, h2⟩ := S.get (fdAt_some e1)
  refine ⟨_, ev, a', o, rfl, .inr ⟨_, h2, q _ _ (Same.refl H) ?_⟩⟩
  have hl : (dkV ks).length = (ks.map rowD).length := by simp [dkV]
  exact {
    go := fun i Oc Hc n hi => ⟨n.1.keep _ _ h1 h2, by rw [hl]; exact hi⟩
    yld := fun i Oc Hc x H2 d n ⟨e, k, v, b, e3, e4, e5⟩ hd => by
      subst e e4
      simp only [dkV, List.getElem?_map, Option.map_eq_some_iff] at e3 hd
      obtain ⟨r, er, e6⟩ := e3
      obtain ⟨r', er', rfl⟩ := hd
      rw [er] at er'
      cases er'
      cases e6
      rw [kI_map] at e5
      exact ⟨Same.refl _, b, _, rfl, not_tup n.2.2 e5, e5, Rps.ofInts _⟩
    stop := fun i Oc Hc n hi => ⟨n.1.keep _ _ h1 h2, by rw [hl]; exact hi⟩ }
section
variable {W : WX} {st : Stmt} {fe : Env' → Rs}
def dnwF (i : Nat) : Env' → Option Out := fun g => do let g' ← setSl i (.od []) g; pure (.nx g')
theorem s_dnw (h : PS X st (tAsg tDNewT (gName i))) : PS X st (tS X.K W (dnwF i)) := by
  refine h.imp fun D' σ H ⟨H0, Oc, O, g, out, S, e, q⟩ => ?_
  simp only [dnwF, Option.bind_eq_bind, Option.bind_eq_some_iff, Option.pure_def, Option.some.injEq] at e
  obtain ⟨g', e1, rfl⟩ := e
  intro p hp
  have s := same_new (o := .dT []) hp
  exact q _ _ _ (S.setNew (s' := .od []) s hp (.dT upd_same) ⟨p, rfl, .inr rfl, S.same.free hp, upd_same⟩ e1) ⟨fun b o _ h => s b o h, fun a z => z.imp id fun e => by rw [e]; exact hp⟩
theorem putK_row (ks : List (List Int)) (r : List Int) : putK (dkV ks) (r.map Sum.inl) (V.bl true) = dkV (putR r ks) := by
  have hinj : ∀ r' : List Int, ((r'.map Sum.inl : List Key) = r.map Sum.inl) ↔ r' = r := fun r' => by
    constructor
    · exact fun e => (List.map_inj_right (fun _ _ e => Sum.inl.inj e)).mp e
    · exact fun e => by rw [e]
  have hany : ((dkV ks).any fun kv => decide (kv.1 = r.map Sum.inl)) = decide (r ∈ ks) := by
    rw [Bool.eq_iff_iff, List.any_eq_true, decide_eq_true_eq]
    constructor
    · rintro ⟨kv, hkv, e⟩
      obtain ⟨r', hr, rfl⟩ := List.mem_map.mp hkv
      rw [← (hinj r').mp (of_decide_eq_true e)]
      exact hr
    · intro hr
      exact ⟨_, List.mem_map.mpr ⟨r, hr, rfl⟩, decide_eq_true rfl⟩
  unfold putK putR
  rw [hany]
  by_cases hr : r ∈ ks
  · rw [if_pos (by simpa using hr), if_pos hr]
    unfold dkV
    rw [List.map_map]
    refine List.map_congr_left fun r' _ => ?_
    show (if _ then _ else _) = _
    split <;> rfl
  · rw [if_neg (by simpa using hr), if_neg hr]
    unfold dkV
    rw [List.map_append]
    rfl
def dptF (i : Nat) (fk : Env' → Rs) : Env' → Option Out := fun g => do
  let x ← fk g
  let r ← asRow x.2
  let ks ← odAt g i
  if lenOk ks.length then do let g' ← setSl i (.od (putR r ks)) g; pure (.nx g') else none
theorem asRow_some {d : D} {r : List Int} (h : asRow d = some r) : d = rowD r := by
  cases d <;> simp only [asRow] at h <;> try cases h
  rw [rowD, asInts_some h]
theorem s_dpt {fk : Env' → Rs} (h : PS X st (tAsg (tC (.bl true)) (gSub (tVar i) (tQ X.K fk) rSetD))) : PS X st (tS X.K W (dptF i fk)) := by
  refine h.imp fun D' σ H ⟨H0, Oc, O, g, out, S, e, q⟩ => ?_
  simp only [dptF, Option.bind_eq_bind, Option.bind_eq_some_iff, Option.pure_def] at e
  obtain ⟨⟨mk, dk⟩, ek, r, er, ks, e1, e2⟩ := e
  split at e2
  · rename_i hl
    simp only [Option.bind_eq_some_iff, Option.some.injEq] at e2
    obtain ⟨g', e3, rfl⟩ := e2
    have hi := odAt_some e1
    obtain ⟨v, ev, a, rfl, h1, h2, h3⟩ := S.sr.get hi
    have er : dk = rowD r := asRow_some er
    subst er
    refine ⟨.ref a, ev, tQ.use S.sr ek fun w H' s rw' => ?_⟩
    obtain ⟨b, vs, rfl, hb, hH, rv⟩ := rw'.rb
    rw [rv.ints, ← kI_map] at hH
    have S' := S.same' s
    obtain ⟨S2, n2⟩ := S'.change' (s' := .od (putR r ks)) (o' := .dT (dkV (putR r ks))) hi rfl rfl ev h1 h2 (fun vs z => by cases z) ⟨a, rfl, h1, h2, upd_same⟩ e3
    have hl2 : (dkV ks).length < sizeLine := by
      rw [dkV, List.length_map]
      exact of_decide_eq_true hl
    have dp : DPut H' a (.ref b) (.bl true) (upd H' a (.dT (dkV (putR r ks)))) := by
      rw [← putK_row]
      exact DPut.t (s _ _ h3) hH hl2
    exact (show rSetD (.ref a) (.ref b) (.bl true) H' fun H3 => D'.nx σ H3 from ⟨a, _, rfl, dp, q σ _ O S2 ((Nxt.same s).trans n2)⟩)
  · cases e2
def clrXF (fe : Env' → Rs) : Env' → Option Out := fun g => do let r ← fe g; clrO g r
theorem s_clrX (h : PS X st (tDrop (tBM0 X.K "list" rClear (tQ X.K fe)))) : PS X st (tS X.K W (clrXF fe)) := by
  refine h.imp fun D' σ H ⟨H0, Oc, O, g, out, S, e, q⟩ => ?_
  simp only [clrXF, Option.bind_eq_bind, Option.bind_eq_some_iff] at e
  obtain ⟨⟨m, d⟩, ex, e2⟩ := e
  unfold clrO at e2
  split at e2
  · rename_i ds hr
    cases hr
    cases e2
    refine tQ.use S.sr ex fun v H' s r => ?_
    obtain ⟨p, vs, rfl, hp, hH, rs⟩ := r
    have s2 : Same H (upd H' p (.lst [])) := fun b o hb => by rw [upd_ne (ne_of_none hb hp)]; exact s b o hb
    exact ⟨.inl ⟨rfl, vs, SqL.of hH⟩, p, vs, rfl, rfl, hH, q σ _ O (S.same' s2) (.same s2)⟩
  · cases e2
end
end
end Ev
/-! Ev: max(list, default=d). -/
namespace PySem
open Sem (wp)
theorem Fd.args_maxd (a d : Value) : argsOk "max" ⟨[a], [(Str.ofString "default", d)]⟩ := by unfold argsOk; kernel_rfl
theorem Fd.bind_maxd (d : Value) : Builtin.Builtins.bindParams "max" ["key", "default"] 0 ⟨[], [(Str.ofString "default", d)]⟩ = pure [none, some d] := by kernel_rfl
theorem Fd.call_function_treeK {prog : Program} {w : World} {A : Around} {E : Value → Shared → Prop} {s : Shared} {id : String} {b : Builtin} {args : List Value} {kw : List (Str × Value)} {Q : Value → Shared → Prop} (hk : builtinKind id = none) (hp : plainId id = true)
    (hb : entryFor table id = some b) (ha : argsOk id ⟨args, kw⟩)
    (hc : wpAny (model prog w) A.in1 (b ⟨args, kw⟩) (fun fin s' => match fin with
      | .done f => (match (Except.ok f : Result) with | .ok (.ret v) => Q v s' | .ok _ => False | .error e => E e s')
      | .again c' => c'.quiet = true ∧ codeAny (model prog w) A c' (fun r s' => match r with | .ok (.ret v) => Q v s' | .ok _ => False | .error e => E e s') s') E s) :
    wpAny (model prog w) A (call (.builtin id) args kw) Q E s := by
  refine wpAny_call (codeAny_call_builtin hp hb ?_)
  simp only [checkBuiltinCall, hk]
  cases hsig : Manifest.signature? id with
  | none => exact wpAny_pure hc
  | some sig =>
    have ha' : Bind.checkArgs id sig ⟨args, kw⟩ = pure () := by simpa only [argsOk, hsig] using ha
    simp only [ha']
    exact wpAny_pure hc
section
variable {prog : Program} {w : World} {A : Around} {R : Result → Shared → Prop} {I : Addr} {fp wr : List Addr} {n : Nat} {P : Nat → Value → Prop} {St : Nat → Heap → Prop} {d : Value}
theorem codeAny_maxd_loop (W : Walks prog w A.in1 I fp wr n P St) (bt : Nat → Nat → Bool) (hcmp : CmpOf prog w A.in1 .Gt P bt) (S : Addr) (hSf : S ∉ fp) :
    ∀ (k j : Nat) (s : Shared) (vb : Value) (c : Nat), n - (j + 1) = k → j + 1 ≤ n → St (j + 1) s.heap → P (argBest bt j) vb →
    s.heap.get? S = some { cls := .type "list", dict := none, data := .seq #[vb, vb] c, slots := #[] } →
    (∀ v h' tk, P (argBest bt (n - 1)) v → (∀ b o, b ∉ wr → b ≠ S → s.heap.get? b = some o → h'.get? b = some o) → R (.ok (.ret v)) { s with heap := h', toks := tk }) →
    codeAny (model prog w) A (.builtin "max.loop" ⟨[.ref I, .none, .ref S], [(Str.ofString "default", d)]⟩) R s := by
  have hSw : S ∉ wr := fun h => hSf (W.sub _ h)
  have hname : (toString "max" ++ toString ".loop" : String) = "max.loop" := by decide
  intro k
  induction k with
  | zero =>
    intro j s vb c hk hj hst hPb hS hR
    have hin : j + 1 = n := by omega
    refine codeAny_builtin F.entry_max_loop ?_
    rw [Around.under_plainId F.plain_max_loop _]
    show wpAny _ A.in1 (seqItems? (.ref S) >>= _) _ _ s
    refine wpAny_bind (wpAny_seqItems hS rfl ?_)
    show wpAny _ A.in1 (tryCatch (pyNext (.ref I)) _ >>= _) _ _ s
    refine wpAny_bind (wpAny_tryCatch (W.done s _ _ (hin ▸ hst) fun h' tk hk' => ?_))
    have hS' := hk' S _ hSw hS
    show wpAny _ A.in1 (updateSeq S (fun _ => #[]) >>= _) _ _ _
    refine wpAny_bind ?_
    refine wpAny_updateSeq hS' rfl (wpAny_bind (wpAny_letGo (wpAny_pure ?_)))
    refine hR vb _ tk (by rw [← hin]; exact hPb) fun b o hbw hbS e => (Heap.get?_update_other _ _ (Ne.symm hbS)).trans (hk' b o hbw e)
  | succ k ih =>
    intro j s vb c hk hj hst hPb hS hR
    have hlt : j + 1 < n := by omega
    refine codeAny_builtin F.entry_max_loop ?_
    rw [Around.under_plainId F.plain_max_loop _]
    show wpAny _ A.in1 (seqItems? (.ref S) >>= _) _ _ s
    refine wpAny_bind (wpAny_seqItems hS rfl ?_)
    show wpAny _ A.in1 (tryCatch (pyNext (.ref I)) _ >>= _) _ _ s
    refine wpAny_bind (wpAny_tryCatch (W.item (j + 1) s _ _ hlt hst fun v h' tk hP hst' hk' => ?_))
    have hS' := hk' S _ hSw hS
    show wpAny _ A.in1 (tryCatch (holding [v, v] (richCompare .Gt v vb >>= _)) _ >>= _) _ _ _
    refine wpAny_bind (wpAny_tryCatch (wpAny_holding (wpAny_bind (hcmp (j + 1) (argBest bt j) v vb _ _ _ hP hPb ?_))))
    refine wpAny_bind (wpAny_holding (wpAny_truthy_bool ?_))
    refine wpAny_bind (wpAny_letGo (wpAny_pure ?_))
    cases hb : bt (j + 1) (argBest bt j) with
    | true =>
      simp only [if_true]
      refine wpAny_bind ?_
      refine wpAny_updateSeq hS' rfl (wpAny_bind (wpAny_letGo ?_))
      rw [hname]
      refine wpAny_pure ⟨plainId_quiet F.plain_max_loop _, ih (j + 1) _ v _ (by omega) hlt (W.frame _ _ _ hst' fun b hbf o e => ?_) (by simp only [argBest, hb, if_true]; exact hP) (Heap.get?_update_self _ hS' rfl)
        fun v' h'' tk'' hP' hk'' => ?_⟩
      · exact (Heap.get?_update_other _ _ (fun h : S = b => hSf (by rw [h]; exact hbf))).trans e
      · exact hR v' h'' tk'' hP' fun b o hbw hbS e => hk'' b o hbw hbS ((Heap.get?_update_other _ _ (Ne.symm hbS)).trans (hk' b o hbw e))
    | false =>
      simp only [Bool.false_eq_true, if_false]
      refine wpAny_bind (wpAny_letGo ?_)
      rw [hname]
      refine wpAny_pure ⟨plainId_quiet F.plain_max_loop _, ih (j + 1) _ vb c (by omega) hlt hst' (by simp only [argBest, hb, Bool.false_eq_true, if_false]; exact hPb) hS' fun v' h'' tk'' hP' hk'' => ?_⟩
      exact hR v' h'' tk'' hP' fun b o hbw hbS e => hk'' b o hbw hbS (hk' b o hbw e)
theorem codeAny_maxd_first (W : Walks prog w A.in1 I fp wr n P St) (bt : Nat → Nat → Bool) (hcmp : CmpOf prog w A.in1 .Gt P bt) (S : Addr) (hSf : S ∉ fp) (hn : 0 < n) {s : Shared} {c : Nat} (hst : St 0 s.heap)
    (hS : s.heap.get? S = some { cls := .type "list", dict := none, data := .seq #[] c, slots := #[] })
    (hR : ∀ v h' tk, P (argBest bt (n - 1)) v → (∀ b o, b ∉ wr → b ≠ S → s.heap.get? b = some o → h'.get? b = some o) → R (.ok (.ret v)) { s with heap := h', toks := tk }) :
    codeAny (model prog w) A (.builtin "max.loop" ⟨[.ref I, .none, .ref S], [(Str.ofString "default", d)]⟩) R s := by
  have hSw : S ∉ wr := fun h => hSf (W.sub _ h)
  have hname : (toString "max" ++ toString ".loop" : String) = "max.loop" := by decide
  refine codeAny_builtin F.entry_max_loop ?_
  rw [Around.under_plainId F.plain_max_loop _]
  show wpAny _ A.in1 (seqItems? (.ref S) >>= _) _ _ s
  refine wpAny_bind (wpAny_seqItems hS rfl ?_)
  show wpAny _ A.in1 (tryCatch (pyNext (.ref I)) _ >>= _) _ _ s
  refine wpAny_bind (wpAny_tryCatch (W.item 0 s _ _ hn hst fun v h' tk hP hst' hk' => ?_))
  have hS' := hk' S _ hSw hS
  show wpAny _ A.in1 (updateSeq S (fun _ => #[v, v]) >>= _) _ _ _
  refine wpAny_bind ?_
  refine wpAny_updateSeq hS' rfl ?_
  rw [hname]
  refine wpAny_pure ⟨plainId_quiet F.plain_max_loop _, codeAny_maxd_loop W bt hcmp S hSf _ 0 _ v _ rfl hn (W.frame _ _ _ hst' fun b hbf o e => ?_) hP (Heap.get?_update_self _ hS' rfl) fun v' h'' tk'' hP' hk'' => ?_⟩
  · exact (Heap.get?_update_other _ _ (fun h : S = b => hSf (by rw [h]; exact hbf))).trans e
  · exact hR v' h'' tk'' hP' fun b o hbw hbS e => hk'' b o hbw hbS ((Heap.get?_update_other _ _ (Ne.symm hbS)).trans (hk' b o hbw e))
theorem codeAny_maxd_empty (W : Walks prog w A.in1 I fp wr 0 P St) (S : Addr) {s : Shared} {c : Nat} (hst : St 0 s.heap)
    (hS : s.heap.get? S = some { cls := .type "list", dict := none, data := .seq #[] c, slots := #[] })
    (hR : ∀ h' tk, (∀ b o, b ∉ wr → s.heap.get? b = some o → h'.get? b = some o) → R (.ok (.ret d)) { s with heap := h', toks := tk }) :
    codeAny (model prog w) A (.builtin "max.loop" ⟨[.ref I, .none, .ref S], [(Str.ofString "default", d)]⟩) R s := by
  refine codeAny_builtin F.entry_max_loop ?_
  rw [Around.under_plainId F.plain_max_loop _]
  show wpAny _ A.in1 (seqItems? (.ref S) >>= _) _ _ s
  refine wpAny_bind (wpAny_seqItems hS rfl ?_)
  show wpAny _ A.in1 (tryCatch (pyNext (.ref I)) _ >>= _) _ _ s
  refine wpAny_bind (wpAny_tryCatch (W.done s _ _ hst fun h' tk hk' => ?_))
  refine wpAny_bind (wpAny_rule (wpAny_pure ?_))
  exact hR h' tk hk'
end
section
variable {prog : Program} {w : World} {A : Around} {E : Value → Shared → Prop} {s : Shared} {l : Addr} {xs : Array (Int × Tok)} {d : Value}
theorem maxd_intList {Q : Value → Shared → Prop} (hh : A.handled = none) (hl : s.heap.IsList l (intItems xs))
    (h : ∀ v h' tk, ((0 < xs.size ∧ (intItems xs)[argBest (fun i j => decide (numAt xs i > numAt xs j)) (xs.size - 1)]? = some v) ∨ (xs.size = 0 ∧ v = d)) → (∀ b o, s.heap.get? b = some o → h'.get? b = some o) → Q v { s with heap := h', toks := tk }) :
    wpAny (model prog w) A (call (.builtin "max") [.ref l] [(Str.ofString "default", d)]) Q E s := by
  have hname : (toString "max" ++ toString ".loop" : String) = "max.loop" := by decide
  refine Fd.call_function_treeK F.kind_max F.plain_max F.entry_max (Fd.args_maxd _ _) ?_
  show wpAny _ A.in1 (Builtin.Builtins.bindParams "max" ["key", "default"] 0 ⟨[], [(Str.ofString "default", d)]⟩ >>= _) _ _ s
  refine wpAny_bind (wpAny_of_eq (Fd.bind_maxd d) ?_)
  refine wpAny_bind (wpAny_pure ?_)
  refine wpAny_bind (iter_intList hl fun s₂ e st hfp hlI => ?_)
  subst e
  refine wpAny_bind (wpAny_newObj_type ?_)
  have W := Walks.list (prog := prog) (w := w) (A := A.in1) hh s.heap.objs.size l hlI (intItems xs)
  have hsz : (intItems xs).size = xs.size := by simp [intItems]
  rw [hsz] at W
  generalize hs2 : ({ s with heap := s.heap.push { cls := .type "list_iterator", data := .fields #[.ref l, .int 0 0] } } : Shared) = s₂ at *
  have hS2 : s₂.heap.objs.size ∉ [s.heap.objs.size, l] := fun hm => Nat.lt_irrefl _ (hfp _ hm)
  rw [hname]
  refine wpAny_pure ⟨plainId_quiet F.plain_max_loop _, ?_⟩
  have keep : ∀ {h' : Heap}, (∀ b o, b ∉ [s.heap.objs.size] → b ≠ s₂.heap.objs.size → (s₂.heap.push { cls := .type "list", data := .seq #[] }).get? b = some o → h'.get? b = some o) → ∀ b o, s.heap.get? b = some o → h'.get? b = some o := fun {h'} hk b o e => by
    have hb := Heap.lt_size e
    have e2 : s₂.heap.get? b = some o := by rw [← hs2]; exact Heap.get?_push_of_some _ e
    have hb2 := Heap.lt_size e2
    exact hk b o (fun z => Nat.ne_of_lt hb (by simpa using z)) (Nat.ne_of_lt hb2) (Heap.get?_push_of_some _ e2)
  by_cases hn : 0 < xs.size
  · refine codeAny_maxd_first W _ (CmpOf.ints_gt (numAt xs) (fun _ _ => intItems_at)) s₂.heap.objs.size hS2 hn (W.frame _ _ _ st fun b _ o e => Heap.get?_push_of_some _ e) (Heap.get?_push_size _ rfl) fun v h' tk hP hk => ?_
    have := h v h' tk (.inl ⟨hn, hP⟩) (keep hk)
    rw [← hs2]; exact this
  · have h0 : xs.size = 0 := by omega
    rw [h0] at W
    refine codeAny_maxd_empty W s₂.heap.objs.size (W.frame _ _ _ st fun b _ o e => Heap.get?_push_of_some _ e) (Heap.get?_push_size _ rfl) fun h' tk hk => ?_
    have := h d h' tk (.inr ⟨h0, rfl⟩) (keep fun b o h1 _ h3 => hk b o h1 h3)
    rw [← hs2]; exact this
end
end PySem
namespace Ev
open PySem PySem.Spec PyProof.Rows L2
section
variable {X : Cx}
def rMaxD (K : PySem.W.Frag) : List V → List V → Hp → VK → Prop := fun vs zs H Q => ∃ (a : Addr) (ns : List Int) (z : Int), vs = [V.ref a] ∧ zs = [V.int z] ∧ SqL K H a (ns.map V.int) ∧ Q (.int ((lmaxI ns).getD z)) H
theorem cr_maxD (hc : X.calm = true) : CallRK X (.builtin "max") [Str.ofString "default"] (rMaxD X.K) := by
  intro pins s σ H vs zs us ws Q I r rz h
  obtain ⟨a, ns, z, rfl, rfl, hs, q⟩ := h
  obtain rfl := Vals.ref1 r
  obtain ⟨w1, rfl, e1⟩ := vals1 rz
  obtain ⟨t1, rfl⟩ := e1
  obtain ⟨its, rv, hl, _⟩ := I.list hs
  have hi := rv.ints
  obtain ⟨xs, e⟩ := hi.allInts.items
  have hn : numsOf (intItems xs).toList = ns := by rw [← e]; exact hi.numsOf
  rw [nums_intItems] at hn
  subst hn
  have hl' := hl.isList
  rw [e] at hl'
  refine maxd_intList (I.ok.hd hc) hl' fun v h' tk hv hk => ?_
  rcases hv with ⟨hsz, hv⟩ | ⟨hsz, rfl⟩
  · obtain ⟨t, rfl⟩ := intItems_at hv
    obtain ⟨h1, h2⟩ := argBest_gt (numAt xs) (xs.size - 1)
    refine ⟨.int _, H, I.kept hk, ⟨_, rfl⟩, ?_⟩
    have hmem : numAt xs (argBest (fun i j => decide (numAt xs i > numAt xs j)) (xs.size - 1)) ∈ xs.toList.map (·.1) := by
      rw [numAt_eq]; exact PySem.getD_mem (by rw [List.length_map, Array.length_toList]; omega)
    have hge : ∀ a ∈ xs.toList.map (·.1), a ≤ numAt xs (argBest (fun i j => decide (numAt xs i > numAt xs j)) (xs.size - 1)) := fun a ha => by
      obtain ⟨j, hj, rfl⟩ := mem_getD ha
      rw [List.length_map, Array.length_toList] at hj
      rw [← numAt_eq]; exact h2 j (by omega)
    generalize numAt xs (argBest (fun i j => decide (numAt xs i > numAt xs j)) (xs.size - 1)) = M at hmem hge ⊢
    generalize xs.toList.map (·.1) = ns at hmem hge q
    cases ns with
    | nil => cases hmem
    | cons y ys =>
      have g1 := foldl_max_ge ys y M hmem
      have g2 := hge _ (foldl_max_mem ys y)
      rw [show M = ys.foldl max y by omega]
      exact q
  · refine ⟨.int _, H, I.kept hk, ⟨_, rfl⟩, ?_⟩
    have : xs.toList.map (·.1) = [] := by
      have : xs.toList.length = 0 := by simpa using hsz
      rw [List.eq_nil_of_length_eq_zero this]; rfl
    rw [this] at q
    exact q
variable {a b : Expr} {fa fb : Env' → Rs} {p pos kp : Pos}
theorem q_maxd (hc : X.calm = true) (hg : Gl X "max") (hm : X.mg "max" = none) (ns : NoStar a) (ha : PE X a (tQ X.K fa)) (hb : PE X b (tQ X.K fb)) :
    PE X (.Call (.Name "max" p) [a] [⟨some "default", b, kp⟩] pos) (tQ X.K fun g => do let x ← fa g; let y ← fb g; let ds ← asL x.2; let ns ← asInts ds; let z ← asInt y.2; pure (.sh, .int ((lmaxI ns).getD z))) := by
  refine (pe_callBK (cr_maxD hc) hg hm (by decide +kernel) (pa_cons ha pa_nil (ns _ _)) (pk_cons hb pk_nil) (by decide) (by decide) (by rw [ns]; rfl) (by rw [ns]; rfl)).imp fun σ H Q ⟨H0, O, g, m, d, S, e, q⟩ => ?_
  simp only [Option.bind_eq_bind, Option.bind_eq_some_iff, Option.pure_def, Option.some.injEq] at e
  obtain ⟨x, ex, y, ey, ds, e1, k, e2, z, e3, e4⟩ := e
  cases e4
  refine tQ.two S ex ey fun v w H' s r1 r2 => ?_
  obtain ⟨a', rfl, hl⟩ := r1.intsL e1 e2
  exact ⟨a', k, z, rfl, by rw [r2.toInt e3], hl, q _ _ s rfl⟩
end
end Ev
/-! Ev: sorted(spots). -/
namespace Ev
open PySem PySem.Spec PyProof.Rows L2
theorem isSp_some {d : D} (h : isSp d = true) : ∃ a b c e : Int, d = .tup [.tup [.int a, .int b], .tup [.int c, .int e]] := by
  unfold isSp at h
  split at h
  · exact ⟨_, _, _, _, rfl⟩
  · cases h
section
variable {X : Cx}
def rSortedD (K : PySem.W.Frag) : List V → Hp → VK → Prop := fun vs H Q => ∃ (a : Addr) (xs : List V) (ds : List D), vs = [V.ref a] ∧ SqL K H a xs ∧ xs.length = ds.length ∧ (∀ p ∈ xs.zip ds, Dp K H p.1 (toPy p.2)) ∧ ds.all isSp = true ∧
  ∀ (ys : List V) (p : Addr), ys.length = ds.length → (∀ q ∈ ys.zip (ds.mergeSort (PySem.W.dataLe false toPy)), q ∈ xs.zip ds) → H p = none → Q (.ref p) (upd H p (.lst ys))
theorem each_sel {xs : List V} {L : List D} : ∀ {out : List Value} {es : List D}, PySem.W.EachIs (fun (u : Value) d => ∃ w, RelV w u ∧ (w, d) ∈ xs.zip L) out es → ∃ ys : List V, Vals ys out ∧ ys.length = es.length ∧ ∀ q ∈ ys.zip es, q ∈ xs.zip L
  | _, _, .nil => ⟨[], .nil, rfl, fun q hq => by cases hq⟩
  | _, _, .cons ⟨w, r, m⟩ t => by
    obtain ⟨ys, h1, h2, h3⟩ := each_sel t
    refine ⟨w :: ys, .cons r h1, by rw [List.length_cons, List.length_cons, h2], fun q hq => ?_⟩
    rw [List.zip_cons_cons, List.mem_cons] at hq
    rcases hq with rfl | hq
    · exact m
    · exact h3 q hq
theorem each_of_vals {P : V → D → Prop} : ∀ {xs : List V} {us : List Value} {ds : List D}, Vals xs us → xs.length = ds.length → (∀ p ∈ xs.zip ds, P p.1 p.2) → PySem.W.EachIs (fun (u : Value) d => ∃ w, RelV w u ∧ P w d) us ds
  | _, _, [], .nil, _, _ => .nil
  | _, _, d :: ds, .cons r t, hl, h => .cons ⟨_, r, h (_, d) (by simp)⟩ (each_of_vals t (by simpa using hl) fun p hp => h p (by rw [List.zip_cons_cons]; exact List.mem_cons_of_mem _ hp))
theorem cr_sortedD (hu : X.A.units + 5 < cLine) : CallR X (.builtin "sorted") (rSortedD X.K) := by
  intro pins s σ H vs us Q I r h
  obtain ⟨a, xs, ds, rfl, hs, hlen, hd, hsp, q⟩ := h
  obtain ⟨its, rv, hl, hz⟩ := I.list hs
  rw [Vals.ref1 r]
  have hall : ∀ d ∈ ds, ∃ a b c e : Int, d = .tup [.tup [.int a, .int b], .tup [.int c, .int e]] := fun d hm => isSp_some (List.all_eq_true.mp hsp d hm)
  refine PySem.W.sorted_data (bs := ds) (enc := toPy) (R := fun u d => ∃ w, RelV w u ∧ (w, d) ∈ xs.zip ds) hl.isList (each_of_vals rv hlen fun p hp => hp) ?_ ?_ ?_ (by rw [← hlen]; exact hz) ?_ fun out ho eo => ?_
  · exact (each_of_vals rv hlen hd).mono fun u d ⟨w, h1, h2⟩ => Dp.reads I _ _ _ h2 h1
  · intro d1 h1 d2 h2
    obtain ⟨e1, m1, rfl⟩ := List.mem_map.mp h1
    obtain ⟨e2, m2, rfl⟩ := List.mem_map.mp h2
    obtain ⟨a1, a2, a3, a4, rfl⟩ := hall _ m1
    obtain ⟨b1, b2, b3, b4, rfl⟩ := hall _ m2
    simp [toPy, toPys, PySem.W.alike, PySem.W.alikeAll]
  · refine .inl fun d1 h1 => ?_
    obtain ⟨e1, m1, rfl⟩ := List.mem_map.mp h1
    obtain ⟨a1, a2, a3, a4, rfl⟩ := hall _ m1
    exact ⟨_, _, rfl⟩
  · intro d m
    obtain ⟨a1, a2, a3, a4, rfl⟩ := hall _ m
    simp [toPy, toPys, PyData.depth, PyData.depthAll]
    omega
  obtain ⟨ys, h1, h2, h3⟩ := each_sel eo
  obtain ⟨ep, he'⟩ := PyProof.Rows.sortedAll_at s.heap its (List.toArray out)
  have hy : ys.length = ds.length := by rw [h2, List.length_mergeSort]
  refine ⟨.ref _, upd H (s.heap.objs.size + 1) (.lst ys), I.laid (t' := s.toks) (fun _ _ => PyProof.Rows.sortedAll_old) (Nat.le_succ _) ⟨?_, out, ep, h1, he'⟩, rfl, q ys _ hy h3 (I.hok.fresh (Nat.le_succ _))⟩
  rw [hy, ← hlen]; exact hz
theorem rps_zip {K : PySem.W.Frag} {O : AS} {H : Hp} : ∀ {ds : List D} {vs : List V}, Rps K O H ds vs → ∀ p ∈ vs.zip ds, Rp K O H p.2 p.1
  | [], _, h, p, hp => by rw [show _ = [] from h] at hp; cases hp
  | d :: ds, _, ⟨v, vr, e, h1, h2⟩, p, hp => by
    rw [e, List.zip_cons_cons, List.mem_cons] at hp
    rcases hp with rfl | hp
    · exact h1
    · exact rps_zip h2 p hp
theorem rps_of_zip {K : PySem.W.Frag} {O : AS} {H : Hp} : ∀ {ds : List D} {vs : List V}, vs.length = ds.length → (∀ p ∈ vs.zip ds, Rp K O H p.2 p.1) → Rps K O H ds vs
  | [], [], _, _ => rfl
  | [], _ :: _, h, _ => by simp at h
  | _ :: _, [], h, _ => by simp at h
  | d :: ds, v :: vs, h, k => ⟨v, vs, rfl, k (v, d) (by simp), rps_of_zip (by simpa using h) fun p hp => k p (by rw [List.zip_cons_cons]; exact List.mem_cons_of_mem _ hp)⟩
/-- one new list: what was there stays, and is not the new one -/
theorem nxt_new {O : AS} {H : Hp} {P : Addr} {o : HO} (h : H P = none) : Nxt O H (fun a => O a ∨ a = P) (upd H P o) :=
  ⟨fun b u _ hb => same_new h b u hb, fun a ha => ha.imp id fun e => by rw [e]; exact h⟩
variable {a : Expr} {fa : Env' → Rs} {p pos : Pos}
theorem q_ssp (hu : X.A.units + 5 < cLine) (hg : Gl X "sorted") (hm : X.mg "sorted" = none) (ns : NoStar a) (ha : PE X a (tQ X.K fa)) : PE X (.Call (.Name "sorted" p) [a] [] pos) (tQ X.K fun g => do let x ← fa g; b1D .ssp x.2) := by
  refine q_use1 (pe_callB (cr_sortedD hu) hg hm (by decide +kernel) (pa_cons ha pa_nil (ns _ _)) (by decide) (by decide) (ns _ _)) fun O H d m z v Q T r e q => ?_
  simp only [b1D, Option.bind_eq_bind, Option.bind_eq_some_iff, Option.pure_def] at e
  obtain ⟨ds, e1, e3⟩ := e
  split at e3
  · rename_i hk
    cases e3
    obtain ⟨a', vs, rfl, hl, rr⟩ := r.toL e1
    refine ⟨a', vs, ds, rfl, hl, rr.len, fun p hp => ?_, hk, fun ys P hy hz hP => ?_⟩
    · obtain ⟨a1, a2, a3, a4, e⟩ := isSp_some (List.all_eq_true.mp hk p.2 (List.of_mem_zip hp).2)
      exact Rp.dp _ _ (by rw [e]; rfl) (rps_zip rr p hp)
    · refine q _ _ (same_new hP) ⟨P, ys, rfl, hP, upd_same, rps_of_zip (by rw [hy, List.length_mergeSort]) fun p hp => ?_⟩
      exact Rp.nxt (nxt_new hP) _ _ (rps_zip rr p (hz p hp))
  · cases e3
end
end Ev
/-! Ev: the checker, and that what it takes is run by the evaluator. -/
namespace Ev
open PySem PySem.Spec PyProof.Rows L2

/-! ### views of the syntax -/
def vName : Expr → Option Str
  | .Name x _ => some x
  | _ => none
def vConst : Expr → Option Const
  | .Constant c _ _ => some c
  | _ => none
def vBin : Expr → Option (Expr × Operator × Expr)
  | .BinOp a o b _ => some (a, o, b)
  | _ => none
def vUn : Expr → Option (UnaryOp × Expr)
  | .UnaryOp o a _ => some (o, a)
  | _ => none
def vCmp : Expr → Option (Expr × CmpOp × Expr)
  | .Compare a [o] [b] _ => some (a, o, b)
  | _ => none
def vBool : Expr → Option (BoolOp × List Expr)
  | .BoolOp o es _ => some (o, es)
  | _ => none
def vTup : Expr → Option (List Expr)
  | .Tuple es _ _ => some es
  | _ => none
def vLst : Expr → Option (List Expr)
  | .List es _ => some es
  | _ => none
/-- a subscript that is no slice -/
def vIdx : Expr → Option (Expr × Expr)
  | .Subscript _ (.Slice _ _ _ _) _ => none
  | .Subscript a i _ => some (a, i)
  | _ => none
def vSlc : Expr → Option (Expr × Option Expr × Option Expr)
  | .Subscript a (.Slice lo hi none _) _ => some (a, lo, hi)
  | _ => none
def vCall : Expr → Option (Str × List Expr)
  | .Call (.Name x _) es [] _ => some (x, es)
  | _ => none
/-- max(e, default=d) -/
def vCallD : Expr → Option (Str × Expr × Str × Expr)
  | .Call (.Name x _) [e] [⟨some k, d, _⟩] _ => some (x, e, k, d)
  | _ => none
def vDict0 : Expr → Bool
  | .Dict [] [] _ => true
  | _ => false
/-- o.m(es), on one line -/
def vMeth : Expr → Option (Expr × Str × List Expr)
  | .Call (.Attribute o m apos) es [] cpos => if (apos.endLine == cpos.line) = true then some (o, m, es) else none
  | _ => none
def vComp : Expr → Option (Expr × Expr × Expr × List Expr × Scope)
  | .ListComp elt [⟨tg, it, ifs, 0⟩] sc _ => some (elt, tg, it, ifs, sc)
  | _ => none
section
variable {x : Expr}
theorem vName_some {n : Str} (h : vName x = some n) : ∃ p, x = .Name n p := by
  cases x <;> simp [vName] at h
  exact ⟨_, by rw [h]⟩
theorem vConst_some {n : Const} (h : vConst x = some n) : ∃ j p, x = .Constant n j p := by
  cases x <;> simp [vConst] at h
  exact ⟨_, _, by rw [h]⟩
theorem vBin_some {a b : Expr} {o : Operator} (h : vBin x = some (a, o, b)) : ∃ p, x = .BinOp a o b p := by
  cases x <;> simp [vBin] at h
  obtain ⟨rfl, rfl, rfl⟩ := h
  exact ⟨_, rfl⟩
theorem vUn_some {a : Expr} {o : UnaryOp} (h : vUn x = some (o, a)) : ∃ p, x = .UnaryOp o a p := by
  cases x <;> simp [vUn] at h
  obtain ⟨rfl, rfl⟩ := h
  exact ⟨_, rfl⟩
theorem vCmp_some {a b : Expr} {o : CmpOp} (h : vCmp x = some (a, o, b)) : ∃ p, x = .Compare a [o] [b] p := by
  unfold vCmp at h
  split at h
  · cases h; exact ⟨_, rfl⟩
  · cases h
theorem vBool_some {o : BoolOp} {es : List Expr} (h : vBool x = some (o, es)) : ∃ p, x = .BoolOp o es p := by
  cases x <;> simp [vBool] at h
  obtain ⟨rfl, rfl⟩ := h
  exact ⟨_, rfl⟩
theorem vTup_some {es : List Expr} (h : vTup x = some es) : ∃ k p, x = .Tuple es k p := by
  cases x <;> simp [vTup] at h
  subst h; exact ⟨_, _, rfl⟩
theorem vLst_some {es : List Expr} (h : vLst x = some es) : ∃ p, x = .List es p := by
  cases x <;> simp [vLst] at h
  subst h; exact ⟨_, rfl⟩
theorem vIdx_some {a i : Expr} (h : vIdx x = some (a, i)) : ∃ p, x = .Subscript a i p := by
  unfold vIdx at h
  split at h
  · cases h
  · cases h; exact ⟨_, rfl⟩
  · cases h
theorem vSlc_some {a : Expr} {lo hi : Option Expr} (h : vSlc x = some (a, lo, hi)) : ∃ p q, x = .Subscript a (.Slice lo hi none p) q := by
  unfold vSlc at h
  split at h
  · cases h; exact ⟨_, _, rfl⟩
  · cases h
theorem vCall_some {n : Str} {es : List Expr} (h : vCall x = some (n, es)) : ∃ p q, x = .Call (.Name n p) es [] q := by
  unfold vCall at h
  split at h
  · cases h; exact ⟨_, _, rfl⟩
  · cases h
theorem vCallD_some {n k : Str} {e d : Expr} (h : vCallD x = some (n, e, k, d)) : ∃ p q kp, x = .Call (.Name n p) [e] [⟨some k, d, kp⟩] q := by
  unfold vCallD at h
  split at h
  · cases h; exact ⟨_, _, _, rfl⟩
  · cases h
theorem vDict0_some (h : vDict0 x = true) : ∃ p, x = .Dict [] [] p := by
  unfold vDict0 at h
  split at h
  · exact ⟨_, rfl⟩
  · cases h
theorem vMeth_some {o : Expr} {m : Str} {es : List Expr} (h : vMeth x = some (o, m, es)) : ∃ p q, x = .Call (.Attribute o m p) es [] q ∧ (p.endLine == q.line) = true := by
  unfold vMeth at h
  split at h
  · split at h
    · cases h; exact ⟨_, _, rfl, by assumption⟩
    · cases h
  · cases h
theorem vComp_some {elt tg it : Expr} {ifs : List Expr} {sc : Scope} (h : vComp x = some (elt, tg, it, ifs, sc)) : ∃ p, x = .ListComp elt [⟨tg, it, ifs, 0⟩] sc p := by
  unfold vComp at h
  split at h
  · cases h; exact ⟨_, rfl⟩
  · cases h
end

/-! ### the checker -/
structure Sg where
  N : List Str
  fn : Nat → Option Str
def visB (sc : Scope) (x : Str) : Bool := match sc.names.lookup x with
  | some .local => true
  | some .cell => true
  | some .free => true
  | _ => false
def glB (sc : Scope) (x : Str) : Bool := match sc.names.lookup x with
  | some .globalImplicit => true
  | _ => false
def locB (sc : Scope) (x : Str) : Bool := match sc.names.lookup x with
  | some .local => true
  | _ => false
def loc2B (sc : Scope) (x : Str) : Bool := match sc.names.lookup x with
  | some .local => true
  | some .cell => true
  | _ => false
def nameB (x : Str) : Bool := !(x == ("__debug__" : Str)) && !(x == ("__classdict__" : Str))
def biS : Bi → Str
  | .abs => "abs" | .len => "len" | .int => "int" | .sum => "sum" | .min => "min" | .max => "max" | .list => "list" | .lrev => "list" | .sset => "sorted" | .srt => "sorted" | .ssp => "sorted"
def b2S : B2 → Str
  | .min => "min" | .max => "max"
def tyStr : Ty → Str
  | .int => "int" | .bool => "bool" | .tuple => "tuple" | .list => "list"
/-- the built-in names that may be asked -/
def bltNames : List Str := ["abs", "len", "int", "sum", "min", "max", "list", "sorted", "set", "isinstance", "bool", "tuple", "range", "zip", "enumerate", "reversed"]
def ownOf (G : Sg) (tg : Tg) : List (Str × Nat) := (tgSlots tg).map fun i => (G.N.getD i "", i)
/-- names as targets -/
def okNames (G : Sg) (ok : Str → Bool) : List Nat → List Expr → Bool
  | [], [] => true
  | i :: is, e :: es => (match vName e with
    | some x => decide (G.N[i]? = some x) && ok x
    | none => false) && okNames G ok is es
  | _, _ => false
def okTg (G : Sg) (ok : Str → Bool) : Tg → Expr → Bool
  | .one i, e => okNames G ok [i] [e]
  | .many is, e => match vTup e with
    | some es => okNames G ok is es
    | none => false
def okVar (G : Sg) (sc : Scope) (i : Nat) (e : Expr) : Bool := match vName e with
  | some x => decide (G.N[i]? = some x) && visB sc x && nameB x
  | none => false
def isNil : Exs → Bool
  | .nil => true
  | _ => false
mutual
def okE (G : Sg) (sc : Scope) : Ex → Expr → Bool
  | .var i, e => match vName e with
    | some x => decide (G.N[i]? = some x) && visB sc x && nameB x
    | none => false
  | .int n, e => decide (vConst e = some (.int n))
  | .bl b, e => decide (vConst e = some (.bool b))
  | .non, e => decide (vConst e = some .none)
  | .str s, e => decide (vConst e = some (.str s))
  | .bin o a b, e => match vBin e with
    | some (x, p, y) => decide (p = bopOf o) && okE G sc a x && okE G sc b y
    | none => false
  | .neg a, e => match vUn e with
    | some (.USub, x) => okE G sc a x
    | _ => false
  | .not a, e => match vUn e with
    | some (.Not, x) => okE G sc a x
    | _ => false
  | .cmp o a b, e => match vCmp e with
    | some (x, p, y) => decide (p = copOf o) && okE G sc a x && okE G sc b y
    | none => false
  | .isN a, e => match vCmp e with
    | some (x, .Is, y) => okE G sc a x && decide (vConst y = some .none)
    | _ => false
  | .notN a, e => match vCmp e with
    | some (x, .IsNot, y) => okE G sc a x && decide (vConst y = some .none)
    | _ => false
  | .inn a b, e => match vCmp e with
    | some (x, .In, y) => okE G sc a x && okE G sc b y
    | _ => false
  | .nin a b, e => match vCmp e with
    | some (x, .NotIn, y) => okE G sc a x && okE G sc b y
    | _ => false
  | .ands es, e => match vBool e with
    | some (.And, xs) => !isNil es && okEs G sc es xs
    | _ => false
  | .ors es, e => match vBool e with
    | some (.Or, xs) => !isNil es && okEs G sc es xs
    | _ => false
  | .tup es, e => match vTup e with
    | some xs => okEs G sc es xs
    | none => false
  | .lst es, e => match vLst e with
    | some xs => okEs G sc es xs
    | none => false
  | .idx a i, e => match vIdx e with
    | some (x, y) => okE G sc a x && okE G sc i y
    | none => false
  | .slc a lo hi, e => match vSlc e with
    | some (x, l, h) => okE G sc a x && (match l with
      | none => isNonE lo
      | some y => !isNonE lo && okE G sc lo y) && (match h with
      | none => isNonE hi
      | some y => !isNonE hi && okE G sc hi y)
    | none => false
  | .b1 f a, e => match vCall e with
    | some (n, [x]) => decide (n = biS f) && glB sc (biS f) && (match f with
      | .sset => (match vCall x with
        | some (n2, [y]) => decide (n2 = "set") && glB sc "set" && okE G sc a y
        | _ => false)
      | .srt => okE G sc a x
      | .ssp => okE G sc a x
      | .lrev => (match vCall x with
        | some (n2, [y]) => decide (n2 = "reversed") && glB sc "reversed" && okE G sc a y
        | _ => false)
      | _ => okE G sc a x)
    | _ => false
  | .ldk i, e => match vCall e with
    | some (n, [x]) => decide (n = "list") && glB sc "list" && okVar G sc i x
    | _ => false
  | .b2 f a b, e => match vCall e with
    | some (n, [x, y]) => decide (n = b2S f) && glB sc (b2S f) && okE G sc a x && okE G sc b y
    | _ => false
  | .isi a t, e => match vCall e with
    | some (n, [x, y]) => decide (n = "isinstance") && glB sc "isinstance" && okE G sc a x && decide (vName y = some (Str.ofString (tyS t))) && glB sc (Str.ofString (tyS t))
    | _ => false
  | .isx a cs many, e => match vCall e with
    | some (n, [x, y]) => decide (n = "isinstance") && glB sc "isinstance" && okE G sc a x && (match many with
      | true => decide (cs.length ≤ 1000) && (match vTup y with
        | some ys => okCls (glB sc) cs ys
        | none => false)
      | false => okCls (glB sc) cs [y])
    | _ => false
  | .maxd a d, e => match vCallD e with
    | some (n, x, k, y) => decide (n = "max") && decide (k = "default") && glB sc "max" && okE G sc a x && okE G sc d y
    | none => false
  | .cnt a b, e => match vMeth e with
    | some (o, m, [y]) => decide (m = "count") && (vName o).isSome && okE G sc a o && okE G sc b y
    | _ => false
  | .call f es, e => match vCall e with
    | some (n, xs) => decide (G.fn f = some n) && glB sc n && nameB n && !isNil es && okEs G sc es xs
    | _ => false
  | .callB f es, e => match vCall e with
    | some (n, xs) => decide (G.fn f = some n) && glB sc n && nameB n && !isNil es && okEs G sc es xs
    | _ => false
  | .comp elt tg it c, e => match vComp e with
    | some (elt', tg', it', ifs, scope) => okI G sc it tg' it' && blkC G.N sc scope (ownOf G tg) && okTg G (locB (relS scope sc)) tg tg' && okCs G (relS scope sc) c ifs && okE G (relS scope sc) elt elt'
    | none => false
def okEs (G : Sg) (sc : Scope) : Exs → List Expr → Bool
  | .nil, xs => match xs with
    | [] => true
    | _ => false
  | .cons e es, xs => match xs with
    | x :: xs => okE G sc e x && okEs G sc es xs
    | [] => false
def okCs (G : Sg) (sc : Scope) : Exs → List Expr → Bool
  | .nil, xs => match xs with
    | [] => true
    | _ => false
  | .cons e es, xs => match xs with
    | [x] => okE G sc e x && isNil es
    | _ => false
def okI (G : Sg) (sc : Scope) : Itx → Expr → Expr → Bool
  | .ex a, _, e => okE G sc a e
  | .dk i, _, e => okVar G sc i e
  | .rng a, _, e => match vCall e with
    | some (n, [x]) => decide (n = "range") && glB sc "range" && okE G sc a x
    | _ => false
  | .rng2 a b, _, e => match vCall e with
    | some (n, [x, y]) => decide (n = "range") && glB sc "range" && okE G sc a x && okE G sc b y
    | _ => false
  | .zip a b, tg, e => match vCall e with
    | some (n, [x, y]) => decide (n = "zip") && glB sc "zip" && okE G sc a x && okE G sc b y && (vTup tg).isSome
    | _ => false
  | .enum a, tg, e => match vCall e with
    | some (n, [x]) => decide (n = "enumerate") && glB sc "enumerate" && okE G sc a x && (vTup tg).isSome
    | _ => false
  | .rev a, _, e => match vCall e with
    | some (n, [x]) => decide (n = "reversed") && glB sc "reversed" && okE G sc a x
    | _ => false
end

/-! ### a context that fits -/
structure GX (G : Sg) (ct : Ct) (sc : Scope) (X : Cx) : Prop where
  N : X.N = G.N
  nd : X.N.Nodup
  sc : X.env.scope = sc
  calm : X.calm = true
  units : X.A.units + 65 < cLine
  blt : ∀ x ∈ bltNames, X.mg x = none
  fns : ∀ f x, G.fn f = some x → ∃ k fa fd ps, X.mg x = some (.ref fa) ∧ FnOk X.prog X.w X.K X.mg X.base CX0 k fa fd ps (spF X.K ct f) ∧ PySem.W.keepIn X.K (.ref fa) = true ∧ Binds X.K fd ps [] ∧ Room k X.A
  xk : ct flagX [] ≠ none → XK X.K X.mg
section
variable {G : Sg} {ct : Ct} {sc : Scope} {X : Cx}
theorem GX.blk (g : GX G ct sc X) (s : Shared) (H : Hp) (scope : Scope) (C : Addr) (cl : List (Str × Addr)) (fp : List Addr) : GX G ct (relS scope sc) (X.blk s H scope (compEnvC scope cl C X.env) fp) :=
  ⟨g.N, g.nd, by rw [← g.sc]; rfl, g.calm, g.units, g.blt, g.fns, g.xk⟩
theorem GX.vis (g : GX G ct sc X) {x : Str} (h : visB sc x = true) : Vis X.env.scope x := by
  rw [g.sc]
  unfold visB at h
  unfold Vis
  split at h
  · exact .inl (by assumption)
  · exact .inr (.inl (by assumption))
  · exact .inr (.inr (by assumption))
  · cases h
theorem GX.gl (g : GX G ct sc X) {x : Str} (h : glB sc x = true) : Gl X x := by
  show X.env.scope.names.lookup x = some .globalImplicit
  rw [g.sc]
  unfold glB at h
  split at h
  · assumption
  · cases h
theorem locB_some {x : Str} (h : locB sc x = true) : sc.names.lookup x = some .local := by
  unfold locB at h
  split at h
  · assumption
  · cases h
theorem loc2B_some {x : Str} (h : loc2B sc x = true) : sc.names.lookup x = some .local ∨ sc.names.lookup x = some .cell := by
  unfold loc2B at h
  split at h
  · exact .inl (by assumption)
  · exact .inr (by assumption)
  · cases h
theorem nameB_some {x : Str} (h : nameB x = true) : (x == ("__debug__" : Str)) = false ∧ (x == ("__classdict__" : Str)) = false := by
  unfold nameB at h
  simp only [Bool.and_eq_true, Bool.not_eq_true'] at h
  exact h
/-- facts of the outermost node -/
structure Pl (x : Expr) : Prop where
  st : NoStar x
  ix : PlainIx x
  fo : ∀ env v, foldedSetIterable x env v = pure v
  b1 : behindInMarks .In x = false
  b2 : behindInMarks .NotIn x = false
theorem NoStar.few {e : Expr} (h : NoStar e) (cpos : Pos) (env : Env) : ((backTo cpos (starEach [e] env)).all (fun x => !x.1) && (backToKw cpos (keywordEach [] env)).all (fun x => x.1.isSome)
      && decide ([e].length + ([] : List Keyword).length + (if ([] : List Keyword).isEmpty then 0 else 1) < 30)) = true := by
  rw [h]
  rfl
/-- what the checker's yes means -/
structure Res (X : Cx) (x : Expr) (f : Env' → Rs) : Prop where
  pl : Pl x
  pe : PE X x (tQ X.K f)
  pt : PT X x (tQT X.K (bOf f))
theorem Res.plain {x : Expr} {f : Env' → Rs} (pl : Pl x) (h : PE X x (tQ X.K f)) (hp : PlainTest x) : Res X x f := ⟨pl, h, q_test h hp⟩
structure ResB (X : Cx) (xs : List Expr) (f : Env' → Option (List D)) : Prop where
  pa : PA X xs (tQB X.K f)
  st : ∀ env, starEach xs env = xs.map fun e => (false, eval e env)
structure ResA (X : Cx) (xs : List Expr) (f : Env' → Option (List D)) : Prop where
  pa : PA X xs (tQA X.K f)
  st : ∀ env, starEach xs env = xs.map fun e => (false, eval e env)
theorem st_any {xs : List Expr} {pos : Pos} {env : Env} (h : starEach xs env = xs.map fun e => (false, eval e env)) : (backTo pos (starEach xs env)).any (·.1) = false := by
  rw [h]
  unfold backTo
  induction xs with
  | nil => rfl
  | cons x xs ih =>
    rw [List.map_cons, List.map_cons, List.any_cons]
    simp
end
end Ev
/-! Ev: soundness for expressions. -/
namespace Ev
open PySem PySem.Spec PyProof.Rows L2
section
variable {X : Cx} {G : Sg} {ct : Ct} {sc : Scope}
theorem okNames_pgs {ok : Str → Bool} (hN : X.N = G.N) (nd : X.N.Nodup) (hx : ∀ x, ok x = true → Loc X.env.scope x ∧ (X.fn x = true ∨ X.env.scope.names.lookup x = some .local)) : ∀ (is : List Nat) (es : List Expr), okNames G ok is es = true →
    PGs X es (gNames is) ∧ (assignEach es X.env).length = is.length ∧ (assignEach es X.env).findIdx? (·.1) = none
  | [], [], _ => ⟨pgs_nil, rfl, rfl⟩
  | i :: is, e :: es, h => by
    simp only [okNames, Bool.and_eq_true] at h
    obtain ⟨h1, h2⟩ := h
    split at h1
    · rename_i x hn
      simp only [Bool.and_eq_true, decide_eq_true_eq] at h1
      obtain ⟨p, rfl⟩ := vName_some hn
      obtain ⟨a1, a2, a3⟩ := okNames_pgs hN nd hx is es h2
      obtain ⟨b1, b2⟩ := hx x h1.2
      refine ⟨pgs_cons (pg_name nd (by rw [hN]; exact h1.1) b1 b2) a1, ?_, ?_⟩
      · show (assignEach es X.env).length + 1 = is.length + 1
        rw [a2]
      · show List.findIdx? (·.1) ((false, assign (.Name x p) X.env) :: assignEach es X.env) = none
        rw [List.findIdx?_cons]
        simp [a3]
    · cases h1
  | [], _ :: _, h => by cases h
  | _ :: _, [], h => by cases h
theorem okTg_pg {ok : Str → Bool} (hN : X.N = G.N) (nd : X.N.Nodup) (hc : X.calm = true) (hx : ∀ x, ok x = true → Loc X.env.scope x ∧ (X.fn x = true ∨ X.env.scope.names.lookup x = some .local)) (tg : Tg) (e : Expr) (h : okTg G ok tg e = true) : PG X e (gQ X.K tg) := by
  cases tg with
  | one i =>
    simp only [okTg, okNames, Bool.and_eq_true] at h
    obtain ⟨h1, _⟩ := h
    split at h1
    · rename_i x hn
      simp only [Bool.and_eq_true, decide_eq_true_eq] at h1
      obtain ⟨p, rfl⟩ := vName_some hn
      obtain ⟨b1, b2⟩ := hx x h1.2
      exact g_one (pg_name nd (by rw [hN]; exact h1.1) b1 b2)
    · cases h1
  | many is =>
    simp only [okTg] at h
    split at h
    · rename_i es hn
      obtain ⟨k, p, rfl⟩ := vTup_some hn
      obtain ⟨a1, a2, a3⟩ := okNames_pgs hN nd hx is es h
      exact g_many (pg_tup hc a1 a2 a3) (pg_lst hc a1 a2 a3)
    · cases h
theorem vName_pl {x : Expr} {n : Str} (h : vName x = some n) : Pl x := by
  obtain ⟨p, rfl⟩ := vName_some h
  exact ⟨fun _ _ => rfl, fun _ _ => rfl, fun _ _ => rfl, rfl, rfl⟩
theorem mem_blt {x : Str} (h : bltNames.contains x = true) : x ∈ bltNames := by simpa using h
theorem pl_call {n : Str} {es : List Expr} {p q : Pos} : Pl (.Call (.Name n p) es [] q) := ⟨fun _ _ => rfl, fun _ _ => rfl, fun _ _ => rfl, rfl, rfl⟩
theorem copOf_mark (o : Cop) : copOf o ≠ .In ∧ copOf o ≠ .NotIn := by cases o <;> exact ⟨by decide, by decide⟩
theorem sl_part {e : Ex} {l : Option Expr} {f : Env' → Rs} (h : (match l with
      | none => isNonE e
      | some y => !isNonE e && okE G sc e y) = true) (r : ∀ y, okE G sc e y = true → Res X y f) : PO X l (tQO X.K fun g => partV (isNonE e) (f g)) := by
  unfold partV
  cases l with
  | none =>
    have h : isNonE e = true := h
    simp only [h, if_true]
    exact qo_none
  | some y =>
    simp only [Bool.and_eq_true, Bool.not_eq_true'] at h
    simp only [h.1, Bool.false_eq_true, if_false]
    exact qo_some (r y h.2).pe
theorem okVar_peX (g : GX G ct sc X) {i : Nat} {e : Expr} (h : okVar G sc i e = true) : ∃ x p, e = .Name x p ∧ PE X e (tVar i) := by
  unfold okVar at h
  split at h
  · rename_i x hn
    simp only [Bool.and_eq_true, decide_eq_true_eq] at h
    obtain ⟨p, rfl⟩ := vName_some hn
    obtain ⟨d1, d2⟩ := nameB_some h.2
    exact ⟨x, p, rfl, pe_var (by rw [g.N]; exact h.1.1) (g.vis h.1.2) d1 d2⟩
  · cases h
mutual
theorem sndE : ∀ (e : Ex) (sc : Scope) (X : Cx) (x : Expr), GX G ct sc X → okE G sc e x = true → Res X x (fun g => evE ct g e)
  | .var i, sc, X, x, hg, h => by
    simp only [okE] at h
    split at h
    · rename_i n hn
      simp only [Bool.and_eq_true, decide_eq_true_eq] at h
      obtain ⟨p, rfl⟩ := vName_some hn
      obtain ⟨d1, d2⟩ := nameB_some h.2
      simp only [evE]
      exact Res.plain (vName_pl hn) (q_var (pe_var (by rw [hg.N]; exact h.1.1) (hg.vis h.1.2) d1 d2)) fun _ _ => rfl
    · cases h
  | .int n, sc, X, x, hg, h => by
    simp only [okE, decide_eq_true_eq] at h
    obtain ⟨j, p, rfl⟩ := vConst_some h
    simp only [evE]
    exact Res.plain ⟨fun _ _ => rfl, fun _ _ => rfl, fun _ _ => rfl, rfl, rfl⟩ (q_const pe_int fun _ _ => rfl) fun _ _ => rfl
  | .bl b, sc, X, x, hg, h => by
    simp only [okE, decide_eq_true_eq] at h
    obtain ⟨j, p, rfl⟩ := vConst_some h
    simp only [evE]
    exact Res.plain ⟨fun _ _ => rfl, fun _ _ => rfl, fun _ _ => rfl, rfl, rfl⟩ (q_const pe_bl fun _ _ => rfl) fun _ _ => rfl
  | .non, sc, X, x, hg, h => by
    simp only [okE, decide_eq_true_eq] at h
    obtain ⟨j, p, rfl⟩ := vConst_some h
    simp only [evE]
    exact Res.plain ⟨fun _ _ => rfl, fun _ _ => rfl, fun _ _ => rfl, rfl, rfl⟩ (q_const pe_non fun _ _ => rfl) fun _ _ => rfl
  | .str s, sc, X, x, hg, h => by
    simp only [okE, decide_eq_true_eq] at h
    obtain ⟨j, p, rfl⟩ := vConst_some h
    simp only [evE]
    exact Res.plain ⟨fun _ _ => rfl, fun _ _ => rfl, fun _ _ => rfl, rfl, rfl⟩ (q_const pe_str fun _ _ => rfl) fun _ _ => rfl
  | .bin o a b, sc, X, x, hg, h => by
    simp only [okE] at h
    split at h
    · rename_i l p r hn
      simp only [Bool.and_eq_true, decide_eq_true_eq] at h
      obtain ⟨q, rfl⟩ := vBin_some hn
      obtain ⟨⟨rfl, h1⟩, h2⟩ := h
      simp only [evE]
      exact Res.plain ⟨fun _ _ => rfl, fun _ _ => rfl, fun _ _ => rfl, rfl, rfl⟩ (q_bin (sndE a sc X _ hg h1).pe (sndE b sc X _ hg h2).pe) fun _ _ => rfl
    · cases h
  | .neg a, sc, X, x, hg, h => by
    simp only [okE] at h
    split at h
    · rename_i y hn
      obtain ⟨q, rfl⟩ := vUn_some hn
      simp only [evE]
      exact Res.plain ⟨fun _ _ => rfl, fun _ _ => rfl, fun _ _ => rfl, rfl, rfl⟩ (q_neg (sndE a sc X _ hg h).pe) fun _ _ => rfl
    · cases h
  | .not a, sc, X, x, hg, h => by
    simp only [okE] at h
    split at h
    · rename_i y hn
      obtain ⟨q, rfl⟩ := vUn_some hn
      simp only [evE]
      have r := sndE a sc X _ hg h
      exact ⟨⟨fun _ _ => rfl, fun _ _ => rfl, fun _ _ => rfl, rfl, rfl⟩, q_not r.pe, q_notT r.pt⟩
    · cases h
  | .cmp o a b, sc, X, x, hg, h => by
    simp only [okE] at h
    split at h
    · rename_i l p r hn
      simp only [Bool.and_eq_true, decide_eq_true_eq] at h
      obtain ⟨q, rfl⟩ := vCmp_some hn
      obtain ⟨⟨rfl, h1⟩, h2⟩ := h
      simp only [evE]
      have r1 := (sndE a sc X _ hg h1).pe
      have r2 := (sndE b sc X _ hg h2).pe
      have hu := hg.units
      exact ⟨⟨fun _ _ => rfl, fun _ _ => rfl, fun _ _ => rfl, rfl, rfl⟩, q_cmp (by omega) r1 r2, q_cmpT (by omega) r1 r2⟩
    · cases h
  | .isN a, sc, X, x, hg, h => by
    simp only [okE] at h
    split at h
    · rename_i l r hn
      simp only [Bool.and_eq_true, decide_eq_true_eq] at h
      obtain ⟨q, rfl⟩ := vCmp_some hn
      obtain ⟨h1, h2⟩ := h
      obtain ⟨j, p, rfl⟩ := vConst_some h2
      simp only [evE]
      have r1 := (sndE a sc X _ hg h1).pe
      exact ⟨⟨fun _ _ => rfl, fun _ _ => rfl, fun _ _ => rfl, rfl, rfl⟩, q_isN r1, q_isNT r1⟩
    · cases h
  | .notN a, sc, X, x, hg, h => by
    simp only [okE] at h
    split at h
    · rename_i l r hn
      simp only [Bool.and_eq_true, decide_eq_true_eq] at h
      obtain ⟨q, rfl⟩ := vCmp_some hn
      obtain ⟨h1, h2⟩ := h
      obtain ⟨j, p, rfl⟩ := vConst_some h2
      simp only [evE]
      have r1 := (sndE a sc X _ hg h1).pe
      exact ⟨⟨fun _ _ => rfl, fun _ _ => rfl, fun _ _ => rfl, rfl, rfl⟩, q_notN r1, q_notNT r1⟩
    · cases h
  | .inn a b, sc, X, x, hg, h => by
    simp only [okE] at h
    split at h
    · rename_i l r hn
      simp only [Bool.and_eq_true] at h
      obtain ⟨q, rfl⟩ := vCmp_some hn
      obtain ⟨h1, h2⟩ := h
      simp only [evE]
      have r1 := (sndE a sc X _ hg h1).pe
      have r2 := sndE b sc X _ hg h2
      exact ⟨⟨fun _ _ => rfl, fun _ _ => rfl, fun _ _ => rfl, rfl, rfl⟩, q_in hg.units r2.pl.b1 r1 r2.pe, q_inT hg.units r2.pl.b1 r1 r2.pe⟩
    · cases h
  | .nin a b, sc, X, x, hg, h => by
    simp only [okE] at h
    split at h
    · rename_i l r hn
      simp only [Bool.and_eq_true] at h
      obtain ⟨q, rfl⟩ := vCmp_some hn
      obtain ⟨h1, h2⟩ := h
      simp only [evE]
      have r1 := (sndE a sc X _ hg h1).pe
      have r2 := sndE b sc X _ hg h2
      exact ⟨⟨fun _ _ => rfl, fun _ _ => rfl, fun _ _ => rfl, rfl, rfl⟩, q_nin hg.units r2.pl.b2 r1 r2.pe, q_ninT hg.units r2.pl.b2 r1 r2.pe⟩
    · cases h
  | .ands es, sc, X, x, hg, h => by
    simp only [okE] at h
    split at h
    · rename_i xs hn
      simp only [Bool.and_eq_true, Bool.not_eq_true'] at h
      obtain ⟨q, rfl⟩ := vBool_some hn
      simp only [evE]
      have r := sndAnd es sc X xs q hg h.2 h.1
      exact ⟨⟨fun _ _ => rfl, fun _ _ => rfl, fun _ _ => rfl, rfl, rfl⟩, r.1, r.2.pt⟩
    · cases h
  | .ors es, sc, X, x, hg, h => by
    simp only [okE] at h
    split at h
    · rename_i xs hn
      simp only [Bool.and_eq_true, Bool.not_eq_true'] at h
      obtain ⟨q, rfl⟩ := vBool_some hn
      simp only [evE]
      have r := sndOr es sc X xs q hg h.2 h.1
      exact ⟨⟨fun _ _ => rfl, fun _ _ => rfl, fun _ _ => rfl, rfl, rfl⟩, r.1, r.2.pt⟩
    · cases h
  | .tup es, sc, X, x, hg, h => by
    simp only [okE] at h
    split at h
    · rename_i xs hn
      obtain ⟨k, q, rfl⟩ := vTup_some hn
      simp only [evE]
      exact Res.plain ⟨fun _ _ => rfl, fun _ _ => rfl, fun _ _ => rfl, rfl, rfl⟩ (q_tup (sndEs es sc X xs hg h).pa) fun _ _ => rfl
    · cases h
  | .lst es, sc, X, x, hg, h => by
    simp only [okE] at h
    split at h
    · rename_i xs hn
      obtain ⟨q, rfl⟩ := vLst_some hn
      simp only [evE]
      exact Res.plain ⟨fun _ _ => rfl, fun _ _ => rfl, fun _ _ => rfl, rfl, rfl⟩ (q_lst (sndEs es sc X xs hg h).pa) fun _ _ => rfl
    · cases h
  | .idx a i, sc, X, x, hg, h => by
    simp only [okE] at h
    split at h
    · rename_i l r hn
      simp only [Bool.and_eq_true] at h
      obtain ⟨q, rfl⟩ := vIdx_some hn
      simp only [evE]
      have r2 := sndE i sc X _ hg h.2
      exact Res.plain ⟨fun _ _ => rfl, fun _ _ => rfl, fun _ _ => rfl, rfl, rfl⟩ (q_idx r2.pl.ix (sndE a sc X _ hg h.1).pe r2.pe) fun _ _ => rfl
    · cases h
  | .slc a lo hi, sc, X, x, hg, h => by
    simp only [okE] at h
    split at h
    · rename_i l r r' hn
      simp only [Bool.and_eq_true] at h
      obtain ⟨q, q', rfl⟩ := vSlc_some hn
      obtain ⟨⟨h1, h2⟩, h3⟩ := h
      simp only [evE]
      exact Res.plain ⟨fun _ _ => rfl, fun _ _ => rfl, fun _ _ => rfl, rfl, rfl⟩ (q_slc (sndE a sc X _ hg h1).pe (sl_part h2 fun y hy => sndE lo sc X y hg hy) (sl_part h3 fun y hy => sndE hi sc X y hg hy)) fun _ _ => rfl
    · cases h
  | .b1 f a, sc, X, x, hg, h => by
    simp only [okE] at h
    split at h
    · rename_i n y hn
      simp only [Bool.and_eq_true, decide_eq_true_eq] at h
      obtain ⟨q, q', rfl⟩ := vCall_some hn
      obtain ⟨⟨rfl, h1⟩, h2⟩ := h
      have hgl := hg.gl h1
      simp only [evE]
      cases f with
      | sset =>
        replace h2 : (match vCall y with
          | some (n2, [z]) => decide (n2 = "set") && glB sc "set" && okE G sc a z
          | _ => false) = true := h2
        split at h2
        · rename_i n2 z hn2
          rw [Bool.and_eq_true, Bool.and_eq_true, decide_eq_true_eq] at h2
          obtain ⟨q2, q3, rfl⟩ := vCall_some hn2
          obtain ⟨⟨rfl, h3⟩, h4⟩ := h2
          have r := sndE a sc X _ hg h4
          have hu := hg.units
          exact Res.plain pl_call (q_sset hg.calm (by omega) hgl (hg.blt _ (by decide +kernel)) (hg.gl h3) (hg.blt _ (by decide +kernel)) r.pl.st r.pe) fun _ _ => rfl
        · cases h2
      | srt =>
        replace h2 : okE G sc a y = true := h2
        have r := sndE a sc X _ hg h2
        exact Res.plain pl_call (q_srt hgl (hg.blt _ (by decide +kernel)) r.pl.st r.pe) fun _ _ => rfl
      | ssp =>
        replace h2 : okE G sc a y = true := h2
        have r := sndE a sc X _ hg h2
        have hu := hg.units
        exact Res.plain pl_call (q_ssp (by omega) hgl (hg.blt _ (by decide +kernel)) r.pl.st r.pe) fun _ _ => rfl
      | lrev =>
        replace h2 : (match vCall y with
          | some (n2, [z]) => decide (n2 = "reversed") && glB sc "reversed" && okE G sc a z
          | _ => false) = true := h2
        split at h2
        · rename_i n2 z hn2
          rw [Bool.and_eq_true, Bool.and_eq_true, decide_eq_true_eq] at h2
          obtain ⟨q2, q3, rfl⟩ := vCall_some hn2
          obtain ⟨⟨rfl, h3⟩, h4⟩ := h2
          have r := sndE a sc X _ hg h4
          exact Res.plain pl_call (q_listRev hg.calm hgl (hg.blt _ (by decide +kernel)) (hg.gl h3) (hg.blt _ (by decide +kernel)) r.pl.st r.pe) fun _ _ => rfl
        · cases h2
      | abs => have r := sndE a sc X _ hg h2; exact Res.plain pl_call (q_abs hgl (hg.blt _ (by decide +kernel)) r.pl.st r.pe) fun _ _ => rfl
      | len => have r := sndE a sc X _ hg h2; exact Res.plain pl_call (q_len hgl (hg.blt _ (by decide +kernel)) r.pl.st r.pe) fun _ _ => rfl
      | int => have r := sndE a sc X _ hg h2; exact Res.plain pl_call (q_int hgl (hg.blt _ (by decide +kernel)) r.pl.st r.pe) fun _ _ => rfl
      | sum => have r := sndE a sc X _ hg h2; exact Res.plain pl_call (q_sum hg.calm hgl (hg.blt _ (by decide +kernel)) r.pl.st r.pe) fun _ _ => rfl
      | min => have r := sndE a sc X _ hg h2; exact Res.plain pl_call (q_min hg.calm hgl (hg.blt _ (by decide +kernel)) r.pl.st r.pe) fun _ _ => rfl
      | max => have r := sndE a sc X _ hg h2; exact Res.plain pl_call (q_max hg.calm hgl (hg.blt _ (by decide +kernel)) r.pl.st r.pe) fun _ _ => rfl
      | list => have r := sndE a sc X _ hg h2; exact Res.plain pl_call (q_list hgl (hg.blt _ (by decide +kernel)) r.pl.st r.pe) fun _ _ => rfl
    · cases h
  | .ldk i, sc, X, x, hg, h => by
    simp only [okE] at h
    split at h
    · rename_i n y hn
      simp only [Bool.and_eq_true, decide_eq_true_eq] at h
      obtain ⟨q, q', rfl⟩ := vCall_some hn
      obtain ⟨⟨rfl, h1⟩, h2⟩ := h
      obtain ⟨z, q2, rfl, pv⟩ := okVar_peX hg h2
      simp only [evE]
      exact Res.plain pl_call (q_ldk hg.calm (hg.gl h1) (hg.blt _ (by decide +kernel)) pv) fun _ _ => rfl
    · cases h
  | .b2 f a b, sc, X, x, hg, h => by
    simp only [okE] at h
    split at h
    · rename_i n y z hn
      simp only [Bool.and_eq_true, decide_eq_true_eq] at h
      obtain ⟨q, q', rfl⟩ := vCall_some hn
      obtain ⟨⟨⟨rfl, h1⟩, h2⟩, h3⟩ := h
      have hgl := hg.gl h1
      have r1 := sndE a sc X _ hg h2
      have r2 := sndE b sc X _ hg h3
      simp only [evE]
      cases f with
      | min => exact Res.plain pl_call (q_min2 hg.calm hgl (hg.blt _ (by decide +kernel)) r1.pl.st r2.pl.st r1.pe r2.pe) fun _ _ => rfl
      | max => exact Res.plain pl_call (q_max2 hg.calm hgl (hg.blt _ (by decide +kernel)) r1.pl.st r2.pl.st r1.pe r2.pe) fun _ _ => rfl
    · cases h
  | .isi a t, sc, X, x, hg, h => by
    simp only [okE] at h
    split at h
    · rename_i n y z hn
      simp only [Bool.and_eq_true, decide_eq_true_eq] at h
      obtain ⟨q, q', rfl⟩ := vCall_some hn
      obtain ⟨⟨⟨⟨rfl, h1⟩, h2⟩, h3⟩, h4⟩ := h
      obtain ⟨q2, rfl⟩ := vName_some h3
      have r1 := sndE a sc X _ hg h2
      simp only [evE]
      exact Res.plain pl_call (q_isi (hg.gl h1) (hg.blt _ (by decide +kernel)) (hg.gl h4) (hg.blt _ (by cases t <;> decide +kernel)) r1.pl.st r1.pe) fun _ _ => rfl
    · cases h
  | .isx a cs many, sc, X, x, hg, h => by
    simp only [okE] at h
    split at h
    · rename_i n y z hn
      simp only [Bool.and_eq_true, decide_eq_true_eq] at h
      obtain ⟨q, q', rfl⟩ := vCall_some hn
      obtain ⟨⟨⟨rfl, h1⟩, h2⟩, h3⟩ := h
      have r1 := sndE a sc X _ hg h2
      refine Res.plain pl_call ?_ fun _ _ => rfl
      cases hf : ct flagX [] with
      | none =>
        refine ⟨fun pins s σ H Q I ⟨_, _, g, _, _, _, e, _⟩ => ?_⟩
        simp only [evE, hf] at e
        cases e
      | some v =>
        have xk := hg.xk (by rw [hf]; simp)
        have e : (fun g => evE ct g (.isx a cs many)) = isxF cs fun g => evE ct g a := by
          funext g
          simp only [evE, hf]
          rfl
        rw [e]
        cases many with
        | true =>
          replace h3 : (decide (cs.length ≤ 1000) && (match vTup z with
            | some ys => okCls (glB sc) cs ys
            | none => false)) = true := h3
          rw [Bool.and_eq_true, decide_eq_true_eq] at h3
          obtain ⟨h3, h4⟩ := h3
          split at h4
          · rename_i ys hy
            obtain ⟨kk, q2, rfl⟩ := vTup_some hy
            exact q_isxs xk (fun x hx => hg.gl hx) h4 h3 (hg.gl h1) (hg.blt _ (by decide +kernel)) r1.pl.st r1.pe
          · cases h4
        | false =>
          replace h3 : okCls (glB sc) cs [z] = true := h3
          cases cs with
          | nil => cases h3
          | cons d ds =>
            cases ds with
            | cons d2 ds => simp only [okCls, Bool.and_eq_true] at h3; exact absurd h3.2 (by simp)
            | nil =>
              simp only [okCls, Bool.and_eq_true, decide_eq_true_eq] at h3
              obtain ⟨⟨h4, h5⟩, _⟩ := h3
              split at h5
              · simp only [Bool.and_eq_true, decide_eq_true_eq] at h5
                obtain ⟨rfl, h6⟩ := h5
                exact q_isx1 xk h4 (hg.gl h1) (hg.blt _ (by decide +kernel)) (hg.gl h6) r1.pl.st r1.pe
              · cases h5
    · cases h
  | .maxd a d, sc, X, x, hg, h => by
    simp only [okE] at h
    split at h
    · rename_i n y k z hn
      simp only [Bool.and_eq_true, decide_eq_true_eq] at h
      obtain ⟨q, q', kp, rfl⟩ := vCallD_some hn
      obtain ⟨⟨⟨⟨rfl, rfl⟩, h1⟩, h2⟩, h3⟩ := h
      have r := sndE a sc X _ hg h2
      have r2 := sndE d sc X _ hg h3
      simp only [evE]
      exact Res.plain ⟨fun _ _ => rfl, fun _ _ => rfl, fun _ _ => rfl, rfl, rfl⟩ (q_maxd hg.calm (hg.gl h1) (hg.blt _ (by decide +kernel)) r.pl.st r.pe r2.pe) fun _ _ => rfl
    · cases h
  | .cnt a b, sc, X, x, hg, h => by
    simp only [okE] at h
    split at h
    · rename_i o m y hn
      simp only [Bool.and_eq_true, decide_eq_true_eq] at h
      obtain ⟨⟨⟨rfl, h1⟩, h2⟩, h3⟩ := h
      obtain ⟨p, q, rfl, hl⟩ := vMeth_some hn
      obtain ⟨n, hn2⟩ := Option.isSome_iff_exists.mp h1
      obtain ⟨p2, rfl⟩ := vName_some hn2
      have r1 := sndE a sc X _ hg h2
      have r2 := sndE b sc X _ hg h3
      simp only [evE]
      exact Res.plain ⟨fun _ _ => rfl, fun _ _ => rfl, fun _ _ => rfl, rfl, rfl⟩ (q_cnt hg.units r2.pl.st hl (r2.pl.st.few _ _) r1.pe r2.pe) fun _ _ => rfl
    · cases h
  | .call f es, sc, X, x, hg, h => by
    simp only [okE] at h
    split at h
    · rename_i n xs hn
      simp only [Bool.and_eq_true, decide_eq_true_eq, Bool.not_eq_true'] at h
      obtain ⟨q, q', rfl⟩ := vCall_some hn
      obtain ⟨⟨⟨⟨h1, h2⟩, h3⟩, h4⟩, h5⟩ := h
      obtain ⟨k, fa, fd, ps, m1, m2, m3, m4, m5⟩ := hg.fns f n h1
      have r := sndEs es sc X xs hg h5
      simp only [evE]
      cases xs with
      | nil =>
        cases es with
        | nil => cases h4
        | cons e es => simp only [okEs] at h5; cases h5
      | cons y ys =>
        have hst := r.st
        have ns : NoStar y := by
          cases es with
          | nil => cases h4
          | cons e es =>
            simp only [okEs, Bool.and_eq_true] at h5
            exact (sndE e sc X y hg h5.1).pl.st
        have hpl : (backTo q' (starEach ys X.env)).any (·.1) = false := by
          refine st_any ?_
          have := hst X.env
          rw [ns] at this
          exact (List.cons.inj this).2
        exact Res.plain pl_call (q_call m2 m5 (hg.gl h2) m1 m3 m4 (nameB_some h3).1 ns hpl r.pa) fun _ _ => rfl
    · cases h
  | .callB f es, sc, X, x, hg, h => by
    simp only [okE] at h
    split at h
    · rename_i n xs hn
      simp only [Bool.and_eq_true, decide_eq_true_eq, Bool.not_eq_true'] at h
      obtain ⟨q, q', rfl⟩ := vCall_some hn
      obtain ⟨⟨⟨⟨h1, h2⟩, h3⟩, h4⟩, h5⟩ := h
      obtain ⟨k, fa, fd, ps, m1, m2, m3, m4, m5⟩ := hg.fns f n h1
      have r := sndEsB es sc X xs hg h5
      have r' := sndEs es sc X xs hg h5
      simp only [evE]
      cases xs with
      | nil =>
        cases es with
        | nil => cases h4
        | cons e es => simp only [okEs] at h5; cases h5
      | cons y ys =>
        have hst := r.st
        have ns : NoStar y := by
          cases es with
          | nil => cases h4
          | cons e es =>
            simp only [okEs, Bool.and_eq_true] at h5
            exact (sndE e sc X y hg h5.1).pl.st
        have hpl : (backTo q' (starEach ys X.env)).any (·.1) = false := by
          refine st_any ?_
          have := hst X.env
          rw [ns] at this
          exact (List.cons.inj this).2
        exact Res.plain pl_call (q_callBF (q_call m2 m5 (hg.gl h2) m1 m3 m4 (nameB_some h3).1 ns hpl r'.pa) (q_callB m2 m5 (hg.gl h2) m1 m3 m4 (nameB_some h3).1 ns hpl r.pa)) fun _ _ => rfl
    · cases h
  | .comp elt tg it c, sc, X, x, hg, h => by
    simp only [okE] at h
    split at h
    · rename_i elt' tg' it' ifs scope hn
      simp only [Bool.and_eq_true] at h
      obtain ⟨q, rfl⟩ := vComp_some hn
      obtain ⟨⟨⟨⟨h1, h2⟩, h3⟩, h4⟩, h5⟩ := h
      simp only [evE]
      have hi := sndI it sc X tg' it' hg h1
      have ok : BlkOk X.N X.env.scope scope (ownOf G tg) := by rw [hg.N, hg.sc]; exact blkOk_by h2
      have hb := fun s H C cl fp => hg.blk s H scope C cl fp
      have p : PE X (.ListComp elt' [⟨tg', it', ifs, 0⟩] scope q) (tLc (tQI X.K fun g => evI ct g it) (gQ X.K tg) (tQT X.K fun g => evC ct g c) (tQ X.K fun g => evE ct g elt) ((ownOf G tg).map (·.2))) :=
        pe_lc hg.calm hg.nd hi.1 ok
          (fun s H C cl fp => okTg_pg (hb s H C cl fp).N (hb s H C cl fp).nd (hb s H C cl fp).calm (fun x hx => by
            have z := locB_some hx
            rw [← (hb s H C cl fp).sc] at z
            exact ⟨.inl z, .inr z⟩) tg tg' h3)
          (fun s H C cl fp => sndC c _ _ ifs (hb s H C cl fp) h4)
          (fun s H C cl fp => (sndE elt _ _ elt' (hb s H C cl fp) h5).pe) hi.2
      have e : (ownOf G tg).map (·.2) = tgSlots tg := by simp [ownOf, Function.comp_def]
      rw [e] at p
      exact Res.plain ⟨fun _ _ => rfl, fun _ _ => rfl, fun _ _ => rfl, rfl, rfl⟩ (p.imp fun _ _ _ z => comp_read z) fun _ _ => rfl
    · cases h
theorem sndEs : ∀ (es : Exs) (sc : Scope) (X : Cx) (xs : List Expr), GX G ct sc X → okEs G sc es xs = true → ResA X xs (fun g => evs ct g es)
  | .nil, sc, X, xs, hg, h => by
    cases xs with
    | nil => simp only [evs]; exact ⟨qa_nil, fun _ => rfl⟩
    | cons => simp only [okEs] at h; cases h
  | .cons e es, sc, X, xs, hg, h => by
    cases xs with
    | nil => simp only [okEs] at h; cases h
    | cons x xs =>
      simp only [okEs, Bool.and_eq_true] at h
      have r1 := sndE e sc X x hg h.1
      have r2 := sndEs es sc X xs hg h.2
      simp only [evs]
      refine ⟨qa_cons r1.pe r2.pa (r1.pl.st _ _), fun env => ?_⟩
      rw [r1.pl.st, r2.st]
      rfl
theorem sndEsB : ∀ (es : Exs) (sc : Scope) (X : Cx) (xs : List Expr), GX G ct sc X → okEs G sc es xs = true → ResB X xs (fun g => evsB ct g es)
  | .nil, sc, X, xs, hg, h => by
    cases xs with
    | nil => simp only [evsB]; exact ⟨qb_nil, fun _ => rfl⟩
    | cons => simp only [okEs] at h; cases h
  | .cons e es, sc, X, xs, hg, h => by
    cases xs with
    | nil => simp only [okEs] at h; cases h
    | cons x xs =>
      simp only [okEs, Bool.and_eq_true] at h
      have r1 := sndE e sc X x hg h.1
      have r2 := sndEsB es sc X xs hg h.2
      simp only [evsB]
      refine ⟨qb_cons r1.pe r2.pa (r1.pl.st _ _), fun env => ?_⟩
      rw [r1.pl.st, r2.st]
      rfl
theorem sndC : ∀ (es : Exs) (sc : Scope) (X : Cx) (xs : List Expr), GX G ct sc X → okCs G sc es xs = true → PTs X xs (tQT X.K fun g => evC ct g es)
  | .nil, sc, X, xs, hg, h => by
    cases xs with
    | nil =>
      simp only [evC]
      exact ⟨fun pins s σ H Q I ⟨H0, O, g, b, S, e, q⟩ => by
        cases e
        exact pts_nil.run pins s σ H Q I (q H (Same.refl H))⟩
    | cons => simp only [okCs] at h; cases h
  | .cons e es, sc, X, xs, hg, h => by
    simp only [okCs] at h
    split at h
    · rename_i x
      simp only [Bool.and_eq_true] at h
      have r1 := sndE e sc X x hg h.1
      cases es with
      | nil =>
        simp only [evC]
        exact pts_one r1.pt
      | cons => cases h.2
    · cases h
theorem sndAnd : ∀ (es : Exs) (sc : Scope) (X : Cx) (xs : List Expr) (pos : Pos), GX G ct sc X → okEs G sc es xs = true → isNil es = false → PE X (.BoolOp .And xs pos) (tQ X.K fun g => evAnd ct g es) ∧ PW X (.BoolOp .And xs pos) (tQT X.K (bOf fun g => evAnd ct g es))
  | .nil, sc, X, xs, pos, hg, h, hn => by cases hn
  | .cons e .nil, sc, X, xs, pos, hg, h, hn => by
    cases xs with
    | nil => simp only [okEs] at h; cases h
    | cons x xs =>
      simp only [okEs, Bool.and_eq_true] at h
      have r1 := sndE e sc X x hg h.1
      cases xs with
      | cons => cases h.2
      | nil =>
        simp only [evAnd]
        exact ⟨q_one r1.pe, q_oneW_and r1.pt⟩
  | .cons e (.cons e2 es), sc, X, xs, pos, hg, h, hn => by
    cases xs with
    | nil => simp only [okEs] at h; cases h
    | cons x xs =>
      have h' : okE G sc e x = true ∧ okEs G sc (.cons e2 es) xs = true := by
        rw [okEs, Bool.and_eq_true] at h; exact h
      have r1 := sndE e sc X x hg h'.1
      have r2 := sndAnd (.cons e2 es) sc X xs pos hg h'.2 rfl
      cases xs with
      | nil => cases h'.2
      | cons y ys =>
        have ev : (fun g => evAnd ct g (.cons e (.cons e2 es))) = andF (fun g => evE ct g e) (fun g => evAnd ct g (.cons e2 es)) := by
          funext g; rw [evAnd]; rfl
          intro z; cases z
        rw [ev]
        exact ⟨q_and r1.pe r2.1, q_andW r1.pt r2.2⟩
theorem sndOr : ∀ (es : Exs) (sc : Scope) (X : Cx) (xs : List Expr) (pos : Pos), GX G ct sc X → okEs G sc es xs = true → isNil es = false → PE X (.BoolOp .Or xs pos) (tQ X.K fun g => evOr ct g es) ∧ PW X (.BoolOp .Or xs pos) (tQT X.K (bOf fun g => evOr ct g es))
  | .nil, sc, X, xs, pos, hg, h, hn => by cases hn
  | .cons e .nil, sc, X, xs, pos, hg, h, hn => by
    cases xs with
    | nil => simp only [okEs] at h; cases h
    | cons x xs =>
      simp only [okEs, Bool.and_eq_true] at h
      have r1 := sndE e sc X x hg h.1
      cases xs with
      | cons => cases h.2
      | nil =>
        simp only [evOr]
        exact ⟨q_one r1.pe, q_oneW_or r1.pt⟩
  | .cons e (.cons e2 es), sc, X, xs, pos, hg, h, hn => by
    cases xs with
    | nil => simp only [okEs] at h; cases h
    | cons x xs =>
      have h' : okE G sc e x = true ∧ okEs G sc (.cons e2 es) xs = true := by
        rw [okEs, Bool.and_eq_true] at h; exact h
      have r1 := sndE e sc X x hg h'.1
      have r2 := sndOr (.cons e2 es) sc X xs pos hg h'.2 rfl
      cases xs with
      | nil => cases h'.2
      | cons y ys =>
        have ev : (fun g => evOr ct g (.cons e (.cons e2 es))) = orF (fun g => evE ct g e) (fun g => evOr ct g (.cons e2 es)) := by
          funext g; rw [evOr]; rfl
          intro z; cases z
        rw [ev]
        exact ⟨q_or r1.pe r2.1, q_orW r1.pt r2.2⟩
theorem sndI : ∀ (i : Itx) (sc : Scope) (X : Cx) (tg x : Expr), GX G ct sc X → okI G sc i tg x = true → PI X tg x (tQI X.K fun g => evI ct g i) ∧ ∀ v, foldedSetIterable x X.env v = pure v
  | .ex a, sc, X, tg, x, hg, h => by
    simp only [okI] at h
    have r := sndE a sc X x hg h
    simp only [evI]
    exact ⟨i_ex r.pe, r.pl.fo X.env⟩
  | .dk i, sc, X, tg, x, hg, h => by
    simp only [okI] at h
    obtain ⟨z, q2, rfl, pv⟩ := okVar_peX hg h
    simp only [evI]
    exact ⟨i_dk pv, fun _ => rfl⟩
  | .rng a, sc, X, tg, x, hg, h => by
    simp only [okI] at h
    split at h
    · rename_i n y hn
      simp only [Bool.and_eq_true, decide_eq_true_eq] at h
      obtain ⟨q, q', rfl⟩ := vCall_some hn
      obtain ⟨⟨rfl, h1⟩, h2⟩ := h
      have r := sndE a sc X _ hg h2
      simp only [evI]
      exact ⟨i_rng (hg.gl h1) (hg.blt _ (by decide +kernel)) r.pl.st r.pe, fun _ => rfl⟩
    · cases h
  | .rng2 a b, sc, X, tg, x, hg, h => by
    simp only [okI] at h
    split at h
    · rename_i n y z hn
      simp only [Bool.and_eq_true, decide_eq_true_eq] at h
      obtain ⟨q, q', rfl⟩ := vCall_some hn
      obtain ⟨⟨⟨rfl, h1⟩, h2⟩, h3⟩ := h
      have r := sndE a sc X _ hg h2
      have r2 := sndE b sc X _ hg h3
      simp only [evI]
      exact ⟨i_rng2 (hg.gl h1) (hg.blt _ (by decide +kernel)) r.pl.st r2.pl.st r.pe r2.pe, fun _ => rfl⟩
    · cases h
  | .zip a b, sc, X, tg, x, hg, h => by
    simp only [okI] at h
    split at h
    · rename_i n y z hn
      simp only [Bool.and_eq_true, decide_eq_true_eq] at h
      obtain ⟨q, q', rfl⟩ := vCall_some hn
      obtain ⟨⟨⟨⟨rfl, h1⟩, h2⟩, h3⟩, h4⟩ := h
      have r := sndE a sc X _ hg h2
      have r2 := sndE b sc X _ hg h3
      obtain ⟨es, he⟩ := Option.isSome_iff_exists.mp h4
      obtain ⟨k, p, rfl⟩ := vTup_some he
      simp only [evI]
      exact ⟨i_zip (hg.gl h1) (hg.blt _ (by decide +kernel)) r.pl.st r2.pl.st r.pe r2.pe, fun _ => rfl⟩
    · cases h
  | .enum a, sc, X, tg, x, hg, h => by
    simp only [okI] at h
    split at h
    · rename_i n y hn
      simp only [Bool.and_eq_true, decide_eq_true_eq] at h
      obtain ⟨q, q', rfl⟩ := vCall_some hn
      obtain ⟨⟨⟨rfl, h1⟩, h2⟩, h4⟩ := h
      have r := sndE a sc X _ hg h2
      obtain ⟨es, he⟩ := Option.isSome_iff_exists.mp h4
      obtain ⟨k, p, rfl⟩ := vTup_some he
      simp only [evI]
      exact ⟨i_enum (hg.gl h1) (hg.blt _ (by decide +kernel)) r.pl.st r.pe, fun _ => rfl⟩
    · cases h
  | .rev a, sc, X, tg, x, hg, h => by
    simp only [okI] at h
    split at h
    · rename_i n y hn
      simp only [Bool.and_eq_true, decide_eq_true_eq] at h
      obtain ⟨q, q', rfl⟩ := vCall_some hn
      obtain ⟨⟨rfl, h1⟩, h2⟩ := h
      have r := sndE a sc X _ hg h2
      simp only [evI]
      exact ⟨i_rev (hg.gl h1) (hg.blt _ (by decide +kernel)) r.pl.st r.pe, fun _ => rfl⟩
    · cases h
end
end
end Ev
/-! Ev: statements, defs, the table. -/
namespace Ev
open PySem PySem.Spec PyProof.Rows L2

/-! ### views of statements -/
def vAsg : Stmt → Option (Expr × Expr × Nat)
  | .Assign [t] e pos => some (t, e, pos.line)
  | _ => none
def vEx : Stmt → Option Expr
  | .Expr e _ => some e
  | _ => none
def vRet : Stmt → Option Expr
  | .Return (some e) _ => some e
  | _ => none
def vIf : Stmt → Option (Expr × List Stmt × List Stmt)
  | .If c a b _ => some (c, a, b)
  | _ => none
def vWhl : Stmt → Option (Expr × List Stmt)
  | .While c b [] _ => some (c, b)
  | _ => none
def vFor : Stmt → Option (Expr × Expr × List Stmt)
  | .For t i b [] _ => some (t, i, b)
  | _ => none
def vNameP : Expr → Option (Str × Pos)
  | .Name x p => some (x, p)
  | _ => none
section
variable {x : Stmt}
theorem vAsg_some {t e : Expr} {l : Nat} (h : vAsg x = some (t, e, l)) : ∃ p : Pos, p.line = l ∧ x = .Assign [t] e p := by
  unfold vAsg at h
  split at h
  · cases h; exact ⟨_, rfl, rfl⟩
  · cases h
theorem vEx_some {e : Expr} (h : vEx x = some e) : ∃ p, x = .Expr e p := by
  cases x <;> simp [vEx] at h
  subst h; exact ⟨_, rfl⟩
theorem vRet_some {e : Expr} (h : vRet x = some e) : ∃ p, x = .Return (some e) p := by
  unfold vRet at h
  split at h
  · cases h; exact ⟨_, rfl⟩
  · cases h
theorem vIf_some {c : Expr} {a b : List Stmt} (h : vIf x = some (c, a, b)) : ∃ p, x = .If c a b p := by
  cases x <;> simp [vIf] at h
  obtain ⟨rfl, rfl, rfl⟩ := h; exact ⟨_, rfl⟩
theorem vWhl_some {c : Expr} {b : List Stmt} (h : vWhl x = some (c, b)) : ∃ p, x = .While c b [] p := by
  unfold vWhl at h
  split at h
  · cases h; exact ⟨_, rfl⟩
  · cases h
theorem vFor_some {t i : Expr} {b : List Stmt} (h : vFor x = some (t, i, b)) : ∃ p, x = .For t i b [] p := by
  unfold vFor at h
  split at h
  · cases h; exact ⟨_, rfl⟩
  · cases h
theorem vNameP_some {e : Expr} {n : Str} {p : Pos} (h : vNameP e = some (n, p)) : e = .Name n p := by
  cases e <;> simp [vNameP] at h
  obtain ⟨rfl, rfl⟩ := h; rfl
end

/-! ### what is asked of an assignment's sides -/
def noComp : Expr → Bool
  | .ListComp .. => false
  | .SetComp .. => false
  | .DictComp .. => false
  | _ => true
theorem sw_no {e : Expr} (h : noComp e = true) (t : Option Expr) (l : Nat) (env : Env) : swapsWith e t l env = pure false := by
  cases e <;> first | rfl | cases h
theorem sw_sub {e o i : Expr} {p : Pos} (l : Nat) (env : Env) : swapsWithSole [.Subscript o i p] e l env = pure false := by
  cases e <;> rfl
theorem sw_tup {e : Expr} {es : List Expr} {k : Nat} {p : Pos} (l : Nat) (env : Env) : swapsWithSole [.Tuple es k p] e l env = pure false := by
  cases e <;> rfl
def swB (sc : Scope) (y : Str) (py pos : Pos) (scope : Scope) : Bool := locB sc y && (py.line == pos.line) && !(scope.names.any fun (n, k) => n == y && (k == .local || k == .cell))
theorem locB_eq (sc : Scope) (y : Str) : (sc.names.lookup y == some .local) = locB sc y := by
  unfold locB
  cases sc.names.lookup y with
  | none => rfl
  | some k => cases k <;> rfl
theorem sw_lc {elt : Expr} {gs : List Comprehension} {scope : Scope} {pos py : Pos} {y : Str} {l : Nat} {env : Env} (hk : env.scope.kind = .function) : swapsWith (.ListComp elt gs scope pos) (some (.Name y py)) l env = pure (swB env.scope y py pos scope) := by
  have hb : env.blockKind = .function := by unfold Env.blockKind; rw [hk]; rfl
  have ky : (env.kindOf y == some .local) = locB env.scope y := locB_eq env.scope y
  unfold swapsWith swB
  simp only [hb, ky, Expr.pos]
  first | rfl | simp
def noTup : Expr → Bool
  | .Tuple .. => false
  | _ => true
theorem ss_no {ts : List Expr} {k : Nat} {p : Pos} {e : Expr} (h : noTup e = true) (env : Env) : swappedStores [.Tuple ts k p] e env = pure none := by
  cases e <;> first | rfl | cases h
theorem ss_len {ts vs : List Expr} {k k2 : Nat} {p p2 : Pos} (h : (ts.length == 2 || ts.length == 3) = false) (env : Env) : swappedStores [.Tuple ts k p] (.Tuple vs k2 p2) env = pure none := by
  unfold swappedStores
  simp [h]
theorem ss_sub {o i e : Expr} {p : Pos} (env : Env) : swappedStores [.Subscript o i p] e env = pure none := by
  unfold swappedStores
  cases e <;> rfl
/-- two plain local names, stored from the right -/
def parB (sc : Scope) (x y : Str) (px py : Pos) (a b : Expr) : Bool :=
  locB sc x && locB sc y && (px.line == py.line) && !(x == y) && !([a, b].all (foldedForSure 8)) && !([a, b].all (constantsAlone 8)) && !([a, b].any fun | .Starred .. => true | _ => false)
theorem ss_par {sc : Scope} {x y : Str} {px py pt pt2 : Pos} {k k2 : Nat} {a b : Expr} {env : Env} (hs : env.scope = sc) (hk : env.scope.kind = .function) (h : parB sc x y px py a b = true) :
    swappedStores [.Tuple [.Name x px, .Name y py] k pt] (.Tuple [a, b] k2 pt2) env = pure (some [x, y]) := by
  have hb : env.blockKind = .function := by unfold Env.blockKind; rw [hk]; rfl
  unfold parB at h
  simp only [Bool.and_eq_true, Bool.not_eq_true'] at h
  obtain ⟨⟨⟨⟨⟨⟨h1, h2⟩, h3⟩, h4⟩, h5⟩, h6⟩, h7⟩ := h
  have kx : (env.kindOf x == some .local) = true := by rw [← h1, ← hs]; exact locB_eq env.scope x
  have ky : (env.kindOf y == some .local) = true := by rw [← h2, ← hs]; exact locB_eq env.scope y
  have h4' : (y == x) = false := by rw [← h4]; exact Bool.eq_iff_iff.mpr ⟨fun z => by rw [beq_iff_eq] at z; subst z; simp, fun z => by rw [beq_iff_eq] at z; subst z; simp⟩
  have h3' : (py.line == px.line) = true := by rw [beq_iff_eq] at h3 ⊢; exact h3.symm
  have ed : ([x, y] : List Str).eraseDups = [x, y] := by
    rw [List.eraseDups_cons, List.filter_cons]
    simp [h4', h4, List.eraseDups_cons]
  unfold swappedStores
  simp only [hb, h5, h6, h7, kx, ky, h3', Expr.pos, List.length_cons, List.length_nil, List.head?_cons, Option.map_some, Option.getD_some, List.filterMap_cons, List.filterMap_nil, beq_self_eq_true, Bool.and_self, if_true, ed]
  simp only [List.any_cons, List.any_nil, Bool.or_false, Bool.or_eq_false_iff] at h7
  simp
  intro z
  rcases z with z | z
  · cases a <;> first | (cases z; done) | (cases h7.1; done)
  · cases b <;> first | (cases z; done) | (cases h7.2; done)

/-! ### the checker -/
def okTgs (G : Sg) (sc : Scope) (is : List Nat) (t : Expr) (e : Expr) : Bool := match vTup t with
  | some ts => okNames G (loc2B sc) is ts && (noTup e || !(ts.length == 2 || ts.length == 3))
  | none => false
/-- f(e, ..) -/
def hasArg : Expr → Bool
  | .Call (.Name _ _) (_ :: _) [] _ => true
  | _ => false
theorem hasArg_some {x : Expr} (h : hasArg x = true) : ∃ n p e es q, x = .Call (.Name n p) (e :: es) [] q := by
  unfold hasArg at h
  split at h
  · exact ⟨_, _, _, _, _, rfl⟩
  · cases h
def isFrz : Sm → Bool
  | .frz _ => true
  | _ => false
theorem isFrz_some {s : Sm} (h : isFrz s = true) : ∃ i, s = .frz i := by
  cases s <;> first | exact ⟨_, rfl⟩ | cases h
def vSub : Expr → Option (Expr × Expr)
  | .Subscript _ (.Slice _ _ _ _) _ => none
  | .Subscript o i _ => some (o, i)
  | _ => none
def okCall (G : Sg) (sc : Scope) (f : Nat) (es : Exs) (x : Expr) : Bool := match vCall x with
  | some (n, xs) => decide (G.fn f = some n) && glB sc n && nameB n && !isNil es && okEs G sc es xs
  | none => false
def vRse : Stmt → Option Str
  | .Raise (some (.Call (.Name x _) [.Constant (.str _) _ _] [] _)) none _ => some x
  | _ => none
theorem vRse_some {s : Stmt} {x : Str} (h : vRse s = some x) : ∃ m j p p2 p3 pos, s = .Raise (some (.Call (.Name x p) [.Constant (.str m) j p2] [] p3)) none pos := by
  unfold vRse at h
  split at h
  · cases h; exact ⟨_, _, _, _, _, _, rfl⟩
  · cases h
/-- body, the clause's class and name, the name that is set, what is read -/
def vTry : Stmt → Option (List Stmt × Str × Str × Str × Str)
  | .Try body [.ExceptHandler (some (.Name x _)) (some n) [.Assign [.Name y _] (.Name m _) _] _] [] [] _ => some (body, x, n, y, m)
  | _ => none
theorem vTry_some {s : Stmt} {body : List Stmt} {x n y m : Str} (h : vTry s = some (body, x, n, y, m)) : ∃ np py pn pa pos' pos, s = .Try body [.ExceptHandler (some (.Name x np)) (some n) [.Assign [.Name y py] (.Name m pn) pa] pos'] [] [] pos := by
  unfold vTry at h
  split at h
  · cases h; exact ⟨_, _, _, _, _, _, rfl⟩
  · cases h
mutual
def okS (G : Sg) (sc : Scope) : Sm → Stmt → Bool
  | .set _ i e, st => match vAsg st with
    | some (t, x, _) => (match vNameP t with
      | some (n, py) => decide (G.N[i]? = some n) && loc2B sc n && okE G sc e x && (match e, x with
        | .comp _ _ _ _, .ListComp _ _ scope pos => true
        | _, x => noComp x)
      | none => false)
    | none => false
  | .unp is e, st => match vAsg st with
    | some (t, x, _) => okTgs G sc is t x && okE G sc e x
    | none => false
  | .par i j a b, st => match vAsg st with
    | some (.Tuple [.Name x px, .Name y py] _ _, .Tuple [a', b'] _ _, _) => decide (G.N[i]? = some x) && decide (G.N[j]? = some y) && !(i == j) && parB sc x y px py a' b' && okE G sc a a' && okE G sc b b'
    | _ => false
  | .sub i k e, st => match vAsg st with
    | some (t, x, _) => (match vSub t with
      | some (o, y) => okVar G sc i o && okE G sc k y && okE G sc e x
      | none => false)
    | none => false
  | .app i e, st => match vEx st with
    | some x => (match vMeth x with
      | some (o, m, [y]) => decide (m = "append") && okVar G sc i o && okE G sc e y
      | _ => false)
    | none => false
  | .pop i, st => match vEx st with
    | some x => (match vMeth x with
      | some (o, m, []) => decide (m = "pop") && okVar G sc i o
      | _ => false)
    | none => false
  | .popTo j i, st => match vAsg st with
    | some (t, x, _) => (match vNameP t with
      | some (n, _) => decide (G.N[j]? = some n) && loc2B sc n && (match vMeth x with
        | some (o, m, []) => decide (m = "pop") && okVar G sc i o
        | _ => false)
      | none => false)
    | none => false
  | .clr i, st => match vEx st with
    | some x => (match vMeth x with
      | some (o, m, []) => decide (m = "clear") && okVar G sc i o
      | _ => false)
    | none => false
  | .frz _, _ => false
  | .ret e, st => match vRet st with
    | some x => okE G sc e x
    | none => false
  | .retv i, st => match vRet st with
    | some x => okVar G sc i x
    | none => false
  | .ife c a b, st => match vIf st with
    | some (x, as, bs) => okE G sc c x && okSs G sc a as && okSs G sc b bs
    | none => false
  | .whl c b, st => match vWhl st with
    | some (x, bs) => okE G sc c x && okSs G sc b bs
    | none => false
  | .fr tg it b, st => match vFor st with
    | some (t, x, bs) => okTg G (loc2B sc) tg t && okI G sc it t x && okSs G sc b bs
    | none => false
  | .never, _ => true
  | .dnw i, st => match vAsg st with
    | some (t, x, _) => (match vNameP t with
      | some (n, py) => decide (G.N[i]? = some n) && loc2B sc n && vDict0 x
      | none => false)
    | none => false
  | .dpt i k, st => match vAsg st with
    | some (t, x, _) => decide (vConst x = some (.bool true)) && (match vSub t with
      | some (o, y) => okVar G sc i o && okE G sc k y
      | none => false)
    | none => false
  | .clrX e, st => match vEx st with
    | some x => (match vMeth x with
      | some (o, m, []) => decide (m = "clear") && hasArg o && okE G sc e o
      | _ => false)
    | none => false
  | .setX _ i f es, st => match vAsg st with
    | some (t, x, _) => (match vNameP t with
      | some (n, py) => decide (G.N[i]? = some n) && loc2B sc n && okCall G sc f es x
      | none => false)
    | none => false
  | .retX f es, st => match vRet st with
    | some x => okCall G sc f es x
    | none => false
  | .expX f es, st => match vEx st with
    | some x => okCall G sc f es x
    | none => false
  | .rse c, st => match vRse st with
    | some x => decide (x = xName c) && decide (c < 6) && glB sc (xName c)
    | none => false
  | .tryK b i j, st => match vTry st with
    | some (body, x, n, y, m) => decide (x = "SpotError") && glB sc "SpotError" && decide (n = m) && decide (G.N[i]? = some n) && locB sc n && nameB n && decide (G.N[j]? = some y) && loc2B sc y && okSs G sc b body
    | none => false
def okSs (G : Sg) (sc : Scope) : Sms → List Stmt → Bool
  | .nil, sts => match sts with
    | [] => true
    | _ => false
  | .cons s ss, sts => match isFrz s with
    | true => okSs G sc ss sts
    | false => match sts with
      | st :: sts => okS G sc s st && okSs G sc ss sts
      | [] => false
end

/-! ### soundness -/
structure GS (G : Sg) (ct : Ct) (sc : Scope) (X : Cx) (W : WX) : Prop extends GX G ct sc X where
  hp : PassesOwn (model X.prog X.w) X.A X.env X.xe
  fn : ∀ x, X.fn x = true
  kind : X.env.scope.kind = .function
  tk : Takes X W
  hs : X.stack = X.env :: X.outer
  hf : X.env.frame = some X.env.locals
  hex : X.ex = []
  fnx : ∀ f x, G.fn f = some x → ∃ k fa fd ps, X.mg x = some (.ref fa) ∧ FnOk X.prog X.w X.K X.mg X.base (L2.CX X.prog X.w) k fa fd ps (spU X.K ct f) ∧ PySem.W.keepIn X.K (.ref fa) = true ∧ Binds X.K fd ps [] ∧ Room k X.A
section
variable {G : Sg} {ct : Ct} {sc : Scope} {X : Cx} {W : WX}
theorem GS.tr (g : GS G ct sc X W) {W' : WX} {pn : List (Addr × Obj)} {xe : Value → Shared → Prop} (tk : Takes (X.tr pn xe) W') (hp : PassesOwn (model X.prog X.w) X.A X.env xe) : GS G ct sc (X.tr pn xe) W' :=
  ⟨⟨g.N, g.nd, g.sc, g.calm, g.units, g.blt, g.fns, g.xk⟩, hp, g.fn, g.kind, tk, g.hs, g.hf, g.hex, g.fnx⟩
theorem callU_pe (hg : GS G ct sc X W) {f : Nat} {es : Exs} {x : Expr} (h : okCall G sc f es x = true) : noComp x = true ∧ PE X x (tCallS (spU X.K ct f) (WE W) (tQA X.K fun g => evs ct g es)) := by
  unfold okCall at h
  split at h
  · rename_i n xs hn
    simp only [Bool.and_eq_true, decide_eq_true_eq, Bool.not_eq_true'] at h
    obtain ⟨q, q', rfl⟩ := vCall_some hn
    obtain ⟨⟨⟨⟨h1, h2⟩, h3⟩, h4⟩, h5⟩ := h
    obtain ⟨k, fa, fd, ps, m1, m2, m3, m4, m5⟩ := hg.fnx f n h1
    have r := sndEs es sc X xs hg.toGX h5
    refine ⟨rfl, ?_⟩
    cases xs with
    | nil =>
      cases es with
      | nil => cases h4
      | cons e es => simp only [okEs] at h5; cases h5
    | cons y ys =>
      have hst := r.st
      have ns : NoStar y := by
        cases es with
        | nil => cases h4
        | cons e es =>
          simp only [okEs, Bool.and_eq_true] at h5
          exact (sndE e sc X y hg.toGX h5.1).pl.st
      have hpl : (backTo q' (starEach ys X.env)).any (·.1) = false := by
        refine st_any ?_
        have := hst X.env
        rw [ns] at this
        exact (List.cons.inj this).2
      exact q_callU hg.tk m2 m5 (hg.gl h2) m1 m3 m4 (nameB_some h3).1 ns hpl r.pa
  · cases h
theorem GS.loc (g : GS G ct sc X W) {x : Str} (h : loc2B sc x = true) : Loc X.env.scope x := by
  rw [g.sc]
  exact loc2B_some h
theorem okVar_pe (g : GS G ct sc X W) {i : Nat} {e : Expr} (h : okVar G sc i e = true) : ∃ x p, e = .Name x p ∧ PE X e (tVar i) := by
  unfold okVar at h
  split at h
  · rename_i x hn
    simp only [Bool.and_eq_true, decide_eq_true_eq] at h
    obtain ⟨p, rfl⟩ := vName_some hn
    obtain ⟨d1, d2⟩ := nameB_some h.2
    exact ⟨x, p, rfl, pe_var (by rw [g.N]; exact h.1.1) (g.vis h.1.2) d1 d2⟩
  · cases h
theorem vSub_some {e o i : Expr} (h : vSub e = some (o, i)) : ∃ p, e = .Subscript o i p ∧ ∀ (env : Env) (v : Value), assign (.Subscript o i p) env v = (do
      let ov ← holding [v] (eval o env)
      let iv ← holding [v, ov] (eval i env)
      standAt p
      holding [v, ov, iv] (setItem ov iv v)
      release [v, ov, iv] []) := by
  unfold vSub at h
  split at h
  · cases h
  · rename_i hns
    cases h
    refine ⟨_, rfl, fun env v => ?_⟩
    cases i <;> first | rfl | exact (hns _ _ _ _ rfl).elim
  · cases h
theorem s_comp (hg : GS G ct sc X W) {own : Bool} {i : Nat} {y : Str} {py spos : Pos} {elt : Ex} {tg : Tg} {it : Itx} {c : Exs} {x : Expr} (hy : G.N[i]? = some y) (hl : loc2B sc y = true) (h : okE G sc (.comp elt tg it c) x = true) :
    PS X (.Assign [.Name y py] x spos) (tS X.K W (setF own i fun g => evE ct g (.comp elt tg it c))) := by
  have r := sndE (.comp elt tg it c) sc X x hg.toGX h
  simp only [okE] at h
  split at h
  · rename_i elt' tg' it' ifs scope hn
    simp only [Bool.and_eq_true] at h
    obtain ⟨q, rfl⟩ := vComp_some hn
    obtain ⟨⟨⟨⟨h1, h2⟩, h3⟩, h4⟩, h5⟩ := h
    have hsw := sw_lc (elt := elt') (gs := [⟨tg', it', ifs, 0⟩]) (scope := scope) (pos := q) (py := py) (y := y) (l := spos.line) hg.kind
    cases hb : swB X.env.scope y py q scope with
    | false =>
      rw [hb] at hsw
      exact s_set (ps_set hg.nd (by rw [hg.N]; exact hy) (hg.loc hl) r.pe hsw (.inl (hg.fn y)))
    | true =>
      rw [hb] at hsw
      have hloc : X.env.scope.names.lookup y = some .local := by
        unfold swB at hb
        simp only [Bool.and_eq_true] at hb
        exact locB_some hb.1.1
      have hi := sndI it sc X tg' it' hg.toGX h1
      have ok : BlkOk X.N X.env.scope scope (ownOf G tg) := by rw [hg.N, hg.sc]; exact blkOk_by h2
      have hbk := fun s H C cl fp => hg.toGX.blk s H scope C cl fp
      have p : PS X (.Assign [.Name y py] (.ListComp elt' [⟨tg', it', ifs, 0⟩] scope q) spos) (tAsg (tLc (tQI X.K fun g => evI ct g it) (gQ X.K tg) (tQT X.K fun g => evC ct g c) (tQ X.K fun g => evE ct g elt) ((ownOf G tg).map (·.2))) (gName i)) :=
        ps_setLc hg.calm hg.nd (by rw [hg.N]; exact hy) hloc hsw hi.1 ok
          (fun s H C cl fp => okTg_pg (hbk s H C cl fp).N (hbk s H C cl fp).nd (hbk s H C cl fp).calm (fun x hx => by
            have z := locB_some hx
            rw [← (hbk s H C cl fp).sc] at z
            exact ⟨.inl z, .inr z⟩) tg tg' h3)
          (fun s H C cl fp => sndC c _ _ ifs (hbk s H C cl fp) h4)
          (fun s H C cl fp => (sndE elt _ _ elt' (hbk s H C cl fp) h5).pe) hi.2
      have e : (ownOf G tg).map (·.2) = tgSlots tg := by simp [ownOf, Function.comp_def]
      rw [e] at p
      simp only [evE]
      exact s_setC p
  · cases h
mutual
theorem sndS (n : Nat) : ∀ (s : Sm) (sc : Scope) (X : Cx) (W : WX) (st : Stmt), GS G ct sc X W → okS G sc s st = true → PS X st (tS X.K W fun g => evS ct n s g)
  | .set own i e, sc, X, W, st, hg, h => by
    simp only [okS] at h
    split at h
    · rename_i t x l hn
      obtain ⟨p, hl, rfl⟩ := vAsg_some hn
      split at h
      · rename_i y py hy
        obtain rfl := vNameP_some hy
        simp only [Bool.and_eq_true, decide_eq_true_eq] at h
        obtain ⟨⟨⟨h1, h2⟩, h3⟩, h4⟩ := h
        have fin : noComp x = true → PS X (.Assign [.Name y py] x p) (tS X.K W fun g => evS ct n (.set own i e) g) := fun hc => by
          simp only [evS]
          exact s_set (ps_set hg.nd (by rw [hg.N]; exact h1) (hg.loc h2) (sndE e sc X x hg.toGX h3).pe (sw_no hc _ _ _) (.inl (hg.fn y)))
        split at h4
        · simp only [evS]
          exact s_comp hg h1 h2 h3
        · exact fin h4
      · cases h
    · cases h
  | .unp is e, sc, X, W, st, hg, h => by
    simp only [okS] at h
    split at h
    · rename_i t x l hn
      obtain ⟨p, hl, rfl⟩ := vAsg_some hn
      simp only [Bool.and_eq_true] at h
      obtain ⟨h1, h2⟩ := h
      unfold okTgs at h1
      split at h1
      · rename_i ts ht
        obtain ⟨k, q, rfl⟩ := vTup_some ht
        simp only [Bool.and_eq_true] at h1
        obtain ⟨a1, a2, a3⟩ := okNames_pgs hg.N hg.nd (fun x hx => ⟨hg.loc hx, .inl (hg.fn x)⟩) is ts h1.1
        have hss : swappedStores [.Tuple ts k q] x X.env = pure none := by
          rcases Bool.or_eq_true _ _ ▸ h1.2 with z | z
          · exact ss_no z _
          · cases hx : noTup x with
            | true => exact ss_no hx _
            | false =>
              cases x <;> first | cases hx | skip
              exact ss_len (by simpa using z) _
        simp only [evS]
        exact s_unp (ps_asg (sndE e sc X x hg.toGX h2).pe (g_many (pg_tup hg.calm a1 a2 a3) (pg_lst hg.calm a1 a2 a3)) (sw_tup _ _) hss rfl)
      · cases h1
    · cases h
  | .par i j a b, sc, X, W, st, hg, h => by
    simp only [okS] at h
    split at h
    · rename_i x px y py k1 p1 a' b' k2 p2 l hn
      obtain ⟨p, hl, rfl⟩ := vAsg_some hn
      simp only [Bool.and_eq_true, decide_eq_true_eq, Bool.not_eq_true'] at h
      obtain ⟨⟨⟨⟨⟨h1, h2⟩, h3⟩, h4⟩, h5⟩, h6⟩ := h
      have r1 := sndE a sc X a' hg.toGX h5
      have r2 := sndE b sc X b' hg.toGX h6
      have hp := h4
      unfold parB at hp
      simp only [Bool.and_eq_true] at hp
      have l1 := locB_some hp.1.1.1.1.1.1
      have l2 := locB_some hp.1.1.1.1.1.2
      rw [← hg.sc] at l1 l2
      simp only [evS]
      exact s_par (ps_par hg.calm hg.nd (by rw [hg.N]; exact h1) (by rw [hg.N]; exact h2) (by simpa using h3) l1 l2 (pa_cons r1.pe (pa_cons r2.pe pa_nil (r2.pl.st _ _)) (r1.pl.st _ _)) (ss_par hg.sc hg.kind h4) (sw_tup _ _))
    · cases h
  | .sub i k e, sc, X, W, st, hg, h => by
    simp only [okS] at h
    split at h
    · rename_i t x l hn
      obtain ⟨p, hl, rfl⟩ := vAsg_some hn
      split at h
      · rename_i o y ho
        simp only [Bool.and_eq_true] at h
        obtain ⟨⟨h1, h2⟩, h3⟩ := h
        obtain ⟨q, rfl, ha⟩ := vSub_some ho
        obtain ⟨n', p', rfl, pv⟩ := okVar_pe hg h1
        simp only [evS]
        exact s_sub (ps_asg (sndE e sc X x hg.toGX h3).pe (pg_sub pv (sndE k sc X y hg.toGX h2).pe set_list (ha X.env)) (sw_sub _ _) (ss_sub _) rfl)
      · cases h
    · cases h
  | .app i e, sc, X, W, st, hg, h => by
    simp only [okS] at h
    split at h
    · rename_i x hn
      obtain ⟨p, rfl⟩ := vEx_some hn
      split at h
      · rename_i o m y hm
        simp only [Bool.and_eq_true, decide_eq_true_eq] at h
        obtain ⟨⟨rfl, h1⟩, h2⟩ := h
        obtain ⟨q, q', rfl, hl⟩ := vMeth_some hm
        obtain ⟨n', p', rfl, pv⟩ := okVar_pe hg h1
        have r := sndE e sc X y hg.toGX h2
        simp only [evS]
        exact s_app (ps_expr (pe_bm PySem.F.plainAttrs_list PySem.F.slot_list_append PySem.F.type_list_append mt_append pv (pa_cons r.pe pa_nil (r.pl.st _ _)) rfl (r.pl.st.few _ _) hl (r.pl.st _ _) rfl) rfl)
      · cases h
    · cases h
  | .pop i, sc, X, W, st, hg, h => by
    simp only [okS] at h
    split at h
    · rename_i x hn
      obtain ⟨p, rfl⟩ := vEx_some hn
      split at h
      · rename_i o m hm
        simp only [Bool.and_eq_true, decide_eq_true_eq] at h
        obtain ⟨rfl, h1⟩ := h
        obtain ⟨q, q', rfl, hl⟩ := vMeth_some hm
        obtain ⟨n', p', rfl, pv⟩ := okVar_pe hg h1
        simp only [evS]
        exact s_pop (ps_expr (pe_bm0 PySem.F.plainAttrs_list PySem.F.slot_list_pop PySem.F.type_list_pop mt_pop pv rfl hl) rfl)
      · cases h
    · cases h
  | .popTo j i, sc, X, W, st, hg, h => by
    simp only [okS] at h
    split at h
    · rename_i t x l hn
      obtain ⟨p, hl, rfl⟩ := vAsg_some hn
      split at h
      · rename_i y py hy
        obtain rfl := vNameP_some hy
        simp only [Bool.and_eq_true, decide_eq_true_eq] at h
        obtain ⟨⟨h1, h2⟩, h3⟩ := h
        split at h3
        · rename_i o m hm
          simp only [Bool.and_eq_true, decide_eq_true_eq] at h3
          obtain ⟨rfl, h4⟩ := h3
          obtain ⟨q, q', rfl, hl'⟩ := vMeth_some hm
          obtain ⟨n', p', rfl, pv⟩ := okVar_pe hg h4
          simp only [evS]
          exact s_popTo (ps_set hg.nd (by rw [hg.N]; exact h1) (hg.loc h2) (pe_bm0 PySem.F.plainAttrs_list PySem.F.slot_list_pop PySem.F.type_list_pop mt_pop pv rfl hl') (sw_no rfl _ _ _) (.inl (hg.fn y)))
        · cases h3
      · cases h
    · cases h
  | .clr i, sc, X, W, st, hg, h => by
    simp only [okS] at h
    split at h
    · rename_i x hn
      obtain ⟨p, rfl⟩ := vEx_some hn
      split at h
      · rename_i o m hm
        simp only [Bool.and_eq_true, decide_eq_true_eq] at h
        obtain ⟨rfl, h1⟩ := h
        obtain ⟨q, q', rfl, hl⟩ := vMeth_some hm
        obtain ⟨n', p', rfl, pv⟩ := okVar_pe hg h1
        simp only [evS]
        exact s_clr (ps_expr (pe_bm0 PySem.F.plainAttrs_list PySem.F.slot_list_clear PySem.F.type_list_clear mt_clear pv rfl hl) rfl)
      · cases h
    · cases h
  | .frz _, sc, X, W, st, hg, h => by simp only [okS] at h; cases h
  | .ret e, sc, X, W, st, hg, h => by
    simp only [okS] at h
    split at h
    · rename_i x hn
      obtain ⟨p, rfl⟩ := vRet_some hn
      simp only [evS]
      exact s_ret (ps_ret (sndE e sc X x hg.toGX h).pe)
    · cases h
  | .retv i, sc, X, W, st, hg, h => by
    simp only [okS] at h
    split at h
    · rename_i x hn
      obtain ⟨p, rfl⟩ := vRet_some hn
      obtain ⟨n', p', rfl, pv⟩ := okVar_pe hg h
      simp only [evS]
      exact s_retv (ps_ret pv)
    · cases h
  | .ife c a b, sc, X, W, st, hg, h => by
    simp only [okS] at h
    split at h
    · rename_i x as bs hn
      obtain ⟨p, rfl⟩ := vIf_some hn
      simp only [Bool.and_eq_true] at h
      have r := s_if (pos := p) (sndE c sc X x hg.toGX h.1.1).pt (sndSs n a sc X W as hg h.1.2) (sndSs n b sc X W bs hg h.2)
      have e : (fun g => evS ct n (.ife c a b) g) = ifF (bOf fun g => evE ct g c) (fun g => evSs ct n a g) (fun g => evSs ct n b g) := by
        funext g
        rw [evS]
        simp only [ifF, bOf, Option.bind_eq_bind, Option.bind_assoc]
      rw [e]
      exact r
    · cases h
  | .whl c b, sc, X, W, st, hg, h => by
    simp only [okS] at h
    split at h
    · rename_i x bs hn
      obtain ⟨p, rfl⟩ := vWhl_some hn
      simp only [Bool.and_eq_true] at h
      simp only [evS]
      exact s_while hg.hp n (sndE c sc X x hg.toGX h.1).pt (sndSs n b sc X W bs hg h.2)
    · cases h
  | .fr tg it b, sc, X, W, st, hg, h => by
    simp only [okS] at h
    split at h
    · rename_i t x bs hn
      obtain ⟨p, rfl⟩ := vFor_some hn
      simp only [Bool.and_eq_true] at h
      obtain ⟨⟨h1, h2⟩, h3⟩ := h
      have hi := sndI it sc X t x hg.toGX h2
      simp only [evS]
      exact s_for hg.hp hg.calm hi.1 (okTg_pg hg.N hg.nd hg.calm (fun x hx => ⟨hg.loc hx, .inl (hg.fn x)⟩) tg t h1) (sndSs n b sc X W bs hg h3) hi.2
    · cases h
  | .never, sc, X, W, st, hg, h => by
    simp only [evS]
    exact s_never
  | .dnw i, sc, X, W, st, hg, h => by
    simp only [okS] at h
    split at h
    · rename_i t x l hn
      obtain ⟨p, hl, rfl⟩ := vAsg_some hn
      split at h
      · rename_i y py hy
        obtain rfl := vNameP_some hy
        simp only [Bool.and_eq_true, decide_eq_true_eq] at h
        obtain ⟨⟨h1, h2⟩, h3⟩ := h
        obtain ⟨q, rfl⟩ := vDict0_some h3
        simp only [evS]
        exact s_dnw (ps_set hg.nd (by rw [hg.N]; exact h1) (hg.loc h2) pe_dnewT (sw_no rfl _ _ _) (.inl (hg.fn y)))
      · cases h
    · cases h
  | .dpt i k, sc, X, W, st, hg, h => by
    simp only [okS] at h
    split at h
    · rename_i t x l hn
      obtain ⟨p, hl, rfl⟩ := vAsg_some hn
      rw [Bool.and_eq_true, decide_eq_true_eq] at h
      obtain ⟨h0, h⟩ := h
      obtain ⟨j, q0, rfl⟩ := vConst_some h0
      split at h
      · rename_i o y ho
        simp only [Bool.and_eq_true] at h
        obtain ⟨h1, h2⟩ := h
        obtain ⟨q, rfl, ha⟩ := vSub_some ho
        obtain ⟨n', p', rfl, pv⟩ := okVar_pe hg h1
        have hu := hg.units
        simp only [evS]
        exact s_dpt (ps_asg pe_bl (pg_sub pv (sndE k sc X y hg.toGX h2).pe (set_dict (by omega)) (ha X.env)) (sw_sub _ _) (ss_sub _) rfl)
      · cases h
    · cases h
  | .clrX e, sc, X, W, st, hg, h => by
    simp only [okS] at h
    split at h
    · rename_i x hn
      obtain ⟨p, rfl⟩ := vEx_some hn
      split at h
      · rename_i o m hm
        simp only [Bool.and_eq_true, decide_eq_true_eq] at h
        obtain ⟨⟨rfl, h0⟩, h1⟩ := h
        obtain ⟨q, q', rfl, hl⟩ := vMeth_some hm
        obtain ⟨n0, q1, a0, es0, q2, rfl⟩ := hasArg_some h0
        simp only [evS]
        exact s_clrX (ps_expr (pe_bm0 PySem.F.plainAttrs_list PySem.F.slot_list_clear PySem.F.type_list_clear mt_clear (sndE e sc X _ hg.toGX h1).pe rfl hl) rfl)
      · cases h
    · cases h
  | .setX own i f es, sc, X, W, st, hg, h => by
    simp only [okS] at h
    split at h
    · rename_i t x l hn
      obtain ⟨p, hl, rfl⟩ := vAsg_some hn
      split at h
      · rename_i y py hy
        obtain rfl := vNameP_some hy
        simp only [Bool.and_eq_true, decide_eq_true_eq] at h
        obtain ⟨⟨h1, h2⟩, h3⟩ := h
        obtain ⟨hc, pe⟩ := callU_pe hg h3
        simp only [evS]
        exact s_setX (ps_set hg.nd (by rw [hg.N]; exact h1) (hg.loc h2) pe (sw_no hc _ _ _) (.inl (hg.fn y)))
      · cases h
    · cases h
  | .retX f es, sc, X, W, st, hg, h => by
    simp only [okS] at h
    split at h
    · rename_i x hn
      obtain ⟨p, rfl⟩ := vRet_some hn
      simp only [evS]
      exact s_retX (ps_ret (callU_pe hg h).2)
    · cases h
  | .expX f es, sc, X, W, st, hg, h => by
    simp only [okS] at h
    split at h
    · rename_i x hn
      obtain ⟨p, rfl⟩ := vEx_some hn
      simp only [evS]
      have pe := (callU_pe hg h).2
      unfold okCall at h
      split at h
      · rename_i n xs hn2
        obtain ⟨q, q', rfl⟩ := vCall_some hn2
        exact s_expX (ps_expr pe rfl)
      · cases h
    · cases h
  | .rse c, sc, X, W, st, hg, h => by
    simp only [okS] at h
    split at h
    · rename_i x hn
      obtain ⟨m, j, p, p2, p3, pos, rfl⟩ := vRse_some hn
      simp only [Bool.and_eq_true, decide_eq_true_eq] at h
      obtain ⟨⟨rfl, h1⟩, h2⟩ := h
      cases hf : ct flagX [] with
      | none =>
        have e : (fun g => evS ct n (.rse c) g) = fun _ => none := by
          funext g
          simp only [evS, hf]
          rfl
        rw [e]
        exact s_never
      | some v =>
        have e : (fun g => evS ct n (.rse c) g) = fun g => some (.ex c g) := by
          funext g
          simp only [evS, hf, h1, if_true]
          rfl
        rw [e]
        exact s_rse hg.calm hg.tk (hg.xk (by rw [hf]; simp)) h1 (hg.gl h2)
    · cases h
  | .tryK b i j, sc, X, W, st, hg, h => by
    simp only [okS] at h
    split at h
    · rename_i body x nn y m hn
      obtain ⟨np, py, pn, pa, pos', pos, rfl⟩ := vTry_some hn
      simp only [Bool.and_eq_true, decide_eq_true_eq] at h
      obtain ⟨⟨⟨⟨⟨⟨⟨⟨rfl, h1⟩, rfl⟩, h2⟩, h3⟩, h4⟩, h5⟩, h6⟩, h7⟩ := h
      cases hf : ct flagX [] with
      | none =>
        have e : (fun g => evS ct n (.tryK b i j) g) = fun _ => none := by
          funext g
          simp only [evS, hf]
          rfl
        rw [e]
        exact s_never
      | some v =>
        have e : (fun g => evS ct n (.tryK b i j) g) = tryF i j fun g => evSs ct n b g := by
          funext g
          simp only [evS, hf]
          rfl
        rw [e]
        obtain ⟨d1, d2⟩ := nameB_some h4
        have hk := locB_some h3
        rw [← hg.sc] at hk
        exact s_tryK (hg.xk (by rw [hf]; simp)) hg.hs hg.hf hg.hex hg.nd (by rw [hg.N]; exact h2) hk (by rw [hg.N]; exact h5) (hg.loc h6) (hg.fn y) (hg.gl h1) d1 d2
          fun W' pn' xe tk hp => sndSs n b sc (X.tr pn' xe) W' body (hg.tr tk hp) h7
    · cases h
theorem sndSs (n : Nat) : ∀ (ss : Sms) (sc : Scope) (X : Cx) (W : WX) (sts : List Stmt), GS G ct sc X W → okSs G sc ss sts = true → PSs X sts (tS X.K W fun g => evSs ct n ss g)
  | .nil, sc, X, W, sts, hg, h => by
    cases sts with
    | nil => simp only [evSs]; exact s_nil
    | cons => simp only [okSs] at h; cases h
  | .cons s ss, sc, X, W, sts, hg, h => by
    simp only [okSs] at h
    split at h
    · rename_i hf
      obtain ⟨i, rfl⟩ := isFrz_some hf
      have r := s_frz (i := i) (sndSs n ss sc X W sts hg h)
      simp only [evSs, evS]
      exact r
    · cases sts with
      | nil => cases h
      | cons st sts =>
        simp only [Bool.and_eq_true] at h
        simp only [evSs]
        exact s_cons (sndS n s sc X W st hg h.1) (sndSs n ss sc X W sts hg h.2)
end
end
end Ev
/-! Ev: defs and the law's end. -/
namespace Ev
open PySem PySem.Spec PyProof.Rows L2
/-- a row of the text: the def's name by its number -/
def nmOf : List (Nat × Str) → Nat → Option Str
  | [], _ => none
  | (i, x) :: r, j => if j = i then some x else nmOf r j
theorem nmOf_cons {i j : Nat} {x y : Str} {r : List (Nat × Str)} (h : nmOf ((i, x) :: r) j = some y) : (j = i ∧ x = y) ∨ nmOf r j = some y := by
  unfold nmOf at h
  split at h
  · cases h; exact .inl ⟨by assumption, rfl⟩
  · exact .inr h
def okFn (nm : Nat → Option Str) (N ps : List Str) (f : Fn) (st : Stmt) : Bool :=
  decide (f.slots = N.length) && decide (f.params = ps.length) && okSs ⟨N, nm⟩ (defScope st) f.body (defBody st)
theorem callT_len {n : Nat} : ∀ {t : List (Nat × Fn)} {i : Nat} {ds : List D} {r : M × D}, callT n t i ds = some r → ∃ f, (i, f) ∈ t ∧ ds.length = f.params
  | [], _, _, _, h => by cases h
  | (j, f) :: t, i, ds, r, h => by
    simp only [callT] at h
    split at h
    · rename_i e
      subst e
      unfold runFn at h
      split at h
      · exact ⟨f, List.mem_cons_self, by assumption⟩
      · cases h
    · obtain ⟨f', h1, h2⟩ := callT_len h
      exact ⟨f', List.mem_cons_of_mem _ h1, h2⟩
section
variable {P : Program} {w : World} {K : PySem.W.Frag} {mg : Str → Option Value} {base : Heap} {nm : Nat → Option Str}
/-- every def of the text keeps the promise «as the table says» -/
structure AllOk (P : Program) (w : World) (K : PySem.W.Frag) (mg : Str → Option Value) (base : Heap) (nm : Nat → Option Str) (ct : Ct) (k : Nat) : Prop where
  all : ∀ f x, nm f = some x → ∃ fa fd ps, mg x = some (.ref fa) ∧ FnOk P w K mg base (L2.CX P w) k fa fd ps (spU K ct f) ∧ PySem.W.keepIn K (.ref fa) = true ∧ Binds K fd ps []
  xk : ct flagX [] ≠ none → XK K mg
theorem FnOk.vac {CX : CXT} {k : Nat} {fa : Addr} {fd : FuncData} {ps : List Str} {sp : Sp} (h : ∀ vs H Q E, ¬ sp vs H Q E) : FnOk P w K mg base CX k fa fd ps sp :=
  ⟨fun vs H Q E z => (h vs H Q E z).elim, fun A outer s H args us vs Q E _ _ _ _ z => (h vs H Q E z).elim⟩
theorem spU_vac {ct : Ct} {f : Nat} (h : ∀ ds, ct f ds = none) : ∀ vs H Q E, ¬ spU K ct f vs H Q E := fun vs H Q E ⟨O, ds, _, _, z⟩ => by
  rcases z with ⟨m, d, e, _⟩ | ⟨c, e, _⟩
  · rw [h] at e; cases e
  · rw [h] at e; cases e
theorem AllOk.start {n : Nat} (h : ∀ f x, nm f = some x → ∃ fa fd ps, mg x = some (.ref fa) ∧ PySem.W.keepIn K (.ref fa) = true ∧ Binds K fd ps []) : AllOk P w K mg base nm (callT n []) 0 := by
  refine ⟨fun f x e => ?_, fun z => absurd rfl z⟩
  obtain ⟨fa, fd, ps, h1, h2, h3⟩ := h f x e
  exact ⟨fa, fd, ps, h1, FnOk.vac (spU_vac fun ds => rfl), h2, h3⟩
/-- a text with the classes of errors -/
def fnX : Fn := ⟨0, 0, .nil⟩
theorem AllOk.startX {n : Nat} (xk : XK K mg) (hf : nm flagX = none) (h : ∀ f x, nm f = some x → ∃ fa fd ps, mg x = some (.ref fa) ∧ PySem.W.keepIn K (.ref fa) = true ∧ Binds K fd ps []) : AllOk P w K mg base nm (callT n [(flagX, fnX)]) 0 := by
  refine ⟨fun f x e => ?_, fun _ => xk⟩
  obtain ⟨fa, fd, ps, h1, h2, h3⟩ := h f x e
  have ne : f ≠ flagX := fun z => by rw [z, hf] at e; cases e
  exact ⟨fa, fd, ps, h1, FnOk.vac (spU_vac fun ds => by simp only [callT, if_neg ne]), h2, h3⟩
theorem start_sr {H : Hp} {O : AS} {N : List Str} {ds : List D} {vs : List V} {f : Fn} (hs : f.slots = N.length) (trk : ∀ a, O a → Held H a) (r : Rps K O H ds vs) : SR K H O H (startE f ds) (L2.start N vs) := by
  have hl := r.len
  unfold startE L2.start
  rw [hs, hl]
  refine ⟨trk, by simp [hl], fun i s v e1 e2 => ?_, fun i j es fs a o1 o2 e1 => ?_⟩
  · by_cases hi : i < ds.length
    · rw [List.getElem?_append_left (by simpa using hi)] at e1
      rw [List.getElem?_append_left (by simpa [hl] using hi)] at e2
      rw [List.getElem?_map, List.getElem?_eq_getElem hi] at e1
      cases e1
      obtain ⟨u, eu, ru⟩ := r.get (List.getElem?_eq_getElem hi)
      rw [List.getElem?_map, eu] at e2
      cases e2
      exact ⟨u, rfl, ru⟩
    · rw [List.getElem?_append_right (by simpa using hi)] at e1
      rw [List.getElem?_replicate] at e1
      split at e1
      · cases e1; trivial
      · cases e1
  · exfalso
    by_cases hi : i < ds.length
    · rw [List.getElem?_append_left (by simpa using hi), List.getElem?_map, List.getElem?_eq_getElem hi] at e1
      cases e1; cases o1
    · rw [List.getElem?_append_right (by simpa using hi), List.getElem?_replicate] at e1
      split at e1 <;> cases e1 <;> cases o1
/-- one def more -/
theorem AllOk.main {n k i : Nat} {t : List (Nat × Fn)} {fn : Fn} {x : Str} {st : Stmt} {fa : Addr} {fd : FuncData} {N ps : List Str} (A : AllOk P w K mg base nm (callT n t) k) (F : L2.Fun K x x st fa fd)
    (S : FnScope N ps (defScope st)) (ok : okFn nm N ps fn st = true) (blt : ∀ y ∈ bltNames, mg y = none) : FnOk P w K mg base (L2.CX P w) (k + 1) fa fd ps (spU K (callT n ((i, fn) :: t)) i) := by
  unfold okFn at ok
  simp only [Bool.and_eq_true, decide_eq_true_eq] at ok
  obtain ⟨⟨o1, o2⟩, o3⟩ := ok
  have here : ∀ ds, callT n ((i, fn) :: t) i ds = runFn fn (callT n t) n ds := fun ds => by rw [callT, if_pos rfl]
  have some_ : ∀ {ds : List D} {r : M × D}, runFn fn (callT n t) n ds = some r → ds.length = fn.params ∧ ∃ out, evSs (callT n t) n fn.body (startE fn ds) = some out ∧ (match out with
      | .nx _ => (.sh, .non)
      | .rt m d => (m, d)
      | .ex c _ => (.ex, .exc c)) = r := fun {ds r} e => by
    unfold runFn at e
    split at e
    · rename_i hp
      rw [Option.map_eq_some_iff] at e
      exact ⟨hp, e⟩
    · cases e
  have noEx_some : ∀ {r : Rs} {v : M × D}, noEx r = some v → r = some v ∧ v.1 ≠ .ex := fun {r v} e => by
    cases r with
    | none => cases e
    | some u =>
      obtain ⟨m, d⟩ := u
      cases m <;> cases e <;> exact ⟨rfl, fun z => by cases z⟩
  refine F.okX S (fun vs H Q E h => ?_) (fun cdv A' outer s H vs Q E hr h => ?_)
  · obtain ⟨O, ds, _, r, e⟩ := h
    rw [here] at e
    rw [r.len, ← o2]
    rcases e with ⟨m, d, e, _⟩ | ⟨c, e, _⟩
    · exact (some_ (noEx_some e).1).1
    · exact (some_ e).1
  · obtain ⟨O, ds, trk, r, e⟩ := h
    rw [here] at e
    have g : GS ⟨N, nm⟩ (callT n t) (defScope st) (cxOf (L2.CX P w) P w K mg base N x (defScope st) fa cdv A' outer s H E) (fun cls d _ H' => E cls d H') :=
      { N := rfl, nd := S.nd, sc := rfl, calm := rfl, units := by have := hr.un; show (A'.deeper _).units + 65 < cLine; omega, blt := blt,
        fns := fun f y ey => by
          obtain ⟨fa', fd', ps', h1, h2, h3, h4⟩ := A.all f y ey
          exact ⟨k, fa', fd', ps', h1, spU_quiet h2, h3, h4, hr⟩
        xk := A.xk
        hp := passes_of rfl, fn := fun _ => rfl, kind := S.kind, tk := takes_of rfl rfl rfl rfl, hs := rfl, hf := rfl, hex := rfl
        fnx := fun f y ey => by
          obtain ⟨fa', fd', ps', h1, h2, h3, h4⟩ := A.all f y ey
          exact ⟨k, fa', fd', ps', h1, h2, h3, h4, hr⟩ }
    refine ⟨_, sndSs n fn.body (defScope st) _ _ (defBody st) g o3, ?_⟩
    rcases e with ⟨m, d, e, q⟩ | ⟨c, e, q⟩
    · obtain ⟨e0, ne⟩ := noEx_some e
      obtain ⟨hp, out, e1, e2⟩ := some_ e0
      refine ⟨H, O, O, startE fn ds, out, ⟨start_sr o1 trk r, Same.refl H, fun _ z => z, trk⟩, e1, ?_⟩
      cases out with
      | nx g' =>
        cases e2
        exact fun σ' H' O' S' _ => q .non H' S'.same rfl
      | rt m' d' =>
        cases e2
        exact q
      | ex c g' =>
        cases e2
        exact absurd rfl ne
    · obtain ⟨hp, out, e1, e2⟩ := some_ e
      refine ⟨H, O, O, startE fn ds, out, ⟨start_sr o1 trk r, Same.refl H, fun _ z => z, trk⟩, e1, ?_⟩
      cases out with
      | nx g' => cases e2
      | rt m' d' =>
        cases e2
        exact fun v H' _ z => z.elim
      | ex c' g' =>
        cases e2
        exact fun σ' H' O' C S' _ eC => q C H' S'.same eC
theorem AllOk.step {n k i : Nat} {t : List (Nat × Fn)} {fn : Fn} {x : Str} {st : Stmt} {fa : Addr} {fd : FuncData} {N ps : List Str} (A : AllOk P w K mg base nm (callT n t) k) (hx : nm i = some x) (hi : i ≠ flagX) (hm : mg x = some (.ref fa)) (F : L2.Fun K x x st fa fd)
    (b : Binds K fd ps []) (S : FnScope N ps (defScope st)) (ok : okFn nm N ps fn st = true) (blt : ∀ y ∈ bltNames, mg y = none) : AllOk P w K mg base nm (callT n ((i, fn) :: t)) (k + 1) := by
  have main := AllOk.main (i := i) A F S ok blt
  refine ⟨fun f y ey => ?_, fun z => A.xk (by rw [callT, if_neg (Ne.symm hi)] at z; exact z)⟩
  by_cases hf : f = i
  · subst hf
    rw [hx] at ey; cases ey
    exact ⟨fa, fd, ps, hm, main, F.kp, b⟩
  · obtain ⟨fa', fd', ps', h1, h2, h3, h4⟩ := A.all f y ey
    refine ⟨fa', fd', ps', h1, (h2.mono (Nat.le_succ k)).imp fun vs H Q E ⟨O, ds, a1, a2, a3⟩ => ⟨O, ds, a1, a2, ?_⟩, h3, h4⟩
    rw [callT, if_neg hf] at a3
    exact a3
/-- the law's promise: the script in, True back -/
def spL (K : PySem.W.Frag) : Sp := fun vs H Q _ => ∃ (a : Addr) (ns : List Int), vs = [.ref a] ∧ Only H ∧ SqL K H a (ns.map V.int) ∧ ns.length ≤ 63 ∧ ∀ H', Q (.bl true) H'
theorem law_imp {ct : Ct} {i k : Nat} {fa : Addr} {fd : FuncData} {ps : List Str} (F0 : FnOk P w K mg base (L2.CX P w) k fa fd ps (spU K ct i)) (h : ∀ ns : List Int, ns.length ≤ 63 → ct i [.scr ns] = some (.sh, .bl true)) : FnOk P w K mg base CX0 k fa fd ps (spL K) := by
  have F := spU_quiet F0
  refine F.imp fun vs H Q E ⟨a, ns, e, ho, hs, hl, q⟩ => ?_
  subst e
  refine ⟨fun _ => False, [.scr ns], .sh, .bl true, fun _ z => z.elim, ⟨.ref a, [], rfl, ⟨a, rfl, ?_⟩, rfl⟩, by rw [h ns hl]; rfl, fun v H' _ r => ?_⟩
  · rcases hs with (hs | ⟨o, hs⟩) | hs
    · rcases ho a with z | ⟨o, xs, z⟩
      · rw [hs] at z; cases z
      · rw [hs] at z; cases z
    · exact .inl ⟨fun z => z, o, hs⟩
    · exact .inr hs
  · rw [show v = .bl true from r]
    exact q H'
end
end Ev
namespace Ev
open PySem
def f_divisor_B0 : Sms := (.cons (.par 0 1 (.var 1) (.bin .mod (.var 0) (.var 1)))
.nil)
def f_divisor_L0 : Sm := .whl (.cmp .gt (.var 1) (.int 0)) f_divisor_B0
def f_divisor : Fn := ⟨2, 2,
(.cons (.set false 0 (.b1 .abs (.var 0)))
(.cons (.set false 1 (.b1 .abs (.var 1)))
(.cons f_divisor_L0
(.cons (.ret (.var 0))
.nil))))⟩
def f_law_cell_at : Fn := ⟨2, 2,
(.cons (.ife (.cmp .lt (.var 1) (.b1 .len (.var 0)))
(.cons (.ret (.idx (.var 0) (.var 1)))
.nil)
.nil)
(.cons (.ret (.int 0))
.nil))⟩
def f_law_whole : Fn := ⟨1, 1,
(.cons (.ret (.ands (.cons (.isi (.var 0) .int) (.cons (.not (.isi (.var 0) .bool)) .nil))))
.nil)⟩
def f_ratio : Fn := ⟨3, 2,
(.cons (.ife (.cmp .eq (.var 1) (.int 0))
(.cons (.rse 1)
.nil)
.nil)
(.cons (.set false 2 (.call 0 (.cons (.var 0) (.cons (.var 1) .nil))))
(.cons (.ife (.cmp .lt (.var 1) (.int 0))
(.cons (.set false 2 (.bin .sub (.int 0) (.var 2)))
.nil)
.nil)
(.cons (.ret (.tup (.cons (.bin .div (.var 0) (.var 2)) (.cons (.bin .div (.var 1) (.var 2)) .nil))))
.nil))))⟩
def f_below : Fn := ⟨2, 2,
(.cons (.ret (.cmp .lt (.bin .mul (.idx (.var 0) (.int 0)) (.idx (.var 1) (.int 1))) (.bin .mul (.idx (.var 1) (.int 0)) (.idx (.var 0) (.int 1)))))
.nil)⟩
def f_half : Fn := ⟨4, 3,
(.cons (.ife (.ands (.cons (.cmp .eq (.var 0) (.int 0)) (.cons (.cmp .eq (.var 1) (.int 0)) .nil)))
(.cons (.rse 2)
.nil)
.nil)
(.cons (.set false 3 (.call 0 (.cons (.call 0 (.cons (.var 0) (.cons (.var 1) .nil))) (.cons (.var 2) .nil))))
(.cons (.ret (.tup (.cons (.bin .div (.var 0) (.var 3)) (.cons (.bin .div (.var 1) (.var 3)) (.cons (.bin .div (.var 2) (.var 3)) .nil)))))
.nil)))⟩
def f_law_block_B0 : Sms := (.cons (.set false 2 (.bin .div (.var 2) (.int 2147483587)))
.nil)
def f_law_block_L0 : Sm := .fr (.one 3) (.rng (.bin .mod (.var 1) (.int 8))) f_law_block_B0
def f_law_block : Fn := ⟨4, 2,
(.cons (.set false 2 (.int 0))
(.cons (.ife (.cmp .lt (.bin .add (.int 1) (.bin .mod (.bin .div (.var 1) (.int 8)) (.int 62))) (.b1 .len (.var 0)))
(.cons (.set false 2 (.bin .div (.idx (.var 0) (.bin .add (.int 1) (.bin .mod (.bin .div (.var 1) (.int 8)) (.int 62)))) (.bin .pow (.int 10) (.int 64))))
.nil)
.nil)
(.cons f_law_block_L0
(.cons (.ret (.var 2))
.nil))))⟩
def f_law_mixed : Fn := ⟨4, 2,
(.cons (.set false 2 (.int 0))
(.cons (.ife (.cmp .gt (.b1 .len (.var 0)) (.int 0))
(.cons (.set false 2 (.idx (.var 0) (.int 0)))
.nil)
.nil)
(.cons (.ife (.ands (.cons (.cmp .eq (.bin .mod (.bin .div (.var 2) (.bin .pow (.int 10) (.int 6))) (.int 2)) (.int 1)) (.cons (.cmp .ne (.call 14 (.cons (.var 0) (.cons (.var 1) .nil))) (.int 0)) .nil)))
(.cons (.ret (.bin .mod (.call 14 (.cons (.var 0) (.cons (.var 1) .nil))) (.int 2147483587)))
.nil)
.nil)
(.cons (.ife (.cmp .gt (.b1 .len (.var 0)) (.int 0))
(.cons (.set false 2 (.idx (.var 0) (.bin .mod (.var 1) (.b2 .min (.int 63) (.b1 .len (.var 0))))))
.nil)
.nil)
(.cons (.set false 3 (.bin .add (.bin .mod (.var 2) (.bin .pow (.int 10) (.int 18))) (.bin .mul (.int 48271) (.bin .add (.var 1) (.int 1)))))
(.cons (.set false 3 (.bin .add (.bin .mod (.bin .mul (.var 3) (.var 3)) (.int 2147483629)) (.bin .mul (.int 69621) (.var 1))))
(.cons (.ret (.bin .mod (.bin .mul (.var 3) (.var 3)) (.int 2147483587)))
.nil)))))))⟩
def f_law_divisor_B0 : Sms := (.cons (.par 0 1 (.var 1) (.bin .mod (.var 0) (.var 1)))
.nil)
def f_law_divisor_L0 : Sm := .whl (.cmp .gt (.var 1) (.int 0)) f_law_divisor_B0
def f_law_divisor : Fn := ⟨2, 2,
(.cons (.set false 0 (.b1 .abs (.var 0)))
(.cons (.set false 1 (.b1 .abs (.var 1)))
(.cons f_law_divisor_L0
(.cons (.ret (.var 0))
.nil))))⟩
def f_between : Fn := ⟨4, 2,
(.cons (.set false 2 (.bin .sub (.idx (.var 1) (.int 0)) (.idx (.var 0) (.int 0))))
(.cons (.set false 3 (.bin .sub (.idx (.var 1) (.int 1)) (.idx (.var 0) (.int 1))))
(.cons (.retX 13 (.cons (.bin .sub (.int 0) (.var 3)) (.cons (.var 2) (.cons (.bin .sub (.bin .mul (.var 2) (.idx (.var 0) (.int 1))) (.bin .mul (.var 3) (.idx (.var 0) (.int 0)))) .nil))))
.nil)))⟩
def f_other_side : Fn := ⟨1, 1,
(.cons (.ret (.tup (.cons (.bin .sub (.int 0) (.idx (.var 0) (.int 0))) (.cons (.bin .sub (.int 0) (.idx (.var 0) (.int 1))) (.cons (.bin .sub (.int 0) (.idx (.var 0) (.int 2))) .nil)))))
.nil)⟩
def f_law_point : Fn := ⟨4, 2,
(.cons (.set false 2 (.call 15 (.cons (.var 0) (.cons (.var 1) .nil))))
(.cons (.set false 3 (.bin .mod (.call 1 (.cons (.var 0) (.cons (.int 1) .nil))) (.int 4)))
(.cons (.ife (.cmp .eq (.var 3) (.int 1))
(.cons (.ret (.tup (.cons (.bin .sub (.bin .mod (.call 1 (.cons (.var 0) (.cons (.var 1) .nil))) (.bin .mul (.int 2) (.bin .pow (.int 10) (.int 30)))) (.bin .pow (.int 10) (.int 30))) (.cons (.bin .sub (.var 2) (.bin .pow (.int 10) (.int 9))) .nil))))
.nil)
.nil)
(.cons (.ife (.cmp .eq (.var 3) (.int 2))
(.cons (.ret (.tup (.cons (.bin .sub (.bin .mod (.var 2) (.int 2001)) (.int 1000)) (.cons (.bin .sub (.bin .mod (.bin .div (.var 2) (.int 2001)) (.int 2001)) (.int 1000)) .nil))))
.nil)
.nil)
(.cons (.ret (.tup (.cons (.bin .sub (.bin .mod (.var 2) (.int 7)) (.int 3)) (.cons (.bin .sub (.bin .mod (.bin .div (.var 2) (.int 7)) (.int 7)) (.int 3)) .nil))))
.nil)))))⟩
def f_side : Fn := ⟨6, 2,
(.cons (.unp [2, 3] (.var 1))
(.cons (.set false 4 (.bin .add (.bin .mul (.bin .mul (.idx (.var 0) (.int 0)) (.idx (.var 2) (.int 0))) (.idx (.var 3) (.int 1))) (.bin .mul (.bin .mul (.idx (.var 0) (.int 1)) (.idx (.var 3) (.int 0))) (.idx (.var 2) (.int 1)))))
(.cons (.set false 5 (.bin .mul (.bin .mul (.idx (.var 0) (.int 2)) (.idx (.var 2) (.int 1))) (.idx (.var 3) (.int 1))))
(.cons (.ret (.bin .sub (.b1 .int (.cmp .gt (.var 4) (.var 5))) (.b1 .int (.cmp .lt (.var 4) (.var 5)))))
.nil))))⟩
def f_law_lowest : Fn := ⟨3, 2,
(.cons (.set false 2 (.call 16 (.cons (.var 0) (.cons (.var 1) .nil))))
(.cons (.ife (.cmp .lt (.var 1) (.int 0))
(.cons (.set false 2 (.bin .sub (.int 0) (.var 2)))
.nil)
.nil)
(.cons (.ret (.tup (.cons (.bin .div (.var 0) (.var 2)) (.cons (.bin .div (.var 1) (.var 2)) .nil))))
.nil)))⟩
def f_law_half_k05 : Fn := ⟨5, 2,
(.cons (.set false 2 (.call 15 (.cons (.var 0) (.cons (.var 1) .nil))))
(.cons (.set true 3 (.lst (.cons (.bin .sub (.bin .mod (.var 2) (.int 13)) (.int 6)) (.cons (.bin .sub (.bin .mod (.bin .div (.var 2) (.int 13)) (.int 13)) (.int 6)) (.cons (.bin .sub (.bin .mod (.bin .div (.var 2) (.int 169)) (.int 13)) (.int 6)) .nil)))))
(.cons (.ife (.cmp .eq (.bin .mod (.bin .div (.var 2) (.int 2197)) (.int 3)) (.int 1))
(.cons (.set true 3 (.lst (.cons (.bin .sub (.bin .mod (.call 1 (.cons (.var 0) (.cons (.var 1) .nil))) (.bin .mul (.int 2) (.bin .pow (.int 10) (.int 30)))) (.bin .pow (.int 10) (.int 30))) (.cons (.bin .sub (.var 2) (.bin .pow (.int 10) (.int 9))) (.cons (.bin .sub (.bin .mul (.var 2) (.var 2)) (.bin .pow (.int 10) (.int 17))) .nil)))))
.nil)
.nil)
(.cons (.ife (.ands (.cons (.cmp .eq (.idx (.var 3) (.int 0)) (.int 0)) (.cons (.cmp .eq (.idx (.var 3) (.int 1)) (.int 0)) .nil)))
(.cons (.sub 3 (.bin .mod (.bin .div (.var 2) (.int 6591)) (.int 2)) (.bin .sub (.int 1) (.bin .mul (.int 2) (.bin .mod (.bin .div (.var 2) (.int 13182)) (.int 2)))))
.nil)
.nil)
(.cons (.set false 4 (.call 16 (.cons (.call 16 (.cons (.idx (.var 3) (.int 0)) (.cons (.idx (.var 3) (.int 1)) .nil))) (.cons (.idx (.var 3) (.int 2)) .nil))))
(.cons (.ret (.tup (.cons (.bin .div (.idx (.var 3) (.int 0)) (.var 4)) (.cons (.bin .div (.idx (.var 3) (.int 1)) (.var 4)) (.cons (.bin .div (.idx (.var 3) (.int 2)) (.var 4)) .nil)))))
.nil))))))⟩
def f_law_spot_k05 : Fn := ⟨6, 3,
(.cons (.set false 3 (.call 15 (.cons (.var 0) (.cons (.bin .add (.var 1) (.int 63)) .nil))))
(.cons (.set false 4 (.call 29 (.cons (.bin .sub (.bin .mod (.bin .div (.var 3) (.int 9)) (.int 2001)) (.int 1000)) (.cons (.bin .add (.int 1) (.bin .mod (.var 3) (.int 9))) .nil))))
(.cons (.set false 3 (.call 15 (.cons (.var 0) (.cons (.bin .add (.var 1) (.int 126)) .nil))))
(.cons (.set false 5 (.call 29 (.cons (.bin .sub (.var 3) (.bin .pow (.int 10) (.int 9))) (.cons (.bin .add (.int 1) (.bin .mod (.var 3) (.int 9))) .nil))))
(.cons (.ife (.ands (.cons (.cmp .eq (.bin .mod (.bin .div (.var 3) (.int 9)) (.int 3)) (.int 1)) (.cons (.cmp .ne (.idx (.var 2) (.int 1)) (.int 0)) .nil)))
(.cons (.set false 5 (.call 29 (.cons (.bin .sub (.bin .mul (.idx (.var 2) (.int 2)) (.idx (.var 4) (.int 1))) (.bin .mul (.idx (.var 2) (.int 0)) (.idx (.var 4) (.int 0)))) (.cons (.bin .mul (.idx (.var 2) (.int 1)) (.idx (.var 4) (.int 1))) .nil))))
.nil)
(.cons (.ife (.cmp .eq (.bin .mod (.bin .div (.var 3) (.int 9)) (.int 3)) (.int 1))
(.cons (.set false 4 (.call 29 (.cons (.idx (.var 2) (.int 2)) (.cons (.idx (.var 2) (.int 0)) .nil))))
.nil)
.nil)
.nil))
(.cons (.ret (.tup (.cons (.var 4) (.cons (.var 5) .nil))))
.nil))))))⟩
def f_law_right_k05_B0 : Sms := (.cons (.ife (.ors (.cons (.not (.call 2 (.cons (.idx (.var 7) (.var 8)) .nil))) (.cons (.cmp .ne (.idx (.var 7) (.var 8)) (.bin .sub (.int 0) (.idx (.var 0) (.var 8)))) .nil)))
(.cons (.ret (.bl false))
.nil)
.nil)
.nil)
def f_law_right_k05_L0 : Sm := .fr (.one 8) (.rng (.int 3)) f_law_right_k05_B0
def f_law_right_k05 : Fn := ⟨9, 2,
(.cons (.unp [2, 3] (.var 1))
(.cons (.set false 4 (.bin .add (.bin .mul (.bin .mul (.idx (.var 0) (.int 0)) (.idx (.var 2) (.int 0))) (.idx (.var 3) (.int 1))) (.bin .mul (.bin .mul (.idx (.var 0) (.int 1)) (.idx (.var 3) (.int 0))) (.idx (.var 2) (.int 1)))))
(.cons (.set false 4 (.bin .sub (.var 4) (.bin .mul (.bin .mul (.idx (.var 0) (.int 2)) (.idx (.var 2) (.int 1))) (.idx (.var 3) (.int 1)))))
(.cons (.set false 5 (.bin .sub (.b1 .int (.cmp .gt (.var 4) (.int 0))) (.b1 .int (.cmp .lt (.var 4) (.int 0)))))
(.cons (.set false 6 (.call 28 (.cons (.var 0) (.cons (.var 1) .nil))))
(.cons (.set false 7 (.call 22 (.cons (.var 0) .nil)))
(.cons (.ife (.ors (.cons (.not (.call 2 (.cons (.var 6) .nil))) (.cons (.cmp .ne (.var 6) (.var 5)) (.cons (.not (.isi (.var 7) .tuple)) (.cons (.cmp .ne (.b1 .len (.var 7)) (.int 3)) .nil)))))
(.cons (.ret (.bl false))
.nil)
.nil)
(.cons f_law_right_k05_L0
(.cons (.ret (.ands (.cons (.cmp .eq (.call 28 (.cons (.var 7) (.cons (.var 1) .nil))) (.bin .sub (.int 0) (.var 5))) (.cons (.cmp .eq (.call 22 (.cons (.var 7) .nil)) (.var 0)) .nil))))
.nil)))))))))⟩
def f_law_k05_B0 : Sms := (.cons (.set false 2 (.call 30 (.cons (.var 0) (.cons (.var 1) .nil))))
(.cons (.ife (.not (.call 32 (.cons (.var 2) (.cons (.call 31 (.cons (.var 0) (.cons (.var 1) (.cons (.var 2) .nil)))) .nil))))
(.cons (.ret (.bl false))
.nil)
.nil)
.nil))
def f_law_k05_L0 : Sm := .fr (.one 1) (.rng (.b2 .max (.int 1) (.b2 .min (.int 63) (.b1 .len (.var 0))))) f_law_k05_B0
def f_law_k05 : Fn := ⟨3, 1,
(.cons f_law_k05_L0
(.cons (.ret (.bl true))
.nil))⟩
def f_many_in_C0 : Ex := .comp (.var 2) (.many [2, 3]) (.ex (.var 1)) (.cons (.cmp .ge (.bin .add (.bin .mul (.idx (.var 0) (.int 0)) (.var 2)) (.bin .mul (.idx (.var 0) (.int 1)) (.var 3))) (.idx (.var 0) (.int 2))) .nil)
def f_many_in : Fn := ⟨4, 2,
(.cons (.ret (.b1 .len f_many_in_C0))
.nil)⟩
def f_left_turn : Fn := ⟨4, 3,
(.cons (.set false 3 (.bin .mul (.idx (.var 0) (.int 0)) (.bin .sub (.bin .mul (.idx (.var 1) (.int 1)) (.idx (.var 2) (.int 2))) (.bin .mul (.idx (.var 2) (.int 1)) (.idx (.var 1) (.int 2))))))
(.cons (.set false 3 (.bin .sub (.var 3) (.bin .mul (.idx (.var 0) (.int 1)) (.bin .sub (.bin .mul (.idx (.var 1) (.int 0)) (.idx (.var 2) (.int 2))) (.bin .mul (.idx (.var 2) (.int 0)) (.idx (.var 1) (.int 2)))))))
(.cons (.ret (.bin .add (.var 3) (.bin .mul (.idx (.var 0) (.int 2)) (.bin .sub (.bin .mul (.idx (.var 1) (.int 0)) (.idx (.var 2) (.int 1))) (.bin .mul (.idx (.var 2) (.int 0)) (.idx (.var 1) (.int 1)))))))
.nil)))⟩
def f_hull_B0 : Sms := (.cons (.pop 4)
.nil)
def f_hull_L0 : Sm := .whl (.ands (.cons (.cmp .gt (.b1 .len (.var 4)) (.int 1)) (.cons (.cmp .le (.call 37 (.cons (.idx (.var 4) (.neg (.int 2))) (.cons (.idx (.var 4) (.neg (.int 1))) (.cons (.tup (.cons (.var 5) (.cons (.var 6) (.cons (.int 1) .nil)))) .nil)))) (.int 0)) .nil))) f_hull_B0
def f_hull_B1 : Sms := (.cons f_hull_L0
(.cons (.app 4 (.tup (.cons (.var 5) (.cons (.var 6) (.cons (.int 1) .nil)))))
.nil))
def f_hull_L1 : Sm := .fr (.many [5, 6]) (.ex (.var 3)) f_hull_B1
def f_hull_B2 : Sms := (.cons (.set true 4 (.lst .nil))
(.cons f_hull_L1
(.cons (.frz 4)
(.cons (.app 2 (.var 4))
.nil))))
def f_hull_L2 : Sm := .fr (.one 3) (.ex (.lst (.cons (.var 1) (.cons (.b1 .lrev (.var 1)) .nil)))) f_hull_B2
def f_hull_C0 : Ex := .comp (.tup (.cons (.tup (.cons (.var 5) (.cons (.int 1) .nil))) (.cons (.tup (.cons (.var 6) (.cons (.int 1) .nil))) .nil))) (.many [5, 6, 8]) (.ex (.var 7)) .nil
def f_hull : Fn := ⟨9, 1,
(.cons (.set false 1 (.b1 .sset (.var 0)))
(.cons (.set true 2 (.lst .nil))
(.cons f_hull_L2
(.cons (.set false 7 (.bin .add (.slc (.idx (.var 2) (.int 0)) .non (.neg (.int 1))) (.slc (.idx (.var 2) (.int 1)) .non (.neg (.int 1)))))
(.cons (.ife (.cmp .eq (.b1 .len (.var 1)) (.int 1))
(.cons (.set false 7 (.idx (.var 2) (.int 0)))
.nil)
.nil)
(.cons (.ret f_hull_C0)
.nil))))))⟩
def f_law_flat_k11 : Fn := ⟨3, 1,
(.cons (.unp [1, 2] (.var 0))
(.cons (.ret (.tup (.cons (.bin .mul (.idx (.var 1) (.int 0)) (.idx (.var 2) (.int 1))) (.cons (.bin .mul (.idx (.var 2) (.int 0)) (.idx (.var 1) (.int 1))) (.cons (.bin .mul (.idx (.var 1) (.int 1)) (.idx (.var 2) (.int 1))) .nil)))))
.nil))⟩
def f_law_turn_k11 : Fn := ⟨4, 3,
(.cons (.set false 3 (.bin .mul (.idx (.var 0) (.int 0)) (.bin .sub (.bin .mul (.idx (.var 1) (.int 1)) (.idx (.var 2) (.int 2))) (.bin .mul (.idx (.var 2) (.int 1)) (.idx (.var 1) (.int 2))))))
(.cons (.set false 3 (.bin .sub (.var 3) (.bin .mul (.idx (.var 0) (.int 1)) (.bin .sub (.bin .mul (.idx (.var 1) (.int 0)) (.idx (.var 2) (.int 2))) (.bin .mul (.idx (.var 2) (.int 0)) (.idx (.var 1) (.int 2)))))))
(.cons (.ret (.bin .add (.var 3) (.bin .mul (.idx (.var 0) (.int 2)) (.bin .sub (.bin .mul (.idx (.var 1) (.int 0)) (.idx (.var 2) (.int 1))) (.bin .mul (.idx (.var 2) (.int 0)) (.idx (.var 1) (.int 1)))))))
.nil)))⟩
def f_law_before : Fn := ⟨2, 2,
(.cons (.ife (.cmp .ne (.bin .mul (.idx (.var 0) (.int 0)) (.idx (.var 1) (.int 2))) (.bin .mul (.idx (.var 1) (.int 0)) (.idx (.var 0) (.int 2))))
(.cons (.ret (.cmp .lt (.bin .mul (.idx (.var 0) (.int 0)) (.idx (.var 1) (.int 2))) (.bin .mul (.idx (.var 1) (.int 0)) (.idx (.var 0) (.int 2)))))
.nil)
.nil)
(.cons (.ret (.cmp .lt (.bin .mul (.idx (.var 0) (.int 1)) (.idx (.var 1) (.int 2))) (.bin .mul (.idx (.var 1) (.int 1)) (.idx (.var 0) (.int 2)))))
.nil))⟩
def f_law_is_spot_B0 : Sms := (.cons (.ife (.ors (.cons (.not (.isi (.var 1) .tuple)) (.cons (.cmp .ne (.b1 .len (.var 1)) (.int 2)) (.cons (.not (.call 2 (.cons (.idx (.var 1) (.int 0)) .nil))) (.cons (.not (.call 2 (.cons (.idx (.var 1) (.int 1)) .nil))) .nil)))))
(.cons (.ret (.bl false))
.nil)
.nil)
(.cons (.ife (.ors (.cons (.cmp .lt (.idx (.var 1) (.int 1)) (.int 1)) (.cons (.cmp .ne (.call 16 (.cons (.idx (.var 1) (.int 0)) (.cons (.idx (.var 1) (.int 1)) .nil))) (.int 1)) .nil)))
(.cons (.ret (.bl false))
.nil)
.nil)
.nil))
def f_law_is_spot_L0 : Sm := .fr (.one 1) (.ex (.var 0)) f_law_is_spot_B0
def f_law_is_spot : Fn := ⟨2, 1,
(.cons (.ife (.ors (.cons (.not (.isi (.var 0) .tuple)) (.cons (.cmp .ne (.b1 .len (.var 0)) (.int 2)) .nil)))
(.cons (.ret (.bl false))
.nil)
.nil)
(.cons f_law_is_spot_L0
(.cons (.ret (.bl true))
.nil)))⟩
def f_law_is_region_k11_B0 : Sms := (.cons (.ife (.not (.call 42 (.cons (.var 1) .nil)))
(.cons (.ret (.bl false))
.nil)
.nil)
.nil)
def f_law_is_region_k11_L0 : Sm := .fr (.one 1) (.ex (.var 0)) f_law_is_region_k11_B0
def f_law_is_region_k11_C0 : Ex := .comp (.call 39 (.cons (.var 1) .nil)) (.one 1) (.ex (.var 0)) .nil
def f_law_is_region_k11_B1 : Sms := (.cons (.ife (.not (.call 41 (.cons (.idx (.var 2) (.int 0)) (.cons (.idx (.var 2) (.var 3)) .nil))))
(.cons (.ret (.bl false))
.nil)
.nil)
.nil)
def f_law_is_region_k11_L1 : Sm := .fr (.one 3) (.rng2 (.int 1) (.b1 .len (.var 2))) f_law_is_region_k11_B1
def f_law_is_region_k11_B2 : Sms := (.cons (.ife (.ands (.cons (.cmp .ne (.var 4) (.idx (.var 2) (.var 3))) (.cons (.cmp .ne (.var 4) (.idx (.var 2) (.bin .sub (.var 3) (.int 1)))) (.cons (.cmp .le (.call 40 (.cons (.idx (.var 2) (.bin .sub (.var 3) (.int 1))) (.cons (.idx (.var 2) (.var 3)) (.cons (.var 4) .nil)))) (.int 0)) .nil))))
(.cons (.ret (.bl false))
.nil)
.nil)
.nil)
def f_law_is_region_k11_L2 : Sm := .fr (.one 4) (.ex (.var 2)) f_law_is_region_k11_B2
def f_law_is_region_k11_B3 : Sms := (.cons f_law_is_region_k11_L2
.nil)
def f_law_is_region_k11_L3 : Sm := .fr (.one 3) (.rng (.b1 .len (.var 2))) f_law_is_region_k11_B3
def f_law_is_region_k11 : Fn := ⟨5, 1,
(.cons (.ife (.not (.isi (.var 0) .list))
(.cons (.ret (.bl false))
.nil)
.nil)
(.cons f_law_is_region_k11_L0
(.cons (.set false 2 f_law_is_region_k11_C0)
(.cons f_law_is_region_k11_L1
(.cons (.ife (.cmp .gt (.b1 .len (.var 2)) (.int 2))
(.cons f_law_is_region_k11_L3
.nil)
.nil)
(.cons (.ret (.bl true))
.nil))))))⟩
def f_law_holds_k11_B0 : Sms := (.cons (.ife (.cmp .lt (.call 40 (.cons (.idx (.var 0) (.bin .sub (.var 2) (.int 1))) (.cons (.idx (.var 0) (.var 2)) (.cons (.var 1) .nil)))) (.int 0))
(.cons (.ret (.bl false))
.nil)
.nil)
.nil)
def f_law_holds_k11_L0 : Sm := .fr (.one 2) (.rng (.b1 .len (.var 0))) f_law_holds_k11_B0
def f_law_holds_k11 : Fn := ⟨3, 2,
(.cons (.ife (.cmp .eq (.b1 .len (.var 0)) (.int 0))
(.cons (.ret (.bl false))
.nil)
.nil)
(.cons (.ife (.cmp .lt (.b1 .len (.var 0)) (.int 3))
(.cons (.ife (.cmp .ne (.call 40 (.cons (.idx (.var 0) (.int 0)) (.cons (.idx (.var 0) (.neg (.int 1))) (.cons (.var 1) .nil)))) (.int 0))
(.cons (.ret (.bl false))
.nil)
.nil)
(.cons (.ret (.ands (.cons (.not (.call 41 (.cons (.var 1) (.cons (.idx (.var 0) (.int 0)) .nil)))) (.cons (.not (.call 41 (.cons (.idx (.var 0) (.neg (.int 1))) (.cons (.var 1) .nil)))) .nil))))
.nil))
.nil)
(.cons f_law_holds_k11_L0
(.cons (.ret (.bl true))
.nil))))⟩
def f_law_points_k11_B0 : Sms := (.cons (.set false 5 (.call 15 (.cons (.var 0) (.cons (.var 4) .nil))))
(.cons (.set false 6 (.tup (.cons (.bin .sub (.bin .mod (.var 5) (.int 7)) (.int 3)) (.cons (.bin .sub (.bin .mod (.bin .div (.var 5) (.int 7)) (.int 7)) (.int 3)) .nil))))
(.cons (.ife (.cmp .eq (.var 2) (.int 1))
(.cons (.set false 6 (.tup (.cons (.bin .sub (.bin .mod (.call 1 (.cons (.var 0) (.cons (.var 4) .nil))) (.bin .mul (.int 2) (.bin .pow (.int 10) (.int 30)))) (.bin .pow (.int 10) (.int 30))) (.cons (.bin .sub (.var 5) (.bin .pow (.int 10) (.int 9))) .nil))))
.nil)
.nil)
(.cons (.ife (.cmp .eq (.var 2) (.int 2))
(.cons (.set false 6 (.tup (.cons (.bin .sub (.bin .mod (.var 5) (.int 2001)) (.int 1000)) (.cons (.bin .sub (.bin .mod (.bin .div (.var 5) (.int 2001)) (.int 2001)) (.int 1000)) .nil))))
.nil)
.nil)
(.cons (.ife (.cmp .eq (.var 2) (.int 3))
(.cons (.set false 7 (.bin .sub (.bin .mod (.var 5) (.int 9)) (.int 4)))
(.cons (.set false 8 (.bin .mod (.call 1 (.cons (.var 0) (.cons (.int 1) .nil))) (.int 9)))
(.cons (.set false 6 (.tup (.cons (.bin .add (.bin .mul (.var 7) (.bin .sub (.bin .mod (.var 8) (.int 3)) (.int 1))) (.int 5)) (.cons (.bin .sub (.bin .mul (.var 7) (.bin .sub (.bin .div (.var 8) (.int 3)) (.int 1))) (.int 2)) .nil))))
.nil)))
.nil)
(.cons (.app 3 (.var 6))
.nil))))))
def f_law_points_k11_L0 : Sm := .fr (.one 4) (.rng (.var 1)) f_law_points_k11_B0
def f_law_points_k11 : Fn := ⟨9, 2,
(.cons (.set false 2 (.bin .mod (.call 1 (.cons (.var 0) (.cons (.int 0) .nil))) (.int 5)))
(.cons (.set true 3 (.lst .nil))
(.cons f_law_points_k11_L0
(.cons (.retv 3)
.nil))))⟩
def f_law_right_k11_B0 : Sms := (.cons (.ife (.ors (.cons (.cmp .ne (.idx (.var 2) (.int 1)) (.int 1)) (.cons (.cmp .ne (.idx (.var 3) (.int 1)) (.int 1)) (.cons (.nin (.tup (.cons (.idx (.var 2) (.int 0)) (.cons (.idx (.var 3) (.int 0)) .nil))) (.var 1)) .nil))))
(.cons (.ret (.bl false))
.nil)
.nil)
.nil)
def f_law_right_k11_L0 : Sm := .fr (.many [2, 3]) (.ex (.var 0)) f_law_right_k11_B0
def f_law_right_k11_C0 : Ex := .comp (.call 39 (.cons (.var 5) .nil)) (.one 5) (.ex (.var 0)) .nil
def f_law_right_k11_B1 : Sms := (.cons (.ife (.not (.call 44 (.cons (.var 4) (.cons (.tup (.cons (.var 2) (.cons (.var 3) (.cons (.int 1) .nil)))) .nil))))
(.cons (.ret (.bl false))
.nil)
.nil)
.nil)
def f_law_right_k11_L1 : Sm := .fr (.many [2, 3]) (.ex (.var 1)) f_law_right_k11_B1
def f_law_right_k11 : Fn := ⟨6, 2,
(.cons (.ife (.ors (.cons (.not (.call 43 (.cons (.var 0) .nil))) (.cons (.cmp .eq (.var 0) (.lst .nil)) .nil)))
(.cons (.ret (.bl false))
.nil)
.nil)
(.cons f_law_right_k11_L0
(.cons (.set false 4 f_law_right_k11_C0)
(.cons f_law_right_k11_L1
(.cons (.ret (.bl true))
.nil)))))⟩
def f_law_k11 : Fn := ⟨4, 1,
(.cons (.set false 1 (.call 45 (.cons (.var 0) (.cons (.b2 .max (.int 1) (.b2 .min (.int 63) (.b1 .len (.var 0)))) .nil))))
(.cons (.set false 2 (.b1 .list (.var 1)))
(.cons (.set true 3 (.call 38 (.cons (.var 2) .nil)))
(.cons (.ife (.ors (.cons (.not (.callB 46 (.cons (.var 3) (.cons (.var 1) .nil)))) (.cons (.cmp .ne (.var 2) (.var 1)) (.cons (.cmp .ne (.call 38 (.cons (.lst .nil) .nil)) (.lst .nil)) .nil))))
(.cons (.ret (.bl false))
.nil)
.nil)
(.cons (.clr 3)
(.cons (.ret (.call 46 (.cons (.call 38 (.cons (.var 2) .nil)) (.cons (.var 1) .nil))))
.nil))))))⟩
def f_spread : Fn := ⟨3, 1,
(.cons (.unp [1, 2] (.var 0))
(.cons (.ret (.tup (.cons (.bin .mul (.idx (.var 1) (.int 0)) (.idx (.var 2) (.int 1))) (.cons (.bin .mul (.idx (.var 2) (.int 0)) (.idx (.var 1) (.int 1))) (.cons (.bin .mul (.idx (.var 1) (.int 1)) (.idx (.var 2) (.int 1))) .nil)))))
.nil))⟩
def f_ahead : Fn := ⟨2, 2,
(.cons (.ife (.cmp .ne (.idx (.var 0) (.int 0)) (.idx (.var 1) (.int 0)))
(.cons (.ret (.call 8 (.cons (.idx (.var 0) (.int 0)) (.cons (.idx (.var 1) (.int 0)) .nil))))
.nil)
.nil)
(.cons (.ret (.call 8 (.cons (.idx (.var 0) (.int 1)) (.cons (.idx (.var 1) (.int 1)) .nil))))
.nil))⟩
def f_lies_in_C0 : Ex := .comp (.call 48 (.cons (.var 4) .nil)) (.one 4) (.ex (.var 0)) .nil
def f_lies_in_C1 : Ex := .comp (.call 37 (.cons (.idx (.var 3) (.bin .sub (.var 6) (.int 1))) (.cons (.idx (.var 3) (.var 6)) (.cons (.var 2) .nil)))) (.one 6) (.rng (.b1 .len (.var 3))) .nil
def f_lies_in : Fn := ⟨7, 2,
(.cons (.ife (.cmp .lt (.b1 .len (.var 0)) (.int 2))
(.cons (.ret (.bin .sub (.b1 .int (.inn (.var 1) (.var 0))) (.int 1)))
.nil)
.nil)
(.cons (.set false 2 (.call 48 (.cons (.var 1) .nil)))
(.cons (.set false 3 f_lies_in_C0)
(.cons (.set false 5 f_lies_in_C1)
(.cons (.ife (.cmp .eq (.b1 .len (.var 0)) (.int 2))
(.cons (.ret (.bin .sub (.b1 .int (.ands (.cons (.cmp .eq (.idx (.var 5) (.int 0)) (.int 0)) (.cons (.not (.call 49 (.cons (.var 1) (.cons (.idx (.var 0) (.int 0)) .nil)))) (.cons (.not (.call 49 (.cons (.idx (.var 0) (.int 1)) (.cons (.var 1) .nil)))) .nil))))) (.int 1)))
.nil)
.nil)
(.cons (.ret (.bin .sub (.b1 .int (.cmp .gt (.b1 .min (.var 5)) (.int 0))) (.b1 .int (.cmp .lt (.b1 .min (.var 5)) (.int 0)))))
.nil))))))⟩
def f_law_k12_C0 : Ex := .comp (.tup (.cons (.idx (.var 7) (.int 0)) (.cons (.idx (.var 8) (.int 0)) .nil))) (.many [7, 8]) (.ex (.bin .add (.call 38 (.cons (.slc (.var 2) .non (.var 5)) .nil)) (.call 38 (.cons (.slc (.var 2) (.var 5) .non) .nil)))) .nil
def f_law_k12 : Fn := ⟨10, 1,
(.cons (.set false 1 (.b2 .max (.int 1) (.b2 .min (.int 63) (.b1 .len (.var 0)))))
(.cons (.set true 2 (.call 45 (.cons (.var 0) (.cons (.bin .add (.var 1) (.int 1)) .nil))))
(.cons (.popTo 3 2)
(.cons (.frz 2)
(.cons (.set false 4 (.call 38 (.cons (.var 2) .nil)))
(.cons (.set false 5 (.bin .mod (.call 15 (.cons (.var 0) (.cons (.int 130) .nil))) (.bin .add (.var 1) (.int 1))))
(.cons (.set false 6 f_law_k12_C0)
(.cons (.ife (.ors (.cons (.cmp .ne (.call 38 (.cons (.var 6) .nil)) (.var 4)) (.cons (.cmp .ne (.call 38 (.cons (.b1 .lrev (.var 2)) .nil)) (.var 4)) (.cons (.cmp .ne (.call 38 (.cons (.bin .add (.var 2) (.lst (.cons (.idx (.var 2) (.bin .sub (.var 5) (.int 1))) .nil))) .nil)) (.var 4)) .nil))))
(.cons (.ret (.bl false))
.nil)
.nil)
(.cons (.set false 9 (.cmp .ge (.call 50 (.cons (.var 4) (.cons (.tup (.cons (.tup (.cons (.idx (.var 3) (.int 0)) (.cons (.int 1) .nil))) (.cons (.tup (.cons (.idx (.var 3) (.int 1)) (.cons (.int 1) .nil))) .nil))) .nil))) (.int 0)))
(.cons (.ret (.cmp .eq (.cmp .eq (.call 38 (.cons (.bin .add (.var 2) (.lst (.cons (.var 3) .nil))) .nil)) (.var 4)) (.var 9)))
.nil))))))))))⟩
def f_first_of_B0 : Sms := (.cons (.ife (.call 49 (.cons (.idx (.var 0) (.var 2)) (.cons (.idx (.var 0) (.var 1)) .nil)))
(.cons (.set false 1 (.var 2))
.nil)
.nil)
.nil)
def f_first_of_L0 : Sm := .fr (.one 2) (.rng (.b1 .len (.var 0))) f_first_of_B0
def f_first_of : Fn := ⟨3, 1,
(.cons (.set false 1 (.int 0))
(.cons f_first_of_L0
(.cons (.ret (.var 1))
.nil)))⟩
def f_last_of_B0 : Sms := (.cons (.ife (.call 49 (.cons (.var 1) (.cons (.var 2) .nil)))
(.cons (.set false 1 (.var 2))
.nil)
.nil)
.nil)
def f_last_of_L0 : Sm := .fr (.one 2) (.ex (.var 0)) f_last_of_B0
def f_last_of : Fn := ⟨3, 1,
(.cons (.set false 1 (.idx (.var 0) (.int 0)))
(.cons f_last_of_L0
(.cons (.ret (.var 1))
.nil)))⟩
def f_tidied_C0 : Ex := .comp (.idx (.var 0) (.var 2)) (.one 2) (.rng (.b1 .len (.var 0))) (.cons (.cmp .ne (.idx (.var 0) (.var 2)) (.idx (.var 0) (.bin .sub (.var 2) (.int 1)))) .nil)
def f_tidied_C1 : Ex := .comp (.call 48 (.cons (.var 4) .nil)) (.one 4) (.ex (.var 1)) .nil
def f_tidied_C2 : Ex := .comp (.idx (.var 1) (.var 2)) (.one 2) (.rng (.var 5)) (.cons (.cmp .gt (.call 37 (.cons (.idx (.var 3) (.bin .sub (.var 2) (.int 1))) (.cons (.idx (.var 3) (.var 2)) (.cons (.idx (.var 3) (.bin .mod (.bin .add (.var 2) (.int 1)) (.var 5))) .nil)))) (.int 0)) .nil)
def f_tidied : Fn := ⟨8, 1,
(.cons (.set false 1 f_tidied_C0)
(.cons (.ife (.cmp .eq (.var 1) (.lst .nil))
(.cons (.ret (.slc (.var 0) .non (.int 1)))
.nil)
.nil)
(.cons (.set false 3 f_tidied_C1)
(.cons (.set false 5 (.b1 .len (.var 1)))
(.cons (.set false 6 f_tidied_C2)
(.cons (.ife (.cmp .lt (.b1 .len (.var 6)) (.int 3))
(.cons (.ret (.lst (.cons (.idx (.var 1) (.call 52 (.cons (.var 1) .nil))) (.cons (.call 53 (.cons (.var 1) .nil)) .nil))))
.nil)
.nil)
(.cons (.set false 7 (.call 52 (.cons (.var 6) .nil)))
(.cons (.ret (.bin .add (.slc (.var 6) (.var 7) .non) (.slc (.var 6) .non (.var 7))))
.nil))))))))⟩
def f_over_border : Fn := ⟨2, 2,
(.cons (.ret (.bin .sub (.bin .add (.bin .mul (.idx (.var 0) (.int 0)) (.idx (.var 1) (.int 0))) (.bin .mul (.idx (.var 0) (.int 1)) (.idx (.var 1) (.int 1)))) (.bin .mul (.idx (.var 0) (.int 2)) (.idx (.var 1) (.int 2)))))
.nil)⟩
def f_crossing : Fn := ⟨5, 4,
(.cons (.set false 4 (.bin .sub (.bin .mul (.var 2) (.idx (.var 1) (.int 2))) (.bin .mul (.var 3) (.idx (.var 0) (.int 2)))))
(.cons (.ret (.tup (.cons (.call 7 (.cons (.bin .sub (.bin .mul (.var 2) (.idx (.var 1) (.int 0))) (.bin .mul (.var 3) (.idx (.var 0) (.int 0)))) (.cons (.var 4) .nil))) (.cons (.call 7 (.cons (.bin .sub (.bin .mul (.var 2) (.idx (.var 1) (.int 1))) (.bin .mul (.var 3) (.idx (.var 0) (.int 1)))) (.cons (.var 4) .nil))) .nil))))
.nil))⟩
def f_clipped_C0 : Ex := .comp (.call 48 (.cons (.var 3) .nil)) (.one 3) (.ex (.var 0)) .nil
def f_clipped_C1 : Ex := .comp (.call 55 (.cons (.var 1) (.cons (.var 3) .nil))) (.one 3) (.ex (.var 2)) .nil
def f_clipped_B0 : Sms := (.cons (.ife (.cmp .lt (.bin .mul (.idx (.var 4) (.bin .sub (.var 6) (.int 1))) (.idx (.var 4) (.var 6))) (.int 0))
(.cons (.app 5 (.call 56 (.cons (.idx (.var 2) (.bin .sub (.var 6) (.int 1))) (.cons (.idx (.var 2) (.var 6)) (.cons (.idx (.var 4) (.bin .sub (.var 6) (.int 1))) (.cons (.idx (.var 4) (.var 6)) .nil))))))
.nil)
.nil)
(.cons (.ife (.cmp .ge (.idx (.var 4) (.var 6)) (.int 0))
(.cons (.app 5 (.idx (.var 0) (.var 6)))
.nil)
.nil)
.nil))
def f_clipped_L0 : Sm := .fr (.one 6) (.rng (.b1 .len (.var 0))) f_clipped_B0
def f_clipped : Fn := ⟨7, 2,
(.cons (.set false 2 f_clipped_C0)
(.cons (.set false 4 f_clipped_C1)
(.cons (.set true 5 (.lst .nil))
(.cons f_clipped_L0
(.cons (.frz 5)
(.cons (.ret (.call 54 (.cons (.var 5) .nil)))
.nil))))))⟩
def f_law_half_k13 : Fn := ⟨4, 3,
(.cons (.set false 3 (.call 16 (.cons (.call 16 (.cons (.var 0) (.cons (.var 1) .nil))) (.cons (.var 2) .nil))))
(.cons (.ret (.tup (.cons (.bin .div (.var 0) (.var 3)) (.cons (.bin .div (.var 1) (.var 3)) (.cons (.bin .div (.var 2) (.var 3)) .nil)))))
.nil))⟩
def f_law_halves_k13_B0 : Sms := (.cons (.set false 5 (.call 15 (.cons (.var 0) (.cons (.bin .add (.int 70) (.var 4)) .nil))))
(.cons (.unp [6, 7] (.idx (.var 1) (.bin .mod (.var 5) (.b1 .len (.var 1)))))
(.cons (.set false 8 (.idx (.var 1) (.bin .mod (.bin .div (.var 5) (.int 64)) (.b1 .len (.var 1)))))
(.cons (.set false 9 (.bin .sub (.bin .add (.bin .sub (.var 7) (.idx (.var 8) (.int 1))) (.bin .mod (.bin .div (.var 5) (.int 4096)) (.int 3))) (.int 1)))
(.cons (.set false 10 (.bin .sub (.bin .add (.bin .sub (.idx (.var 8) (.int 0)) (.var 6)) (.bin .mod (.bin .div (.var 5) (.int 12288)) (.int 3))) (.int 1)))
(.cons (.ife (.ands (.cons (.cmp .eq (.var 9) (.int 0)) (.cons (.cmp .eq (.var 10) (.int 0)) .nil)))
(.cons (.set false 9 (.bin .sub (.int 1) (.bin .mul (.int 2) (.bin .mod (.bin .div (.var 5) (.int 36864)) (.int 2)))))
.nil)
.nil)
(.cons (.app 3 (.call 58 (.cons (.var 9) (.cons (.var 10) (.cons (.bin .add (.bin .add (.bin .mul (.var 9) (.var 6)) (.bin .mul (.var 10) (.var 7))) (.idx (.lst (.cons (.int 0) (.cons (.int 0) (.cons (.int 1) (.cons (.neg (.int 1)) .nil))))) (.bin .mod (.bin .div (.var 5) (.int 73728)) (.int 4)))) .nil)))))
.nil)))))))
def f_law_halves_k13_L0 : Sm := .fr (.one 4) (.rng (.var 2)) f_law_halves_k13_B0
def f_law_halves_k13 : Fn := ⟨11, 3,
(.cons (.set true 3 (.lst .nil))
(.cons f_law_halves_k13_L0
(.cons (.retv 3)
.nil)))⟩
def f_law_over : Fn := ⟨2, 2,
(.cons (.ret (.bin .sub (.bin .add (.bin .mul (.idx (.var 0) (.int 0)) (.idx (.var 1) (.int 0))) (.bin .mul (.idx (.var 0) (.int 1)) (.idx (.var 1) (.int 1)))) (.bin .mul (.idx (.var 0) (.int 2)) (.idx (.var 1) (.int 2)))))
.nil)⟩
def f_law_met : Fn := ⟨8, 3,
(.cons (.set false 3 (.call 60 (.cons (.var 0) (.cons (.var 1) .nil))))
(.cons (.set false 4 (.call 60 (.cons (.var 0) (.cons (.var 2) .nil))))
(.cons (.set false 5 (.bin .sub (.bin .mul (.var 3) (.idx (.var 2) (.int 2))) (.bin .mul (.var 4) (.idx (.var 1) (.int 2)))))
(.cons (.set false 6 (.bin .sub (.bin .mul (.var 3) (.idx (.var 2) (.int 0))) (.bin .mul (.var 4) (.idx (.var 1) (.int 0)))))
(.cons (.set false 7 (.bin .sub (.bin .mul (.var 3) (.idx (.var 2) (.int 1))) (.bin .mul (.var 4) (.idx (.var 1) (.int 1)))))
(.cons (.ife (.cmp .lt (.var 5) (.int 0))
(.cons (.ret (.tup (.cons (.bin .sub (.int 0) (.var 6)) (.cons (.bin .sub (.int 0) (.var 7)) (.cons (.bin .sub (.int 0) (.var 5)) .nil)))))
.nil)
.nil)
(.cons (.ret (.tup (.cons (.var 6) (.cons (.var 7) (.cons (.var 5) .nil)))))
.nil)))))))⟩
def f_law_right_k13_C0 : Ex := .comp (.call 39 (.cons (.var 4) .nil)) (.one 4) (.ex (.var 0)) .nil
def f_law_right_k13_C1 : Ex := .comp (.call 39 (.cons (.var 4) .nil)) (.one 4) (.ex (.var 1)) .nil
def f_law_right_k13_B0 : Sms := (.cons (.ife (.ors (.cons (.not (.call 44 (.cons (.var 5) (.cons (.var 6) .nil)))) (.cons (.cmp .lt (.call 60 (.cons (.var 2) (.cons (.var 6) .nil))) (.int 0)) .nil)))
(.cons (.ret (.bl false))
.nil)
.nil)
.nil)
def f_law_right_k13_L0 : Sm := .fr (.one 6) (.ex (.var 3)) f_law_right_k13_B0
def f_law_right_k13_B1 : Sms := (.cons (.ife (.ands (.cons (.cmp .ge (.call 60 (.cons (.var 2) (.cons (.idx (.var 5) (.var 7)) .nil))) (.int 0)) (.cons (.not (.call 44 (.cons (.var 3) (.cons (.idx (.var 5) (.var 7)) .nil)))) .nil)))
(.cons (.ret (.bl false))
.nil)
.nil)
(.cons (.ife (.cmp .lt (.bin .mul (.call 60 (.cons (.var 2) (.cons (.idx (.var 5) (.var 7)) .nil))) (.call 60 (.cons (.var 2) (.cons (.idx (.var 5) (.bin .sub (.var 7) (.int 1))) .nil)))) (.int 0))
(.cons (.ife (.not (.call 44 (.cons (.var 3) (.cons (.call 61 (.cons (.var 2) (.cons (.idx (.var 5) (.bin .sub (.var 7) (.int 1))) (.cons (.idx (.var 5) (.var 7)) .nil)))) .nil))))
(.cons (.ret (.bl false))
.nil)
.nil)
.nil)
.nil)
.nil))
def f_law_right_k13_L1 : Sm := .fr (.one 7) (.rng (.b1 .len (.var 5))) f_law_right_k13_B1
def f_law_right_k13 : Fn := ⟨8, 3,
(.cons (.ife (.not (.call 43 (.cons (.var 0) .nil)))
(.cons (.ret (.bl false))
.nil)
.nil)
(.cons (.set false 3 f_law_right_k13_C0)
(.cons (.set false 5 f_law_right_k13_C1)
(.cons f_law_right_k13_L0
(.cons f_law_right_k13_L1
(.cons (.ret (.bl true))
.nil))))))⟩
def f_law_k13_B0 : Sms := (.cons (.set false 4 (.b1 .list (.var 2)))
(.cons (.set true 5 (.call 57 (.cons (.var 4) (.cons (.var 3) .nil))))
(.cons (.ife (.ors (.cons (.not (.callB 62 (.cons (.var 5) (.cons (.var 2) (.cons (.var 3) .nil))))) (.cons (.cmp .ne (.call 57 (.cons (.lst .nil) (.cons (.var 3) .nil))) (.lst .nil)) .nil)))
(.cons (.ret (.bl false))
.nil)
.nil)
(.cons (.set false 6 (.b1 .list (.var 5)))
(.cons (.app 5 (.tup (.cons (.tup (.cons (.int 0) (.cons (.int 1) .nil))) (.cons (.tup (.cons (.int 0) (.cons (.int 1) .nil))) .nil))))
(.cons (.ife (.ors (.cons (.cmp .ne (.var 4) (.var 2)) (.cons (.cmp .ne (.call 57 (.cons (.var 4) (.cons (.var 3) .nil))) (.var 6)) .nil)))
(.cons (.ret (.bl false))
.nil)
.nil)
(.cons (.set false 2 (.var 6))
.nil)))))))
def f_law_k13_L0 : Sm := .fr (.one 3) (.ex (.call 59 (.cons (.var 0) (.cons (.var 1) (.cons (.bin .add (.int 1) (.bin .mod (.call 15 (.cons (.var 0) (.cons (.int 90) .nil))) (.int 6))) .nil))))) f_law_k13_B0
def f_law_k13 : Fn := ⟨7, 1,
(.cons (.set false 1 (.call 45 (.cons (.var 0) (.cons (.b2 .max (.int 1) (.b2 .min (.int 12) (.b1 .len (.var 0)))) .nil))))
(.cons (.set false 2 (.call 38 (.cons (.var 1) .nil)))
(.cons f_law_k13_L0
(.cons (.ret (.bl true))
.nil))))⟩
def f_law_k14_C0 : Ex := .comp (.var 9) (.one 9) (.ex (.var 8)) (.cons (.cmp .ne (.call 60 (.cons (.var 6) (.cons (.call 39 (.cons (.var 9) .nil)) .nil))) (.int 0)) .nil)
def f_law_k14_C1 : Ex := .comp (.var 9) (.one 9) (.ex (.var 2)) (.cons (.cmp .lt (.call 60 (.cons (.var 6) (.cons (.call 39 (.cons (.var 9) .nil)) .nil))) (.int 0)) .nil)
def f_law_k14_B0 : Sms := (.cons (.set false 4 (.call 57 (.cons (.var 4) (.cons (.var 6) .nil))))
(.cons (.set false 5 (.call 57 (.cons (.call 57 (.cons (.var 5) (.cons (.var 6) .nil))) (.cons (.var 6) .nil))))
(.cons (.set false 7 (.tup (.cons (.bin .sub (.int 0) (.idx (.var 6) (.int 0))) (.cons (.bin .sub (.int 0) (.idx (.var 6) (.int 1))) (.cons (.bin .sub (.int 0) (.idx (.var 6) (.int 2))) .nil)))))
(.cons (.set false 8 (.call 57 (.cons (.call 57 (.cons (.var 2) (.cons (.var 6) .nil))) (.cons (.var 7) .nil))))
(.cons (.ife (.ors (.cons (.cmp .ne (.var 8) (.call 57 (.cons (.call 57 (.cons (.var 2) (.cons (.var 7) .nil))) (.cons (.var 6) .nil)))) (.cons (.not (.call 43 (.cons (.var 8) .nil))) (.cons (.cmp .gt (.b1 .len (.var 8)) (.int 2)) .nil))))
(.cons (.ret (.bl false))
.nil)
.nil)
(.cons (.ife (.cmp .ne f_law_k14_C0 (.lst .nil))
(.cons (.ret (.bl false))
.nil)
.nil)
(.cons (.ife (.ands (.cons (.cmp .eq f_law_k14_C1 (.lst .nil)) (.cons (.cmp .ne (.call 57 (.cons (.var 2) (.cons (.var 6) .nil))) (.var 2)) .nil)))
(.cons (.ret (.bl false))
.nil)
.nil)
.nil)))))))
def f_law_k14_L0 : Sm := .fr (.one 6) (.ex (.var 3)) f_law_k14_B0
def f_law_k14_B1 : Sms := (.cons (.set false 10 (.call 57 (.cons (.var 10) (.cons (.var 6) .nil))))
.nil)
def f_law_k14_L1 : Sm := .fr (.one 6) (.rev (.var 3)) f_law_k14_B1
def f_law_k14 : Fn := ⟨11, 1,
(.cons (.set false 1 (.call 45 (.cons (.var 0) (.cons (.b2 .max (.int 1) (.b2 .min (.int 12) (.b1 .len (.var 0)))) .nil))))
(.cons (.set false 2 (.call 38 (.cons (.var 1) .nil)))
(.cons (.set false 3 (.call 59 (.cons (.var 0) (.cons (.var 1) (.cons (.bin .add (.int 1) (.bin .mod (.call 15 (.cons (.var 0) (.cons (.int 90) .nil))) (.int 6))) .nil)))))
(.cons (.set false 4 (.var 2))
(.cons (.set false 5 (.var 2))
(.cons f_law_k14_L0
(.cons (.set false 10 (.var 2))
(.cons f_law_k14_L1
(.cons (.ret (.ands (.cons (.cmp .eq (.var 4) (.var 10)) (.cons (.cmp .eq (.var 4) (.var 5)) (.cons (.call 43 (.cons (.var 4) .nil)) .nil)))))
.nil)))))))))⟩
def f_law_k15_C0 : Ex := .comp (.var 4) (.many [4, 5]) (.ex (.var 1)) .nil
def f_law_k15_C1 : Ex := .comp (.var 5) (.many [4, 5]) (.ex (.var 1)) .nil
def f_law_k15_B0 : Sms := (.cons (.set false 10 (.call 57 (.cons (.var 10) (.cons (.var 11) .nil))))
.nil)
def f_law_k15_L0 : Sm := .fr (.one 11) (.ex (.lst (.cons (.call 13 (.cons (.int 1) (.cons (.int 0) (.cons (.b1 .min (.var 3)) .nil)))) (.cons (.call 13 (.cons (.neg (.int 1)) (.cons (.int 0) (.cons (.bin .sub (.int 0) (.b1 .max (.var 3))) .nil)))) (.cons (.call 13 (.cons (.int 0) (.cons (.int 1) (.cons (.b1 .min (.var 6)) .nil)))) (.cons (.call 13 (.cons (.int 0) (.cons (.neg (.int 1)) (.cons (.bin .sub (.int 0) (.b1 .max (.var 6))) .nil)))) .nil)))))) f_law_k15_B0
def f_law_k15_C2 : Ex := .comp (.tup (.cons (.idx (.var 4) (.int 0)) (.cons (.idx (.var 5) (.int 0)) .nil))) (.many [4, 5]) (.ex (.var 2)) .nil
def f_law_k15_B1 : Sms := (.cons (.ife (.cmp .gt (.b1 .len (.var 12)) (.int 1))
(.cons (.set false 10 (.call 57 (.cons (.var 10) (.cons (.call 21 (.cons (.idx (.var 12) (.bin .sub (.var 13) (.int 1))) (.cons (.idx (.var 12) (.var 13)) .nil))) .nil))))
.nil)
.nil)
.nil)
def f_law_k15_L1 : Sm := .fr (.one 13) (.rng (.b1 .len (.var 12))) f_law_k15_B1
def f_law_k15 : Fn := ⟨14, 1,
(.cons (.set false 1 (.call 45 (.cons (.var 0) (.cons (.b2 .max (.int 1) (.b2 .min (.int 30) (.b1 .len (.var 0)))) .nil))))
(.cons (.set false 2 (.call 38 (.cons (.var 1) .nil)))
(.cons (.set false 3 f_law_k15_C0)
(.cons (.set false 6 f_law_k15_C1)
(.cons (.set false 7 (.bin .add (.int 1) (.bin .mod (.call 15 (.cons (.var 0) (.cons (.int 130) .nil))) (.int 9))))
(.cons (.set false 8 (.bin .sub (.b1 .min (.bin .add (.var 3) (.var 6))) (.var 7)))
(.cons (.set false 9 (.bin .add (.b1 .max (.bin .add (.var 3) (.var 6))) (.var 7)))
(.cons (.set false 10 (.call 38 (.cons (.lst (.cons (.tup (.cons (.var 8) (.cons (.var 8) .nil))) (.cons (.tup (.cons (.var 9) (.cons (.var 8) .nil))) (.cons (.tup (.cons (.var 8) (.cons (.var 9) .nil))) (.cons (.tup (.cons (.var 9) (.cons (.var 9) .nil))) .nil))))) .nil)))
(.cons f_law_k15_L0
(.cons (.set false 12 f_law_k15_C2)
(.cons f_law_k15_L1
(.cons (.ret (.cmp .eq (.var 10) (.var 2)))
.nil))))))))))))⟩
def f_turned : Fn := ⟨3, 3,
(.cons (.ret (.bin .sub (.bin .mul (.bin .sub (.idx (.var 1) (.int 0)) (.idx (.var 0) (.int 0))) (.bin .sub (.idx (.var 2) (.int 1)) (.idx (.var 0) (.int 1)))) (.bin .mul (.bin .sub (.idx (.var 1) (.int 1)) (.idx (.var 0) (.int 1))) (.bin .sub (.idx (.var 2) (.int 0)) (.idx (.var 0) (.int 0))))))
.nil)⟩
def f_on_a_line_C0 : Ex := .comp (.idx (.var 5) (.var 1)) (.one 5) (.ex (.slc (.var 0) .non (.int 3))) .nil
def f_on_a_line : Fn := ⟨6, 1,
(.cons (.set false 1 (.int 0))
(.cons (.ife (.cmp .eq (.idx (.idx (.var 0) (.int 0)) (.int 0)) (.idx (.idx (.var 0) (.int 1)) (.int 0)))
(.cons (.set false 1 (.int 1))
.nil)
.nil)
(.cons (.unp [2, 3, 4] f_on_a_line_C0)
(.cons (.ret (.lst (.cons (.bin .sub (.var 3) (.var 4)) (.cons (.bin .sub (.var 4) (.var 2)) (.cons (.bin .sub (.var 2) (.var 3)) (.cons (.int 0) .nil))))))
.nil))))⟩
def f_balance_B0 : Sms := (.cons (.ife (.cmp .eq (.idx (.var 0) (.var 2)) (.idx (.var 0) (.var 1)))
(.cons (.set true 3 (.lst (.cons (.int 0) (.cons (.int 0) (.cons (.int 0) (.cons (.int 0) .nil))))))
(.cons (.sub 3 (.var 2) (.int 1))
(.cons (.sub 3 (.var 1) (.neg (.int 1)))
(.cons (.retv 3)
.nil))))
.nil)
.nil)
def f_balance_L0 : Sm := .fr (.one 2) (.rng (.var 1)) f_balance_B0
def f_balance_B1 : Sms := (.cons f_balance_L0
.nil)
def f_balance_L1 : Sm := .fr (.one 1) (.rng (.int 4)) f_balance_B1
def f_balance_B2 : Sms := (.cons (.unp [4, 5, 6] (.bin .add (.slc (.var 0) .non (.var 1)) (.slc (.var 0) (.bin .add (.var 1) (.int 1)) .non)))
(.cons (.app 3 (.bin .mul (.call 124 (.cons (.var 4) (.cons (.var 5) (.cons (.var 6) .nil)))) (.idx (.lst (.cons (.int 1) (.cons (.neg (.int 1)) .nil))) (.bin .mod (.var 1) (.int 2)))))
.nil))
def f_balance_L2 : Sm := .fr (.one 1) (.rng (.int 4)) f_balance_B2
def f_balance : Fn := ⟨7, 1,
(.cons f_balance_L1
(.cons (.set true 3 (.lst .nil))
(.cons f_balance_L2
(.cons (.ife (.cmp .eq (.var 3) (.lst (.cons (.int 0) (.cons (.int 0) (.cons (.int 0) (.cons (.int 0) .nil))))))
(.cons (.ret (.call 125 (.cons (.var 0) .nil)))
.nil)
.nil)
(.cons (.retv 3)
.nil)))))⟩
def f_parted_C0 : Ex := .comp (.var 3) (.one 3) (.ex (.var 1)) (.cons (.cmp .gt (.var 3) (.int 0)) .nil)
def f_parted_C1 : Ex := .comp (.var 7) (.one 7) (.rng (.int 4)) (.cons (.cmp .gt (.bin .mul (.idx (.var 1) (.var 7)) (.var 5)) (.int 0)) .nil)
def f_parted_C2 : Ex := .comp (.call 7 (.cons (.bin .mul (.idx (.var 1) (.var 7)) (.var 5)) (.cons (.var 2) .nil))) (.one 7) (.ex (.var 6)) .nil
def f_parted_B0 : Sms := (.cons (.set false 6 f_parted_C1)
(.cons (.app 4 (.tup (.cons (.var 6) (.cons f_parted_C2 .nil))))
.nil))
def f_parted_L0 : Sm := .fr (.one 5) (.ex (.lst (.cons (.int 1) (.cons (.neg (.int 1)) .nil)))) f_parted_B0
def f_parted_C3 : Ex := .comp (.bin .mul (.b2 .max (.idx (.var 1) (.var 7)) (.int 0)) (.idx (.idx (.var 0) (.var 7)) (.var 9))) (.one 7) (.rng (.int 4)) .nil
def f_parted_B1 : Sms := (.cons (.app 8 (.call 7 (.cons (.b1 .sum f_parted_C3) (.cons (.var 2) .nil))))
.nil)
def f_parted_L1 : Sm := .fr (.one 9) (.rng (.int 2)) f_parted_B1
def f_parted : Fn := ⟨10, 1,
(.cons (.ife (.cmp .ne (.b1 .len (.var 0)) (.int 4))
(.cons (.rse 5)
.nil)
.nil)
(.cons (.set false 1 (.call 126 (.cons (.var 0) .nil)))
(.cons (.set false 2 (.b1 .sum f_parted_C0))
(.cons (.set true 4 (.lst .nil))
(.cons f_parted_L0
(.cons (.set true 8 (.lst .nil))
(.cons f_parted_L1
(.cons (.ret (.tup (.cons (.idx (.idx (.var 4) (.int 0)) (.int 0)) (.cons (.idx (.idx (.var 4) (.int 1)) (.int 0)) (.cons (.idx (.idx (.var 4) (.int 0)) (.int 1)) (.cons (.idx (.idx (.var 4) (.int 1)) (.int 1)) (.cons (.tup (.cons (.idx (.var 8) (.int 0)) (.cons (.idx (.var 8) (.int 1)) .nil))) .nil)))))))
.nil))))))))⟩
def fuel : Nat := 1000000000000
end Ev
namespace Ev
open PySem PyProof.Rows L2
/-! ### plain lemmas about the evaluator -/
def slV : Option Sl → Rs
  | some (.sh d) => some (.sh, d)
  | some (.ow ds) => some (.bo, .lst ds)
  | _ => none
@[simp] theorem slV_sh (d : D) : slV (some (.sh d)) = some (.sh, d) := rfl
@[simp] theorem slV_ow (ds : List D) : slV (some (.ow ds)) = some (.bo, .lst ds) := rfl
def outV : Out → M × D
  | .nx _ => (.sh, .non)
  | .rt m d => (m, d)
  | .ex c _ => (.ex, .exc c)
@[simp] theorem outV_ex (c : Nat) (g : Env') : outV (.ex c g) = (.ex, .exc c) := rfl
@[simp] theorem noEx_sh (d : D) : noEx (some (.sh, d)) = some (.sh, d) := rfl
@[simp] theorem noEx_fr (d : D) : noEx (some (.fr, d)) = some (.fr, d) := rfl
@[simp] theorem noEx_ex (d : D) : noEx (some (.ex, d)) = none := rfl
@[simp] theorem exOf_sh (d : D) : exOf (some (.sh, d)) = none := rfl
@[simp] theorem exOf_fr (d : D) : exOf (some (.fr, d)) = none := rfl
@[simp] theorem exOf_ex (c : Nat) : exOf (some (.ex, .exc c)) = some c := rfl
@[simp] theorem isX_int (i : Int) : isX (.int i) = false := rfl
@[simp] theorem isX_bl (i : Bool) : isX (.bl i) = false := rfl
@[simp] theorem isX_tup (ds : List D) : isX (.tup ds) = false := rfl
@[simp] theorem isX_lst (ds : List D) : isX (.lst ds) = false := rfl
@[simp] theorem isX_non : isX .non = false := rfl
@[simp] theorem isX_str (s : Str) : isX (.str s) = false := rfl
@[simp] theorem isxD_exc (cs : List Nat) (c : Nat) : isxD cs (.exc c) = if c < 6 then some (cs.any fun d => subX c d) else none := rfl
@[simp] theorem outV_rt (m : M) (d : D) : outV (.rt m d) = (m, d) := rfl
section
variable (ct : Ct) (n : Nat) (g : Env') (a b c e : Ex) (es : Exs) (i j : Nat)
@[simp] theorem evE_var : evE ct g (.var i) = slV g[i]? := by
  simp only [evE]
  cases g[i]? with
  | none => rfl
  | some s => cases s <;> rfl
@[simp] theorem evE_int (k : Int) : evE ct g (.int k) = some (.sh, .int k) := by simp only [evE]
@[simp] theorem evE_bl (k : Bool) : evE ct g (.bl k) = some (.sh, .bl k) := by simp only [evE]
@[simp] theorem evE_non : evE ct g .non = some (.sh, .non) := by simp only [evE]
@[simp] theorem evE_str (s : Str) : evE ct g (.str s) = some (.sh, .str s) := by simp only [evE]
@[simp] theorem evE_bin (o : Bop) : evE ct g (.bin o a b) = (evE ct g a).bind fun x => (evE ct g b).bind fun y => binD o x.2 y.2 := by simp only [evE]; rfl
@[simp] theorem evE_neg : evE ct g (.neg a) = (evE ct g a).bind fun x => (asInt x.2).bind fun i => some (.sh, .int (-i)) := by simp only [evE]; rfl
@[simp] theorem evE_cmp (o : Cop) : evE ct g (.cmp o a b) = (evE ct g a).bind fun x => (evE ct g b).bind fun y => (cmpD o x.2 y.2).bind fun k => some (.sh, .bl k) := by simp only [evE]; rfl
@[simp] theorem evE_isN : evE ct g (.isN a) = (evE ct g a).bind fun x => some (.sh, .bl (isNonD x.2)) := by simp only [evE]; rfl
@[simp] theorem evE_notN : evE ct g (.notN a) = (evE ct g a).bind fun x => some (.sh, .bl (!isNonD x.2)) := by simp only [evE]; rfl
@[simp] theorem evE_inn : evE ct g (.inn a b) = (evE ct g a).bind fun x => (evE ct g b).bind fun y => (inD x.2 y.2).bind fun k => some (.sh, .bl k) := by simp only [evE]; rfl
@[simp] theorem evE_nin : evE ct g (.nin a b) = (evE ct g a).bind fun x => (evE ct g b).bind fun y => (inD x.2 y.2).bind fun k => some (.sh, .bl (!k)) := by simp only [evE]; rfl
@[simp] theorem evE_ands : evE ct g (.ands es) = evAnd ct g es := by simp only [evE]
@[simp] theorem evE_ors : evE ct g (.ors es) = evOr ct g es := by simp only [evE]
@[simp] theorem evE_not : evE ct g (.not a) = (evE ct g a).bind fun x => (asBl x.2).bind fun k => some (.sh, .bl (!k)) := by simp only [evE]; rfl
@[simp] theorem evE_tup : evE ct g (.tup es) = (evs ct g es).bind fun ds => if lenOk ds.length then some (.sh, .tup ds) else none := by simp only [evE]; rfl
@[simp] theorem evE_lst : evE ct g (.lst es) = (evs ct g es).bind fun ds => if lenOk ds.length then some (.fr, .lst ds) else none := by simp only [evE]; rfl
@[simp] theorem evE_idx : evE ct g (.idx a b) = (evE ct g a).bind fun x => (evE ct g b).bind fun y => (asInt y.2).bind fun k => (asLT x.2).bind fun ds => (atI ds k).bind fun d => some (.sh, d) := by simp only [evE]; rfl
@[simp] theorem evE_slc : evE ct g (.slc a b c) = (evE ct g a).bind fun x => (partV (isNonE b) (evE ct g b)).bind fun l => (partV (isNonE c) (evE ct g c)).bind fun h => slcD x.2 l h := by simp only [evE]; rfl
@[simp] theorem evE_b1 (f : Bi) : evE ct g (.b1 f a) = (evE ct g a).bind fun x => b1D f x.2 := by simp only [evE]; rfl
@[simp] theorem evE_b2 (f : B2) : evE ct g (.b2 f a b) = (evE ct g a).bind fun x => (evE ct g b).bind fun y => b2D f x.2 y.2 := by simp only [evE]; rfl
@[simp] theorem evE_isi (t : Ty) : evE ct g (.isi a t) = (evE ct g a).bind fun x => if isX x.2 then none else some (.sh, .bl (isiD t x.2)) := by simp only [evE]; rfl
@[simp] theorem evE_isx (cs : List Nat) (m : Bool) : evE ct g (.isx a cs m) = (ct flagX []).bind fun _ => (evE ct g a).bind fun x => (isxD cs x.2).bind fun k => some (.sh, .bl k) := by simp only [evE]; rfl
@[simp] theorem evE_call (f : Nat) : evE ct g (.call f es) = (evs ct g es).bind fun ds => noEx (ct f ds) := by simp only [evE]; rfl
@[simp] theorem evE_callB (f : Nat) : evE ct g (.callB f es) = callBF ct f (evs ct g es) (evsB ct g es) := by simp only [evE]
@[simp] theorem callBF_some (f : Nat) (ds : List D) (b : Option (List D)) : callBF ct f (some ds) b = noEx (ct f ds) := rfl
@[simp] theorem callBF_none (f : Nat) (b : Option (List D)) : callBF ct f none b = b.bind fun ds => (noEx (ct f ds)).bind fun r => if scOf r then some r else none := rfl
@[simp] theorem evsB_nil : evsB ct g .nil = some [] := by simp only [evsB]
@[simp] theorem evsB_cons : evsB ct g (.cons e es) = (evE ct g e).bind fun x => (evsB ct g es).bind fun ds => some (x.2 :: ds) := by simp only [evsB]; rfl
@[simp] theorem scOf_int (i : Int) : scOf (.sh, .int i) = true := rfl
@[simp] theorem scOf_bl (i : Bool) : scOf (.sh, .bl i) = true := rfl
@[simp] theorem scOf_non : scOf (.sh, .non) = true := rfl
theorem evE_comp (tg : Tg) (it : Itx) : evE ct g (.comp e tg it es) = (evI ct g it).bind fun r => (compF (asg tg) (fun g1 => evC ct g1 es) (fun g1 => evE ct g1 e) (wipeE g (tgSlots tg)) r.2 []).bind fun ds => some (.fr, .lst ds) := by simp only [evE]; rfl
@[simp] theorem evs_nil : evs ct g .nil = some [] := by simp only [evs]
@[simp] theorem evs_cons : evs ct g (.cons e es) = (evE ct g e).bind fun x => (storable x).bind fun d => (evs ct g es).bind fun ds => some (d :: ds) := by simp only [evs]; rfl
@[simp] theorem evAnd_one : evAnd ct g (.cons e .nil) = (evE ct g e).bind fun x => (asBl x.2).bind fun k => some (.sh, .bl k) := by simp only [evAnd]; rfl
@[simp] theorem evAnd_cons (e2 : Ex) : evAnd ct g (.cons e (.cons e2 es)) = (evE ct g e).bind fun x => (asBl x.2).bind fun k => if k then evAnd ct g (.cons e2 es) else some (.sh, .bl false) := by
  rw [evAnd]; rfl; intro z; cases z
@[simp] theorem evOr_one : evOr ct g (.cons e .nil) = (evE ct g e).bind fun x => (asBl x.2).bind fun k => some (.sh, .bl k) := by simp only [evOr]; rfl
@[simp] theorem evOr_cons (e2 : Ex) : evOr ct g (.cons e (.cons e2 es)) = (evE ct g e).bind fun x => (asBl x.2).bind fun k => if k then some (.sh, .bl true) else evOr ct g (.cons e2 es) := by
  rw [evOr]; rfl; intro z; cases z
@[simp] theorem evC_nil : evC ct g .nil = some true := by simp only [evC]
@[simp] theorem evC_one : evC ct g (.cons e .nil) = (evE ct g e).bind fun x => asBl x.2 := by simp only [evC]; rfl
@[simp] theorem evI_ex : evI ct g (.ex a) = (evE ct g a).bind fun x => (asLT x.2).bind fun ds => some (itM x.1, ds) := by simp only [evI]; rfl
@[simp] theorem evI_rng : evI ct g (.rng a) = (evE ct g a).bind fun x => (asInt x.2).bind fun i => if rngOk i then some (.sh, rngL 0 i.toNat) else none := by simp only [evI]; rfl
@[simp] theorem evI_rng2 : evI ct g (.rng2 a b) = (evE ct g a).bind fun x => (evE ct g b).bind fun y => (asInt x.2).bind fun i => (asInt y.2).bind fun j => if rngOk i && rngOk j then some (.sh, rngL i (j - i).toNat) else none := by simp only [evI]; rfl
@[simp] theorem evI_zip : evI ct g (.zip a b) = (evE ct g a).bind fun x => (evE ct g b).bind fun y => (asL x.2).bind fun ds => (asL y.2).bind fun es => some (if x.1 = .bo ∨ y.1 = .bo then .bo else .sh, zipL ds es) := by simp only [evI]; rfl
@[simp] theorem evI_enum : evI ct g (.enum a) = (evE ct g a).bind fun x => (asL x.2).bind fun ds => some (itM x.1, enumL 0 ds) := by simp only [evI]; rfl
@[simp] theorem evI_rev : evI ct g (.rev a) = (evE ct g a).bind fun x => (asL x.2).bind fun ds => some (itM x.1, ds.reverse) := by simp only [evI]; rfl
@[simp] theorem evS_set (own : Bool) : evS ct n (.set own i e) g = (evE ct g e).bind fun r => (slOf own r).bind fun s => (setSl i s g).bind fun g' => some (.nx g') := by simp only [evS]; rfl
@[simp] theorem evS_unp (is : List Nat) : evS ct n (.unp is e) g = (evE ct g e).bind fun r => (storable r).bind fun d => (asg (.many is) d g).bind fun g' => some (.nx g') := by simp only [evS]; rfl
@[simp] theorem evS_par : evS ct n (.par i j a b) g = (evE ct g a).bind fun x => (storable x).bind fun x' => (evE ct g b).bind fun y => (storable y).bind fun y' => (setSl i (.sh x') g).bind fun g1 => (setSl j (.sh y') g1).bind fun g2 => some (.nx g2) := by simp only [evS]; rfl
@[simp] theorem evS_sub : evS ct n (.sub i a e) g = (evE ct g e).bind fun r => (storable r).bind fun x => (evE ct g a).bind fun kk => (asInt kk.2).bind fun z => (ownAt g i).bind fun ds => (ixN ds.length z).bind fun j => (setSl i (.ow (ds.set j x)) g).bind fun g' => some (.nx g') := by simp only [evS]; rfl
@[simp] theorem evS_app : evS ct n (.app i e) g = (evE ct g e).bind fun r => (storable r).bind fun x => (ownAt g i).bind fun ds => if lenOk ds.length then (setSl i (.ow (ds ++ [x])) g).bind fun g' => some (.nx g') else none := by simp only [evS]; rfl
@[simp] theorem evS_pop : evS ct n (.pop i) g = (ownAt g i).bind fun ds => (ds[ds.length - 1]?).bind fun x => (setSl i (.ow ds.dropLast) g).bind fun g' => some (.nx g') := by simp only [evS]; rfl
@[simp] theorem evS_popTo : evS ct n (.popTo j i) g = (ownAt g i).bind fun ds => (ds[ds.length - 1]?).bind fun x => (setSl i (.ow ds.dropLast) g).bind fun g' => if i = j then none else (setSl j (.sh x) g').bind fun g2 => some (.nx g2) := by simp only [evS]; rfl
@[simp] theorem evS_clr : evS ct n (.clr i) g = (ownAt g i).bind fun ds => (setSl i (.ow []) g).bind fun g' => some (.nx g') := by simp only [evS]; rfl
@[simp] theorem frzO_sh (d : D) : frzO g i (some (.sh d)) = some (.nx g) := rfl
@[simp] theorem frzO_ow (ds : List D) : frzO g i (some (.ow ds)) = (setSl i (.sh (.lst ds)) g).bind fun g' => some (.nx g') := rfl
@[simp] theorem evS_frz : evS ct n (.frz i) g = frzO g i g[i]? := by simp only [evS]
@[simp] theorem evS_ret : evS ct n (.ret e) g = (evE ct g e).bind fun r => (storable r).bind fun _ => some (.rt r.1 r.2) := by simp only [evS]; rfl
@[simp] theorem evS_retv : evS ct n (.retv i) g = (ownAt g i).bind fun ds => some (.rt .fr (.lst ds)) := by simp only [evS]; rfl
/-- a call that may let an error out, and what is done with its value -/
noncomputable def orEx (r : Rs) (g : Env') (k : M × D → Option Out) : Option Out := match exOf r with
  | some c => some (.ex c g)
  | none => (noEx r).bind k
@[simp] theorem orEx_sh (d : D) (g : Env') (k : M × D → Option Out) : orEx (some (.sh, d)) g k = k (.sh, d) := rfl
@[simp] theorem orEx_fr (d : D) (g : Env') (k : M × D → Option Out) : orEx (some (.fr, d)) g k = k (.fr, d) := rfl
@[simp] theorem orEx_ex (c : Nat) (g : Env') (k : M × D → Option Out) : orEx (some (.ex, .exc c)) g k = some (.ex c g) := rfl
@[simp] theorem evS_setX (own : Bool) (f : Nat) : evS ct n (.setX own i f es) g = (evs ct g es).bind fun ds => orEx (ct f ds) g fun r => (slOf own r).bind fun s => (setSl i s g).bind fun g' => some (.nx g') := by simp only [evS]; rfl
@[simp] theorem evS_retX (f : Nat) : evS ct n (.retX f es) g = (evs ct g es).bind fun ds => orEx (ct f ds) g fun r => (storable r).bind fun _ => some (.rt r.1 r.2) := by simp only [evS]; rfl
@[simp] theorem evS_expX (f : Nat) : evS ct n (.expX f es) g = (evs ct g es).bind fun ds => orEx (ct f ds) g fun _ => some (.nx g) := by simp only [evS]; rfl
@[simp] theorem evS_rse (c : Nat) : evS ct n (.rse c) g = (ct flagX []).bind fun _ => if c < 6 then some (.ex c g) else none := by simp only [evS]; rfl
noncomputable def catchX (i j : Nat) : Out → Option Out
  | .nx g' => some (.nx g')
  | .rt m d => some (.rt m d)
  | .ex c g' => if c < 6 then (setSl j (.sh (.exc c)) g').bind fun g1 => (setSl i .no g1).bind fun g2 => some (.nx g2) else none
@[simp] theorem catchX_nx (i j : Nat) (g' : Env') : catchX i j (.nx g') = some (.nx g') := rfl
@[simp] theorem catchX_rt (i j : Nat) (m : M) (d : D) : catchX i j (.rt m d) = some (.rt m d) := rfl
@[simp] theorem catchX_ex (i j : Nat) (c : Nat) (g' : Env') : catchX i j (.ex c g') = if c < 6 then (setSl j (.sh (.exc c)) g').bind fun g1 => (setSl i .no g1).bind fun g2 => some (.nx g2) else none := rfl
@[simp] theorem evS_tryK (s : Sms) : evS ct n (.tryK s i j) g = (ct flagX []).bind fun _ => (evSs ct n s g).bind (catchX i j) := by
  simp only [evS]
  cases ct flagX [] with
  | none => rfl
  | some v =>
    show (evSs ct n s g).bind _ = (evSs ct n s g).bind _
    cases evSs ct n s g with
    | none => rfl
    | some o => cases o <;> rfl
@[simp] theorem evS_never : evS ct n .never g = none := by simp only [evS]
@[simp] theorem evS_ife (s t : Sms) : evS ct n (.ife e s t) g = (evE ct g e).bind fun x => (asBl x.2).bind fun k => if k then evSs ct n s g else evSs ct n t g := by simp only [evS]; rfl
theorem evS_whl (s : Sms) : evS ct n (.whl e s) g = whlF (fun g => (evE ct g e).bind fun x => asBl x.2) (fun g => evSs ct n s g) n g := by simp only [evS]; rfl
theorem evS_fr (tg : Tg) (it : Itx) (s : Sms) : evS ct n (.fr tg it s) g = (evI ct g it).bind fun r => if r.1 = .bo then none else forF (asg tg) (fun g => evSs ct n s g) r.2 g := by simp only [evS]; rfl
/-- what a statement's outcome leads to -/
noncomputable def andThen (ct : Ct) (n : Nat) (ss : Sms) : Out → Option Out
  | .nx g' => evSs ct n ss g'
  | .rt m d => some (.rt m d)
  | .ex c g' => some (.ex c g')
@[simp] theorem andThen_ex (ss : Sms) (c : Nat) (g' : Env') : andThen ct n ss (.ex c g') = some (.ex c g') := rfl
@[simp] theorem andThen_nx (ss : Sms) (g' : Env') : andThen ct n ss (.nx g') = evSs ct n ss g' := rfl
@[simp] theorem andThen_rt (ss : Sms) (m : M) (d : D) : andThen ct n ss (.rt m d) = some (.rt m d) := rfl
@[simp] theorem evSs_nil : evSs ct n .nil g = some (.nx g) := by simp only [evSs]
@[simp] theorem evSs_cons (s : Sm) (ss : Sms) : evSs ct n (.cons s ss) g = (evS ct n s g).bind (andThen ct n ss) := by
  simp only [evSs]
  show (evS ct n s g).bind _ = _
  cases evS ct n s g with
  | none => rfl
  | some o => cases o <;> rfl
end
/-! ### values -/
section
variable (i j : Int)
theorem sh_int (i : Int) : shD (.int i) = true := by
  show SeqAt.shaped (.int i) = true
  rfl
@[simp] theorem binD_add : binD .add (.int i) (.int j) = some (.sh, .int (i + j)) := rfl
@[simp] theorem binD_sub : binD .sub (.int i) (.int j) = some (.sh, .int (i - j)) := rfl
@[simp] theorem binD_mul : binD .mul (.int i) (.int j) = if mulOk i j then some (.sh, .int (i * j)) else none := rfl
@[simp] theorem binD_div : binD .div (.int i) (.int j) = if divOk j then some (.sh, .int (i.fdiv j)) else none := rfl
@[simp] theorem binD_mod : binD .mod (.int i) (.int j) = if j ≠ 0 then some (.sh, .int (i.fmod j)) else none := rfl
@[simp] theorem binD_pow : binD .pow (.int i) (.int j) = if powOk i j then some (.sh, .int (i ^ j.toNat)) else none := rfl
@[simp] theorem binD_cat (xs ys : List D) : binD .add (.lst xs) (.lst ys) = if lenOk (xs.length + ys.length) then some (.fr, .lst (xs ++ ys)) else none := rfl
@[simp] theorem cmpD_lt : cmpD .lt (.int i) (.int j) = some (decide (i < j)) := rfl
@[simp] theorem cmpD_le : cmpD .le (.int i) (.int j) = some (decide (i ≤ j)) := rfl
@[simp] theorem cmpD_gt : cmpD .gt (.int i) (.int j) = some (decide (j < i)) := rfl
@[simp] theorem cmpD_ge : cmpD .ge (.int i) (.int j) = some (decide (j ≤ i)) := rfl
@[simp] theorem cmpD_eq : cmpD .eq (.int i) (.int j) = some (decide (i = j)) := by
  simp only [cmpD, sh_int, Bool.and_self, if_true]
  show some (i == j) = _
  rw [Bool.beq_eq_decide_eq]
@[simp] theorem cmpD_ne : cmpD .ne (.int i) (.int j) = some (!decide (i = j)) := by
  simp only [cmpD, sh_int, Bool.and_self, if_true]
  show some (!(i == j)) = _
  rw [Bool.beq_eq_decide_eq]
@[simp] theorem asInt_int : asInt (.int i) = some i := rfl
@[simp] theorem asBl_bl (b : Bool) : asBl (.bl b) = some b := rfl
@[simp] theorem asL_lst (ds : List D) : asL (.lst ds) = some ds := rfl
@[simp] theorem asL_scr (ns : List Int) : asL (.scr ns) = some (ns.map D.int) := rfl
@[simp] theorem asLT_lst (ds : List D) : asLT (.lst ds) = some ds := rfl
@[simp] theorem asLT_tup (ds : List D) : asLT (.tup ds) = some ds := rfl
@[simp] theorem asLT_scr (ns : List Int) : asLT (.scr ns) = some (ns.map D.int) := rfl
@[simp] theorem storable_sh (d : D) : storable (.sh, d) = some d := rfl
@[simp] theorem storable_fr (d : D) : storable (.fr, d) = some d := rfl
@[simp] theorem storable_bo (d : D) : storable (.bo, d) = none := rfl
@[simp] theorem slOf_sh (b : Bool) (d : D) : slOf b (.sh, d) = some (.sh d) := rfl
@[simp] theorem slOf_ft (ds : List D) : slOf true (.fr, .lst ds) = some (.ow ds) := rfl
@[simp] theorem slOf_ff (ds : List D) : slOf false (.fr, .lst ds) = some (.sh (.lst ds)) := rfl
@[simp] theorem b1D_abs : b1D .abs (.int i) = some (.sh, .int (if i < 0 then -i else i)) := rfl
@[simp] theorem b1D_len (d : D) : b1D .len d = (asLT d).map fun ds => (.sh, .int ds.length) := rfl
@[simp] theorem b1D_int : b1D .int (.int i) = some (.sh, .int i) := rfl
@[simp] theorem b1D_intb (b : Bool) : b1D .int (.bl b) = some (.sh, .int (if b then 1 else 0)) := rfl
@[simp] theorem b1D_list (d : D) : b1D .list d = (asLT d).map fun ds => (.fr, .lst ds) := rfl
@[simp] theorem b1D_lrev (d : D) : b1D .lrev d = (asL d).map fun ds => (.fr, .lst ds.reverse) := rfl
@[simp] theorem b2D_max : b2D .max (.int i) (.int j) = some (.sh, .int (if j > i then j else i)) := rfl
@[simp] theorem b2D_min : b2D .min (.int i) (.int j) = some (.sh, .int (if j < i then j else i)) := rfl
@[simp] theorem isNonD_non : isNonD .non = true := rfl
@[simp] theorem isNonD_bl (b : Bool) : isNonD (.bl b) = false := rfl
@[simp] theorem isNonD_int : isNonD (.int i) = false := rfl
@[simp] theorem isNonD_tup (ds : List D) : isNonD (.tup ds) = false := rfl
@[simp] theorem isNonD_lst (ds : List D) : isNonD (.lst ds) = false := rfl
@[simp] theorem isi_int_int : isiD .int (.int i) = true := rfl
@[simp] theorem isi_bool_int : isiD .bool (.int i) = false := rfl
@[simp] theorem isi_bool_bl (b : Bool) : isiD .bool (.bl b) = true := rfl
@[simp] theorem isi_tup_tup (ds : List D) : isiD .tuple (.tup ds) = true := rfl
@[simp] theorem isi_tup_lst (ds : List D) : isiD .tuple (.lst ds) = false := rfl
@[simp] theorem isi_tup_non : isiD .tuple .non = false := rfl
@[simp] theorem isi_list_lst (ds : List D) : isiD .list (.lst ds) = true := rfl
@[simp] theorem partV_t (r : Rs) : partV true r = some none := rfl
@[simp] theorem partV_f (r : Rs) : partV false r = r.bind fun y => (asInt y.2).bind fun i => some (some i) := rfl
@[simp] theorem isNonE_non : isNonE .non = true := rfl
@[simp] theorem isNonE_int (k : Int) : isNonE (.int k) = false := rfl
@[simp] theorem isNonE_var (k : Nat) : isNonE (.var k) = false := rfl
@[simp] theorem isNonE_neg (e : Ex) : isNonE (.neg e) = false := rfl
@[simp] theorem isNonE_bin (o : Bop) (a b : Ex) : isNonE (.bin o a b) = false := rfl
@[simp] theorem slcD_lst (ds : List D) (lo hi : Option Int) : slcD (.lst ds) lo hi = some (.fr, .lst (cutD ds lo hi)) := rfl
@[simp] theorem slcD_scr (ns : List Int) (lo hi : Option Int) : slcD (.scr ns) lo hi = some (.fr, .lst (cutD (ns.map D.int) lo hi)) := rfl
theorem lenOk_small {n : Nat} (h : n ≤ 1000000) : lenOk n = true := by
  unfold lenOk
  exact decide_eq_true (Nat.lt_of_le_of_lt h (by decide))
@[simp] theorem lenOk_0 : lenOk 0 = true := lenOk_small (by decide)
@[simp] theorem lenOk_1 : lenOk 1 = true := lenOk_small (by decide)
@[simp] theorem lenOk_2 : lenOk 2 = true := lenOk_small (by decide)
@[simp] theorem lenOk_3 : lenOk 3 = true := lenOk_small (by decide)
@[simp] theorem lenOk_4 : lenOk 4 = true := lenOk_small (by decide)
@[simp] theorem lenOk_5 : lenOk 5 = true := lenOk_small (by decide)
@[simp] theorem lenOk_6 : lenOk 6 = true := lenOk_small (by decide)
@[simp] theorem setSl_cons0 (s x : Sl) (g : Env') : setSl 0 s (x :: g) = some (s :: g) := rfl
@[simp] theorem setSl_cons (s x : Sl) (g : Env') (k : Nat) : setSl (k + 1) s (x :: g) = (setSl k s g).map (x :: ·) := by
  unfold setSl
  by_cases h : k < g.length
  · rw [if_pos h, if_pos (by simpa using h)]; rfl
  · rw [if_neg h, if_neg (by simpa using h)]; rfl
@[simp] theorem asg_one (k : Nat) (d : D) (g : Env') : asg (.one k) d g = setSl k (.sh d) g := rfl
@[simp] theorem asg_many (is : List Nat) (ds : List D) (g : Env') : asg (.many is) (.tup ds) g = asgAll is ds g := rfl
@[simp] theorem asgAll_nil (g : Env') : asgAll [] [] g = some g := rfl
@[simp] theorem asgAll_cons (k : Nat) (is : List Nat) (d : D) (ds : List D) (g : Env') : asgAll (k :: is) (d :: ds) g = (setSl k (.sh d) g).bind fun g1 => asgAll is ds g1 := rfl
@[simp] theorem ownAt_cons0 (ds : List D) (g : Env') : ownAt (.ow ds :: g) 0 = some ds := rfl
@[simp] theorem ownAt_cons (x : Sl) (g : Env') (k : Nat) : ownAt (x :: g) (k + 1) = ownAt g k := rfl
theorem atI_at {α : Type} {xs : List α} {i : Int} {k : Nat} (h : i = (k : Int)) : atI xs i = xs[k]? := by
  subst h
  unfold atI ixN
  rw [if_pos (Int.natCast_nonneg k)]
  by_cases hk : k < xs.length
  · rw [if_pos (by omega)]; rfl
  · rw [if_neg (by omega), List.getElem?_eq_none (by omega)]; rfl
@[simp] theorem atI_0 {α : Type} (xs : List α) : atI xs 0 = xs[0]? := atI_at rfl
@[simp] theorem atI_1 {α : Type} (xs : List α) : atI xs 1 = xs[1]? := atI_at rfl
@[simp] theorem atI_2 {α : Type} (xs : List α) : atI xs 2 = xs[2]? := atI_at rfl
@[simp] theorem atI_3 {α : Type} (xs : List α) : atI xs 3 = xs[3]? := atI_at rfl
theorem atI_neg {α : Type} {xs : List α} {k : Nat} (h1 : 0 < k) (h2 : k ≤ xs.length) : atI xs (-(k : Int)) = xs[xs.length - k]? := by
  unfold atI ixN
  rw [if_neg (by omega), if_pos (by omega)]
  show xs[(-(k : Int) + xs.length).toNat]? = _
  rw [show (-(k : Int) + xs.length).toNat = xs.length - k by omega]
end
theorem fmod_of (a b : Int) (h : 0 ≤ b) : a.fmod b = a % b := Int.fmod_eq_emod_of_nonneg a h
theorem fdiv_of (a b : Int) (h : 0 ≤ b) : a.fdiv b = a / b := Int.fdiv_eq_ediv_of_nonneg a h
@[simp] theorem powOk_10 (j : Int) (h : 0 ≤ j) (h2 : j ≤ 1000000) : powOk 10 j = true := by
  unfold powOk
  exact decide_eq_true ⟨h, h2, by decide⟩
theorem divOk_of (j : Int) (h0 : j ≠ 0) (h : j.natAbs < 2 ^ 8999) : divOk j = true := by
  unfold divOk
  refine decide_eq_true ⟨h0, ?_⟩
  have h1 : j.natAbs ≠ 0 := by omega
  exact Nat.lt_of_lt_of_le ((Nat.log2_lt h1).mpr h) (by decide)
theorem runFn_eq (f : Fn) (ct : Ct) (n : Nat) (ds : List D) (h : ds.length = f.params) : runFn f ct n ds = (evSs ct n f.body (startE f ds)).map outV := by
  unfold runFn
  rw [if_pos h]
  cases evSs ct n f.body (startE f ds) with
  | none => rfl
  | some o => cases o <;> rfl
theorem whlF_true {c : Env' → Option Bool} {b : Env' → Option Out} {n : Nat} {g g' : Env'} (hc : c g = some true) (hb : b g = some (.nx g')) : whlF c b (n + 1) g = whlF c b n g' := by
  simp only [whlF, hc, Option.bind_eq_bind, Option.bind_some, if_true, hb]
theorem whlF_false {c : Env' → Option Bool} {b : Env' → Option Out} {n : Nat} {g : Env'} (hc : c g = some false) : whlF c b (n + 1) g = some (.nx g) := by
  simp only [whlF, hc, Option.bind_eq_bind, Option.bind_some, Bool.false_eq_true, if_false]
theorem forF_nil {a : D → Env' → Option Env'} {b : Env' → Option Out} {g : Env'} : forF a b [] g = some (.nx g) := rfl
theorem forF_nx {a : D → Env' → Option Env'} {b : Env' → Option Out} {d : D} {ds : List D} {g g1 g2 : Env'} (h1 : a d g = some g1) (h2 : b g1 = some (.nx g2)) : forF a b (d :: ds) g = forF a b ds g2 := by
  simp only [forF, h1, Option.bind_eq_bind, Option.bind_some, h2]
theorem forF_rt {a : D → Env' → Option Env'} {b : Env' → Option Out} {d : D} {ds : List D} {g g1 : Env'} {m : M} {r : D} (h1 : a d g = some g1) (h2 : b g1 = some (.rt m r)) : forF a b (d :: ds) g = some (.rt m r) := by
  simp only [forF, h1, Option.bind_eq_bind, Option.bind_some, h2]
theorem cutD_none_pos {α : Type} (xs : List α) (k : Nat) : cutD xs none (some (k : Int)) = xs.take k := by
  unfold cutD
  rw [HT.sIx_none, HT.sIx_nat]
  simp only [List.drop_zero, Nat.sub_zero]
  rcases Nat.le_total k xs.length with h | h
  · rw [Nat.min_eq_left h]
  · rw [Nat.min_eq_right h, List.take_of_length_le (Nat.le_refl _), List.take_of_length_le h]
theorem cutD_pos_none {α : Type} (xs : List α) (k : Nat) : cutD xs (some (k : Int)) none = xs.drop k := by
  unfold cutD
  rw [HT.sIx_none, HT.sIx_nat]
  rcases Nat.le_total k xs.length with h | h
  · rw [Nat.min_eq_left h, List.take_of_length_le (by simp)]
  · rw [Nat.min_eq_right h, List.drop_of_length_le (Nat.le_refl _), List.drop_of_length_le h]; simp
theorem callT_hit (n i : Nat) (f : Fn) (t : List (Nat × Fn)) (ds : List D) : callT n ((i, f) :: t) i ds = runFn f (callT n t) n ds := by simp only [callT, if_true]
theorem callT_miss {n i j : Nat} {f : Fn} {t : List (Nat × Fn)} {ds : List D} (h : j ≠ i) : callT n ((i, f) :: t) j ds = callT n t j ds := by simp only [callT, if_neg h]
theorem rngL_zero (lo : Int) : rngL lo 0 = [] := rfl
theorem rngL_succ (lo : Int) (n : Nat) : rngL lo (n + 1) = .int lo :: rngL (lo + 1) n := by
  unfold rngL
  rw [List.range_succ_eq_map, List.map_cons, List.map_map]
  congr 1
  · simp
  · refine List.map_congr_left fun k _ => ?_
    show D.int (lo + ((k + 1 : Nat) : Int)) = D.int (lo + 1 + (k : Int))
    congr 1
    omega
theorem stepS {ct : Ct} {n : Nat} {s : Sm} {ss : Sms} {g g' : Env'} {o : Option Out} (h1 : evS ct n s g = some (.nx g')) (h2 : evSs ct n ss g' = o) : evSs ct n (.cons s ss) g = o := by simp [h1, h2]
theorem stepR {ct : Ct} {n : Nat} {s : Sm} {ss : Sms} {g : Env'} {m : M} {d : D} (h1 : evS ct n s g = some (.rt m d)) : evSs ct n (.cons s ss) g = some (.rt m d) := by simp [h1]
theorem stepX {ct : Ct} {n : Nat} {s : Sm} {ss : Sms} {g g' : Env'} {c : Nat} (h1 : evS ct n s g = some (.ex c g')) : evSs ct n (.cons s ss) g = some (.ex c g') := by simp [h1]
theorem runX {f : Fn} {ct : Ct} {n : Nat} {ds : List D} {c : Nat} {g' : Env'} (h : ds.length = f.params) (e : evSs ct n f.body (startE f ds) = some (.ex c g')) : runFn f ct n ds = some (.ex, .exc c) := by
  rw [runFn_eq f ct n ds h, e]; rfl
theorem runR {f : Fn} {ct : Ct} {n : Nat} {ds : List D} {m : M} {d : D} (h : ds.length = f.params) (e : evSs ct n f.body (startE f ds) = some (.rt m d)) : runFn f ct n ds = some (m, d) := by
  rw [runFn_eq f ct n ds h, e]; rfl
theorem scr_at (ns : List Int) (k : Nat) (h : k < ns.length) : atI (ns.map D.int) (k : Int) = some (.int (ns.getD k 0)) := by
  rw [atI_at rfl, List.getElem?_map, List.getElem?_eq_getElem h]; simp [h]
/-- sizes -/
theorem divOk_small (j : Int) (h0 : j ≠ 0) (h : j.natAbs < 18446744073709551616) : divOk j = true := by
  unfold divOk
  refine decide_eq_true ⟨h0, ?_⟩
  have h1 : j.natAbs ≠ 0 := by omega
  have h2 : j.natAbs.log2 < 64 := (Nat.log2_lt h1).mpr (by rw [show (2 : Nat) ^ 64 = 18446744073709551616 by decide]; exact h)
  omega
theorem divOk_255 (j : Int) (h0 : j ≠ 0) (h : j.natAbs < 2 ^ 255) : divOk j = true := by
  unfold divOk
  refine decide_eq_true ⟨h0, ?_⟩
  have h1 : j.natAbs ≠ 0 := by omega
  have h2 : j.natAbs.log2 < 255 := (Nat.log2_lt h1).mpr h
  omega
def B (k : Nat) (i : Int) : Prop := i.natAbs < 2 ^ k
theorem B.mono {k l : Nat} {i : Int} (h : B k i) (hl : k ≤ l) : B l i := Nat.lt_of_lt_of_le h (Nat.pow_le_pow_right (by decide) hl)
theorem B.log {k : Nat} {i : Int} (h : B k i) : i.natAbs.log2 ≤ k := by
  by_cases h0 : i.natAbs = 0
  · rw [h0]; simp
  · exact Nat.le_of_lt ((Nat.log2_lt h0).mpr h)
theorem B.mul {k l : Nat} {i j : Int} (a : B k i) (b : B l j) : B (k + l) (i * j) := by
  unfold B
  rw [Int.natAbs_mul, Nat.pow_add]
  exact Nat.mul_lt_mul'' a b
theorem B.add {k l m : Nat} {i j : Int} (a : B k i) (b : B l j) (h1 : k < m) (h2 : l < m) : B m (i + j) := by
  have h := Int.natAbs_add_le i j
  have a' := B.mono (l := m - 1) a (by omega)
  have b' := B.mono (l := m - 1) b (by omega)
  have e : 2 ^ m = 2 ^ (m - 1) + 2 ^ (m - 1) := by
    rw [← Nat.two_mul, ← Nat.pow_succ', show (m - 1).succ = m by omega]
  unfold B at *
  omega
theorem B.neg {k : Nat} {i : Int} (a : B k i) : B k (-i) := by unfold B; rw [Int.natAbs_neg]; exact a
theorem B.sub {k l m : Nat} {i j : Int} (a : B k i) (b : B l j) (h1 : k < m) (h2 : l < m) : B m (i - j) := by
  rw [Int.sub_eq_add_neg]
  exact B.add a b.neg h1 h2
theorem B.ok {k l : Nat} {i j : Int} (a : B k i) (b : B l j) (h : k + l ≤ 134000000) : mulOk i j = true := by
  have h1 := a.log
  have h2 := b.log
  unfold mulOk
  refine decide_eq_true ?_
  have : bitsLine = 134217728 := by decide
  omega
theorem B.div {k : Nat} {j : Int} (b : B k j) (h0 : j ≠ 0) (h : k < 9000) : divOk j = true := by
  unfold divOk
  exact decide_eq_true ⟨h0, Nat.lt_of_le_of_lt b.log h⟩
end Ev
namespace Ev
open PySem L2
/-! ### the divisor -/
theorem div_turn (ct : Ct) (n m : Nat) (a b : Nat) (hb : 0 < b) : whlF (fun g => (evE ct g (.cmp .gt (.var 1) (.int 0))).bind fun x => asBl x.2) (fun g => evSs ct n f_divisor_B0 g) (m + 1) [.sh (.int a), .sh (.int b)] =
    whlF (fun g => (evE ct g (.cmp .gt (.var 1) (.int 0))).bind fun x => asBl x.2) (fun g => evSs ct n f_divisor_B0 g) m [.sh (.int b), .sh (.int (a % b : Nat))] := by
  have hm : ((a : Int).fmod (b : Int)) = ((a % b : Nat) : Int) := by rw [fmod_of _ _ (by omega)]; simp
  refine whlF_true (by simp [hb]) ?_
  have : b ≠ 0 := by omega
  simp [f_divisor_B0, hm, this]
theorem div_end (ct : Ct) (n m : Nat) (a : Int) : whlF (fun g => (evE ct g (.cmp .gt (.var 1) (.int 0))).bind fun x => asBl x.2) (fun g => evSs ct n f_divisor_B0 g) (m + 1) [.sh (.int a), .sh (.int 0)] = some (.nx [.sh (.int a), .sh (.int 0)]) :=
  whlF_false (by simp)
theorem div_loop (ct : Ct) (n : Nat) : ∀ (k m : Nat) (a b : Nat), b < 2 ^ k → 2 * k < m → whlF (fun g => (evE ct g (.cmp .gt (.var 1) (.int 0))).bind fun x => asBl x.2) (fun g => evSs ct n f_divisor_B0 g) m [.sh (.int a), .sh (.int b)] = some (.nx [.sh (.int (Nat.gcd a b)), .sh (.int 0)])
  | 0, m, a, b, h1, h2 => by
    obtain ⟨m, rfl⟩ : ∃ k, m = k + 1 := ⟨m - 1, by omega⟩
    have : b = 0 := by simp at h1; omega
    subst this
    rw [Nat.gcd_zero_right]
    exact div_end ct n m a
  | k + 1, m, a, b, h1, h2 => by
    obtain ⟨m, rfl⟩ : ∃ k, m = k + 2 := ⟨m - 2, by omega⟩
    by_cases hb : b = 0
    · subst hb
      rw [Nat.gcd_zero_right]
      exact div_end ct n (m + 1) a
    have hb' : 0 < b := by omega
    have e : Nat.gcd b (a % b) = Nat.gcd a b := by rw [Nat.gcd_comm a b, Nat.gcd_rec b a, Nat.gcd_comm]
    rw [div_turn ct n (m + 1) a b hb', ← e]
    by_cases hr : a % b = 0
    · rw [hr, Nat.gcd_zero_right]
      exact div_end ct n m b
    have hr' : 0 < a % b := by omega
    have e2 : Nat.gcd (a % b) (b % (a % b)) = Nat.gcd b (a % b) := by rw [Nat.gcd_comm b, Nat.gcd_rec (a % b) b, Nat.gcd_comm]
    rw [div_turn ct n m b (a % b) hr', ← e2]
    refine div_loop ct n k m _ _ ?_ (by omega)
    have h3 := Nat.mod_lt a hb'
    have h4 := Nat.mod_lt b hr'
    have h5 : b % (a % b) + (a % b) ≤ b := by
      have := Nat.div_add_mod b (a % b)
      have h6 : 1 ≤ b / (a % b) := (Nat.one_le_div_iff hr').mpr (Nat.le_of_lt h3)
      have h7 : (a % b) * 1 ≤ (a % b) * (b / (a % b)) := Nat.mul_le_mul_left _ h6
      omega
    have : 2 ^ (k + 1) = 2 * 2 ^ k := Nat.pow_succ'
    omega
theorem abs_eq (a : Int) : (if a < 0 then -a else a) = ((a.natAbs : Nat) : Int) := by
  split <;> omega
theorem ev_divisor (ct : Ct) (n : Nat) (a b : Int) (k : Nat) (hb : B k b) (h : 2 * k < n) : runFn f_divisor ct n [.int a, .int b] = some (.sh, .int (Int.gcd a b : Nat)) := by
  have hl := div_loop ct n k n a.natAbs b.natAbs hb h
  rw [runFn_eq _ _ _ _ rfl]
  have e : evS ct n f_divisor_L0 [.sh (.int (a.natAbs : Nat)), .sh (.int (b.natAbs : Nat))] = some (.nx [.sh (.int (Nat.gcd a.natAbs b.natAbs)), .sh (.int 0)]) := by
    rw [f_divisor_L0, evS_whl]; exact hl
  simp [f_divisor, startE, abs_eq, e, Int.gcd]
theorem ev_law_divisor (ct : Ct) (n : Nat) (a b : Int) (k : Nat) (hb : B k b) (h : 2 * k < n) : runFn f_law_divisor ct n [.int a, .int b] = some (.sh, .int (Int.gcd a b : Nat)) := ev_divisor ct n a b k hb h
theorem ev_cell_at (ct : Ct) (n : Nat) (ns : List Int) (k : Nat) : runFn f_law_cell_at ct n [.scr ns, .int k] = some (.sh, .int (ns.getD k 0)) := by
  rw [runFn_eq _ _ _ _ rfl]
  by_cases h : k < ns.length
  · have e : atI (ns.map D.int) (k : Int) = some (.int (ns.getD k 0)) := by
      rw [atI_at rfl, List.getElem?_map, List.getElem?_eq_getElem h]; simp [h]
    simp [f_law_cell_at, startE, h, e]
  · simp [f_law_cell_at, startE, h]
theorem ev_whole (ct : Ct) (n : Nat) (i : Int) : runFn f_law_whole ct n [.int i] = some (.sh, .bl true) := by
  rw [runFn_eq _ _ _ _ rfl]
  simp [f_law_whole, startE]
theorem b_of {i : Int} {k : Nat} (h : i.natAbs < 2 ^ k) : B k i := h
end Ev
namespace Ev
open PySem L2
/-! ### the drawn numbers -/
theorem block_loop (ct : Ct) (n : Nat) (a b : Sl) : ∀ (m : Nat) (lo c : Int) (j : Sl), ∃ (c' : Int) (j' : Sl), forF (asg (.one 3)) (fun g => evSs ct n f_law_block_B0 g) (rngL lo m) [a, b, .sh (.int c), j] = some (.nx [a, b, .sh (.int c'), j'])
  | 0, lo, c, j => ⟨c, j, rfl⟩
  | m + 1, lo, c, j => by
    obtain ⟨c', j', h⟩ := block_loop ct n a b m (lo + 1) (c / 2147483587) (.sh (.int lo))
    refine ⟨c', j', ?_⟩
    rw [rngL_succ, forF_nx (g1 := [a, b, .sh (.int c), .sh (.int lo)]) (g2 := [a, b, .sh (.int (c / 2147483587)), .sh (.int lo)]) (by simp) (by simp [f_law_block_B0, fdiv_of, divOk_255]), h]
theorem pow64a : binD .pow (.int 10) (.int 64) = some (.sh, .int 10000000000000000000000000000000000000000000000000000000000000000) := by
  simp [binD_pow]
theorem pow64b : divOk 10000000000000000000000000000000000000000000000000000000000000000 = true := divOk_255 _ (by decide) (by decide)
theorem ev_block (ct : Ct) (n : Nat) (ns : List Int) (k : Nat) : ∃ v, runFn f_law_block ct n [.scr ns, .int k] = some (.sh, .int v) := by
  obtain ⟨r, hk8, hr⟩ : ∃ r : Nat, (k : Int).fmod 8 = (r : Int) ∧ rngOk (r : Int) = true := ⟨k % 8, by rw [fmod_of _ _ (by decide)]; omega, rngOk_small _ (by omega)⟩
  have loop : ∀ (c : Int), ∃ c' j', evS ct n f_law_block_L0 [.sh (.scr ns), .sh (.int k), .sh (.int c), .no] = some (.nx [.sh (.scr ns), .sh (.int k), .sh (.int c'), j']) := fun c => by
    obtain ⟨c', j', h⟩ := block_loop ct n (.sh (.scr ns)) (.sh (.int k)) r 0 c .no
    refine ⟨c', j', ?_⟩
    rw [f_law_block_L0, evS_fr]
    simp [hk8, hr, h]
  obtain ⟨q, hp⟩ : ∃ q : Nat, (1 : Int) + ((k : Int).fdiv 8).fmod 62 = (q : Int) := ⟨1 + k / 8 % 62, by rw [fdiv_of _ _ (by decide), fmod_of _ _ (by decide)]; omega⟩
  obtain ⟨P, hP⟩ : ∃ P, binD .pow (.int 10) (.int 64) = some (.sh, .int P) ∧ divOk P = true := ⟨_, pow64a, pow64b⟩
  obtain ⟨hP, hP2⟩ := hP
  have fin : ∀ c, ∃ v, evSs ct n (.cons f_law_block_L0 (.cons (.ret (.var 2)) .nil)) [.sh (.scr ns), .sh (.int k), .sh (.int c), .no] = some (.rt .sh (.int v)) := fun c => by
    obtain ⟨c', j', h⟩ := loop c
    exact ⟨c', stepS h (by simp)⟩
  by_cases hc : q < ns.length
  · have e := scr_at ns _ hc
    have hc' : (q : Int) < (ns.length : Int) := by omega
    obtain ⟨v, hv⟩ := fin ((ns.getD q 0).fdiv P)
    refine ⟨v, runR rfl (stepS (g' := [.sh (.scr ns), .sh (.int k), .sh (.int 0), .no]) (by simp [startE, f_law_block]) (stepS ?_ hv))⟩
    simp [hp, e, hP, hP2, hc', divOk_255, -binD_pow, -List.getD_eq_getElem?_getD]
  · have hc' : ¬ (q : Int) < (ns.length : Int) := by omega
    obtain ⟨v, hv⟩ := fin 0
    refine ⟨v, runR rfl (stepS (g' := [.sh (.scr ns), .sh (.int k), .sh (.int 0), .no]) (by simp [startE, f_law_block]) (stepS ?_ hv))⟩
    simp [hp, hc', divOk_255]
theorem ev_mixed (ct : Ct) (n : Nat) (ns : List Int) (k : Nat) (hk : k ≤ 100000) (hb : ∃ v, ct 14 [.scr ns, .int k] = some (.sh, .int v)) : ∃ v, (0 ≤ v ∧ v < 2147483587) ∧ runFn f_law_mixed ct n [.scr ns, .int k] = some (.sh, .int v) := by
  obtain ⟨v, hb⟩ := hb
  have fin : ∀ c : Int, ∃ w, (0 ≤ w ∧ w < 2147483587) ∧ evSs ct n (.cons (.set false 3 (.bin .add (.bin .mod (.var 2) (.bin .pow (.int 10) (.int 18))) (.bin .mul (.int 48271) (.bin .add (.var 1) (.int 1)))))
      (.cons (.set false 3 (.bin .add (.bin .mod (.bin .mul (.var 3) (.var 3)) (.int 2147483629)) (.bin .mul (.int 69621) (.var 1))))
      (.cons (.ret (.bin .mod (.bin .mul (.var 3) (.var 3)) (.int 2147483587)))
      .nil))) [.sh (.scr ns), .sh (.int k), .sh (.int c), .no] = some (.rt .sh (.int w)) := fun c => by
    have m1 : mulOk 48271 ((k : Int) + 1) = true := B.ok (k := 16) (l := 20) (by unfold B; decide) (by unfold B; omega) (by omega)
    have m2 : mulOk 69621 (k : Int) = true := B.ok (k := 17) (l := 20) (by unfold B; decide) (by unfold B; omega) (by omega)
    obtain ⟨x, hx⟩ : ∃ x, c % 1000000000000000000 + 48271 * ((k : Int) + 1) = x := ⟨_, rfl⟩
    have bx : B 62 x := by unfold B; omega
    have m3 := B.ok bx bx (by omega)
    obtain ⟨y, hy⟩ : ∃ y, x * x % 2147483629 + 69621 * (k : Int) = y := ⟨_, rfl⟩
    have by' : B 62 y := by unfold B; omega
    have m4 := B.ok by' by' (by omega)
    refine ⟨y * y % 2147483587, by omega, ?_⟩
    simp [fmod_of, m1, m2, m3, m4, hx, hy]
  by_cases hl : 0 < ns.length
  · have hl' : (0 : Int) < (ns.length : Int) := by omega
    have e0 : atI (ns.map D.int) 0 = some (.int (ns.getD 0 0)) := scr_at ns 0 hl
    obtain ⟨c0, h0⟩ : ∃ c0, ns.getD 0 0 = c0 := ⟨_, rfl⟩
    rw [h0] at e0
    obtain ⟨q, hq⟩ : ∃ q, k % min 63 ns.length = q := ⟨_, rfl⟩
    have hq2 : q < ns.length := by rw [← hq]; exact Nat.lt_of_lt_of_le (Nat.mod_lt _ (by omega)) (Nat.min_le_right _ _)
    have eq := scr_at ns q hq2
    have s1 : evS ct n (.set false 2 (.int 0)) [.sh (.scr ns), .sh (.int k), .no, .no] = some (.nx [.sh (.scr ns), .sh (.int k), .sh (.int 0), .no]) := by simp
    have s2 : evS ct n (.ife (.cmp .gt (.b1 .len (.var 0)) (.int 0)) (.cons (.set false 2 (.idx (.var 0) (.int 0))) .nil) .nil) [.sh (.scr ns), .sh (.int k), .sh (.int 0), .no] = some (.nx [.sh (.scr ns), .sh (.int k), .sh (.int c0), .no]) := by
      simp [e0, hl, -atI_0]
    have s4 : evS ct n (.ife (.cmp .gt (.b1 .len (.var 0)) (.int 0)) (.cons (.set false 2 (.idx (.var 0) (.bin .mod (.var 1) (.b2 .min (.int 63) (.b1 .len (.var 0)))))) .nil) .nil) [.sh (.scr ns), .sh (.int k), .sh (.int c0), .no] = some (.nx [.sh (.scr ns), .sh (.int k), .sh (.int (ns.getD q 0)), .no]) := by
      by_cases h63 : (ns.length : Int) < 63
      · have em : (k : Int) % (ns.length : Int) = (q : Int) := by rw [← hq, Nat.min_eq_right (by omega)]; omega
        have nz : ns ≠ [] := fun z => by rw [z] at hl; cases hl
        simp [hl, fmod_of, h63, nz, em, eq, -List.getD_eq_getElem?_getD]
      · have em : (k : Int) % 63 = (q : Int) := by rw [← hq, Nat.min_eq_left (by omega)]; omega
        simp [hl, fmod_of, h63, em, eq, -List.getD_eq_getElem?_getD]
    obtain ⟨w, hw, ew⟩ := fin (ns.getD q 0)
    by_cases hc : c0 / 1000000 % 2 = 1 ∧ v ≠ 0
    · refine ⟨v % 2147483587, by omega, runR rfl (stepS s1 (stepS s2 (stepR (d := .int (v % 2147483587)) ?_)))⟩
      simp [fmod_of, fdiv_of, divOk_255, hc, hb]
    · refine ⟨w, hw, runR rfl (stepS s1 (stepS s2 (stepS (g' := [.sh (.scr ns), .sh (.int k), .sh (.int c0), .no]) ?_ (stepS s4 ew))))⟩
      by_cases h1 : c0 / 1000000 % 2 = 1
      · have hv : v = 0 := by
          by_cases hv : v = 0
          · exact hv
          · exact absurd ⟨h1, hv⟩ hc
        simp [fmod_of, fdiv_of, divOk_255, h1, hb, hv]
      · simp [fmod_of, fdiv_of, divOk_255, h1]
  · have hn : ns = [] := by
      cases ns with
      | nil => rfl
      | cons => simp at hl
    subst hn
    obtain ⟨w, hw, ew⟩ := fin 0
    refine ⟨w, hw, runR rfl (stepS (g' := [.sh (.scr []), .sh (.int k), .sh (.int 0), .no]) (by simp [startE, f_law_mixed]) (stepS (g' := [.sh (.scr []), .sh (.int k), .sh (.int 0), .no]) (by simp) (stepS (g' := [.sh (.scr []), .sh (.int k), .sh (.int 0), .no]) (by simp [fmod_of, fdiv_of, divOk_255]) (stepS (g' := [.sh (.scr []), .sh (.int k), .sh (.int 0), .no]) (by simp) ew))))⟩
end Ev
namespace Ev
open PySem L2
/-! ### data without truths: == is equality -/
mutual
/-- no truth, no text, no script within -/
def noB : D → Bool
  | .non => true
  | .int _ => true
  | .tup ds => noBs ds
  | .lst ds => noBs ds
  | _ => false
def noBs : List D → Bool
  | [] => true
  | d :: ds => noB d && noBs ds
end
mutual
/-- depth at most k -/
def dep : Nat → D → Bool
  | 0, .tup _ => false
  | 0, .lst _ => false
  | k + 1, .tup ds => deps k ds
  | k + 1, .lst ds => deps k ds
  | _, _ => true
def deps : Nat → List D → Bool
  | _, [] => true
  | k, d :: ds => dep k d && deps k ds
end
mutual
theorem noB_lay : ∀ d : D, noB d = true → (toPy d).canLay0 = true
  | .non, _ => rfl
  | .int _, _ => rfl
  | .tup ds, h => by rw [toPy, PyData.canLay0]; exact noBs_lay ds (by rw [noB] at h; exact h)
  | .lst ds, h => by rw [toPy, PyData.canLay0]; exact noBs_lay ds (by rw [noB] at h; exact h)
  | .bl _, h => by simp [noB] at h
  | .str _, h => by simp [noB] at h
  | .scr _, h => by simp [noB] at h
  | .exc _, h => by simp [noB] at h
theorem noBs_lay : ∀ ds : List D, noBs ds = true → PyData.canLayAll0 (toPys ds) = true
  | [], _ => rfl
  | d :: ds, h => by
    rw [noBs, Bool.and_eq_true] at h
    rw [toPys, PyData.canLayAll0, noB_lay d h.1, noBs_lay ds h.2]; rfl
end
mutual
theorem dep_le : ∀ (d : D) (k : Nat), noB d = true → dep k d = true → (toPy d).depth ≤ k
  | .non, k, _, _ => Nat.zero_le _
  | .int _, k, _, _ => Nat.zero_le _
  | .tup ds, 0, _, h => by simp [dep] at h
  | .lst ds, 0, _, h => by simp [dep] at h
  | .tup ds, k + 1, h0, h => by
    rw [toPy, PyData.depth]
    have := deps_le ds k (by rw [noB] at h0; exact h0) (by rw [dep] at h; exact h)
    omega
  | .lst ds, k + 1, h0, h => by
    rw [toPy, PyData.depth]
    have := deps_le ds k (by rw [noB] at h0; exact h0) (by rw [dep] at h; exact h)
    omega
  | .bl _, k, h, _ => by simp [noB] at h
  | .str _, k, h, _ => by simp [noB] at h
  | .scr _, k, h, _ => by simp [noB] at h
  | .exc _, k, h, _ => by simp [noB] at h
theorem deps_le : ∀ (ds : List D) (k : Nat), noBs ds = true → deps k ds = true → PyData.depthAll (toPys ds) ≤ k
  | [], k, _, _ => Nat.zero_le _
  | d :: ds, k, h0, h => by
    rw [noBs, Bool.and_eq_true] at h0
    rw [deps, Bool.and_eq_true] at h
    rw [toPys, PyData.depthAll]
    have h1 := dep_le d k h0.1 h.1
    have h2 := deps_le ds k h0.2 h.2
    omega
end
mutual
theorem noB_noX : ∀ d : D, noB d = true → noX d = true
  | .non, _ => rfl
  | .int _, _ => rfl
  | .tup ds, h => by rw [noX]; exact noBs_noXs ds (by rw [noB] at h; exact h)
  | .lst ds, h => by rw [noX]; exact noBs_noXs ds (by rw [noB] at h; exact h)
  | .bl _, h => by simp [noB] at h
  | .str _, h => by simp [noB] at h
  | .scr _, h => by simp [noB] at h
  | .exc _, h => by simp [noB] at h
theorem noBs_noXs : ∀ ds : List D, noBs ds = true → noXs ds = true
  | [], _ => rfl
  | d :: ds, h => by
    rw [noBs, Bool.and_eq_true] at h
    rw [noXs, noB_noX d h.1, noBs_noXs ds h.2]; rfl
end
theorem shD_of (d : D) (h0 : noB d = true) (h : dep 60 d = true) : shD d = true := by
  have := dep_le d 60 h0 h
  show (noX d && SeqAt.shaped (toPy d)) = true
  rw [noB_noX d h0, Bool.true_and]
  unfold SeqAt.shaped
  rw [noB_lay d h0, decide_eq_true (by omega)]
  rfl
mutual
theorem eqv_iff : ∀ (d e : D), noB d = true → noB e = true → (PyData.eqv (toPy d) (toPy e) = true ↔ d = e)
  | .non, .non, _, _ => by simp [toPy, PyData.eqv]
  | .non, .int _, _, _ => by simp [toPy, PyData.eqv]
  | .non, .tup _, _, _ => by simp [toPy, PyData.eqv]
  | .non, .lst _, _, _ => by simp [toPy, PyData.eqv]
  | .int _, .non, _, _ => by simp [toPy, PyData.eqv]
  | .int _, .int _, _, _ => by simp [toPy, PyData.eqv]
  | .int _, .tup _, _, _ => by simp [toPy, PyData.eqv]
  | .int _, .lst _, _, _ => by simp [toPy, PyData.eqv]
  | .tup _, .non, _, _ => by simp [toPy, PyData.eqv]
  | .tup _, .int _, _, _ => by simp [toPy, PyData.eqv]
  | .tup _, .lst _, _, _ => by simp [toPy, PyData.eqv]
  | .lst _, .non, _, _ => by simp [toPy, PyData.eqv]
  | .lst _, .int _, _, _ => by simp [toPy, PyData.eqv]
  | .lst _, .tup _, _, _ => by simp [toPy, PyData.eqv]
  | .tup xs, .tup ys, h1, h2 => by
    rw [noB] at h1 h2
    rw [toPy, toPy, PyData.eqv, eqvs_iff xs ys h1 h2]
    simp
  | .lst xs, .lst ys, h1, h2 => by
    rw [noB] at h1 h2
    rw [toPy, toPy, PyData.eqv, eqvs_iff xs ys h1 h2]
    simp
  | .bl _, _, h, _ => by simp [noB] at h
  | .str _, _, h, _ => by simp [noB] at h
  | .scr _, _, h, _ => by simp [noB] at h
  | .exc _, _, h, _ => by simp [noB] at h
  | .non, .exc _, _, h => by simp [noB] at h
  | .int _, .exc _, _, h => by simp [noB] at h
  | .tup _, .exc _, _, h => by simp [noB] at h
  | .lst _, .exc _, _, h => by simp [noB] at h
  | .non, .bl _, _, h => by simp [noB] at h
  | .non, .str _, _, h => by simp [noB] at h
  | .non, .scr _, _, h => by simp [noB] at h
  | .int _, .bl _, _, h => by simp [noB] at h
  | .int _, .str _, _, h => by simp [noB] at h
  | .int _, .scr _, _, h => by simp [noB] at h
  | .tup _, .bl _, _, h => by simp [noB] at h
  | .tup _, .str _, _, h => by simp [noB] at h
  | .tup _, .scr _, _, h => by simp [noB] at h
  | .lst _, .bl _, _, h => by simp [noB] at h
  | .lst _, .str _, _, h => by simp [noB] at h
  | .lst _, .scr _, _, h => by simp [noB] at h
theorem eqvs_iff : ∀ (ds es : List D), noBs ds = true → noBs es = true → (PyData.eqvAll (toPys ds) (toPys es) = true ↔ ds = es)
  | [], [], _, _ => by simp [toPys, PyData.eqvAll]
  | [], _ :: _, _, _ => by simp [toPys, PyData.eqvAll]
  | _ :: _, [], _, _ => by simp [toPys, PyData.eqvAll]
  | d :: ds, e :: es, h1, h2 => by
    rw [noBs, Bool.and_eq_true] at h1 h2
    rw [toPys, toPys, PyData.eqvAll, Bool.and_eq_true, eqv_iff d e h1.1 h2.1, eqvs_iff ds es h1.2 h2.2]
    simp
end
noncomputable def deq (x y : D) : Bool := @decide (x = y) (Classical.propDecidable _)
theorem deq_iff {x y : D} : deq x y = true ↔ x = y := by
  unfold deq
  exact @decide_eq_true_iff _ (Classical.propDecidable _)
@[simp] theorem deq_self (x : D) : deq x x = true := deq_iff.mpr rfl
theorem deq_ne {x y : D} (h : x ≠ y) : deq x y = false := by
  cases e : deq x y with
  | false => rfl
  | true => exact absurd (deq_iff.mp e) h
theorem eqvD_deq (x y : D) (h1 : noB x = true) (h2 : noB y = true) : eqvD x y = deq x y := by
  have h := eqv_iff x y h1 h2
  have h' := @deq_iff x y
  cases e : deq x y with
  | true => exact h.mpr (h'.mp e)
  | false =>
    cases e2 : eqvD x y with
    | false => rfl
    | true => rw [h'.mpr (h.mp e2)] at e; cases e
theorem cmpD_eqD (x y : D) (h1 : noB x = true) (h2 : noB y = true) (d1 : dep 60 x = true) (d2 : dep 60 y = true) : cmpD .eq x y = some (deq x y) := by
  show (if (shD x && shD y) = true then some (eqvD x y) else none) = _
  rw [shD_of x h1 d1, shD_of y h2 d2, eqvD_deq x y h1 h2]
  rfl
theorem cmpD_neD (x y : D) (h1 : noB x = true) (h2 : noB y = true) (d1 : dep 60 x = true) (d2 : dep 60 y = true) : cmpD .ne x y = some (!deq x y) := by
  show (if (shD x && shD y) = true then some (!eqvD x y) else none) = _
  rw [shD_of x h1 d1, shD_of y h2 d2, eqvD_deq x y h1 h2]
  rfl
/-- triples and pairs of ints -/
def d3 (a b c : Int) : D := .tup [.int a, .int b, .int c]
def d2 (a b : Int) : D := .tup [.int a, .int b]
@[simp] theorem eq3 (a b c x y z : Int) : cmpD .eq (.tup [.int a, .int b, .int c]) (.tup [.int x, .int y, .int z]) = some (decide (a = x ∧ b = y ∧ c = z)) := by
  rw [cmpD_eqD _ _ rfl rfl rfl rfl]
  congr 1
  by_cases h : a = x ∧ b = y ∧ c = z
  · rw [decide_eq_true h]; exact deq_iff.mpr (by obtain ⟨rfl, rfl, rfl⟩ := h; rfl)
  · rw [decide_eq_false h]; exact deq_ne fun z => h (by simpa using z)
@[simp] theorem ne3 (a b c x y z : Int) : cmpD .ne (.tup [.int a, .int b, .int c]) (.tup [.int x, .int y, .int z]) = some (!decide (a = x ∧ b = y ∧ c = z)) := by
  have := eq3 a b c x y z
  rw [cmpD_eqD _ _ rfl rfl rfl rfl] at this
  rw [cmpD_neD _ _ rfl rfl rfl rfl, Option.some.inj this]
@[simp] theorem eq2 (a b x y : Int) : cmpD .eq (.tup [.int a, .int b]) (.tup [.int x, .int y]) = some (decide (a = x ∧ b = y)) := by
  rw [cmpD_eqD _ _ rfl rfl rfl rfl]
  congr 1
  by_cases h : a = x ∧ b = y
  · rw [decide_eq_true h]; exact deq_iff.mpr (by obtain ⟨rfl, rfl⟩ := h; rfl)
  · rw [decide_eq_false h]; exact deq_ne fun z => h (by simpa using z)
@[simp] theorem ne2 (a b x y : Int) : cmpD .ne (.tup [.int a, .int b]) (.tup [.int x, .int y]) = some (!decide (a = x ∧ b = y)) := by
  have := eq2 a b x y
  rw [cmpD_eqD _ _ rfl rfl rfl rfl] at this
  rw [cmpD_neD _ _ rfl rfl rfl rfl, Option.some.inj this]
end Ev
namespace Ev
open PySem L2
/-! ### exact division -/
theorem fdiv_dvd {a b : Int} (h : b ∣ a) (h0 : b ≠ 0) : ∃ c, a.fdiv b = c ∧ a = b * c := by
  obtain ⟨c, rfl⟩ := h
  exact ⟨c, Int.mul_fdiv_cancel_left c h0, rfl⟩
theorem B.of_mul {k : Nat} {b c : Int} (h : B k (b * c)) (h0 : b ≠ 0) : B k c := by
  unfold B at *
  rw [Int.natAbs_mul] at h
  have : 1 ≤ b.natAbs := by omega
  have := Nat.mul_le_mul_right c.natAbs this
  omega
theorem B.gcd {k : Nat} {a b : Int} (h : B k b) (h0 : b ≠ 0) : B k (Int.gcd a b : Nat) := by
  unfold B at *
  have : Int.gcd a b ≤ b.natAbs := Nat.le_of_dvd (by omega) (Int.gcd_dvd_natAbs_right a b)
  simp only [Int.natAbs_natCast]
  omega
/-- what the program's half answers: three parts by their divisor -/
theorem ev_lowest (ct : Ct) (n : Nat) (t b : Int) (k : Nat) (hd : ∀ x y, B 8000 y → ct 16 [.int x, .int y] = some (.sh, .int (Int.gcd x y : Nat))) (ht : B k t) (hb : B k b) (hk : k ≤ 8000) (h0 : b ≠ 0) :
    ∃ p q, B k p ∧ B k q ∧ 0 < q ∧ runFn f_law_lowest ct n [.int t, .int b] = some (.sh, .tup [.int p, .int q]) := by
  obtain ⟨g, hg⟩ : ∃ g : Int, ((Int.gcd t b : Nat) : Int) = g := ⟨_, rfl⟩
  have g1 : g ∣ t := hg ▸ Int.gcd_dvd_left ..
  have g2 : g ∣ b := hg ▸ Int.gcd_dvd_right ..
  have g0 : 0 < g := by
    have : Int.gcd t b ≠ 0 := fun z => h0 (Int.gcd_eq_zero_iff.mp z).2
    omega
  have gb : B k g := hg ▸ B.gcd hb h0
  have e := hd t b (hb.mono hk)
  rw [hg] at e
  by_cases hn : b < 0
  · obtain ⟨p, e1, f1⟩ := fdiv_dvd (Int.neg_dvd.mpr g1) (show -g ≠ 0 by omega)
    obtain ⟨q, e2, f2⟩ := fdiv_dvd (Int.neg_dvd.mpr g2) (show -g ≠ 0 by omega)
    refine ⟨p, q, B.of_mul (f1 ▸ ht) (show -g ≠ 0 by omega), B.of_mul (f2 ▸ hb) (show -g ≠ 0 by omega), ?_, ?_⟩
    · rw [f2] at hn
      rw [Int.neg_mul] at hn
      exact Int.pos_of_mul_pos_right (show 0 < g * q by omega) g0
    · have o := B.div gb.neg (show -g ≠ 0 by omega) (by omega)
      refine runR rfl ?_
      simp [f_law_lowest, startE, e, hn, o, e1, e2]
  · obtain ⟨p, e1, f1⟩ := fdiv_dvd g1 (show g ≠ 0 by omega)
    obtain ⟨q, e2, f2⟩ := fdiv_dvd g2 (show g ≠ 0 by omega)
    refine ⟨p, q, B.of_mul (f1 ▸ ht) (show g ≠ 0 by omega), B.of_mul (f2 ▸ hb) (show g ≠ 0 by omega), ?_, ?_⟩
    · have : 0 < b := by omega
      rw [f2] at this
      exact Int.pos_of_mul_pos_right this g0
    · have o := B.div gb (show g ≠ 0 by omega) (by omega)
      refine runR rfl ?_
      simp [f_law_lowest, startE, e, hn, o, e1, e2]
/-- the law's own half -/
theorem half_end (ct : Ct) (n : Nat) (s1 s2 s3 : Sl) (a b c : Int) (hd : ∀ x y, B 8000 y → ct 16 [.int x, .int y] = some (.sh, .int (Int.gcd x y : Nat))) (k : Nat) (ha : B k a) (hb : B k b) (hc : B k c) (hk : k ≤ 8000) (h0 : ¬ (a = 0 ∧ b = 0)) :
    ∃ x y z, B k x ∧ B k y ∧ B k z ∧ ¬ (x = 0 ∧ y = 0) ∧ evSs ct n (.cons (.set false 4 (.call 16 (.cons (.call 16 (.cons (.idx (.var 3) (.int 0)) (.cons (.idx (.var 3) (.int 1)) .nil))) (.cons (.idx (.var 3) (.int 2)) .nil))))
      (.cons (.ret (.tup (.cons (.bin .div (.idx (.var 3) (.int 0)) (.var 4)) (.cons (.bin .div (.idx (.var 3) (.int 1)) (.var 4)) (.cons (.bin .div (.idx (.var 3) (.int 2)) (.var 4)) .nil))))) .nil)) [s1, s2, s3, .ow [.int a, .int b, .int c], .no] = some (.rt .sh (.tup [.int x, .int y, .int z])) := by
  obtain ⟨g, hg⟩ : ∃ g : Int, ((Int.gcd (Int.gcd a b : Nat) c : Nat) : Int) = g := ⟨_, rfl⟩
  have gg : g ∣ (Int.gcd a b : Nat) := hg ▸ Int.gcd_dvd_left ..
  have g1 : g ∣ a := Int.dvd_trans gg (Int.gcd_dvd_left ..)
  have g2 : g ∣ b := Int.dvd_trans gg (Int.gcd_dvd_right ..)
  have g3 : g ∣ c := hg ▸ Int.gcd_dvd_right ..
  have g0 : 0 < g := by
    have : Int.gcd (Int.gcd a b : Nat) c ≠ 0 := fun z => by
      have h1 := (Int.gcd_eq_zero_iff.mp z).1
      have h2 : Int.gcd a b = 0 := by omega
      exact h0 (Int.gcd_eq_zero_iff.mp h2)
    omega
  have gb : B k g := by
    have h2 : Int.gcd a b ≠ 0 := fun z => h0 (Int.gcd_eq_zero_iff.mp z)
    have h3 : g.natAbs ≤ Int.gcd a b := by
      have := Int.le_of_dvd (by omega) gg
      omega
    by_cases hb0 : b = 0
    · have : Int.gcd a b = a.natAbs := by rw [hb0]; simp
      unfold B at *; omega
    · have := B.gcd (a := a) hb hb0
      unfold B at *; omega
  obtain ⟨x, e1, f1⟩ := fdiv_dvd g1 (show g ≠ 0 by omega)
  obtain ⟨y, e2, f2⟩ := fdiv_dvd g2 (show g ≠ 0 by omega)
  obtain ⟨z, e3, f3⟩ := fdiv_dvd g3 (show g ≠ 0 by omega)
  refine ⟨x, y, z, B.of_mul (f1 ▸ ha) (show g ≠ 0 by omega), B.of_mul (f2 ▸ hb) (show g ≠ 0 by omega), B.of_mul (f3 ▸ hc) (show g ≠ 0 by omega), fun w => h0 (by rw [f1, f2, w.1, w.2]; simp), ?_⟩
  have d1 := hd a b (hb.mono hk)
  have d2 := hd (Int.gcd a b : Nat) c (hc.mono hk)
  rw [hg] at d2
  have o := B.div gb (show g ≠ 0 by omega) (by omega)
  simp [d1, d2, o, e1, e2, e3]
theorem pow30 : binD .pow (.int 10) (.int 30) = some (.sh, .int 1000000000000000000000000000000) := by simp [binD_pow]
theorem ev_half_k05 (ct : Ct) (n : Nat) (ns : List Int) (k : Nat) (hd : ∀ x y, B 8000 y → ct 16 [.int x, .int y] = some (.sh, .int (Int.gcd x y : Nat))) (hc : ct 1 [.scr ns, .int k] = some (.sh, .int (ns.getD k 0)))
    (hm : ∃ v, (0 ≤ v ∧ v < 2147483587) ∧ ct 15 [.scr ns, .int k] = some (.sh, .int v)) : ∃ x y z, B 102 x ∧ B 102 y ∧ B 102 z ∧ ¬ (x = 0 ∧ y = 0) ∧ runFn f_law_half_k05 ct n [.scr ns, .int k] = some (.sh, .tup [.int x, .int y, .int z]) := by
  obtain ⟨v, hv, hm⟩ := hm
  obtain ⟨c, hcc⟩ : ∃ c, ns.getD k 0 = c := ⟨_, rfl⟩
  rw [hcc] at hc
  have bv : B 31 v := by unfold B; omega
  have m1 := B.ok bv bv (by omega)
  have bvv := bv.mul bv
  -- the three ahead of the mend
  have mid : ∀ (a b c' : Int), B 102 a → B 102 b → B 102 c' → ∃ a' b', B 102 a' ∧ B 102 b' ∧ ¬ (a' = 0 ∧ b' = 0) ∧ evS ct n (.ife (.ands (.cons (.cmp .eq (.idx (.var 3) (.int 0)) (.int 0)) (.cons (.cmp .eq (.idx (.var 3) (.int 1)) (.int 0)) .nil)))
      (.cons (.sub 3 (.bin .mod (.bin .div (.var 2) (.int 6591)) (.int 2)) (.bin .sub (.int 1) (.bin .mul (.int 2) (.bin .mod (.bin .div (.var 2) (.int 13182)) (.int 2))))) .nil) .nil) [.sh (.scr ns), .sh (.int k), .sh (.int v), .ow [.int a, .int b, .int c'], .no]
      = some (.nx [.sh (.scr ns), .sh (.int k), .sh (.int v), .ow [.int a', .int b', .int c'], .no]) := fun a b c' ha hb hc' => by
    by_cases h : a = 0 ∧ b = 0
    · obtain ⟨rfl, rfl⟩ := h
      obtain ⟨w, hw, hw2⟩ : ∃ w, v / 13182 % 2 = w ∧ (w = 0 ∨ w = 1) := ⟨_, rfl, by omega⟩
      have bw : B 102 (1 - 2 * w) := by rcases hw2 with rfl | rfl <;> (unfold B; decide)
      have b0 : B 102 0 := by unfold B; decide
      have nz : 1 - 2 * w ≠ 0 := by omega
      have mw : mulOk 2 w = true := B.ok (k := 2) (l := 2) (by unfold B; decide) (by unfold B; omega) (by omega)
      rcases (show v / 6591 % 2 = 0 ∨ v / 6591 % 2 = 1 by omega) with h1 | h1
      · exact ⟨1 - 2 * w, 0, bw, b0, by omega, by simp [fmod_of, fdiv_of, divOk_255, hw, mw, h1, ixN]⟩
      · exact ⟨0, 1 - 2 * w, b0, bw, by omega, by simp [fmod_of, fdiv_of, divOk_255, hw, mw, h1, ixN]⟩
    · refine ⟨a, b, ha, hb, h, ?_⟩
      by_cases h1 : a = 0
      · have h2 : ¬ b = 0 := fun z => h ⟨h1, z⟩
        simp [h1, h2]
      · simp [h1]
  have fin : ∀ (a b c' : Int), B 102 a → B 102 b → B 102 c' → ∃ x y z, B 102 x ∧ B 102 y ∧ B 102 z ∧ ¬ (x = 0 ∧ y = 0) ∧ evSs ct n (.cons (.ife (.ands (.cons (.cmp .eq (.idx (.var 3) (.int 0)) (.int 0)) (.cons (.cmp .eq (.idx (.var 3) (.int 1)) (.int 0)) .nil)))
      (.cons (.sub 3 (.bin .mod (.bin .div (.var 2) (.int 6591)) (.int 2)) (.bin .sub (.int 1) (.bin .mul (.int 2) (.bin .mod (.bin .div (.var 2) (.int 13182)) (.int 2))))) .nil) .nil) (.cons (.set false 4 (.call 16 (.cons (.call 16 (.cons (.idx (.var 3) (.int 0)) (.cons (.idx (.var 3) (.int 1)) .nil))) (.cons (.idx (.var 3) (.int 2)) .nil))))
      (.cons (.ret (.tup (.cons (.bin .div (.idx (.var 3) (.int 0)) (.var 4)) (.cons (.bin .div (.idx (.var 3) (.int 1)) (.var 4)) (.cons (.bin .div (.idx (.var 3) (.int 2)) (.var 4)) .nil))))) .nil))) [.sh (.scr ns), .sh (.int k), .sh (.int v), .ow [.int a, .int b, .int c'], .no] = some (.rt .sh (.tup [.int x, .int y, .int z])) := fun a b c' ha hb hc' => by
    obtain ⟨a', b', ha', hb', h0, e⟩ := mid a b c' ha hb hc'
    obtain ⟨x, y, z, h1, h2, h3, h4, e2⟩ := half_end ct n (.sh (.scr ns)) (.sh (.int k)) (.sh (.int v)) a' b' c' hd 102 ha' hb' hc' (by omega) h0
    exact ⟨x, y, z, h1, h2, h3, h4, stepS e e2⟩
  have s1 : evS ct n (.set false 2 (.call 15 (.cons (.var 0) (.cons (.var 1) .nil)))) [.sh (.scr ns), .sh (.int k), .no, .no, .no] = some (.nx [.sh (.scr ns), .sh (.int k), .sh (.int v), .no, .no]) := by simp [hm]
  have s2 : evS ct n (.set true 3 (.lst (.cons (.bin .sub (.bin .mod (.var 2) (.int 13)) (.int 6)) (.cons (.bin .sub (.bin .mod (.bin .div (.var 2) (.int 13)) (.int 13)) (.int 6)) (.cons (.bin .sub (.bin .mod (.bin .div (.var 2) (.int 169)) (.int 13)) (.int 6)) .nil))))) [.sh (.scr ns), .sh (.int k), .sh (.int v), .no, .no] = some (.nx [.sh (.scr ns), .sh (.int k), .sh (.int v), .ow [.int (v % 13 - 6), .int (v / 13 % 13 - 6), .int (v / 169 % 13 - 6)], .no]) := by
    simp [fmod_of, fdiv_of, divOk_255]
  by_cases hw : v / 2197 % 3 = 1
  · obtain ⟨q, hq, bq⟩ : ∃ q, c % 2000000000000000000000000000000 - 1000000000000000000000000000000 = q ∧ B 102 q := ⟨_, rfl, by unfold B; rw [show (2 : Nat) ^ 102 = 5070602400912917605986812821504 by decide]; omega⟩
    obtain ⟨x, y, z, h1, h2, h3, h4, e⟩ := fin q (v - 1000000000) (v * v - 100000000000000000) bq (by unfold B; rw [show (2 : Nat) ^ 102 = 5070602400912917605986812821504 by decide]; omega) ((bvv.sub (l := 60) (m := 63) (by unfold B; decide) (by omega) (by omega)).mono (by omega))
    refine ⟨x, y, z, h1, h2, h3, h4, runR rfl (stepS s1 (stepS s2 (stepS ?_ e)))⟩
    have m2 : mulOk 2 1000000000000000000000000000000 = true := B.ok (k := 2) (l := 100) (by unfold B; decide) (by unfold B; decide) (by omega)
    simp [fmod_of, fdiv_of, divOk_255, hw, hc, m1, hq, m2]
  · obtain ⟨x, y, z, h1, h2, h3, h4, e⟩ := fin (v % 13 - 6) (v / 13 % 13 - 6) (v / 169 % 13 - 6) ((show B 10 (v % 13 - 6) by unfold B; omega).mono (by omega)) ((show B 10 (v / 13 % 13 - 6) by unfold B; omega).mono (by omega)) ((show B 10 (v / 169 % 13 - 6) by unfold B; omega).mono (by omega))
    refine ⟨x, y, z, h1, h2, h3, h4, runR rfl (stepS s1 (stepS s2 (stepS ?_ e)))⟩
    simp [fmod_of, fdiv_of, divOk_255, hw]
theorem ev_spot_k05 (ct : Ct) (n : Nat) (ns : List Int) (k : Nat) (a b c : Int) (ha : B 102 a) (hb : B 102 b) (hc : B 102 c) (h0 : ¬ (a = 0 ∧ b = 0)) (hk : k ≤ 1000)
    (hl : ∀ t b k, B k t → B k b → k ≤ 8000 → b ≠ 0 → ∃ p q, B k p ∧ B k q ∧ 0 < q ∧ ct 29 [.int t, .int b] = some (.sh, .tup [.int p, .int q]))
    (hm : ∀ k : Nat, k ≤ 2000 → ∃ v, (0 ≤ v ∧ v < 2147483587) ∧ ct 15 [.scr ns, .int k] = some (.sh, .int v)) :
    ∃ p q r s, B 300 p ∧ B 300 q ∧ B 300 r ∧ B 300 s ∧ 0 < q ∧ 0 < s ∧ runFn f_law_spot_k05 ct n [.scr ns, .int k, .tup [.int a, .int b, .int c]] = some (.sh, .tup [.tup [.int p, .int q], .tup [.int r, .int s]]) := by
  obtain ⟨v, hv, m1⟩ := hm (k + 63) (by omega)
  obtain ⟨w, hw, m2⟩ := hm (k + 126) (by omega)
  have e1 : (k : Int) + 63 = ((k + 63 : Nat) : Int) := by omega
  have e2 : (k : Int) + 126 = ((k + 126 : Nat) : Int) := by omega
  obtain ⟨p, q, bp, bq, q0, l1⟩ := hl (v / 9 % 2001 - 1000) (1 + v % 9) 20 (by unfold B; omega) (by unfold B; omega) (by omega) (by omega)
  obtain ⟨r, s, br, bs, s0, l2⟩ := hl (w - 1000000000) (1 + w % 9) 40 (by unfold B; omega) (by unfold B; omega) (by omega) (by omega)
  have o1 := B.ok hc bq (by omega)
  have o2 := B.ok ha bp (by omega)
  have o3 := B.ok hb bq (by omega)
  have b1 := (hc.mul bq).sub (m := 130) (ha.mul bp) (by omega) (by omega)
  have b2 := (hb.mul bq).mono (l := 130) (by omega)
  have s1 : evSs ct n (.cons (.set false 3 (.call 15 (.cons (.var 0) (.cons (.bin .add (.var 1) (.int 63)) .nil))))
      (.cons (.set false 4 (.call 29 (.cons (.bin .sub (.bin .mod (.bin .div (.var 3) (.int 9)) (.int 2001)) (.int 1000)) (.cons (.bin .add (.int 1) (.bin .mod (.var 3) (.int 9))) .nil))))
      (.cons (.set false 3 (.call 15 (.cons (.var 0) (.cons (.bin .add (.var 1) (.int 126)) .nil))))
      (.cons (.set false 5 (.call 29 (.cons (.bin .sub (.var 3) (.bin .pow (.int 10) (.int 9))) (.cons (.bin .add (.int 1) (.bin .mod (.var 3) (.int 9))) .nil)))) .nil)))) [.sh (.scr ns), .sh (.int k), .sh (.tup [.int a, .int b, .int c]), .no, .no, .no]
      = some (.nx [.sh (.scr ns), .sh (.int k), .sh (.tup [.int a, .int b, .int c]), .sh (.int w), .sh (.tup [.int p, .int q]), .sh (.tup [.int r, .int s])]) := by
    simp only [← e1, ← e2] at m1 m2
    simp [m1, m2, fmod_of, fdiv_of, divOk_255, l1, l2]
  by_cases h1 : w / 9 % 3 = 1
  · by_cases h2 : b = 0
    · have a0 : a ≠ 0 := fun z => h0 ⟨z, h2⟩
      obtain ⟨p', q', bp', bq', q0', l3⟩ := hl c a 102 hc ha (by omega) a0
      refine ⟨p', q', r, s, bp'.mono (by omega), bq'.mono (by omega), br.mono (by omega), bs.mono (by omega), q0', s0, runR rfl ?_⟩
      simp only [← e1, ← e2] at m1 m2
      simp [f_law_spot_k05, startE, m1, m2, fmod_of, fdiv_of, divOk_255, l1, l2, h1, h2, l3]
    · have bq0 : b * q ≠ 0 := Int.mul_ne_zero h2 (by omega)
      obtain ⟨r', s', br', bs', s0', l3⟩ := hl (c * q - a * p) (b * q) 130 b1 b2 (by omega) bq0
      refine ⟨p, q, r', s', bp.mono (by omega), bq.mono (by omega), br'.mono (by omega), bs'.mono (by omega), q0, s0', runR rfl ?_⟩
      simp only [← e1, ← e2] at m1 m2
      simp [f_law_spot_k05, startE, m1, m2, fmod_of, fdiv_of, divOk_255, l1, l2, h1, h2, l3, o1, o2, o3]
  · refine ⟨p, q, r, s, bp.mono (by omega), bq.mono (by omega), br.mono (by omega), bs.mono (by omega), q0, s0, runR rfl ?_⟩
    simp only [← e1, ← e2] at m1 m2
    simp [f_law_spot_k05, startE, m1, m2, fmod_of, fdiv_of, divOk_255, l1, l2, h1]
/-- 1, 0, -1 -/
def sg (x y : Int) : Int := (if y < x then 1 else 0) - (if x < y then 1 else 0)
theorem ev_side (ct : Ct) (n : Nat) (a b c p q r s : Int) (k : Nat) (ha : B k a) (hb : B k b) (hc : B k c) (hp : B k p) (hq : B k q) (hr : B k r) (hs : B k s) (hk : k ≤ 1000000) :
    runFn f_side ct n [.tup [.int a, .int b, .int c], .tup [.tup [.int p, .int q], .tup [.int r, .int s]]] = some (.sh, .int (sg (a * p * s + b * r * q) (c * q * s))) := by
  have o1 := B.ok ha hp (by omega)
  have o2 := B.ok (ha.mul hp) hs (by omega)
  have o3 := B.ok hb hr (by omega)
  have o4 := B.ok (hb.mul hr) hq (by omega)
  have o5 := B.ok hc hq (by omega)
  have o6 := B.ok (hc.mul hq) hs (by omega)
  refine runR rfl ?_
  simp [f_side, startE, o1, o2, o3, o4, o5, o6, sg]
theorem ev_other_side (ct : Ct) (n : Nat) (a b c : Int) : runFn f_other_side ct n [.tup [.int a, .int b, .int c]] = some (.sh, .tup [.int (-a), .int (-b), .int (-c)]) := by
  refine runR rfl ?_
  simp [f_other_side, startE]
theorem ev_right_k05 (ct : Ct) (n : Nat) (a b c p q r s : Int) (k : Nat) (ha : B k a) (hb : B k b) (hc : B k c) (hp : B k p) (hq : B k q) (hr : B k r) (hs : B k s) (hk : k ≤ 1000000)
    (hw : ∀ i, ct 2 [.int i] = some (.sh, .bl true)) (ho : ∀ a b c, ct 22 [.tup [.int a, .int b, .int c]] = some (.sh, .tup [.int (-a), .int (-b), .int (-c)]))
    (hside : ∀ a b c, B k a → B k b → B k c → ct 28 [.tup [.int a, .int b, .int c], .tup [.tup [.int p, .int q], .tup [.int r, .int s]]] = some (.sh, .int (sg (a * p * s + b * r * q) (c * q * s)))) :
    runFn f_law_right_k05 ct n [.tup [.int a, .int b, .int c], .tup [.tup [.int p, .int q], .tup [.int r, .int s]]] = some (.sh, .bl true) := by
  have o1 := B.ok ha hp (by omega)
  have o2 := B.ok (ha.mul hp) hs (by omega)
  have o3 := B.ok hb hr (by omega)
  have o4 := B.ok (hb.mul hr) hq (by omega)
  have o5 := B.ok hc hq (by omega)
  have o6 := B.ok (hc.mul hq) hs (by omega)
  have s1 := hside a b c ha hb hc
  have s2 := hside (-a) (-b) (-c) ha.neg hb.neg hc.neg
  have e2 : -a * p * s + -b * r * q = -(a * p * s + b * r * q) := by simp only [Int.neg_mul]; omega
  have e3 : -c * q * s = -(c * q * s) := by simp only [Int.neg_mul]
  rw [e2, e3] at s2
  obtain ⟨h, hh⟩ : ∃ h, a * p * s + b * r * q = h := ⟨_, rfl⟩
  obtain ⟨d, hd⟩ : ∃ d, c * q * s = d := ⟨_, rfl⟩
  rw [hh, hd] at s1 s2
  have f1 : sg (-h) (-d) = -(sg h d) := by
    unfold sg
    split <;> split <;> split <;> split <;> omega
  rw [f1] at s2
  have f2 : (if 0 < h - d then (1 : Int) else 0) - (if h - d < 0 then 1 else 0) = sg h d := by
    unfold sg
    split <;> split <;> split <;> split <;> omega
  have loop : evS ct n f_law_right_k05_L0 [.sh (.tup [.int a, .int b, .int c]), .sh (.tup [.tup [.int p, .int q], .tup [.int r, .int s]]), .sh (.tup [.int p, .int q]), .sh (.tup [.int r, .int s]), .sh (.int (h - d)), .sh (.int (sg h d)), .sh (.int (sg h d)), .sh (.tup [.int (-a), .int (-b), .int (-c)]), .no]
      = some (.nx [.sh (.tup [.int a, .int b, .int c]), .sh (.tup [.tup [.int p, .int q], .tup [.int r, .int s]]), .sh (.tup [.int p, .int q]), .sh (.tup [.int r, .int s]), .sh (.int (h - d)), .sh (.int (sg h d)), .sh (.int (sg h d)), .sh (.tup [.int (-a), .int (-b), .int (-c)]), .sh (.int 2)]) := by
    rw [f_law_right_k05_L0, evS_fr]
    have r3 : rngL 0 3 = [.int 0, .int 1, .int 2] := rfl
    simp [rngOk_small, r3, forF, f_law_right_k05_B0, hw]
  refine runR rfl (stepS (g' := [.sh (.tup [.int a, .int b, .int c]), .sh (.tup [.tup [.int p, .int q], .tup [.int r, .int s]]), .sh (.tup [.int p, .int q]), .sh (.tup [.int r, .int s]), .no, .no, .no, .no, .no]) (by simp [startE, f_law_right_k05])
    (stepS (g' := [.sh (.tup [.int a, .int b, .int c]), .sh (.tup [.tup [.int p, .int q], .tup [.int r, .int s]]), .sh (.tup [.int p, .int q]), .sh (.tup [.int r, .int s]), .sh (.int h), .no, .no, .no, .no]) (by simp [o1, o2, o3, o4, hh])
    (stepS (g' := [.sh (.tup [.int a, .int b, .int c]), .sh (.tup [.tup [.int p, .int q], .tup [.int r, .int s]]), .sh (.tup [.int p, .int q]), .sh (.tup [.int r, .int s]), .sh (.int (h - d)), .no, .no, .no, .no]) (by simp [o5, o6, hd])
    (stepS (g' := [.sh (.tup [.int a, .int b, .int c]), .sh (.tup [.tup [.int p, .int q], .tup [.int r, .int s]]), .sh (.tup [.int p, .int q]), .sh (.tup [.int r, .int s]), .sh (.int (h - d)), .sh (.int (sg h d)), .no, .no, .no]) ?_
    (stepS (g' := [.sh (.tup [.int a, .int b, .int c]), .sh (.tup [.tup [.int p, .int q], .tup [.int r, .int s]]), .sh (.tup [.int p, .int q]), .sh (.tup [.int r, .int s]), .sh (.int (h - d)), .sh (.int (sg h d)), .sh (.int (sg h d)), .no, .no]) (by simp [s1])
    (stepS (g' := [.sh (.tup [.int a, .int b, .int c]), .sh (.tup [.tup [.int p, .int q], .tup [.int r, .int s]]), .sh (.tup [.int p, .int q]), .sh (.tup [.int r, .int s]), .sh (.int (h - d)), .sh (.int (sg h d)), .sh (.int (sg h d)), .sh (.tup [.int (-a), .int (-b), .int (-c)]), .no]) (by simp [ho])
    (stepS (g' := [.sh (.tup [.int a, .int b, .int c]), .sh (.tup [.tup [.int p, .int q], .tup [.int r, .int s]]), .sh (.tup [.int p, .int q]), .sh (.tup [.int r, .int s]), .sh (.int (h - d)), .sh (.int (sg h d)), .sh (.int (sg h d)), .sh (.tup [.int (-a), .int (-b), .int (-c)]), .no]) (by simp [hw])
    (stepS loop ?_))))))))
  · rw [← f2]
    simp only [evS_set, evE_bin, evE_b1, evE_cmp, evE_var, evE_int]
    simp [-Int.sub_pos, -Int.sub_neg]
  · simp [s2, ho]
/-- what the defs of law k05 answer -/
structure C05 (ct : Ct) (ns : List Int) : Prop where
  half : ∀ k : Nat, k ≤ 1000 → ∃ x y z, B 102 x ∧ B 102 y ∧ B 102 z ∧ ¬ (x = 0 ∧ y = 0) ∧ ct 30 [.scr ns, .int k] = some (.sh, .tup [.int x, .int y, .int z])
  spot : ∀ (k : Nat) a b c, k ≤ 1000 → B 102 a → B 102 b → B 102 c → ¬ (a = 0 ∧ b = 0) → ∃ p q r s, B 300 p ∧ B 300 q ∧ B 300 r ∧ B 300 s ∧ 0 < q ∧ 0 < s ∧ ct 31 [.scr ns, .int k, .tup [.int a, .int b, .int c]] = some (.sh, .tup [.tup [.int p, .int q], .tup [.int r, .int s]])
  right : ∀ a b c p q r s, B 300 a → B 300 b → B 300 c → B 300 p → B 300 q → B 300 r → B 300 s → ct 32 [.tup [.int a, .int b, .int c], .tup [.tup [.int p, .int q], .tup [.int r, .int s]]] = some (.sh, .bl true)
theorem k05_loop {ct : Ct} {ns : List Int} (C : C05 ct ns) (n : Nat) : ∀ (m lo : Nat) (j1 j2 : Sl), lo + m ≤ 100 → ∃ x y, forF (asg (.one 1)) (fun g => evSs ct n f_law_k05_B0 g) (rngL lo m) [.sh (.scr ns), j1, j2] = some (.nx [.sh (.scr ns), x, y])
  | 0, lo, j1, j2, _ => ⟨_, _, rfl⟩
  | m + 1, lo, j1, j2, h => by
    obtain ⟨a, b, c, ha, hb, hc, h0, e1⟩ := C.half lo (by omega)
    obtain ⟨p, q, r, s, hp, hq, hr, hs, _, _, e2⟩ := C.spot lo a b c (by omega) ha hb hc h0
    have e3 := C.right a b c p q r s (ha.mono (by omega)) (hb.mono (by omega)) (hc.mono (by omega)) hp hq hr hs
    obtain ⟨x, y, ih⟩ := k05_loop C n m (lo + 1) (.sh (.int lo)) (.sh (.tup [.int a, .int b, .int c])) (by omega)
    refine ⟨x, y, ?_⟩
    rw [rngL_succ, forF_nx (g1 := [.sh (.scr ns), .sh (.int lo), j2]) (g2 := [.sh (.scr ns), .sh (.int lo), .sh (.tup [.int a, .int b, .int c])]) (by simp) (by simp [f_law_k05_B0, e1, e2, e3])]
    exact ih
/-- range(max(1, min(63, len(script)))) -/
theorem rng63 (ct : Ct) (g : Env') (ns : List Int) (i : Nat) (h : g[i]? = some (.sh (.scr ns))) (hl : ns.length ≤ 63) : ∃ m, 1 ≤ m ∧ m ≤ 63 ∧ (m = ns.length ∨ ns.length = 0) ∧ evI ct g (.rng (.b2 .max (.int 1) (.b2 .min (.int 63) (.b1 .len (.var i))))) = some (.sh, rngL 0 m) := by
  by_cases h0 : ns.length = 0
  · refine ⟨1, by omega, by omega, .inr h0, ?_⟩
    have h1 : rngOk (1 : Int) = true := rngOk_small _ (by decide)
    simp [h, h0, h1]
  · refine ⟨ns.length, by omega, hl, .inl rfl, ?_⟩
    have h1 : rngOk (ns.length : Int) = true := rngOk_small _ (by omega)
    have h2 : (if (ns.length : Int) < 63 then (ns.length : Int) else 63) = (ns.length : Int) := by split <;> omega
    by_cases h3 : 1 < (ns.length : Int)
    · have h4 : 1 < ns.length := by omega
      simp [h, h2, h3, h4, h1]
    · have h4 : ns.length = 1 := by omega
      have h1 : rngOk (1 : Int) = true := rngOk_small _ (by decide)
      simp [h, h4, h1]
theorem ev_k05 {ct : Ct} {ns : List Int} (C : C05 ct ns) (n : Nat) (hl : ns.length ≤ 63) : runFn f_law_k05 ct n [.scr ns] = some (.sh, .bl true) := by
  obtain ⟨m, h1, h2, _, e⟩ := rng63 ct [.sh (.scr ns), .no, .no] ns 0 rfl hl
  obtain ⟨x, y, h⟩ := k05_loop C n m 0 .no .no (by omega)
  refine runR rfl (stepS (g' := [.sh (.scr ns), x, y]) ?_ (by simp))
  show evS ct n f_law_k05_L0 [.sh (.scr ns), .no, .no] = _
  rw [f_law_k05_L0, evS_fr, e]
  exact h
end Ev
namespace Ev
open PySem L2
/-! ### comprehensions -/
theorem compF_fm {α : Type} (f : α → D) (p : α → Bool) (x : α → D) {a : D → Env' → Option Env'} {c : Env' → Option Bool} {e : Env' → Rs} {g : Env'} : ∀ (xs : List α) (acc : List D),
    (∀ t ∈ xs, ∃ g1, a (f t) g = some g1 ∧ c g1 = some (p t) ∧ (p t = true → ∃ r, e g1 = some r ∧ storable r = some (x t))) → acc.length + xs.length ≤ 1000000 →
    compF a c e g (xs.map f) acc = some (acc ++ (xs.filter p).map x)
  | [], acc, _, _ => by simp [compF]
  | t :: xs, acc, h, hl => by
    obtain ⟨g1, h1, h2, h3⟩ := h t (by simp)
    have hl' : acc.length + (xs.length + 1) ≤ 1000000 := by simpa using hl
    simp only [List.map_cons, compF, h1, Option.bind_eq_bind, Option.bind_some, h2]
    cases hp : p t with
    | true =>
      obtain ⟨r, h4, h5⟩ := h3 hp
      rw [if_pos rfl, h4]
      simp only [Option.bind_some, h5, lenOk_small (show acc.length ≤ 1000000 by omega), if_true]
      rw [compF_fm f p x xs (acc ++ [x t]) (fun u hu => h u (by simp [hu])) (by simp; omega), List.filter_cons_of_pos hp]
      simp
    | false =>
      rw [if_neg (by decide), compF_fm f p x xs acc (fun u hu => h u (by simp [hu])) (by omega), List.filter_cons_of_neg (by rw [hp]; decide)]
theorem compF_map {α : Type} (f : α → D) (x : α → D) {a : D → Env' → Option Env'} {c : Env' → Option Bool} {e : Env' → Rs} {g : Env'} (xs : List α)
    (h : ∀ t ∈ xs, ∃ g1, a (f t) g = some g1 ∧ c g1 = some true ∧ ∃ r, e g1 = some r ∧ storable r = some (x t)) (hl : xs.length ≤ 1000000) :
    compF a c e g (xs.map f) [] = some (xs.map x) := by
  rw [compF_fm f (fun _ => true) x xs [] (fun t ht => by
    obtain ⟨g1, h1, h2, h3⟩ := h t ht
    exact ⟨g1, h1, h2, fun _ => h3⟩) (by simpa using hl)]
  rw [List.filter_eq_self.mpr (fun _ _ => rfl)]; rfl
theorem compF_ex {β : Type} (f : β → D) (P : β → Prop) {a : D → Env' → Option Env'} {c : Env' → Option Bool} {e : Env' → Rs} {g : Env'} : ∀ (ds : List D) (acc : List D),
    (∀ d ∈ ds, ∃ g1 y, a d g = some g1 ∧ c g1 = some true ∧ P y ∧ ∃ r, e g1 = some r ∧ storable r = some (f y)) → acc.length + ds.length ≤ 1000000 →
    ∃ ys : List β, ys.length = ds.length ∧ (∀ y ∈ ys, P y) ∧ compF a c e g ds acc = some (acc ++ ys.map f)
  | [], acc, _, _ => ⟨[], rfl, (fun y h => by cases h), (by rw [List.map_nil, List.append_nil]; rfl)⟩
  | d :: ds, acc, h, hl => by
    obtain ⟨g1, y, h1, h2, h3, r, h4, h5⟩ := h d (by simp)
    have hl' : acc.length + (ds.length + 1) ≤ 1000000 := by simpa using hl
    obtain ⟨ys, k1, k2, k3⟩ := compF_ex f P ds (acc ++ [f y]) (fun u hu => h u (by simp [hu])) (by simp; omega)
    refine ⟨y :: ys, by simp [k1], fun z hz => ?_, ?_⟩
    · rcases List.mem_cons.mp hz with rfl | hz
      · exact h3
      · exact k2 z hz
    · simp only [compF, h1, Option.bind_eq_bind, Option.bind_some, h2, if_true, h4, h5, lenOk_small (show acc.length ≤ 1000000 by omega)]
      rw [k3]; simp
theorem evE_comp_of {ct : Ct} {g g0 : Env'} {e : Ex} {tg : Tg} {it : Itx} {es : Exs} {m : M} {ds out : List D} (hi : evI ct g it = some (m, ds)) (hg : wipeE g (tgSlots tg) = g0)
    (hc : compF (asg tg) (fun g1 => evC ct g1 es) (fun g1 => evE ct g1 e) g0 ds [] = some out) : evE ct g (.comp e tg it es) = some (.fr, .lst out) := by
  rw [evE_comp, hi, Option.bind_some, hg, hc]; rfl
theorem forF_app {a : D → Env' → Option Env'} {b : Env' → Option Out} {es : List D} {g' : Env'} : ∀ {ds : List D} {g : Env'}, forF a b ds g = some (.nx g') → forF a b (ds ++ es) g = forF a b es g'
  | [], g, h => by cases h; rfl
  | d :: ds, g, h => by
    simp only [forF, Option.bind_eq_bind, Option.bind_eq_some_iff] at h
    obtain ⟨g1, h1, o, h2, h3⟩ := h
    cases o with
    | nx g2 =>
      rw [List.cons_append, forF_nx h1 h2]
      exact forF_app h3
    | rt m d => cases h3
    | ex c g2 => cases h3
def catS : Sms → Sms → Sms
  | .nil, t => t
  | .cons s ss, t => .cons s (catS ss t)
theorem evSs_app {ct : Ct} {n : Nat} {g' : Env'} {t : Sms} {o : Option Out} : ∀ {s : Sms} {g : Env'}, evSs ct n s g = some (.nx g') → evSs ct n t g' = o → evSs ct n (catS s t) g = o
  | .nil, g, h, k => by
    rw [evSs_nil] at h
    cases h; exact k
  | .cons s ss, g, h, k => by
    rw [evSs_cons, Option.bind_eq_some_iff] at h
    obtain ⟨o1, h1, h2⟩ := h
    rw [catS, evSs_cons, h1, Option.bind_some]
    cases o1 with
    | nx g1 => exact evSs_app h2 k
    | rt m d => cases h2
    | ex c g1 => cases h2
/-- a loop that goes through, by an invariant over the lists of slots -/
theorem forF_all {a : D → Env' → Option Env'} {b : Env' → Option Out} (P : Env' → Prop) : ∀ (ds : List D) (g : Env'), P g →
    (∀ d ∈ ds, ∀ g, P g → ∃ g1 g2, a d g = some g1 ∧ b g1 = some (.nx g2) ∧ P g2) → ∃ g', forF a b ds g = some (.nx g') ∧ P g'
  | [], g, h, _ => ⟨g, rfl, h⟩
  | d :: ds, g, h, k => by
    obtain ⟨g1, g2, h1, h2, h3⟩ := k d (by simp) g h
    rw [forF_nx h1 h2]
    exact forF_all P ds g2 h3 fun u hu => k u (by simp [hu])
@[simp] theorem evE_cnt (ct : Ct) (g : Env') (a b : Ex) : evE ct g (.cnt a b) = (evE ct g a).bind fun x => (evE ct g b).bind fun y => (asL x.2).bind fun ds => if shD (.lst ds) && shD y.2 then some (.sh, .int ((ds.filter fun z => eqvD z y.2).length : Nat)) else none := by simp only [evE]; rfl
@[simp] theorem asg_lst (is : List Nat) (ds : List D) (g : Env') : asg (.many is) (.lst ds) g = asgAll is ds g := rfl
/-! ### points -/
abbrev Pt := Int × Int
def pD (p : Pt) : D := .tup [.int p.1, .int p.2]
def BP (k : Nat) (p : Pt) : Prop := B k p.1 ∧ B k p.2
theorem noBs_pts : ∀ ps : List Pt, noBs (ps.map pD) = true
  | [] => rfl
  | p :: ps => by rw [List.map_cons, noBs, noBs_pts ps]; rfl
theorem deps_pts : ∀ (ps : List Pt) (k : Nat), deps (k + 1) (ps.map pD) = true
  | [], k => rfl
  | p :: ps, k => by rw [List.map_cons, deps, deps_pts ps k]; cases k <;> rfl
theorem noB_pts (ps : List Pt) : noB (.lst (ps.map pD)) = true := by rw [noB]; exact noBs_pts ps
theorem dep_pts (ps : List Pt) : dep 60 (.lst (ps.map pD)) = true := by rw [dep]; exact deps_pts ps 58
@[simp] theorem ne_pts_self (ps : List Pt) : cmpD .ne (.lst (ps.map pD)) (.lst (ps.map pD)) = some false := by
  rw [cmpD_neD _ _ (noB_pts ps) (noB_pts ps) (dep_pts ps) (dep_pts ps)]; simp
theorem noBs_ints : ∀ ps : List Int, noBs (ps.map D.int) = true
  | [] => rfl
  | p :: ps => by rw [List.map_cons, noBs, noBs_ints ps]; rfl
theorem deps_ints : ∀ (ps : List Int) (k : Nat), deps k (ps.map D.int) = true
  | [], k => by cases k <;> rfl
  | p :: ps, k => by rw [List.map_cons, deps, deps_ints ps k]; cases k <;> rfl
theorem shD_ints (ns : List Int) : shD (.lst (ns.map D.int)) = true := shD_of _ (by rw [noB]; exact noBs_ints ns) (by rw [dep]; exact deps_ints ns _)
theorem eqvD_int (i j : Int) : eqvD (.int i) (.int j) = decide (i = j) := by
  show (i == j) = _
  rw [Bool.beq_eq_decide_eq]
theorem cnt_ints (k : Int) : ∀ ns : List Int, ((ns.map D.int).filter fun z => eqvD z (.int k)).length = ns.countP fun i => decide (i = k)
  | [] => rfl
  | n :: ns => by
    rw [List.map_cons, List.filter_cons, List.countP_cons, eqvD_int, ← cnt_ints k ns]
    by_cases h : n = k <;> simp [h]
/-- how many points the half holds -/
def cntH (a b c : Int) (ps : List Pt) : Nat := ps.countP fun p => decide (c ≤ a * p.1 + b * p.2)
theorem cntH_le (a b c : Int) (ps : List Pt) : cntH a b c ps ≤ ps.length := List.countP_le_length
theorem ev_many_in (ct : Ct) (n : Nat) (a b c : Int) (ps : List Pt) (k l : Nat) (ha : B k a) (hb : B k b) (hp : ∀ p ∈ ps, BP l p) (hk : k + l ≤ 134000000) (hl : ps.length ≤ 1000000) :
    runFn f_many_in ct n [.tup [.int a, .int b, .int c], .lst (ps.map pD)] = some (.sh, .int (cntH a b c ps : Nat)) := by
  have hc : compF (asg (.many [2, 3])) (fun g1 => evC ct g1 (.cons (.cmp .ge (.bin .add (.bin .mul (.idx (.var 0) (.int 0)) (.var 2)) (.bin .mul (.idx (.var 0) (.int 1)) (.var 3))) (.idx (.var 0) (.int 2))) .nil)) (fun g1 => evE ct g1 (.var 2))
      [.sh (.tup [.int a, .int b, .int c]), .sh (.lst (ps.map pD)), .no, .no] (ps.map pD) [] = some ([] ++ (ps.filter fun p => decide (c ≤ a * p.1 + b * p.2)).map fun p => D.int p.1) := by
    refine compF_fm pD _ _ ps [] (fun p hpm => ?_) (by simpa using hl)
    obtain ⟨x, y⟩ := p
    obtain ⟨b1, b2⟩ := hp _ hpm
    have o1 := B.ok ha b1 (by omega)
    have o2 := B.ok hb b2 (by omega)
    exact ⟨[.sh (.tup [.int a, .int b, .int c]), .sh (.lst (ps.map pD)), .sh (.int x), .sh (.int y)], by simp [pD], by simp at o1 o2; simp [o1, o2], fun _ => ⟨_, by simp; rfl, rfl⟩⟩
  have hv : evE ct [.sh (.tup [.int a, .int b, .int c]), .sh (.lst (ps.map pD)), .no, .no] f_many_in_C0 = some (.fr, .lst ([] ++ (ps.filter fun p => decide (c ≤ a * p.1 + b * p.2)).map fun p => D.int p.1)) :=
    evE_comp_of (m := .sh) (ds := ps.map pD) (by simp [itM]) rfl hc
  refine runR rfl ?_
  simp [f_many_in, startE, hv, cntH, List.countP_eq_length_filter]
theorem countP_map' {α β : Type} (f : α → β) (p : β → Bool) (l : List α) : (l.map f).countP p = l.countP fun x => p (f x) := by rw [List.countP_map]; rfl
theorem cntH_both (a b c : Int) : ∀ ps : List Pt, cntH a b c ps + cntH (-a) (-b) (-c) ps = ps.length + ps.countP fun p => decide (a * p.1 + b * p.2 = c)
  | [] => rfl
  | p :: ps => by
    have ih := cntH_both a b c ps
    unfold cntH at *
    rw [List.countP_cons, List.countP_cons, List.countP_cons, List.length_cons]
    simp only [Int.neg_mul, decide_eq_true_eq] at *
    split <;> split <;> split <;> omega
/-- a point of the law -/
theorem ev_point (ct : Ct) (n : Nat) (ns : List Int) (k : Nat) (hc : ∀ j : Nat, ct 1 [.scr ns, .int j] = some (.sh, .int (ns.getD j 0))) (hm : ∃ v, (0 ≤ v ∧ v < 2147483587) ∧ ct 15 [.scr ns, .int k] = some (.sh, .int v)) :
    ∃ p, BP 102 p ∧ runFn f_law_point ct n [.scr ns, .int k] = some (.sh, pD p) := by
  obtain ⟨v, hv, hm⟩ := hm
  have h1 := hc 1
  have hk := hc k
  obtain ⟨w, hw⟩ : ∃ w, ns.getD 1 0 = w := ⟨_, rfl⟩
  obtain ⟨c, hcc⟩ : ∃ c, ns.getD k 0 = c := ⟨_, rfl⟩
  rw [hw] at h1
  rw [hcc] at hk
  have h1 : ct 1 [.scr ns, .int 1] = some (.sh, .int w) := h1
  have m2 : mulOk 2 1000000000000000000000000000000 = true := B.ok (k := 2) (l := 100) (by unfold B; decide) (by unfold B; decide) (by omega)
  have pw : (2 : Nat) ^ 102 = 5070602400912917605986812821504 := by decide
  by_cases c1 : w % 4 = 1
  · refine ⟨(c % 2000000000000000000000000000000 - 1000000000000000000000000000000, v - 1000000000), ⟨by unfold B; rw [pw]; simp only; omega, by unfold B; rw [pw]; simp only; omega⟩, runR rfl ?_⟩
    simp [f_law_point, startE, hm, h1, hk, c1, fmod_of, fdiv_of, divOk_255, m2, pD]
  · by_cases c2 : w % 4 = 2
    · refine ⟨(v % 2001 - 1000, v / 2001 % 2001 - 1000), ⟨by unfold B; rw [pw]; simp only; omega, by unfold B; rw [pw]; simp only; omega⟩, runR rfl ?_⟩
      simp [f_law_point, startE, hm, h1, hk, c1, c2, fmod_of, fdiv_of, divOk_255, m2, pD]
    · refine ⟨(v % 7 - 3, v / 7 % 7 - 3), ⟨by unfold B; rw [pw]; simp only; omega, by unfold B; rw [pw]; simp only; omega⟩, runR rfl ?_⟩
      simp [f_law_point, startE, hm, h1, hk, c1, c2, fmod_of, fdiv_of, divOk_255, m2, pD]
/-! ### three numbers and their divisor -/
structure Gd (k : Nat) (a b c g x y z : Int) : Prop where
  e : ((Int.gcd (Int.gcd a b : Nat) c : Nat) : Int) = g
  pos : 0 < g
  bg : B k g
  fa : a = g * x
  fb : b = g * y
  fc : c = g * z
  da : a.fdiv g = x
  db : b.fdiv g = y
  dc : c.fdiv g = z
  bx : B k x
  by_ : B k y
  bz : B k z
  one : Int.gcd (Int.gcd x y : Nat) z = 1
theorem gcd3_mul (g : Nat) (x y z : Int) : Int.gcd (Int.gcd ((g : Int) * x) ((g : Int) * y) : Nat) ((g : Int) * z) = g * Int.gcd (Int.gcd x y : Nat) z := by
  rw [Int.gcd_mul_left, Int.natAbs_natCast, Int.natCast_mul, Int.gcd_mul_left, Int.natAbs_natCast]
theorem gd_of (k : Nat) (a b c : Int) (ha : B k a) (hb : B k b) (hc : B k c) (h0 : ¬ (a = 0 ∧ b = 0)) : ∃ g x y z, Gd k a b c g x y z := by
  obtain ⟨g, hg⟩ : ∃ g : Int, ((Int.gcd (Int.gcd a b : Nat) c : Nat) : Int) = g := ⟨_, rfl⟩
  have gg : g ∣ (Int.gcd a b : Nat) := hg ▸ Int.gcd_dvd_left ..
  have g1 : g ∣ a := Int.dvd_trans gg (Int.gcd_dvd_left ..)
  have g2 : g ∣ b := Int.dvd_trans gg (Int.gcd_dvd_right ..)
  have g3 : g ∣ c := hg ▸ Int.gcd_dvd_right ..
  have g0 : 0 < g := by
    have : Int.gcd (Int.gcd a b : Nat) c ≠ 0 := fun z => by
      have h1 := (Int.gcd_eq_zero_iff.mp z).1
      have h2 : Int.gcd a b = 0 := by omega
      exact h0 (Int.gcd_eq_zero_iff.mp h2)
    omega
  have gb : B k g := by
    have h2 : Int.gcd a b ≠ 0 := fun z => h0 (Int.gcd_eq_zero_iff.mp z)
    have h3 : g.natAbs ≤ Int.gcd a b := by
      have := Int.le_of_dvd (by omega) gg
      omega
    by_cases hb0 : b = 0
    · have : Int.gcd a b = a.natAbs := by rw [hb0]; simp
      unfold B at *; omega
    · have := B.gcd (a := a) hb hb0
      unfold B at *; omega
  obtain ⟨x, e1, f1⟩ := fdiv_dvd g1 (show g ≠ 0 by omega)
  obtain ⟨y, e2, f2⟩ := fdiv_dvd g2 (show g ≠ 0 by omega)
  obtain ⟨z, e3, f3⟩ := fdiv_dvd g3 (show g ≠ 0 by omega)
  refine ⟨g, x, y, z, hg, g0, gb, f1, f2, f3, e1, e2, e3, B.of_mul (f1 ▸ ha) (show g ≠ 0 by omega), B.of_mul (f2 ▸ hb) (show g ≠ 0 by omega), B.of_mul (f3 ▸ hc) (show g ≠ 0 by omega), ?_⟩
  obtain ⟨m, rfl⟩ : ∃ m : Nat, g = (m : Int) := ⟨g.toNat, by omega⟩
  rw [f1, f2, f3, gcd3_mul] at hg
  have hg' : m * Int.gcd (Int.gcd x y : Nat) z = m * 1 := by omega
  exact Nat.eq_of_mul_eq_mul_left (by omega) hg'
/-- three numbers -/
abbrev Tr := Int × Int × Int
def tD (t : Tr) : D := .tup [.int t.1, .int t.2.1, .int t.2.2]
def BT (k : Nat) (t : Tr) : Prop := B k t.1 ∧ B k t.2.1 ∧ B k t.2.2
end Ev
namespace Ev
open PySem L2
/-! ### fractions -/
/-- p / q is t / b in lowest terms -/
structure Fr (t b p q : Int) : Prop where
  pos : 0 < q
  one : Int.gcd p q = 1
  eq : t * q = p * b
theorem dvd_of_gcd {q p r : Int} (h : q ∣ p * r) (g : Int.gcd q p = 1) : q ∣ r := by
  have h1 : q.natAbs ∣ p.natAbs * r.natAbs := by rw [← Int.natAbs_mul]; exact Int.natAbs_dvd_natAbs.mpr h
  have g1 : Nat.Coprime q.natAbs p.natAbs := g
  exact Int.natAbs_dvd_natAbs.mp (g1.dvd_of_dvd_mul_left h1)
theorem fr_unique {p q p' q' : Int} (h0 : 0 < q) (h0' : 0 < q') (g : Int.gcd p q = 1) (g' : Int.gcd p' q' = 1) (e : p * q' = p' * q) : p = p' ∧ q = q' := by
  have d1 : q ∣ q' := by
    have : q ∣ p * q' := ⟨p', by rw [e, Int.mul_comm]⟩
    exact dvd_of_gcd this (by rw [Int.gcd_comm]; exact g)
  have d2 : q' ∣ q := by
    have : q' ∣ p' * q := ⟨p, by rw [← e, Int.mul_comm]⟩
    exact dvd_of_gcd this (by rw [Int.gcd_comm]; exact g')
  have l1 := Int.le_of_dvd h0' d1
  have l2 := Int.le_of_dvd h0 d2
  have eq : q = q' := by omega
  subst eq
  exact ⟨Int.eq_of_mul_eq_mul_right (by omega) e, rfl⟩
theorem Fr.unique {t b p q p' q' : Int} (hb : b ≠ 0) (a : Fr t b p q) (a' : Fr t b p' q') : p = p' ∧ q = q' := by
  refine fr_unique a.pos a'.pos a.one a'.one ?_
  have h1 := a.eq
  have h2 := a'.eq
  have : b * (p * q') = b * (p' * q) := by
    calc b * (p * q') = (p * b) * q' := by rw [Int.mul_comm p b, Int.mul_assoc]
      _ = (t * q) * q' := by rw [h1]
      _ = (t * q') * q := by rw [Int.mul_assoc, Int.mul_comm q q', ← Int.mul_assoc]
      _ = (p' * b) * q := by rw [h2]
      _ = b * (p' * q) := by rw [Int.mul_comm p' b, Int.mul_assoc]
  exact Int.eq_of_mul_eq_mul_left hb this
theorem ev_ratio (ct : Ct) (n : Nat) (t b : Int) (k : Nat) (hd : ct 0 [.int t, .int b] = some (.sh, .int (Int.gcd t b : Nat))) (ht : B k t) (hb : B k b) (hk : k ≤ 8900) (h0 : b ≠ 0) :
    ∃ p q, Fr t b p q ∧ B k p ∧ B k q ∧ runFn f_ratio ct n [.int t, .int b] = some (.sh, .tup [.int p, .int q]) := by
  obtain ⟨g, hg⟩ : ∃ g : Int, ((Int.gcd t b : Nat) : Int) = g := ⟨_, rfl⟩
  have g1 : g ∣ t := hg ▸ Int.gcd_dvd_left ..
  have g2 : g ∣ b := hg ▸ Int.gcd_dvd_right ..
  have g0 : 0 < g := by
    have : Int.gcd t b ≠ 0 := fun z => h0 (Int.gcd_eq_zero_iff.mp z).2
    omega
  have gb : B k g := hg ▸ B.gcd hb h0
  rw [hg] at hd
  -- the parts
  have part : ∀ d : Int, d ≠ 0 → (d = g ∨ d = -g) → ∀ p q, t = d * p → b = d * q → Int.gcd p q = 1 := fun d d0 hdg p q f1 f2 => by
    rw [f1, f2, Int.gcd_mul_left] at hg
    have e : d.natAbs = g.natAbs := by rcases hdg with rfl | rfl <;> simp
    rw [e] at hg
    have e2 : (g.natAbs : Int) = g := by omega
    rw [Int.natCast_mul, e2] at hg
    have hg' : g * (Int.gcd p q : Nat) = g * 1 := by rw [hg, Int.mul_one]
    have := Int.eq_of_mul_eq_mul_left (show g ≠ 0 by omega) hg'
    omega
  by_cases hn : b < 0
  · obtain ⟨p, e1, f1⟩ := fdiv_dvd (Int.neg_dvd.mpr g1) (show -g ≠ 0 by omega)
    obtain ⟨q, e2, f2⟩ := fdiv_dvd (Int.neg_dvd.mpr g2) (show -g ≠ 0 by omega)
    refine ⟨p, q, ⟨?_, part _ (by omega) (.inr rfl) p q f1 f2, ?_⟩, B.of_mul (f1 ▸ ht) (show -g ≠ 0 by omega), B.of_mul (f2 ▸ hb) (show -g ≠ 0 by omega), ?_⟩
    · rw [f2] at hn
      rw [Int.neg_mul] at hn
      exact Int.pos_of_mul_pos_right (show 0 < g * q by omega) g0
    · rw [f1, f2, Int.mul_assoc, Int.mul_left_comm]
    · have o := B.div gb.neg (show -g ≠ 0 by omega) (by omega)
      refine runR rfl ?_
      simp [f_ratio, startE, hd, hn, o, e1, e2, h0]
  · obtain ⟨p, e1, f1⟩ := fdiv_dvd g1 (show g ≠ 0 by omega)
    obtain ⟨q, e2, f2⟩ := fdiv_dvd g2 (show g ≠ 0 by omega)
    refine ⟨p, q, ⟨?_, part _ (by omega) (.inl rfl) p q f1 f2, ?_⟩, B.of_mul (f1 ▸ ht) (show g ≠ 0 by omega), B.of_mul (f2 ▸ hb) (show g ≠ 0 by omega), ?_⟩
    · have : 0 < b := by omega
      rw [f2] at this
      exact Int.pos_of_mul_pos_right this g0
    · rw [f1, f2, Int.mul_assoc, Int.mul_left_comm]
    · have o := B.div gb (show g ≠ 0 by omega) (by omega)
      refine runR rfl ?_
      simp [f_ratio, startE, hd, hn, o, e1, e2, h0]
theorem ev_ratio_x (ct : Ct) (n : Nat) (t : Int) {v : M × D} (hx : ct flagX [] = some v) : runFn f_ratio ct n [.int t, .int 0] = some (.ex, .exc 1) := by
  refine runX (g' := [.sh (.int t), .sh (.int 0), .no]) rfl (stepX (g' := [.sh (.int t), .sh (.int 0), .no]) ?_)
  simp [startE, f_ratio, hx]
theorem ev_below (ct : Ct) (n : Nat) (a b c d : Int) (k : Nat) (ha : B k a) (hb : B k b) (hc : B k c) (hd : B k d) (hk : k ≤ 60000000) : runFn f_below ct n [.tup [.int a, .int b], .tup [.int c, .int d]] = some (.sh, .bl (decide (a * d < c * b))) := by
  have o1 := B.ok ha hd (by omega)
  have o2 := B.ok hc hb (by omega)
  refine runR rfl ?_
  simp [f_below, startE, o1, o2]
theorem eqvD_bl (a b : Bool) : eqvD (.bl a) (.bl b) = (a == b) := rfl
@[simp] theorem eq_bl (a b : Bool) : cmpD .eq (.bl a) (.bl b) = some (a == b) := by
  show (if (shD (.bl a) && shD (.bl b)) = true then some (eqvD (.bl a) (.bl b)) else none) = _
  rw [if_pos (by rfl)]; rfl
end Ev
namespace Ev
open PySem L2
theorem sq_nn (a : Int) : 0 ≤ a * a := by
  rcases Int.le_total 0 a with h | h
  · exact Int.mul_nonneg h h
  · have := Int.mul_nonneg (show 0 ≤ -a by omega) (show 0 ≤ -a by omega)
    rw [Int.neg_mul_neg] at this; exact this
theorem sq_pos {a : Int} (h : a ≠ 0) : 0 < a * a := by
  have := sq_nn a
  have h2 : a * a ≠ 0 := Int.mul_ne_zero h h
  omega
/-! ### halves -/
theorem ev_half (ct : Ct) (n : Nat) (a b c : Int) (k : Nat) (hd : ∀ x y, B 8000 y → ct 0 [.int x, .int y] = some (.sh, .int (Int.gcd x y : Nat))) (ha : B k a) (hb : B k b) (hc : B k c) (hk : k ≤ 8000) (h0 : ¬ (a = 0 ∧ b = 0)) :
    ∃ g x y z, Gd k a b c g x y z ∧ runFn f_half ct n [.int a, .int b, .int c] = some (.sh, .tup [.int x, .int y, .int z]) := by
  obtain ⟨g, x, y, z, G⟩ := gd_of k a b c ha hb hc h0
  have d1 := hd a b (hb.mono hk)
  have d2 := hd (Int.gcd a b : Nat) c (hc.mono hk)
  rw [G.e] at d2
  have o := G.bg.div (by have := G.pos; omega) (by omega)
  have ht : evE ct [.sh (.int a), .sh (.int b), .sh (.int c), .no] (.ands (.cons (.cmp .eq (.var 0) (.int 0)) (.cons (.cmp .eq (.var 1) (.int 0)) .nil))) = some (.sh, .bl false) := by
    by_cases z1 : a = 0
    · have z2 : ¬ b = 0 := fun z => h0 ⟨z1, z⟩
      simp [z1, z2]
    · simp [z1]
  refine ⟨g, x, y, z, G, runR rfl ?_⟩
  refine stepS (g' := [.sh (.int a), .sh (.int b), .sh (.int c), .no]) ?_ ?_
  · show evS ct n (.ife _ _ _) [.sh (.int a), .sh (.int b), .sh (.int c), .no] = _
    rw [evS_ife, ht]; simp
  · simp [d1, d2, o, G.da, G.db, G.dc]
theorem ev_half_x (ct : Ct) (n : Nat) (c : Int) {v : M × D} (hx : ct flagX [] = some v) : runFn f_half ct n [.int 0, .int 0, .int c] = some (.ex, .exc 2) := by
  refine runX (g' := [.sh (.int 0), .sh (.int 0), .sh (.int c), .no]) rfl (stepX (g' := [.sh (.int 0), .sh (.int 0), .sh (.int c), .no]) ?_)
  simp [startE, f_half, hx]
end Ev
namespace Ev
open PySem L2
/-! ### four points parted -/
theorem rngL4 : rngL 0 4 = [.int 0, .int 1, .int 2, .int 3] := rfl
theorem rngL3 : rngL 0 3 = [.int 0, .int 1, .int 2] := rfl
theorem rngL2 : rngL 0 2 = [.int 0, .int 1] := rfl
theorem rngL1 : rngL 0 1 = [.int 0] := rfl
theorem rngL0 : rngL 0 0 = [] := rfl
theorem ev_turned (ct : Ct) (n : Nat) (p q r : Pt) (k : Nat) (hp : BP k p) (hq : BP k q) (hr : BP k r) (hk : k ≤ 60000000) :
    runFn f_turned ct n [pD p, pD q, pD r] = some (.sh, .int ((q.1 - p.1) * (r.2 - p.2) - (q.2 - p.2) * (r.1 - p.1))) := by
  obtain ⟨a, b⟩ := p
  obtain ⟨c, d⟩ := q
  obtain ⟨e, f⟩ := r
  obtain ⟨ha, hb⟩ := hp
  obtain ⟨hc, hd⟩ := hq
  obtain ⟨he, hf⟩ := hr
  simp only at ha hb hc hd he hf
  have b1 := hc.sub ha (m := k + 1) (by omega) (by omega)
  have b2 := hf.sub hb (m := k + 1) (by omega) (by omega)
  have b3 := hd.sub hb (m := k + 1) (by omega) (by omega)
  have b4 := he.sub ha (m := k + 1) (by omega) (by omega)
  have o1 := B.ok b1 b2 (by omega)
  have o2 := B.ok b3 b4 (by omega)
  refine runR rfl ?_
  simp [f_turned, startE, pD, o1, o2]
/-- what balance answers -/
structure Bal (k : Nat) (p0 p1 p2 p3 : Pt) (a b c d : Int) : Prop where
  ba : B k a
  bb : B k b
  bc : B k c
  bd : B k d
  sum : a + b + c + d = 0
  x : a * p0.1 + b * p1.1 + c * p2.1 + d * p3.1 = 0
  y : a * p0.2 + b * p1.2 + c * p2.2 + d * p3.2 = 0
  nz : ¬ (a = 0 ∧ b = 0 ∧ c = 0 ∧ d = 0)
theorem ev_on_a_line (ct : Ct) (n : Nat) (p0 p1 p2 p3 : Pt) :
    runFn f_on_a_line ct n [.lst [pD p0, pD p1, pD p2, pD p3]] = some (.fr, if p0.1 = p1.1 then .lst [.int (p1.2 - p2.2), .int (p2.2 - p0.2), .int (p0.2 - p1.2), .int 0] else .lst [.int (p1.1 - p2.1), .int (p2.1 - p0.1), .int (p0.1 - p1.1), .int 0]) := by
  have hcut : cutD [pD p0, pD p1, pD p2, pD p3] none (some 3) = [p0, p1, p2].map pD := by
    rw [show (3 : Int) = ((3 : Nat) : Int) from rfl, cutD_none_pos]; rfl
  by_cases h : p0.1 = p1.1
  · have hc : evE ct [.sh (.lst [pD p0, pD p1, pD p2, pD p3]), .sh (.int 1), .no, .no, .no, .no] f_on_a_line_C0 = some (.fr, .lst ([p0, p1, p2].map fun p => .int p.2)) := by
      refine evE_comp_of (m := .sh) (ds := [p0, p1, p2].map pD) (by simp [itM, hcut]) rfl (compF_map pD _ [p0, p1, p2] (fun t _ => ?_) (by simp))
      exact ⟨[.sh (.lst [pD p0, pD p1, pD p2, pD p3]), .sh (.int 1), .no, .no, .no, .sh (pD t)], by simp [tgSlots, wipeE], by simp, (.sh, .int t.2), by simp [pD], rfl⟩
    refine runR rfl ?_
    refine stepS (g' := [.sh (.lst [pD p0, pD p1, pD p2, pD p3]), .sh (.int 0), .no, .no, .no, .no]) (by simp [startE, f_on_a_line]) ?_
    refine stepS (g' := [.sh (.lst [pD p0, pD p1, pD p2, pD p3]), .sh (.int 1), .no, .no, .no, .no]) (by simp [pD, h]) ?_
    refine stepS (g' := [.sh (.lst [pD p0, pD p1, pD p2, pD p3]), .sh (.int 1), .sh (.int p0.2), .sh (.int p1.2), .sh (.int p2.2), .no]) (by rw [evS_unp, hc]; simp) ?_
    simp [h]
  · have hc : evE ct [.sh (.lst [pD p0, pD p1, pD p2, pD p3]), .sh (.int 0), .no, .no, .no, .no] f_on_a_line_C0 = some (.fr, .lst ([p0, p1, p2].map fun p => .int p.1)) := by
      refine evE_comp_of (m := .sh) (ds := [p0, p1, p2].map pD) (by simp [itM, hcut]) rfl (compF_map pD _ [p0, p1, p2] (fun t _ => ?_) (by simp))
      exact ⟨[.sh (.lst [pD p0, pD p1, pD p2, pD p3]), .sh (.int 0), .no, .no, .no, .sh (pD t)], by simp [tgSlots, wipeE], by simp, (.sh, .int t.1), by simp [pD], rfl⟩
    refine runR rfl ?_
    refine stepS (g' := [.sh (.lst [pD p0, pD p1, pD p2, pD p3]), .sh (.int 0), .no, .no, .no, .no]) (by simp [startE, f_on_a_line]) ?_
    refine stepS (g' := [.sh (.lst [pD p0, pD p1, pD p2, pD p3]), .sh (.int 0), .no, .no, .no, .no]) (by simp [pD, h]) ?_
    refine stepS (g' := [.sh (.lst [pD p0, pD p1, pD p2, pD p3]), .sh (.int 0), .sh (.int p0.1), .sh (.int p1.1), .sh (.int p2.1), .no]) (by rw [evS_unp, hc]; simp) ?_
    simp [h]
theorem eq_pD (p q : Pt) : cmpD .eq (pD p) (pD q) = some (decide (p = q)) := by
  obtain ⟨a, b⟩ := p
  obtain ⟨c, d⟩ := q
  simp [pD]
/-- the search for two alike ones -/
theorem pair_turn (ct : Ct) (n : Nat) (p0 p1 p2 p3 : Pt) (j k : Nat) (hj : j < 4) (hk : k < 4) (s3 s4 s5 s6 : Sl) (p q : Pt) (h1 : [p0, p1, p2, p3][j]? = some p) (h2 : [p0, p1, p2, p3][k]? = some q) :
    evSs ct n f_balance_B0 [.sh (.lst [pD p0, pD p1, pD p2, pD p3]), .sh (.int k), .sh (.int j), s3, s4, s5, s6] = if p = q then some (.rt .fr (.lst ((([0, 0, 0, 0].map D.int).set j (.int 1)).set k (.int (-1))))) else some (.nx [.sh (.lst [pD p0, pD p1, pD p2, pD p3]), .sh (.int k), .sh (.int j), s3, s4, s5, s6]) := by
  have a1 : atI [pD p0, pD p1, pD p2, pD p3] (j : Int) = some (pD p) := by
    rw [atI_at rfl, show [pD p0, pD p1, pD p2, pD p3] = [p0, p1, p2, p3].map pD from rfl, List.getElem?_map, h1]; rfl
  have a2 : atI [pD p0, pD p1, pD p2, pD p3] (k : Int) = some (pD q) := by
    rw [atI_at rfl, show [pD p0, pD p1, pD p2, pD p3] = [p0, p1, p2, p3].map pD from rfl, List.getElem?_map, h2]; rfl
  have i1 : ixN 4 (j : Int) = some j := by unfold ixN; rw [if_pos (by omega), if_pos (by omega)]; simp
  have i2 : ixN 4 (k : Int) = some k := by unfold ixN; rw [if_pos (by omega), if_pos (by omega)]; simp
  by_cases h : p = q
  · rw [if_pos h]
    simp [f_balance_B0, a1, a2, eq_pD, h, i1, i2]
  · rw [if_neg h]
    simp [f_balance_B0, a1, a2, eq_pD, h]
def twoD (j k : Nat) : D := .lst ((([0, 0, 0, 0].map D.int).set j (.int 1)).set k (.int (-1)))
theorem pair_inner (ct : Ct) (n : Nat) (p0 p1 p2 p3 : Pt) (k : Nat) (hk : k < 4) (s3 s4 s5 s6 : Sl) (q : Pt) (h2 : [p0, p1, p2, p3][k]? = some q) : ∀ (m lo : Nat) (s2 : Sl), lo + m = k →
    (∃ j, j < k ∧ [p0, p1, p2, p3][j]? = some q ∧ forF (asg (.one 2)) (fun g => evSs ct n f_balance_B0 g) (rngL lo m) [.sh (.lst [pD p0, pD p1, pD p2, pD p3]), .sh (.int k), s2, s3, s4, s5, s6] = some (.rt .fr (twoD j k))) ∨
    ((∀ j, lo ≤ j → j < k → [p0, p1, p2, p3][j]? ≠ some q) ∧ ∃ s2', forF (asg (.one 2)) (fun g => evSs ct n f_balance_B0 g) (rngL lo m) [.sh (.lst [pD p0, pD p1, pD p2, pD p3]), .sh (.int k), s2, s3, s4, s5, s6] = some (.nx [.sh (.lst [pD p0, pD p1, pD p2, pD p3]), .sh (.int k), s2', s3, s4, s5, s6]))
  | 0, lo, s2, h => .inr ⟨fun j h1 h2 => by omega, s2, rfl⟩
  | m + 1, lo, s2, h => by
    obtain ⟨p, hp⟩ : ∃ p, [p0, p1, p2, p3][lo]? = some p := ⟨_, List.getElem?_eq_getElem (by simp; omega)⟩
    have t := pair_turn ct n p0 p1 p2 p3 lo k (by omega) hk s3 s4 s5 s6 p q hp h2
    have a1 : asg (.one 2) (.int (lo : Int)) [.sh (.lst [pD p0, pD p1, pD p2, pD p3]), .sh (.int k), s2, s3, s4, s5, s6] = some [.sh (.lst [pD p0, pD p1, pD p2, pD p3]), .sh (.int k), .sh (.int lo), s3, s4, s5, s6] := by simp
    by_cases e : p = q
    · rw [if_pos e] at t
      refine .inl ⟨lo, by omega, by rw [hp, e], ?_⟩
      rw [rngL_succ, forF_rt a1 t]; rfl
    · rw [if_neg e] at t
      rcases pair_inner ct n p0 p1 p2 p3 k hk s3 s4 s5 s6 q h2 m (lo + 1) (.sh (.int lo)) (by omega) with ⟨j, h3, h4, h5⟩ | ⟨h3, s2', h5⟩
      · refine .inl ⟨j, h3, h4, ?_⟩
        rw [rngL_succ, forF_nx a1 t]; exact h5
      · refine .inr ⟨fun j h6 h7 => ?_, s2', ?_⟩
        · by_cases ej : j = lo
          · subst ej; rw [hp]; exact fun z => e (Option.some.inj z)
          · exact h3 j (by omega) h7
        · rw [rngL_succ, forF_nx a1 t]; exact h5
theorem pair_outer (ct : Ct) (n : Nat) (p0 p1 p2 p3 : Pt) (s3 s4 s5 s6 : Sl) : ∀ (m lo : Nat) (s1 s2 : Sl), lo + m = 4 →
    (∃ j k q, j < k ∧ k < 4 ∧ [p0, p1, p2, p3][j]? = some q ∧ [p0, p1, p2, p3][k]? = some q ∧ forF (asg (.one 1)) (fun g => evSs ct n f_balance_B1 g) (rngL lo m) [.sh (.lst [pD p0, pD p1, pD p2, pD p3]), s1, s2, s3, s4, s5, s6] = some (.rt .fr (twoD j k))) ∨
    ((∀ j k q, lo ≤ k → j < k → k < 4 → [p0, p1, p2, p3][k]? = some q → [p0, p1, p2, p3][j]? ≠ some q) ∧ ∃ s1' s2', forF (asg (.one 1)) (fun g => evSs ct n f_balance_B1 g) (rngL lo m) [.sh (.lst [pD p0, pD p1, pD p2, pD p3]), s1, s2, s3, s4, s5, s6] = some (.nx [.sh (.lst [pD p0, pD p1, pD p2, pD p3]), s1', s2', s3, s4, s5, s6]))
  | 0, lo, s1, s2, h => .inr ⟨fun j k q h1 h2 h3 => by omega, s1, s2, rfl⟩
  | m + 1, lo, s1, s2, h => by
    obtain ⟨q, hq⟩ : ∃ q, [p0, p1, p2, p3][lo]? = some q := ⟨_, List.getElem?_eq_getElem (by simp; omega)⟩
    have a1 : asg (.one 1) (.int (lo : Int)) [.sh (.lst [pD p0, pD p1, pD p2, pD p3]), s1, s2, s3, s4, s5, s6] = some [.sh (.lst [pD p0, pD p1, pD p2, pD p3]), .sh (.int lo), s2, s3, s4, s5, s6] := by simp
    have ei : evI ct [.sh (.lst [pD p0, pD p1, pD p2, pD p3]), .sh (.int lo), s2, s3, s4, s5, s6] (.rng (.var 1)) = some (.sh, rngL 0 lo) := by
      have : rngOk (lo : Int) = true := rngOk_small _ (by omega)
      simp [this]
    have body : ∀ o, forF (asg (.one 2)) (fun g => evSs ct n f_balance_B0 g) (rngL 0 lo) [.sh (.lst [pD p0, pD p1, pD p2, pD p3]), .sh (.int lo), s2, s3, s4, s5, s6] = some o → evSs ct n f_balance_B1 [.sh (.lst [pD p0, pD p1, pD p2, pD p3]), .sh (.int lo), s2, s3, s4, s5, s6] = some o := fun o ho => by
      have : evS ct n f_balance_L0 [.sh (.lst [pD p0, pD p1, pD p2, pD p3]), .sh (.int lo), s2, s3, s4, s5, s6] = some o := by
        rw [f_balance_L0, evS_fr, ei, Option.bind_some, if_neg (fun z => by cases z)]; exact ho
      rw [f_balance_B1, evSs_cons, this]
      cases o <;> simp
    rcases pair_inner ct n p0 p1 p2 p3 lo (by omega) s3 s4 s5 s6 q hq lo 0 s2 (by omega) with ⟨j, h3, h4, h5⟩ | ⟨h3, s2', h5⟩
    · refine .inl ⟨j, lo, q, h3, by omega, h4, hq, ?_⟩
      rw [rngL_succ, forF_rt a1 (body _ h5)]
    · rcases pair_outer ct n p0 p1 p2 p3 s3 s4 s5 s6 m (lo + 1) (.sh (.int lo)) s2' (by omega) with ⟨j, k, q', h6, h7, h8, h9, h10⟩ | ⟨h6, s1', s2'', h7⟩
      · refine .inl ⟨j, k, q', h6, h7, h8, h9, ?_⟩
        rw [rngL_succ, forF_nx a1 (body _ h5)]; exact h10
      · refine .inr ⟨fun j k q' h8 h9 h10 h11 => ?_, s1', s2'', ?_⟩
        · by_cases ek : k = lo
          · subst ek
            rw [hq] at h11; cases h11
            exact h3 j (by omega) h9
          · exact h6 j k q' (by omega) h9 h10 h11
        · rw [rngL_succ, forF_nx a1 (body _ h5)]; exact h7
theorem cut_lo (p0 p1 p2 p3 : D) (k : Nat) : cutD [p0, p1, p2, p3] none (some (k : Int)) = [p0, p1, p2, p3].take k := cutD_none_pos _ _
theorem cut_hi (p0 p1 p2 p3 : D) (k : Nat) : cutD [p0, p1, p2, p3] (some (k : Int)) none = [p0, p1, p2, p3].drop k := cutD_pos_none _ _
def T3 (p q r : Pt) : Int := (q.1 - p.1) * (r.2 - p.2) - (q.2 - p.2) * (r.1 - p.1)
theorem T3_b {k : Nat} {p q r : Pt} (hp : BP k p) (hq : BP k q) (hr : BP k r) : B (2 * k + 3) (T3 p q r) := by
  have b1 := hq.1.sub hp.1 (m := k + 1) (by omega) (by omega)
  have b2 := hr.2.sub hp.2 (m := k + 1) (by omega) (by omega)
  have b3 := hq.2.sub hp.2 (m := k + 1) (by omega) (by omega)
  have b4 := hr.1.sub hp.1 (m := k + 1) (by omega) (by omega)
  exact (b1.mul b2).sub (b3.mul b4) (by omega) (by omega)
theorem four_loop (ct : Ct) (n : Nat) (p0 p1 p2 p3 : Pt) (k : Nat) (hk : k ≤ 1000000) (h0 : BP k p0) (h1 : BP k p1) (h2 : BP k p2) (h3 : BP k p3) (ht : ∀ p q r, BP k p → BP k q → BP k r → ct 124 [pD p, pD q, pD r] = some (.sh, .int (T3 p q r))) (s1 s2 : Sl) :
    ∃ g', evS ct n f_balance_L2 [.sh (.lst [pD p0, pD p1, pD p2, pD p3]), s1, s2, .ow [], .no, .no, .no] = some (.nx (.sh (.lst [pD p0, pD p1, pD p2, pD p3]) :: .sh (.int 3) :: s2 :: .ow [.int (T3 p1 p2 p3), .int (-(T3 p0 p2 p3)), .int (T3 p0 p1 p3), .int (-(T3 p0 p1 p2))] :: g')) ∧ g'.length = 3 := by
  have b1 : B 1 (1 : Int) := by unfold B; decide
  have b2 : B 1 (-1 : Int) := by unfold B; decide
  have m0 := B.ok (T3_b h1 h2 h3) b1 (by omega)
  have m1 := B.ok (T3_b h0 h2 h3) b2 (by omega)
  have m2 := B.ok (T3_b h0 h1 h3) b1 (by omega)
  have m3 := B.ok (T3_b h0 h1 h2) b2 (by omega)
  have c0 := ht p1 p2 p3 h1 h2 h3
  have c1 := ht p0 p2 p3 h0 h2 h3
  have c2 := ht p0 p1 p3 h0 h1 h3
  have c3 := ht p0 p1 p2 h0 h1 h2
  have x0 : cutD [pD p0, pD p1, pD p2, pD p3] none (some 0) = [] := cut_lo _ _ _ _ 0
  have x1 : cutD [pD p0, pD p1, pD p2, pD p3] none (some 1) = [pD p0] := cut_lo _ _ _ _ 1
  have x2 : cutD [pD p0, pD p1, pD p2, pD p3] none (some 2) = [pD p0, pD p1] := cut_lo _ _ _ _ 2
  have x3 : cutD [pD p0, pD p1, pD p2, pD p3] none (some 3) = [pD p0, pD p1, pD p2] := cut_lo _ _ _ _ 3
  have y1 : cutD [pD p0, pD p1, pD p2, pD p3] (some 1) none = [pD p1, pD p2, pD p3] := cut_hi _ _ _ _ 1
  have y2 : cutD [pD p0, pD p1, pD p2, pD p3] (some 2) none = [pD p2, pD p3] := cut_hi _ _ _ _ 2
  have y3 : cutD [pD p0, pD p1, pD p2, pD p3] (some 3) none = [pD p3] := cut_hi _ _ _ _ 3
  have y4 : cutD [pD p0, pD p1, pD p2, pD p3] (some 4) none = [] := cut_hi _ _ _ _ 4
  have ei : evI ct [.sh (.lst [pD p0, pD p1, pD p2, pD p3]), s1, s2, .ow [], .no, .no, .no] (.rng (.int 4)) = some (.sh, [.int 0, .int 1, .int 2, .int 3]) := by
    have : rngOk (4 : Int) = true := rngOk_small _ (by omega)
    simp [this, rngL4]
  refine ⟨[.sh (pD p0), .sh (pD p1), .sh (pD p2)], ?_, rfl⟩
  · rw [f_balance_L2, evS_fr, ei, Option.bind_some, if_neg (fun z => by cases z)]
    rw [forF_nx (g1 := [.sh (.lst [pD p0, pD p1, pD p2, pD p3]), .sh (.int 0), s2, .ow [], .no, .no, .no]) (g2 := [.sh (.lst [pD p0, pD p1, pD p2, pD p3]), .sh (.int 0), s2, .ow [.int (T3 p1 p2 p3)], .sh (pD p1), .sh (pD p2), .sh (pD p3)]) (by simp) (by simp [f_balance_B2, x0, y1, lenOk_small, c0, m0, fmod_of])]
    rw [forF_nx (g1 := [.sh (.lst [pD p0, pD p1, pD p2, pD p3]), .sh (.int 1), s2, .ow [.int (T3 p1 p2 p3)], .sh (pD p1), .sh (pD p2), .sh (pD p3)]) (g2 := [.sh (.lst [pD p0, pD p1, pD p2, pD p3]), .sh (.int 1), s2, .ow [.int (T3 p1 p2 p3), .int (-(T3 p0 p2 p3))], .sh (pD p0), .sh (pD p2), .sh (pD p3)]) (by simp) (by simp [f_balance_B2, x1, y2, lenOk_small, c1, m1, fmod_of])]
    rw [forF_nx (g1 := [.sh (.lst [pD p0, pD p1, pD p2, pD p3]), .sh (.int 2), s2, .ow [.int (T3 p1 p2 p3), .int (-(T3 p0 p2 p3))], .sh (pD p0), .sh (pD p2), .sh (pD p3)]) (g2 := [.sh (.lst [pD p0, pD p1, pD p2, pD p3]), .sh (.int 2), s2, .ow [.int (T3 p1 p2 p3), .int (-(T3 p0 p2 p3)), .int (T3 p0 p1 p3)], .sh (pD p0), .sh (pD p1), .sh (pD p3)]) (by simp) (by simp [f_balance_B2, x2, y3, lenOk_small, c2, m2, fmod_of])]
    rw [forF_nx (g1 := [.sh (.lst [pD p0, pD p1, pD p2, pD p3]), .sh (.int 3), s2, .ow [.int (T3 p1 p2 p3), .int (-(T3 p0 p2 p3)), .int (T3 p0 p1 p3)], .sh (pD p0), .sh (pD p1), .sh (pD p3)]) (g2 := [.sh (.lst [pD p0, pD p1, pD p2, pD p3]), .sh (.int 3), s2, .ow [.int (T3 p1 p2 p3), .int (-(T3 p0 p2 p3)), .int (T3 p0 p1 p3), .int (-(T3 p0 p1 p2))], .sh (pD p0), .sh (pD p1), .sh (pD p2)]) (by simp) (by simp [f_balance_B2, x3, y4, lenOk_small, c3, m3, fmod_of])]
    rfl
theorem eq_ints4 (a b c d : Int) : cmpD .eq (.lst [.int a, .int b, .int c, .int d]) (.lst [.int 0, .int 0, .int 0, .int 0]) = some (decide (a = 0 ∧ b = 0 ∧ c = 0 ∧ d = 0)) := by
  rw [cmpD_eqD _ _ rfl rfl rfl rfl]
  congr 1
  by_cases h : a = 0 ∧ b = 0 ∧ c = 0 ∧ d = 0
  · rw [decide_eq_true h]; exact deq_iff.mpr (by obtain ⟨rfl, rfl, rfl, rfl⟩ := h; rfl)
  · rw [decide_eq_false h]; exact deq_ne fun z => h (by simpa using z)
theorem ev_balance (ct : Ct) (n : Nat) (p0 p1 p2 p3 : Pt) (k : Nat) (hk : k ≤ 1000000) (h0 : BP k p0) (h1 : BP k p1) (h2 : BP k p2) (h3 : BP k p3) (ht : ∀ p q r, BP k p → BP k q → BP k r → ct 124 [pD p, pD q, pD r] = some (.sh, .int (T3 p q r)))
    (hl : ct 125 [.lst [pD p0, pD p1, pD p2, pD p3]] = some (.fr, if p0.1 = p1.1 then .lst [.int (p1.2 - p2.2), .int (p2.2 - p0.2), .int (p0.2 - p1.2), .int 0] else .lst [.int (p1.1 - p2.1), .int (p2.1 - p0.1), .int (p0.1 - p1.1), .int 0])) :
    ∃ a b c d, Bal (2 * k + 3) p0 p1 p2 p3 a b c d ∧ runFn f_balance ct n [.lst [pD p0, pD p1, pD p2, pD p3]] = some (.fr, .lst [.int a, .int b, .int c, .int d]) := by
  have b0 : B (2 * k + 3) 0 := (show B 1 0 by unfold B; decide).mono (by omega)
  have b1 : B (2 * k + 3) 1 := (show B 1 1 by unfold B; decide).mono (by omega)
  have e4 : evI ct [.sh (.lst [pD p0, pD p1, pD p2, pD p3]), .no, .no, .no, .no, .no, .no] (.rng (.int 4)) = some (.sh, rngL 0 4) := by
    have : rngOk (4 : Int) = true := rngOk_small _ (by omega)
    simp [this]
  rcases pair_outer ct n p0 p1 p2 p3 .no .no .no .no 4 0 .no .no (by omega) with ⟨j, kk, q, hj, hkk, hq1, hq2, e⟩ | ⟨hd, s1, s2, e⟩
  · have st : runFn f_balance ct n [.lst [pD p0, pD p1, pD p2, pD p3]] = some (.fr, twoD j kk) := by
      refine runR rfl (stepR ?_)
      show evS ct n f_balance_L1 [.sh (.lst [pD p0, pD p1, pD p2, pD p3]), .no, .no, .no, .no, .no, .no] = _
      rw [f_balance_L1, evS_fr, e4]
      exact e
    rw [st]
    have hh : (j = 0 ∧ kk = 1) ∨ (j = 0 ∧ kk = 2) ∨ (j = 0 ∧ kk = 3) ∨ (j = 1 ∧ kk = 2) ∨ (j = 1 ∧ kk = 3) ∨ (j = 2 ∧ kk = 3) := by omega
    rcases hh with ⟨rfl, rfl⟩ | ⟨rfl, rfl⟩ | ⟨rfl, rfl⟩ | ⟨rfl, rfl⟩ | ⟨rfl, rfl⟩ | ⟨rfl, rfl⟩ <;> simp at hq1 hq2 <;> subst hq1 <;> subst hq2
    · exact ⟨1, -1, 0, 0, ⟨b1, b1.neg, b0, b0, by omega, by omega, by omega, by omega⟩, rfl⟩
    · exact ⟨1, 0, -1, 0, ⟨b1, b0, b1.neg, b0, by omega, by omega, by omega, by omega⟩, rfl⟩
    · exact ⟨1, 0, 0, -1, ⟨b1, b0, b0, b1.neg, by omega, by omega, by omega, by omega⟩, rfl⟩
    · exact ⟨0, 1, -1, 0, ⟨b0, b1, b1.neg, b0, by omega, by omega, by omega, by omega⟩, rfl⟩
    · exact ⟨0, 1, 0, -1, ⟨b0, b1, b0, b1.neg, by omega, by omega, by omega, by omega⟩, rfl⟩
    · exact ⟨0, 0, 1, -1, ⟨b0, b0, b1, b1.neg, by omega, by omega, by omega, by omega⟩, rfl⟩
  · have ne01 : p0 ≠ p1 := fun z => hd 0 1 p1 (by omega) (by omega) (by omega) rfl (by rw [z]; rfl)
    obtain ⟨g', ef, gl⟩ := four_loop ct n p0 p1 p2 p3 k hk h0 h1 h2 h3 ht s1 s2
    obtain ⟨t0, et0⟩ : ∃ t, T3 p1 p2 p3 = t := ⟨_, rfl⟩
    obtain ⟨t1, et1⟩ : ∃ t, T3 p0 p2 p3 = t := ⟨_, rfl⟩
    obtain ⟨t2, et2⟩ : ∃ t, T3 p0 p1 p3 = t := ⟨_, rfl⟩
    obtain ⟨t3, et3⟩ : ∃ t, T3 p0 p1 p2 = t := ⟨_, rfl⟩
    have B0 := T3_b h1 h2 h3
    have B1 := T3_b h0 h2 h3
    have B2 := T3_b h0 h1 h3
    have B3 := T3_b h0 h1 h2
    rw [et0, et1, et2, et3] at ef
    rw [et0] at B0; rw [et1] at B1; rw [et2] at B2; rw [et3] at B3
    match g', gl with
    | [x, y, z], _ =>
    have run : ∀ r, evSs ct n (.cons (.ife (.cmp .eq (.var 3) (.lst (.cons (.int 0) (.cons (.int 0) (.cons (.int 0) (.cons (.int 0) .nil)))))) (.cons (.ret (.call 125 (.cons (.var 0) .nil))) .nil) .nil) (.cons (.retv 3) .nil)) [.sh (.lst [pD p0, pD p1, pD p2, pD p3]), .sh (.int 3), s2, .ow [.int t0, .int (-t1), .int t2, .int (-t3)], x, y, z] = some (.rt .fr r) →
        runFn f_balance ct n [.lst [pD p0, pD p1, pD p2, pD p3]] = some (.fr, r) := fun r hr => by
      refine runR rfl (stepS (g' := [.sh (.lst [pD p0, pD p1, pD p2, pD p3]), s1, s2, .no, .no, .no, .no]) ?_ (stepS (g' := [.sh (.lst [pD p0, pD p1, pD p2, pD p3]), s1, s2, .ow [], .no, .no, .no]) (by simp) (stepS ef hr)))
      show evS ct n f_balance_L1 [.sh (.lst [pD p0, pD p1, pD p2, pD p3]), .no, .no, .no, .no, .no, .no] = _
      rw [f_balance_L1, evS_fr, e4]
      exact e
    by_cases hz : t0 = 0 ∧ -t1 = 0 ∧ t2 = 0 ∧ -t3 = 0
    · have cx : ∀ {p q : Pt}, BP k p → BP k q → B (2 * k + 3) (p.1 - q.1) := fun a b => a.1.sub b.1 (by omega) (by omega)
      have cy : ∀ {p q : Pt}, BP k p → BP k q → B (2 * k + 3) (p.2 - q.2) := fun a b => a.2.sub b.2 (by omega) (by omega)
      have z3 : T3 p0 p1 p2 = 0 := by omega
      unfold T3 at z3
      by_cases hx : p0.1 = p1.1
      · rw [if_pos hx] at hl
        have hy : p0.2 ≠ p1.2 := fun w => ne01 (by obtain ⟨a, b⟩ := p0; obtain ⟨c, d⟩ := p1; simp only at hx w; rw [hx, w])
        refine ⟨p1.2 - p2.2, p2.2 - p0.2, p0.2 - p1.2, 0, ⟨cy h1 h2, cy h2 h0, cy h0 h1, b0, by omega, by grind, by grind, fun w => hy (by omega)⟩, run _ ?_⟩
        simp [eq_ints4, hz, hl]
      · rw [if_neg hx] at hl
        refine ⟨p1.1 - p2.1, p2.1 - p0.1, p0.1 - p1.1, 0, ⟨cx h1 h2, cx h2 h0, cx h0 h1, b0, by omega, by grind, by grind, fun w => hx (by omega)⟩, run _ ?_⟩
        simp [eq_ints4, hz, hl]
    · refine ⟨t0, -t1, t2, -t3, ⟨B0, B1.neg, B2, B3.neg, ?_, ?_, ?_, hz⟩, run _ ?_⟩
      · rw [← et0, ← et1, ← et2, ← et3]; unfold T3; grind
      · rw [← et0, ← et1, ← et2, ← et3]; unfold T3; grind
      · rw [← et0, ← et1, ← et2, ← et3]; unfold T3; grind
      · rw [evSs_cons, evS_ife, evE_cmp]
        have hz' := hz
        simp only [evE_var, List.getElem?_cons_succ, List.getElem?_cons_zero, slV_ow, Option.bind_some, evE_lst, evs_cons, evs_nil, evE_int, storable_sh, List.length_cons, List.length_nil]
        simp only [lenOk_small (show 0 + 1 + 1 + 1 + 1 ≤ 1000000 by omega), if_true, Option.bind_some, eq_ints4, decide_eq_false hz', asBl_bl]
        simp
/-! ### the fraction as a function -/
noncomputable def rat (t b : Int) : Pt := @dite _ (∃ pq : Pt, Fr t b pq.1 pq.2) (Classical.propDecidable _) (fun h => Classical.choose h) fun _ => (0, 1)
theorem rat_of {t b p q : Int} (h0 : b ≠ 0) (F : Fr t b p q) : rat t b = (p, q) := by
  have h : ∃ pq : Pt, Fr t b pq.1 pq.2 := ⟨(p, q), F⟩
  unfold rat
  rw [dif_pos h]
  have G := Classical.choose_spec h
  obtain ⟨e1, e2⟩ := G.unique h0 F
  exact Prod.ext e1 e2
def numL (a b c d : Int) (k : Nat) : Int := [a, b, c, d].getD k 0
def mx (i : Int) : Int := if 0 > i then 0 else i
def plc (num : Nat → Int) (s : Int) : List Nat := [0, 1, 2, 3].filter fun k => decide (0 < num k * s)
theorem asInts_map : ∀ ns : List Int, asInts (ns.map D.int) = some ns
  | [] => rfl
  | n :: ns => by simp only [List.map_cons, asInts, asInt_int, asInts_map ns]; rfl
theorem sum_ints (ns : List Int) : b1D .sum (.lst (ns.map D.int)) = some (.sh, .int ns.sum) := by
  simp only [b1D, asL_lst, asInts_map, Option.bind_eq_bind, Option.bind_some, Option.pure_def]
theorem at_num (a b c d : Int) (k : Nat) (hk : k < 4) : atI [D.int a, D.int b, D.int c, D.int d] (k : Int) = some (.int (numL a b c d k)) := by
  rw [atI_at rfl]
  have : k = 0 ∨ k = 1 ∨ k = 2 ∨ k = 3 := by omega
  rcases this with rfl | rfl | rfl | rfl <;> rfl
theorem numL_b {k : Nat} {a b c d : Int} (ba : B k a) (bb : B k b) (bc : B k c) (bd : B k d) (i : Nat) (hi : i < 4) : B k (numL a b c d i) := by
  have : i = 0 ∨ i = 1 ∨ i = 2 ∨ i = 3 := by omega
  rcases this with rfl | rfl | rfl | rfl <;> assumption
theorem mem4 {k : Nat} (h : k ∈ ([0, 1, 2, 3] : List Nat)) : k < 4 := by
  simp only [List.mem_cons, List.not_mem_nil, or_false] at h
  omega
theorem mx_b {k : Nat} {i : Int} (h : B k i) : B k (mx i) := by
  unfold mx
  split
  · unfold B at *; omega
  · exact h
theorem posSum (a b c d : Int) : ([a, b, c, d].filter fun x => decide (0 < x)).sum = mx a + mx b + mx c + mx d := by
  have f : ∀ x : Int, ∀ l : List Int, ((x :: l).filter fun x => decide (0 < x)).sum = mx x + (l.filter fun x => decide (0 < x)).sum := fun x l => by
    unfold mx
    by_cases h : 0 < x
    · rw [List.filter_cons_of_pos (by simpa using h), List.sum_cons, if_neg (by omega)]
    · rw [List.filter_cons_of_neg (by simpa using h)]
      by_cases h2 : 0 > x
      · rw [if_pos h2]; omega
      · rw [if_neg h2]; omega
  rw [f, f, f, f]
  simp; omega
theorem Bal.total {k : Nat} {p0 p1 p2 p3 : Pt} {a b c d : Int} (h : Bal k p0 p1 p2 p3 a b c d) : 0 < mx a + mx b + mx c + mx d := by
  have h1 := h.sum
  have h2 := h.nz
  unfold mx
  split <;> split <;> split <;> split <;> omega
/-- what parted answers -/
noncomputable def wts (num : Nat → Int) (T s : Int) : D := .lst ((plc num s).map fun k => pD (rat (num k * s) T))
def plD (num : Nat → Int) (s : Int) : D := .lst ((plc num s).map fun k => .int (k : Nat))
noncomputable def partedD (p0 p1 p2 p3 : Pt) (a b c d : Int) : D :=
  .tup [plD (numL a b c d) 1, plD (numL a b c d) (-1), wts (numL a b c d) (mx a + mx b + mx c + mx d) 1, wts (numL a b c d) (mx a + mx b + mx c + mx d) (-1),
    .tup [pD (rat (mx a * p0.1 + mx b * p1.1 + mx c * p2.1 + mx d * p3.1) (mx a + mx b + mx c + mx d)), pD (rat (mx a * p0.2 + mx b * p1.2 + mx c * p2.2 + mx d * p3.2) (mx a + mx b + mx c + mx d))]]
theorem part_turn {ct : Ct} (n : Nat) (P : D) (a b c d T : Int) (s : Int) (hs : s = 1 ∨ s = -1) (ba : B 400 a) (bb : B 400 b) (bc : B 400 c) (bd : B 400 d) (s3 s5 s6 s7 s8 s9 : Sl) (parts : List D) (hp : parts.length ≤ 10)
    (hr : ∀ t, B 1000 t → ct 7 [.int t, .int T] = some (.sh, pD (rat t T))) :
    ∃ r5 r6 r7, (∃ g1, asg (.one 5) (.int s) [.sh P, .sh (.lst [.int a, .int b, .int c, .int d]), .sh (.int T), s3, .ow parts, s5, s6, s7, s8, s9] = some g1 ∧ evSs ct n f_parted_B0 g1 = some (.nx [.sh P, .sh (.lst [.int a, .int b, .int c, .int d]), .sh (.int T), s3, .ow (parts ++ [.tup [plD (numL a b c d) s, wts (numL a b c d) T s]]), r5, r6, r7, s8, s9])) := by
  have bs : B 1 s := by rcases hs with rfl | rfl <;> (unfold B; decide)
  have c1 : evE ct [.sh P, .sh (.lst [.int a, .int b, .int c, .int d]), .sh (.int T), s3, .ow parts, .sh (.int s), s6, s7, s8, s9] f_parted_C1 = some (.fr, plD (numL a b c d) s) := by
    have ei : evI ct [.sh P, .sh (.lst [.int a, .int b, .int c, .int d]), .sh (.int T), s3, .ow parts, .sh (.int s), s6, s7, s8, s9] (.rng (.int 4)) = some (.sh, ([0, 1, 2, 3] : List Nat).map fun k => D.int (k : Nat)) := by
      have : rngOk (4 : Int) = true := rngOk_small _ (by omega)
      simp [this, rngL4]
    refine evE_comp_of ei rfl ?_
    have := compF_fm (fun k : Nat => D.int (k : Nat)) (fun k => decide (0 < numL a b c d k * s)) (fun k : Nat => D.int (k : Nat)) (a := asg (.one 7)) (c := fun g1 => evC ct g1 (.cons (.cmp .gt (.bin .mul (.idx (.var 1) (.var 7)) (.var 5)) (.int 0)) .nil)) (e := fun g1 => evE ct g1 (.var 7)) (g := [.sh P, .sh (.lst [.int a, .int b, .int c, .int d]), .sh (.int T), s3, .ow parts, .sh (.int s), s6, .no, s8, s9]) [0, 1, 2, 3] [] (fun k hk => by
      have hk := mem4 hk
      have o := B.ok (numL_b ba bb bc bd k hk) bs (by omega)
      exact ⟨[.sh P, .sh (.lst [.int a, .int b, .int c, .int d]), .sh (.int T), s3, .ow parts, .sh (.int s), s6, .sh (.int (k : Nat)), s8, s9], by simp, by simp [at_num a b c d k hk, o], fun _ => ⟨(.sh, .int (k : Nat)), by simp, rfl⟩⟩) (by simp)
    exact this
  have c2 : evE ct [.sh P, .sh (.lst [.int a, .int b, .int c, .int d]), .sh (.int T), s3, .ow parts, .sh (.int s), .sh (plD (numL a b c d) s), s7, s8, s9] f_parted_C2 = some (.fr, wts (numL a b c d) T s) := by
    refine evE_comp_of (m := .sh) (ds := (plc (numL a b c d) s).map fun k => D.int (k : Nat)) (by simp [itM, plD]) rfl (compF_map _ _ (plc (numL a b c d) s) (fun k hk => ?_) ?_)
    · have hk := mem4 (List.mem_filter.mp hk).1
      have bn := numL_b ba bb bc bd k hk
      have o := B.ok bn bs (by omega)
      have r := hr (numL a b c d k * s) ((bn.mul bs).mono (by omega))
      exact ⟨[.sh P, .sh (.lst [.int a, .int b, .int c, .int d]), .sh (.int T), s3, .ow parts, .sh (.int s), .sh (plD (numL a b c d) s), .sh (.int (k : Nat)), s8, s9], by simp [tgSlots, wipeE], by simp, (.sh, pD (rat (numL a b c d k * s) T)), by simp [at_num a b c d k hk, o, r], rfl⟩
    · have := List.length_filter_le (fun k => decide (0 < numL a b c d k * s)) [0, 1, 2, 3]
      simp [plc] at this ⊢; omega
  refine ⟨.sh (.int s), .sh (plD (numL a b c d) s), s7, [.sh P, .sh (.lst [.int a, .int b, .int c, .int d]), .sh (.int T), s3, .ow parts, .sh (.int s), s6, s7, s8, s9], by simp, ?_⟩
  refine stepS (g' := [.sh P, .sh (.lst [.int a, .int b, .int c, .int d]), .sh (.int T), s3, .ow parts, .sh (.int s), .sh (plD (numL a b c d) s), s7, s8, s9]) (by rw [evS_set, c1]; simp [plD]) ?_
  rw [evSs_cons, evS_app, evE_tup, evs_cons, evs_cons, c2]
  simp [lenOk_small (show parts.length ≤ 1000000 by omega), wts, plD]
def ptL (p0 p1 p2 p3 : Pt) (k : Nat) : Pt := [p0, p1, p2, p3].getD k (0, 0)
def crd (at_ : Nat) (p : Pt) : Int := if at_ = 0 then p.1 else p.2
theorem at_pt (p0 p1 p2 p3 : Pt) (k : Nat) (hk : k < 4) : atI [pD p0, pD p1, pD p2, pD p3] (k : Int) = some (pD (ptL p0 p1 p2 p3 k)) := by
  rw [atI_at rfl]
  have : k = 0 ∨ k = 1 ∨ k = 2 ∨ k = 3 := by omega
  rcases this with rfl | rfl | rfl | rfl <;> rfl
theorem at_crd (p : Pt) (i : Nat) (hi : i < 2) : atI [D.int p.1, D.int p.2] (i : Int) = some (.int (crd i p)) := by
  have : i = 0 ∨ i = 1 := by omega
  rcases this with rfl | rfl <;> rfl
theorem spot_turn {ct : Ct} (n : Nat) (p0 p1 p2 p3 : Pt) (a b c d T : Int) (i : Nat) (hi : i < 2) (ba : B 400 a) (bb : B 400 b) (bc : B 400 c) (bd : B 400 d) (h0 : BP 400 p0) (h1 : BP 400 p1) (h2 : BP 400 p2) (h3 : BP 400 p3) (s3 s4 s5 s6 s7 s9 : Sl) (spot : List D) (hp : spot.length ≤ 10)
    (hr : ∀ t, B 1000 t → ct 7 [.int t, .int T] = some (.sh, pD (rat t T))) :
    ∃ g1, asg (.one 9) (.int (i : Nat)) [.sh (.lst [pD p0, pD p1, pD p2, pD p3]), .sh (.lst [.int a, .int b, .int c, .int d]), .sh (.int T), s3, s4, s5, s6, s7, .ow spot, s9] = some g1 ∧ evSs ct n f_parted_B1 g1 = some (.nx [.sh (.lst [pD p0, pD p1, pD p2, pD p3]), .sh (.lst [.int a, .int b, .int c, .int d]), .sh (.int T), s3, s4, s5, s6, s7, .ow (spot ++ [pD (rat (mx a * crd i p0 + mx b * crd i p1 + mx c * crd i p2 + mx d * crd i p3) T)]), .sh (.int (i : Nat))]) := by
  have bcr : ∀ {p : Pt}, BP 400 p → B 400 (crd i p) := fun h => by unfold crd; split; exact h.1; exact h.2
  have c3 : evE ct [.sh (.lst [pD p0, pD p1, pD p2, pD p3]), .sh (.lst [.int a, .int b, .int c, .int d]), .sh (.int T), s3, s4, s5, s6, s7, .ow spot, .sh (.int (i : Nat))] f_parted_C3 = some (.fr, .lst ([mx a * crd i p0, mx b * crd i p1, mx c * crd i p2, mx d * crd i p3].map D.int)) := by
    have ei : evI ct [.sh (.lst [pD p0, pD p1, pD p2, pD p3]), .sh (.lst [.int a, .int b, .int c, .int d]), .sh (.int T), s3, s4, s5, s6, s7, .ow spot, .sh (.int (i : Nat))] (.rng (.int 4)) = some (.sh, ([0, 1, 2, 3] : List Nat).map fun k => D.int (k : Nat)) := by
      have : rngOk (4 : Int) = true := rngOk_small _ (by omega)
      simp [this, rngL4]
    refine evE_comp_of ei rfl ?_
    have := compF_map (fun k : Nat => D.int (k : Nat)) (fun k : Nat => D.int (mx (numL a b c d k) * crd i (ptL p0 p1 p2 p3 k))) (a := asg (.one 7)) (c := fun g1 => evC ct g1 .nil) (e := fun g1 => evE ct g1 (.bin .mul (.b2 .max (.idx (.var 1) (.var 7)) (.int 0)) (.idx (.idx (.var 0) (.var 7)) (.var 9)))) (g := [.sh (.lst [pD p0, pD p1, pD p2, pD p3]), .sh (.lst [.int a, .int b, .int c, .int d]), .sh (.int T), s3, s4, s5, s6, .no, .ow spot, .sh (.int (i : Nat))]) [0, 1, 2, 3] (fun k hk => by
      have hk := mem4 hk
      have bp : BP 400 (ptL p0 p1 p2 p3 k) := by
        have : k = 0 ∨ k = 1 ∨ k = 2 ∨ k = 3 := by omega
        rcases this with rfl | rfl | rfl | rfl <;> assumption
      have o := B.ok (mx_b (numL_b ba bb bc bd k hk)) (bcr bp) (by omega)
      unfold mx at o
      refine ⟨[.sh (.lst [pD p0, pD p1, pD p2, pD p3]), .sh (.lst [.int a, .int b, .int c, .int d]), .sh (.int T), s3, s4, s5, s6, .sh (.int (k : Nat)), .ow spot, .sh (.int (i : Nat))], by simp, by simp, (.sh, .int (mx (numL a b c d k) * crd i (ptL p0 p1 p2 p3 k))), ?_, rfl⟩
      unfold mx
      simp [at_num a b c d k hk, at_pt p0 p1 p2 p3 k hk]
      simp [pD, at_crd _ i hi, o]) (by simp)
    exact this
  have e : b1D .sum (.lst ([mx a * crd i p0, mx b * crd i p1, mx c * crd i p2, mx d * crd i p3].map D.int)) = some (.sh, .int (mx a * crd i p0 + mx b * crd i p1 + mx c * crd i p2 + mx d * crd i p3)) := by
    rw [sum_ints]
    congr 2
    simp; omega
  have bt : B 1000 (mx a * crd i p0 + mx b * crd i p1 + mx c * crd i p2 + mx d * crd i p3) :=
    (((((mx_b ba).mul (bcr h0)).add ((mx_b bb).mul (bcr h1)) (m := 801) (by omega) (by omega)).add ((mx_b bc).mul (bcr h2)) (m := 802) (by omega) (by omega)).add ((mx_b bd).mul (bcr h3)) (m := 803) (by omega) (by omega)).mono (by omega)
  have r := hr _ bt
  refine ⟨[.sh (.lst [pD p0, pD p1, pD p2, pD p3]), .sh (.lst [.int a, .int b, .int c, .int d]), .sh (.int T), s3, s4, s5, s6, s7, .ow spot, .sh (.int (i : Nat))], by simp, ?_⟩
  rw [f_parted_B1, evSs_cons, evS_app, evE_call, evs_cons, evs_cons, evE_b1, c3, Option.bind_some, e]
  simp [r, lenOk_small (show spot.length ≤ 1000000 by omega)]
theorem ev_parted {ct : Ct} (n : Nat) (p0 p1 p2 p3 : Pt) (a b c d : Int) (h0 : BP 150 p0) (h1 : BP 150 p1) (h2 : BP 150 p2) (h3 : BP 150 p3) (hb : Bal 303 p0 p1 p2 p3 a b c d) (e : ct 126 [.lst [pD p0, pD p1, pD p2, pD p3]] = some (.fr, .lst [.int a, .int b, .int c, .int d]))
    (hr : ∀ t T, B 1000 t → B 1000 T → T ≠ 0 → ct 7 [.int t, .int T] = some (.sh, pD (rat t T))) : runFn f_parted ct n [.lst [pD p0, pD p1, pD p2, pD p3]] = some (.sh, partedD p0 p1 p2 p3 a b c d) := by
  have ba := hb.ba.mono (l := 400) (by omega)
  have bb := hb.bb.mono (l := 400) (by omega)
  have bc := hb.bc.mono (l := 400) (by omega)
  have bd := hb.bd.mono (l := 400) (by omega)
  have up : ∀ {p}, BP 150 p → BP 400 p := fun h => ⟨h.1.mono (by omega), h.2.mono (by omega)⟩
  obtain ⟨T, hT⟩ : ∃ T, mx a + mx b + mx c + mx d = T := ⟨_, rfl⟩
  have T0 := hb.total
  rw [hT] at T0
  have bT : B 1000 T := by
    rw [← hT]
    exact ((((mx_b ba).add (mx_b bb) (m := 401) (by omega) (by omega)).add (mx_b bc) (m := 402) (by omega) (by omega)).add (mx_b bd) (m := 403) (by omega) (by omega)).mono (by omega)
  have hr' : ∀ t, B 1000 t → ct 7 [.int t, .int T] = some (.sh, pD (rat t T)) := fun t ht => hr t T ht bT (by omega)
  obtain ⟨P, hP⟩ : ∃ P, D.lst [pD p0, pD p1, pD p2, pD p3] = P := ⟨_, rfl⟩
  have c0 : evE ct [.sh P, .sh (.lst [.int a, .int b, .int c, .int d]), .no, .no, .no, .no, .no, .no, .no, .no] f_parted_C0 = some (.fr, .lst (([a, b, c, d].filter fun x => decide (0 < x)).map D.int)) := by
    refine evE_comp_of (m := .sh) (ds := [a, b, c, d].map D.int) (by simp [itM]) rfl ?_
    have := compF_fm D.int (fun x => decide (0 < x)) D.int (a := asg (.one 3)) (c := fun g1 => evC ct g1 (.cons (.cmp .gt (.var 3) (.int 0)) .nil)) (e := fun g1 => evE ct g1 (.var 3)) (g := [.sh P, .sh (.lst [.int a, .int b, .int c, .int d]), .no, .no, .no, .no, .no, .no, .no, .no]) [a, b, c, d] [] (fun x hx =>
      ⟨[.sh P, .sh (.lst [.int a, .int b, .int c, .int d]), .no, .sh (.int x), .no, .no, .no, .no, .no, .no], by simp, by simp, fun _ => ⟨(.sh, .int x), by simp, rfl⟩⟩) (by simp)
    exact this
  obtain ⟨r5, r6, r7, g1, eg1, es1⟩ := part_turn n P a b c d T 1 (.inl rfl) ba bb bc bd .no .no .no .no .no .no [] (by simp) hr'
  obtain ⟨q5, q6, q7, g2, eg2, es2⟩ := part_turn n P a b c d T (-1) (.inr rfl) ba bb bc bd .no r5 r6 r7 .no .no ([] ++ [.tup [plD (numL a b c d) 1, wts (numL a b c d) T 1]]) (by simp) hr'
  obtain ⟨S4, hS4⟩ : ∃ S, Sl.ow (([] ++ [D.tup [plD (numL a b c d) 1, wts (numL a b c d) T 1]]) ++ [.tup [plD (numL a b c d) (-1), wts (numL a b c d) T (-1)]]) = S := ⟨_, rfl⟩
  obtain ⟨g3, eg3, es3⟩ := spot_turn n p0 p1 p2 p3 a b c d T 0 (by omega) ba bb bc bd (up h0) (up h1) (up h2) (up h3) .no S4 q5 q6 q7 .no [] (by simp) hr'
  obtain ⟨g4, eg4, es4⟩ := spot_turn n p0 p1 p2 p3 a b c d T 1 (by omega) ba bb bc bd (up h0) (up h1) (up h2) (up h3) .no S4 q5 q6 q7 (.sh (.int (0 : Nat))) ([] ++ [pD (rat (mx a * crd 0 p0 + mx b * crd 0 p1 + mx c * crd 0 p2 + mx d * crd 0 p3) T)]) (by simp) hr'
  rw [hP] at e eg3 es3 eg4 es4 ⊢
  have hlen : b1D .len P = some (.sh, .int 4) := by rw [← hP]; rfl
  refine runR rfl ?_
  refine stepS (g' := [.sh P, .no, .no, .no, .no, .no, .no, .no, .no, .no]) ?_ ?_
  · show evS ct n (.ife _ _ _) [.sh P, .no, .no, .no, .no, .no, .no, .no, .no, .no] = _
    rw [evS_ife, evE_cmp, evE_b1]
    simp only [evE_var, List.getElem?_cons_zero, slV_sh, Option.bind_some, hlen]
    simp
  refine stepS (g' := [.sh P, .sh (.lst [.int a, .int b, .int c, .int d]), .no, .no, .no, .no, .no, .no, .no, .no]) (by simp [e]) ?_
  refine stepS (g' := [.sh P, .sh (.lst [.int a, .int b, .int c, .int d]), .sh (.int T), .no, .no, .no, .no, .no, .no, .no]) ?_ ?_
  · rw [evS_set, evE_b1, c0, Option.bind_some, sum_ints, posSum, hT]; simp
  refine stepS (g' := [.sh P, .sh (.lst [.int a, .int b, .int c, .int d]), .sh (.int T), .no, .ow [], .no, .no, .no, .no, .no]) (by simp) ?_
  refine stepS (g' := [.sh P, .sh (.lst [.int a, .int b, .int c, .int d]), .sh (.int T), .no, S4, q5, q6, q7, .no, .no]) ?_ ?_
  · rw [f_parted_L0, evS_fr]
    have ei : evI ct [.sh P, .sh (.lst [.int a, .int b, .int c, .int d]), .sh (.int T), .no, .ow [], .no, .no, .no, .no, .no] (.ex (.lst (.cons (.int 1) (.cons (.neg (.int 1)) .nil)))) = some (.sh, [.int 1, .int (-1)]) := by simp [itM]
    rw [ei, Option.bind_some, if_neg (fun z => by cases z), forF_nx eg1 es1, forF_nx eg2 es2, hS4]; rfl
  refine stepS (g' := [.sh P, .sh (.lst [.int a, .int b, .int c, .int d]), .sh (.int T), .no, S4, q5, q6, q7, .ow [], .no]) (by simp) ?_
  refine stepS (g' := [.sh P, .sh (.lst [.int a, .int b, .int c, .int d]), .sh (.int T), .no, S4, q5, q6, q7, .ow (([] ++ [pD (rat (mx a * crd 0 p0 + mx b * crd 0 p1 + mx c * crd 0 p2 + mx d * crd 0 p3) T)]) ++ [pD (rat (mx a * crd 1 p0 + mx b * crd 1 p1 + mx c * crd 1 p2 + mx d * crd 1 p3) T)]), .sh (.int (1 : Nat))]) ?_ ?_
  · rw [f_parted_L1, evS_fr]
    have ei : evI ct [.sh P, .sh (.lst [.int a, .int b, .int c, .int d]), .sh (.int T), .no, S4, q5, q6, q7, .ow [], .no] (.rng (.int 2)) = some (.sh, [.int (0 : Nat), .int (1 : Nat)]) := by
      have : rngOk (2 : Int) = true := rngOk_small _ (by omega)
      simp [this, rngL2]
    rw [ei, Option.bind_some, if_neg (fun z => by cases z), forF_nx eg3 es3, forF_nx eg4 es4]; rfl
  · subst hS4
    unfold partedD
    rw [hT]
    simp [crd, plD, wts]
end Ev
/-! Gm: convex parts of the plane over the rationals. -/
namespace Gm
structure P where
  x : Rat
  y : Rat
theorem P.ext' {a b : P} (h1 : a.x = b.x) (h2 : a.y = b.y) : a = b := by cases a; cases b; simp_all
noncomputable instance : DecidableEq P := fun _ _ => Classical.propDecidable _
/-- an affine function -/
structure Hf where
  a : Rat
  b : Rat
  c : Rat
def Hf.ev (h : Hf) (p : P) : Rat := h.a * p.x + h.b * p.y - h.c
def cr (a b c : P) : Rat := (b.x - a.x) * (c.y - a.y) - (b.y - a.y) * (c.x - a.x)
def lex (a b : P) : Prop := a.x < b.x ∨ a.x = b.x ∧ a.y < b.y
theorem lex_irr (a : P) : ¬ lex a a := fun h => by unfold lex at h; grind
theorem lex_asym {a b : P} (h : lex a b) : ¬ lex b a := fun h => by unfold lex at *; grind
theorem lex_trans {a b c : P} (h : lex a b) (k : lex b c) : lex a c := by unfold lex at *; grind
theorem lex_tot (a b : P) : lex a b ∨ a = b ∨ lex b a := by
  unfold lex
  by_cases h : a.x < b.x
  · exact .inl (.inl h)
  by_cases h2 : b.x < a.x
  · exact .inr (.inr (.inl h2))
  have e : a.x = b.x := by grind
  by_cases h3 : a.y < b.y
  · exact .inl (.inr ⟨e, h3⟩)
  by_cases h4 : b.y < a.y
  · exact .inr (.inr (.inr ⟨e.symm, h4⟩))
  exact .inr (.inl (P.ext' e (by grind)))
theorem lex_ne {a b : P} (h : lex a b) : a ≠ b := fun e => by subst e; exact lex_irr a h
theorem cr_rot (a b c : P) : cr a b c = cr b c a := by unfold cr; grind
theorem cr_swap (a b c : P) : cr a b c = - cr b a c := by unfold cr; grind
theorem cr_swap2 (a b c : P) : cr a b c = - cr a c b := by unfold cr; grind
theorem cr_l (a b : P) : cr a b a = 0 := by unfold cr; grind
theorem cr_r (a b : P) : cr a b b = 0 := by unfold cr; grind
theorem cr_s (a b : P) : cr a a b = 0 := by unfold cr; grind
/-- at the left of the way from a to b -/
def crH (a b : P) : Hf := ⟨-(b.y - a.y), b.x - a.x, (b.x - a.x) * a.y - (b.y - a.y) * a.x⟩
theorem crH_ev (a b p : P) : (crH a b).ev p = cr a b p := by unfold crH Hf.ev cr; grind
theorem mul_pos_l {a b : Rat} (ha : 0 < a) : 0 < a * b ↔ 0 < b := Rat.mul_pos_iff_of_pos_left ha
theorem mul_nn_l {a b : Rat} (ha : 0 < a) (h : 0 ≤ a * b) : 0 ≤ b := by
  by_cases hb : 0 ≤ b
  · exact hb
  have h1 : 0 < -b := by grind
  have h2 := Rat.mul_pos ha h1
  grind
theorem mul_nn {a b : Rat} (ha : 0 ≤ a) (hb : 0 ≤ b) : 0 ≤ a * b := Rat.mul_nonneg ha hb
/-- what every half that holds all of L holds -/
def Cv (L : List P) (p : P) : Prop := ∀ h : Hf, (∀ q ∈ L, 0 ≤ h.ev q) → 0 ≤ h.ev p
theorem Cv.mem {L : List P} {p : P} (h : p ∈ L) : Cv L p := fun f k => k p h
theorem Cv.trans {L M : List P} {p : P} (h : ∀ q ∈ L, Cv M q) (k : Cv L p) : Cv M p := fun f z => k f fun q hq => h q hq f z
theorem Cv.mono {L M : List P} {p : P} (h : ∀ q ∈ L, q ∈ M) (k : Cv L p) : Cv M p := Cv.trans (fun q hq => .mem (h q hq)) k
theorem Cv_nil (p : P) : ¬ Cv [] p := fun h => by
  have := h ⟨0, 0, 1⟩ (fun q hq => by cases hq)
  unfold Hf.ev at this
  grind
/-- enough of f makes up for g -/
theorem big_of (f g : P → Rat) : ∀ L : List P, (∀ q ∈ L, 0 < f q) → ∃ K : Rat, 0 ≤ K ∧ ∀ q ∈ L, 0 ≤ g q + K * f q
  | [], _ => ⟨0, by grind, fun q h => by cases h⟩
  | a :: L, h => by
    obtain ⟨K, h1, h2⟩ := big_of f g L fun q hq => h q (by simp [hq])
    have ha := h a (by simp)
    by_cases z : 0 ≤ g a + K * f a
    · exact ⟨K, h1, fun q hq => by
        rcases List.mem_cons.mp hq with rfl | hq
        · exact z
        · exact h2 q hq⟩
    · -- more is needed
      have hi : 0 < (f a)⁻¹ := Rat.inv_pos.mpr ha
      have e : (f a)⁻¹ * f a = 1 := Rat.inv_mul_cancel _ (by grind)
      obtain ⟨m, hm⟩ : ∃ m, m = (-(g a + K * f a)) * (f a)⁻¹ := ⟨_, rfl⟩
      have hm0 : 0 ≤ m := hm ▸ mul_nn (by grind) (by grind)
      have hm1 : m * f a = -(g a + K * f a) := by rw [hm, Rat.mul_assoc, e, Rat.mul_one]
      refine ⟨K + m, by grind, fun q hq => ?_⟩
      rcases List.mem_cons.mp hq with rfl | hq
      · grind
      · have k1 := h2 q hq
        have k2 := mul_nn hm0 (show 0 ≤ f q by have := h q (by simp [hq]); grind)
        grind
theorem Hf.comb (f g : Hf) (K : Rat) (p : P) : (⟨f.a + K * g.a, f.b + K * g.b, f.c + K * g.c⟩ : Hf).ev p = f.ev p + K * g.ev p := by unfold Hf.ev; grind
/-- the part of a hull where f, nowhere below nought, is nought -/
theorem Cv.face {L A : List P} {p : P} {f : Hf} (h : Cv L p) (hf : ∀ q ∈ L, q ∈ A ∨ 0 < f.ev q) (hp : f.ev p = 0) (hA : ∀ q ∈ A, 0 ≤ f.ev q) : Cv A p := fun g hg => by
  obtain ⟨K, k1, k2⟩ := big_of f.ev g.ev (L.filter fun q => @decide (0 < f.ev q) (Classical.propDecidable _)) (fun q hq => by
    have := (List.mem_filter.mp hq).2
    exact @of_decide_eq_true _ (Classical.propDecidable _) this)
  have := h ⟨g.a + K * f.a, g.b + K * f.b, g.c + K * f.c⟩ (fun q hq => by
    rw [Hf.comb]
    by_cases z : 0 < f.ev q
    · exact k2 q (List.mem_filter.mpr ⟨hq, @decide_eq_true _ (Classical.propDecidable _) z⟩)
    · rcases hf q hq with y | y
      · have h1 := hg q y
        have h2 := hA q y
        have : f.ev q = 0 := by grind
        rw [this]; grind
      · exact absurd y z)
  rw [Hf.comb, hp] at this
  grind
theorem Cv_one {a p : P} (h : Cv [a] p) : p = a := by
  have h1 := h ⟨1, 0, a.x⟩ (by simp [Hf.ev]; grind)
  have h2 := h ⟨-1, 0, -a.x⟩ (by simp [Hf.ev]; grind)
  have h3 := h ⟨0, 1, a.y⟩ (by simp [Hf.ev]; grind)
  have h4 := h ⟨0, -1, -a.y⟩ (by simp [Hf.ev]; grind)
  unfold Hf.ev at *
  exact P.ext' (by grind) (by grind)

/-! ### strictly convex, in order -/
def Cvx (L : List P) : Prop := ∀ a b c, [a, b, c].Sublist L → 0 < cr a b c
theorem Cvx.sub {L M : List P} (h : Cvx L) (s : M.Sublist L) : Cvx M := fun a b c k => h a b c (k.trans s)
theorem Cvx.rot {l m : List P} (h : Cvx (l ++ m)) : Cvx (m ++ l) := fun a b c k => by
  obtain ⟨s, t, e, hs, ht⟩ := List.sublist_append_iff.mp k
  have := ht.append hs
  match s, e with
  | [], e => simp at e; subst e; exact h a b c (by simpa using this)
  | [_], e => simp at e; obtain ⟨rfl, rfl⟩ := e; rw [cr_rot]; exact h b c a (by simpa using this)
  | [_, _], e => simp at e; obtain ⟨rfl, rfl, rfl⟩ := e; rw [← cr_rot]; exact h c a b (by simpa using this)
  | [_, _, _], e => simp at e; obtain ⟨rfl, rfl, rfl, rfl⟩ := e; exact h a b c (by simpa using this)
  | _ :: _ :: _ :: _ :: _, e => simp at e
theorem Cvx.head {a : P} {l : List P} (h : Cvx (a :: l)) : l.Pairwise (fun b c => 0 < cr a b c) :=
  List.pairwise_iff_forall_sublist.mpr fun {b c} k => h a b c (k.cons_cons a)
theorem Cvx_cons {a : P} {l : List P} (h1 : l.Pairwise (fun b c => 0 < cr a b c)) (h2 : Cvx l) : Cvx (a :: l) := fun u v w k => by
  cases k with
  | cons _ k => exact h2 u v w k
  | cons_cons _ k => exact List.pairwise_iff_forall_sublist.mp h1 k
theorem Cvx_app {l m : List P} (h1 : Cvx l) (h2 : Cvx m) (h3 : ∀ a ∈ l, ∀ b c, [b, c].Sublist m → 0 < cr a b c) (h4 : ∀ c ∈ m, ∀ a b, [a, b].Sublist l → 0 < cr a b c) : Cvx (l ++ m) := fun a b c k => by
  obtain ⟨s, t, e, hs, ht⟩ := List.sublist_append_iff.mp k
  match s, e with
  | [], e => simp at e; subst e; exact h2 a b c ht
  | [_], e => simp at e; obtain ⟨rfl, rfl⟩ := e; exact h3 a (by simpa using hs) b c ht
  | [_, _], e => simp at e; obtain ⟨rfl, rfl, rfl⟩ := e; exact h4 c (by simpa using ht) a b hs
  | [_, _, _], e => simp at e; obtain ⟨rfl, rfl, rfl, rfl⟩ := e; exact h1 a b c hs
  | _ :: _ :: _ :: _ :: _, e => simp at e
/-- sides: each with the one ahead -/
def chainS : P → List P → List (P × P)
  | _, [] => []
  | a, b :: l => (a, b) :: chainS b l
def sides (L : List P) : List (P × P) := match L.getLast? with
  | none => []
  | some z => chainS z L
theorem chainS_split {s t : P} : ∀ {l : List P} {a : P}, (s, t) ∈ chainS a l → (s = a ∧ ∃ m, l = t :: m) ∨ ∃ l1 l2, l = l1 ++ s :: t :: l2
  | [], a, h => by cases h
  | b :: l, a, h => by
    rcases List.mem_cons.mp h with e | h
    · cases e; exact .inl ⟨rfl, l, rfl⟩
    · rcases chainS_split h with ⟨rfl, m, rfl⟩ | ⟨l1, l2, rfl⟩
      · exact .inr ⟨[], m, rfl⟩
      · exact .inr ⟨b :: l1, l2, rfl⟩
theorem sides_split {L : List P} {s t : P} (h : (s, t) ∈ sides L) : (∃ m, L = t :: m ∧ L.getLast? = some s) ∨ ∃ l1 l2, L = l1 ++ s :: t :: l2 := by
  unfold sides at h
  split at h
  · cases h
  · rename_i z hz
    rcases chainS_split h with ⟨rfl, m, rfl⟩ | k
    · exact .inl ⟨m, rfl, hz⟩
    · exact .inr k
theorem sides_mem {L : List P} {s t : P} (h : (s, t) ∈ sides L) : s ∈ L ∧ t ∈ L := by
  rcases sides_split h with ⟨m, rfl, e⟩ | ⟨l1, l2, rfl⟩
  · exact ⟨List.mem_of_getLast? e, by simp⟩
  · exact ⟨by simp, by simp⟩
theorem side_pos {L : List P} {s t q : P} (h : Cvx L) (hs : (s, t) ∈ sides L) (hq : q ∈ L) : q = s ∨ q = t ∨ 0 < cr s t q := by
  have two : ∀ m : List P, Cvx (s :: t :: m) → q ∈ s :: t :: m → q = s ∨ q = t ∨ 0 < cr s t q := fun m h hq => by
    rcases List.mem_cons.mp hq with e | hq
    · exact .inl e
    rcases List.mem_cons.mp hq with e | hq
    · exact .inr (.inl e)
    · exact .inr (.inr (h s t q (((List.singleton_sublist.mpr hq).cons_cons t).cons_cons s)))
  rcases sides_split hs with ⟨m, rfl, e⟩ | ⟨l1, l2, rfl⟩
  · rcases List.eq_nil_or_concat m with rfl | ⟨m', z, rfl⟩
    · simp at hq; exact .inr (.inl hq)
    · rw [List.concat_eq_append] at *
      have e : s = z := by
        rw [← List.cons_append, List.getLast?_concat] at e
        exact (Option.some.inj e).symm
      subst e
      have h' : Cvx ([s] ++ (t :: m')) := Cvx.rot (l := t :: m') (m := [s]) (by simpa using h)
      refine two m' (by simpa using h') ?_
      simp at hq ⊢
      rcases hq with e | e | e
      · exact .inr (.inl e)
      · exact .inr (.inr e)
      · exact .inl e
  · have h' : Cvx ((s :: t :: l2) ++ l1) := Cvx.rot h
    refine two (l2 ++ l1) (by simpa using h') ?_
    simp at hq ⊢
    rcases hq with e | e | e | e
    · exact .inr (.inr (.inr e))
    · exact .inl e
    · exact .inr (.inl e)
    · exact .inr (.inr (.inl e))
theorem side_nn {L : List P} {s t q : P} (h : Cvx L) (hs : (s, t) ∈ sides L) (hq : q ∈ L) : 0 ≤ cr s t q := by
  rcases side_pos h hs hq with rfl | rfl | k
  · rw [cr_l]; grind
  · rw [cr_r]; grind
  · grind
def InS (L : List P) (p : P) : Prop := ∀ s t, (s, t) ∈ sides L → 0 ≤ cr s t p
theorem Cv.inS {L : List P} {p : P} (h : Cvx L) (k : Cv L p) : InS L p := fun s t hs => by
  have := k (crH s t) fun q hq => by rw [crH_ev]; exact side_nn h hs hq
  rw [crH_ev] at this
  exact this
theorem tri_ev (f : Hf) (a s t p : P) : cr a s t * f.ev p = cr s t p * f.ev a + cr t a p * f.ev s + cr a s p * f.ev t := by unfold cr Hf.ev; grind
/-- the fan from a -/
theorem fan {a p : P} : ∀ (l : List P) (u : P), 0 ≤ cr a u p → (∀ s t, (s, t) ∈ chainS u l → 0 ≤ cr s t p) → (∀ z, (u :: l).getLast? = some z → cr a z p ≤ 0) → l ≠ [] → ∃ s t, [s, t].Sublist (u :: l) ∧ 0 ≤ cr a s p ∧ cr a t p ≤ 0 ∧ 0 ≤ cr s t p
  | [], _, _, _, _, h => absurd rfl h
  | w :: l, u, h1, h2, h3, _ => by
    by_cases hw : cr a w p ≤ 0
    · exact ⟨u, w, by simp, h1, hw, h2 u w (by simp [chainS])⟩
    · cases l with
      | nil => exact absurd (h3 w (by simp)) hw
      | cons v l =>
        obtain ⟨s, t, k1, k2⟩ := fan (a := a) (p := p) (v :: l) w (by grind) (fun s t h => h2 s t (by rw [chainS]; exact List.mem_cons_of_mem _ h)) (fun z hz => h3 z (by rw [List.getLast?_cons_cons]; exact hz)) (by simp)
        exact ⟨s, t, k1.cons u, k2⟩
theorem chainS_of_getLast {a b : P} {l : List P} {z : P} (h : (b :: l).getLast? = some z) : (a :: b :: l).getLast? = some z := by rw [List.getLast?_cons_cons]; exact h
theorem InS.cv {L : List P} {p : P} (h : Cvx L) (hl : 3 ≤ L.length) (k : InS L p) : Cv L p := fun f hf => by
  match L, hl with
  | a :: b :: c :: l, _ =>
    obtain ⟨z, hz⟩ : ∃ z, (b :: c :: l).getLast? = some z := ⟨_, List.getLast?_eq_some_getLast (by simp)⟩
    have hs : sides (a :: b :: c :: l) = (z, a) :: (a, b) :: chainS b (c :: l) := by
      unfold sides
      rw [List.getLast?_cons_cons, hz]; rfl
    obtain ⟨s, t, k1, k2, k3, k4⟩ := fan (a := a) (p := p) (c :: l) b (k a b (by rw [hs]; simp)) (fun s t hst => k s t (by rw [hs]; simp [hst])) (fun y hy => by
      rw [hz] at hy; cases hy
      have := k z a (by rw [hs]; simp)
      rw [cr_swap2, ← cr_rot] at this
      have e := cr_swap2 a z p
      have e2 := cr_rot a p z
      grind [cr]) (by simp)
    have hd := h a s t (k1.cons_cons a)
    have ea := hf a (by simp)
    have es := hf s (List.mem_cons_of_mem _ (k1.subset (by simp)))
    have et := hf t (List.mem_cons_of_mem _ (k1.subset (by simp)))
    have e := tri_ev f a s t p
    have e1 := mul_nn k4 ea
    have e2 := mul_nn (show 0 ≤ cr t a p by have : cr t a p = - cr a t p := cr_swap t a p; grind) es
    have e3 := mul_nn k2 et
    exact mul_nn_l hd (by rw [e]; grind)
end Gm
namespace Gm
/-! ### one list for each part -/
def Reg : List P → Prop
  | [] => True
  | a :: l => (∀ b ∈ l, lex a b) ∧ Cvx (a :: l)
theorem Reg.cvx {L : List P} (h : Reg L) : Cvx L := by
  cases L with
  | nil => exact fun a b c k => by cases k
  | cons a l => exact h.2
theorem cr_ne {a b c : P} (h : 0 < cr a b c) : a ≠ b ∧ b ≠ c ∧ a ≠ c := by
  refine ⟨fun e => ?_, fun e => ?_, fun e => ?_⟩
  · subst e; rw [cr_s] at h; grind
  · subst e; rw [cr_r] at h; grind
  · subst e; rw [cr_l] at h; grind
theorem Cvx.nodup {L : List P} (h : Cvx L) (hl : 3 ≤ L.length) : L.Nodup := by
  refine List.pairwise_iff_forall_sublist.mpr fun {a b} k => ?_
  -- a third one
  obtain ⟨l1, l2, e, s1, s2⟩ : ∃ l1 l2, L = l1 ++ l2 ∧ [a].Sublist l1 ∧ [b].Sublist l2 := by
    have := List.append_sublist_iff (l₁ := [a]) (l₂ := [b]) (r := L)
    obtain ⟨l1, l2, e, h1, h2⟩ := this.mp k
    exact ⟨l1, l2, e, h1, h2⟩
  subst e
  obtain ⟨u1, u2, rfl⟩ := List.append_of_mem (List.singleton_sublist.mp s1)
  obtain ⟨w1, w2, rfl⟩ := List.append_of_mem (List.singleton_sublist.mp s2)
  have get : ∀ c, (c ∈ u1 ∨ c ∈ u2 ∨ c ∈ w1 ∨ c ∈ w2) → a ≠ b := fun c hc => by
    rcases hc with hc | hc | hc | hc
    · have : [c, a, b].Sublist (u1 ++ a :: u2 ++ (w1 ++ b :: w2)) := by
        have h1 : ([c] ++ ([a] ++ [b])).Sublist (u1 ++ (a :: u2 ++ (w1 ++ b :: w2))) := (List.singleton_sublist.mpr hc).append ((List.singleton_sublist.mpr (by simp)).append (List.singleton_sublist.mpr (by simp)))
        simpa using h1
      exact (cr_ne (h _ _ _ this)).2.1
    · have : [a, c, b].Sublist (u1 ++ a :: u2 ++ (w1 ++ b :: w2)) := by
        have h1 : ([a] ++ ([c] ++ [b])).Sublist ((u1 ++ [a]) ++ (u2 ++ (w1 ++ b :: w2))) := (List.singleton_sublist.mpr (by simp)).append ((List.singleton_sublist.mpr hc).append (List.singleton_sublist.mpr (by simp)))
        simpa using h1
      exact (cr_ne (h _ _ _ this)).2.2
    · have : [a, c, b].Sublist (u1 ++ a :: u2 ++ (w1 ++ b :: w2)) := by
        have h1 : ([a] ++ ([c] ++ [b])).Sublist ((u1 ++ a :: u2) ++ (w1 ++ (b :: w2))) := (List.singleton_sublist.mpr (by simp)).append ((List.singleton_sublist.mpr hc).append (List.singleton_sublist.mpr (by simp)))
        simpa using h1
      exact (cr_ne (h _ _ _ this)).2.2
    · have : [a, b, c].Sublist (u1 ++ a :: u2 ++ (w1 ++ b :: w2)) := by
        have h1 : ([a] ++ ([b] ++ [c])).Sublist ((u1 ++ a :: u2) ++ ((w1 ++ [b]) ++ w2)) := (List.singleton_sublist.mpr (by simp)).append ((List.singleton_sublist.mpr (by simp)).append (List.singleton_sublist.mpr hc))
        simpa using h1
      exact (cr_ne (h _ _ _ this)).1
  match u1, u2, w1, w2, hl, get with
  | c :: _, _, _, _, _, get => exact get c (by simp)
  | [], c :: _, _, _, _, get => exact get c (by simp)
  | [], [], c :: _, _, _, get => exact get c (by simp)
  | [], [], [], c :: _, _, get => exact get c (by simp)
  | [], [], [], [], hl, _ => simp at hl
theorem Reg.nodup {L : List P} (h : Reg L) : L.Nodup := by
  match L, h with
  | [], _ => simp
  | [a], _ => simp
  | [a, b], h => simp; exact lex_ne (h.1 b (by simp))
  | a :: b :: c :: l, h => exact h.2.nodup (by simp)
def dotH (a b : P) : Hf := ⟨b.x - a.x, b.y - a.y, (b.x - a.x) * a.x + (b.y - a.y) * a.y⟩
theorem sq_pos {a : Rat} (h : a ≠ 0) : 0 < a * a := by
  by_cases k : 0 < a
  · exact Rat.mul_pos k k
  · have h1 : 0 < -a := by grind
    have := Rat.mul_pos h1 h1
    grind
theorem sq_nn (a : Rat) : 0 ≤ a * a := by
  by_cases h : a = 0
  · subst h; grind
  · have := sq_pos h; grind
theorem dot_pos {a b : P} (h : a ≠ b) : 0 < (b.x - a.x) * (b.x - a.x) + (b.y - a.y) * (b.y - a.y) := by
  have h1 := sq_nn (b.x - a.x)
  have h2 := sq_nn (b.y - a.y)
  by_cases k : a.x = b.x
  · have : a.y ≠ b.y := fun e => h (P.ext' k e)
    have := sq_pos (show b.y - a.y ≠ 0 by grind)
    grind
  · have := sq_pos (show b.x - a.x ≠ 0 by grind)
    grind
/-- a corner is shown by a half -/
theorem exposed {L : List P} (h : Cvx L) (hn : L.Nodup) {c : P} (hc : c ∈ L) : ∃ f : Hf, f.ev c = 0 ∧ ∀ q ∈ L, q ≠ c → 0 < f.ev q := by
  obtain ⟨l1, l2, rfl⟩ := List.append_of_mem hc
  have h' : Cvx (c :: (l2 ++ l1)) := by simpa using Cvx.rot (l := l1) (m := c :: l2) h
  have hm : ∀ q, q ∈ l1 ++ c :: l2 ↔ q ∈ c :: (l2 ++ l1) := fun q => by simp; grind
  have hn' : (c :: (l2 ++ l1)).Nodup := by
    refine (List.Perm.nodup_iff ?_).mp hn
    exact List.perm_append_comm
  simp only [hm]
  generalize l2 ++ l1 = l at *
  match l, hn' with
  | [], _ => exact ⟨⟨0, 0, 0⟩, by simp [Hf.ev]; grind, fun q hq ne => by simp at hq; exact absurd hq ne⟩
  | [b], hn' =>
    have ne : c ≠ b := by simpa using hn'
    refine ⟨dotH c b, by simp [Hf.ev, dotH]; grind, fun q hq nq => ?_⟩
    simp at hq
    rcases hq with e | rfl
    · exact absurd e nq
    · have := dot_pos ne
      simp [Hf.ev, dotH]; grind
  | b :: b2 :: l, _ =>
    obtain ⟨m, z, e⟩ : ∃ m z, b2 :: l = m ++ [z] := ⟨(b2 :: l).dropLast, (b2 :: l).getLast (by simp), (List.dropLast_concat_getLast (by simp)).symm⟩
    rw [e] at h' ⊢
    refine ⟨⟨(crH c b).a + (crH z c).a, (crH c b).b + (crH z c).b, (crH c b).c + (crH z c).c⟩, ?_, fun q hq nq => ?_⟩
    · have e1 := crH_ev c b c
      have e2 := crH_ev z c c
      rw [cr_l] at e1; rw [cr_r] at e2
      unfold Hf.ev at *; grind
    · have e1 := crH_ev c b q
      have e2 := crH_ev z c q
      have s : ∀ q ∈ m, 0 < cr c b q ∧ 0 < cr z c q := fun q hq => ⟨h' c b q (by
          have : ([q] : List P).Sublist (m ++ [z]) := List.singleton_sublist.mpr (by simp [hq])
          exact (this.cons_cons b).cons_cons c), by
        rw [cr_rot]
        refine h' c q z ?_
        have : ([q] ++ [z] : List P).Sublist (m ++ [z]) := (List.singleton_sublist.mpr hq).append (List.Sublist.refl _)
        exact (List.Sublist.cons b this).cons_cons c⟩
      have z1 : 0 < cr c b z := h' c b z (by
          have : ([z] : List P).Sublist (m ++ [z]) := List.singleton_sublist.mpr (by simp)
          exact (this.cons_cons b).cons_cons c)
      simp at hq
      have goal : 0 < cr c b q + cr z c q := by
        rcases hq with e | rfl | hq | rfl
        · exact absurd e nq
        · rw [cr_r, cr_rot]; grind
        · have := s q hq; grind
        · rw [cr_l]; grind
      rw [← e1, ← e2] at goal
      unfold Hf.ev at *; grind
theorem corner_in {L M : List P} (hL : Cvx L) (hn : L.Nodup) (h : ∀ p, Cv L p ↔ Cv M p) {c : P} (hc : c ∈ L) : c ∈ M := by
  obtain ⟨f, f0, f1⟩ := exposed hL hn hc
  have hM : ∀ q ∈ M, q = c ∨ 0 < f.ev q := fun q hq => by
    by_cases e : q = c
    · exact .inl e
    · refine .inr ?_
      have hq' : Cv L q := (h q).mpr (.mem hq)
      have h0 : 0 ≤ f.ev q := hq' f fun r hr => by
        by_cases e : r = c
        · rw [e, f0]; grind
        · have := f1 r hr e; grind
      by_cases z : f.ev q = 0
      · have := Cv.face (A := [c]) hq' (fun r hr => by
          by_cases e : r = c
          · exact .inl (by simp [e])
          · exact .inr (f1 r hr e)) z (by simp [f0])
        exact absurd (Cv_one this) e
      · grind
  apply Classical.byContradiction
  intro hc'
  have hc2 : Cv M c := (h c).mp (.mem hc)
  obtain ⟨K, k1, k2⟩ := big_of f.ev (fun _ => -1) M fun q hq => by
    rcases hM q hq with e | e
    · exact absurd (e ▸ hq) hc'
    · exact e
  have := hc2 ⟨0 + K * f.a, 0 + K * f.b, 1 + K * f.c⟩ (fun q hq => by
    have := k2 q hq
    unfold Hf.ev at *; grind)
  have e : (⟨0 + K * f.a, 0 + K * f.b, 1 + K * f.c⟩ : Hf).ev c = K * f.ev c - 1 := by unfold Hf.ev; grind
  rw [e, f0] at this
  grind
theorem pair_unique {R : P → P → Prop} (as : ∀ a b, R a b → ¬ R b a) : ∀ {l m : List P}, l.Nodup → m.Nodup → l.Pairwise R → m.Pairwise R → (∀ x, x ∈ l ↔ x ∈ m) → l = m := fun {l m} n1 n2 h1 h2 h => by
  refine List.Perm.eq_of_pairwise (le := R) (fun a b _ _ k1 k2 => absurd k2 (as a b k1)) h1 h2 ?_
  exact (List.perm_ext_iff_of_nodup n1 n2).mpr h
theorem Reg.uniq {L M : List P} (hL : Reg L) (hM : Reg M) (h : ∀ p, Cv L p ↔ Cv M p) : L = M := by
  have m1 : ∀ c, c ∈ L ↔ c ∈ M := fun c => ⟨corner_in hL.cvx hL.nodup h, corner_in hM.cvx hM.nodup fun p => (h p).symm⟩
  have n1 := hL.nodup
  have n2 := hM.nodup
  match L, M, hL, hM with
  | [], [], _, _ => rfl
  | [], a :: l, _, _ => exact absurd ((m1 a).mpr (by simp)) (by simp)
  | a :: l, [], _, _ => exact absurd ((m1 a).mp (by simp)) (by simp)
  | a :: l, b :: m, ⟨a1, a2⟩, ⟨b1, b2⟩ =>
    have e : a = b := by
      apply Classical.byContradiction
      intro ne
      have h1 : a ∈ m := by
        have := (m1 a).mp (by simp)
        rcases List.mem_cons.mp this with e | e
        · exact absurd e ne
        · exact e
      have h2 : b ∈ l := by
        have := (m1 b).mpr (by simp)
        rcases List.mem_cons.mp this with e | e
        · exact absurd e.symm ne
        · exact e
      exact lex_asym (a1 b h2) (b1 a h1)
    subst e
    rw [List.nodup_cons] at n1 n2
    refine congrArg (a :: ·) (pair_unique (R := fun b c => 0 < cr a b c) (fun b c k1 k2 => ?_) n1.2 n2.2 a2.head b2.head fun x => ?_)
    · have := cr_swap2 a b c
      grind
    · have := m1 x
      simp only [List.mem_cons] at this
      constructor
      · intro hx
        rcases this.mp (.inr hx) with rfl | k
        · exact absurd hx n1.1
        · exact k
      · intro hx
        rcases this.mpr (.inr hx) with rfl | k
        · exact absurd hx n2.1
        · exact k
end Gm
namespace Gm
/-! ### where a stretch meets a border -/
noncomputable def X (h : Hf) (p q : P) : P := ⟨(h.ev p * q.x - h.ev q * p.x) / (h.ev p - h.ev q), (h.ev p * q.y - h.ev q * p.y) / (h.ev p - h.ev q)⟩
theorem X_ev (h f : Hf) (p q : P) (d : h.ev p - h.ev q ≠ 0) : f.ev (X h p q) * (h.ev p - h.ev q) = h.ev p * f.ev q - h.ev q * f.ev p := by
  have e1 : (X h p q).x * (h.ev p - h.ev q) = h.ev p * q.x - h.ev q * p.x := by unfold X; exact Rat.div_mul_cancel d
  have e2 : (X h p q).y * (h.ev p - h.ev q) = h.ev p * q.y - h.ev q * p.y := by unfold X; exact Rat.div_mul_cancel d
  generalize X h p q = x at *
  generalize h.ev p = s at *
  generalize h.ev q = t at *
  unfold Hf.ev
  have : (f.a * x.x + f.b * x.y - f.c) * (s - t) = f.a * (x.x * (s - t)) + f.b * (x.y * (s - t)) - f.c * (s - t) := by grind
  rw [this, e1, e2]; grind
theorem mul_cancel_r {a b d : Rat} (hd : d ≠ 0) (h : a * d = b * d) : a = b := by
  have e := Rat.mul_inv_cancel d hd
  have : a * d * d⁻¹ = b * d * d⁻¹ := by rw [h]
  rw [Rat.mul_assoc, Rat.mul_assoc, e, Rat.mul_one, Rat.mul_one] at this
  exact this
theorem X_on (h : Hf) (p q : P) (d : h.ev p - h.ev q ≠ 0) : h.ev (X h p q) = 0 := by
  have := X_ev h h p q d
  have e : h.ev (X h p q) * (h.ev p - h.ev q) = 0 * (h.ev p - h.ev q) := by rw [this]; grind
  exact mul_cancel_r d e
theorem P.ext_ev {a b : P} (h : ∀ f : Hf, f.ev a = f.ev b) : a = b := by
  have h1 := h ⟨1, 0, 0⟩
  have h2 := h ⟨0, 1, 0⟩
  unfold Hf.ev at *
  exact P.ext' (by grind) (by grind)
theorem X_comm (h : Hf) (p q : P) (d : h.ev p - h.ev q ≠ 0) : X h p q = X h q p := by
  have d' : h.ev q - h.ev p ≠ 0 := by grind
  refine P.ext_ev fun f => ?_
  have e1 := X_ev h f p q d
  have e2 := X_ev h f q p d'
  refine mul_cancel_r d ?_
  grind
/-- positive weights -/
theorem X_mix (h f : Hf) {p q : P} (hp : 0 < h.ev p) (hq : h.ev q < 0) : f.ev (X h p q) * (h.ev p - h.ev q) = h.ev p * f.ev q + (- h.ev q) * f.ev p := by
  rw [X_ev h f p q (by grind)]; grind
theorem pos_of_mul {a d : Rat} (hd : 0 < d) (h : 0 < a * d) : 0 < a := (Rat.mul_pos_iff_of_pos_right hd).mp h
theorem nn_of_mul {a d : Rat} (hd : 0 < d) (h : 0 ≤ a * d) : 0 ≤ a := by
  have : 0 ≤ d * a := by rw [Rat.mul_comm]; exact h
  exact mul_nn_l hd this
theorem X_pos (h f : Hf) {p q : P} (hp : 0 < h.ev p) (hq : h.ev q < 0) (fp : 0 ≤ f.ev p) (fq : 0 ≤ f.ev q) (o : 0 < f.ev p ∨ 0 < f.ev q) : 0 < f.ev (X h p q) := by
  refine pos_of_mul (show 0 < h.ev p - h.ev q by grind) ?_
  rw [X_mix h f hp hq]
  have h1 := mul_nn (Rat.le_of_lt hp) fq
  have h2 := mul_nn (show 0 ≤ - h.ev q by grind) fp
  rcases o with o | o
  · have := Rat.mul_pos (show 0 < - h.ev q by grind) o
    grind
  · have := Rat.mul_pos hp o
    grind
theorem X_nn (h f : Hf) {p q : P} (hp : 0 < h.ev p) (hq : h.ev q < 0) (fp : 0 ≤ f.ev p) (fq : 0 ≤ f.ev q) : 0 ≤ f.ev (X h p q) := by
  refine nn_of_mul (show 0 < h.ev p - h.ev q by grind) ?_
  rw [X_mix h f hp hq]
  have h1 := mul_nn (Rat.le_of_lt hp) fq
  have h2 := mul_nn (show 0 ≤ - h.ev q by grind) fp
  grind
theorem cr_X (h : Hf) (u w : P) {p q : P} (hp : 0 < h.ev p) (hq : h.ev q < 0) (fp : 0 ≤ cr u w p) (fq : 0 ≤ cr u w q) (o : 0 < cr u w p ∨ 0 < cr u w q) : 0 < cr u w (X h p q) := by
  rw [← crH_ev] at *
  rw [← crH_ev] at *
  exact X_pos h (crH u w) hp hq fp fq (by simpa only [crH_ev] using o)
theorem Cv_X (h : Hf) {L : List P} {p q : P} (hp : 0 < h.ev p) (hq : h.ev q < 0) (mp : p ∈ L) (mq : q ∈ L) : Cv L (X h p q) := fun f hf => X_nn h f hp hq (hf p mp) (hf q mq)
/-- two and three on a border -/
theorem border (h : Hf) (r s t p : P) (hr : h.ev r = 0) (hs : h.ev s = 0) : cr r s p * h.ev t = cr r s t * h.ev p := by
  unfold cr Hf.ev at *
  have e : h.a * (s.x - r.x) + h.b * (s.y - r.y) = 0 := by grind
  have : (h.a * (s.x - r.x) + h.b * (s.y - r.y)) * ((p.y - r.y) * (t.x - r.x) - (t.y - r.y) * (p.x - r.x)) = 0 := by rw [e]; grind
  grind
/-- four in order -/
theorem four (h : Hf) (u d w z : P) : cr d w z * h.ev u + cr u d z * h.ev w = cr u w z * h.ev d + cr u d w * h.ev z := by unfold cr Hf.ev; grind
/-! ### the ring of a clipped part -/
noncomputable def ringF (h : Hf) : P → List P → List P
  | _, [] => []
  | a, b :: l => (if h.ev a * h.ev b < 0 then [X h a b] else []) ++ (if 0 ≤ h.ev b then [b] else []) ++ ringF h b l
noncomputable def ring (h : Hf) (L : List P) : List P := match L.getLast? with
  | none => []
  | some z => ringF h z L
def lastD (a : P) (l : List P) : P := (l.getLast?).getD a
theorem lastD_nil (a : P) : lastD a [] = a := rfl
theorem lastD_cons (a b : P) (l : List P) : lastD a (b :: l) = lastD b l := by
  unfold lastD
  cases l with
  | nil => rfl
  | cons c l =>
    rw [List.getLast?_cons_cons]
    cases e : (c :: l).getLast? with
    | none => simp at e
    | some z => rfl
theorem lastD_app (a : P) (l : List P) (z : P) : lastD a (l ++ [z]) = z := by unfold lastD; simp
theorem ringF_app (h : Hf) (m : List P) : ∀ (l : List P) (a : P), ringF h a (l ++ m) = ringF h a l ++ ringF h (lastD a l) m
  | [], a => rfl
  | b :: l, a => by rw [List.cons_append, ringF, ringF, ringF_app h m l b, lastD_cons]; simp
theorem chainS_app (m : List P) : ∀ (l : List P) (a : P), chainS a (l ++ m) = chainS a l ++ chainS (lastD a l) m
  | [], a => rfl
  | b :: l, a => by rw [List.cons_append, chainS, chainS, chainS_app m l b, lastD_cons]; rfl
theorem ring_cons (h : Hf) (a : P) (l : List P) : ring h (a :: l) = ringF h (lastD a l) (a :: l) := by
  unfold ring
  cases e : (a :: l).getLast? with
  | none => simp at e
  | some z =>
    have : lastD a l = z := by rw [← lastD_cons a a l]; unfold lastD; rw [e]; rfl
    rw [this]
theorem sides_cons (a : P) (l : List P) : sides (a :: l) = chainS (lastD a l) (a :: l) := by
  unfold sides
  cases e : (a :: l).getLast? with
  | none => simp at e
  | some z =>
    have : lastD a l = z := by rw [← lastD_cons a a l]; unfold lastD; rw [e]; rfl
    rw [this]
theorem lastD_append {a : P} {l m : List P} (hm : m ≠ []) : lastD a (l ++ m) = lastD a m := by
  unfold lastD
  rw [List.getLast?_append]
  cases e : m.getLast? with
  | none => simp at e; exact absurd e hm
  | some z => rfl
theorem lastD_def {a b : P} {l : List P} (hl : l ≠ []) : lastD a l = lastD b l := by
  unfold lastD
  cases e : l.getLast? with
  | none => simp at e; exact absurd e hl
  | some z => rfl
/-- turning the list turns the ring -/
theorem ring_rot (h : Hf) (l m : List P) : ∃ r s, ring h (l ++ m) = r ++ s ∧ ring h (m ++ l) = s ++ r := by
  match l, m with
  | [], m => exact ⟨[], ring h m, by simp, by simp⟩
  | l, [] => exact ⟨ring h l, [], by simp, by simp⟩
  | a :: l, b :: m =>
    refine ⟨ringF h (lastD a (b :: m)) (a :: l), ringF h (lastD b (a :: l)) (b :: m), ?_, ?_⟩
    · rw [List.cons_append, ring_cons, ← List.cons_append, ringF_app, lastD_append (by simp), lastD_cons, lastD_cons, lastD_cons]
    · rw [List.cons_append, ring_cons, ← List.cons_append, ringF_app, lastD_append (by simp), lastD_cons, lastD_cons, lastD_cons]
theorem sides_rot (l m : List P) : ∃ r s, sides (l ++ m) = r ++ s ∧ sides (m ++ l) = s ++ r := by
  match l, m with
  | [], m => exact ⟨[], sides m, by simp, by simp⟩
  | l, [] => exact ⟨sides l, [], by simp, by simp⟩
  | a :: l, b :: m =>
    refine ⟨chainS (lastD a (b :: m)) (a :: l), chainS (lastD b (a :: l)) (b :: m), ?_, ?_⟩
    · rw [List.cons_append, sides_cons, ← List.cons_append, chainS_app, lastD_append (by simp), lastD_cons, lastD_cons, lastD_cons]
    · rw [List.cons_append, sides_cons, ← List.cons_append, chainS_app, lastD_append (by simp), lastD_cons, lastD_cons, lastD_cons]
theorem sides_rot_mem (l m : List P) (x : P × P) : x ∈ sides (l ++ m) ↔ x ∈ sides (m ++ l) := by
  obtain ⟨r, s, e1, e2⟩ := sides_rot l m
  rw [e1, e2]; simp; grind
theorem ringF_nn (h : Hf) : ∀ (l : List P) (a : P), 0 ≤ h.ev a → (∀ q ∈ l, 0 ≤ h.ev q) → ringF h a l = l
  | [], _, _, _ => rfl
  | b :: l, a, ha, hl => by
    have hb := hl b (by simp)
    have := mul_nn ha hb
    rw [ringF, if_neg (by grind), if_pos hb, ringF_nn h l b hb fun q hq => hl q (by simp [hq])]; rfl
theorem mul_neg_neg {a b : Rat} (ha : a < 0) (hb : b < 0) : 0 < a * b := by
  have := Rat.mul_pos (show 0 < -a by grind) (show 0 < -b by grind)
  grind
theorem ringF_neg (h : Hf) : ∀ (l : List P) (a : P), h.ev a < 0 → (∀ q ∈ l, h.ev q < 0) → ringF h a l = []
  | [], _, _, _ => rfl
  | b :: l, a, ha, hl => by
    have hb := hl b (by simp)
    have := mul_neg_neg ha hb
    rw [ringF, if_neg (by grind), if_neg (by grind), ringF_neg h l b hb fun q hq => hl q (by simp [hq])]; rfl
theorem mul_lt0 {a b : Rat} (ha : 0 < a) (hb : b < 0) : a * b < 0 := by
  have := Rat.mul_pos ha (show 0 < -b by grind)
  grind
/-- the ring of a list that is first in the half, then beyond it -/
noncomputable def ringO (h : Hf) (z d : P) : List P := if 0 < h.ev z then [X h z d] else []
theorem ring_arc (h : Hf) (a d : P) (A D : List P) (ha : ∀ q ∈ a :: A, 0 ≤ h.ev q) (hd : ∀ q ∈ d :: D, h.ev q < 0) :
    ring h (a :: A ++ d :: D) = ringO h a (lastD d D) ++ a :: A ++ ringO h (lastD a A) d := by
  have ha0 := ha a (by simp)
  have he : h.ev (lastD d D) < 0 := by
    refine hd _ ?_
    rcases List.eq_nil_or_concat D with rfl | ⟨D', e, rfl⟩
    · simp [lastD_nil]
    · rw [List.concat_eq_append, lastD_app]; simp
  have hz : 0 ≤ h.ev (lastD a A) := by
    refine ha _ ?_
    rcases List.eq_nil_or_concat A with rfl | ⟨A', e, rfl⟩
    · simp [lastD_nil]
    · rw [List.concat_eq_append, lastD_app]; simp
  have hd0 := hd d (by simp)
  rw [List.cons_append, ring_cons, lastD_append (by simp), lastD_cons, ← List.cons_append, ringF_app, lastD_cons, ringF, ringF_nn h A a ha0 fun q hq => ha q (by simp [hq]), if_pos ha0, ringF, ringF_neg h D d hd0 fun q hq => hd q (by simp [hq]), if_neg (show ¬ 0 ≤ h.ev d by grind)]
  have e1 : (if h.ev (lastD d D) * h.ev a < 0 then [X h (lastD d D) a] else []) = ringO h a (lastD d D) := by
    unfold ringO
    by_cases k : 0 < h.ev a
    · have := mul_lt0 k he
      rw [if_pos (by grind), if_pos k, X_comm _ _ _ (by grind)]
    · have : h.ev a = 0 := by grind
      rw [if_neg (by rw [this]; grind), if_neg k]
  have e2 : (if h.ev (lastD a A) * h.ev d < 0 then [X h (lastD a A) d] else []) = ringO h (lastD a A) d := by
    unfold ringO
    by_cases k : 0 < h.ev (lastD a A)
    · have := mul_lt0 k hd0
      rw [if_pos this, if_pos k]
    · have : h.ev (lastD a A) = 0 := by grind
      rw [if_neg (by rw [this]; grind), if_neg k]
  rw [e1, e2]
  simp
end Gm
namespace Gm
/-! ### a part cut by a half: the list is first in it, then beyond -/
theorem lastD_mem {a : P} {l : List P} : lastD a l ∈ a :: l := by
  rcases List.eq_nil_or_concat l with rfl | ⟨l', z, rfl⟩
  · simp [lastD_nil]
  · rw [List.concat_eq_append, lastD_app]; simp
theorem fst_or {a u : P} {l : List P} (h : u ∈ a :: l) : u = a ∨ [a, u].Sublist (a :: l) := by
  rcases List.mem_cons.mp h with e | h
  · exact .inl e
  · exact .inr ((List.singleton_sublist.mpr h).cons_cons a)
theorem last_or {a u : P} {l : List P} (h : u ∈ a :: l) : u = lastD a l ∨ [u, lastD a l].Sublist (a :: l) := by
  rcases List.eq_nil_or_concat l with rfl | ⟨l', z, rfl⟩
  · simp [lastD_nil] at *; exact .inl h
  · rw [List.concat_eq_append, lastD_app] at *
    have h' : u ∈ (a :: l') ++ [z] := by simpa using h
    rcases List.mem_append.mp h' with k | k
    · refine .inr ?_
      have := (List.singleton_sublist.mpr k).append (List.Sublist.refl [z])
      simpa using this
    · simp at k; exact .inl k
theorem two_fst {a u w : P} {l : List P} (h : [u, w].Sublist (a :: l)) : u = a ∨ [a, u, w].Sublist (a :: l) := by
  cases h with
  | cons _ k => exact .inr (k.cons_cons a)
  | cons_cons _ k => exact .inl rfl
theorem two_last {a u w : P} {l : List P} (h : [u, w].Sublist (a :: l)) : w = lastD a l ∨ [u, w, lastD a l].Sublist (a :: l) := by
  rcases List.eq_nil_or_concat l with rfl | ⟨l', z, rfl⟩
  · have := h.length_le; simp at this
  · rw [List.concat_eq_append, lastD_app] at *
    have h' : ([u, w] : List P).Sublist ((a :: l') ++ [z]) := by simpa using h
    obtain ⟨s, t, e, hs, ht⟩ := List.sublist_append_iff.mp h'
    match t, ht, e with
    | [], _, e =>
      simp at e; subst e
      refine .inr ?_
      have := hs.append (List.Sublist.refl [z])
      simpa using this
    | [x], ht, e =>
      have hx : x = z := by
        have := ht.subset (List.mem_singleton_self x)
        simpa using this
      refine .inl ?_
      match s, e with
      | [_], e => simp at e; rw [e.2, hx]
      | [], e => simp at e
      | _ :: _ :: _, e => simp at e
    | _ :: _ :: _, ht, e => have := ht.length_le; simp at this
theorem crM (u x w : P) : (crH w u).ev x = cr u x w := by rw [crH_ev, cr_rot]
theorem crF (x u w : P) : (crH u w).ev x = cr x u w := by rw [crH_ev, ← cr_rot]
/-- facts of the list A ++ D -/
structure Arc (h : Hf) (a d : P) (A D : List P) : Prop where
  cvx : Cvx (a :: A ++ d :: D)
  three : 3 ≤ (a :: A ++ d :: D).length
  nn : ∀ q ∈ a :: A, 0 ≤ h.ev q
  ng : ∀ q ∈ d :: D, h.ev q < 0
section
variable {h : Hf} {a d : P} {A D : List P}
theorem Arc.two (r : Arc h a d A D) {u w c : P} (k : [u, w].Sublist (a :: A)) (hc : c ∈ d :: D) : 0 < cr u w c := by
  refine r.cvx u w c ?_
  have := k.append (List.singleton_sublist.mpr hc)
  simpa using this
theorem Arc.one (r : Arc h a d A D) {u w c : P} (hu : u ∈ a :: A) (k : [w, c].Sublist (d :: D)) : 0 < cr u w c := by
  refine r.cvx u w c ?_
  have := (List.singleton_sublist.mpr hu).append k
  simpa using this
theorem Arc.in_ (r : Arc h a d A D) {u w c : P} (k : [u, w, c].Sublist (a :: A)) : 0 < cr u w c := by
  refine r.cvx u w c ?_
  have := k.append (List.nil_sublist (d :: D))
  simpa using this
theorem Arc.z (r : Arc h a d A D) : 0 ≤ h.ev (lastD a A) := r.nn _ lastD_mem
theorem Arc.e (r : Arc h a d A D) : h.ev (lastD d D) < 0 := r.ng _ lastD_mem
theorem Arc.d0 (r : Arc h a d A D) : h.ev d < 0 := r.ng d (by simp)
/-- the pair u, w of the kept ones sees where the border is met -/
theorem Arc.seeO (r : Arc h a d A D) {u w : P} (k : [u, w].Sublist (a :: A)) (hz : 0 < h.ev (lastD a A)) : 0 < cr u w (X h (lastD a A) d) := by
  refine cr_X h u w hz r.d0 ?_ (Rat.le_of_lt (r.two k (by simp))) (.inr (r.two k (by simp)))
  rcases two_last k with e | s
  · rw [e, cr_r]; grind
  · have := r.in_ s; grind
theorem Arc.seeI (r : Arc h a d A D) {u w : P} (k : [u, w].Sublist (a :: A)) (ha : 0 < h.ev a) : 0 < cr u w (X h a (lastD d D)) := by
  have h2 := r.two k (show lastD d D ∈ d :: D from lastD_mem)
  refine cr_X h u w ha r.e ?_ (Rat.le_of_lt h2) (.inr h2)
  rcases two_fst k with e | s
  · rw [e, cr_l]; grind
  · have := r.in_ s
    rw [← cr_rot]; grind
theorem Arc.seeOI (r : Arc h a d A D) {u : P} (hu : u ∈ a :: A) (ha : 0 < h.ev a) (hz : 0 < h.ev (lastD a A)) : 0 < cr u (X h (lastD a A) d) (X h a (lastD d D)) := by
  -- the two ends of each stretch, as seen from u
  have ud : 0 ≤ cr u d (lastD d D) := by
    rcases fst_or (show lastD d D ∈ d :: D from lastD_mem) with e | s
    · rw [e, cr_r]; grind
    · have := r.one hu s; grind
  have ua : ∀ c ∈ d :: D, 0 ≤ cr u c a ∧ (u ≠ a → 0 < cr u c a) := fun c hc => by
    rcases fst_or hu with e | s
    · subst e; rw [cr_l]; exact ⟨by grind, fun z => absurd rfl z⟩
    · have := r.two s hc
      rw [← cr_rot]; exact ⟨by grind, fun _ => this⟩
  have uz : ∀ c ∈ d :: D, 0 ≤ cr u (lastD a A) c ∧ (u ≠ lastD a A → 0 < cr u (lastD a A) c) := fun c hc => by
    rcases last_or hu with e | s
    · rw [← e, cr_s]; exact ⟨by grind, fun z => absurd rfl z⟩
    · have := r.two s hc; exact ⟨by grind, fun _ => this⟩
  have uza : 0 ≤ cr u (lastD a A) a := by
    rcases last_or hu with e | s
    · rw [← e, cr_s]; grind
    · rcases two_fst s with e | s2
      · rw [e, cr_l]; grind
      · have := r.in_ s2
        rw [← cr_rot]; grind
  -- seen from the first stretch
  have s1 : ∀ w, 0 ≤ cr u (lastD a A) w → 0 ≤ cr u d w → (0 < cr u (lastD a A) w ∨ 0 < cr u d w) → 0 < cr u (X h (lastD a A) d) w := fun w h1 h2 o => by
    rw [← crM, ← crM] at o
    rw [← crM] at h1 h2 ⊢
    exact X_pos h (crH w u) hz r.d0 h1 h2 o
  have s0 : ∀ w, 0 ≤ cr u (lastD a A) w → 0 ≤ cr u d w → 0 ≤ cr u (X h (lastD a A) d) w := fun w h1 h2 => by
    rw [← crM] at h1 h2 ⊢
    exact X_nn h (crH w u) hz r.d0 h1 h2
  have me : lastD d D ∈ d :: D := lastD_mem
  refine cr_X h u _ ha r.e (s0 a uza (ua d (by simp)).1) (s0 _ (uz _ me).1 ud) ?_
  by_cases n1 : u = lastD a A
  · by_cases n2 : u = a
    · -- one is kept alone
      refine .inr (s1 _ (uz _ me).1 ud (.inr ?_))
      have hA : A = [] := by
        rcases List.eq_nil_or_concat A with e | ⟨A', z, rfl⟩
        · exact e
        · exfalso
          rw [List.concat_eq_append, lastD_app] at n1
          have hn := r.cvx.nodup r.three
          rw [← n2, n1] at hn
          simp at hn
      subst hA
      have h3 := r.three
      match D, h3 with
      | [], h3 => simp at h3
      | b :: D, _ =>
        refine r.one hu ?_
        have : lastD d (b :: D) ∈ b :: D := by rw [lastD_cons]; exact lastD_mem
        exact (List.singleton_sublist.mpr this).cons_cons d
    · exact .inl (s1 a uza (ua d (by simp)).1 (.inr ((ua d (by simp)).2 n2)))
  · exact .inr (s1 _ (uz _ me).1 ud (.inl ((uz _ me).2 n1)))
noncomputable def arcR (h : Hf) (a d : P) (A D : List P) : List P := a :: A ++ (ringO h (lastD a A) d ++ ringO h a (lastD d D))
theorem ringO_mem {z d q : P} (hq : q ∈ ringO h z d) : 0 < h.ev z ∧ q = X h z d := by
  unfold ringO at hq
  split at hq
  · exact ⟨by assumption, by simpa using hq⟩
  · cases hq
theorem Arc.cvxR (r : Arc h a d A D) : Cvx (arcR h a d A D) := by
  refine Cvx_app (r.cvx.sub (List.sublist_append_left _ _)) ?_ ?_ ?_
  · intro u v w k
    have := k.length_le
    have l1 : (ringO h (lastD a A) d).length ≤ 1 := by unfold ringO; split <;> simp
    have l2 : (ringO h a (lastD d D)).length ≤ 1 := by unfold ringO; split <;> simp
    simp at this; omega
  · intro u hu v w k
    unfold ringO at k
    split at k <;> split at k
    · rename_i hz ha
      have e : [v, w] = [X h (lastD a A) d, X h a (lastD d D)] := by
        refine List.Sublist.eq_of_length ?_ (by simp)
        simpa using k
      cases e
      exact r.seeOI hu ha hz
    · have := k.length_le; simp at this
    · have := k.length_le; simp at this
    · have := k.length_le; simp at this
  · intro c hc u w k
    rcases List.mem_append.mp hc with hc | hc
    · obtain ⟨hz, rfl⟩ := ringO_mem hc
      exact r.seeO k hz
    · obtain ⟨ha, rfl⟩ := ringO_mem hc
      exact r.seeI k ha
theorem Arc.on (r : Arc h a d A D) {q : P} (hq : q ∈ ringO h (lastD a A) d ++ ringO h a (lastD d D)) : h.ev q = 0 := by
  rcases List.mem_append.mp hq with hq | hq
  · obtain ⟨hz, rfl⟩ := ringO_mem hq
    have := r.d0
    exact X_on h _ _ (by grind)
  · obtain ⟨hz, rfl⟩ := ringO_mem hq
    have := r.e
    exact X_on h _ _ (by grind)
theorem Arc.memL (r : Arc h a d A D) {q : P} (hq : q ∈ arcR h a d A D) : Cv (a :: A ++ d :: D) q ∧ 0 ≤ h.ev q := by
  rcases List.mem_append.mp hq with hq | hq
  · exact ⟨.mem (List.mem_append_left _ hq), r.nn q hq⟩
  · refine ⟨?_, by rw [r.on hq]; grind⟩
    rcases List.mem_append.mp hq with hq | hq
    · obtain ⟨hz, rfl⟩ := ringO_mem hq
      exact Cv_X h hz r.d0 (List.mem_append_left _ lastD_mem) (by simp)
    · obtain ⟨hz, rfl⟩ := ringO_mem hq
      exact Cv_X h hz r.e (by simp) (List.mem_append_right _ lastD_mem)
/-- a side of the cut part: of the old part's side, or on the border -/
theorem Arc.side (r : Arc h a d A D) {s t : P} (hs : (s, t) ∈ sides (arcR h a d A D)) :
    ((∃ u w, (u, w) ∈ sides (a :: A ++ d :: D) ∧ cr u w s = 0 ∧ cr u w t = 0) ∧ ∀ p, InS (a :: A ++ d :: D) p → 0 ≤ cr s t p) ∨ (h.ev s = 0 ∧ h.ev t = 0) := by
  have old : ∀ u w, (u, w) ∈ sides (a :: A ++ d :: D) → (∃ u' w', (u', w') ∈ sides (a :: A ++ d :: D) ∧ cr u' w' u = 0 ∧ cr u' w' w = 0) ∧ ∀ p, InS (a :: A ++ d :: D) p → 0 ≤ cr u w p := fun u w k => ⟨⟨u, w, k, cr_l u w, cr_r u w⟩, fun p hp => hp u w k⟩
  have eS : sides (a :: A ++ d :: D) = (lastD d D, a) :: chainS a A ++ (lastD a A, d) :: chainS d D := by
    rw [List.cons_append, sides_cons, lastD_append (by simp), lastD_cons, ← List.cons_append, chainS_app, lastD_cons, chainS, chainS]
  have hin : (lastD d D, a) ∈ sides (a :: A ++ d :: D) := by rw [eS]; simp
  have hout : (lastD a A, d) ∈ sides (a :: A ++ d :: D) := by rw [eS]; simp
  have hch : ∀ x ∈ chainS a A, x ∈ sides (a :: A ++ d :: D) := fun x hx => by rw [eS]; simp [hx]
  -- the two stretches
  have so : 0 < h.ev (lastD a A) → (∃ u' w', (u', w') ∈ sides (a :: A ++ d :: D) ∧ cr u' w' (lastD a A) = 0 ∧ cr u' w' (X h (lastD a A) d) = 0) ∧ ∀ p, InS (a :: A ++ d :: D) p → 0 ≤ cr (lastD a A) (X h (lastD a A) d) p := fun hz => by
    refine ⟨⟨_, _, hout, cr_l _ _, ?_⟩, fun p hp => ?_⟩
    · have hd := r.d0
      have := X_ev h (crH (lastD a A) d) (lastD a A) d (by grind)
      rw [crH_ev, crH_ev, crH_ev, cr_l, cr_r] at this
      exact mul_cancel_r (show h.ev (lastD a A) - h.ev d ≠ 0 by grind) (by rw [this]; grind)
    · have := hp _ _ hout
      rw [← crM] at this ⊢
      exact X_nn h _ hz r.d0 (by rw [crH_ev, cr_r]; grind) this
  have si : 0 < h.ev a → (∃ u' w', (u', w') ∈ sides (a :: A ++ d :: D) ∧ cr u' w' (X h a (lastD d D)) = 0 ∧ cr u' w' a = 0) ∧ ∀ p, InS (a :: A ++ d :: D) p → 0 ≤ cr (X h a (lastD d D)) a p := fun ha => by
    refine ⟨⟨_, _, hin, ?_, cr_r _ _⟩, fun p hp => ?_⟩
    · have hd := r.e
      have := X_ev h (crH (lastD d D) a) a (lastD d D) (by grind)
      rw [crH_ev, crH_ev, crH_ev, cr_l, cr_r] at this
      exact mul_cancel_r (show h.ev a - h.ev (lastD d D) ≠ 0 by grind) (by rw [this]; grind)
    · have := hp _ _ hin
      rw [← crF] at this ⊢
      exact X_nn h _ ha r.e (by rw [crH_ev, cr_l]; grind) this
  unfold arcR at hs
  rw [List.cons_append, sides_cons, ← List.cons_append, chainS_app, lastD_cons, chainS] at hs
  have oO : ∀ {q}, q ∈ ringO h (lastD a A) d → 0 < h.ev (lastD a A) ∧ q = X h (lastD a A) d := fun hq => ringO_mem hq
  unfold ringO at hs
  by_cases hz : 0 < h.ev (lastD a A)
  · by_cases ha : 0 < h.ev a
    · rw [if_pos hz, if_pos ha] at hs
      simp [lastD_append, lastD_cons, lastD_nil, chainS] at hs
      rcases hs with ⟨rfl, rfl⟩ | hs | ⟨rfl, rfl⟩ | ⟨rfl, rfl⟩
      · exact .inl (si ha)
      · exact .inl (old _ _ (hch _ hs))
      · exact .inl (so hz)
      · have := r.d0; have := r.e
        exact .inr ⟨X_on h _ _ (by grind), X_on h _ _ (by grind)⟩
    · have ea : h.ev a = 0 := by have := r.nn a (by simp); grind
      rw [if_pos hz, if_neg ha] at hs
      simp [lastD_append, lastD_cons, lastD_nil, chainS] at hs
      rcases hs with ⟨rfl, rfl⟩ | hs | ⟨rfl, rfl⟩
      · have := r.d0
        exact .inr ⟨X_on h _ _ (by grind), ea⟩
      · exact .inl (old _ _ (hch _ hs))
      · exact .inl (so hz)
  · have ez : h.ev (lastD a A) = 0 := by have := r.z; grind
    by_cases ha : 0 < h.ev a
    · rw [if_neg hz, if_pos ha] at hs
      simp [lastD_append, lastD_cons, lastD_nil, chainS] at hs
      rcases hs with ⟨rfl, rfl⟩ | hs | ⟨rfl, rfl⟩
      · exact .inl (si ha)
      · exact .inl (old _ _ (hch _ hs))
      · have := r.e
        exact .inr ⟨ez, X_on h _ _ (by grind)⟩
    · have ea : h.ev a = 0 := by have := r.nn a (by simp); grind
      rw [if_neg hz, if_neg ha] at hs
      simp [lastD_append, lastD_cons, lastD_nil, chainS] at hs
      rcases hs with ⟨rfl, rfl⟩ | hs
      · exact .inr ⟨ez, ea⟩
      · exact .inl (old _ _ (hch _ hs))
end
end Gm
namespace Gm
section
variable {h : Hf} {a d : P} {A D : List P}
theorem Arc.cv (r : Arc h a d A D) (p : P) : Cv (arcR h a d A D) p ↔ Cv (a :: A ++ d :: D) p ∧ 0 ≤ h.ev p := by
  constructor
  · intro k
    exact ⟨Cv.trans (fun q hq => (r.memL hq).1) k, k h fun q hq => (r.memL hq).2⟩
  · intro ⟨k, hp⟩
    by_cases hl : 3 ≤ (arcR h a d A D).length
    · refine InS.cv r.cvxR hl fun s t hs => ?_
      rcases r.side hs with ⟨_, o⟩ | ⟨e1, e2⟩
      · exact o p (k.inS r.cvx)
      · -- a third one
        have hn := r.cvxR.nodup hl
        obtain ⟨ms, mt⟩ := sides_mem hs
        obtain ⟨c, hc, c1, c2⟩ : ∃ c ∈ arcR h a d A D, c ≠ s ∧ c ≠ t := by
          apply Classical.byContradiction
          intro z
          have sub : ∀ c ∈ arcR h a d A D, c ∈ [s, t] := fun c hc => by
            simp only [List.mem_cons, List.not_mem_nil, or_false]
            apply Classical.byContradiction
            intro y
            exact z ⟨c, hc, fun e => y (.inl e), fun e => y (.inr e)⟩
          have h1 := hn.length_le_of_subset sub
          simp at h1; omega
        have hpos : 0 < cr s t c := by
          rcases side_pos r.cvxR hs hc with e | e | e
          · exact absurd e c1
          · exact absurd e c2
          · exact e
        have hc0 := (r.memL hc).2
        have hd := r.d0
        have b1 := border h s t c d e1 e2
        have b2 := border h s t c p e1 e2
        have hcp : 0 < h.ev c := by
          by_cases z : h.ev c = 0
          · rw [z] at b1
            have : cr s t c * h.ev d < 0 := mul_lt0 hpos hd
            grind
          · grind
        refine nn_of_mul hcp ?_
        rw [b2]
        exact mul_nn (Rat.le_of_lt hpos) hp
    · -- the half meets the border alone
      have z : ∀ q ∈ a :: A, h.ev q = 0 := by
        intro q hq
        have h0 := r.nn q hq
        apply Classical.byContradiction
        intro hq0
        have hqp : 0 < h.ev q := by grind
        apply hl
        have l0 : (arcR h a d A D).length = A.length + 1 + ((ringO h (lastD a A) d).length + (ringO h a (lastD d D)).length) := by unfold arcR; simp; omega
        have lo : ∀ x y, 0 < h.ev x → (ringO h x y).length = 1 := fun x y k => by unfold ringO; rw [if_pos k]; rfl
        rcases fst_or hq with e | s
        · subst e
          rw [l0, lo _ _ hqp]
          cases A with
          | nil => rw [lastD_nil, lo _ _ hqp]; simp
          | cons b A => simp; omega
        · rcases last_or hq with e | s2
          · rw [l0, ← e, lo _ _ hqp]
            have := s.length_le
            simp at this; omega
          · -- within
            rw [l0]
            have : 3 ≤ (a :: A).length := by
              obtain ⟨x, y, e⟩ := List.append_of_mem hq
              rw [e]
              have n1 : x ≠ [] := by
                intro z
                subst z
                have hn := r.cvx.nodup r.three
                simp at e
                have := s
                rw [← e.1] at s
                have k := (List.nodup_append.mp hn).1
                have k2 := k.sublist s
                simp at k2
              have n2 : y ≠ [] := by
                intro z
                subst z
                have hn := r.cvx.nodup r.three
                have k := (List.nodup_append.mp hn).1
                have k2 := k.sublist s2
                have e2 : lastD a A = q := by
                  rw [← lastD_cons a a A, e, lastD_app]
                rw [e2] at k2
                simp at k2
              cases x with
              | nil => exact absurd rfl n1
              | cons _ _ => cases y with
                | nil => exact absurd rfl n2
                | cons _ _ => simp; omega
            simp at this; omega
      -- the part where h is nought
      have n0 : h.ev p = 0 := by
        have := k ⟨-h.a, -h.b, -h.c⟩ fun q hq => by
          have e : (⟨-h.a, -h.b, -h.c⟩ : Hf).ev q = - h.ev q := by unfold Hf.ev; grind
          rw [e]
          rcases List.mem_append.mp hq with hq | hq
          · rw [z q hq]; grind
          · have := r.ng q hq; grind
        have e : (⟨-h.a, -h.b, -h.c⟩ : Hf).ev p = - h.ev p := by unfold Hf.ev; grind
        rw [e] at this; grind
      have hf : ∀ q, (⟨-h.a, -h.b, -h.c⟩ : Hf).ev q = - h.ev q := fun q => by unfold Hf.ev; grind
      have := Cv.face (A := a :: A) (f := ⟨-h.a, -h.b, -h.c⟩) k (fun q hq => by
        rcases List.mem_append.mp hq with hq | hq
        · exact .inl hq
        · refine .inr ?_
          rw [hf]
          have := r.ng q hq; grind) (by rw [hf, n0]; grind) (fun q hq => by rw [hf, z q hq]; grind)
      exact Cv.mono (fun q hq => List.mem_append_left _ hq) this
end
/-- a list that begins in the half and ends beyond it -/
theorem arc_of {h : Hf} {a : P} {L : List P} (hc : Cvx (a :: L)) (ha : 0 ≤ h.ev a) (hz : h.ev (lastD a L) < 0) : ∃ A d D, L = A ++ d :: D ∧ (∀ q ∈ a :: A, 0 ≤ h.ev q) ∧ (∀ q ∈ d :: D, h.ev q < 0) := by
  have split : ∀ M : List P, (∀ q ∈ M, 0 ≤ h.ev q) ∨ ∃ A d D, M = A ++ d :: D ∧ (∀ q ∈ A, 0 ≤ h.ev q) ∧ h.ev d < 0 := fun M => by
    induction M with
    | nil => exact .inl (fun q hq => by cases hq)
    | cons b M ih =>
      by_cases hb : 0 ≤ h.ev b
      · rcases ih with ih | ⟨A, d, D, rfl, h1, h2⟩
        · exact .inl fun q hq => by
            rcases List.mem_cons.mp hq with rfl | hq
            · exact hb
            · exact ih q hq
        · exact .inr ⟨b :: A, d, D, rfl, fun q hq => by
            rcases List.mem_cons.mp hq with rfl | hq
            · exact hb
            · exact h1 q hq, h2⟩
      · exact .inr ⟨[], b, M, rfl, (fun q hq => by cases hq), by grind⟩
  rcases split L with k | ⟨A, d, D, rfl, h1, h2⟩
  · have : lastD a L ∈ a :: L := lastD_mem
    have h0 : 0 ≤ h.ev (lastD a L) := by
      rcases List.mem_cons.mp this with e | e
      · rw [e]; exact ha
      · exact k _ e
    grind
  · refine ⟨A, d, D, rfl, fun q hq => by
      rcases List.mem_cons.mp hq with rfl | hq
      · exact ha
      · exact h1 q hq, fun q hq => ?_⟩
    rcases List.mem_cons.mp hq with rfl | hq
    · exact h2
    · apply Classical.byContradiction
      intro hq0
      rw [lastD_append (by simp), lastD_cons] at hz
      -- q is not the last one
      have hne : q ≠ lastD d D := fun e => by rw [← e] at hz; grind
      have hs : [q, lastD d D].Sublist D := by
        rcases List.eq_nil_or_concat D with rfl | ⟨D', z, rfl⟩
        · cases hq
        · rw [List.concat_eq_append, lastD_app] at *
          rcases List.mem_append.mp hq with k | k
          · simpa using (List.singleton_sublist.mpr k).append (List.Sublist.refl [z])
          · simp at k; exact absurd k hne
      have e := four h a d q (lastD d D)
      have s4 : [a, d, q, lastD d D].Sublist (a :: (A ++ d :: D)) := ((hs.cons_cons d).trans (List.sublist_append_right A _)).cons_cons a
      have c1 : 0 < cr d q (lastD d D) := hc _ _ _ (((List.Sublist.refl [d, q, lastD d D]).cons a).trans s4)
      have c2 : 0 < cr a d (lastD d D) := hc _ _ _ ((((List.Sublist.refl [lastD d D]).cons q).cons_cons d).cons_cons a |>.trans s4)
      have c3 : 0 < cr a q (lastD d D) := hc _ _ _ (((List.Sublist.refl [q, lastD d D]).cons d).cons_cons a |>.trans s4)
      have c4 : 0 < cr a d q := hc _ _ _ (((((List.nil_sublist [lastD d D]).cons_cons q).cons_cons d).cons_cons a).trans s4)
      have f1 := mul_nn (Rat.le_of_lt c1) ha
      have f2 := mul_nn (Rat.le_of_lt c2) (show 0 ≤ h.ev q by grind)
      have f3 := mul_lt0 c3 h2
      have f4 := mul_lt0 c4 hz
      grind
/-- alike but for where the list begins -/
structure Like (L M : List P) : Prop where
  mem : ∀ q, q ∈ L ↔ q ∈ M
  cvx : Cvx L ↔ Cvx M
  sides : ∀ x, x ∈ sides L ↔ x ∈ sides M
  len : L.length = M.length
theorem Like.rot (l m : List P) : Like (l ++ m) (m ++ l) := ⟨fun q => by simp; grind, ⟨Cvx.rot, Cvx.rot⟩, sides_rot_mem l m, by simp; omega⟩
theorem Like.trans {L M N : List P} (a : Like L M) (b : Like M N) : Like L N := ⟨fun q => (a.mem q).trans (b.mem q), a.cvx.trans b.cvx, fun x => (a.sides x).trans (b.sides x), a.len.trans b.len⟩
theorem Like.symm {L M : List P} (a : Like L M) : Like M L := ⟨fun q => (a.mem q).symm, a.cvx.symm, fun x => (a.sides x).symm, a.len.symm⟩
theorem Like.cv {L M : List P} (a : Like L M) (p : P) : Cv L p ↔ Cv M p := ⟨Cv.mono fun q hq => (a.mem q).mp hq, Cv.mono fun q hq => (a.mem q).mpr hq⟩
/-- the ring of a part with corners at both sides -/
theorem ring_mixed {h : Hf} {L : List P} (hc : Cvx L) (hl : 3 ≤ L.length) (h1 : ∃ q ∈ L, 0 ≤ h.ev q) (h2 : ∃ q ∈ L, h.ev q < 0) :
    ∃ l m a A d D, L = l ++ m ∧ m ++ l = a :: A ++ d :: D ∧ Arc h a d A D ∧ Like (ring h L) (arcR h a d A D) := by
  -- a turn that begins in the half and ends beyond it
  obtain ⟨l, m, e, a, M, e2, ha, hz⟩ : ∃ l m, L = l ++ m ∧ ∃ a M, m ++ l = a :: M ∧ 0 ≤ h.ev a ∧ h.ev (lastD a M) < 0 := by
    have key : ∀ M : List P, (∃ q ∈ M, h.ev q < 0) → ∃ x d y, M = x ++ d :: y ∧ h.ev d < 0 ∧ ∀ q ∈ y, 0 ≤ h.ev q := fun M => by
      induction M with
      | nil => intro ⟨q, hq, _⟩; cases hq
      | cons b M ih =>
        intro ⟨q, hq, k⟩
        by_cases z : ∃ q ∈ M, h.ev q < 0
        · obtain ⟨x, d, y, rfl, k1, k2⟩ := ih z
          exact ⟨b :: x, d, y, rfl, k1, k2⟩
        · refine ⟨[], b, M, rfl, ?_, fun q hq => ?_⟩
          · rcases List.mem_cons.mp hq with rfl | hq
            · exact k
            · exact absurd ⟨q, hq, k⟩ z
          · apply Classical.byContradiction
            intro y
            exact z ⟨q, hq, by grind⟩
    obtain ⟨x, d, y, rfl, k1, k2⟩ := key L h2
    cases y with
    | cons a y =>
      refine ⟨x ++ [d], a :: y, by simp, a, y ++ (x ++ [d]), rfl, k2 a (by simp), ?_⟩
      rw [lastD_append (by simp), lastD_app]; exact k1
    | nil =>
      -- the last one is beyond: the first one in the half behind the last change
      have key2 : ∀ x : List P, (∃ q ∈ x, 0 ≤ h.ev q) → ∃ u a w, x = u ++ a :: w ∧ 0 ≤ h.ev a ∧ ∀ q ∈ u, h.ev q < 0 := fun M => by
        induction M with
        | nil => intro ⟨q, hq, _⟩; cases hq
        | cons b M ih =>
          intro ⟨q, hq, k⟩
          by_cases z : 0 ≤ h.ev b
          · exact ⟨[], b, M, rfl, z, fun q hq => by cases hq⟩
          · rcases List.mem_cons.mp hq with rfl | hq
            · exact absurd k z
            · obtain ⟨u, a, w, rfl, k1, k2⟩ := ih ⟨q, hq, k⟩
              refine ⟨b :: u, a, w, rfl, k1, fun q hq => ?_⟩
              rcases List.mem_cons.mp hq with rfl | hq
              · grind
              · exact k2 q hq
      obtain ⟨q, hq, kq⟩ := h1
      have hx : ∃ q ∈ x, 0 ≤ h.ev q := by
        rcases List.mem_append.mp hq with k | k
        · exact ⟨q, k, kq⟩
        · simp at k; rw [k] at kq; grind
      obtain ⟨u, a, w, rfl, j1, j2⟩ := key2 x hx
      refine ⟨u, a :: (w ++ [d]), by simp, a, w ++ [d] ++ u, by simp, j1, ?_⟩
      rcases List.eq_nil_or_concat u with rfl | ⟨u', z, rfl⟩
      · rw [List.append_nil, lastD_app]; exact k1
      · rw [List.concat_eq_append, ← List.append_assoc, lastD_app]
        exact j2 z (by simp)
  subst e
  have hc2 : Cvx (a :: M) := by rw [← e2]; exact hc.rot
  obtain ⟨A, d, D, rfl, k1, k2⟩ := arc_of hc2 ha hz
  obtain ⟨r, s, er, es⟩ := ring_rot h l m
  rw [e2, ← List.cons_append, ring_arc h a d A D k1 k2] at es
  have arc : Arc h a d A D := ⟨by simpa using hc2, by
    have : (m ++ l).length = (a :: (A ++ d :: D)).length := by rw [e2]
    simp at this hl ⊢; omega, k1, k2⟩
  refine ⟨l, m, a, A, d, D, rfl, by rw [e2]; simp, arc, ?_⟩
  rw [er]
  refine (Like.rot r s).trans ?_
  rw [← es, List.append_assoc]
  refine (Like.rot _ _).trans ?_
  unfold arcR
  rw [List.append_assoc]
  exact ⟨fun q => Iff.rfl, Iff.rfl, fun x => Iff.rfl, rfl⟩
end Gm
namespace Gm
noncomputable def neB (x : P × P) : Bool := @decide (x.2 ≠ x.1) (Classical.propDecidable _)
theorem neB_true {a b : P} (h : b ≠ a) : neB (a, b) = true := @decide_eq_true _ (Classical.propDecidable _) h
theorem neB_false {a b : P} (h : b = a) : neB (a, b) = false := @decide_eq_false _ (Classical.propDecidable _) (fun k => k h)
noncomputable def apart (R : List P) : List P := ((sides R).filter neB).map (·.2)
theorem chainS_snd : ∀ (l : List P) (a : P), (chainS a l).map (·.2) = l
  | [], _ => rfl
  | b :: l, a => by rw [chainS, List.map_cons, chainS_snd l b]
theorem sides_snd (L : List P) : (sides L).map (·.2) = L := by
  unfold sides
  cases e : L.getLast? with
  | none => simp at e; subst e; rfl
  | some z => exact chainS_snd L z
theorem side_ne {L : List P} (hn : L.Nodup) (hl : 2 ≤ L.length) {s t : P} (h : (s, t) ∈ sides L) : t ≠ s := by
  rcases sides_split h with ⟨m, rfl, e⟩ | ⟨l1, l2, rfl⟩
  · match m, hl with
    | b :: m, _ =>
      rw [List.getLast?_cons_cons] at e
      intro z
      subst z
      rw [List.nodup_cons] at hn
      exact hn.1 (List.mem_of_getLast? e)
  · intro z
    subst z
    have := hn.sublist (List.sublist_append_right l1 (t :: t :: l2))
    simp at this
theorem apart_self {L : List P} (hn : L.Nodup) (hl : 2 ≤ L.length) : apart L = L := by
  unfold apart
  rw [List.filter_eq_self.mpr fun x hx => neB_true (side_ne hn hl hx), sides_snd]
/-! ### lines with numbers of so many figures -/
def Bn (t : Nat) (i : Int) : Prop := i.natAbs < 2 ^ t
def onL (a b c : Int) (p : P) : Prop := (a : Rat) * p.x + b * p.y = c
/-- a corner: where two lines meet -/
def CB (t : Nat) (p : P) : Prop := ∃ a b c a' b' c' : Int, (Bn t a ∧ Bn t b ∧ Bn t c) ∧ (Bn t a' ∧ Bn t b' ∧ Bn t c') ∧ a * b' - a' * b ≠ 0 ∧ onL a b c p ∧ onL a' b' c' p
def SB (t : Nat) (p q : P) : Prop := ∃ a b c : Int, (Bn t a ∧ Bn t b ∧ Bn t c) ∧ (a ≠ 0 ∨ b ≠ 0) ∧ onL a b c p ∧ onL a b c q
structure Bnd (t : Nat) (L : List P) : Prop where
  c : ∀ q ∈ L, CB t q
  s : ∀ p q, (p, q) ∈ sides L → SB t p q
theorem SB.symm {t : Nat} {p q : P} (h : SB t p q) : SB t q p := by
  obtain ⟨a, b, c, h1, h2, h3, h4⟩ := h
  exact ⟨a, b, c, h1, h2, h4, h3⟩
/-- a half of three ints -/
def hI (a b c : Int) : Hf := ⟨a, b, c⟩
theorem onL_iff (a b c : Int) (p : P) : onL a b c p ↔ (hI a b c).ev p = 0 := by
  unfold onL Hf.ev hI
  constructor <;> intro h <;> grind
theorem on_line {h : Hf} {u w s : P} (ne : u ≠ w) (hu : h.ev u = 0) (hw : h.ev w = 0) (hs : cr u w s = 0) : h.ev s = 0 := by
  have b := border h u w ⟨u.x - (w.y - u.y), u.y + (w.x - u.x)⟩ s hu hw
  rw [hs] at b
  have d := dot_pos ne
  have e : cr u w ⟨u.x - (w.y - u.y), u.y + (w.x - u.x)⟩ = (w.x - u.x) * (w.x - u.x) + (w.y - u.y) * (w.y - u.y) := by unfold cr; simp only; grind
  rw [← e] at d
  refine mul_cancel_r (d := cr u w ⟨u.x - (w.y - u.y), u.y + (w.x - u.x)⟩) (by grind) ?_
  grind
/-- where a side of known numbers meets a known border -/
theorem CB_X {t : Nat} {a b c : Int} (ha : Bn t a) (hb : Bn t b) (hc : Bn t c) {p q : P} (hs : SB t p q) (d : (hI a b c).ev p ≠ (hI a b c).ev q) : CB t (X (hI a b c) p q) := by
  obtain ⟨a', b', c', h1, h2, h3, h4⟩ := hs
  have d' : (hI a b c).ev p - (hI a b c).ev q ≠ 0 := by grind
  refine ⟨a, b, c, a', b', c', ⟨ha, hb, hc⟩, h1, ?_, (onL_iff ..).mpr (X_on _ _ _ d'), ?_⟩
  · intro z
    -- parallel: then both have the same value
    rw [onL_iff] at h3 h4
    apply d
    have z' : (a : Rat) * b' - a' * b = 0 := by
      have : ((a * b' - a' * b : Int) : Rat) = ((0 : Int) : Rat) := by rw [z]
      push_cast at this
      exact this
    unfold Hf.ev hI at *
    simp only at *
    rcases h2 with n | n
    · have n' : (a' : Rat) ≠ 0 := by exact_mod_cast n
      refine mul_cancel_r n' ?_
      have e : (a' : Rat) * p.x + b' * p.y = a' * q.x + b' * q.y := by grind
      grind
    · have n' : (b' : Rat) ≠ 0 := by exact_mod_cast n
      refine mul_cancel_r n' ?_
      have e : (a' : Rat) * p.x + b' * p.y = a' * q.x + b' * q.y := by grind
      grind
  · rw [onL_iff] at h3 h4 ⊢
    have := X_ev (hI a b c) (hI a' b' c') p q d'
    rw [h3, h4] at this
    exact mul_cancel_r d' (by rw [this]; grind)
/-! ### what tidying is to make of the ring -/
/-- the ring's spots are as they should be -/
structure Good (t : Nat) (h : Hf) (L M : List P) : Prop where
  cv : ∀ p, Cv M p ↔ Cv L p ∧ 0 ≤ h.ev p
  bnd : Bnd t L → Bnd t M
  len : M.length ≤ L.length + 1
inductive Shape (t : Nat) (h : Hf) (L R : List P) : Prop where
  | few (e : apart R = []) (l : R.length ≤ 1) (g : Good t h L R) : Shape t h L R
  | two (a b : P) (e : apart R = [a, b]) (n : a ≠ b) (g : Good t h L [a, b]) : Shape t h L R
  | more (e : 3 ≤ (apart R).length) (c : Cvx (apart R)) (g : Good t h L (apart R)) : Shape t h L R
theorem Bnd_nil (t : Nat) : Bnd t [] := ⟨(fun q hq => by cases hq), (fun p q hq => by cases hq)⟩
theorem Like.good {t : Nat} {h : Hf} {L M N : List P} (k : Like M N) (g : Good t h L N) : Good t h L M :=
  ⟨fun p => (k.cv p).trans (g.cv p), fun b => ⟨fun q hq => (g.bnd b).c q ((k.mem q).mp hq), fun p q hs => (g.bnd b).s p q ((k.sides _).mp hs)⟩, by rw [k.len]; exact g.len⟩
theorem apart_few {R : List P} (h : R.length ≤ 1) : apart R = [] := by
  match R, h with
  | [], _ => rfl
  | [a], _ =>
    show ((chainS a [a]).filter neB).map _ = []
    rw [chainS, chainS, List.filter_cons, neB_false rfl]; rfl
theorem Bnd.like {t : Nat} {M N : List P} (k : Like M N) (b : Bnd t N) : Bnd t M := ⟨fun q hq => b.c q ((k.mem q).mp hq), fun p q hs => b.s p q ((k.sides _).mp hs)⟩
section
variable {t : Nat} {a0 b0 c0 : Int} (ba : Bn t a0) (bb : Bn t b0) (bc : Bn t c0) (nz : a0 ≠ 0 ∨ b0 ≠ 0)
include ba bb bc nz
theorem Arc.good {a d : P} {A D : List P} (r : Arc (hI a0 b0 c0) a d A D) : Good t (hI a0 b0 c0) (a :: A ++ d :: D) (arcR (hI a0 b0 c0) a d A D) := by
  refine ⟨r.cv, fun b => ⟨fun q hq => ?_, fun p q hs => ?_⟩, ?_⟩
  rotate_left 2
  · have lo : ∀ x y, (ringO (hI a0 b0 c0) x y).length ≤ 1 := fun x y => by unfold ringO; split <;> simp
    have l1 := lo (lastD a A) d
    have l2 := lo a (lastD d D)
    unfold arcR
    simp only [List.length_append, List.length_cons]
    omega
  · have eS : sides (a :: A ++ d :: D) = (lastD d D, a) :: chainS a A ++ (lastD a A, d) :: chainS d D := by
      rw [List.cons_append, sides_cons, lastD_append (by simp), lastD_cons, ← List.cons_append, chainS_app, lastD_cons, chainS, chainS]
    rcases List.mem_append.mp hq with hq | hq
    · exact b.c q (List.mem_append_left _ hq)
    · rcases List.mem_append.mp hq with hq | hq
      · obtain ⟨hz, rfl⟩ := ringO_mem hq
        have := r.d0
        exact CB_X ba bb bc (b.s _ _ (by rw [eS]; simp)) (by grind)
      · obtain ⟨hz, rfl⟩ := ringO_mem hq
        have := r.e
        exact CB_X ba bb bc (b.s _ _ (by rw [eS]; simp)).symm (by grind)
  · rcases r.side hs with ⟨⟨u, w, k, e1, e2⟩, _⟩ | ⟨e1, e2⟩
    · obtain ⟨a', b', c', h1, h2, h3, h4⟩ := b.s u w k
      have ne := side_ne (r.cvx.nodup r.three) (by have := r.three; omega) k
      rw [onL_iff] at h3 h4
      exact ⟨a', b', c', h1, h2, (onL_iff ..).mpr (on_line ne.symm h3 h4 e1), (onL_iff ..).mpr (on_line ne.symm h3 h4 e2)⟩
    · exact ⟨a0, b0, c0, ⟨ba, bb, bc⟩, nz, (onL_iff ..).mpr e1, (onL_iff ..).mpr e2⟩
theorem shape3 {L : List P} (hc : Cvx L) (hl : 3 ≤ L.length) : Shape t (hI a0 b0 c0) L (ring (hI a0 b0 c0) L) := by
  generalize hh : hI a0 b0 c0 = h
  by_cases h1 : ∃ q ∈ L, 0 ≤ h.ev q
  · by_cases h2 : ∃ q ∈ L, h.ev q < 0
    · subst hh
      obtain ⟨l, m, a, A, d, D, rfl, e, r, k⟩ := ring_mixed hc hl h1 h2
      have g0 := r.good ba bb bc nz
      rw [← e] at g0
      have kl : Like (m ++ l) (l ++ m) := Like.rot m l
      have g : Good t (hI a0 b0 c0) (l ++ m) (ring (hI a0 b0 c0) (l ++ m)) := k.good ⟨fun p => (g0.cv p).trans (by rw [kl.cv p]), fun b => g0.bnd (b.like kl), by rw [← kl.len]; exact g0.len⟩
      have hcR : Cvx (ring (hI a0 b0 c0) (l ++ m)) := k.cvx.mpr r.cvxR
      generalize ring (hI a0 b0 c0) (l ++ m) = R at *
      match R, g, hcR, k with
      | [], g, _, _ => exact .few rfl (by simp) g
      | [a], g, _, _ => exact .few (apart_few (by simp)) (by simp) g
      | [x, y], g, _, k =>
        -- two unlike ones
        have hn : x ≠ y := by
          intro z
          have hl2 := k.len
          have hm := k.mem
          have l0 : (arcR (hI a0 b0 c0) a d A D).length = A.length + 1 + ((ringO (hI a0 b0 c0) (lastD a A) d).length + (ringO (hI a0 b0 c0) a (lastD d D)).length) := by unfold arcR; simp; omega
          have sub := (List.nodup_append.mp (r.cvx.nodup r.three)).1
          -- the members of arcR are one only
          have all : ∀ q ∈ arcR (hI a0 b0 c0) a d A D, q = x := fun q hq => by
            have := (hm q).mpr hq
            subst z; simp at this; exact this
          cases A with
          | cons b A =>
            have e1 := all a (by simp [arcR])
            have e2 := all b (by simp [arcR])
            rw [e1, e2] at sub; simp at sub
          | nil =>
            have e1 := all a (by simp [arcR])
            rw [lastD_nil] at l0
            have pos : 0 < (hI a0 b0 c0).ev a := by
              apply Classical.byContradiction
              intro np
              have z1 : ∀ d, ringO (hI a0 b0 c0) a d = [] := fun d => by unfold ringO; rw [if_neg np]
              rw [z1, z1] at l0
              simp at l0 hl2; omega
            have o1 : ∀ d, (ringO (hI a0 b0 c0) a d).length = 1 := fun d => by unfold ringO; rw [if_pos pos]; rfl
            rw [o1, o1] at l0
            simp at l0 hl2; omega
        have e2 : apart [x, y] = [x, y] := apart_self (by simp [hn]) (by simp)
        exact .two x y e2 hn g
      | x :: y :: z :: R, g, hcR, k =>
        have e2 := apart_self (hcR.nodup (by simp)) (by simp)
        exact .more (by rw [e2]; simp) (by rw [e2]; exact hcR) (by rw [e2]; exact g)
    · -- all are held
      have all : ∀ q ∈ L, 0 ≤ h.ev q := fun q hq => by
        apply Classical.byContradiction
        intro z
        exact h2 ⟨q, hq, by grind⟩
      have er : ring h L = L := by
        cases L with
        | nil => rfl
        | cons a L =>
          rw [ring_cons]
          exact ringF_nn h _ _ (all _ lastD_mem) all
      rw [er]
      have ea := apart_self (hc.nodup hl) (by omega)
      refine .more (by rw [ea]; exact hl) (by rw [ea]; exact hc) ?_
      rw [ea]
      exact ⟨fun p => ⟨fun k => ⟨k, k h all⟩, fun k => k.1⟩, id, by omega⟩
  · have all : ∀ q ∈ L, h.ev q < 0 := fun q hq => by
      apply Classical.byContradiction
      intro z
      exact h1 ⟨q, hq, by grind⟩
    have er : ring h L = [] := by
      cases L with
      | nil => rfl
      | cons a L =>
        rw [ring_cons]
        exact ringF_neg h _ _ (all _ lastD_mem) all
    rw [er]
    refine .few rfl (by simp) ⟨fun p => ⟨fun k => absurd k (Cv_nil p), fun ⟨k, hp⟩ => ?_⟩, fun _ => Bnd_nil t, by simp⟩
    exfalso
    obtain ⟨K, k1, k2⟩ := big_of (fun q => - h.ev q) (fun _ => -1) L fun q hq => by have := all q hq; grind
    have e : ∀ q, (⟨-(K * h.a), -(K * h.b), 1 - K * h.c⟩ : Hf).ev q = -1 + K * (- h.ev q) := fun q => by unfold Hf.ev; grind
    have := k ⟨-(K * h.a), -(K * h.b), 1 - K * h.c⟩ fun q hq => by rw [e]; exact k2 q hq
    rw [e] at this
    have := mul_nn k1 hp
    grind
end
end Gm
namespace Gm
theorem sides_two (p q : P) : sides [p, q] = [(q, p), (p, q)] := by rfl
theorem sides_one (p : P) : sides [p] = [(p, p)] := by rfl
theorem mul_neg_iff {a b : Rat} : a * b < 0 ↔ (0 < a ∧ b < 0) ∨ (a < 0 ∧ 0 < b) := by
  constructor
  · intro h
    by_cases ha : 0 < a
    · refine .inl ⟨ha, ?_⟩
      apply Classical.byContradiction
      intro z
      have := mul_nn (Rat.le_of_lt ha) (show 0 ≤ b by grind)
      grind
    · by_cases ha0 : a = 0
      · rw [ha0] at h; grind
      · refine .inr ⟨by grind, ?_⟩
        apply Classical.byContradiction
        intro z
        have := mul_nn (show 0 ≤ -a by grind) (show 0 ≤ -b by grind)
        grind
  · rintro (⟨h1, h2⟩ | ⟨h1, h2⟩)
    · exact mul_lt0 h1 h2
    · have := mul_lt0 h2 h1
      grind
theorem neg_ev (h : Hf) (p : P) : (⟨-h.a, -h.b, -h.c⟩ : Hf).ev p = - h.ev p := by unfold Hf.ev; grind
/-- nothing is held -/
theorem Cv_none {h : Hf} {L : List P} (all : ∀ q ∈ L, h.ev q < 0) (p : P) : ¬ (Cv L p ∧ 0 ≤ h.ev p) := fun ⟨k, hp⟩ => by
  obtain ⟨K, k1, k2⟩ := big_of (fun q => - h.ev q) (fun _ => -1) L fun q hq => by have := all q hq; grind
  have e : ∀ q, (⟨-(K * h.a), -(K * h.b), 1 - K * h.c⟩ : Hf).ev q = -1 + K * (- h.ev q) := fun q => by unfold Hf.ev; grind
  have := k ⟨-(K * h.a), -(K * h.b), 1 - K * h.c⟩ fun q hq => by rw [e]; exact k2 q hq
  rw [e] at this
  have := mul_nn k1 hp
  grind
/-- of a stretch, first in the half, then beyond -/
theorem Cv_cut {h : Hf} {p q : P} (hp : 0 < h.ev p) (hq : h.ev q < 0) (r : P) : Cv [p, X h p q] r ↔ Cv [p, q] r ∧ 0 ≤ h.ev r := by
  constructor
  · intro k
    refine ⟨Cv.trans (fun z hz => ?_) k, k h fun z hz => ?_⟩
    · simp at hz
      rcases hz with rfl | rfl
      · exact .mem (by simp)
      · exact Cv_X h hp hq (by simp) (by simp)
    · simp at hz
      rcases hz with rfl | rfl
      · exact Rat.le_of_lt hp
      · rw [X_on h _ _ (by grind)]; grind
  · intro ⟨k, hr⟩ f hf
    have fp := hf p (by simp)
    have fx := hf (X h p q) (by simp)
    -- f · h p - h · f p is nought at p, and not below at q
    have e : ∀ z, (⟨h.ev p * f.a - f.ev p * h.a, h.ev p * f.b - f.ev p * h.b, h.ev p * f.c - f.ev p * h.c⟩ : Hf).ev z = h.ev p * f.ev z - f.ev p * h.ev z := fun z => by
      generalize h.ev p = s
      generalize f.ev p = t
      unfold Hf.ev; grind
    have := k ⟨h.ev p * f.a - f.ev p * h.a, h.ev p * f.b - f.ev p * h.b, h.ev p * f.c - f.ev p * h.c⟩ fun z hz => by
      rw [e]
      simp at hz
      rcases hz with rfl | rfl
      · grind
      · have m := X_mix h f hp hq
        have m2 := mul_nn fx (show 0 ≤ h.ev p - h.ev z by grind)
        grind
    rw [e] at this
    have m := mul_nn fp hr
    refine mul_nn_l hp ?_
    grind
theorem Cv_pair (p q r : P) : Cv [p, q] r ↔ Cv [q, p] r := ⟨Cv.mono fun z hz => by simp at hz ⊢; grind, Cv.mono fun z hz => by simp at hz ⊢; grind⟩
theorem X_ne {h : Hf} {p q : P} (hp : 0 < h.ev p) (hq : h.ev q < 0) : p ≠ X h p q := fun e => by
  have := X_on h p q (by grind)
  rw [← e] at this; grind
section
variable {t : Nat} {a0 b0 c0 : Int} (ba : Bn t a0) (bb : Bn t b0) (bc : Bn t c0) (nz : a0 ≠ 0 ∨ b0 ≠ 0)
include ba bb bc nz
theorem cut_bnd {p q : P} (hp : 0 < (hI a0 b0 c0).ev p) (hq : (hI a0 b0 c0).ev q < 0) (b : Bnd t [p, q]) : Bnd t [p, X (hI a0 b0 c0) p q] := by
  have hs : SB t p q := b.s p q (by rw [sides_two]; simp)
  have ne : p ≠ q := fun e => by rw [e] at hp; grind
  have hs2 : SB t p (X (hI a0 b0 c0) p q) := by
    obtain ⟨a', b', c', h1, h2, h3, h4⟩ := hs
    refine ⟨a', b', c', h1, h2, h3, ?_⟩
    rw [onL_iff] at *
    refine on_line ne h3 h4 ?_
    have := X_ev (hI a0 b0 c0) (crH p q) p q (by grind)
    rw [crH_ev, crH_ev, crH_ev, cr_l, cr_r] at this
    exact mul_cancel_r (show (hI a0 b0 c0).ev p - (hI a0 b0 c0).ev q ≠ 0 by grind) (by rw [this]; grind)
  refine ⟨fun z hz => ?_, fun x y hs3 => ?_⟩
  · simp at hz
    rcases hz with rfl | rfl
    · exact b.c z (by simp)
    · exact CB_X ba bb bc hs (by grind)
  · rw [sides_two] at hs3
    simp at hs3
    rcases hs3 with ⟨rfl, rfl⟩ | ⟨rfl, rfl⟩
    · exact hs2.symm
    · exact hs2
omit nz in
theorem bnd_one {p : P} (h : CB t p) : Bnd t [p] := by
  refine ⟨fun z hz => by simp at hz; rw [hz]; exact h, fun x y hs => ?_⟩
  rw [sides_one] at hs
  simp at hs
  obtain ⟨rfl, rfl⟩ := hs
  obtain ⟨a, b, c, a', b', c', h1, h2, h3, h4, h5⟩ := h
  refine ⟨a, b, c, h1, ?_, h4, h4⟩
  apply Classical.byContradiction
  intro z
  have z1 : a = 0 := by apply Classical.byContradiction; intro k; exact z (.inl k)
  have z2 : b = 0 := by apply Classical.byContradiction; intro k; exact z (.inr k)
  rw [z1, z2] at h3
  simp at h3
/-- the ring of any part -/
theorem shape {L : List P} (hr : Reg L) : Shape t (hI a0 b0 c0) L (ring (hI a0 b0 c0) L) := by
  match L, hr with
  | [], _ => exact .few rfl (by simp [ring]) ⟨fun p => ⟨fun k => absurd k (Cv_nil p), fun k => absurd k.1 (Cv_nil p)⟩, fun _ => Bnd_nil t, by simp [ring]⟩
  | [a], _ =>
    have hs : ¬ (hI a0 b0 c0).ev a * (hI a0 b0 c0).ev a < 0 := by
      have := sq_nn ((hI a0 b0 c0).ev a)
      grind
    by_cases h : 0 ≤ (hI a0 b0 c0).ev a
    · have er : ring (hI a0 b0 c0) [a] = [a] := by
        rw [ring_cons, lastD_nil, ringF, if_neg hs, if_pos h]; rfl
      rw [er]
      exact .few (apart_few (by simp)) (by simp) ⟨fun p => ⟨fun k => ⟨k, k _ fun q hq => by simp at hq; rw [hq]; exact h⟩, fun k => k.1⟩, id, by simp⟩
    · have er : ring (hI a0 b0 c0) [a] = [] := by
        rw [ring_cons, lastD_nil, ringF, if_neg hs, if_neg h]; rfl
      rw [er]
      exact .few rfl (by simp) ⟨fun p => ⟨fun k => absurd k (Cv_nil p), fun k => absurd k (Cv_none (fun q hq => by simp at hq; rw [hq]; grind) p)⟩, fun _ => Bnd_nil t, by simp⟩
  | [p, q], hr =>
    have ne : p ≠ q := lex_ne (hr.1 q (by simp))
    have er : ring (hI a0 b0 c0) [p, q] = (if (hI a0 b0 c0).ev q * (hI a0 b0 c0).ev p < 0 then [X (hI a0 b0 c0) q p] else []) ++ (if 0 ≤ (hI a0 b0 c0).ev p then [p] else []) ++ ((if (hI a0 b0 c0).ev p * (hI a0 b0 c0).ev q < 0 then [X (hI a0 b0 c0) p q] else []) ++ (if 0 ≤ (hI a0 b0 c0).ev q then [q] else [])) := by
      rw [ring_cons, lastD_cons, lastD_nil, ringF, ringF, ringF]; simp
    have mc : (hI a0 b0 c0).ev q * (hI a0 b0 c0).ev p = (hI a0 b0 c0).ev p * (hI a0 b0 c0).ev q := by grind
    have xc : (hI a0 b0 c0).ev p ≠ (hI a0 b0 c0).ev q → X (hI a0 b0 c0) q p = X (hI a0 b0 c0) p q := fun n => X_comm _ _ _ (by grind)
    rw [er, mc]
    by_cases hp : 0 ≤ (hI a0 b0 c0).ev p
    · by_cases hq : 0 ≤ (hI a0 b0 c0).ev q
      · have := mul_nn hp hq
        rw [if_neg (by grind), if_pos hp, if_neg (by grind), if_pos hq]
        have ea : apart [p, q] = [p, q] := apart_self (by simp [ne]) (by simp)
        exact .two p q ea ne ⟨fun r => ⟨fun k => ⟨k, k _ fun z hz => by simp at hz; rcases hz with rfl | rfl <;> assumption⟩, fun k => k.1⟩, id, by simp⟩
      · have hq' : (hI a0 b0 c0).ev q < 0 := by grind
        by_cases hp0 : 0 < (hI a0 b0 c0).ev p
        · have := mul_lt0 hp0 hq'
          have n2 := X_ne hp0 hq'
          rw [if_pos this, if_pos hp, if_pos this, if_neg hq, xc (by grind)]
          have ea : apart ([X (hI a0 b0 c0) p q] ++ [p] ++ ([X (hI a0 b0 c0) p q] ++ [])) = [p, X (hI a0 b0 c0) p q] := by
            show ((chainS (X (hI a0 b0 c0) p q) [X (hI a0 b0 c0) p q, p, X (hI a0 b0 c0) p q]).filter neB).map _ = _
            rw [chainS, chainS, chainS, chainS, List.filter_cons, neB_false rfl, List.filter_cons, neB_true n2, List.filter_cons, neB_true n2.symm]; rfl
          exact .two _ _ ea n2 ⟨Cv_cut hp0 hq', cut_bnd ba bb bc nz hp0 hq', by simp⟩
        · have hp1 : (hI a0 b0 c0).ev p = 0 := by grind
          rw [hp1, if_neg (by grind), if_pos (by grind), if_neg (by grind), if_neg hq]
          refine .few (apart_few (by simp)) (by simp) ⟨fun r => ⟨fun k => ?_, fun ⟨k, hr⟩ => ?_⟩, fun b => bnd_one ba bb bc (b.c p (by simp)), by simp⟩
          · exact ⟨Cv.mono (fun z hz => by simp at hz; simp [hz]) k, k _ fun z hz => by simp at hz; rw [hz, hp1]; grind⟩
          · have n0 : (hI a0 b0 c0).ev r = 0 := by
              have := k ⟨-(hI a0 b0 c0).a, -(hI a0 b0 c0).b, -(hI a0 b0 c0).c⟩ fun z hz => by
                rw [neg_ev]; simp at hz; rcases hz with rfl | rfl <;> grind
              rw [neg_ev] at this; grind
            refine Cv.face (A := [p]) (f := ⟨-(hI a0 b0 c0).a, -(hI a0 b0 c0).b, -(hI a0 b0 c0).c⟩) k (fun z hz => ?_) (by rw [neg_ev, n0]; grind) (fun z hz => by rw [neg_ev]; simp at hz; rw [hz, hp1]; grind)
            rw [neg_ev]
            simp at hz
            rcases hz with rfl | rfl
            · exact .inl (by simp)
            · exact .inr (by grind)
    · have hp' : (hI a0 b0 c0).ev p < 0 := by grind
      by_cases hq : 0 ≤ (hI a0 b0 c0).ev q
      · by_cases hq0 : 0 < (hI a0 b0 c0).ev q
        · have := mul_lt0 hq0 hp'
          have n2 := X_ne hq0 hp'
          rw [if_pos (by grind), if_neg hp, if_pos (by grind), if_pos hq, ← xc (by grind)]
          have ea : apart ([X (hI a0 b0 c0) q p] ++ [] ++ ([X (hI a0 b0 c0) q p] ++ [q])) = [X (hI a0 b0 c0) q p, q] := by
            show ((chainS q [X (hI a0 b0 c0) q p, X (hI a0 b0 c0) q p, q]).filter neB).map _ = _
            rw [chainS, chainS, chainS, chainS, List.filter_cons, neB_true n2.symm, List.filter_cons, neB_false rfl, List.filter_cons, neB_true n2]; rfl
          refine .two _ _ ea n2.symm ⟨fun r => ?_, fun b => ?_, by simp⟩
          · rw [Cv_pair, Cv_cut hq0 hp' r, Cv_pair]
          · have b' : Bnd t [q, p] := b.like (Like.rot [q] [p])
            exact (cut_bnd ba bb bc nz hq0 hp' b').like (Like.rot [X (hI a0 b0 c0) q p] [q])
        · have hq1 : (hI a0 b0 c0).ev q = 0 := by grind
          rw [hq1, if_neg (by grind), if_neg hp, if_neg (by grind), if_pos (by grind)]
          refine .few (apart_few (by simp)) (by simp) ⟨fun r => ⟨fun k => ?_, fun ⟨k, hr⟩ => ?_⟩, fun b => bnd_one ba bb bc (b.c q (by simp)), by simp⟩
          · exact ⟨Cv.mono (fun z hz => by simp at hz; simp [hz]) k, k _ fun z hz => by simp at hz; rw [hz, hq1]; grind⟩
          · have n0 : (hI a0 b0 c0).ev r = 0 := by
              have := k ⟨-(hI a0 b0 c0).a, -(hI a0 b0 c0).b, -(hI a0 b0 c0).c⟩ fun z hz => by
                rw [neg_ev]; simp at hz; rcases hz with rfl | rfl <;> grind
              rw [neg_ev] at this; grind
            refine Cv.face (A := [q]) (f := ⟨-(hI a0 b0 c0).a, -(hI a0 b0 c0).b, -(hI a0 b0 c0).c⟩) k (fun z hz => ?_) (by rw [neg_ev, n0]; grind) (fun z hz => by rw [neg_ev]; simp at hz; rw [hz, hq1]; grind)
            rw [neg_ev]
            simp at hz
            rcases hz with rfl | rfl
            · exact .inr (by grind)
            · exact .inl (by simp)
      · have hq' : (hI a0 b0 c0).ev q < 0 := by grind
        have := mul_neg_neg hp' hq'
        rw [if_neg (by grind), if_neg hp, if_neg (by grind), if_neg hq]
        refine .few rfl (by simp) ⟨fun r => ⟨fun k => absurd k (Cv_nil r), fun k => absurd k (Cv_none (fun z hz => ?_) r)⟩, fun _ => Bnd_nil t, by simp⟩
        simp at hz; rcases hz with rfl | rfl <;> assumption
  | a :: b :: c :: l, hr => exact shape3 ba bb bc nz hr.cvx (by simp)
end
/-- what tidying tells -/
inductive Tidy (R : List P) : List P → Prop where
  | few (e : apart R = []) (l : R.length ≤ 1) : Tidy R R
  | two (a b : P) (e : apart R = [a, b] ∨ apart R = [b, a]) (l : lex a b) : Tidy R [a, b]
  | more (i : Nat) (e : 3 ≤ (apart R).length) (h : ∀ q ∈ apart R, ∀ p, (apart R)[i]? = some p → q = p ∨ lex p q) (hi : i < (apart R).length) : Tidy R ((apart R).drop i ++ (apart R).take i)
theorem Tidy.right {t : Nat} {h : Hf} {L R M : List P} (s : Shape t h L R) (k : Tidy R M) : Reg M ∧ Good t h L M := by
  cases k with
  | few e l =>
    cases s with
    | few _ _ g =>
      refine ⟨?_, g⟩
      match R, l with
      | [], _ => trivial
      | [a], _ => exact ⟨by simp, fun x y z k => by have := k.length_le; simp at this⟩
    | two a b e2 => rw [e] at e2; cases e2
    | more e2 => rw [e] at e2; simp at e2
  | two a b e l =>
    have reg : Reg [a, b] := ⟨by simpa using l, fun x y z k => by have := k.length_le; simp at this⟩
    cases s with
    | few e2 => rw [e2] at e; simp at e
    | two x y e2 n g =>
      rw [e2] at e
      simp at e
      rcases e with ⟨rfl, rfl⟩ | ⟨rfl, rfl⟩
      · exact ⟨reg, g⟩
      · exact ⟨reg, (Like.rot [y] [x]).good g⟩
    | more e2 => rcases e with e | e <;> rw [e] at e2 <;> simp at e2
  | more i e hh hi =>
    cases s with
    | few e2 => rw [e2] at e; simp at e
    | two x y e2 => rw [e2] at e; simp at e
    | more e2 c g =>
      have rot := Like.rot ((apart R).drop i) ((apart R).take i)
      rw [List.take_append_drop] at rot
      refine ⟨?_, rot.good g⟩
      have hc := rot.cvx.mpr c
      have hn : ((apart R).drop i ++ (apart R).take i).Nodup := hc.nodup (by rw [rot.len]; exact e)
      obtain ⟨p, hp⟩ : ∃ p, (apart R)[i]? = some p := ⟨_, List.getElem?_eq_getElem hi⟩
      have ed : (apart R).drop i = p :: (apart R).drop (i + 1) := by
        rw [List.drop_eq_getElem_cons hi]
        rw [List.getElem?_eq_getElem hi] at hp
        cases hp; rfl
      rw [ed, List.cons_append] at hc hn ⊢
      refine ⟨fun b hb => ?_, hc⟩
      have hb' : b ∈ apart R := by
        rcases List.mem_append.mp hb with k | k
        · exact List.mem_of_mem_drop k
        · exact List.mem_of_mem_take k
      rcases hh b hb' p hp with e | k
      · subst e
        exact absurd hb (List.nodup_cons.mp hn).1
      · exact k
end Gm
namespace Gm
/-! ### the hull: chains -/
def Lp (x y : Rat) : Prop := 0 < x ∨ x = 0 ∧ 0 < y
theorem lex_Lp (a b : P) : lex a b ↔ Lp (b.x - a.x) (b.y - a.y) := by
  unfold lex Lp
  constructor
  · rintro (h | ⟨h1, h2⟩)
    · exact .inl (by grind)
    · exact .inr ⟨by grind, by grind⟩
  · rintro (h | ⟨h1, h2⟩)
    · exact .inl (by grind)
    · exact .inr ⟨by grind, by grind⟩
/-- turns add up -/
theorem tr_pos {a b c d e f : Rat} (h1 : Lp a b) (h2 : Lp c d) (h3 : Lp e f) (k1 : 0 < a * d - b * c) (k2 : 0 < c * f - d * e) : 0 < a * f - b * e := by
  have hc : 0 < c := by
    rcases h2 with h | ⟨h, h'⟩
    · exact h
    · exfalso
      rw [h] at k2
      have he : 0 ≤ e := by rcases h3 with h | ⟨h, _⟩ <;> grind
      have := mul_nn (Rat.le_of_lt h') he
      grind
  have ha : 0 ≤ a := by rcases h1 with h | ⟨h, _⟩ <;> grind
  have he : 0 ≤ e := by rcases h3 with h | ⟨h, _⟩ <;> grind
  have e1 : (a * f - b * e) * c = (a * d - b * c) * e + (c * f - d * e) * a := by grind
  have m1 := mul_nn (Rat.le_of_lt k1) he
  have m2 := mul_nn (Rat.le_of_lt k2) ha
  -- one of the two is above nought
  refine pos_of_mul hc ?_
  rw [e1]
  by_cases ze : 0 < e
  · have := Rat.mul_pos k1 ze; grind
  · have e0 : e = 0 := by grind
    by_cases za : 0 < a
    · have := Rat.mul_pos k2 za; grind
    · have a0 : a = 0 := by grind
      rw [a0] at k1 h1
      have hb : 0 < b := by rcases h1 with h | ⟨_, h⟩ <;> grind
      have := Rat.mul_pos hb hc
      grind
theorem tr_nn {a b c d e f : Rat} (h1 : Lp a b ∨ (a = 0 ∧ b = 0)) (h2 : Lp c d) (h3 : Lp e f ∨ (e = 0 ∧ f = 0)) (k1 : 0 ≤ a * d - b * c) (k2 : 0 ≤ c * f - d * e) : 0 ≤ a * f - b * e := by
  have ha : 0 ≤ a := by rcases h1 with (h | ⟨h, _⟩) | ⟨h, _⟩ <;> grind
  have he : 0 ≤ e := by rcases h3 with (h | ⟨h, _⟩) | ⟨h, _⟩ <;> grind
  rcases h2 with hc | ⟨hc, hd⟩
  · have e1 : (a * f - b * e) * c = (a * d - b * c) * e + (c * f - d * e) * a := by grind
    have m1 := mul_nn k1 he
    have m2 := mul_nn k2 ha
    exact nn_of_mul hc (by rw [e1]; grind)
  · rw [hc] at k1 k2
    -- c is upright: e is nought
    have e0 : e = 0 := by
      apply Classical.byContradiction
      intro z
      have := Rat.mul_pos hd (show 0 < e by grind)
      grind
    have hf : 0 ≤ f := by rcases h3 with (h | ⟨_, h⟩) | ⟨_, h⟩ <;> grind
    have := mul_nn ha hf
    rw [e0]; grind
theorem tA {w b a p : P} (h1 : lex w b) (h2 : lex b a) (h3 : lex a p) (k1 : 0 < cr w b a) (k2 : 0 < cr b a p) : 0 < cr w a p := by
  rw [lex_Lp] at *
  have := tr_pos h1 h2 h3 (by unfold cr at k1; grind) (by unfold cr at k2; grind)
  unfold cr at *; grind
theorem tB' {u w a p : P} (h1 : lex u w) (h2 : lex w a) (h3 : lex a p) (k1 : 0 < cr u w a) (k2 : 0 < cr w a p) : 0 < cr u w p := by
  rw [lex_Lp] at *
  have := tr_pos h1 h2 h3 (by unfold cr at k1; grind) (by unfold cr at k2; grind)
  unfold cr at *; grind
theorem tP {a b p q : P} (h1 : lex b a) (h2 : lex a p) (hq : lex b q ∨ q = b) (k1 : cr b a p ≤ 0) (k2 : 0 ≤ cr b a q) : 0 ≤ cr b p q := by
  have h3 := lex_trans h1 h2
  rw [lex_Lp] at h1 h3
  have := tr_nn (a := p.x - b.x) (b := p.y - b.y) (c := a.x - b.x) (d := a.y - b.y) (e := q.x - b.x) (f := q.y - b.y) (.inl h3) h1 (by
    rcases hq with h | h
    · rw [lex_Lp] at h; exact .inl h
    · subst h; exact .inr ⟨by grind, by grind⟩) (by unfold cr at k1; grind) (by unfold cr at k2; grind)
  unfold cr; grind
theorem tC {a b p q : P} (h1 : lex b a) (h2 : lex a p) (hq : lex q a) (k1 : 0 ≤ cr b a q) (k2 : 0 < cr b a p) : 0 ≤ cr a p q := by
  rw [lex_Lp] at *
  have := tr_nn (a := a.x - q.x) (b := a.y - q.y) (c := a.x - b.x) (d := a.y - b.y) (e := p.x - a.x) (f := p.y - a.y) (.inl hq) h1 (.inl h2) (by unfold cr at k1; grind) (by unfold cr at k2; grind)
  unfold cr; grind
/-- the stack: the last one first -/
noncomputable def popW (p : P) : List P → List P
  | a :: b :: l => if cr b a p ≤ 0 then popW p (b :: l) else a :: b :: l
  | l => l
noncomputable def push (st : List P) (p : P) : List P := p :: popW p st
def OkS (done : List P) : List P → Prop
  | a :: b :: l => (∀ q ∈ done, 0 ≤ cr b a q) ∧ OkS done (b :: l)
  | _ => True
/-- what holds of the stack behind the points done; first: the least one -/
structure Stk (m : P) (done st : List P) : Prop where
  sub : st.reverse.Sublist done
  cvx : Cvx st.reverse
  ok : OkS done st
  ne : st ≠ []
  bot : st.getLast? = some m
theorem OkS.tail {done : List P} {a : P} {l : List P} (h : OkS done (a :: l)) : OkS done l := by
  cases l with
  | nil => trivial
  | cons b l => exact h.2
theorem OkS.all {done : List P} {u w : P} : ∀ {l : List P}, OkS done l → (∃ x y, l = x ++ w :: u :: y) → ∀ q ∈ done, 0 ≤ cr u w q
  | [], _, ⟨x, y, e⟩, _, _ => by simp at e
  | a :: l, h, ⟨[], y, e⟩, q, hq => by
    simp at e
    obtain ⟨rfl, rfl⟩ := e
    exact h.1 q hq
  | a :: l, h, ⟨b :: x, y, e⟩, q, hq => by
    simp at e
    exact OkS.all h.tail ⟨x, y, e.2⟩ q hq
/-- while popping -/
structure Pop (m p : P) (done st : List P) : Prop where
  sub : st.reverse.Sublist done
  cvx : Cvx st.reverse
  ok : OkS done st
  bot : st.getLast? = some m
  top : ∀ t l, st = t :: l → ∀ q ∈ done, (lex t q ∨ q = t) → 0 ≤ cr t p q
theorem Pop.end {m p : P} {done : List P} (srt : done.Pairwise lex) (lt : ∀ q ∈ done, lex q p) (hm : ∀ q ∈ done, q = m ∨ lex m q) : ∀ {st : List P}, Pop m p done st → Stk m (done ++ [p]) (p :: popW p st) := fun {st} => by
  have fin : ∀ st : List P, Pop m p done st → (∀ a b l, st = a :: b :: l → 0 < cr b a p) → Stk m (done ++ [p]) (p :: st) := fun st h k => by
    have ms : ∀ q ∈ st, q ∈ done := fun q hq => h.sub.subset (List.mem_reverse.mpr hq)
    have hlex : ∀ u w, [u, w].Sublist st.reverse → lex u w := fun u w s => List.pairwise_iff_forall_sublist.mp srt (s.trans h.sub)
    -- all triples with p
    have see : ∀ u w, [u, w].Sublist st.reverse → 0 < cr u w p := by
      match st, h, k, ms, hlex with
      | [], _, _, _, _ => intro u w s; cases s
      | [a], _, _, _, _ => intro u w s; have := s.length_le; simp at this
      | a :: b :: l, h, k, ms, hlex =>
        have hab : lex b a := hlex b a (by simp)
        have hap : lex a p := lt a (ms a (by simp))
        have hA : ∀ w, w ∈ b :: l → 0 < cr w a p := fun w hw => by
          rcases List.mem_cons.mp hw with rfl | hw
          · exact k a w l rfl
          · have s : [w, b, a].Sublist (a :: b :: l).reverse := by
              have : [w].Sublist l.reverse := List.singleton_sublist.mpr (List.mem_reverse.mpr hw)
              have := this.append (List.Sublist.refl [b, a])
              simpa using this
            exact tA (hlex w b (((List.Sublist.refl [w, b]).append (List.nil_sublist [a])).trans s)) hab hap (h.cvx w b a s) (k a b l rfl)
        intro u w s
        have e : (a :: b :: l).reverse = (b :: l).reverse ++ [a] := by simp
        rw [e] at s
        obtain ⟨s1, s2, es, hs1, hs2⟩ := List.sublist_append_iff.mp s
        match s2, hs2, s1, es, hs1 with
        | [], _, s1, es, hs1 =>
          simp at es; subst es
          have s3 : [u, w, a].Sublist (a :: b :: l).reverse := by
            have := hs1.append (List.Sublist.refl [a])
            rw [e]; simpa using this
          have wm : w ∈ b :: l := List.mem_reverse.mp (hs1.subset (by simp))
          exact tB' (hlex u w (((List.Sublist.refl [u, w]).append (List.nil_sublist [a])).trans s3)) (hlex w a (((List.Sublist.refl [w, a]).cons u).trans s3)) hap (h.cvx u w a s3) (hA w wm)
        | [x], hs2, [y], es, hs1 =>
          simp at es
          obtain ⟨rfl, rfl⟩ := es
          have : w = a := by simpa using hs2.subset (List.mem_singleton_self w)
          subst this
          exact hA u (List.mem_reverse.mp (hs1.subset (by simp)))
        | [x], hs2, [], es, _ => simp at es
        | [x], hs2, _ :: _ :: _, es, _ => simp at es
        | _ :: _ :: _, hs2, _, es, _ => have := hs2.length_le; simp at this
    refine ⟨?_, ?_, ?_, by simp, ?_⟩
    · rw [List.reverse_cons]; exact h.sub.append (List.Sublist.refl [p])
    · rw [List.reverse_cons]
      refine Cvx_app h.cvx (fun x y z k => by have := k.length_le; simp at this) (fun x _ y z k => by have := k.length_le; simp at this) (fun c hc u w s => ?_)
      simp at hc; subst hc
      exact see u w s
    · -- the sides
      have old : ∀ l x, st = x ++ l → OkS (done ++ [p]) l := fun l => by
        induction l with
        | nil => intro x _; trivial
        | cons a l ih =>
          intro x e
          cases l with
          | nil => trivial
          | cons b l =>
            refine ⟨fun q hq => ?_, ih (x ++ [a]) (by simp [e])⟩
            rcases List.mem_append.mp hq with hq | hq
            · exact OkS.all h.ok ⟨x, l, e⟩ q hq
            · simp at hq; subst hq
              refine Rat.le_of_lt (see b a ?_)
              rw [e]
              have : ([b, a] : List P).Sublist ((a :: b :: l).reverse) := by simp
              rw [List.reverse_append]
              exact this.trans (List.sublist_append_left _ _)
      match st, h, k, ms, hlex, see, old with
      | [], _, _, _, _, _, _ => trivial
      | a :: l, h, k, ms, hlex, see, old =>
        refine ⟨fun q hq => ?_, old (a :: l) [] rfl⟩
        rcases List.mem_append.mp hq with hq | hq
        · rcases lex_tot a q with z | z | z
          · exact h.top a l rfl q hq (.inl z)
          · exact h.top a l rfl q hq (.inr z.symm)
          · cases l with
            | nil =>
              have : a = m := by have := h.bot; simpa using this
              subst this
              rcases hm q hq with e | e
              · subst e; exact absurd z (lex_irr q)
              · exact absurd z (lex_asym e)
            | cons b l =>
              exact tC (hlex b a (by simp)) (lt a (ms a (by simp))) z (h.ok.1 q hq) (k a b l rfl)
        · simp at hq; subst hq; rw [cr_r]; grind
    · cases st with
      | nil => have := h.bot; simp at this
      | cons a l => rw [List.getLast?_cons_cons]; exact h.bot
  induction st with
  | nil => intro h; exact fin [] h (fun a b l e => by cases e)
  | cons a l ih =>
    cases l with
    | nil => intro h; exact fin [a] h (fun x y l e => by cases e)
    | cons b l =>
      intro h
      rw [popW]
      split
      · rename_i hc
        refine ih ⟨?_, ?_, h.ok.tail, ?_, fun t l' e q hq hq2 => ?_⟩
        · refine List.Sublist.trans ?_ h.sub
          rw [List.reverse_cons (a := a)]
          exact List.sublist_append_left _ _
        · refine h.cvx.sub ?_
          rw [List.reverse_cons (a := a)]
          exact List.sublist_append_left _ _
        · have := h.bot; rw [List.getLast?_cons_cons] at this; exact this
        · cases e
          have ms : ∀ q ∈ a :: b :: l, q ∈ done := fun q hq => h.sub.subset (List.mem_reverse.mpr hq)
          have hab : lex b a := List.pairwise_iff_forall_sublist.mp srt ((show [b, a].Sublist (a :: b :: l).reverse by simp).trans h.sub)
          exact tP hab (lt a (ms a (by simp))) hq2 hc (h.ok.1 q hq)
      · rename_i hc
        exact fin _ h (fun x y l e => by cases e; grind)
theorem Stk.push {m p : P} {done st : List P} (srt : done.Pairwise lex) (lt : ∀ q ∈ done, lex q p) (hm : ∀ q ∈ done, q = m ∨ lex m q) (h : Stk m done st) (top : ∀ t l, st = t :: l → ∀ q ∈ done, q = t ∨ lex q t) : Stk m (done ++ [p]) (push st p) :=
  Pop.end srt lt hm ⟨h.sub, h.cvx, h.ok, h.bot, fun t l e q hq hq2 => by
    rcases top t l e q hq with e2 | e2
    · subst e2; rw [cr_l]; grind
    · rcases hq2 with k | k
      · exact absurd k (lex_asym e2)
      · subst k; rw [cr_l]; grind⟩
noncomputable def chain (row : List P) : List P := row.foldl push []
theorem chain_stk {m : P} : ∀ (r done st : List P), (done ++ r).Pairwise lex → (∀ q ∈ done ++ r, q = m ∨ lex m q) → Stk m done st → (∀ t l, st = t :: l → ∀ q ∈ done, q = t ∨ lex q t) → Stk m (done ++ r) (r.foldl push st)
  | [], done, st, _, _, h, _ => by simpa using h
  | p :: r, done, st, srt, hm, h, top => by
    have s1 := List.pairwise_append.mp srt
    rw [List.foldl_cons, show done ++ p :: r = (done ++ [p]) ++ r by simp]
    refine chain_stk r (done ++ [p]) (push st p) (by simpa using srt) (by simpa using hm) (h.push s1.1 (fun q hq => s1.2.2 q hq p (by simp)) (fun q hq => hm q (by simp [hq])) top) (fun t l e q hq => ?_)
    unfold push at e
    cases e
    rcases List.mem_append.mp hq with hq | hq
    · exact .inr (s1.2.2 q hq p (by simp))
    · simp at hq; exact .inl hq
theorem chain_all {m : P} {r : List P} (srt : (m :: r).Pairwise lex) : Stk m (m :: r) (chain (m :: r)) := by
  have h0 : Stk m [m] [m] := ⟨by simp, fun x y z k => by have := k.length_le; simp at this, trivial, by simp, rfl⟩
  have := chain_stk (m := m) r [m] [m] srt (fun q hq => by
    rw [List.pairwise_cons] at srt
    rcases List.mem_cons.mp hq with e | e
    · exact .inl e
    · exact .inr (srt.1 q e)) h0 (fun t l e q hq => by cases e; simp at hq; exact .inl hq)
  simpa [chain, push, popW] using this
theorem push_top (st : List P) (p : P) : (push st p).head? = some p := rfl
theorem chain_top : ∀ {r : List P} {z : P}, (chain (r ++ [z])).head? = some z := fun {r z} => by unfold chain; rw [List.foldl_append]; rfl
end Gm
namespace Gm
def neg (p : P) : P := ⟨-p.x, -p.y⟩
theorem neg_neg (p : P) : neg (neg p) = p := P.ext' (by unfold neg; grind) (by unfold neg; grind)
theorem cr_neg (a b c : P) : cr (neg a) (neg b) (neg c) = cr a b c := by unfold cr neg; grind
theorem lex_neg {a b : P} : lex (neg a) (neg b) ↔ lex b a := by
  unfold lex neg
  constructor
  · rintro (h | ⟨h1, h2⟩)
    · exact .inl (by grind)
    · exact .inr ⟨by grind, by grind⟩
  · rintro (h | ⟨h1, h2⟩)
    · exact .inl (by grind)
    · exact .inr ⟨by grind, by grind⟩
theorem map_neg_neg (l : List P) : (l.map neg).map neg = l := by
  rw [List.map_map]
  exact (List.map_congr_left (fun p _ => neg_neg p)).trans (List.map_id l)
theorem popW_neg (p : P) : ∀ l : List P, popW (neg p) (l.map neg) = (popW p l).map neg
  | [] => rfl
  | [a] => rfl
  | a :: b :: l => by
    show popW (neg p) (neg a :: neg b :: l.map neg) = _
    rw [popW, popW, cr_neg]
    split
    · exact popW_neg p (b :: l)
    · rfl
theorem fold_neg : ∀ (r st : List P), (r.map neg).foldl push (st.map neg) = (r.foldl push st).map neg
  | [], st => rfl
  | p :: r, st => by
    rw [List.map_cons, List.foldl_cons, List.foldl_cons]
    have : push (st.map neg) (neg p) = (push st p).map neg := by unfold push; rw [popW_neg]; rfl
    rw [this, fold_neg r]
theorem chain_neg (r : List P) : chain (r.map neg) = (chain r).map neg := fold_neg r []
theorem Cvx.neg {l : List P} (h : Cvx (l.map neg)) : Cvx l := fun a b c k => by
  rw [← cr_neg]
  exact h _ _ _ (by simpa using k.map Gm.neg)
theorem chainS_map (f : P → P) : ∀ (l : List P) (a : P), chainS (f a) (l.map f) = (chainS a l).map fun x => (f x.1, f x.2)
  | [], _ => rfl
  | b :: l, a => by rw [List.map_cons, chainS, chainS, List.map_cons, chainS_map f l b]
/-- one half of the hull -/
structure Half (m M : P) (s li : List P) : Prop where
  cvx : Cvx (m :: li ++ [M])
  sd : ∀ u w, (u, w) ∈ chainS m (li ++ [M]) → ∀ q ∈ s, 0 ≤ cr u w q
  mem : ∀ q ∈ li, q ∈ s
theorem chain_half {m M : P} {r : List P} (srt : (m :: r ++ [M]).Pairwise lex) : ∃ li, (chain (m :: r ++ [M])).reverse = m :: li ++ [M] ∧ Half m M (m :: r ++ [M]) li ∧ (∀ q ∈ li, lex m q ∧ lex q M) ∧ li.Pairwise lex := by
  have k : Stk m (m :: r ++ [M]) (chain (m :: r ++ [M])) := chain_all (m := m) (r := r ++ [M]) srt
  have ht : (chain (m :: r ++ [M])).head? = some M := chain_top
  generalize chain (m :: r ++ [M]) = st at *
  obtain ⟨st', e⟩ : ∃ st', st = M :: st' := by
    cases st with
    | nil => simp at ht
    | cons a l => simp at ht; subst ht; exact ⟨l, rfl⟩
  subst e
  have ne : st' ≠ [] := by
    intro z
    subst z
    have := k.bot
    simp at this
    subst this
    simp at srt
    exact lex_irr M (srt.1 M (.inr rfl))
  obtain ⟨l2, z, e⟩ : ∃ l2 z, st' = l2 ++ [z] := ⟨st'.dropLast, st'.getLast ne, (List.dropLast_concat_getLast ne).symm⟩
  subst e
  have hz : z = m := by
    have := k.bot
    rw [← List.cons_append, List.getLast?_concat] at this
    simpa using this
  subst hz
  have er : (M :: (l2 ++ [z])).reverse = z :: l2.reverse ++ [M] := by simp
  have hlex : (z :: l2.reverse ++ [M]).Pairwise lex := by
    rw [← er]
    exact List.Pairwise.sublist k.sub srt
  refine ⟨l2.reverse, er, ⟨er ▸ k.cvx, fun u w hs q hq => ?_, fun q hq => ?_⟩, fun q hq => ?_, ?_⟩
  · refine OkS.all k.ok ?_ q hq
    rcases chainS_split hs with ⟨rfl, m, e⟩ | ⟨x, y, e⟩
    · -- first side
      have : (l2.reverse ++ [M]).reverse = m.reverse ++ [w] := by rw [e]; simp
      simp at this
      exact ⟨m.reverse, [], by rw [← List.cons_append, this]; simp⟩
    · have : (l2.reverse ++ [M]).reverse = y.reverse ++ w :: u :: x.reverse := by rw [e]; simp
      simp at this
      exact ⟨y.reverse, x.reverse ++ [z], by rw [← List.cons_append, this]; simp⟩
  · have : q ∈ (M :: (l2 ++ [z])).reverse := by rw [er]; simp at hq ⊢; simp [hq]
    exact k.sub.subset this
  · rw [List.cons_append, List.pairwise_cons] at hlex
    exact ⟨hlex.1 q (by simp at hq ⊢; simp [hq]), (List.pairwise_append.mp hlex.2).2.2 q hq M (by simp)⟩
  · rw [List.cons_append, List.pairwise_cons] at hlex
    exact (List.pairwise_append.mp hlex.2).1
/-- the other half, by turning -/
theorem chain_half' {m M : P} {r : List P} (srt : (m :: r ++ [M]).Pairwise lex) : ∃ ui, (chain (m :: r ++ [M]).reverse).reverse = M :: ui ++ [m] ∧ Half M m (m :: r ++ [M]) ui ∧ (∀ q ∈ ui, lex m q ∧ lex q M) ∧ (ui.map neg).Pairwise lex := by
  have srt' : (neg M :: (r.reverse.map neg) ++ [neg m]).Pairwise lex := by
    have e : neg M :: (r.reverse.map neg) ++ [neg m] = ((m :: r ++ [M]).reverse).map neg := by simp
    rw [e, List.pairwise_map, List.pairwise_reverse]
    exact List.Pairwise.imp (fun {a b} h => lex_neg.mpr h) srt
  obtain ⟨li, e, h, hl, hp⟩ := chain_half srt'
  have e2 : neg M :: (r.reverse.map neg) ++ [neg m] = ((m :: r ++ [M]).reverse).map neg := by simp
  rw [e2, chain_neg] at e
  refine ⟨li.map neg, ?_, ⟨?_, fun u w hs q hq => ?_, fun q hq => ?_⟩, fun q hq => ?_, by rw [map_neg_neg]; exact hp⟩
  · have : (((chain (m :: r ++ [M]).reverse).map neg).reverse).map neg = (neg M :: li ++ [neg m]).map neg := by rw [e]
    rw [← List.map_reverse, map_neg_neg] at this
    rw [this]
    simp [neg_neg]
  · refine Cvx.neg ?_
    have : (M :: li.map neg ++ [m]).map neg = neg M :: li ++ [neg m] := by
      rw [List.map_append, List.map_cons, map_neg_neg]; rfl
    rw [this]; exact h.cvx
  · have : (neg u, neg w) ∈ chainS (neg M) (li ++ [neg m]) := by
      have e3 : li ++ [neg m] = (li.map neg ++ [m]).map neg := by rw [List.map_append, map_neg_neg]; rfl
      rw [e3, chainS_map]
      exact List.mem_map.mpr ⟨(u, w), hs, rfl⟩
    have k := h.sd _ _ this (neg q) (by rw [e2]; exact List.mem_map.mpr ⟨q, List.mem_reverse.mpr hq, rfl⟩)
    rw [cr_neg] at k; exact k
  · obtain ⟨x, hx, rfl⟩ := List.mem_map.mp hq
    have := h.mem x hx
    rw [e2] at this
    obtain ⟨y, hy, rfl⟩ := List.mem_map.mp this
    rw [neg_neg]; exact List.mem_reverse.mp hy
  · obtain ⟨x, hx, rfl⟩ := List.mem_map.mp hq
    obtain ⟨h1, h2⟩ := hl x hx
    rw [← neg_neg x] at h1 h2
    exact ⟨lex_neg.mp h2, lex_neg.mp h1⟩
theorem K1 {m M b c : P} (h1 : lex m b) (h2 : lex m M) (h3 : lex m c) (k1 : 0 < cr m b M) (k2 : 0 < cr m M c) : 0 < cr m b c := by
  rw [lex_Lp] at *
  have := tr_pos h1 h2 h3 (by unfold cr at k1; grind) (by unfold cr at k2; grind)
  unfold cr; grind
theorem K3 {m M a c : P} (h1 : lex a M) (h2 : lex m M) (h3 : lex c M) (k1 : 0 < cr m a M) (k2 : 0 < cr m M c) : 0 < cr a M c := by
  rw [lex_Lp] at *
  have := tr_pos h3 h2 h1 (by unfold cr at k2; grind) (by unfold cr at k1; grind)
  unfold cr; grind
theorem K2 {m M a b c : P} (hma : lex m a) (hab : lex a b) (hbM : lex b M) (hmc : lex m c) (hcM : lex c M) (k1 : 0 < cr m a b) (k2 : 0 < cr a b M) (k3 : 0 < cr m a M) (k4 : 0 < cr m b M) (k5 : 0 < cr m M c) : 0 < cr a b c := by
  have hmM := lex_trans hmc hcM
  rcases lex_tot a c with h | h | h
  · have e := K3 (lex_trans hab hbM) hmM hcM k3 k5
    have hM := lex_trans hab hbM
    rw [lex_Lp] at *
    have := tr_pos hab hM h (by unfold cr at k2; grind) (by unfold cr at e; grind)
    unfold cr; grind
  · subst h
    have := cr_swap2 m a M
    grind
  · have e := K1 (lex_trans hma hab) hmM hmc k4 k5
    have hmb := lex_trans hma hab
    have hcb := lex_trans h hab
    rw [lex_Lp] at *
    have := tr_pos hcb hmb hab (by unfold cr at e; grind) (by unfold cr at k1; grind)
    unfold cr; grind
theorem seg_cv {m M q : P} (h1 : lex m q ∨ q = m) (h2 : lex q M ∨ q = M) (k : cr m M q = 0) : Cv [m, M] q := fun f hf => by
  have f1 := hf m (by simp)
  have f2 := hf M (by simp)
  rcases h1 with h1 | h1
  · rcases h2 with h2 | h2
    · have h3 := lex_trans h1 h2
      unfold lex at h1 h2 h3
      by_cases hx : m.x < M.x
      · have e : f.ev q * (M.x - m.x) = f.ev m * (M.x - q.x) + f.ev M * (q.x - m.x) + f.b * cr m M q := by unfold Hf.ev cr; grind
        rw [k] at e
        have m1 := mul_nn f1 (show 0 ≤ M.x - q.x by grind)
        have m2 := mul_nn f2 (show 0 ≤ q.x - m.x by grind)
        exact nn_of_mul (show 0 < M.x - m.x by grind) (by rw [e]; grind)
      · have ex : m.x = M.x := by grind
        have eq' : q.x = m.x := by grind
        have e : f.ev q * (M.y - m.y) = f.ev m * (M.y - q.y) + f.ev M * (q.y - m.y) := by
          unfold Hf.ev; rw [eq', ← ex]; grind
        have m1 := mul_nn f1 (show 0 ≤ M.y - q.y by grind)
        have m2 := mul_nn f2 (show 0 ≤ q.y - m.y by grind)
        exact nn_of_mul (show 0 < M.y - m.y by grind) (by rw [e]; grind)
    · rw [h2]; exact f2
  · rw [h1]; exact f1
theorem sub_head {a u w : P} {l t : List P} (h : [u, w].Sublist l) : [a, u, w].Sublist (a :: l ++ t) := by
  have := (h.cons_cons a).append (List.nil_sublist t)
  simpa using this
theorem sub_last {u w z : P} {l : List P} {a : P} (h : [u, w].Sublist l) : [u, w, z].Sublist (a :: l ++ [z]) := by
  have := (h.cons a).append (List.Sublist.refl [z])
  simpa using this
theorem sub_mid {a u z : P} {l : List P} (h : u ∈ l) : [a, u, z].Sublist (a :: l ++ [z]) := by
  have := ((List.singleton_sublist.mpr h).cons_cons a).append (List.Sublist.refl [z])
  simpa using this
/-- the ring of both halves -/
theorem hull_ring {m M : P} {r li ui : List P} (srt : (m :: r ++ [M]).Pairwise lex) (H : Half m M (m :: r ++ [M]) li) (U : Half M m (m :: r ++ [M]) ui) (hl : ∀ q ∈ li, lex m q ∧ lex q M) (hu : ∀ q ∈ ui, lex m q ∧ lex q M) (pl : li.Pairwise lex) (pu : (ui.map neg).Pairwise lex) :
    Reg (m :: li ++ M :: ui) ∧ ∀ p, Cv (m :: li ++ M :: ui) p ↔ Cv (m :: r ++ [M]) p := by
  have hmM : lex m M := by
    rw [List.cons_append, List.pairwise_cons] at srt
    exact srt.1 M (by simp)
  have cl : ∀ a ∈ li, 0 < cr m a M := fun a ha => H.cvx _ _ _ (sub_mid ha)
  have cu : ∀ c ∈ ui, 0 < cr m M c := fun c hc => by rw [cr_rot]; exact U.cvx _ _ _ (sub_mid hc)
  have ll : ∀ a b, [a, b].Sublist li → lex a b := fun a b s => List.pairwise_iff_forall_sublist.mp pl s
  have lu : ∀ a b, [a, b].Sublist ui → lex b a := fun a b s => by
    rw [List.pairwise_map] at pu
    exact lex_neg.mp (List.pairwise_iff_forall_sublist.mp pu s)
  have hc : Cvx (m :: li ++ M :: ui) := by
    refine Cvx_app (H.cvx.sub (List.sublist_append_left _ _)) (U.cvx.sub (List.sublist_append_left _ _)) (fun a ha b c s => ?_) (fun c hc a b s => ?_)
    · rcases List.mem_cons.mp ha with rfl | ha
      · rw [cr_rot]
        refine U.cvx _ _ _ ?_
        have := s.append (List.Sublist.refl [a])
        simpa using this
      · rcases s with s | s
        · -- both of the upper half
          rename_i s
          have hb := s.subset (show b ∈ [b, c] by simp)
          have hc := s.subset (show c ∈ [b, c] by simp)
          rw [cr_rot, ← cr_neg]
          refine K2 (m := neg M) (M := neg m) (lex_neg.mpr (hu b hb).2) (lex_neg.mpr (lu b c s)) (lex_neg.mpr (hu c hc).1) (lex_neg.mpr (hl a ha).2) (lex_neg.mpr (hl a ha).1) ?_ ?_ ?_ ?_ ?_
          · rw [cr_neg]; exact U.cvx _ _ _ (sub_head s)
          · rw [cr_neg]; exact U.cvx _ _ _ (sub_last s)
          · rw [cr_neg]; exact U.cvx _ _ _ (sub_mid hb)
          · rw [cr_neg]; exact U.cvx _ _ _ (sub_mid hc)
          · rw [cr_neg, cr_rot]; exact cl a ha
        · rename_i s
          have hc := s.subset (List.mem_singleton_self c)
          exact K3 (hl a ha).2 hmM (hu c hc).2 (cl a ha) (cu c hc)
    · rcases List.mem_cons.mp hc with rfl | hc
      · refine H.cvx _ _ _ ?_
        have := s.append (List.Sublist.refl [c])
        simpa using this
      · rcases s with s | s
        · rename_i s
          have ha := s.subset (show a ∈ [a, b] by simp)
          have hb := s.subset (show b ∈ [a, b] by simp)
          exact K2 (hl a ha).1 (ll a b s) (hl b hb).2 (hu c hc).1 (hu c hc).2 (H.cvx _ _ _ (sub_head s)) (H.cvx _ _ _ (sub_last s)) (cl a ha) (cl b hb) (cu c hc)
        · rename_i s
          have hb := s.subset (List.mem_singleton_self b)
          exact K1 (hl b hb).1 hmM (hu c hc).1 (cl b hb) (cu c hc)
  have ls : lastD m li ∈ m :: li := lastD_mem
  refine ⟨⟨fun b hb => ?_, hc⟩, fun p => ⟨Cv.mono fun q hq => ?_, fun k => Cv.trans (fun q hq => ?_) k⟩⟩
  · rcases List.mem_append.mp hb with hb | hb
    · exact (hl b hb).1
    · rcases List.mem_cons.mp hb with rfl | hb
      · exact hmM
      · exact (hu b hb).1
  · rcases List.mem_append.mp hq with hq | hq
    · rcases List.mem_cons.mp hq with rfl | hq
      · simp
      · exact H.mem q hq
    · rcases List.mem_cons.mp hq with rfl | hq
      · simp
      · exact U.mem q hq
  · have hin : InS (m :: li ++ M :: ui) q := fun s t hs => by
      rw [List.cons_append, sides_cons, ← List.cons_append, chainS_app, lastD_append (by simp), lastD_cons, lastD_cons, chainS, chainS] at hs
      rcases List.mem_append.mp hs with hs | hs
      · rcases List.mem_cons.mp hs with e | hs
        · cases e
          refine U.sd _ _ ?_ q hq
          rw [chainS_app]; simp [chainS]
        · refine H.sd _ _ ?_ q hq
          rw [chainS_app]; exact List.mem_append_left _ hs
      · rcases List.mem_cons.mp hs with e | hs
        · cases e
          refine H.sd _ _ ?_ q hq
          rw [chainS_app]; simp [chainS]
        · refine U.sd _ _ ?_ q hq
          rw [chainS_app]; exact List.mem_append_left _ hs
    by_cases h3 : 3 ≤ (m :: li ++ M :: ui).length
    · exact hin.cv hc h3
    · have e1 : li = [] := by
        cases li with
        | nil => rfl
        | cons _ _ => exfalso; apply h3; simp; omega
      have e2 : ui = [] := by
        cases ui with
        | nil => rfl
        | cons _ _ => exfalso; apply h3; simp; omega
      subst e1 e2
      have k1 := hin m M (by simp [sides_two])
      have k2 := hin M m (by simp [sides_two])
      rw [cr_swap] at k2
      have srt' := srt
      rw [List.cons_append, List.pairwise_cons] at srt'
      refine seg_cv ?_ ?_ (by grind)
      · rcases List.mem_cons.mp hq with e | hq
        · exact .inr e
        · exact .inl (srt'.1 q hq)
      · rcases List.mem_append.mp hq with hq | hq
        · exact .inl ((List.pairwise_append.mp srt).2.2 q hq M (by simp))
        · simp at hq; exact .inr hq
/-- the hull of a row of spots -/
noncomputable def hullR (s : List P) : List P := if s.length = 1 then (chain s).reverse else (chain s).reverse.dropLast ++ (chain s.reverse).reverse.dropLast
theorem hullR_right {s : List P} (srt : s.Pairwise lex) : Reg (hullR s) ∧ (∀ p, Cv (hullR s) p ↔ Cv s p) ∧ ∀ q ∈ hullR s, q ∈ s := by
  match s, srt with
  | [], _ => exact ⟨trivial, fun p => Iff.rfl, fun q hq => hq⟩
  | [a], _ =>
    have : hullR [a] = [a] := by unfold hullR; rfl
    rw [this]
    exact ⟨⟨by simp, fun x y z k => by have := k.length_le; simp at this⟩, fun p => Iff.rfl, fun q hq => hq⟩
  | m :: b :: r0, srt =>
    obtain ⟨r, M, e⟩ : ∃ r M, b :: r0 = r ++ [M] := ⟨(b :: r0).dropLast, (b :: r0).getLast (by simp), (List.dropLast_concat_getLast (by simp)).symm⟩
    rw [e] at srt ⊢
    rw [← List.cons_append] at srt ⊢
    obtain ⟨li, e1, H, hl, pl⟩ := chain_half srt
    obtain ⟨ui, e2, U, hu, pu⟩ := chain_half' srt
    have er : hullR (m :: r ++ [M]) = m :: li ++ M :: ui := by
      unfold hullR
      rw [if_neg (by simp), e1, e2, List.dropLast_concat, List.dropLast_concat]
    rw [er]
    obtain ⟨k1, k2⟩ := hull_ring srt H U hl hu pl pu
    refine ⟨k1, k2, fun q hq => ?_⟩
    rcases List.mem_append.mp hq with hq | hq
    · rcases List.mem_cons.mp hq with rfl | hq
      · simp
      · exact H.mem q hq
    · rcases List.mem_cons.mp hq with rfl | hq
      · simp
      · exact U.mem q hq
end Gm
namespace Ev
open PySem L2
/-! ### sizes, found by themselves -/
class Bd (k : outParam Nat) (i : Int) : Prop where
  b : B k i
instance bdMul {k l : Nat} {i j : Int} [a : Bd k i] [b : Bd l j] : Bd (k + l) (i * j) := ⟨a.b.mul b.b⟩
instance bdAdd {k l : Nat} {i j : Int} [a : Bd k i] [b : Bd l j] : Bd (max k l + 1) (i + j) := ⟨a.b.add b.b (by omega) (by omega)⟩
instance bdSub {k l : Nat} {i j : Int} [a : Bd k i] [b : Bd l j] : Bd (max k l + 1) (i - j) := ⟨a.b.sub b.b (by omega) (by omega)⟩
instance bdNeg {k : Nat} {i : Int} [a : Bd k i] : Bd k (-i) := ⟨a.b.neg⟩
instance bd0 : Bd 1 0 := ⟨by unfold B; decide⟩
instance bd1 : Bd 1 1 := ⟨by unfold B; decide⟩
instance bd2 : Bd 2 2 := ⟨by unfold B; decide⟩
instance bd3 : Bd 2 3 := ⟨by unfold B; decide⟩
@[simp] theorem mulOk_bd {k l : Nat} {i j : Int} [a : Bd k i] [b : Bd l j] (h : k + l ≤ 134000000) : mulOk i j = true := a.b.ok b.b h
class BdT (k : outParam Nat) (t : Tr) : Prop where
  b : BT k t
instance bdT1 {k : Nat} {t : Tr} [h : BdT k t] : Bd k t.1 := ⟨h.b.1⟩
instance bdT2 {k : Nat} {t : Tr} [h : BdT k t] : Bd k t.2.1 := ⟨h.b.2.1⟩
instance bdT3 {k : Nat} {t : Tr} [h : BdT k t] : Bd k t.2.2 := ⟨h.b.2.2⟩
theorem BT.mono {k l : Nat} {t : Tr} (h : BT k t) (hl : k ≤ l) : BT l t := ⟨h.1.mono hl, h.2.1.mono hl, h.2.2.mono hl⟩
/-! ### a proposition as a truth -/
noncomputable def dB (p : Prop) : Bool := @decide p (Classical.propDecidable p)
theorem dB_iff {p : Prop} : dB p = true ↔ p := @decide_eq_true_iff p (Classical.propDecidable p)
theorem dB_not {p : Prop} : dB p = false ↔ ¬ p := @decide_eq_false_iff_not p (Classical.propDecidable p)
theorem dB_dec (p : Prop) [d : Decidable p] : decide p = dB p := by unfold dB; congr
theorem dB_congr {p q : Prop} (h : p ↔ q) : dB p = dB q := by rw [propext h]
theorem dB_true {p : Prop} (h : p) : dB p = true := dB_iff.mpr h
theorem dB_false {p : Prop} (h : ¬ p) : dB p = false := dB_not.mpr h
/-! ### the table -/
def kl : List (Nat × Fn) → Nat → Option Fn
  | [], _ => none
  | (i, f) :: t, j => if j = i then some f else kl t j
def tailOf (j : Nat) : List (Nat × Fn) → List (Nat × Fn)
  | [] => []
  | (i, _) :: t => if j = i then t else tailOf j t
def before (j : Nat) : List (Nat × Fn) → List Nat
  | [] => []
  | (i, _) :: t => if j = i then [i] else i :: before j t
theorem callT_look {n j : Nat} {f : Fn} : ∀ {t : List (Nat × Fn)}, kl t j = some f → callT n t j = runFn f (callT n (tailOf j t)) n
  | [], h => by cases h
  | (i, g) :: t, h => by
    rw [kl] at h
    by_cases e : j = i
    · rw [if_pos e] at h
      cases h
      rw [tailOf, if_pos e]
      funext ds
      rw [callT, if_pos e]
    · rw [if_neg e] at h
      rw [tailOf, if_neg e, ← callT_look h]
      funext ds
      rw [callT, if_neg e]
theorem callT_agree {n i j : Nat} : ∀ {t : List (Nat × Fn)}, j ∉ before i t → callT n (tailOf i t) j = callT n t j
  | [], _ => rfl
  | (k, g) :: t, h => by
    rw [before] at h
    by_cases e : i = k
    · rw [if_pos e] at h
      rw [tailOf, if_pos e]
      funext ds
      rw [callT, if_neg (by simpa using h)]
    · rw [if_neg e] at h
      rw [tailOf, if_neg e, callT_agree (fun z => h (List.mem_cons_of_mem _ z))]
      funext ds
      rw [callT, if_neg (fun z => h (by simp [z]))]
theorem ag {F : (List D → Rs) → Prop} {n i j : Nat} {t : List (Nat × Fn)} (h : F (callT n t j)) (ne : j ∉ before i t := by decide) : F (callT n (tailOf i t) j) := by
  rw [callT_agree ne]; exact h
theorem lk {F : (List D → Rs) → Prop} {n i : Nat} {t : List (Nat × Fn)} {f : Fn} (e : F (runFn f (callT n (tailOf i t)) n)) (h : kl t i = some f := by rfl) : F (callT n t i) := by
  rw [callT_look h]; exact e
/-! ### loops -/
theorem forF_rng {a : D → Env' → Option Env'} {b : Env' → Option Out} (I : Nat → Env' → Prop) : ∀ (m lo : Nat) (g : Env'), I lo g →
    (∀ k, lo ≤ k → k < lo + m → ∀ g, I k g → ∃ g1 g2, a (.int (k : Nat)) g = some g1 ∧ b g1 = some (.nx g2) ∧ I (k + 1) g2) → ∃ g', forF a b (rngL (lo : Nat) m) g = some (.nx g') ∧ I (lo + m) g'
  | 0, lo, g, h, _ => ⟨g, rfl, h⟩
  | m + 1, lo, g, h, k => by
    obtain ⟨g1, g2, h1, h2, h3⟩ := k lo (by omega) (by omega) g h
    rw [rngL_succ, forF_nx h1 h2]
    have := forF_rng I m (lo + 1) g2 h3 fun j j1 j2 => k j (by omega) (by omega)
    rw [show lo + (m + 1) = lo + 1 + m by omega]
    exact_mod_cast this
theorem forF_list {α : Type} (f : α → D) {a : D → Env' → Option Env'} {b : Env' → Option Out} (I : List α → Env' → Prop) : ∀ (xs done : List α) (g : Env'), I done g →
    (∀ x ∈ xs, ∀ done g, I done g → ∃ g1 g2, a (f x) g = some g1 ∧ b g1 = some (.nx g2) ∧ I (done ++ [x]) g2) → ∃ g', forF a b (xs.map f) g = some (.nx g') ∧ I (done ++ xs) g'
  | [], done, g, h, _ => ⟨g, rfl, by simpa using h⟩
  | x :: xs, done, g, h, k => by
    obtain ⟨g1, g2, h1, h2, h3⟩ := k x (by simp) done g h
    rw [List.map_cons, forF_nx h1 h2]
    have := forF_list f I xs (done ++ [x]) g2 h3 fun y hy => k y (by simp [hy])
    simpa using this
theorem forF_pre {α : Type} (f : α → D) {a : D → Env' → Option Env'} {b : Env' → Option Out} (I : List α → Env' → Prop) (all : List α) : ∀ (xs done : List α) (g : Env'), all = done ++ xs → I done g →
    (∀ done x rest g, all = done ++ x :: rest → I done g → ∃ g1 g2, a (f x) g = some g1 ∧ b g1 = some (.nx g2) ∧ I (done ++ [x]) g2) → ∃ g', forF a b (xs.map f) g = some (.nx g') ∧ I all g'
  | [], done, g, e, h, _ => ⟨g, rfl, by rw [e, List.append_nil]; exact h⟩
  | x :: xs, done, g, e, h, k => by
    obtain ⟨g1, g2, h1, h2, h3⟩ := k done x xs g e h
    rw [List.map_cons, forF_nx h1 h2]
    exact forF_pre f I all xs (done ++ [x]) g2 (by rw [e]; simp) h3 k
/-- a loop that goes through and leaves its slots in shape -/
theorem forF_ok {α : Type} (f : α → D) {a : D → Env' → Option Env'} {b : Env' → Option Out} (I : Env' → Prop) (xs : List α) (g : Env') (h : I g)
    (k : ∀ x ∈ xs, ∀ g, I g → ∃ g1 g2, a (f x) g = some g1 ∧ b g1 = some (.nx g2) ∧ I g2) : ∃ g', forF a b (xs.map f) g = some (.nx g') ∧ I g' :=
  forF_list f (fun _ => I) xs [] g h fun x hx _ g hg => k x hx g hg
/-- a loop that may return early -/
theorem forF_find {α : Type} (f : α → D) {a : D → Env' → Option Env'} {b : Env' → Option Out} (I : Env' → Prop) (c : α → Prop) (m : M) (v : D) : ∀ (xs : List α) (g : Env'), I g →
    (∀ x ∈ xs, ∀ g, I g → ∃ g1, a (f x) g = some g1 ∧ (c x → b g1 = some (.rt m v)) ∧ (¬ c x → ∃ g2, b g1 = some (.nx g2) ∧ I g2)) →
    ((∃ x ∈ xs, c x) ∧ forF a b (xs.map f) g = some (.rt m v)) ∨ ((∀ x ∈ xs, ¬ c x) ∧ ∃ g', forF a b (xs.map f) g = some (.nx g') ∧ I g')
  | [], g, h, _ => .inr ⟨(fun x hx => by cases hx), g, rfl, h⟩
  | x :: xs, g, h, k => by
    obtain ⟨g1, h1, h2, h3⟩ := k x (by simp) g h
    rw [List.map_cons]
    by_cases hc : c x
    · exact .inl ⟨⟨x, by simp, hc⟩, forF_rt h1 (h2 hc)⟩
    · obtain ⟨g2, h4, h5⟩ := h3 hc
      rw [forF_nx h1 h4]
      rcases forF_find f I c m v xs g2 h5 (fun y hy => k y (by simp [hy])) with ⟨⟨y, hy, z⟩, e⟩ | ⟨z, e⟩
      · exact .inl ⟨⟨y, by simp [hy], z⟩, e⟩
      · exact .inr ⟨fun y hy => by
          rcases List.mem_cons.mp hy with rfl | hy
          · exact hc
          · exact z y hy, e⟩
/-! ### rational numbers, spots -/
open Gm (P lex cr Cvx Reg Cv sides apart Tidy Hf hI)
theorem rat_num (a : Rat) : ((a.num : Int) : Rat) = a * ((a.den : Int) : Rat) := by
  have h := Rat.num_divInt_den a
  rw [Rat.divInt_eq_div] at h
  have hd : ((a.den : Int) : Rat) ≠ 0 := by
    have := a.den_pos
    intro z
    have : ((a.den : Int) : Rat) = ((0 : Int) : Rat) := z
    have := Rat.intCast_inj.mp this
    omega
  conv => rhs; lhs; rw [← h]
  exact (Rat.div_mul_cancel hd).symm
def qD (q : Rat) : D := .tup [.int q.num, .int q.den]
def spD (p : P) : D := .tup [qD p.x, qD p.y]
def regD (L : List P) : D := .lst (L.map spD)
class QB (k : outParam Nat) (q : Rat) : Prop where
  n : B k q.num
  d : B k q.den
class SpB (k : outParam Nat) (p : P) : Prop where
  x : QB k p.x
  y : QB k p.y
instance qbN {k : Nat} {q : Rat} [h : QB k q] : Bd k q.num := ⟨h.n⟩
instance qbD {k : Nat} {q : Rat} [h : QB k q] : Bd k (q.den : Int) := ⟨h.d⟩
instance spX {k : Nat} {p : P} [h : SpB k p] : QB k p.x := h.x
instance spY {k : Nat} {p : P} [h : SpB k p] : QB k p.y := h.y
/-- spread: over one bottom -/
def fl (p : P) : Tr := (p.x.num * p.y.den, p.y.num * p.x.den, p.x.den * p.y.den)
instance flB {k : Nat} {p : P} [h : SpB k p] : BdT (k + k) (fl p) := ⟨⟨h.x.n.mul h.y.d, h.y.n.mul h.x.d, h.x.d.mul h.y.d⟩⟩
/-- the three numbers stand for the spot -/
structure Of (t : Tr) (p : P) : Prop where
  w : 0 < t.2.2
  x : ((t.1 : Int) : Rat) = p.x * ((t.2.2 : Int) : Rat)
  y : ((t.2.1 : Int) : Rat) = p.y * ((t.2.2 : Int) : Rat)
theorem fl_of (p : P) : Of (fl p) p := by
  refine ⟨Int.mul_pos (by have := p.x.den_pos; omega) (by have := p.y.den_pos; omega), ?_, ?_⟩
  · show ((p.x.num * p.y.den : Int) : Rat) = p.x * ((p.x.den * p.y.den : Int) : Rat)
    rw [Rat.intCast_mul, Rat.intCast_mul, rat_num]; grind
  · show ((p.y.num * p.x.den : Int) : Rat) = p.y * ((p.x.den * p.y.den : Int) : Rat)
    rw [Rat.intCast_mul, Rat.intCast_mul, rat_num]; grind
/-- the turn of three spread ones -/
def det (a b c : Tr) : Int := a.1 * (b.2.1 * c.2.2 - c.2.1 * b.2.2) - a.2.1 * (b.1 * c.2.2 - c.1 * b.2.2) + a.2.2 * (b.1 * c.2.1 - c.1 * b.2.1)
def cw (a b c : Tr) : Rat := ((a.2.2 : Int) : Rat) * ((b.2.2 : Int) : Rat) * ((c.2.2 : Int) : Rat)
theorem castpos {i : Int} (h : 0 < i) : (0 : Rat) < ((i : Int) : Rat) := by exact_mod_cast h
theorem cw_pos {a b c : Tr} (ha : 0 < a.2.2) (hb : 0 < b.2.2) (hc : 0 < c.2.2) : 0 < cw a b c := Rat.mul_pos (Rat.mul_pos (castpos ha) (castpos hb)) (castpos hc)
theorem det_cr {a b c : Tr} {p q r : P} (ha : Of a p) (hb : Of b q) (hc : Of c r) : ((det a b c : Int) : Rat) = cw a b c * cr p q r := by
  have e1 := ha.x; have e2 := ha.y; have e3 := hb.x; have e4 := hb.y; have e5 := hc.x; have e6 := hc.y
  unfold det
  simp only [Rat.intCast_mul, Rat.intCast_sub, Rat.intCast_add]
  rw [e1, e2, e3, e4, e5, e6]
  unfold cw cr
  grind
theorem cast_sign {i : Int} {w r : Rat} (hw : 0 < w) (h : ((i : Int) : Rat) = w * r) : (0 < i ↔ 0 < r) ∧ (i < 0 ↔ r < 0) ∧ (i = 0 ↔ r = 0) := by
  have p : 0 < i ↔ 0 < r := by
    constructor
    · intro k
      have := castpos k
      rw [h] at this
      exact (Gm.mul_pos_l hw).mp this
    · intro k
      have := (Gm.mul_pos_l hw).mpr k
      rw [← h] at this
      exact Rat.intCast_lt_intCast.mp this
  have n : i < 0 ↔ r < 0 := by
    have h' : ((-i : Int) : Rat) = w * (-r) := by rw [Rat.intCast_neg, h]; grind
    constructor
    · intro k
      have := castpos (show 0 < -i by omega)
      rw [h'] at this
      have := (Gm.mul_pos_l hw).mp this
      grind
    · intro k
      have := (Gm.mul_pos_l hw).mpr (show 0 < -r by grind)
      rw [← h'] at this
      have : 0 < -i := Rat.intCast_lt_intCast.mp this
      omega
  refine ⟨p, n, ?_⟩
  constructor
  · intro k
    subst k
    have h1 : ¬ 0 < r := fun z => by have := p.mpr z; omega
    have h2 : ¬ r < 0 := fun z => by have := n.mpr z; omega
    grind
  · intro k
    subst k
    have h1 : ¬ 0 < i := fun z => by have := p.mp z; grind
    have h2 : ¬ i < 0 := fun z => by have := n.mp z; grind
    omega
theorem det_pos {a b c : Tr} {p q r : P} (ha : Of a p) (hb : Of b q) (hc : Of c r) : (0 < det a b c ↔ 0 < cr p q r) ∧ (det a b c < 0 ↔ cr p q r < 0) ∧ (det a b c = 0 ↔ cr p q r = 0) := cast_sign (cw_pos ha.w hb.w hc.w) (det_cr ha hb hc)
theorem qD_inj {a b : Rat} : qD a = qD b ↔ a = b := by
  constructor
  · intro h
    unfold qD at h
    simp at h
    exact Rat.ext h.1 (by have := h.2; omega)
  · intro h; rw [h]
theorem spD_inj {p q : P} : spD p = spD q ↔ p = q := by
  constructor
  · intro h
    unfold spD at h
    simp only [D.tup.injEq, List.cons.injEq, and_true] at h
    exact Gm.P.ext' (qD_inj.mp h.1) (qD_inj.mp h.2)
  · intro h; rw [h]
theorem map_inj {α β : Type} {f : α → β} (hf : ∀ a b, f a = f b → a = b) : ∀ {l m : List α}, l.map f = m.map f → l = m
  | [], [], _ => rfl
  | [], _ :: _, h => by simp at h
  | _ :: _, [], h => by simp at h
  | a :: l, b :: m, h => by
    simp only [List.map_cons, List.cons.injEq] at h
    rw [hf a b h.1, map_inj hf h.2]
theorem regD_inj {L M : List P} : regD L = regD M ↔ L = M := by
  constructor
  · intro h
    unfold regD at h
    simp only [D.lst.injEq] at h
    exact map_inj (fun a b => spD_inj.mp) h
  · intro h; rw [h]
theorem noBs_map {α : Type} (f : α → D) (h : ∀ a, noB (f a) = true) : ∀ l : List α, noBs (l.map f) = true
  | [] => rfl
  | a :: l => by rw [List.map_cons, noBs, h, noBs_map f h l]; rfl
theorem deps_map {α : Type} (f : α → D) (k : Nat) (h : ∀ a, dep k (f a) = true) : ∀ l : List α, deps k (l.map f) = true
  | [] => by cases k <;> rfl
  | a :: l => by
    rw [List.map_cons]
    cases k <;> (rw [deps, h, deps_map f _ h l]; rfl)
theorem noB_spD (p : P) : noB (spD p) = true := rfl
theorem dep_spD (p : P) : dep 60 (spD p) = true := rfl
theorem noB_regD (L : List P) : noB (regD L) = true := by unfold regD; rw [noB]; exact noBs_map spD noB_spD L
theorem dep_regD (L : List P) : dep 60 (regD L) = true := by unfold regD; rw [dep]; exact deps_map spD 59 (fun p => rfl) L
theorem deq_dB {x y : D} {p : Prop} (h : x = y ↔ p) : deq x y = dB p := by unfold deq dB; congr; exact propext h
@[simp] theorem eq_spD (p q : P) : cmpD .eq (spD p) (spD q) = some (dB (p = q)) := by rw [cmpD_eqD _ _ (noB_spD p) (noB_spD q) (dep_spD p) (dep_spD q), deq_dB spD_inj]
@[simp] theorem ne_spD (p q : P) : cmpD .ne (spD p) (spD q) = some (!dB (p = q)) := by rw [cmpD_neD _ _ (noB_spD p) (noB_spD q) (dep_spD p) (dep_spD q), deq_dB spD_inj]
@[simp] theorem eq_qD (p q : Rat) : cmpD .eq (qD p) (qD q) = some (dB (p = q)) := by rw [cmpD_eqD _ _ rfl rfl rfl rfl, deq_dB qD_inj]
@[simp] theorem ne_qD (p q : Rat) : cmpD .ne (qD p) (qD q) = some (!dB (p = q)) := by rw [cmpD_neD _ _ rfl rfl rfl rfl, deq_dB qD_inj]
@[simp] theorem eq_regD (L M : List P) : cmpD .eq (regD L) (regD M) = some (dB (L = M)) := by rw [cmpD_eqD _ _ (noB_regD L) (noB_regD M) (dep_regD L) (dep_regD M), deq_dB regD_inj]
@[simp] theorem ne_regD (L M : List P) : cmpD .ne (regD L) (regD M) = some (!dB (L = M)) := by rw [cmpD_neD _ _ (noB_regD L) (noB_regD M) (dep_regD L) (dep_regD M), deq_dB regD_inj]
@[simp] theorem asLT_regD (L : List P) : asLT (regD L) = some (L.map spD) := rfl
@[simp] theorem asL_regD (L : List P) : asL (regD L) = some (L.map spD) := rfl
theorem regD_nil : regD [] = .lst [] := rfl
/-! ### places of a list with the one ahead -/
theorem atI_get {α β : Type} {L : List α} {f : α → β} {k : Nat} {a : α} (h : L[k]? = some a) : atI (L.map f) (k : Int) = some (f a) := by rw [atI_at rfl, List.getElem?_map, h]; rfl
def prevIx (n k : Nat) : Nat := if k = 0 then n - 1 else k - 1
theorem atI_prev {α β : Type} {L : List α} {f : α → β} {k : Nat} {a : α} (hk : k < L.length) (h : L[prevIx L.length k]? = some a) : atI (L.map f) ((k : Int) - 1) = some (f a) := by
  unfold prevIx at h
  by_cases z : k = 0
  · subst z
    rw [if_pos rfl] at h
    rw [show ((0 : Nat) : Int) - 1 = -((1 : Nat) : Int) by omega, atI_neg (by omega) (by simp; omega), List.length_map, List.getElem?_map, h]; rfl
  · rw [if_neg z] at h
    rw [show (k : Int) - 1 = ((k - 1 : Nat) : Int) by omega]
    exact atI_get h
/-- the places, each with what stands ahead and there -/
def ixF : Nat → List (P × P) → List (Nat × P × P)
  | _, [] => []
  | k, e :: l => (k, e) :: ixF (k + 1) l
theorem ixF_snd : ∀ (l : List (P × P)) (k : Nat), (ixF k l).map (·.2) = l
  | [], _ => rfl
  | e :: l, k => by rw [ixF, List.map_cons, ixF_snd l]
theorem ixF_rng : ∀ (l : List (P × P)) (k : Nat), (ixF k l).map (fun e => D.int (e.1 : Nat)) = rngL (k : Nat) l.length
  | [], _ => rfl
  | e :: l, k => by
    rw [ixF, List.map_cons, ixF_rng l, List.length_cons, rngL_succ]
    rfl
theorem ixF_get : ∀ (l : List (P × P)) (k : Nat) (e : Nat × P × P), e ∈ ixF k l → k ≤ e.1 ∧ l[e.1 - k]? = some e.2
  | [], _, _, h => by cases h
  | x :: l, k, e, h => by
    rcases List.mem_cons.mp h with rfl | h
    · exact ⟨Nat.le_refl _, by simp⟩
    · obtain ⟨h1, h2⟩ := ixF_get l (k + 1) e h
      exact ⟨by omega, by rw [show e.1 - k = e.1 - (k + 1) + 1 by omega]; exact h2⟩
theorem chainS_len : ∀ (l : List P) (a : P), (Gm.chainS a l).length = l.length
  | [], _ => rfl
  | b :: l, a => by rw [Gm.chainS, List.length_cons, List.length_cons, chainS_len l]
theorem chainS_get : ∀ (l : List P) (a : P) (k : Nat) (e : P × P), (Gm.chainS a l)[k]? = some e → l[k]? = some e.2 ∧ (a :: l)[k]? = some e.1
  | [], _, _, _, h => by simp [Gm.chainS] at h
  | b :: l, a, 0, e, h => by simp [Gm.chainS] at h; subst h; simp
  | b :: l, a, k + 1, e, h => by
    rw [Gm.chainS, List.getElem?_cons_succ] at h
    obtain ⟨h1, h2⟩ := chainS_get l b k e h
    exact ⟨by simpa using h1, by simpa using h2⟩
noncomputable def ixs (L : List P) : List (Nat × P × P) := ixF 0 (sides L)
theorem sides_len (L : List P) : (sides L).length = L.length := by
  have := congrArg List.length (Gm.sides_snd L)
  simpa using this
theorem ixs_snd (L : List P) : (ixs L).map (·.2) = sides L := ixF_snd _ _
theorem ixs_rng (L : List P) : rngL 0 L.length = (ixs L).map fun e => D.int (e.1 : Nat) := by
  unfold ixs
  rw [ixF_rng, sides_len]; rfl
theorem ixs_get {L : List P} {e : Nat × P × P} (h : e ∈ ixs L) : e.1 < L.length ∧ L[e.1]? = some e.2.2 ∧ L[prevIx L.length e.1]? = some e.2.1 ∧ e.2 ∈ sides L := by
  obtain ⟨_, h1⟩ := ixF_get _ _ _ h
  rw [Nat.sub_zero] at h1
  have hm := List.mem_of_getElem? h1
  unfold sides at h1
  cases ez : L.getLast? with
  | none => rw [ez] at h1; simp at h1
  | some z =>
    rw [ez] at h1
    obtain ⟨h2, h3⟩ := chainS_get _ _ _ _ h1
    have hl : e.1 < L.length := by
      rw [List.getElem?_eq_some_iff] at h2
      exact h2.1
    refine ⟨hl, h2, ?_, hm⟩
    unfold prevIx
    by_cases z0 : e.1 = 0
    · rw [if_pos z0]
      rw [z0] at h3
      simp at h3
      rw [← h3, ← ez, List.getLast?_eq_getElem?]
    · rw [if_neg z0]
      rw [show e.1 = (e.1 - 1) + 1 by omega, List.getElem?_cons_succ] at h3
      exact h3
theorem ixs_len (L : List P) : (ixs L).length = L.length := by
  have := congrArg List.length (ixs_snd L)
  rw [sides_len] at this
  simpa using this
end Ev
namespace Ev
open PySem L2
open Gm (P lex cr Cvx Reg Cv sides apart Tidy Hf hI Bnd)
/-! ### regions: what the program's defs do -/
def SpreadS (F : List D → Rs) : Prop := ∀ p, SpB 602 p → F [spD p] = some (.sh, tD (fl p))
def TurnS (F : List D → Rs) : Prop := ∀ a b c, BdT 3000 a → BdT 3000 b → BdT 3000 c → F [tD a, tD b, tD c] = some (.sh, .int (det a b c))
def BelowS (F : List D → Rs) : Prop := ∀ a b : Rat, QB 602 a → QB 602 b → F [qD a, qD b] = some (.sh, .bl (dB (a < b)))
def AheadS (F : List D → Rs) : Prop := ∀ p q, SpB 602 p → SpB 602 q → F [spD p, spD q] = some (.sh, .bl (dB (lex p q)))
def FirstS (F : List D → Rs) : Prop := ∀ L : List P, L ≠ [] → (∀ p ∈ L, SpB 602 p) → L.length ≤ 100000 → ∃ (i : Nat) (p : P), L[i]? = some p ∧ (∀ q ∈ L, q = p ∨ lex p q) ∧ F [regD L] = some (.sh, .int (i : Nat))
def LastS (F : List D → Rs) : Prop := ∀ L : List P, L ≠ [] → (∀ p ∈ L, SpB 602 p) → L.length ≤ 100000 → ∃ p, p ∈ L ∧ (∀ q ∈ L, q = p ∨ lex q p) ∧ F [regD L] = some (.sh, spD p)
def PreT (R : List P) : Prop := (apart R = [] ∧ R.length ≤ 1) ∨ (∃ a b, apart R = [a, b] ∧ a ≠ b) ∨ (3 ≤ (apart R).length ∧ Cvx (apart R))
def TidyS (F : List D → Rs) : Prop := ∀ R : List P, (∀ p ∈ R, SpB 602 p) → R.length ≤ 100000 → PreT R → ∃ M, Tidy R M ∧ F [regD R] = some (.fr, regD M)
theorem ev_spread (ct : Ct) (n : Nat) : SpreadS (runFn f_spread ct n) := fun p hp => by
  refine runR rfl ?_
  simp [f_spread, startE, spD, qD, tD, fl]
theorem ev_turn (ct : Ct) (n : Nat) : TurnS (runFn f_left_turn ct n) := fun a b c ha hb hc => by
  refine runR rfl ?_
  simp [f_left_turn, startE, tD, det]
theorem ev_below' (ct : Ct) (n : Nat) : BelowS (runFn f_below ct n) := fun a b ha hb => by
  rw [qD, qD, ev_below ct n _ _ _ _ 602 ha.n ha.d hb.n hb.d (by omega), dB_dec]
  rw [dB_congr (Rat.lt_iff a b).symm]
theorem lex_iff (p q : P) : lex p q ↔ (if p.x = q.x then p.y < q.y else p.x < q.x) := by
  unfold lex
  by_cases h : p.x = q.x
  · rw [if_pos h]; constructor
    · rintro (k | k)
      · rw [h] at k; exact absurd k (by grind)
      · exact k.2
    · exact fun k => .inr ⟨h, k⟩
  · rw [if_neg h]; constructor
    · rintro (k | k)
      · exact k
      · exact absurd k.1 h
    · exact .inl
theorem ev_ahead {ct : Ct} {n : Nat} (hb : BelowS (ct 8)) : AheadS (runFn f_ahead ct n) := fun p q hp hq => by
  have b1 := hb p.x q.x inferInstance inferInstance
  have b2 := hb p.y q.y inferInstance inferInstance
  refine runR rfl ?_
  by_cases h : p.x = q.x
  · have e : dB (lex p q) = dB (p.y < q.y) := dB_congr (by rw [lex_iff, if_pos h])
    simp [f_ahead, startE, spD, dB_true h, b2, e]
  · have e : dB (lex p q) = dB (p.x < q.x) := dB_congr (by rw [lex_iff, if_neg h])
    simp [f_ahead, startE, spD, dB_false h, b1, e]
theorem lex_le_trans {a b c : P} (h1 : a = b ∨ lex a b) (h2 : b = c ∨ lex b c) : a = c ∨ lex a c := by
  rcases h1 with rfl | h1
  · exact h2
  · rcases h2 with rfl | h2
    · exact .inr h1
    · exact .inr (Gm.lex_trans h1 h2)
theorem rngOk_n {n : Nat} (h : n ≤ 1000000) : rngOk ((n : Nat) : Int) = true := rngOk_small _ ⟨by omega, by omega⟩
theorem ev_first_of {ct : Ct} {n : Nat} (ha : AheadS (ct 49)) : FirstS (runFn f_first_of ct n) := fun L ne hL hl => by
  obtain ⟨p0, hp0⟩ : ∃ p0, L[0]? = some p0 := by
    cases L with
    | nil => exact absurd rfl ne
    | cons a l => exact ⟨a, rfl⟩
  have hl0 : 0 < L.length := by
    cases L with
    | nil => exact absurd rfl ne
    | cons a l => simp
  obtain ⟨g', e, I⟩ := forF_rng (a := asg (.one 2)) (b := fun g => evSs ct n f_first_of_B0 g) (fun k g => ∃ (i : Nat) (p : P) (s : Sl), L[i]? = some p ∧ (∀ j q, j < k → L[j]? = some q → p = q ∨ lex p q) ∧ g = [.sh (regD L), .sh (.int (i : Nat)), s]) L.length 0 [.sh (regD L), .sh (.int 0), .no]
    ⟨0, p0, .no, hp0, fun j q h => by omega, rfl⟩ (fun k _ hk g ⟨i, p, s, h1, h2, h3⟩ => by
      subst h3
      have hk' : k < L.length := by omega
      obtain ⟨q, hq⟩ : ∃ q, L[k]? = some q := ⟨_, List.getElem?_eq_getElem hk'⟩
      have a1 : atI (L.map spD) (k : Int) = some (spD q) := atI_get hq
      have a2 : atI (L.map spD) (i : Int) = some (spD p) := atI_get h1
      have c := ha q p (hL q (List.mem_of_getElem? hq)) (hL p (List.mem_of_getElem? h1))
      by_cases z : lex q p
      · refine ⟨[.sh (regD L), .sh (.int (i : Nat)), .sh (.int (k : Nat))], [.sh (regD L), .sh (.int (k : Nat)), .sh (.int (k : Nat))], by simp, by simp [f_first_of_B0, a1, a2, c, dB_true z], k, q, _, hq, fun j r hj hr => ?_, rfl⟩
        by_cases e : j = k
        · subst e; rw [hq] at hr; cases hr; exact .inl rfl
        · exact lex_le_trans (.inr z) (h2 j r (by omega) hr)
      · refine ⟨[.sh (regD L), .sh (.int (i : Nat)), .sh (.int (k : Nat))], [.sh (regD L), .sh (.int (i : Nat)), .sh (.int (k : Nat))], by simp, by simp [f_first_of_B0, a1, a2, c, dB_false z], i, p, _, h1, fun j r hj hr => ?_, rfl⟩
        by_cases e : j = k
        · subst e; rw [hq] at hr; cases hr
          rcases Gm.lex_tot p q with t | t | t
          · exact .inr t
          · exact .inl t
          · exact absurd t z
        · exact h2 j r (by omega) hr)
  obtain ⟨i, p, s, h1, h2, h3⟩ := I
  refine ⟨i, p, h1, fun q hq => ?_, runR rfl ?_⟩
  · obtain ⟨j, hj⟩ := List.getElem?_of_mem hq
    have : j < L.length := by rw [List.getElem?_eq_some_iff] at hj; exact hj.1
    rcases h2 j q (by omega) hj with e | e
    · exact .inl e.symm
    · exact .inr e
  · have el : evS ct n f_first_of_L0 [.sh (regD L), .sh (.int 0), .no] = some (.nx g') := by
      rw [f_first_of_L0, evS_fr]
      simp [rngOk_n (show L.length ≤ 1000000 by omega)]
      exact e
    subst h3
    simp [f_first_of, startE, el]
theorem ev_last_of {ct : Ct} {n : Nat} (ha : AheadS (ct 49)) : LastS (runFn f_last_of ct n) := fun L ne hL hl => by
  obtain ⟨p0, hp0⟩ : ∃ p0, L[0]? = some p0 := by
    cases L with
    | nil => exact absurd rfl ne
    | cons a l => exact ⟨a, rfl⟩
  obtain ⟨g', e, I⟩ := forF_list spD (a := asg (.one 2)) (b := fun g => evSs ct n f_last_of_B0 g) (fun done g => ∃ (p : P) (s : Sl), p ∈ L ∧ (∀ q ∈ done, q = p ∨ lex q p) ∧ g = [.sh (regD L), .sh (spD p), s]) L [] [.sh (regD L), .sh (spD p0), .no]
    ⟨p0, .no, List.mem_of_getElem? hp0, (fun q h => by cases h), rfl⟩ (fun q hq done g ⟨p, s, h1, h2, h3⟩ => by
      subst h3
      have c := ha p q (hL p h1) (hL q hq)
      by_cases z : lex p q
      · refine ⟨[.sh (regD L), .sh (spD p), .sh (spD q)], [.sh (regD L), .sh (spD q), .sh (spD q)], by simp, by simp [f_last_of_B0, c, dB_true z], q, _, hq, fun r hr => ?_, rfl⟩
        rcases List.mem_append.mp hr with hr | hr
        · exact lex_le_trans (h2 r hr) (.inr z)
        · simp at hr; exact .inl hr
      · refine ⟨[.sh (regD L), .sh (spD p), .sh (spD q)], [.sh (regD L), .sh (spD p), .sh (spD q)], by simp, by simp [f_last_of_B0, c, dB_false z], p, _, h1, fun r hr => ?_, rfl⟩
        rcases List.mem_append.mp hr with hr | hr
        · exact h2 r hr
        · simp at hr; subst hr
          rcases Gm.lex_tot r p with t | t | t
          · exact .inr t
          · exact .inl t
          · exact absurd t z)
  obtain ⟨p, s, h1, h2, h3⟩ := I
  refine ⟨p, h1, fun q hq => h2 q (by simpa using hq), runR rfl ?_⟩
  have el : evS ct n f_last_of_L0 [.sh (regD L), .sh (spD p0), .no] = some (.nx g') := by
    rw [f_last_of_L0, evS_fr]
    simp [itM]
    exact e
  have a0 : (L.map spD)[0]? = some (spD p0) := by rw [List.getElem?_map, hp0]; rfl
  subst h3
  have a0' : atI (L.map spD) 0 = some (spD p0) := by rw [atI_0]; exact a0
  simp only [f_last_of, startE]
  simp [el, hp0]
theorem cutD_none_pos1 {α : Type} (xs : List α) : cutD xs none (some 1) = xs.take 1 := cutD_none_pos xs 1
theorem apart_filter (R : List P) : ((ixs R).filter fun e => !dB (e.2.2 = e.2.1)).map (fun e => e.2.2) = apart R := by
  unfold apart
  rw [← ixs_snd, List.filter_map, List.map_map]
  have : (Gm.neB ∘ fun (e : Nat × P × P) => e.2) = fun e => !dB (e.2.2 = e.2.1) := by
    funext e
    show Gm.neB e.2 = _
    unfold Gm.neB
    show dB (e.2.2 ≠ e.2.1) = _
    cases z : dB (e.2.2 = e.2.1) with
    | true => exact dB_false fun k => k (dB_iff.mp z)
    | false => exact dB_true (dB_not.mp z)
  rw [this]; rfl
theorem apart_mem {R : List P} {p : P} (h : p ∈ apart R) : p ∈ R := by
  unfold apart at h
  obtain ⟨x, hx, rfl⟩ := List.mem_map.mp h
  exact (Gm.sides_mem (s := x.1) (t := x.2) (List.mem_filter.mp hx).1).2
theorem apart_len (R : List P) : (apart R).length ≤ R.length := by
  unfold apart
  rw [List.length_map]
  exact Nat.le_trans (List.length_filter_le _ _) (by rw [sides_len]; omega)
theorem next_get {L : List P} {k : Nat} (hk : k < L.length) : ∃ r, L[(k + 1) % L.length]? = some r ∧ atI (L.map fun p => tD (fl p)) (((k : Int) + 1).fmod (L.length : Int)) = some (tD (fl r)) := by
  have h1 : (k + 1) % L.length < L.length := Nat.mod_lt _ (by omega)
  refine ⟨_, List.getElem?_eq_getElem h1, ?_⟩
  have : ((k : Int) + 1).fmod (L.length : Int) = (((k + 1) % L.length : Nat) : Int) := by
    rw [fmod_of _ _ (by omega)]; simp
  rw [this]
  exact atI_get (f := fun p => tD (fl p)) (List.getElem?_eq_getElem h1)
theorem ev_tidied {ct : Ct} {n : Nat} (hs : SpreadS (ct 48)) (ht : TurnS (ct 37)) (hf : FirstS (ct 52)) (hla : LastS (ct 53)) : TidyS (runFn f_tidied ct n) := fun R hR hl pre => by
  have c0 : evE ct [.sh (regD R), .no, .no, .no, .no, .no, .no, .no] f_tidied_C0 = some (.fr, regD (apart R)) := by
    have hc := compF_fm (fun (e : Nat × P × P) => D.int (e.1 : Nat)) (fun e => !dB (e.2.2 = e.2.1)) (fun e => spD e.2.2) (a := asg (.one 2)) (c := fun g1 => evC ct g1 (.cons (.cmp .ne (.idx (.var 0) (.var 2)) (.idx (.var 0) (.bin .sub (.var 2) (.int 1)))) .nil)) (e := fun g1 => evE ct g1 (.idx (.var 0) (.var 2)))
      (g := [.sh (regD R), .no, .no, .no, .no, .no, .no, .no]) (ixs R) [] (fun e he => by
        obtain ⟨h1, h2, h3, _⟩ := ixs_get he
        have a1 : atI (R.map spD) (e.1 : Int) = some (spD e.2.2) := atI_get h2
        have a2 : atI (R.map spD) ((e.1 : Int) - 1) = some (spD e.2.1) := atI_prev h1 h3
        exact ⟨[.sh (regD R), .no, .sh (.int (e.1 : Nat)), .no, .no, .no, .no, .no], by simp, by simp [a1, a2], fun _ => ⟨(.sh, spD e.2.2), by simp [a1], rfl⟩⟩) (by rw [ixs_len]; simp; omega)
    rw [List.nil_append] at hc
    have e2 : ((ixs R).filter fun e => !dB (e.2.2 = e.2.1)).map (fun e => spD e.2.2) = (apart R).map spD := by
      rw [← apart_filter, List.map_map]; rfl
    rw [e2] at hc
    refine evE_comp_of (m := .sh) (ds := rngL 0 R.length) (by simp [rngOk_n (show R.length ≤ 1000000 by omega)]) rfl ?_
    rw [ixs_rng]; exact hc
  have st1 : evS ct n (.set false 1 f_tidied_C0) (startE f_tidied [regD R]) = some (.nx [.sh (regD R), .sh (regD (apart R)), .no, .no, .no, .no, .no, .no]) := by
    show evS ct n (.set false 1 f_tidied_C0) [.sh (regD R), .no, .no, .no, .no, .no, .no, .no] = _
    rw [evS_set, c0, regD]; simp [regD]
  have hS : ∀ p ∈ apart R, SpB 602 p := fun p hp => hR p (apart_mem hp)
  have hlS : (apart R).length ≤ 100000 := Nat.le_trans (apart_len R) hl
  unfold PreT at pre
  generalize hSe : apart R = S at *
  rcases pre with ⟨e0, l1⟩ | pre
  · -- one at most
    subst e0
    refine ⟨R, .few hSe l1, runR rfl (stepS st1 ?_)⟩
    have : cutD (R.map spD) none (some 1) = R.map spD := by
      rw [cutD_none_pos1, List.take_of_length_le (by simpa using l1)]
    simp [regD_nil.symm, dB_true, this]
    simp [regD, this]
  · have hne : S ≠ [] := by
      rcases pre with ⟨a, b, e, _⟩ | ⟨h3, _⟩
      · rw [e]; simp
      · intro z; rw [z] at h3; simp at h3
    have st2 : ∀ X Y : Sms, evS ct n (.ife (.cmp .eq (.var 1) (.lst .nil)) X .nil) [.sh (regD R), .sh (regD S), .no, .no, .no, .no, .no, .no] = some (.nx [.sh (regD R), .sh (regD S), .no, .no, .no, .no, .no, .no]) := fun X Y => by
      simp [← regD_nil, dB_false hne]
    have c1 : evE ct [.sh (regD R), .sh (regD S), .no, .no, .no, .no, .no, .no] f_tidied_C1 = some (.fr, .lst (S.map fun p => tD (fl p))) :=
      evE_comp_of (m := .sh) (ds := S.map spD) (by simp [itM]) rfl (compF_map spD _ S (fun p hp => ⟨[.sh (regD R), .sh (regD S), .no, .no, .sh (spD p), .no, .no, .no], by simp [tgSlots, wipeE], by simp, (.sh, tD (fl p)), by simp [hs p (hS p hp)], rfl⟩) (by omega))
    have lenS : evE ct [.sh (regD R), .sh (regD S), .no, .sh (.lst (S.map fun p => tD (fl p))), .no, .no, .no, .no] (.b1 .len (.var 1)) = some (.sh, .int (S.length : Nat)) := by simp
    -- which corners turn to the left
    have c2 : ∃ Bn : List P, (3 ≤ S.length ∧ Cvx S → Bn = S) ∧ ((∃ a b, S = [a, b] ∧ a ≠ b) → Bn = []) ∧ evE ct [.sh (regD R), .sh (regD S), .no, .sh (.lst (S.map fun p => tD (fl p))), .no, .sh (.int (S.length : Nat)), .no, .no] f_tidied_C2 = some (.fr, regD Bn) := by
      have hc := compF_fm (fun (e : Nat × P × P) => D.int (e.1 : Nat)) (fun e => dB (∃ r, S[(e.1 + 1) % S.length]? = some r ∧ 0 < cr e.2.1 e.2.2 r)) (fun e => spD e.2.2) (a := asg (.one 2)) (c := fun g1 => evC ct g1 (.cons (.cmp .gt (.call 37 (.cons (.idx (.var 3) (.bin .sub (.var 2) (.int 1))) (.cons (.idx (.var 3) (.var 2)) (.cons (.idx (.var 3) (.bin .mod (.bin .add (.var 2) (.int 1)) (.var 5))) .nil)))) (.int 0)) .nil)) (e := fun g1 => evE ct g1 (.idx (.var 1) (.var 2)))
        (g := [.sh (regD R), .sh (regD S), .no, .sh (.lst (S.map fun p => tD (fl p))), .no, .sh (.int (S.length : Nat)), .no, .no]) (ixs S) [] (fun e he => by
          obtain ⟨h1, h2, h3, hm⟩ := ixs_get he
          have a1 : atI (S.map fun p => tD (fl p)) (e.1 : Int) = some (tD (fl e.2.2)) := atI_get (f := fun p => tD (fl p)) h2
          have a2 : atI (S.map fun p => tD (fl p)) ((e.1 : Int) - 1) = some (tD (fl e.2.1)) := atI_prev (f := fun p => tD (fl p)) h1 h3
          have a4 : atI (S.map spD) (e.1 : Int) = some (spD e.2.2) := atI_get h2
          obtain ⟨r, hr, a3⟩ := next_get h1
          haveI := hS _ (List.mem_of_getElem? h2)
          haveI := hS _ (List.mem_of_getElem? h3)
          haveI := hS _ (List.mem_of_getElem? hr)
          have up : ∀ p, SpB 602 p → BdT 3000 (fl p) := fun p hp => ⟨(@flB 602 p hp).b.mono (by omega)⟩
          have tt := ht (fl e.2.1) (fl e.2.2) (fl r) (up _ inferInstance) (up _ inferInstance) (up _ inferInstance)
          have dd := (det_pos (fl_of e.2.1) (fl_of e.2.2) (fl_of r)).1
          have nz : (S.length : Int) ≠ 0 := by omega
          refine ⟨[.sh (regD R), .sh (regD S), .sh (.int (e.1 : Nat)), .sh (.lst (S.map fun p => tD (fl p))), .no, .sh (.int (S.length : Nat)), .no, .no], by simp, ?_, fun _ => ⟨(.sh, spD e.2.2), by simp [a4], rfl⟩⟩
          have ee : decide (0 < det (fl e.2.1) (fl e.2.2) (fl r)) = dB (∃ r, S[(e.1 + 1) % S.length]? = some r ∧ 0 < cr e.2.1 e.2.2 r) := by
            rw [dB_dec]
            refine dB_congr (dd.trans ⟨fun z => ⟨r, hr, z⟩, fun ⟨r', hr', z⟩ => ?_⟩)
            rw [hr] at hr'; cases hr'; exact z
          have nz2 : ¬ S.length = 0 := by omega
          simp only [evC_one, evE_cmp, evE_call, evs_cons, evs_nil, evE_idx, evE_var, List.getElem?_cons_succ, List.getElem?_cons_zero, slV_sh, evE_bin, evE_int, binD_sub, binD_add, binD_mod, Option.bind_some, asInt_int, asLT_lst, a1, a2, storable_sh, if_pos nz, a3, tt, noEx_sh, cmpD_gt, ee, asBl_bl]) (by rw [ixs_len]; simp; omega)
      rw [List.nil_append] at hc
      refine ⟨((ixs S).filter fun e => dB (∃ r, S[(e.1 + 1) % S.length]? = some r ∧ 0 < cr e.2.1 e.2.2 r)).map (fun e => e.2.2), fun ⟨h3, hcv⟩ => ?_, fun ⟨a, b, e, ne⟩ => ?_, evE_comp_of (m := .sh) (ds := rngL 0 S.length) (by simp [rngOk_n (show S.length ≤ 1000000 by omega)]) rfl ?_⟩
      · rw [List.filter_eq_self.mpr fun e he => ?_]
        · have := congrArg (List.map (·.2)) (ixs_snd S)
          rw [List.map_map, Gm.sides_snd] at this
          exact this
        · obtain ⟨h1, h2, h3', hm⟩ := ixs_get he
          obtain ⟨r, hr, _⟩ := next_get h1
          refine dB_true ⟨r, hr, ?_⟩
          have hn := hcv.nodup h3
          have inj : ∀ {i j : Nat} {x : P}, S[i]? = some x → S[j]? = some x → i = j := fun {i j x} hi hj => by
            rw [List.getElem?_eq_some_iff] at hi hj
            obtain ⟨i1, i2⟩ := hi
            obtain ⟨j1, j2⟩ := hj
            exact (List.getElem_inj hn).mp (i2.trans j2.symm)
          rcases Gm.side_pos hcv hm (List.mem_of_getElem? hr) with z | z | z
          · exfalso
            rw [z] at hr
            have := inj hr h3'
            unfold prevIx at this
            by_cases k0 : e.1 = 0
            · rw [if_pos k0, k0, Nat.zero_add, Nat.mod_eq_of_lt (by omega)] at this; omega
            · rw [if_neg k0] at this
              by_cases kl : e.1 + 1 = S.length
              · rw [kl, Nat.mod_self] at this; omega
              · rw [Nat.mod_eq_of_lt (by omega)] at this; omega
          · exfalso
            rw [z] at hr
            have := inj hr h2
            by_cases kl : e.1 + 1 = S.length
            · rw [kl, Nat.mod_self] at this; omega
            · rw [Nat.mod_eq_of_lt (by omega)] at this; omega
          · exact z
      · rw [List.filter_eq_nil_iff.mpr fun e' he => ?_, List.map_nil]
        obtain ⟨h1, h2, h3', hm⟩ := ixs_get he
        intro z
        obtain ⟨r, hr, hz⟩ := dB_iff.mp z
        have := List.mem_of_getElem? hr
        subst e
        rw [Gm.sides_two] at hm
        have cc := Gm.cr_ne hz
        simp at hm this
        rcases hm with hm | hm <;> rcases this with t | t <;> rw [hm] at cc <;> rw [t] at cc <;> simp at cc
      · rw [ixs_rng, regD, List.map_map]; exact hc
    obtain ⟨Bn, b1, b2, e2⟩ := c2
    have st3 : evS ct n (.set false 3 f_tidied_C1) [.sh (regD R), .sh (regD S), .no, .no, .no, .no, .no, .no] = some (.nx [.sh (regD R), .sh (regD S), .no, .sh (.lst (S.map fun p => tD (fl p))), .no, .no, .no, .no]) := by rw [evS_set, c1]; simp
    have st4 : evS ct n (.set false 5 (.b1 .len (.var 1))) [.sh (regD R), .sh (regD S), .no, .sh (.lst (S.map fun p => tD (fl p))), .no, .no, .no, .no] = some (.nx [.sh (regD R), .sh (regD S), .no, .sh (.lst (S.map fun p => tD (fl p))), .no, .sh (.int (S.length : Nat)), .no, .no]) := by simp
    have st5 : evS ct n (.set false 6 f_tidied_C2) [.sh (regD R), .sh (regD S), .no, .sh (.lst (S.map fun p => tD (fl p))), .no, .sh (.int (S.length : Nat)), .no, .no] = some (.nx [.sh (regD R), .sh (regD S), .no, .sh (.lst (S.map fun p => tD (fl p))), .no, .sh (.int (S.length : Nat)), .sh (regD Bn), .no]) := by rw [evS_set, e2, regD]; simp [regD]
    rcases pre with ⟨a, b, e, ne⟩ | ⟨h3, hcv⟩
    · -- two
      have hB := b2 ⟨a, b, e, ne⟩
      obtain ⟨i, p, h1, h2, h3⟩ := hf S hne hS hlS
      obtain ⟨q, q1, q2, q3⟩ := hla S hne hS hlS
      have pm := List.mem_of_getElem? h1
      have a1 : atI (S.map spD) (i : Int) = some (spD p) := atI_get h1
      have npq : lex p q ∧ ((S = [p, q]) ∨ S = [q, p]) := by
        rw [e] at pm q1 h2 q2
        simp at pm q1
        have n1 := h2 a (by simp); have n2 := h2 b (by simp)
        have m1 := q2 a (by simp); have m2 := q2 b (by simp)
        rcases pm with rfl | rfl
        · rcases n2 with z | z
          · exact absurd z.symm ne
          · rcases q1 with rfl | rfl
            · rcases m2 with y | y
              · exact absurd y.symm ne
              · exact absurd y (Gm.lex_asym z)
            · exact ⟨z, .inl e⟩
        · rcases n1 with z | z
          · exact absurd z ne
          · rcases q1 with rfl | rfl
            · exact ⟨z, .inr e⟩
            · rcases m1 with y | y
              · exact absurd y ne
              · exact absurd y (Gm.lex_asym z)
      refine ⟨[p, q], .two p q (hSe ▸ npq.2) npq.1, runR rfl (stepS st1 (stepS (st2 _ .nil) (stepS st3 (stepS st4 (stepS st5 ?_)))))⟩
      subst hB
      simp [h3, q3, regD_nil.symm]
      simp [regD] at h3 q3 ⊢
      simp [h3, q3, a1]
    · have hB := b1 ⟨h3, hcv⟩
      subst hB
      obtain ⟨i, p, h1, h2, h4⟩ := hf Bn hne hS hlS
      have hi : i < Bn.length := by rw [List.getElem?_eq_some_iff] at h1; exact h1.1
      refine ⟨Bn.drop i ++ Bn.take i, hSe ▸ Tidy.more i (by rw [hSe]; exact h3) (fun q hq r hr => ?_) (by rw [hSe]; exact hi), runR rfl (stepS st1 (stepS (st2 _ .nil) (stepS st3 (stepS st4 (stepS st5 ?_)))))⟩
      · rw [hSe] at hq hr
        rw [h1] at hr; cases hr
        exact h2 q hq
      · have k3 : ¬ ((Bn.length : Nat) : Int) < 3 := by omega
        have e1 : cutD (Bn.map spD) (some (i : Int)) none = (Bn.drop i).map spD := by rw [cutD_pos_none, List.map_drop]
        have e3 : cutD (Bn.map spD) none (some (i : Int)) = (Bn.take i).map spD := by rw [cutD_none_pos, List.map_take]
        have lo : lenOk ((Bn.drop i).length + (Bn.take i).length) = true := lenOk_small (by simp; omega)
        have sl : ∀ lo hi, slcD (regD Bn) lo hi = some (.fr, .lst (cutD (Bn.map spD) lo hi)) := fun lo hi => rfl
        simp only [evSs_cons, evSs_nil, evS_ife, evE_cmp, evE_b1, evE_var, evE_int, evE_call, evs_cons, evs_nil, evS_set, evS_ret, evE_bin, evE_slc, List.getElem?_cons_succ, List.getElem?_cons_zero, slV_sh, Option.bind_some, b1D_len, asLT_regD, Option.map_some, List.length_map, cmpD_lt, asBl_bl, decide_eq_false k3, Bool.false_eq_true, if_false, storable_sh, h4, noEx_sh, slOf_sh, setSl_cons, setSl_cons0, andThen_nx, isNonE_var, isNonE_non, partV_t, partV_f, asInt_int, sl, e1, e3, binD_cat, lo, if_true, storable_fr]
        simp [regD]
end Ev
namespace Ev
open PySem L2
open Gm (P lex cr Cvx Reg Cv sides apart Tidy Hf hI Bnd CB SB Good)
def RatioS (F : List D → Rs) : Prop := ∀ t b : Int, B 8800 t → B 8800 b → b ≠ 0 → F [.int t, .int b] = some (.sh, qD (((t : Int) : Rat) / ((b : Int) : Rat)))
def over (h t : Tr) : Int := h.1 * t.1 + h.2.1 * t.2.1 - h.2.2 * t.2.2
def hT (h : Tr) : Hf := hI h.1 h.2.1 h.2.2
def OverS (F : List D → Rs) : Prop := ∀ h t, BdT 300 h → BdT 1300 t → F [tD h, tD t] = some (.sh, .int (over h t))
def CrossS (F : List D → Rs) : Prop := ∀ (h : Tr) (p q : P), BdT 300 h → SpB 602 p → SpB 602 q → (hT h).ev p ≠ (hT h).ev q → F [tD (fl p), tD (fl q), .int (over h (fl p)), .int (over h (fl q))] = some (.sh, spD (Gm.X (hT h) p q))
def ClipS (F : List D → Rs) : Prop := ∀ (L : List P) (h : Tr), Reg L → Bnd 300 L → BT 300 h → (h.1 ≠ 0 ∨ h.2.1 ≠ 0) → L.length ≤ 50000 → ∃ M, Reg M ∧ Good 300 (hT h) L M ∧ F [regD L, tD h] = some (.fr, regD M)
theorem cast_ne {b : Int} (h : b ≠ 0) : ((b : Int) : Rat) ≠ 0 := fun z => h (Rat.intCast_inj.mp z)
theorem qD_of {t b p q : Int} (hb : b ≠ 0) (F : Fr t b p q) : qD (((t : Int) : Rat) / ((b : Int) : Rat)) = .tup [.int p, .int q] := by
  obtain ⟨r, hr⟩ : ∃ r, ((t : Int) : Rat) / ((b : Int) : Rat) = r := ⟨_, rfl⟩
  rw [hr]
  have hb' := cast_ne hb
  have e1 : r * ((b : Int) : Rat) = ((t : Int) : Rat) := by rw [← hr]; exact Rat.div_mul_cancel hb'
  have e2 := rat_num r
  have e3 : r.num * b = t * r.den := by
    have : (((r.num * b : Int)) : Rat) = ((t * r.den : Int) : Rat) := by
      rw [Rat.intCast_mul, Rat.intCast_mul, e2, ← e1]; grind
    exact Rat.intCast_inj.mp this
  have hg : Int.gcd r.num r.den = 1 := by
    have := r.reduced
    unfold Nat.Coprime at this
    rw [Int.gcd, Int.natAbs_natCast]; exact this
  have F' : Fr t b r.num r.den := ⟨by have := r.den_pos; omega, hg, e3.symm⟩
  obtain ⟨h1, h2⟩ := F.unique hb F'
  rw [qD, h1, h2]
theorem ev_ratio' {ct : Ct} {n : Nat} (hd : ∀ a b, B 8800 b → ct 0 [.int a, .int b] = some (.sh, .int (Int.gcd a b : Nat))) : RatioS (runFn f_ratio ct n) := fun t b ht hb h0 => by
  obtain ⟨p, q, F, _, _, e⟩ := ev_ratio ct n t b 8800 (hd t b hb) ht hb (by omega) h0
  rw [e, qD_of h0 F]
theorem ev_over (ct : Ct) (n : Nat) : OverS (runFn f_over_border ct n) := fun h t hh ht => by
  refine runR rfl ?_
  simp [f_over_border, startE, tD, over]
theorem over_ev {h t : Tr} {p : P} (k : Of t p) : ((over h t : Int) : Rat) = ((t.2.2 : Int) : Rat) * (hT h).ev p := by
  have e1 := k.x; have e2 := k.y
  unfold over hT hI Hf.ev
  simp only [Rat.intCast_mul, Rat.intCast_sub, Rat.intCast_add]
  rw [e1, e2]; grind
theorem over_sign {h t : Tr} {p : P} (k : Of t p) : (0 < over h t ↔ 0 < (hT h).ev p) ∧ (over h t < 0 ↔ (hT h).ev p < 0) ∧ (over h t = 0 ↔ (hT h).ev p = 0) := cast_sign (castpos k.w) (over_ev k)
theorem over_nn {h t : Tr} {p : P} (k : Of t p) : 0 ≤ over h t ↔ 0 ≤ (hT h).ev p := by
  have := (over_sign (h := h) k).2.1
  constructor
  · intro z
    have : ¬ (hT h).ev p < 0 := fun y => by have := this.mpr y; omega
    grind
  · intro z
    have : ¬ over h t < 0 := fun y => by have := this.mp y; grind
    omega
theorem ev_crossing {ct : Ct} {n : Nat} (hr : RatioS (ct 7)) : CrossS (runFn f_crossing ct n) := fun h p q hh hp hq ne => by
  haveI : BdT 1204 (fl p) := @flB 602 p hp
  haveI : BdT 1204 (fl q) := @flB 602 q hq
  have ep := over_ev (h := h) (fl_of p)
  have eq' := over_ev (h := h) (fl_of q)
  have ob : ∀ p, SpB 602 p → Bd 1506 (over h (fl p)) := fun p hp => by
    haveI : BdT 1204 (fl p) := @flB 602 p hp
    exact ⟨(show Bd _ (over h (fl p)) by unfold over; infer_instance).b⟩
  have i1 := ob p hp
  have i2 := ob q hq
  obtain ⟨vp, hvp⟩ : ∃ v, over h (fl p) = v := ⟨_, rfl⟩
  obtain ⟨vq, hvq⟩ : ∃ v, over h (fl q) = v := ⟨_, rfl⟩
  have wp := (fl_of p).w; have wq := (fl_of q).w
  have px := (fl_of p).x; have py := (fl_of p).y
  have qx := (fl_of q).x; have qy := (fl_of q).y
  rw [hvp] at i1 ep ⊢
  rw [hvq] at i2 eq' ⊢
  clear hvp hvq
  have bb : B 8800 (vp * (fl q).2.2 - vq * (fl p).2.2) := (show Bd _ (vp * (fl q).2.2 - vq * (fl p).2.2) from inferInstance).b.mono (by omega)
  have bx : B 8800 (vp * (fl q).1 - vq * (fl p).1) := (show Bd _ (vp * (fl q).1 - vq * (fl p).1) from inferInstance).b.mono (by omega)
  have by' : B 8800 (vp * (fl q).2.1 - vq * (fl p).2.1) := (show Bd _ (vp * (fl q).2.1 - vq * (fl p).2.1) from inferInstance).b.mono (by omega)
  have ww := Rat.mul_pos (castpos wp) (castpos wq)
  have e0 : ((vp * (fl q).2.2 - vq * (fl p).2.2 : Int) : Rat) = (((fl p).2.2 : Int) : Rat) * (((fl q).2.2 : Int) : Rat) * ((hT h).ev p - (hT h).ev q) := by
    rw [Rat.intCast_sub, Rat.intCast_mul, Rat.intCast_mul, ep, eq']; grind
  have e1 : ((vp * (fl q).1 - vq * (fl p).1 : Int) : Rat) = (((fl p).2.2 : Int) : Rat) * (((fl q).2.2 : Int) : Rat) * ((hT h).ev p * q.x - (hT h).ev q * p.x) := by
    rw [Rat.intCast_sub, Rat.intCast_mul, Rat.intCast_mul, ep, eq', px, qx]; grind
  have e2 : ((vp * (fl q).2.1 - vq * (fl p).2.1 : Int) : Rat) = (((fl p).2.2 : Int) : Rat) * (((fl q).2.2 : Int) : Rat) * ((hT h).ev p * q.y - (hT h).ev q * p.y) := by
    rw [Rat.intCast_sub, Rat.intCast_mul, Rat.intCast_mul, ep, eq', py, qy]; grind
  have nz : (vp * (fl q).2.2 - vq * (fl p).2.2) ≠ 0 := by
    intro z
    have d : (hT h).ev p - (hT h).ev q = 0 := ((cast_sign ww e0).2.2).mp z
    exact ne (by grind)
  have d : (hT h).ev p - (hT h).ev q ≠ 0 := by grind
  have div : ∀ a b c : Rat, a ≠ 0 → c ≠ 0 → (a * b) / (a * c) = b / c := fun a b c ha hc => by
    have hac : a * c ≠ 0 := by grind
    refine Gm.mul_cancel_r hac ?_
    rw [Rat.div_mul_cancel hac]
    have := Rat.div_mul_cancel (a := b) hc
    grind
  have r1 := hr _ _ bx bb nz
  have r2 := hr _ _ by' bb nz
  rw [e0, e1, div _ _ _ (by grind) d] at r1
  rw [e0, e2, div _ _ _ (by grind) d] at r2
  refine runR rfl ?_
  have t1 : tD (fl p) = .tup [.int (fl p).1, .int (fl p).2.1, .int (fl p).2.2] := rfl
  have t2 : tD (fl q) = .tup [.int (fl q).1, .int (fl q).2.1, .int (fl q).2.2] := rfl
  rw [t1, t2]
  generalize fl p = fp at *
  generalize fl q = fq at *
  simp [f_crossing, startE, r1, r2, spD, Gm.X]
theorem SpB_of_CB {p : P} (h : CB 300 p) : SpB 602 p := by
  obtain ⟨a, b, c, a', b', c', ⟨ha, hb, hc⟩, ⟨ha', hb', hc'⟩, hd, h1, h2⟩ := h
  have key : ∀ (x : Rat) (N : Int), B 602 N → x * ((a * b' - a' * b : Int) : Rat) = ((N : Int) : Rat) → QB 602 x := fun x N hN e => by
    have e2 := rat_num x
    have e3 : x.num * (a * b' - a' * b) = N * x.den := by
      have : ((x.num * (a * b' - a' * b) : Int) : Rat) = ((N * x.den : Int) : Rat) := by
        rw [Rat.intCast_mul, Rat.intCast_mul, e2, ← e]; grind
      exact Rat.intCast_inj.mp this
    have hg : Int.gcd x.num x.den = 1 := by
      have := x.reduced
      unfold Nat.Coprime at this
      rw [Int.gcd, Int.natAbs_natCast]; exact this
    have bD : B 601 (a * b' - a' * b) := (B.mul (k := 300) (l := 300) ha hb').sub (B.mul (k := 300) (l := 300) ha' hb) (by omega) (by omega)
    refine ⟨?_, ?_⟩
    · have d1 : x.num ∣ N := dvd_of_gcd (q := x.num) (p := x.den) ⟨a * b' - a' * b, by rw [e3, Int.mul_comm]⟩ hg
      by_cases z : N = 0
      · have : x.num * (a * b' - a' * b) = 0 := by rw [e3, z, Int.zero_mul]
        rcases Int.mul_eq_zero.mp this with y | y
        · rw [y]; unfold B; decide
        · exact absurd y hd
      · have := Int.natAbs_dvd_natAbs.mpr d1
        have := Nat.le_of_dvd (by omega) this
        unfold B at hN ⊢; omega
    · have d1 : (x.den : Int) ∣ (a * b' - a' * b) := dvd_of_gcd (q := x.den) (p := x.num) ⟨N, by rw [e3, Int.mul_comm]⟩ (by rw [Int.gcd_comm]; exact hg)
      have := Int.natAbs_dvd_natAbs.mpr d1
      have := Nat.le_of_dvd (by omega) this
      have b2 := bD.mono (l := 602) (by omega)
      unfold B at b2 ⊢; omega
  unfold Gm.onL at h1 h2
  refine ⟨key p.x (c * b' - c' * b) ((B.mul (k := 300) (l := 300) hc hb').sub (B.mul (k := 300) (l := 300) hc' hb) (by omega) (by omega)) ?_, key p.y (a * c' - a' * c) ((B.mul (k := 300) (l := 300) ha hc').sub (B.mul (k := 300) (l := 300) ha' hc) (by omega) (by omega)) ?_⟩
  · simp only [Rat.intCast_sub, Rat.intCast_mul]
    rw [← h1, ← h2]; grind
  · simp only [Rat.intCast_sub, Rat.intCast_mul]
    rw [← h1, ← h2]; grind
noncomputable def stepR' (h : Hf) (x : P × P) : List P := (if h.ev x.1 * h.ev x.2 < 0 then [Gm.X h x.1 x.2] else []) ++ (if 0 ≤ h.ev x.2 then [x.2] else [])
theorem ringF_flat (h : Hf) : ∀ (l : List P) (a : P), Gm.ringF h a l = (Gm.chainS a l).flatMap (stepR' h)
  | [], _ => rfl
  | b :: l, a => by rw [Gm.ringF, Gm.chainS, List.flatMap_cons, ringF_flat h l b]; rfl
theorem ring_flat (h : Hf) (L : List P) : Gm.ring h L = (sides L).flatMap (stepR' h) := by
  unfold Gm.ring sides
  cases e : L.getLast? with
  | none => rfl
  | some z => exact ringF_flat h L z
theorem stepR_len (h : Hf) (x : P × P) : (stepR' h x).length ≤ 2 := by
  unfold stepR'
  split <;> split <;> simp
theorem flat_len (h : Hf) : ∀ l : List (P × P), (l.flatMap (stepR' h)).length ≤ 2 * l.length
  | [] => by simp
  | x :: l => by
    rw [List.flatMap_cons, List.length_append, List.length_cons]
    have := stepR_len h x
    have := flat_len h l
    omega
theorem ev_clipped {ct : Ct} {n : Nat} (hs : SpreadS (ct 48)) (ho : OverS (ct 55)) (hx : CrossS (ct 56)) (htd : TidyS (ct 54)) : ClipS (runFn f_clipped ct n) := fun L h hL hB bh nz hl => by
  haveI : BdT 300 h := ⟨bh⟩
  have hS : ∀ p ∈ L, SpB 602 p := fun p hp => SpB_of_CB (hB.c p hp)
  have sh := Gm.shape (t := 300) bh.1 bh.2.1 bh.2.2 nz hL
  have e0 : ∀ s, evE ct [.sh (regD L), .sh (tD h), s, .no, .no, .no, .no] f_clipped_C0 = some (.fr, .lst (L.map fun p => tD (fl p))) := fun s =>
    evE_comp_of (m := .sh) (ds := L.map spD) (by simp [itM]) rfl (compF_map spD _ L (fun p hp => ⟨[.sh (regD L), .sh (tD h), s, .sh (spD p), .no, .no, .no], by simp [tgSlots, wipeE], by simp, (.sh, tD (fl p)), by simp [hs p (hS p hp)], rfl⟩) (by omega))
  have e1 : evE ct [.sh (regD L), .sh (tD h), .sh (.lst (L.map fun p => tD (fl p))), .no, .no, .no, .no] f_clipped_C1 = some (.fr, .lst (L.map fun p => .int (over h (fl p)))) :=
    evE_comp_of (m := .sh) (ds := L.map fun p => tD (fl p)) (by simp [itM]) rfl (compF_map (fun p => tD (fl p)) _ L (fun p hp => by
      haveI := hS p hp
      have b : BdT 1300 (fl p) := ⟨(@flB 602 p (hS p hp)).b.mono (by omega)⟩
      exact ⟨[.sh (regD L), .sh (tD h), .sh (.lst (L.map fun p => tD (fl p))), .sh (tD (fl p)), .no, .no, .no], by simp [tgSlots, wipeE], by simp, (.sh, .int (over h (fl p))), by simp [ho h (fl p) inferInstance b], rfl⟩) (by omega))
  -- the loop
  obtain ⟨g', el, s, hg⟩ := forF_pre (fun (e : Nat × P × P) => D.int (e.1 : Nat)) (a := asg (.one 6)) (b := fun g => evSs ct n f_clipped_B0 g)
    (fun done g => ∃ s, g = [.sh (regD L), .sh (tD h), .sh (.lst (L.map fun p => tD (fl p))), .no, .sh (.lst (L.map fun p => .int (over h (fl p)))), .ow (((done.map (·.2)).flatMap (stepR' (hT h))).map spD), s]) (ixs L) (ixs L) []
    [.sh (regD L), .sh (tD h), .sh (.lst (L.map fun p => tD (fl p))), .no, .sh (.lst (L.map fun p => .int (over h (fl p)))), .ow [], .no] rfl ⟨.no, rfl⟩ (fun done e rest g hall ⟨s, hg⟩ => by
      subst hg
      have he : e ∈ ixs L := by rw [hall]; simp
      have hdl : done.length ≤ 50000 := by
        have := congrArg List.length hall
        rw [ixs_len] at this
        simp at this; omega
      obtain ⟨h1, h2, h3, hm⟩ := ixs_get he
      have a1 : atI (L.map fun p => D.int (over h (fl p))) (e.1 : Int) = some (.int (over h (fl e.2.2))) := atI_get (f := fun p => D.int (over h (fl p))) h2
      have a2 : atI (L.map fun p => D.int (over h (fl p))) ((e.1 : Int) - 1) = some (.int (over h (fl e.2.1))) := atI_prev (f := fun p => D.int (over h (fl p))) h1 h3
      have a3 : atI (L.map fun p => tD (fl p)) (e.1 : Int) = some (tD (fl e.2.2)) := atI_get (f := fun p => tD (fl p)) h2
      have a4 : atI (L.map fun p => tD (fl p)) ((e.1 : Int) - 1) = some (tD (fl e.2.1)) := atI_prev (f := fun p => tD (fl p)) h1 h3
      have a5 : atI (L.map spD) (e.1 : Int) = some (spD e.2.2) := atI_get h2
      have sp1 := hS _ (List.mem_of_getElem? h2)
      have sp2 := hS _ (List.mem_of_getElem? h3)
      have ob : ∀ p, SpB 602 p → B 1600 (over h (fl p)) := fun p hp => by
        haveI : BdT 1204 (fl p) := @flB 602 p hp
        exact (show Bd _ (over h (fl p)) by unfold over; infer_instance).b.mono (by omega)
      have o1 := ob _ sp1
      have o2 := ob _ sp2
      have om : mulOk (over h (fl e.2.1)) (over h (fl e.2.2)) = true := B.ok o2 o1 (by omega)
      have sg : (over h (fl e.2.1) * over h (fl e.2.2) < 0) ↔ ((hT h).ev e.2.1 * (hT h).ev e.2.2 < 0) := by
        refine (cast_sign (w := (((fl e.2.1).2.2 : Int) : Rat) * (((fl e.2.2).2.2 : Int) : Rat)) (Rat.mul_pos (castpos (fl_of _).w) (castpos (fl_of _).w)) ?_).2.1
        rw [Rat.intCast_mul, over_ev (fl_of _), over_ev (fl_of _)]; grind
      have sn : 0 ≤ over h (fl e.2.2) ↔ 0 ≤ (hT h).ev e.2.2 := over_nn (fl_of _)
      have hlen : ((done.map (·.2)).flatMap (stepR' (hT h))).length ≤ 200000 := by
        have := flat_len (hT h) (done.map (·.2))
        rw [List.length_map] at this
        omega
      have hfin : ((done ++ [e]).map (·.2)).flatMap (stepR' (hT h)) = (done.map (·.2)).flatMap (stepR' (hT h)) ++ stepR' (hT h) e.2 := by simp
      refine ⟨[.sh (regD L), .sh (tD h), .sh (.lst (L.map fun p => tD (fl p))), .no, .sh (.lst (L.map fun p => .int (over h (fl p)))), .ow (((done.map (·.2)).flatMap (stepR' (hT h))).map spD), .sh (.int (e.1 : Nat))], [.sh (regD L), .sh (tD h), .sh (.lst (L.map fun p => tD (fl p))), .no, .sh (.lst (L.map fun p => .int (over h (fl p)))), .ow (((done.map (·.2)).flatMap (stepR' (hT h)) ++ stepR' (hT h) e.2).map spD), .sh (.int (e.1 : Nat))], by simp, ?_, .sh (.int (e.1 : Nat)), by rw [hfin]⟩
      generalize (done.map (·.2)).flatMap (stepR' (hT h)) = acc at *
      -- the crossing
      have s1 : evS ct n (.ife (.cmp .lt (.bin .mul (.idx (.var 4) (.bin .sub (.var 6) (.int 1))) (.idx (.var 4) (.var 6))) (.int 0))
          (.cons (.app 5 (.call 56 (.cons (.idx (.var 2) (.bin .sub (.var 6) (.int 1))) (.cons (.idx (.var 2) (.var 6)) (.cons (.idx (.var 4) (.bin .sub (.var 6) (.int 1))) (.cons (.idx (.var 4) (.var 6)) .nil)))))) .nil) .nil)
          [.sh (regD L), .sh (tD h), .sh (.lst (L.map fun p => tD (fl p))), .no, .sh (.lst (L.map fun p => .int (over h (fl p)))), .ow (acc.map spD), .sh (.int (e.1 : Nat))] = some (.nx [.sh (regD L), .sh (tD h), .sh (.lst (L.map fun p => tD (fl p))), .no, .sh (.lst (L.map fun p => .int (over h (fl p)))), .ow ((acc ++ (if (hT h).ev e.2.1 * (hT h).ev e.2.2 < 0 then [Gm.X (hT h) e.2.1 e.2.2] else [])).map spD), .sh (.int (e.1 : Nat))]) := by
        by_cases c : (hT h).ev e.2.1 * (hT h).ev e.2.2 < 0
        · have cx := hx h e.2.1 e.2.2 inferInstance sp2 sp1 (fun z => by rw [z] at c; have := Gm.sq_nn ((hT h).ev e.2.2); grind)
          have c' := sg.mpr c
          rw [if_pos c]
          have lo : lenOk acc.length = true := lenOk_small (by omega)
          simp only [evS_ife, evE_cmp, evE_bin, evE_idx, evE_var, evE_int, List.getElem?_cons_succ, List.getElem?_cons_zero, slV_sh, Option.bind_some, asInt_int, asLT_lst, binD_sub, a1, a2, binD_mul, om, if_true, cmpD_lt, decide_eq_true c', asBl_bl, evSs_cons, evS_app, evE_call, evs_cons, evs_nil, a3, a4, storable_sh, cx, noEx_sh, ownAt_cons0, ownAt_cons, List.length_map, lo, setSl_cons, setSl_cons0, Option.map_some, andThen_nx, evSs_nil, List.map_append, List.map_cons, List.map_nil]
        · rw [if_neg c]
          have c' : ¬ over h (fl e.2.1) * over h (fl e.2.2) < 0 := fun z => c (sg.mp z)
          simp only [evS_ife, evE_cmp, evE_bin, evE_idx, evE_var, evE_int, List.getElem?_cons_succ, List.getElem?_cons_zero, slV_sh, Option.bind_some, asInt_int, asLT_lst, binD_sub, a1, a2, binD_mul, om, if_true, cmpD_lt, decide_eq_false c', asBl_bl, evSs_nil, List.append_nil, Bool.false_eq_true, if_false]
      refine stepS s1 ?_
      have hlen2 : (acc ++ (if (hT h).ev e.2.1 * (hT h).ev e.2.2 < 0 then [Gm.X (hT h) e.2.1 e.2.2] else [])).length ≤ 200001 := by
        rw [List.length_append]
        split <;> simp <;> omega
      have hfin2 : acc ++ stepR' (hT h) e.2 = (acc ++ (if (hT h).ev e.2.1 * (hT h).ev e.2.2 < 0 then [Gm.X (hT h) e.2.1 e.2.2] else [])) ++ (if 0 ≤ (hT h).ev e.2.2 then [e.2.2] else []) := by unfold stepR'; simp
      rw [hfin2]
      generalize acc ++ (if (hT h).ev e.2.1 * (hT h).ev e.2.2 < 0 then [Gm.X (hT h) e.2.1 e.2.2] else []) = acc2 at *
      have lo : lenOk acc2.length = true := lenOk_small (by omega)
      by_cases c : 0 ≤ (hT h).ev e.2.2
      · rw [if_pos c]
        simp only [evSs_cons, evS_ife, evE_cmp, evE_idx, evE_var, evE_int, List.getElem?_cons_succ, List.getElem?_cons_zero, slV_sh, Option.bind_some, asInt_int, asLT_lst, asLT_regD, a1, cmpD_ge, decide_eq_true (sn.mpr c), asBl_bl, if_true, evS_app, a5, storable_sh, ownAt_cons0, ownAt_cons, List.length_map, lo, setSl_cons, setSl_cons0, Option.map_some, andThen_nx, evSs_nil, List.map_append, List.map_cons, List.map_nil]
      · rw [if_neg c]
        simp only [evSs_cons, evS_ife, evE_cmp, evE_idx, evE_var, evE_int, List.getElem?_cons_succ, List.getElem?_cons_zero, slV_sh, Option.bind_some, asInt_int, asLT_lst, asLT_regD, a1, cmpD_ge, decide_eq_false (fun z => c (sn.mp z)), asBl_bl, Bool.false_eq_true, if_false, andThen_nx, evSs_nil, List.append_nil])
  have hR : ((ixs L).map (·.2)).flatMap (stepR' (hT h)) = Gm.ring (hT h) L := by rw [ixs_snd, ring_flat]
  rw [hR] at hg
  have hRl : (Gm.ring (hT h) L).length ≤ 100000 := by
    rw [ring_flat]
    have := flat_len (hT h) (sides L)
    rw [sides_len] at this; omega
  have hRb : ∀ p ∈ Gm.ring (hT h) L, SpB 602 p := fun p hp => by
    rw [ring_flat] at hp
    obtain ⟨x, hx1, hx2⟩ := List.mem_flatMap.mp hp
    unfold stepR' at hx2
    rcases List.mem_append.mp hx2 with k | k
    · split at k
      · rename_i c
        simp at k
        subst k
        exact SpB_of_CB (Gm.CB_X bh.1 bh.2.1 bh.2.2 (hB.s x.1 x.2 hx1) (fun z => by
          have e : (hT h).ev x.1 = (hT h).ev x.2 := z
          rw [e] at c
          have := Gm.sq_nn ((hT h).ev x.2)
          grind))
      · cases k
    · split at k
      · simp at k
        subst k
        exact hS _ (Gm.sides_mem (s := x.1) (t := x.2) hx1).2
      · cases k
  have pre : PreT (Gm.ring (hT h) L) := by
    cases sh with
    | few e l g => exact .inl ⟨e, l⟩
    | two a b e ne g => exact .inr (.inl ⟨a, b, e, ne⟩)
    | more e c g => exact .inr (.inr ⟨e, c⟩)
  obtain ⟨M, m1, m2⟩ := htd _ hRb hRl pre
  obtain ⟨r1, r2⟩ := Gm.Tidy.right sh m1
  refine ⟨M, r1, r2, runR rfl ?_⟩
  have eL : evS ct n f_clipped_L0 [.sh (regD L), .sh (tD h), .sh (.lst (L.map fun p => tD (fl p))), .no, .sh (.lst (L.map fun p => .int (over h (fl p)))), .ow [], .no] = some (.nx g') := by
    rw [f_clipped_L0, evS_fr]
    simp only [evI_rng, evE_b1, evE_var, List.getElem?_cons_zero, slV_sh, Option.bind_some, b1D_len, asLT_regD, Option.map_some, List.length_map, asInt_int, rngOk_n (show L.length ≤ 1000000 by omega), if_true, Int.toNat_natCast]
    rw [if_neg (fun z => by cases z), ixs_rng]
    exact el
  subst hg
  refine stepS (g' := [.sh (regD L), .sh (tD h), .sh (.lst (L.map fun p => tD (fl p))), .no, .no, .no, .no]) ?_ ?_
  · show evS ct n (.set false 2 f_clipped_C0) [.sh (regD L), .sh (tD h), .no, .no, .no, .no, .no] = _
    rw [evS_set, e0]; simp
  refine stepS (g' := [.sh (regD L), .sh (tD h), .sh (.lst (L.map fun p => tD (fl p))), .no, .sh (.lst (L.map fun p => .int (over h (fl p)))), .no, .no]) ?_ ?_
  · rw [evS_set, e1]; simp
  refine stepS (g' := [.sh (regD L), .sh (tD h), .sh (.lst (L.map fun p => tD (fl p))), .no, .sh (.lst (L.map fun p => .int (over h (fl p)))), .ow [], .no]) (by simp) ?_
  refine stepS eL ?_
  have m2' : ct 54 [.lst ((Gm.ring (hT h) L).map spD)] = some (.fr, regD M) := m2
  simp [m2', regD]
end Ev
namespace Ev
open PySem L2
open Gm (P lex cr Cvx Reg Cv sides apart Tidy Hf hI Bnd CB SB Good)
/-! ### the hull -/
def ofI (p : Pt) : P := ⟨((p.1 : Int) : Rat), ((p.2 : Int) : Rat)⟩
theorem ofI_inj {p q : Pt} (h : ofI p = ofI q) : p = q := by
  have h1 : ((p.1 : Int) : Rat) = ((q.1 : Int) : Rat) := congrArg P.x h
  have h2 : ((p.2 : Int) : Rat) = ((q.2 : Int) : Rat) := congrArg P.y h
  exact Prod.ext (Rat.intCast_inj.mp h1) (Rat.intCast_inj.mp h2)
def t1 (p : Pt) : Tr := (p.1, p.2, 1)
theorem t1_of (p : Pt) : Of (t1 p) (ofI p) := ⟨by show (0 : Int) < 1; omega, by show ((p.1 : Int) : Rat) = ((p.1 : Int) : Rat) * ((1 : Int) : Rat); grind, by show ((p.2 : Int) : Rat) = ((p.2 : Int) : Rat) * ((1 : Int) : Rat); grind⟩
theorem spD_ofI (p : Pt) : spD (ofI p) = .tup [.tup [.int p.1, .int 1], .tup [.int p.2, .int 1]] := by
  unfold spD qD ofI
  simp
theorem fl_ofI (p : Pt) : fl (ofI p) = t1 p := by
  unfold fl ofI t1
  simp
noncomputable def popI (p : Pt) : List Pt → List Pt
  | a :: b :: l => if det (t1 b) (t1 a) (t1 p) ≤ 0 then popI p (b :: l) else a :: b :: l
  | l => l
noncomputable def pushI (st : List Pt) (p : Pt) : List Pt := p :: popI p st
noncomputable def chainI (r : List Pt) : List Pt := r.foldl pushI []
theorem popI_map (p : Pt) : ∀ l : List Pt, (popI p l).map ofI = Gm.popW (ofI p) (l.map ofI)
  | [] => rfl
  | [a] => rfl
  | a :: b :: l => by
    have d := (det_pos (t1_of b) (t1_of a) (t1_of p)).1
    rw [popI, List.map_cons, List.map_cons, Gm.popW]
    by_cases h : det (t1 b) (t1 a) (t1 p) ≤ 0
    · rw [if_pos h, if_pos (by have : ¬ 0 < cr (ofI b) (ofI a) (ofI p) := fun z => by have := d.mpr z; omega
                               grind), popI_map p (b :: l)]; rfl
    · rw [if_neg h, if_neg (by have : 0 < cr (ofI b) (ofI a) (ofI p) := d.mp (by omega)
                               grind)]; rfl
theorem fold_map : ∀ (r st : List Pt), (r.foldl pushI st).map ofI = (r.map ofI).foldl Gm.push (st.map ofI)
  | [], st => rfl
  | p :: r, st => by
    rw [List.foldl_cons, List.map_cons, List.foldl_cons, fold_map r]
    congr 1
    unfold pushI Gm.push
    rw [List.map_cons, popI_map]
theorem chainI_map (r : List Pt) : (chainI r).map ofI = Gm.chain (r.map ofI) := fold_map r []
theorem popI_len (p : Pt) : ∀ l : List Pt, (popI p l).length ≤ l.length
  | [] => Nat.le_refl _
  | [a] => Nat.le_refl _
  | a :: b :: l => by
    rw [popI]
    split
    · have := popI_len p (b :: l); simp at this ⊢; omega
    · exact Nat.le_refl _
theorem popI_sub (p : Pt) : ∀ l : List Pt, ∀ q ∈ popI p l, q ∈ l
  | [], q, h => h
  | [a], q, h => h
  | a :: b :: l, q, h => by
    rw [popI] at h
    split at h
    · exact List.mem_cons_of_mem _ (popI_sub p (b :: l) q h)
    · exact h
def c3 (st : List Pt) : List D := (st.reverse.map t1).map tD
theorem c3_len (st : List Pt) : (c3 st).length = st.length := by unfold c3; simp
theorem bT1 {p : Pt} (h : BP 150 p) : BdT 3000 (t1 p) := ⟨⟨h.1.mono (by omega), h.2.mono (by omega), (show B 1 1 by unfold B; decide).mono (by omega)⟩⟩
theorem hull_pop {ct : Ct} {n : Nat} (ht : TurnS (ct 37)) (p : Pt) (hp : BP 150 p) (s0 s1 s2 s3 s7 s8 : Sl) : ∀ (m : Nat) (st : List Pt), (∀ q ∈ st, BP 150 q) → st.length < m →
    whlF (fun g => (evE ct g (.ands (.cons (.cmp .gt (.b1 .len (.var 4)) (.int 1)) (.cons (.cmp .le (.call 37 (.cons (.idx (.var 4) (.neg (.int 2))) (.cons (.idx (.var 4) (.neg (.int 1))) (.cons (.tup (.cons (.var 5) (.cons (.var 6) (.cons (.int 1) .nil)))) .nil)))) (.int 0)) .nil)))).bind fun x => asBl x.2) (fun g => evSs ct n f_hull_B0 g) m
      [s0, s1, s2, s3, .ow (c3 st), .sh (.int p.1), .sh (.int p.2), s7, s8] = some (.nx [s0, s1, s2, s3, .ow (c3 (popI p st)), .sh (.int p.1), .sh (.int p.2), s7, s8])
  | 0, st, _, h => by omega
  | m + 1, [], _, _ => by
    refine whlF_false ?_
    simp [c3]
  | m + 1, [a], _, _ => by
    refine whlF_false ?_
    simp [c3]
  | m + 1, a :: b :: l, hb, hm => by
    have e2 : atI (c3 (a :: b :: l)) (-2) = some (tD (t1 b)) := by
      rw [show (-2 : Int) = -((2 : Nat) : Int) from rfl, atI_neg (by omega) (by rw [c3_len]; simp), c3_len]
      simp [c3]
    have e1 : atI (c3 (a :: b :: l)) (-1) = some (tD (t1 a)) := by
      rw [show (-1 : Int) = -((1 : Nat) : Int) from rfl, atI_neg (by omega) (by rw [c3_len]; simp), c3_len]
      simp [c3]
    have hbb := hb b (by simp); have hba := hb a (by simp)
    have tt := ht (t1 b) (t1 a) (t1 p) (bT1 hbb) (bT1 hba) (bT1 hp)
    have gt : (1 : Int) < ((c3 (a :: b :: l)).length : Nat) := by rw [c3_len]; simp; omega
    have tp : D.tup [.int p.1, .int p.2, .int 1] = tD (t1 p) := rfl
    have ec : (evE ct [s0, s1, s2, s3, .ow (c3 (a :: b :: l)), .sh (.int p.1), .sh (.int p.2), s7, s8] (.ands (.cons (.cmp .gt (.b1 .len (.var 4)) (.int 1)) (.cons (.cmp .le (.call 37 (.cons (.idx (.var 4) (.neg (.int 2))) (.cons (.idx (.var 4) (.neg (.int 1))) (.cons (.tup (.cons (.var 5) (.cons (.var 6) (.cons (.int 1) .nil)))) .nil)))) (.int 0)) .nil)))).bind (fun x => asBl x.2) = some (decide (det (t1 b) (t1 a) (t1 p) ≤ 0)) := by
      simp only [evE_ands, evAnd_cons, evAnd_one, evE_cmp, evE_b1, evE_var, evE_int, List.getElem?_cons_succ, List.getElem?_cons_zero, slV_ow, slV_sh, Option.bind_some, b1D_len, asLT_lst, Option.map_some, cmpD_gt, decide_eq_true gt, asBl_bl, if_true, evE_call, evs_cons, evs_nil, evE_idx, evE_neg, asInt_int, e2, e1, storable_sh, evE_tup, List.length_cons, List.length_nil, tp]
      simp only [Nat.zero_add, Nat.reduceAdd, lenOk_3, if_true, Option.bind_some, storable_sh, tt, noEx_sh, cmpD_le, asBl_bl]
    by_cases h : det (t1 b) (t1 a) (t1 p) ≤ 0
    · rw [decide_eq_true h] at ec
      rw [popI, if_pos h]
      refine (whlF_true (g' := [s0, s1, s2, s3, .ow (c3 (b :: l)), .sh (.int p.1), .sh (.int p.2), s7, s8]) ec ?_).trans (hull_pop ht p hp s0 s1 s2 s3 s7 s8 m (b :: l) (fun q hq => hb q (by simp at hq ⊢; grind)) (by simp at hm ⊢; omega))
      have d : (c3 (a :: b :: l)).dropLast = c3 (b :: l) := by unfold c3; simp
      have lst : ∃ x, (c3 (a :: b :: l))[(c3 (a :: b :: l)).length - 1]? = some x := ⟨_, List.getElem?_eq_getElem (by rw [c3_len]; simp)⟩
      obtain ⟨x, hx⟩ := lst
      simp only [f_hull_B0, evSs_cons, evSs_nil, evS_pop, ownAt_cons, ownAt_cons0, Option.bind_some, hx, d, setSl_cons, setSl_cons0, Option.map_some, andThen_nx]
    · rw [decide_eq_false h] at ec
      rw [popI, if_neg h]
      exact whlF_false ec
theorem hull_row {ct : Ct} {n : Nat} (hn : 1000 < n) (ht : TurnS (ct 37)) (s0 s1 s2 s3 s7 s8 : Sl) : ∀ (r st : List Pt) (s5 s6 : Sl), (∀ q ∈ r, BP 150 q) → (∀ q ∈ st, BP 150 q) → r.length + st.length ≤ 500 →
    ∃ s5' s6', forF (asg (.many [5, 6])) (fun g => evSs ct n f_hull_B1 g) (r.map pD) [s0, s1, s2, s3, .ow (c3 st), s5, s6, s7, s8] = some (.nx [s0, s1, s2, s3, .ow (c3 (r.foldl pushI st)), s5', s6', s7, s8])
  | [], st, s5, s6, _, _, _ => ⟨s5, s6, rfl⟩
  | p :: r, st, s5, s6, hr, hst, hl => by
    simp at hl
    have hp := hr p (by simp)
    have w := hull_pop (n := n) ht p hp s0 s1 s2 s3 s7 s8 n st hst (by omega)
    have pl := popI_len p st
    obtain ⟨a, b, e⟩ := hull_row hn ht s0 s1 s2 s3 s7 s8 r (pushI st p) (.sh (.int p.1)) (.sh (.int p.2)) (fun q hq => hr q (by simp [hq])) (fun q hq => by
      unfold pushI at hq
      rcases List.mem_cons.mp hq with rfl | hq
      · exact hp
      · exact hst q (popI_sub p st q hq)) (by unfold pushI; simp; omega)
    refine ⟨a, b, ?_⟩
    rw [List.map_cons, List.foldl_cons, forF_nx (g1 := [s0, s1, s2, s3, .ow (c3 st), .sh (.int p.1), .sh (.int p.2), s7, s8]) (by simp [pD]) (g2 := [s0, s1, s2, s3, .ow (c3 (pushI st p)), .sh (.int p.1), .sh (.int p.2), s7, s8]) ?_]
    · exact e
    · refine stepS (g' := [s0, s1, s2, s3, .ow (c3 (popI p st)), .sh (.int p.1), .sh (.int p.2), s7, s8]) (by rw [f_hull_L0, evS_whl]; exact w) ?_
      have lo : lenOk (c3 (popI p st)).length = true := lenOk_small (by rw [c3_len]; omega)
      have e2 : c3 (popI p st) ++ [tD (t1 p)] = c3 (pushI st p) := by unfold c3 pushI; simp
      have tp : D.tup [.int p.1, .int p.2, .int 1] = tD (t1 p) := rfl
      simp only [evSs_cons, evSs_nil, evS_app, evE_tup, evs_cons, evs_nil, evE_var, evE_int, List.getElem?_cons_succ, List.getElem?_cons_zero, slV_sh, Option.bind_some, storable_sh, List.length_cons, List.length_nil, Nat.zero_add, Nat.reduceAdd, lenOk_3, if_true, tp, ownAt_cons, ownAt_cons0, lo, e2, setSl_cons, setSl_cons0, Option.map_some, andThen_nx]
/-! ### the sorted row -/
theorem asRows_pts : ∀ ps : List Pt, asRows (ps.map pD) = some (ps.map fun p => [p.1, p.2])
  | [] => rfl
  | p :: ps => by
    rw [List.map_cons, asRows, asRows_pts ps]
    rfl
def ltP (p q : Pt) : Prop := p.1 < q.1 ∨ p.1 = q.1 ∧ p.2 < q.2
theorem lexI_pts (p q : Pt) : lexI [q.1, q.2] [p.1, p.2] = false ↔ (p = q ∨ ltP p q) := by
  obtain ⟨a, b⟩ := p
  obtain ⟨c, d⟩ := q
  show ((decide (c < a)) || (!decide (a < c) && ((decide (d < b)) || (!decide (b < d) && false)))) = false ↔ _
  unfold ltP
  by_cases h1 : c < a <;> by_cases h2 : a < c <;> by_cases h3 : d < b <;> by_cases h4 : b < d <;> simp [h1, h2, h3, h4] <;> omega
theorem sorted_pts (ps : List Pt) : ∃ ss : List Pt, sortR (dedupR (ps.map fun p => [p.1, p.2])) = ss.map (fun p => [p.1, p.2]) ∧ ss.Pairwise ltP ∧ (∀ p, p ∈ ss ↔ p ∈ ps) ∧ ss.length ≤ ps.length := by
  obtain ⟨R, hR⟩ : ∃ R, sortR (dedupR (ps.map fun p : Pt => [p.1, p.2])) = R := ⟨_, rfl⟩
  have hm : ∀ r, r ∈ R ↔ r ∈ ps.map fun p : Pt => [p.1, p.2] := fun r => by rw [← hR, (sortR_perm _).mem_iff, dedupR_mem]
  have hp : R.Pairwise fun a b => lexI b a = false := hR ▸ sortR_pw _
  have hn : R.Nodup := hR ▸ (sortR_perm _).nodup_iff.mpr (dedupR_nd _)
  have hl : R.length ≤ ps.length := by
    have := hn.length_le_of_subset (fun r hr => (hm r).mp hr)
    simpa using this
  have pull : ∀ R : List (List Int), (∀ r ∈ R, r ∈ ps.map fun p : Pt => [p.1, p.2]) → ∃ ss : List Pt, R = ss.map (fun p => [p.1, p.2]) := fun R => by
    induction R with
    | nil => intro _; exact ⟨[], rfl⟩
    | cons r R ih =>
      intro h
      obtain ⟨ss, e⟩ := ih fun x hx => h x (by simp [hx])
      obtain ⟨p, _, e2⟩ := List.mem_map.mp (h r (by simp))
      exact ⟨p :: ss, by rw [List.map_cons, e, e2]⟩
  obtain ⟨ss, e⟩ := pull R fun r hr => (hm r).mp hr
  subst e
  have inj : ∀ p q : Pt, ([p.1, p.2] : List Int) = [q.1, q.2] → p = q := fun p q h => by
    simp at h; exact Prod.ext h.1 h.2
  refine ⟨ss, hR, ?_, fun p => ?_, by simpa using hl⟩
  · rw [List.pairwise_map] at hp
    have hn' : ss.Nodup := by
      have := List.pairwise_map.mp hn
      exact this.imp fun {a b} h e => h (by rw [e])
    refine List.Pairwise.imp₂ (fun a b h1 h2 => ?_) hp hn'
    rcases (lexI_pts a b).mp h1 with z | z
    · exact absurd z h2
    · exact z
  · constructor
    · intro h
      obtain ⟨q, hq, e⟩ := List.mem_map.mp ((hm [p.1, p.2]).mp (List.mem_map.mpr ⟨p, h, rfl⟩))
      rw [← inj _ _ e]; exact hq
    · intro h
      obtain ⟨q, hq, e⟩ := List.mem_map.mp ((hm [p.1, p.2]).mpr (List.mem_map.mpr ⟨p, h, rfl⟩))
      rw [← inj _ _ e]; exact hq
theorem ltP_lex {p q : Pt} (h : ltP p q) : lex (ofI p) (ofI q) := by
  rcases h with h | ⟨h1, h2⟩
  · exact .inl (Rat.intCast_lt_intCast.mpr h)
  · exact .inr ⟨by show ((p.1 : Int) : Rat) = ((q.1 : Int) : Rat); rw [h1], Rat.intCast_lt_intCast.mpr h2⟩
noncomputable def hullI (ss : List Pt) : List Pt := if ss.length = 1 then (chainI ss).reverse else (chainI ss).reverse.dropLast ++ (chainI ss.reverse).reverse.dropLast
theorem hullI_map (ss : List Pt) : (hullI ss).map ofI = Gm.hullR (ss.map ofI) := by
  unfold hullI Gm.hullR
  rw [List.length_map]
  split
  · rw [List.map_reverse, chainI_map]
  · rw [List.map_append, List.map_dropLast, List.map_dropLast, List.map_reverse, List.map_reverse, chainI_map, chainI_map, List.map_reverse]
def HullS (F : List D → Rs) : Prop := ∀ ps : List Pt, (∀ p ∈ ps, BP 150 p) → ps.length < 65 → ∃ M : List Pt, Reg (M.map ofI) ∧ (∀ p, Cv (M.map ofI) p ↔ Cv (ps.map ofI) p) ∧ (∀ q ∈ M, q ∈ ps) ∧ F [.lst (ps.map pD)] = some (.fr, regD (M.map ofI))
theorem fold_len : ∀ (r st : List Pt), (r.foldl pushI st).length ≤ r.length + st.length
  | [], st => by simp
  | p :: r, st => by
    rw [List.foldl_cons]
    have := fold_len r (pushI st p)
    have := popI_len p st
    unfold pushI at *
    simp at *; omega
theorem chainI_len (r : List Pt) : (chainI r).length ≤ r.length := by have := fold_len r []; simp at this; exact this
theorem ev_hull {ct : Ct} {n : Nat} (hn : 1000 < n) (ht : TurnS (ct 37)) : HullS (runFn f_hull ct n) := fun ps hp hl => by
  obtain ⟨ss, e1, e2, e3, e4⟩ := sorted_pts ps
  have hss : (ss.map ofI).Pairwise lex := List.pairwise_map.mpr (e2.imp fun h => ltP_lex h)
  obtain ⟨r1, r2, r3⟩ := Gm.hullR_right hss
  rw [← hullI_map] at r1 r2 r3
  have bs : ∀ q ∈ ss, BP 150 q := fun q hq => hp q ((e3 q).mp hq)
  refine ⟨hullI ss, r1, fun p => ?_, fun q hq => ?_, ?_⟩
  · rw [r2 p]
    constructor
    · exact Cv.mono fun q hq => by
        obtain ⟨z, hz, rfl⟩ := List.mem_map.mp hq
        exact List.mem_map.mpr ⟨z, (e3 z).mp hz, rfl⟩
    · exact Cv.mono fun q hq => by
        obtain ⟨z, hz, rfl⟩ := List.mem_map.mp hq
        exact List.mem_map.mpr ⟨z, (e3 z).mpr hz, rfl⟩
  · have := r3 (ofI q) (List.mem_map.mpr ⟨q, hq, rfl⟩)
    obtain ⟨z, hz, e⟩ := List.mem_map.mp this
    rw [← ofI_inj e]; exact (e3 z).mp hz
  · have es : b1D .sset (.lst (ps.map pD)) = some (.fr, .lst (ss.map pD)) := by
      show (do let ds ← asL (.lst (ps.map pD)); let rs ← asRows ds; if rs.length < 65 ∧ rs.all (fun r => r.length == 2) then pure (M.fr, D.lst ((sortR (dedupR rs)).map rowD)) else none) = _
      rw [asL_lst]
      simp only [Option.bind_eq_bind, Option.bind_some, asRows_pts]
      rw [if_pos ⟨by simpa using hl, by simp⟩, e1, List.map_map]
      rfl
    have rowb : ∀ q ∈ ss.reverse, BP 150 q := fun q hq => bs q (List.mem_reverse.mp hq)
    -- the two rows
    have turn : ∀ (row : List Pt) (s1 : Sl) (s2 : List D) (s4 s5 s6 : Sl), (∀ q ∈ row, BP 150 q) → row.length ≤ 64 → s2.length ≤ 5 → ∃ s5' s6' : Sl, evSs ct n f_hull_B2 [.sh (.lst (ps.map pD)), s1, .ow s2, .sh (.lst (row.map pD)), s4, s5, s6, .no, .no] = some (.nx [.sh (.lst (ps.map pD)), s1, .ow (s2 ++ [.lst (c3 (chainI row))]), .sh (.lst (row.map pD)), .sh (.lst (c3 (chainI row))), s5', s6', .no, .no]) := fun row s1 s2 s4 s5 s6 hb hr h2 => by
      obtain ⟨a, b, e⟩ := hull_row (n := n) hn ht (.sh (.lst (ps.map pD))) s1 (.ow s2) (.sh (.lst (row.map pD))) .no .no row [] s5 s6 hb (fun q h => by cases h) (by simp; omega)
      refine ⟨a, b, ?_⟩
      refine stepS (g' := [.sh (.lst (ps.map pD)), s1, .ow s2, .sh (.lst (row.map pD)), .ow [], s5, s6, .no, .no]) (by simp) ?_
      refine stepS (g' := [.sh (.lst (ps.map pD)), s1, .ow s2, .sh (.lst (row.map pD)), .ow (c3 (chainI row)), a, b, .no, .no]) ?_ ?_
      · rw [f_hull_L1, evS_fr]
        simp only [evI_ex, evE_var, List.getElem?_cons_succ, List.getElem?_cons_zero, slV_sh, Option.bind_some, asLT_lst, itM]
        exact e
      · have lo : lenOk s2.length = true := lenOk_small (by omega)
        simp [lo]
    obtain ⟨a, b, f1⟩ := turn ss (.sh (.lst (ss.map pD))) [] .no .no .no bs (by omega) (by simp)
    obtain ⟨a', b', f2⟩ := turn ss.reverse (.sh (.lst (ss.map pD))) [.lst (c3 (chainI ss))] (.sh (.lst (c3 (chainI ss)))) a b rowb (by simp; omega) (by simp)
    have l1 := chainI_len ss
    have l2 := chainI_len ss.reverse
    simp at l2
    have cut1 : ∀ st : List Pt, cutD (c3 st) none (some (-1)) = (st.reverse.dropLast.map t1).map tD := fun st => by
      have : cutD (c3 st) none (some (-1)) = (c3 st).dropLast := by
        unfold cutD
        rw [HT.sIx_none]
        have : HT.sIx (c3 st).length (c3 st).length (some (-1)) = (c3 st).length - 1 := by
          rw [show (-1 : Int) = -((1 : Nat) : Int) from rfl]
          cases st with
          | nil => rfl
          | cons p st =>
            simp [HT.sIx, c3]
            try omega
        rw [this]
        simp [List.dropLast_eq_take]
      rw [this]
      unfold c3
      rw [List.map_dropLast, List.map_dropLast]
    have fin : ∀ M : List Pt, M.length ≤ 1000 → ∀ s0 s1 s2 s3 s4 s5 s6, evE ct [s0, s1, s2, s3, s4, s5, s6, .sh (.lst ((M.map t1).map tD)), .no] f_hull_C0 = some (.fr, regD (M.map ofI)) := fun M hM s0 s1 s2 s3 s4 s5 s6 => by
      rw [regD, List.map_map, List.map_map]
      refine evE_comp_of (m := .sh) (ds := M.map (tD ∘ t1)) (by simp [itM]) rfl (compF_map (tD ∘ t1) (spD ∘ ofI) M (fun p _ => ?_) (by omega))
      refine ⟨[s0, s1, s2, s3, s4, .sh (.int p.1), .sh (.int p.2), .sh (.lst (M.map (tD ∘ t1))), .sh (.int 1)], by simp [tD, t1, tgSlots, wipeE], by simp, (.sh, spD (ofI p)), by rw [spD_ofI]; simp, rfl⟩
    refine runR rfl ?_
    refine stepS (g' := [.sh (.lst (ps.map pD)), .sh (.lst (ss.map pD)), .no, .no, .no, .no, .no, .no, .no]) ?_ ?_
    · show evS ct n (.set false 1 (.b1 .sset (.var 0))) [.sh (.lst (ps.map pD)), .no, .no, .no, .no, .no, .no, .no, .no] = _
      rw [evS_set, evE_b1, evE_var, List.getElem?_cons_zero, slV_sh, Option.bind_some, es]; simp
    refine stepS (g' := [.sh (.lst (ps.map pD)), .sh (.lst (ss.map pD)), .ow [], .no, .no, .no, .no, .no, .no]) (by simp) ?_
    refine stepS (g' := [.sh (.lst (ps.map pD)), .sh (.lst (ss.map pD)), .ow [.lst (c3 (chainI ss)), .lst (c3 (chainI ss.reverse))], .sh (.lst (ss.reverse.map pD)), .sh (.lst (c3 (chainI ss.reverse))), a', b', .no, .no]) ?_ ?_
    · rw [f_hull_L2, evS_fr]
      have ei : evI ct [.sh (.lst (ps.map pD)), .sh (.lst (ss.map pD)), .ow [], .no, .no, .no, .no, .no, .no] (.ex (.lst (.cons (.var 1) (.cons (.b1 .lrev (.var 1)) .nil)))) = some (.sh, [.lst (ss.map pD), .lst (ss.reverse.map pD)]) := by
        simp [itM]
      rw [ei, Option.bind_some, if_neg (fun z => by cases z)]
      rw [forF_nx (g1 := [.sh (.lst (ps.map pD)), .sh (.lst (ss.map pD)), .ow [], .sh (.lst (ss.map pD)), .no, .no, .no, .no, .no]) (by simp) f1]
      rw [forF_nx (g1 := [.sh (.lst (ps.map pD)), .sh (.lst (ss.map pD)), .ow ([] ++ [.lst (c3 (chainI ss))]), .sh (.lst (ss.reverse.map pD)), .sh (.lst (c3 (chainI ss))), a, b, .no, .no]) (by simp) f2]
      rfl
    have lo : lenOk ((((chainI ss).reverse.dropLast.map t1).map tD).length + (((chainI ss.reverse).reverse.dropLast.map t1).map tD).length) = true := lenOk_small (by simp; omega)
    refine stepS (g' := [.sh (.lst (ps.map pD)), .sh (.lst (ss.map pD)), .ow [.lst (c3 (chainI ss)), .lst (c3 (chainI ss.reverse))], .sh (.lst (ss.reverse.map pD)), .sh (.lst (c3 (chainI ss.reverse))), a', b', .sh (.lst ((((chainI ss).reverse.dropLast ++ (chainI ss.reverse).reverse.dropLast).map t1).map tD)), .no]) ?_ ?_
    · have a0 : atI [D.lst (c3 (chainI ss)), D.lst (c3 (chainI ss.reverse))] 0 = some (.lst (c3 (chainI ss))) := rfl
      have a1 : atI [D.lst (c3 (chainI ss)), D.lst (c3 (chainI ss.reverse))] 1 = some (.lst (c3 (chainI ss.reverse))) := rfl
      simp only [evS_set, evE_bin, evE_slc, evE_idx, evE_var, evE_int, evE_neg, List.getElem?_cons_succ, List.getElem?_cons_zero, slV_ow, slV_sh, Option.bind_some, asInt_int, asLT_lst, a0, a1, isNonE_non, isNonE_neg, partV_t, partV_f, slcD_lst, cut1, binD_cat, lo, if_true, slOf_ff, setSl_cons, setSl_cons0, Option.map_some, List.map_append]
    unfold hullI
    by_cases h1 : ss.length = 1
    · rw [if_pos h1]
      refine stepS (g' := [.sh (.lst (ps.map pD)), .sh (.lst (ss.map pD)), .ow [.lst (c3 (chainI ss)), .lst (c3 (chainI ss.reverse))], .sh (.lst (ss.reverse.map pD)), .sh (.lst (c3 (chainI ss.reverse))), a', b', .sh (.lst ((((chainI ss).reverse).map t1).map tD)), .no]) ?_ ?_
      · have a0 : atI [D.lst (c3 (chainI ss)), D.lst (c3 (chainI ss.reverse))] 0 = some (.lst (c3 (chainI ss))) := rfl
        simp only [evS_ife, evE_cmp, evE_b1, evE_idx, evE_var, evE_int, List.getElem?_cons_succ, List.getElem?_cons_zero, slV_ow, slV_sh, Option.bind_some, asInt_int, asLT_lst, b1D_len, Option.map_some, List.length_map, h1, cmpD_eq, Int.natCast_one, decide_true, asBl_bl, if_true, evSs_cons, evS_set, a0, slOf_sh, setSl_cons, setSl_cons0, andThen_nx, evSs_nil]
        rfl
      · refine stepR (m := .fr) ?_
        rw [evS_ret, fin _ (by simp; omega)]; simp
    · rw [if_neg h1]
      refine stepS (g' := [.sh (.lst (ps.map pD)), .sh (.lst (ss.map pD)), .ow [.lst (c3 (chainI ss)), .lst (c3 (chainI ss.reverse))], .sh (.lst (ss.reverse.map pD)), .sh (.lst (c3 (chainI ss.reverse))), a', b', .sh (.lst ((((chainI ss).reverse.dropLast ++ (chainI ss.reverse).reverse.dropLast).map t1).map tD)), .no]) ?_ ?_
      · have h1' : ¬ ((ss.length : Nat) : Int) = 1 := by omega
        simp only [evS_ife, evE_cmp, evE_b1, evE_var, evE_int, List.getElem?_cons_succ, List.getElem?_cons_zero, slV_sh, Option.bind_some, asLT_lst, b1D_len, Option.map_some, List.length_map, cmpD_eq, decide_eq_false h1', asBl_bl, Bool.false_eq_true, if_false, evSs_nil]
      · refine stepR (m := .fr) ?_
        rw [evS_ret, fin _ (by simp; omega)]; simp
end Ev
namespace Ev
open PySem L2
open Gm (P lex cr Cvx Reg Cv sides apart Tidy Hf hI Bnd CB SB Good)
/-! ### the law's own defs about regions -/
def WholeS (F : List D → Rs) : Prop := ∀ i : Int, F [.int i] = some (.sh, .bl true)
def GcdS (F : List D → Rs) : Prop := ∀ a b : Int, B 8800 b → F [.int a, .int b] = some (.sh, .int (Int.gcd a b : Nat))
def TrueS (R : List D → Prop) (F : List D → Rs) : Prop := ∀ ds, R ds → F ds = some (.sh, .bl true)
def IsSpotS (F : List D → Rs) : Prop := ∀ p, SpB 602 p → F [spD p] = some (.sh, .bl true)
def BeforeS (F : List D → Rs) : Prop := ∀ (a b : Tr) (p q : P), Of a p → Of b q → BdT 3000 a → BdT 3000 b → F [tD a, tD b] = some (.sh, .bl (dB (lex p q)))
def IsRegS (F : List D → Rs) : Prop := ∀ L : List P, Reg L → (∀ p ∈ L, SpB 602 p) → L.length ≤ 50000 → F [regD L] = some (.sh, .bl true)
def flsD (L : List P) : D := .lst (L.map fun p => tD (fl p))
def HoldsS (F : List D → Rs) : Prop := ∀ (L : List P) (t : Tr) (p : P), Reg L → (∀ p ∈ L, SpB 602 p) → L.length ≤ 50000 → Of t p → BdT 3000 t → F [flsD L, tD t] = some (.sh, .bl (dB (Cv L p)))
theorem rat_gcd (a : Rat) : Int.gcd a.num a.den = 1 := by
  have := a.reduced
  unfold Nat.Coprime at this
  rw [Int.gcd, Int.natAbs_natCast]; exact this
theorem ev_whole' (ct : Ct) (n : Nat) : WholeS (runFn f_law_whole ct n) := fun i => ev_whole ct n i
theorem ev_law_gcd {ct : Ct} {n : Nat} (h : 20000 < n) : GcdS (runFn f_law_divisor ct n) := fun a b hb => ev_law_divisor ct n a b 8800 hb (by omega)
theorem ev_gcd {ct : Ct} {n : Nat} (h : 20000 < n) : GcdS (runFn f_divisor ct n) := fun a b hb => ev_divisor ct n a b 8800 hb (by omega)
theorem law_flat_eq : f_law_flat_k11 = f_spread := rfl
theorem law_turn_eq : f_law_turn_k11 = f_left_turn := rfl
theorem law_over_eq : f_law_over = f_over_border := rfl
@[simp] theorem isi_tup_qD (q : Rat) : isiD .tuple (qD q) = true := rfl
@[simp] theorem isi_tup_spD (p : P) : isiD .tuple (spD p) = true := rfl
@[simp] theorem isi_lst_regD (L : List P) : isiD .list (regD L) = true := rfl
@[simp] theorem isX_qD (q : Rat) : isX (qD q) = false := rfl
@[simp] theorem isX_spD (p : P) : isX (spD p) = false := rfl
@[simp] theorem isX_regD (L : List P) : isX (regD L) = false := rfl
@[simp] theorem asLT_qD (q : Rat) : asLT (qD q) = some [.int q.num, .int q.den] := rfl
@[simp] theorem asLT_spD (p : P) : asLT (spD p) = some [qD p.x, qD p.y] := rfl
theorem ev_is_spot {ct : Ct} {n : Nat} (hw : WholeS (ct 2)) (hg : GcdS (ct 16)) : IsSpotS (runFn f_law_is_spot ct n) := fun p hp => by
  have one : ∀ q : Rat, QB 602 q → ∀ s, evSs ct n f_law_is_spot_B0 [s, .sh (qD q)] = some (.nx [s, .sh (qD q)]) := fun q hq s => by
    have g := hg q.num q.den (hq.d.mono (by omega))
    rw [rat_gcd] at g
    have hd : ¬ ((q.den : Int) < 1) := by have := q.den_pos; omega
    simp [f_law_is_spot_B0, hw q.num, hw q.den, g, hd]
  refine runR rfl ?_
  have el : evS ct n f_law_is_spot_L0 [.sh (spD p), .no] = some (.nx [.sh (spD p), .sh (qD p.y)]) := by
    rw [f_law_is_spot_L0, evS_fr]
    simp only [evI_ex, evE_var, List.getElem?_cons_zero, slV_sh, Option.bind_some, asLT_spD, itM]
    rw [if_neg (fun z => by cases z)]
    rw [forF_nx (g1 := [.sh (spD p), .sh (qD p.x)]) (by simp) (one p.x inferInstance _), forF_nx (g1 := [.sh (spD p), .sh (qD p.y)]) (by simp) (one p.y inferInstance _)]
    rfl
  simp [f_law_is_spot, startE, el]
theorem ev_before (ct : Ct) (n : Nat) : BeforeS (runFn f_law_before ct n) := fun a b p q ha hb ba bb => by
  have ww := Rat.mul_pos (castpos ha.w) (castpos hb.w)
  have ex : ((a.1 * b.2.2 - b.1 * a.2.2 : Int) : Rat) = (((a.2.2 : Int) : Rat) * ((b.2.2 : Int) : Rat)) * (p.x - q.x) := by
    rw [Rat.intCast_sub, Rat.intCast_mul, Rat.intCast_mul, ha.x, hb.x]; grind
  have ey : ((a.2.1 * b.2.2 - b.2.1 * a.2.2 : Int) : Rat) = (((a.2.2 : Int) : Rat) * ((b.2.2 : Int) : Rat)) * (p.y - q.y) := by
    rw [Rat.intCast_sub, Rat.intCast_mul, Rat.intCast_mul, ha.y, hb.y]; grind
  have sx := cast_sign ww ex
  have sy := cast_sign ww ey
  have e1 : a.1 * b.2.2 = b.1 * a.2.2 ↔ p.x = q.x := by
    constructor
    · intro h
      have := sx.2.2.mp (by omega); grind
    · intro h
      have := sx.2.2.mpr (by grind); omega
  have l1 : a.1 * b.2.2 < b.1 * a.2.2 ↔ p.x < q.x := by
    constructor
    · intro h
      have := sx.2.1.mp (by omega); grind
    · intro h
      have := sx.2.1.mpr (by grind); omega
  have l2 : a.2.1 * b.2.2 < b.2.1 * a.2.2 ↔ p.y < q.y := by
    constructor
    · intro h
      have := sy.2.1.mp (by omega); grind
    · intro h
      have := sy.2.1.mpr (by grind); omega
  refine runR rfl ?_
  by_cases h : a.1 * b.2.2 = b.1 * a.2.2
  · have e : decide (a.2.1 * b.2.2 < b.2.1 * a.2.2) = dB (lex p q) := by
      rw [dB_dec]; exact dB_congr (by rw [lex_iff, if_pos (e1.mp h), l2])
    simp [f_law_before, startE, tD, h, e]
  · have e : decide (a.1 * b.2.2 < b.1 * a.2.2) = dB (lex p q) := by
      rw [dB_dec]; exact dB_congr (by rw [lex_iff, if_neg (fun z => h (e1.mpr z)), l1])
    simp [f_law_before, startE, tD, h, e]
/-- two corners -/
theorem Cv_two {a b p : P} (hab : lex a b) : Cv [a, b] p ↔ cr a b p = 0 ∧ ¬ lex p a ∧ ¬ lex b p := by
  constructor
  · intro h
    have h1 := h (Gm.crH a b) (fun q hq => by
      rw [Gm.crH_ev]; simp at hq; rcases hq with rfl | rfl
      · rw [Gm.cr_l]; grind
      · rw [Gm.cr_r]; grind)
    have h2 := h (Gm.crH b a) (fun q hq => by
      rw [Gm.crH_ev]; simp at hq; rcases hq with rfl | rfl
      · rw [Gm.cr_r]; grind
      · rw [Gm.cr_l]; grind)
    rw [Gm.crH_ev] at h1 h2
    rw [Gm.cr_swap] at h2
    have hc : cr a b p = 0 := by grind
    have d1 := h ⟨b.x - a.x, b.y - a.y, (b.x - a.x) * a.x + (b.y - a.y) * a.y⟩ (fun q hq => by
      have := Gm.sq_nn (b.x - a.x); have := Gm.sq_nn (b.y - a.y)
      unfold Hf.ev
      simp at hq; rcases hq with rfl | rfl <;> grind)
    have d2 := h ⟨a.x - b.x, a.y - b.y, (a.x - b.x) * b.x + (a.y - b.y) * b.y⟩ (fun q hq => by
      have := Gm.sq_nn (b.x - a.x); have := Gm.sq_nn (b.y - a.y)
      unfold Hf.ev
      simp at hq; rcases hq with rfl | rfl <;> grind)
    unfold Hf.ev at d1 d2
    simp only at d1 d2
    unfold cr at hc
    -- against the way of the stretch nothing lies
    have key : ∀ u v dx dy : Rat, Gm.Lp dx dy → Gm.Lp u v → u * dy = v * dx → dx * u + dy * v ≤ 0 → False := fun u v dx dy hd hu hp hle => by
      rcases hd with hd | ⟨hd, hd'⟩
      · rcases hu with hu | ⟨hu, hu'⟩
        · have m1 := Rat.mul_pos hd hu
          have m2 : (dy * v) * (dx * u) = (u * dy) * (v * dx) := by grind
          rw [hp] at m2
          have m3 := Gm.sq_nn (v * dx)
          rw [← m2] at m3
          have : 0 ≤ dy * v := Gm.nn_of_mul m1 m3
          grind
        · rw [hu] at hp
          have := Rat.mul_pos hu' hd
          grind
      · rw [hd] at hp
        have hu0 : u = 0 := by
          have : u * dy = 0 * dy := by grind
          exact Gm.mul_cancel_r (show dy ≠ 0 by grind) this
        rcases hu with hu | ⟨_, hu'⟩
        · grind
        · have := Rat.mul_pos hd' hu'
          rw [hd, hu0] at hle; grind
    rw [Gm.lex_Lp] at hab
    refine ⟨by unfold cr; exact hc, fun k => ?_, fun k => ?_⟩
    · rw [Gm.lex_Lp] at k
      exact key _ _ _ _ hab k (by grind) (by grind)
    · rw [Gm.lex_Lp] at k
      exact key _ _ _ _ hab k (by grind) (by grind)
  · intro ⟨h1, h2, h3⟩
    refine Gm.seg_cv ?_ ?_ h1
    · rcases Gm.lex_tot a p with z | z | z
      · exact .inl z
      · exact .inr z.symm
      · exact absurd z h2
    · rcases Gm.lex_tot p b with z | z | z
      · exact .inl z
      · exact .inr z
      · exact absurd z h3
theorem Cv_single {a p : P} : Cv [a] p ↔ ¬ lex p a ∧ ¬ lex a p := by
  constructor
  · intro h
    rw [Gm.Cv_one h]
    exact ⟨Gm.lex_irr a, Gm.lex_irr a⟩
  · intro ⟨h1, h2⟩
    rcases Gm.lex_tot p a with z | z | z
    · exact absurd z h1
    · rw [z]; exact Cv.mem (by simp)
    · exact absurd z h2
theorem Cv_many {L : List P} (h : Reg L) (h3 : 3 ≤ L.length) (p : P) : Cv L p ↔ Gm.InS L p := ⟨fun k => k.inS h.cvx, fun k => k.cv h.cvx h3⟩
theorem fl_b {p : P} (h : SpB 602 p) : BdT 3000 (fl p) := ⟨(@flB 602 p h).b.mono (by omega)⟩
theorem tD_inj {a b : Tr} : tD a = tD b ↔ a = b := by
  obtain ⟨a1, a2, a3⟩ := a
  obtain ⟨b1, b2, b3⟩ := b
  unfold tD
  simp
theorem fl_inj {p q : P} : fl p = fl q ↔ p = q := by
  constructor
  · intro h
    have h1 := fl_of p
    have h2 := fl_of q
    rw [h] at h1
    have w := Gm.mul_cancel_r (a := p.x) (b := q.x) (d := (((fl q).2.2 : Int) : Rat)) (by have := castpos h2.w; grind) (by rw [← h1.x, ← h2.x])
    have w2 := Gm.mul_cancel_r (a := p.y) (b := q.y) (d := (((fl q).2.2 : Int) : Rat)) (by have := castpos h2.w; grind) (by rw [← h1.y, ← h2.y])
    exact Gm.P.ext' w w2
  · intro h; rw [h]
@[simp] theorem ne_fl (p q : P) : cmpD .ne (tD (fl p)) (tD (fl q)) = some (!dB (p = q)) := by
  rw [cmpD_neD _ _ rfl rfl rfl rfl, deq_dB (tD_inj.trans fl_inj)]
@[simp] theorem asLT_flsD (L : List P) : asLT (flsD L) = some (L.map fun p => tD (fl p)) := rfl
theorem ev_is_region {ct : Ct} {n : Nat} (hsp : IsSpotS (ct 42)) (hf : SpreadS (ct 39)) (hb : BeforeS (ct 41)) (ht : TurnS (ct 40)) : IsRegS (runFn f_law_is_region_k11 ct n) := fun L hL hS hl => by
  -- all are spots
  obtain ⟨g1, e1, s1, rfl⟩ := forF_ok spD (a := asg (.one 1)) (b := fun g => evSs ct n f_law_is_region_k11_B0 g) (fun g => ∃ s, g = [.sh (regD L), s, .no, .no, .no]) L [.sh (regD L), .no, .no, .no, .no] ⟨.no, rfl⟩ (fun p hp g ⟨s, hg⟩ => by
    subst hg
    exact ⟨[.sh (regD L), .sh (spD p), .no, .no, .no], [.sh (regD L), .sh (spD p), .no, .no, .no], by simp, by simp [f_law_is_region_k11_B0, hsp p (hS p hp)], _, rfl⟩)
  have l0 : evS ct n f_law_is_region_k11_L0 [.sh (regD L), .no, .no, .no, .no] = some (.nx [.sh (regD L), s1, .no, .no, .no]) := by
    rw [f_law_is_region_k11_L0, evS_fr]
    simp only [evI_ex, evE_var, List.getElem?_cons_zero, slV_sh, Option.bind_some, asLT_regD, itM]
    rw [if_neg (fun z => by cases z)]
    exact e1
  have c0 : evE ct [.sh (regD L), s1, .no, .no, .no] f_law_is_region_k11_C0 = some (.fr, flsD L) :=
    evE_comp_of (m := .sh) (ds := L.map spD) (by simp [itM]) rfl (compF_map spD _ L (fun p hp => ⟨[.sh (regD L), .sh (spD p), .no, .no, .no], by simp [tgSlots, wipeE], by simp, (.sh, tD (fl p)), by simp [hf p (hS p hp)], rfl⟩) (by omega))
  -- the least first
  have l1 : ∃ s, evS ct n f_law_is_region_k11_L1 [.sh (regD L), s1, .sh (flsD L), .no, .no] = some (.nx [.sh (regD L), s1, .sh (flsD L), s, .no]) := by
    cases L with
    | nil =>
      refine ⟨.no, ?_⟩
      rw [f_law_is_region_k11_L1, evS_fr]
      simp [flsD, rngOk_small, rngL_zero, forF_nil]
    | cons a l =>
      obtain ⟨g2, e2, s2, rfl⟩ := forF_rng (a := asg (.one 3)) (b := fun g => evSs ct n f_law_is_region_k11_B1 g) (fun _ g => ∃ s, g = [.sh (regD (a :: l)), s1, .sh (flsD (a :: l)), s, .no]) l.length 1 [.sh (regD (a :: l)), s1, .sh (flsD (a :: l)), .no, .no] ⟨.no, rfl⟩ (fun k k1 k2 g ⟨s, hg⟩ => by
        subst hg
        obtain ⟨q, hq⟩ : ∃ q, (a :: l)[k]? = some q := ⟨_, List.getElem?_eq_getElem (by simp; omega)⟩
        have hql : q ∈ l := by
          rw [show k = (k - 1) + 1 by omega, List.getElem?_cons_succ] at hq
          exact List.mem_of_getElem? hq
        have a0 : atI ((a :: l).map fun p => tD (fl p)) 0 = some (tD (fl a)) := by simp
        have a1 : atI ((a :: l).map fun p => tD (fl p)) (k : Int) = some (tD (fl q)) := atI_get (f := fun p => tD (fl p)) hq
        have bf := hb (fl a) (fl q) a q (fl_of a) (fl_of q) (fl_b (hS a (by simp))) (fl_b (hS q (by simp [hql])))
        have hx := hL.1 q hql
        refine ⟨[.sh (regD (a :: l)), s1, .sh (flsD (a :: l)), .sh (.int (k : Nat)), .no], [.sh (regD (a :: l)), s1, .sh (flsD (a :: l)), .sh (.int (k : Nat)), .no], by simp, ?_, _, rfl⟩
        simp only [f_law_is_region_k11_B1, evSs_cons, evSs_nil, evS_ife, evE_not, evE_call, evs_cons, evs_nil, evE_idx, evE_var, evE_int, List.getElem?_cons_succ, List.getElem?_cons_zero, slV_sh, Option.bind_some, asInt_int, asLT_flsD, a0, a1, storable_sh, bf, noEx_sh, asBl_bl, dB_true hx, Bool.not_true, Bool.false_eq_true, if_false, andThen_nx])
      refine ⟨s2, ?_⟩
      rw [f_law_is_region_k11_L1, evS_fr]
      simp only [evI_rng2, evE_b1, evE_int, evE_var, List.getElem?_cons_succ, List.getElem?_cons_zero, slV_sh, Option.bind_some, b1D_len, asLT_flsD, Option.map_some, List.length_map, asInt_int, rngOk_n (show (a :: l).length ≤ 1000000 by omega), rngOk_small 1 (by omega), Bool.and_self, if_true]
      rw [if_neg (fun z => by cases z), show ((((a :: l).length : Nat) : Int) - 1).toNat = l.length by simp]
      exact e2
  obtain ⟨s3, l1⟩ := l1
  refine runR rfl ?_
  have st1 : ∀ ss : Sms, evS ct n (.ife (.not (.isi (.var 0) .list)) ss .nil) (startE f_law_is_region_k11 [regD L]) = some (.nx [.sh (regD L), .no, .no, .no, .no]) := fun ss => by
    show evS ct n (.ife (.not (.isi (.var 0) .list)) ss .nil) [.sh (regD L), .no, .no, .no, .no] = _
    simp
  refine stepS (st1 _) (stepS l0 (stepS (g' := [.sh (regD L), s1, .sh (flsD L), .no, .no]) (by rw [evS_set, c0, flsD]; simp) (stepS l1 ?_)))
  by_cases h3 : 2 < L.length
  · -- the turns
    have inner : ∀ e ∈ ixs L, ∀ s, ∃ s', evSs ct n f_law_is_region_k11_B3 [.sh (regD L), s1, .sh (flsD L), .sh (.int (e.1 : Nat)), s] = some (.nx [.sh (regD L), s1, .sh (flsD L), .sh (.int (e.1 : Nat)), s']) := fun e he s => by
      obtain ⟨h1, h2, h3', hm⟩ := ixs_get he
      have a1 : atI (L.map fun p => tD (fl p)) (e.1 : Int) = some (tD (fl e.2.2)) := atI_get (f := fun p => tD (fl p)) h2
      have a2 : atI (L.map fun p => tD (fl p)) ((e.1 : Int) - 1) = some (tD (fl e.2.1)) := atI_prev (f := fun p => tD (fl p)) h1 h3'
      have b1 := fl_b (hS _ (List.mem_of_getElem? h2))
      have b2 := fl_b (hS _ (List.mem_of_getElem? h3'))
      obtain ⟨g2, e2, s2, rfl⟩ := forF_ok (fun p => tD (fl p)) (a := asg (.one 4)) (b := fun g => evSs ct n f_law_is_region_k11_B2 g) (fun g => ∃ s, g = [.sh (regD L), s1, .sh (flsD L), .sh (.int (e.1 : Nat)), s]) L [.sh (regD L), s1, .sh (flsD L), .sh (.int (e.1 : Nat)), s] ⟨s, rfl⟩ (fun p hp g ⟨s, hg⟩ => by
        subst hg
        refine ⟨[.sh (regD L), s1, .sh (flsD L), .sh (.int (e.1 : Nat)), .sh (tD (fl p))], [.sh (regD L), s1, .sh (flsD L), .sh (.int (e.1 : Nat)), .sh (tD (fl p))], by simp, ?_, _, rfl⟩
        have tt := ht (fl e.2.1) (fl e.2.2) (fl p) b2 b1 (fl_b (hS p hp))
        have dd := (det_pos (fl_of e.2.1) (fl_of e.2.2) (fl_of p)).1
        have hc : evE ct [.sh (regD L), s1, .sh (flsD L), .sh (.int (e.1 : Nat)), .sh (tD (fl p))] (.ands (.cons (.cmp .ne (.var 4) (.idx (.var 2) (.var 3))) (.cons (.cmp .ne (.var 4) (.idx (.var 2) (.bin .sub (.var 3) (.int 1)))) (.cons (.cmp .le (.call 40 (.cons (.idx (.var 2) (.bin .sub (.var 3) (.int 1))) (.cons (.idx (.var 2) (.var 3)) (.cons (.var 4) .nil)))) (.int 0)) .nil)))) = some (.sh, .bl false) := by
          by_cases n1 : p = e.2.2
          · simp [a1, dB_true n1]
          · by_cases n2 : p = e.2.1
            · simp [a1, a2, dB_false n1, dB_true n2]
            · have n3 : ¬ det (fl e.2.1) (fl e.2.2) (fl p) ≤ 0 := by
                rcases Gm.side_pos hL.cvx hm hp with z | z | z
                · exact absurd z n2
                · exact absurd z n1
                · have := dd.mpr z; omega
              simp [a1, a2, dB_false n1, dB_false n2, tt, n3]
              try omega
        simp only [f_law_is_region_k11_B2, evSs_cons, evSs_nil, evS_ife, hc, Option.bind_some, asBl_bl, Bool.false_eq_true, if_false, andThen_nx])
      refine ⟨s2, ?_⟩
      simp only [f_law_is_region_k11_B3, evSs_cons, evSs_nil]
      rw [f_law_is_region_k11_L2, evS_fr]
      simp only [evI_ex, evE_var, List.getElem?_cons_succ, List.getElem?_cons_zero, slV_sh, Option.bind_some, asLT_flsD, itM]
      rw [if_neg (fun z => by cases z), e2]
      simp
    obtain ⟨g4, e4, s4, s5, rfl⟩ := forF_ok (fun (e : Nat × P × P) => D.int (e.1 : Nat)) (a := asg (.one 3)) (b := fun g => evSs ct n f_law_is_region_k11_B3 g) (fun g => ∃ s s', g = [.sh (regD L), s1, .sh (flsD L), s, s']) (ixs L) [.sh (regD L), s1, .sh (flsD L), s3, .no] ⟨s3, .no, rfl⟩ (fun e he g ⟨s, s', hg⟩ => by
      subst hg
      obtain ⟨s'', e5⟩ := inner e he s'
      exact ⟨[.sh (regD L), s1, .sh (flsD L), .sh (.int (e.1 : Nat)), s'], [.sh (regD L), s1, .sh (flsD L), .sh (.int (e.1 : Nat)), s''], by simp, e5, _, _, rfl⟩)
    have l3 : evS ct n f_law_is_region_k11_L3 [.sh (regD L), s1, .sh (flsD L), s3, .no] = some (.nx [.sh (regD L), s1, .sh (flsD L), s4, s5]) := by
      rw [f_law_is_region_k11_L3, evS_fr]
      simp only [evI_rng, evE_b1, evE_var, List.getElem?_cons_succ, List.getElem?_cons_zero, slV_sh, Option.bind_some, b1D_len, asLT_flsD, Option.map_some, List.length_map, asInt_int, rngOk_n (show L.length ≤ 1000000 by omega), if_true, Int.toNat_natCast]
      rw [if_neg (fun z => by cases z), ixs_rng]
      exact e4
    have h3' : (2 : Int) < ((L.length : Nat) : Int) := by omega
    simp [h3', l3]
  · have h3' : ¬ (2 : Int) < ((L.length : Nat) : Int) := by omega
    simp [h3']
    try omega
theorem ev_holds {ct : Ct} {n : Nat} (hb : BeforeS (ct 41)) (ht : TurnS (ct 40)) : HoldsS (runFn f_law_holds_k11 ct n) := fun L t p hL hS hl ho hbt => by
  refine runR rfl ?_
  match L, hL, hS, hl with
  | [], _, _, _ =>
    rw [dB_false (Gm.Cv_nil p)]
    simp [f_law_holds_k11, startE, flsD]
  | [a], hL, hS, _ =>
    have ba := fl_b (hS a (by simp))
    have t1 := ht (fl a) (fl a) t ba ba hbt
    have d0 : det (fl a) (fl a) t = 0 := (det_pos (fl_of a) (fl_of a) ho).2.2.mpr (Gm.cr_s a p)
    have b1 := hb t (fl a) p a ho (fl_of a) hbt ba
    have b2 := hb (fl a) t a p (fl_of a) ho ba hbt
    rw [d0] at t1
    have am : atI [tD (fl a)] (-1) = some (tD (fl a)) := rfl
    by_cases c1 : lex p a
    · rw [dB_false (fun k => (Cv_single.mp k).1 c1)]
      simp [f_law_holds_k11, startE, flsD, t1, am, b1, dB_true c1]
    · by_cases c2 : lex a p
      · rw [dB_false (fun k => (Cv_single.mp k).2 c2)]
        simp [f_law_holds_k11, startE, flsD, t1, am, b1, dB_false c1, b2, dB_true c2]
      · rw [dB_true (Cv_single.mpr ⟨c1, c2⟩)]
        simp [f_law_holds_k11, startE, flsD, t1, am, b1, dB_false c1, b2, dB_false c2]
  | [a, b], hL, hS, _ =>
    have ba := fl_b (hS a (by simp))
    have bb := fl_b (hS b (by simp))
    have hab := hL.1 b (by simp)
    have t1 := ht (fl a) (fl b) t ba bb hbt
    have d0 : det (fl a) (fl b) t = 0 ↔ cr a b p = 0 := (det_pos (fl_of a) (fl_of b) ho).2.2
    have b1 := hb t (fl a) p a ho (fl_of a) hbt ba
    have b2 := hb (fl b) t b p (fl_of b) ho bb hbt
    have am : atI [tD (fl a), tD (fl b)] (-1) = some (tD (fl b)) := rfl
    by_cases c0 : cr a b p = 0
    · rw [d0.mpr c0] at t1
      by_cases c1 : lex p a
      · rw [dB_false (fun k => ((Cv_two hab).mp k).2.1 c1)]
        simp [f_law_holds_k11, startE, flsD, t1, am, b1, dB_true c1]
      · by_cases c2 : lex b p
        · rw [dB_false (fun k => ((Cv_two hab).mp k).2.2 c2)]
          simp [f_law_holds_k11, startE, flsD, t1, am, b1, dB_false c1, b2, dB_true c2]
        · rw [dB_true ((Cv_two hab).mpr ⟨c0, c1, c2⟩)]
          simp [f_law_holds_k11, startE, flsD, t1, am, b1, dB_false c1, b2, dB_false c2]
    · have d1 : ¬ det (fl a) (fl b) t = 0 := fun z => c0 (d0.mp z)
      rw [dB_false (fun k => c0 ((Cv_two hab).mp k).1)]
      simp [f_law_holds_k11, startE, flsD, t1, am, d1]
  | a :: b :: c :: l, hL, hS, hl =>
    have hcv := Cv_many hL (by simp) p
    generalize hLe : a :: b :: c :: l = L at *
    have hlen : 3 ≤ L.length := by rw [← hLe]; simp
    have fnd := forF_find (fun (e : Nat × P × P) => D.int (e.1 : Nat)) (a := asg (.one 2)) (b := fun g => evSs ct n f_law_holds_k11_B0 g) (fun g => ∃ s, g = [.sh (flsD L), .sh (tD t), s]) (fun e => cr e.2.1 e.2.2 p < 0) .sh (.bl false) (ixs L) [.sh (flsD L), .sh (tD t), .no] ⟨.no, rfl⟩ (fun e he g ⟨s, hg⟩ => by
      subst hg
      obtain ⟨h1, h2, h3', hm⟩ := ixs_get he
      have a1 : atI (L.map fun p => tD (fl p)) (e.1 : Int) = some (tD (fl e.2.2)) := atI_get (f := fun p => tD (fl p)) h2
      have a2 : atI (L.map fun p => tD (fl p)) ((e.1 : Int) - 1) = some (tD (fl e.2.1)) := atI_prev (f := fun p => tD (fl p)) h1 h3'
      have tt := ht (fl e.2.1) (fl e.2.2) t (fl_b (hS _ (List.mem_of_getElem? h3'))) (fl_b (hS _ (List.mem_of_getElem? h2))) hbt
      have dd := (det_pos (fl_of e.2.1) (fl_of e.2.2) ho).2.1
      refine ⟨[.sh (flsD L), .sh (tD t), .sh (.int (e.1 : Nat))], by simp, fun z => ?_, fun z => ⟨[.sh (flsD L), .sh (tD t), .sh (.int (e.1 : Nat))], ?_, _, rfl⟩⟩
      · have z' := dd.mpr z
        simp [f_law_holds_k11_B0, a1, a2, tt, z']
      · have z' : ¬ det (fl e.2.1) (fl e.2.2) t < 0 := fun y => z (dd.mp y)
        simp [f_law_holds_k11_B0, a1, a2, tt, z']
        try omega)
    have n0 : ¬ ((L.length : Nat) : Int) = 0 := by omega
    have n3 : ¬ ((L.length : Nat) : Int) < 3 := by omega
    have n0' : ¬ L.length = 0 := by omega
    have st1 : ∀ ss : Sms, evS ct n (.ife (.cmp .eq (.b1 .len (.var 0)) (.int 0)) ss .nil) (startE f_law_holds_k11 [flsD L, tD t]) = some (.nx [.sh (flsD L), .sh (tD t), .no]) := fun ss => by
      show evS ct n (.ife (.cmp .eq (.b1 .len (.var 0)) (.int 0)) ss .nil) [.sh (flsD L), .sh (tD t), .no] = _
      simp only [evS_ife, evE_cmp, evE_b1, evE_var, evE_int, List.getElem?_cons_zero, slV_sh, Option.bind_some, b1D_len, asLT_flsD, Option.map_some, List.length_map, cmpD_eq, decide_eq_false n0, asBl_bl, Bool.false_eq_true, if_false, evSs_nil]
    have st2 : ∀ ss : Sms, evS ct n (.ife (.cmp .lt (.b1 .len (.var 0)) (.int 3)) ss .nil) [.sh (flsD L), .sh (tD t), .no] = some (.nx [.sh (flsD L), .sh (tD t), .no]) := fun ss => by
      simp only [evS_ife, evE_cmp, evE_b1, evE_var, evE_int, List.getElem?_cons_zero, slV_sh, Option.bind_some, b1D_len, asLT_flsD, Option.map_some, List.length_map, cmpD_lt, decide_eq_false n3, asBl_bl, Bool.false_eq_true, if_false, evSs_nil]
    have el : ∀ o, forF (asg (.one 2)) (fun g => evSs ct n f_law_holds_k11_B0 g) ((ixs L).map fun (e : Nat × P × P) => D.int (e.1 : Nat)) [.sh (flsD L), .sh (tD t), .no] = o → evS ct n f_law_holds_k11_L0 [.sh (flsD L), .sh (tD t), .no] = o := fun o h => by
      rw [f_law_holds_k11_L0, evS_fr]
      simp only [evI_rng, evE_b1, evE_var, List.getElem?_cons_zero, slV_sh, Option.bind_some, b1D_len, asLT_flsD, Option.map_some, List.length_map, asInt_int, rngOk_n (show L.length ≤ 1000000 by omega), if_true, Int.toNat_natCast]
      rw [if_neg (fun z => by cases z), ixs_rng]
      exact h
    refine stepS (st1 _) (stepS (st2 _) ?_)
    rcases fnd with ⟨⟨e, he, hc⟩, e2⟩ | ⟨hc, g', e2, s, rfl⟩
    · obtain ⟨h1, h2, h3', hm⟩ := ixs_get he
      rw [dB_false (fun k => by have := hcv.mp k e.2.1 e.2.2 hm; grind)]
      exact stepR (el _ e2)
    · have hi : Gm.InS L p := fun s t hst => by
        rw [← ixs_snd] at hst
        obtain ⟨e, he, e3⟩ := List.mem_map.mp hst
        have := hc e he
        rw [e3] at this
        grind
      rw [dB_true (hcv.mpr hi)]
      exact stepS (el _ e2) (by simp)
end Ev
namespace Ev
open PySem L2
open Gm (P lex cr Cvx Reg Cv sides apart Tidy Hf hI Bnd CB SB Good)
/-! ### the law's points (k11 and on) -/
def CellS (ns : List Int) (F : List D → Rs) : Prop := ∀ k : Nat, F [.scr ns, .int k] = some (.sh, .int (ns.getD k 0))
def MixS (ns : List Int) (F : List D → Rs) : Prop := ∀ k : Nat, k ≤ 5000 → ∃ v, (0 ≤ v ∧ v < 2147483587) ∧ F [.scr ns, .int k] = some (.sh, .int v)
def BlockS (ns : List Int) (F : List D → Rs) : Prop := ∀ k : Nat, ∃ v, F [.scr ns, .int k] = some (.sh, .int v)
theorem ev_cell' (ct : Ct) (n : Nat) (ns : List Int) : CellS ns (runFn f_law_cell_at ct n) := fun k => ev_cell_at ct n ns k
theorem ev_block' (ct : Ct) (n : Nat) (ns : List Int) : BlockS ns (runFn f_law_block ct n) := fun k => ev_block ct n ns k
theorem ev_mixed' {ct : Ct} {n : Nat} {ns : List Int} (h : BlockS ns (ct 14)) : MixS ns (runFn f_law_mixed ct n) := fun k hk => ev_mixed ct n ns k (by omega) (h k)
def Points11S (ns : List Int) (F : List D → Rs) : Prop := ∀ m : Nat, m ≤ 64 → ∃ ps : List Pt, ps.length = m ∧ (∀ p ∈ ps, BP 102 p) ∧ F [.scr ns, .int m] = some (.fr, .lst (ps.map pD))
theorem pow9 : binD .pow (.int 10) (.int 9) = some (.sh, .int 1000000000) := by simp [binD_pow]
theorem point11 {ct : Ct} {n : Nat} {ns : List Int} (hc : CellS ns (ct 1)) (hm : MixS ns (ct 15)) (way : Int) (many : Sl) (k : Nat) (hk : k ≤ 1000) (ps : List Pt) (hl : ps.length ≤ 1000) (s5 s6 s7 s8 : Sl) :
    ∃ p, BP 102 p ∧ ∃ s5 s6' s7' s8', evSs ct n f_law_points_k11_B0 [.sh (.scr ns), many, .sh (.int way), .ow (ps.map pD), .sh (.int (k : Nat)), s5, s6, s7, s8] = some (.nx [.sh (.scr ns), many, .sh (.int way), .ow ((ps ++ [p]).map pD), .sh (.int (k : Nat)), s5, s6', s7', s8']) := by
  obtain ⟨v, hv, hm⟩ := hm k (by omega)
  have hk' := hc k
  have h1 : ct 1 [.scr ns, .int 1] = some (.sh, .int (ns.getD 1 0)) := hc 1
  obtain ⟨w, hw⟩ : ∃ w, ns.getD 1 0 = w := ⟨_, rfl⟩
  obtain ⟨c, hcc⟩ : ∃ c, ns.getD k 0 = c := ⟨_, rfl⟩
  rw [hw] at h1
  rw [hcc] at hk'
  have m2 : mulOk 2 1000000000000000000000000000000 = true := B.ok (k := 2) (l := 100) (by unfold B; decide) (by unfold B; decide) (by omega)
  have pw : (2 : Nat) ^ 102 = 5070602400912917605986812821504 := by decide
  have lo : lenOk ps.length = true := lenOk_small (by omega)
  have small : ∀ i : Int, -4 ≤ i → i ≤ 9 → B 4 i := fun i h1 h2 => by unfold B; rw [show (2 : Nat) ^ 4 = 16 by decide]; omega
  by_cases c1 : way = 1
  · refine ⟨(c % 2000000000000000000000000000000 - 1000000000000000000000000000000, v - 1000000000), ⟨by unfold B; rw [pw]; simp only; omega, by unfold B; rw [pw]; simp only; omega⟩, .sh (.int v), .sh (pD (c % 2000000000000000000000000000000 - 1000000000000000000000000000000, v - 1000000000)), s7, s8, ?_⟩
    simp [f_law_points_k11_B0, hm, h1, hk', c1, fmod_of, fdiv_of, divOk_255, m2, pD, lo]
  · by_cases c2 : way = 2
    · refine ⟨(v % 2001 - 1000, v / 2001 % 2001 - 1000), ⟨by unfold B; rw [pw]; simp only; omega, by unfold B; rw [pw]; simp only; omega⟩, .sh (.int v), .sh (pD (v % 2001 - 1000, v / 2001 % 2001 - 1000)), s7, s8, ?_⟩
      simp [f_law_points_k11_B0, hm, h1, hk', c1, c2, fmod_of, fdiv_of, divOk_255, m2, pD, lo]
    · by_cases c3 : way = 3
      · have o1 : mulOk (v % 9 - 4) (w % 3 - 1) = true := B.ok (small _ (by omega) (by omega)) (small _ (by omega) (by omega)) (by omega)
        have o2 : mulOk (v % 9 - 4) (w % 9 / 3 - 1) = true := B.ok (small _ (by omega) (by omega)) (small _ (by omega) (by omega)) (by omega)
        have g1 : B 4 (v % 9 - 4) := small _ (by omega) (by omega)
        refine ⟨((v % 9 - 4) * (w % 3 - 1) + 5, (v % 9 - 4) * (w % 9 / 3 - 1) - 2), ⟨((g1.mul (small (w % 3 - 1) (by omega) (by omega))).add (small 5 (by omega) (by omega)) (m := 10) (by omega) (by omega)).mono (by omega), ((g1.mul (small (w % 9 / 3 - 1) (by omega) (by omega))).sub (small 2 (by omega) (by omega)) (m := 10) (by omega) (by omega)).mono (by omega)⟩,
          .sh (.int v), .sh (pD ((v % 9 - 4) * (w % 3 - 1) + 5, (v % 9 - 4) * (w % 9 / 3 - 1) - 2)), .sh (.int (v % 9 - 4)), .sh (.int (w % 9)), ?_⟩
        simp [f_law_points_k11_B0, hm, h1, hk', c1, c2, c3, fmod_of, fdiv_of, divOk_255, m2, pD, lo, o1, o2]
      · refine ⟨(v % 7 - 3, v / 7 % 7 - 3), ⟨by unfold B; rw [pw]; simp only; omega, by unfold B; rw [pw]; simp only; omega⟩, .sh (.int v), .sh (pD (v % 7 - 3, v / 7 % 7 - 3)), s7, s8, ?_⟩
        simp [f_law_points_k11_B0, hm, h1, hk', c1, c2, c3, fmod_of, fdiv_of, divOk_255, m2, pD, lo]
theorem ev_points11 {ct : Ct} {n : Nat} {ns : List Int} (hc : CellS ns (ct 1)) (hm : MixS ns (ct 15)) : Points11S ns (runFn f_law_points_k11 ct n) := fun m hm64 => by
  have h0 : ct 1 [.scr ns, .int 0] = some (.sh, .int (ns.getD 0 0)) := hc 0
  obtain ⟨c0, hc0⟩ : ∃ w, (ns.getD 0 0) = w := ⟨_, rfl⟩
  rw [hc0] at h0
  obtain ⟨w, hw⟩ : ∃ w, c0 % 5 = w := ⟨_, rfl⟩
  obtain ⟨g', e, ps, s4, s5, s6, s7, s8, h1, h2, rfl⟩ := forF_rng (a := asg (.one 4)) (b := fun g => evSs ct n f_law_points_k11_B0 g) (fun k g => ∃ (ps : List Pt) (s4 s5 s6 s7 s8 : Sl), ps.length = k ∧ (∀ p ∈ ps, BP 102 p) ∧ g = [.sh (.scr ns), .sh (.int (m : Nat)), .sh (.int w), .ow (ps.map pD), s4, s5, s6, s7, s8]) m 0 [.sh (.scr ns), .sh (.int (m : Nat)), .sh (.int w), .ow [], .no, .no, .no, .no, .no]
    ⟨[], .no, .no, .no, .no, .no, rfl, (fun p h => by cases h), rfl⟩ (fun k _ hk g ⟨ps, s4, s5, s6, s7, s8, h1, h2, hg⟩ => by
      subst hg
      obtain ⟨p, bp, t5, t6, t7, t8, ep⟩ := point11 (n := n) hc hm w (.sh (.int (m : Nat))) k (by omega) ps (by omega) s5 s6 s7 s8
      refine ⟨[.sh (.scr ns), .sh (.int (m : Nat)), .sh (.int w), .ow (ps.map pD), .sh (.int (k : Nat)), s5, s6, s7, s8], _, by simp, ep, ps ++ [p], _, _, _, _, _, by simp [h1], fun q hq => ?_, rfl⟩
      rcases List.mem_append.mp hq with hq | hq
      · exact h2 q hq
      · simp at hq; rw [hq]; exact bp)
  refine ⟨ps, by omega, h2, runR rfl ?_⟩
  have el : evS ct n f_law_points_k11_L0 [.sh (.scr ns), .sh (.int (m : Nat)), .sh (.int w), .ow [], .no, .no, .no, .no, .no] = some (.nx [.sh (.scr ns), .sh (.int (m : Nat)), .sh (.int w), .ow (ps.map pD), s4, s5, s6, s7, s8]) := by
    rw [f_law_points_k11_L0, evS_fr]
    simp only [evI_rng, evE_var, List.getElem?_cons_succ, List.getElem?_cons_zero, slV_sh, Option.bind_some, asInt_int, rngOk_n (show m ≤ 1000000 by omega), if_true, Int.toNat_natCast]
    rw [if_neg (fun z => by cases z)]
    exact e
  refine stepS (g' := [.sh (.scr ns), .sh (.int (m : Nat)), .sh (.int w), .no, .no, .no, .no, .no, .no]) ?_ ?_
  · show evS ct n _ [.sh (.scr ns), .sh (.int (m : Nat)), .no, .no, .no, .no, .no, .no, .no] = _
    simp [h0, fmod_of, hw]
  refine stepS (g' := [.sh (.scr ns), .sh (.int (m : Nat)), .sh (.int w), .ow [], .no, .no, .no, .no, .no]) (by simp) ?_
  exact stepS el (by simp)
/-! ### k11 -/
theorem pD_inj {p q : Pt} : pD p = pD q ↔ p = q := by
  constructor
  · intro h
    unfold pD at h
    simp at h
    exact Prod.ext h.1 h.2
  · intro h; rw [h]
theorem in_pts (p : Pt) (ps : List Pt) : inD (pD p) (.lst (ps.map pD)) = some (dB (p ∈ ps)) := by
  show (if (shD (pD p) && shD (.lst (ps.map pD))) = true then some ((ps.map pD).any fun z => eqvD z (pD p)) else none) = _
  rw [shD_of (pD p) rfl rfl, shD_of _ (noB_pts ps) (dep_pts ps)]
  simp only [Bool.and_self, if_true]
  congr 1
  cases e : dB (p ∈ ps) with
  | true =>
    rw [List.any_eq_true]
    exact ⟨pD p, List.mem_map.mpr ⟨p, dB_iff.mp e, rfl⟩, by rw [eqvD_deq _ _ rfl rfl]; exact deq_self _⟩
  | false =>
    rw [List.any_eq_false]
    intro z hz
    obtain ⟨q, hq, rfl⟩ := List.mem_map.mp hz
    rw [eqvD_deq _ _ rfl rfl]
    rw [deq_ne fun h => dB_not.mp e (by rw [← pD_inj.mp h]; exact hq)]
    decide
def Right11S (F : List D → Rs) : Prop := ∀ M ps : List Pt, Reg (M.map ofI) → M ≠ [] → (∀ q ∈ M, q ∈ ps) → (∀ q ∈ ps, Cv (M.map ofI) (ofI q)) → (∀ q ∈ ps, BP 150 q) → M.length ≤ 50000 → ps.length ≤ 50000 → F [regD (M.map ofI), .lst (ps.map pD)] = some (.sh, .bl true)
theorem spB_ofI {p : Pt} (h : BP 150 p) : SpB 602 (ofI p) := by
  refine ⟨⟨?_, ?_⟩, ⟨?_, ?_⟩⟩
  · show B 602 (((p.1 : Int) : Rat).num); rw [Rat.num_intCast]; exact h.1.mono (by omega)
  · show B 602 ((((p.1 : Int) : Rat).den : Nat) : Int); rw [Rat.den_intCast]; exact (show B 1 1 by unfold B; decide).mono (by omega)
  · show B 602 (((p.2 : Int) : Rat).num); rw [Rat.num_intCast]; exact h.2.mono (by omega)
  · show B 602 ((((p.2 : Int) : Rat).den : Nat) : Int); rw [Rat.den_intCast]; exact (show B 1 1 by unfold B; decide).mono (by omega)
theorem ev_right11 {ct : Ct} {n : Nat} (hr : IsRegS (ct 43)) (hf : SpreadS (ct 39)) (hh : HoldsS (ct 44)) : Right11S (runFn f_law_right_k11 ct n) := fun M ps hR hne hM hC hb hl hl2 => by
  have hS : ∀ p ∈ M.map ofI, SpB 602 p := fun p hp => by
    obtain ⟨q, hq, rfl⟩ := List.mem_map.mp hp
    exact spB_ofI (hb q (hM q hq))
  have r1 := hr (M.map ofI) hR hS (by simpa using hl)
  obtain ⟨g1, e1, s2, s3, rfl⟩ := forF_ok (fun q => spD (ofI q)) (a := asg (.many [2, 3])) (b := fun g => evSs ct n f_law_right_k11_B0 g) (fun g => ∃ s2 s3, g = [.sh (regD (M.map ofI)), .sh (.lst (ps.map pD)), s2, s3, .no, .no]) M [.sh (regD (M.map ofI)), .sh (.lst (ps.map pD)), .no, .no, .no, .no] ⟨.no, .no, rfl⟩ (fun q hq g ⟨s2, s3, hg⟩ => by
    subst hg
    have hin := in_pts q ps
    rw [dB_true (hM q hq)] at hin
    have hin : inD (.tup [.int q.1, .int q.2]) (.lst (ps.map pD)) = some true := hin
    refine ⟨[.sh (regD (M.map ofI)), .sh (.lst (ps.map pD)), .sh (.tup [.int q.1, .int 1]), .sh (.tup [.int q.2, .int 1]), .no, .no], [.sh (regD (M.map ofI)), .sh (.lst (ps.map pD)), .sh (.tup [.int q.1, .int 1]), .sh (.tup [.int q.2, .int 1]), .no, .no], by simp [spD_ofI], ?_, _, _, rfl⟩
    simp [f_law_right_k11_B0, hin])
  have l0 : evS ct n f_law_right_k11_L0 [.sh (regD (M.map ofI)), .sh (.lst (ps.map pD)), .no, .no, .no, .no] = some (.nx [.sh (regD (M.map ofI)), .sh (.lst (ps.map pD)), s2, s3, .no, .no]) := by
    rw [f_law_right_k11_L0, evS_fr]
    simp only [evI_ex, evE_var, List.getElem?_cons_zero, slV_sh, Option.bind_some, asLT_regD, itM, List.map_map]
    rw [if_neg (fun z => by cases z)]
    exact e1
  have c0 : evE ct [.sh (regD (M.map ofI)), .sh (.lst (ps.map pD)), s2, s3, .no, .no] f_law_right_k11_C0 = some (.fr, flsD (M.map ofI)) :=
    evE_comp_of (m := .sh) (ds := (M.map ofI).map spD) (by simp [itM]) rfl (compF_map spD _ (M.map ofI) (fun p hp => ⟨[.sh (regD (M.map ofI)), .sh (.lst (ps.map pD)), s2, s3, .no, .sh (spD p)], by simp [tgSlots, wipeE], by simp, (.sh, tD (fl p)), by simp [hf p (hS p hp)], rfl⟩) (by simp; omega))
  obtain ⟨g2, e2, s2', s3', rfl⟩ := forF_ok pD (a := asg (.many [2, 3])) (b := fun g => evSs ct n f_law_right_k11_B1 g) (fun g => ∃ s2 s3, g = [.sh (regD (M.map ofI)), .sh (.lst (ps.map pD)), s2, s3, .sh (flsD (M.map ofI)), .no]) ps [.sh (regD (M.map ofI)), .sh (.lst (ps.map pD)), s2, s3, .sh (flsD (M.map ofI)), .no] ⟨s2, s3, rfl⟩ (fun q hq g ⟨s2, s3, hg⟩ => by
    subst hg
    have h1 := hh (M.map ofI) (t1 q) (ofI q) hR hS (by simpa using hl) (t1_of q) (bT1 (hb q hq))
    rw [dB_true (hC q hq)] at h1
    have h1 : ct 44 [flsD (M.map ofI), .tup [.int q.1, .int q.2, .int 1]] = some (.sh, .bl true) := h1
    refine ⟨[.sh (regD (M.map ofI)), .sh (.lst (ps.map pD)), .sh (.int q.1), .sh (.int q.2), .sh (flsD (M.map ofI)), .no], [.sh (regD (M.map ofI)), .sh (.lst (ps.map pD)), .sh (.int q.1), .sh (.int q.2), .sh (flsD (M.map ofI)), .no], by simp [pD], ?_, _, _, rfl⟩
    simp [f_law_right_k11_B1, h1])
  have l1 : evS ct n f_law_right_k11_L1 [.sh (regD (M.map ofI)), .sh (.lst (ps.map pD)), s2, s3, .sh (flsD (M.map ofI)), .no] = some (.nx [.sh (regD (M.map ofI)), .sh (.lst (ps.map pD)), s2', s3', .sh (flsD (M.map ofI)), .no]) := by
    rw [f_law_right_k11_L1, evS_fr]
    simp only [evI_ex, evE_var, List.getElem?_cons_succ, List.getElem?_cons_zero, slV_sh, Option.bind_some, asLT_lst, itM]
    rw [if_neg (fun z => by cases z)]
    exact e2
  have hne' : M.map ofI ≠ [] := by simpa using hne
  refine runR rfl ?_
  refine stepS (g' := [.sh (regD (M.map ofI)), .sh (.lst (ps.map pD)), .no, .no, .no, .no]) ?_ (stepS l0 (stepS (g' := [.sh (regD (M.map ofI)), .sh (.lst (ps.map pD)), s2, s3, .sh (flsD (M.map ofI)), .no]) (by rw [evS_set, c0, flsD]; simp) (stepS l1 (by simp))))
  show evS ct n _ [.sh (regD (M.map ofI)), .sh (.lst (ps.map pD)), .no, .no, .no, .no] = _
  simp only [evS_ife, evE_ors, evOr_cons, evOr_one, evE_not, evE_call, evs_cons, evs_nil, evE_var, List.getElem?_cons_zero, slV_sh, Option.bind_some, storable_sh, r1, noEx_sh, asBl_bl, Bool.not_true, Bool.false_eq_true, if_false, evE_cmp, evE_lst, List.length_nil, lenOk_0, if_true, ← regD_nil, eq_regD, dB_false hne', evSs_nil]
theorem hullS_nil {F : List D → Rs} (h : HullS F) : F [.lst []] = some (.fr, .lst []) := by
  obtain ⟨M, _, h2, h3, e⟩ := h [] (fun p hp => by cases hp) (by decide)
  have : M = [] := by
    cases M with
    | nil => rfl
    | cons a l => exact absurd (h3 a (by simp)) (by simp)
  subst this
  exact e
theorem min63 (ct : Ct) (g : Env') (ns : List Int) (i : Nat) (c : Nat) (hc1 : 1 ≤ c) (h : g[i]? = some (.sh (.scr ns))) : ∃ m : Nat, 1 ≤ m ∧ m ≤ c ∧ evE ct g (.b2 .max (.int 1) (.b2 .min (.int (c : Nat)) (.b1 .len (.var i)))) = some (.sh, .int (m : Nat)) := by
  refine ⟨max 1 (min c ns.length), by omega, by omega, ?_⟩
  simp only [evE_b2, evE_int, evE_b1, evE_var, h, slV_sh, Option.bind_some, b1D_len, asLT_scr, Option.map_some, List.length_map, b2D_min, b2D_max]
  congr 3
  generalize ns.length = l
  by_cases k : (l : Int) < (c : Int)
  · rw [if_pos k]
    by_cases k2 : (l : Int) > 1
    · rw [if_pos k2]; omega
    · rw [if_neg k2]; omega
  · rw [if_neg k]
    by_cases k2 : (c : Int) > 1
    · rw [if_pos k2]; omega
    · rw [if_neg k2]; omega
def TrueL (ns : List Int) (F : List D → Rs) : Prop := F [.scr ns] = some (.sh, .bl true)
theorem ev_k11 {ct : Ct} {n : Nat} {ns : List Int} (hp : Points11S ns (ct 45)) (hh : HullS (ct 38)) (hr : Right11S (ct 46)) : TrueL ns (runFn f_law_k11 ct n) := by
  obtain ⟨m, m1, m2, em⟩ := min63 ct [.sh (.scr ns), .no, .no, .no] ns 0 63 (by decide) rfl
  obtain ⟨ps, p1, p2, ep⟩ := hp m (by omega)
  have p3 : ∀ q ∈ ps, BP 150 q := fun q hq => ⟨(p2 q hq).1.mono (by omega), (p2 q hq).2.mono (by omega)⟩
  obtain ⟨M, h1, h2, h3, eh⟩ := hh ps p3 (by omega)
  have hne : M ≠ [] := by
    intro z
    subst z
    cases ps with
    | nil => simp at p1; omega
    | cons a l => exact Gm.Cv_nil (ofI a) ((h2 (ofI a)).mpr (Cv.mem (by simp)))
  have hMl : M.length ≤ 50000 := by
    have hn := h1.nodup
    have : M.Nodup := by
      have := List.pairwise_map.mp hn
      exact this.imp fun {a b} h e => h (by rw [e])
    have := this.length_le_of_subset h3
    omega
  have r1 := hr M ps h1 hne h3 (fun q hq => (h2 _).mpr (Cv.mem (List.mem_map.mpr ⟨q, hq, rfl⟩))) p3 hMl (by omega)
  have hn : ct 38 [regD []] = some (.fr, regD []) := hullS_nil hh
  have em : evE ct [.sh (.scr ns), .no, .no, .no] (.b2 .max (.int 1) (.b2 .min (.int 63) (.b1 .len (.var 0)))) = some (.sh, .int (m : Nat)) := em
  refine runR rfl ?_
  refine stepS (g' := [.sh (.scr ns), .sh (.lst (ps.map pD)), .no, .no]) ?_ ?_
  · show evS ct n _ [.sh (.scr ns), .no, .no, .no] = _
    rw [evS_set, evE_call, evs_cons, evs_cons, em]
    simp [ep]
  refine stepS (g' := [.sh (.scr ns), .sh (.lst (ps.map pD)), .sh (.lst (ps.map pD)), .no]) (by simp) ?_
  refine stepS (g' := [.sh (.scr ns), .sh (.lst (ps.map pD)), .sh (.lst (ps.map pD)), .ow ((M.map ofI).map spD)]) ?_ ?_
  · simp only [evS_set, evE_call, evs_cons, evs_nil, evE_var, List.getElem?_cons_succ, List.getElem?_cons_zero, slV_sh, Option.bind_some, storable_sh, eh, noEx_fr, regD, slOf_ft, setSl_cons, setSl_cons0, Option.map_some]
  refine stepS (g' := [.sh (.scr ns), .sh (.lst (ps.map pD)), .sh (.lst (ps.map pD)), .ow ((M.map ofI).map spD)]) ?_ ?_
  · have r1' : ct 46 [.lst ((M.map ofI).map spD), .lst (ps.map pD)] = some (.sh, .bl true) := r1
    simp only [evS_ife, evE_ors, evOr_cons, evOr_one, evE_not, evE_callB, evs_cons, evs_nil, evsB_cons, evsB_nil, evE_var, List.getElem?_cons_succ, List.getElem?_cons_zero, slV_sh, slV_ow, Option.bind_some, storable_bo, Option.bind_none, callBF_none, r1', noEx_sh, scOf_bl, if_true, asBl_bl, Bool.not_true, Bool.false_eq_true, if_false, evE_cmp, ne_pts_self, evE_call, evE_lst, List.length_nil, lenOk_0, storable_fr, hn, noEx_fr, ← regD_nil, ne_regD, dB_true rfl, dB_true trivial, Bool.not_true, Bool.false_eq_true, if_false, evSs_nil]
  refine stepS (g' := [.sh (.scr ns), .sh (.lst (ps.map pD)), .sh (.lst (ps.map pD)), .ow []]) (by simp) ?_
  have eh' : ct 38 [.lst (ps.map pD)] = some (.fr, regD (M.map ofI)) := eh
  simp [eh', r1]
end Ev
namespace Ev
open PySem L2
open Gm (P lex cr Cvx Reg Cv sides apart Tidy Hf hI Bnd CB SB Good)
/-! ### k13: clipped -/
def nzT (h : Tr) : Prop := h.1 ≠ 0 ∨ h.2.1 ≠ 0
def HalfS13 (F : List D → Rs) : Prop := ∀ a b c : Int, B 300 a → B 300 b → B 300 c → ¬ (a = 0 ∧ b = 0) → ∃ h : Tr, BT 300 h ∧ nzT h ∧ F [.int a, .int b, .int c] = some (.sh, tD h)
def Halves13S (ns : List Int) (F : List D → Rs) : Prop := ∀ (ps : List Pt) (m : Nat), (∀ p ∈ ps, BP 102 p) → ps ≠ [] → ps.length ≤ 64 → m ≤ 64 → ∃ hs : List Tr, hs.length = m ∧ (∀ h ∈ hs, BT 300 h ∧ nzT h) ∧ F [.scr ns, .lst (ps.map pD), .int m] = some (.fr, .lst (hs.map tD))
def MetS (F : List D → Rs) : Prop := ∀ (h : Tr) (p q : P), BdT 300 h → SpB 602 p → SpB 602 q → (hT h).ev p ≠ (hT h).ev q → ∃ t : Tr, BdT 3000 t ∧ Of t (Gm.X (hT h) p q) ∧ F [tD h, tD (fl p), tD (fl q)] = some (.sh, tD t)
def Right13S (F : List D → Rs) : Prop := ∀ (M L : List P) (h : Tr), Reg M → Reg L → (∀ p ∈ M, SpB 602 p) → (∀ p ∈ L, SpB 602 p) → M.length ≤ 50000 → L.length ≤ 50000 → BdT 300 h → (∀ p, Cv M p ↔ Cv L p ∧ 0 ≤ (hT h).ev p) → F [regD M, regD L, tD h] = some (.sh, .bl true)
theorem ev_half13 {ct : Ct} {n : Nat} (hg : GcdS (ct 16)) : HalfS13 (runFn f_law_half_k13 ct n) := fun a b c ha hb hc h0 => by
  obtain ⟨g, x, y, z, G⟩ := gd_of 300 a b c ha hb hc h0
  have d1 := hg a b (hb.mono (by omega))
  have d2 := hg (Int.gcd a b : Nat) c (hc.mono (by omega))
  rw [G.e] at d2
  have o := G.bg.div (by have := G.pos; omega) (by omega)
  refine ⟨(x, y, z), ⟨G.bx, G.by_, G.bz⟩, ?_, runR rfl ?_⟩
  · apply Classical.byContradiction
    intro k
    have k1 : x = 0 := by apply Classical.byContradiction; intro w; exact k (.inl w)
    have k2 : y = 0 := by apply Classical.byContradiction; intro w; exact k (.inr w)
    exact h0 ⟨by rw [G.fa, k1, Int.mul_zero], by rw [G.fb, k2, Int.mul_zero]⟩
  · simp [f_law_half_k13, startE, d1, d2, o, G.da, G.db, G.dc, tD]
theorem fmod_ix {v : Int} {l : Nat} (hv : 0 ≤ v) (hl : 0 < l) : ∃ i : Nat, i < l ∧ v.fmod (l : Int) = (i : Int) := by
  refine ⟨(v % (l : Int)).toNat, ?_, ?_⟩
  · have := Int.emod_lt_of_pos v (show (0 : Int) < l by omega)
    have := Int.emod_nonneg v (show (l : Int) ≠ 0 by omega)
    omega
  · have := Int.emod_nonneg v (show (l : Int) ≠ 0 by omega)
    rw [fmod_of _ _ (by omega)]; omega
theorem ev_halves13 {ct : Ct} {n : Nat} {ns : List Int} (hm : MixS ns (ct 15)) (hh : HalfS13 (ct 58)) : Halves13S ns (runFn f_law_halves_k13 ct n) := fun ps m hp hne hl hm64 => by
  have hl0 : 0 < ps.length := List.length_pos_iff.mpr hne
  obtain ⟨g', e, hs, s4, s5, s6, s7, s8, s9, s10, h1, h2, rfl⟩ := forF_rng (a := asg (.one 4)) (b := fun g => evSs ct n f_law_halves_k13_B0 g) (fun k g => ∃ (hs : List Tr) (s4 s5 s6 s7 s8 s9 s10 : Sl), hs.length = k ∧ (∀ h ∈ hs, BT 300 h ∧ nzT h) ∧ g = [.sh (.scr ns), .sh (.lst (ps.map pD)), .sh (.int (m : Nat)), .ow (hs.map tD), s4, s5, s6, s7, s8, s9, s10]) m 0 [.sh (.scr ns), .sh (.lst (ps.map pD)), .sh (.int (m : Nat)), .ow [], .no, .no, .no, .no, .no, .no, .no]
    ⟨[], .no, .no, .no, .no, .no, .no, .no, rfl, (fun p h => by cases h), rfl⟩ (fun k _ hk g ⟨hs, s4, s5, s6, s7, s8, s9, s10, h1, h2, hg⟩ => by
      subst hg
      obtain ⟨v, hv, ev⟩ := hm (70 + k) (by omega)
      have ev' : ct 15 [.scr ns, .int (70 + (k : Int))] = some (.sh, .int v) := by rw [show (70 + (k : Int)) = ((70 + k : Nat) : Int) by omega]; exact ev
      obtain ⟨i, hi, ei⟩ := fmod_ix hv.1 hl0
      obtain ⟨j, hj, ej⟩ := fmod_ix (v := v / 64) (by omega) hl0
      obtain ⟨p, hpi⟩ : ∃ p, ps[i]? = some p := ⟨_, List.getElem?_eq_getElem hi⟩
      obtain ⟨q, hqj⟩ : ∃ q, ps[j]? = some q := ⟨_, List.getElem?_eq_getElem hj⟩
      have a1 : atI (ps.map pD) (i : Int) = some (pD p) := atI_get hpi
      have a2 : atI (ps.map pD) (j : Int) = some (pD q) := atI_get hqj
      have bp := hp p (List.mem_of_getElem? hpi)
      have bq := hp q (List.mem_of_getElem? hqj)
      obtain ⟨x, y⟩ := p
      obtain ⟨u, w⟩ := q
      obtain ⟨bx, by'⟩ := bp
      obtain ⟨bu, bw⟩ := bq
      simp only at bx by' bu bw
      have sm : ∀ i : Int, -2 ≤ i → i ≤ 3 → B 3 i := fun i h1 h2 => by unfold B; rw [show (2 : Nat) ^ 3 = 8 by decide]; omega
      have nl : ((ps.length : Nat) : Int) ≠ 0 := by omega
      -- the numbers of the half
      obtain ⟨a0, ea⟩ : ∃ a0, y - w + v / 4096 % 3 - 1 = a0 := ⟨_, rfl⟩
      obtain ⟨b0, eb⟩ : ∃ b0, u - x + v / 12288 % 3 - 1 = b0 := ⟨_, rfl⟩
      have ba0 : B 106 a0 := ea ▸ ((by'.sub bw (m := 104) (by omega) (by omega)).add (sm (v / 4096 % 3) (by omega) (by omega)) (m := 105) (by omega) (by omega)).sub (sm 1 (by omega) (by omega)) (by omega) (by omega)
      have bb0 : B 106 b0 := eb ▸ ((bu.sub bx (m := 104) (by omega) (by omega)).add (sm (v / 12288 % 3) (by omega) (by omega)) (m := 105) (by omega) (by omega)).sub (sm 1 (by omega) (by omega)) (by omega) (by omega)
      obtain ⟨a, ha, bA⟩ : ∃ a : Int, a = (if a0 = 0 ∧ b0 = 0 then 1 - 2 * (v / 36864 % 2) else a0) ∧ B 106 a := by
        refine ⟨_, rfl, ?_⟩
        split
        · exact (show B 3 (1 - 2 * (v / 36864 % 2)) by unfold B; rw [show (2 : Nat) ^ 3 = 8 by decide]; omega).mono (by omega)
        · exact ba0
      have nz : ¬ (a = 0 ∧ b0 = 0) := by
        rintro ⟨z1, z2⟩
        rw [ha] at z1
        by_cases h0 : a0 = 0 ∧ b0 = 0
        · rw [if_pos h0] at z1; omega
        · rw [if_neg h0] at z1; exact h0 ⟨z1, z2⟩
      -- the shift
      obtain ⟨d, hd, ed, bd⟩ : ∃ d : Int, d = [0, 0, 1, -1].getD (v / 73728 % 4).toNat 0 ∧ atI [D.int 0, D.int 0, D.int 1, D.int (-1)] (v / 73728 % 4) = some (.int d) ∧ B 3 d := by
        rcases (show v / 73728 % 4 = 0 ∨ v / 73728 % 4 = 1 ∨ v / 73728 % 4 = 2 ∨ v / 73728 % 4 = 3 by omega) with z | z | z | z <;> rw [z]
        · exact ⟨0, rfl, rfl, sm 0 (by omega) (by omega)⟩
        · exact ⟨0, rfl, rfl, sm 0 (by omega) (by omega)⟩
        · exact ⟨1, rfl, rfl, sm 1 (by omega) (by omega)⟩
        · exact ⟨-1, rfl, rfl, sm (-1) (by omega) (by omega)⟩
      have o1 := B.ok bA bx (by omega)
      have o2 := B.ok bb0 by' (by omega)
      have bc : B 300 (a * x + b0 * y + d) := (((bA.mul bx).add (bb0.mul by') (m := 210) (by omega) (by omega)).add bd (m := 211) (by omega) (by omega)).mono (by omega)
      obtain ⟨h, bh, nzh, eh⟩ := hh a b0 (a * x + b0 * y + d) (bA.mono (by omega)) (bb0.mono (by omega)) bc nz
      have lo : lenOk hs.length = true := lenOk_small (by omega)
      refine ⟨[.sh (.scr ns), .sh (.lst (ps.map pD)), .sh (.int (m : Nat)), .ow (hs.map tD), .sh (.int (k : Nat)), s5, s6, s7, s8, s9, s10], [.sh (.scr ns), .sh (.lst (ps.map pD)), .sh (.int (m : Nat)), .ow ((hs ++ [h]).map tD), .sh (.int (k : Nat)), .sh (.int v), .sh (.int x), .sh (.int y), .sh (pD (u, w)), .sh (.int a), .sh (.int b0)], by simp, ?_, hs ++ [h], _, _, _, _, _, _, _, by simp [h1], fun z hz => ?_, rfl⟩
      · refine stepS (g' := [.sh (.scr ns), .sh (.lst (ps.map pD)), .sh (.int (m : Nat)), .ow (hs.map tD), .sh (.int (k : Nat)), .sh (.int v), s6, s7, s8, s9, s10]) (by simp [ev']) ?_
        refine stepS (g' := [.sh (.scr ns), .sh (.lst (ps.map pD)), .sh (.int (m : Nat)), .ow (hs.map tD), .sh (.int (k : Nat)), .sh (.int v), .sh (.int x), .sh (.int y), s8, s9, s10]) ?_ ?_
        · simp only [evS_unp, evE_idx, evE_bin, evE_b1, evE_var, List.getElem?_cons_succ, List.getElem?_cons_zero, slV_sh, Option.bind_some, b1D_len, asLT_lst, Option.map_some, List.length_map, binD_mod, if_pos nl, asInt_int, ei, a1]
          simp [pD]
        refine stepS (g' := [.sh (.scr ns), .sh (.lst (ps.map pD)), .sh (.int (m : Nat)), .ow (hs.map tD), .sh (.int (k : Nat)), .sh (.int v), .sh (.int x), .sh (.int y), .sh (pD (u, w)), s9, s10]) ?_ ?_
        · simp only [evS_set, evE_idx, evE_bin, evE_b1, evE_var, evE_int, List.getElem?_cons_succ, List.getElem?_cons_zero, slV_sh, Option.bind_some, b1D_len, asLT_lst, Option.map_some, List.length_map, binD_div, divOk_255 64 (by decide) (by decide), if_true, fdiv_of _ _ (show (0 : Int) ≤ 64 by decide), binD_mod, if_pos nl, asInt_int, ej, a2]
          simp [pD]
        refine stepS (g' := [.sh (.scr ns), .sh (.lst (ps.map pD)), .sh (.int (m : Nat)), .ow (hs.map tD), .sh (.int (k : Nat)), .sh (.int v), .sh (.int x), .sh (.int y), .sh (pD (u, w)), .sh (.int a0), s10]) (by simp [pD, fmod_of, fdiv_of, divOk_255, ea]) ?_
        refine stepS (g' := [.sh (.scr ns), .sh (.lst (ps.map pD)), .sh (.int (m : Nat)), .ow (hs.map tD), .sh (.int (k : Nat)), .sh (.int v), .sh (.int x), .sh (.int y), .sh (pD (u, w)), .sh (.int a0), .sh (.int b0)]) (by simp [pD, fmod_of, fdiv_of, divOk_255, eb]) ?_
        refine stepS (g' := [.sh (.scr ns), .sh (.lst (ps.map pD)), .sh (.int (m : Nat)), .ow (hs.map tD), .sh (.int (k : Nat)), .sh (.int v), .sh (.int x), .sh (.int y), .sh (pD (u, w)), .sh (.int a), .sh (.int b0)]) ?_ ?_
        · have om : mulOk 2 (v / 36864 % 2) = true := B.ok (k := 3) (l := 3) (sm 2 (by omega) (by omega)) (sm _ (by omega) (by omega)) (by omega)
          by_cases z1 : a0 = 0
          · by_cases z2 : b0 = 0
            · rw [if_pos ⟨z1, z2⟩] at ha
              simp [z1, z2, fmod_of, fdiv_of, divOk_255, om, ← ha]
            · rw [if_neg (fun k => z2 k.2)] at ha
              simp [z1, z2, ha]
          · rw [if_neg (fun k => z1 k.1)] at ha
            simp [z1, ha]
        · simp [o1, o2, fmod_of, fdiv_of, divOk_255, ed, eh, lo]
      · rcases List.mem_append.mp hz with hz | hz
        · exact h2 z hz
        · simp at hz; rw [hz]; exact ⟨bh, nzh⟩)
  refine ⟨hs, by omega, h2, runR rfl ?_⟩
  have el : evS ct n f_law_halves_k13_L0 [.sh (.scr ns), .sh (.lst (ps.map pD)), .sh (.int (m : Nat)), .ow [], .no, .no, .no, .no, .no, .no, .no] = some (.nx [.sh (.scr ns), .sh (.lst (ps.map pD)), .sh (.int (m : Nat)), .ow (hs.map tD), s4, s5, s6, s7, s8, s9, s10]) := by
    rw [f_law_halves_k13_L0, evS_fr]
    simp only [evI_rng, evE_var, List.getElem?_cons_succ, List.getElem?_cons_zero, slV_sh, Option.bind_some, asInt_int, rngOk_n (show m ≤ 1000000 by omega), if_true, Int.toNat_natCast]
    rw [if_neg (fun z => by cases z)]
    exact e
  refine stepS (g' := [.sh (.scr ns), .sh (.lst (ps.map pD)), .sh (.int (m : Nat)), .ow [], .no, .no, .no, .no, .no, .no, .no]) ?_ (stepS el (by simp))
  show evS ct n _ [.sh (.scr ns), .sh (.lst (ps.map pD)), .sh (.int (m : Nat)), .no, .no, .no, .no, .no, .no, .no, .no] = _
  simp
theorem ev_met {ct : Ct} {n : Nat} (ho : OverS (ct 60)) : MetS (runFn f_law_met ct n) := fun h p q hh hp hq ne => by
  haveI : BdT 1204 (fl p) := @flB 602 p hp
  haveI : BdT 1204 (fl q) := @flB 602 q hq
  have b1 : BdT 1300 (fl p) := ⟨(@flB 602 p hp).b.mono (by omega)⟩
  have b2 : BdT 1300 (fl q) := ⟨(@flB 602 q hq).b.mono (by omega)⟩
  have o1 := ho h (fl p) hh b1
  have o2 := ho h (fl q) hh b2
  have ep := over_ev (h := h) (fl_of p)
  have eq' := over_ev (h := h) (fl_of q)
  have ob : ∀ p, SpB 602 p → Bd 1506 (over h (fl p)) := fun p hp => by
    haveI : BdT 1204 (fl p) := @flB 602 p hp
    exact ⟨(show Bd _ (over h (fl p)) by unfold over; infer_instance).b⟩
  have i1 := ob p hp
  have i2 := ob q hq
  obtain ⟨vp, hvp⟩ : ∃ v, over h (fl p) = v := ⟨_, rfl⟩
  obtain ⟨vq, hvq⟩ : ∃ v, over h (fl q) = v := ⟨_, rfl⟩
  have wp := (fl_of p).w; have wq := (fl_of q).w
  have px := (fl_of p).x; have py := (fl_of p).y
  have qx := (fl_of q).x; have qy := (fl_of q).y
  rw [hvp] at i1 ep o1
  rw [hvq] at i2 eq' o2
  clear hvp hvq
  have bb : B 3000 (vp * (fl q).2.2 - vq * (fl p).2.2) := (show Bd _ (vp * (fl q).2.2 - vq * (fl p).2.2) from inferInstance).b.mono (by omega)
  have bx : B 3000 (vp * (fl q).1 - vq * (fl p).1) := (show Bd _ (vp * (fl q).1 - vq * (fl p).1) from inferInstance).b.mono (by omega)
  have by' : B 3000 (vp * (fl q).2.1 - vq * (fl p).2.1) := (show Bd _ (vp * (fl q).2.1 - vq * (fl p).2.1) from inferInstance).b.mono (by omega)
  have d : (hT h).ev p - (hT h).ev q ≠ 0 := by grind
  have X1 : (Gm.X (hT h) p q).x * ((hT h).ev p - (hT h).ev q) = (hT h).ev p * q.x - (hT h).ev q * p.x := Rat.div_mul_cancel d
  have X2 : (Gm.X (hT h) p q).y * ((hT h).ev p - (hT h).ev q) = (hT h).ev p * q.y - (hT h).ev q * p.y := Rat.div_mul_cancel d
  have e0 : ((vp * (fl q).2.2 - vq * (fl p).2.2 : Int) : Rat) = (((fl p).2.2 : Int) : Rat) * (((fl q).2.2 : Int) : Rat) * ((hT h).ev p - (hT h).ev q) := by
    rw [Rat.intCast_sub, Rat.intCast_mul, Rat.intCast_mul, ep, eq']; grind
  have e1 : ((vp * (fl q).1 - vq * (fl p).1 : Int) : Rat) = (Gm.X (hT h) p q).x * ((vp * (fl q).2.2 - vq * (fl p).2.2 : Int) : Rat) := by
    rw [e0, Rat.intCast_sub, Rat.intCast_mul, Rat.intCast_mul, ep, eq', px, qx]; grind
  have e2 : ((vp * (fl q).2.1 - vq * (fl p).2.1 : Int) : Rat) = (Gm.X (hT h) p q).y * ((vp * (fl q).2.2 - vq * (fl p).2.2 : Int) : Rat) := by
    rw [e0, Rat.intCast_sub, Rat.intCast_mul, Rat.intCast_mul, ep, eq', py, qy]; grind
  have ww := Rat.mul_pos (castpos wp) (castpos wq)
  have nz : (vp * (fl q).2.2 - vq * (fl p).2.2) ≠ 0 := fun z => d (((cast_sign ww e0).2.2).mp z)
  have t1 : tD (fl p) = .tup [.int (fl p).1, .int (fl p).2.1, .int (fl p).2.2] := rfl
  have t2 : tD (fl q) = .tup [.int (fl q).1, .int (fl q).2.1, .int (fl q).2.2] := rfl
  have th : tD h = .tup [.int h.1, .int h.2.1, .int h.2.2] := rfl
  rw [t1, th] at o1
  rw [t2, th] at o2
  rw [t1, t2]
  clear t1 t2 e0 ep eq' px py qx qy
  generalize fl p = fp at *
  generalize fl q = fq at *
  generalize Gm.X (hT h) p q = x at *
  by_cases hneg : vp * fq.2.2 - vq * fp.2.2 < 0
  · refine ⟨(-(vp * fq.1 - vq * fp.1), -(vp * fq.2.1 - vq * fp.2.1), -(vp * fq.2.2 - vq * fp.2.2)), ⟨⟨bx.neg, by'.neg, bb.neg⟩⟩, ⟨by show 0 < -(vp * fq.2.2 - vq * fp.2.2); omega, ?_, ?_⟩, runR rfl ?_⟩
    · show ((-(vp * fq.1 - vq * fp.1) : Int) : Rat) = x.x * ((-(vp * fq.2.2 - vq * fp.2.2) : Int) : Rat)
      rw [Rat.intCast_neg, Rat.intCast_neg, e1]; grind
    · show ((-(vp * fq.2.1 - vq * fp.2.1) : Int) : Rat) = x.y * ((-(vp * fq.2.2 - vq * fp.2.2) : Int) : Rat)
      rw [Rat.intCast_neg, Rat.intCast_neg, e2]; grind
    · generalize hu : vp * fq.2.2 - vq * fp.2.2 = u at *
      simp [f_law_met, startE, o1, o2, hu, hneg, tD]
  · refine ⟨(vp * fq.1 - vq * fp.1, vp * fq.2.1 - vq * fp.2.1, vp * fq.2.2 - vq * fp.2.2), ⟨⟨bx, by', bb⟩⟩, ⟨by show 0 < vp * fq.2.2 - vq * fp.2.2; omega, e1, e2⟩, runR rfl ?_⟩
    generalize hu : vp * fq.2.2 - vq * fp.2.2 = u at *
    simp [f_law_met, startE, o1, o2, hu, hneg, tD]
theorem ev_right13 {ct : Ct} {n : Nat} (hr : IsRegS (ct 43)) (hf : SpreadS (ct 39)) (hh : HoldsS (ct 44)) (ho : OverS (ct 60)) (hmet : MetS (ct 61)) : Right13S (runFn f_law_right_k13 ct n) := fun M L h rM rL sM sL lM lL bh hcv => by
  have r1 := hr M rM sM lM
  have b13 : ∀ p, SpB 602 p → BdT 1300 (fl p) := fun p hp => ⟨(@flB 602 p hp).b.mono (by omega)⟩
  have c0 : evE ct [.sh (regD M), .sh (regD L), .sh (tD h), .no, .no, .no, .no, .no] f_law_right_k13_C0 = some (.fr, flsD M) :=
    evE_comp_of (m := .sh) (ds := M.map spD) (by simp [itM]) rfl (compF_map spD _ M (fun p hp => ⟨[.sh (regD M), .sh (regD L), .sh (tD h), .no, .sh (spD p), .no, .no, .no], by simp [tgSlots, wipeE], by simp, (.sh, tD (fl p)), by simp [hf p (sM p hp)], rfl⟩) (by omega))
  have c1 : evE ct [.sh (regD M), .sh (regD L), .sh (tD h), .sh (flsD M), .no, .no, .no, .no] f_law_right_k13_C1 = some (.fr, flsD L) :=
    evE_comp_of (m := .sh) (ds := L.map spD) (by simp [itM]) rfl (compF_map spD _ L (fun p hp => ⟨[.sh (regD M), .sh (regD L), .sh (tD h), .sh (flsD M), .sh (spD p), .no, .no, .no], by simp [tgSlots, wipeE], by simp, (.sh, tD (fl p)), by simp [hf p (sL p hp)], rfl⟩) (by omega))
  -- the corners told
  obtain ⟨g1, e1, s6, rfl⟩ := forF_ok (fun p => tD (fl p)) (a := asg (.one 6)) (b := fun g => evSs ct n f_law_right_k13_B0 g) (fun g => ∃ s, g = [.sh (regD M), .sh (regD L), .sh (tD h), .sh (flsD M), .no, .sh (flsD L), s, .no]) M [.sh (regD M), .sh (regD L), .sh (tD h), .sh (flsD M), .no, .sh (flsD L), .no, .no] ⟨.no, rfl⟩ (fun p hp g ⟨s, hg⟩ => by
    subst hg
    obtain ⟨k1, k2⟩ := (hcv p).mp (Cv.mem hp)
    have h1 := hh L (fl p) p rL sL lL (fl_of p) (fl_b (sM p hp))
    rw [dB_true k1] at h1
    have h2 := ho h (fl p) bh (b13 p (sM p hp))
    have h3 : ¬ over h (fl p) < 0 := by have := (over_nn (h := h) (fl_of p)).mpr k2; omega
    refine ⟨[.sh (regD M), .sh (regD L), .sh (tD h), .sh (flsD M), .no, .sh (flsD L), .sh (tD (fl p)), .no], [.sh (regD M), .sh (regD L), .sh (tD h), .sh (flsD M), .no, .sh (flsD L), .sh (tD (fl p)), .no], by simp, ?_, _, rfl⟩
    simp [f_law_right_k13_B0, h1, h2, h3]
    try omega)
  have l0 : evS ct n f_law_right_k13_L0 [.sh (regD M), .sh (regD L), .sh (tD h), .sh (flsD M), .no, .sh (flsD L), .no, .no] = some (.nx [.sh (regD M), .sh (regD L), .sh (tD h), .sh (flsD M), .no, .sh (flsD L), s6, .no]) := by
    rw [f_law_right_k13_L0, evS_fr]
    simp only [evI_ex, evE_var, List.getElem?_cons_succ, List.getElem?_cons_zero, slV_sh, Option.bind_some, asLT_flsD, itM]
    rw [if_neg (fun z => by cases z)]
    exact e1
  -- the corners ahead, and where its sides meet the border
  obtain ⟨g2, e2, s7, rfl⟩ := forF_ok (fun (e : Nat × P × P) => D.int (e.1 : Nat)) (a := asg (.one 7)) (b := fun g => evSs ct n f_law_right_k13_B1 g) (fun g => ∃ s, g = [.sh (regD M), .sh (regD L), .sh (tD h), .sh (flsD M), .no, .sh (flsD L), s6, s]) (ixs L) [.sh (regD M), .sh (regD L), .sh (tD h), .sh (flsD M), .no, .sh (flsD L), s6, .no] ⟨.no, rfl⟩ (fun e he g ⟨s, hg⟩ => by
    subst hg
    obtain ⟨h1, h2, h3', hm⟩ := ixs_get he
    have a1 : atI (L.map fun p => tD (fl p)) (e.1 : Int) = some (tD (fl e.2.2)) := atI_get (f := fun p => tD (fl p)) h2
    have a2 : atI (L.map fun p => tD (fl p)) ((e.1 : Int) - 1) = some (tD (fl e.2.1)) := atI_prev (f := fun p => tD (fl p)) h1 h3'
    have m2 := List.mem_of_getElem? h2
    have m1 := List.mem_of_getElem? h3'
    have o1 := ho h (fl e.2.2) bh (b13 _ (sL _ m2))
    have o2 := ho h (fl e.2.1) bh (b13 _ (sL _ m1))
    have hd2 := hh M (fl e.2.2) e.2.2 rM sM lM (fl_of _) (fl_b (sL _ m2))
    have n1 := over_nn (h := h) (fl_of e.2.2)
    have obd : ∀ p, SpB 602 p → B 1506 (over h (fl p)) := fun p hp => by
      haveI : BdT 1204 (fl p) := @flB 602 p hp
      exact (show Bd _ (over h (fl p)) by unfold over; infer_instance).b
    have om : mulOk (over h (fl e.2.2)) (over h (fl e.2.1)) = true := B.ok (obd _ (sL _ m2)) (obd _ (sL _ m1)) (by omega)
    refine ⟨[.sh (regD M), .sh (regD L), .sh (tD h), .sh (flsD M), .no, .sh (flsD L), s6, .sh (.int (e.1 : Nat))], [.sh (regD M), .sh (regD L), .sh (tD h), .sh (flsD M), .no, .sh (flsD L), s6, .sh (.int (e.1 : Nat))], by simp, ?_, _, rfl⟩
    refine stepS (g' := [.sh (regD M), .sh (regD L), .sh (tD h), .sh (flsD M), .no, .sh (flsD L), s6, .sh (.int (e.1 : Nat))]) ?_ ?_
    · by_cases c : 0 ≤ over h (fl e.2.2)
      · rw [dB_true ((hcv _).mpr ⟨Cv.mem m2, n1.mp c⟩)] at hd2
        simp [a1, o1, c, hd2]
      · simp [a1, o1, c]
        try omega
    · by_cases c : over h (fl e.2.2) * over h (fl e.2.1) < 0
      · have sg : (hT h).ev e.2.2 * (hT h).ev e.2.1 < 0 := by
          refine (cast_sign (w := (((fl e.2.2).2.2 : Int) : Rat) * (((fl e.2.1).2.2 : Int) : Rat)) (Rat.mul_pos (castpos (fl_of _).w) (castpos (fl_of _).w)) ?_).2.1.mp c
          rw [Rat.intCast_mul, over_ev (fl_of _), over_ev (fl_of _)]; grind
        have ne : (hT h).ev e.2.1 ≠ (hT h).ev e.2.2 := fun z => by rw [z] at sg; have := Gm.sq_nn ((hT h).ev e.2.2); grind
        obtain ⟨t, bt, ot, et⟩ := hmet h e.2.1 e.2.2 bh (sL _ m1) (sL _ m2) ne
        have on : (hT h).ev (Gm.X (hT h) e.2.1 e.2.2) = 0 := Gm.X_on _ _ _ (by grind)
        have inL : Cv L (Gm.X (hT h) e.2.1 e.2.2) := by
          rcases Gm.mul_neg_iff.mp sg with ⟨p1, p2⟩ | ⟨p1, p2⟩
          · rw [Gm.X_comm _ _ _ (by grind)]
            exact Gm.Cv_X _ p1 p2 m2 m1
          · exact Gm.Cv_X _ p2 p1 m1 m2
        have hd3 := hh M t _ rM sM lM ot bt
        rw [dB_true ((hcv _).mpr ⟨inL, by rw [on]; grind⟩)] at hd3
        simp [a1, a2, o1, o2, om, c, et, hd3]
      · simp [a1, a2, o1, o2, om, c]
        try omega)
  have l1 : evS ct n f_law_right_k13_L1 [.sh (regD M), .sh (regD L), .sh (tD h), .sh (flsD M), .no, .sh (flsD L), s6, .no] = some (.nx [.sh (regD M), .sh (regD L), .sh (tD h), .sh (flsD M), .no, .sh (flsD L), s6, s7]) := by
    rw [f_law_right_k13_L1, evS_fr]
    simp only [evI_rng, evE_b1, evE_var, List.getElem?_cons_succ, List.getElem?_cons_zero, slV_sh, Option.bind_some, b1D_len, asLT_flsD, Option.map_some, List.length_map, asInt_int, rngOk_n (show L.length ≤ 1000000 by omega), if_true, Int.toNat_natCast]
    rw [if_neg (fun z => by cases z), ixs_rng]
    exact e2
  refine runR rfl ?_
  refine stepS (g' := [.sh (regD M), .sh (regD L), .sh (tD h), .no, .no, .no, .no, .no]) ?_ (stepS (g' := [.sh (regD M), .sh (regD L), .sh (tD h), .sh (flsD M), .no, .no, .no, .no]) (by rw [evS_set, c0, flsD]; simp) (stepS (g' := [.sh (regD M), .sh (regD L), .sh (tD h), .sh (flsD M), .no, .sh (flsD L), .no, .no]) (by rw [evS_set, c1]; simp [flsD]) (stepS l0 (stepS l1 (by simp)))))
  show evS ct n _ [.sh (regD M), .sh (regD L), .sh (tD h), .no, .no, .no, .no, .no] = _
  simp [r1]
/-- a region of points with whole numbers -/
theorem bnd_ofI {M : List Pt} (h : Reg (M.map ofI)) (hb : ∀ q ∈ M, BP 102 q) : Bnd 300 (M.map ofI) := by
  have s1 : B 300 1 := (show B 1 1 by unfold B; decide).mono (by omega)
  have s0 : B 300 0 := (show B 1 0 by unfold B; decide).mono (by omega)
  have ver : ∀ q, BP 102 q → Gm.onL 1 0 q.1 (ofI q) ∧ Gm.onL 0 1 q.2 (ofI q) := fun q hq => by
    unfold Gm.onL ofI
    refine ⟨?_, ?_⟩
    · show ((1 : Int) : Rat) * ((q.1 : Int) : Rat) + ((0 : Int) : Rat) * ((q.2 : Int) : Rat) = ((q.1 : Int) : Rat); grind
    · show ((0 : Int) : Rat) * ((q.1 : Int) : Rat) + ((1 : Int) : Rat) * ((q.2 : Int) : Rat) = ((q.2 : Int) : Rat); grind
  refine ⟨fun p hp => ?_, fun p q hs => ?_⟩
  · obtain ⟨z, hz, rfl⟩ := List.mem_map.mp hp
    have bz := hb z hz
    exact ⟨1, 0, z.1, 0, 1, z.2, ⟨s1, s0, bz.1.mono (by omega)⟩, ⟨s0, s1, bz.2.mono (by omega)⟩, by decide, (ver z bz).1, (ver z bz).2⟩
  · obtain ⟨mp, mq⟩ := Gm.sides_mem hs
    obtain ⟨u, hu, rfl⟩ := List.mem_map.mp mp
    obtain ⟨w, hw, rfl⟩ := List.mem_map.mp mq
    have bu := hb u hu
    have bw := hb w hw
    by_cases e : u = w
    · subst e
      exact ⟨1, 0, u.1, ⟨s1, s0, bu.1.mono (by omega)⟩, .inl (by decide), (ver u bu).1, (ver u bu).1⟩
    · have b1 : B 104 (u.2 - w.2) := bu.2.sub bw.2 (by omega) (by omega)
      have b2 : B 104 (w.1 - u.1) := bw.1.sub bu.1 (by omega) (by omega)
      refine ⟨u.2 - w.2, w.1 - u.1, (u.2 - w.2) * u.1 + (w.1 - u.1) * u.2, ⟨b1.mono (by omega), b2.mono (by omega), ((b1.mul bu.1).add (b2.mul bu.2) (m := 300) (by omega) (by omega))⟩, ?_, ?_, ?_⟩
      · apply Classical.byContradiction
        intro k
        apply e
        have k1 : u.2 - w.2 = 0 := by apply Classical.byContradiction; intro w; exact k (.inl w)
        have k2 : w.1 - u.1 = 0 := by apply Classical.byContradiction; intro w; exact k (.inr w)
        exact Prod.ext (by omega) (by omega)
      · unfold Gm.onL ofI
        simp only [Rat.intCast_add, Rat.intCast_mul]
      · unfold Gm.onL ofI
        simp only [Rat.intCast_add, Rat.intCast_mul, Rat.intCast_sub]
        grind
theorem clipS_nil {F : List D → Rs} (h : ClipS F) (t : Tr) (bt : BT 300 t) (nz : nzT t) : F [regD [], tD t] = some (.fr, regD []) := by
  obtain ⟨M, _, g, e⟩ := h [] t trivial (Gm.Bnd_nil 300) bt nz (by simp)
  have : M = [] := by
    cases M with
    | nil => rfl
    | cons a l => exact absurd ((g.cv a).mp (Cv.mem (by simp))).1 (Gm.Cv_nil a)
  subst this
  exact e
theorem hull_len {M ps : List Pt} (h1 : Reg (M.map ofI)) (h3 : ∀ q ∈ M, q ∈ ps) : M.length ≤ ps.length := by
  have hn := h1.nodup
  have : M.Nodup := by
    have := List.pairwise_map.mp hn
    exact this.imp fun {a b} h e => h (by rw [e])
  exact this.length_le_of_subset h3
theorem min12 (ct : Ct) (g : Env') (ns : List Int) (h : g[0]? = some (.sh (.scr ns))) : ∃ m : Nat, 1 ≤ m ∧ m ≤ 12 ∧ evE ct g (.b2 .max (.int 1) (.b2 .min (.int 12) (.b1 .len (.var 0)))) = some (.sh, .int (m : Nat)) := min63 ct g ns 0 12 (by decide) h
theorem k13_turn {ct : Ct} {n : Nat} (hc : ClipS (ct 57)) (hr : Right13S (ct 62)) (s0 s1 : Sl) (L : List P) (hL : Reg L) (hB : Bnd 300 L) (hl : L.length ≤ 1000) (h : Tr) (bh : BT 300 h) (nz : nzT h) (s4 s5 s6 : Sl) :
    ∃ M, Reg M ∧ Bnd 300 M ∧ M.length ≤ L.length + 1 ∧ ∃ t4 t5 t6, evSs ct n f_law_k13_B0 [s0, s1, .sh (regD L), .sh (tD h), s4, s5, s6] = some (.nx [s0, s1, .sh (regD M), .sh (tD h), t4, t5, t6]) := by
  obtain ⟨M, m1, m2, e⟩ := hc L h hL hB bh nz (by omega)
  have hBM := m2.bnd hB
  have sM : ∀ p ∈ M, SpB 602 p := fun p hp => SpB_of_CB (hBM.c p hp)
  have sL : ∀ p ∈ L, SpB 602 p := fun p hp => SpB_of_CB (hB.c p hp)
  have lM := m2.len
  have r := hr M L h m1 hL sM sL (by omega) (by omega) ⟨bh⟩ m2.cv
  have e0 := clipS_nil hc h bh nz
  refine ⟨M, m1, hBM, lM, .sh (regD L), .ow (M.map spD ++ [.tup [.tup [.int 0, .int 1], .tup [.int 0, .int 1]]]), .sh (regD M), ?_⟩
  have lo : lenOk M.length = true := lenOk_small (by omega)
  have e' : ct 57 [regD L, tD h] = some (.fr, .lst (M.map spD)) := e
  have r' : ct 62 [.lst (M.map spD), regD L, tD h] = some (.sh, .bl true) := r
  have ls : b1D .list (regD L) = some (.fr, regD L) := rfl
  refine stepS (g' := [s0, s1, .sh (regD L), .sh (tD h), .sh (regD L), s5, s6]) (by simp [regD]) ?_
  refine stepS (g' := [s0, s1, .sh (regD L), .sh (tD h), .sh (regD L), .ow (M.map spD), s6]) (by simp [e']) ?_
  refine stepS (g' := [s0, s1, .sh (regD L), .sh (tD h), .sh (regD L), .ow (M.map spD), s6]) ?_ ?_
  · simp only [evS_ife, evE_ors, evOr_cons, evOr_one, evE_not, evE_callB, evs_cons, evs_nil, evsB_cons, evsB_nil, evE_var, List.getElem?_cons_succ, List.getElem?_cons_zero, slV_sh, slV_ow, Option.bind_some, storable_bo, storable_sh, Option.bind_none, callBF_none, r', noEx_sh, scOf_bl, if_true, asBl_bl, Bool.not_true, Bool.false_eq_true, if_false, evE_cmp, evE_call, evE_lst, List.length_nil, lenOk_0, storable_fr, ← regD_nil, e0, noEx_fr, ne_regD, dB_true rfl, dB_true trivial, evSs_nil]
  refine stepS (g' := [s0, s1, .sh (regD L), .sh (tD h), .sh (regD L), .ow (M.map spD), .sh (regD M)]) (by simp [regD]) ?_
  refine stepS (g' := [s0, s1, .sh (regD L), .sh (tD h), .sh (regD L), .ow (M.map spD ++ [.tup [.tup [.int 0, .int 1], .tup [.int 0, .int 1]]]), .sh (regD M)]) (by simp [lo]) ?_
  refine stepS (g' := [s0, s1, .sh (regD L), .sh (tD h), .sh (regD L), .ow (M.map spD ++ [.tup [.tup [.int 0, .int 1], .tup [.int 0, .int 1]]]), .sh (regD M)]) ?_ ?_
  · simp only [evS_ife, evE_ors, evOr_cons, evOr_one, evE_cmp, evE_var, List.getElem?_cons_succ, List.getElem?_cons_zero, slV_sh, Option.bind_some, ne_regD, dB_true rfl, dB_true trivial, Bool.not_true, asBl_bl, Bool.false_eq_true, if_false, evE_call, evs_cons, evs_nil, storable_sh, e, noEx_fr, evSs_nil]
  · simp
theorem ev_k13 {ct : Ct} {n : Nat} {ns : List Int} (hp : Points11S ns (ct 45)) (hm : MixS ns (ct 15)) (hh : HullS (ct 38)) (hhs : Halves13S ns (ct 59)) (hc : ClipS (ct 57)) (hr : Right13S (ct 62)) : TrueL ns (runFn f_law_k13 ct n) := by
  obtain ⟨m, m1, m2, em⟩ := min12 ct [.sh (.scr ns), .no, .no, .no, .no, .no, .no] ns rfl
  obtain ⟨ps, p1, p2, ep⟩ := hp m (by omega)
  have p3 : ∀ q ∈ ps, BP 150 q := fun q hq => ⟨(p2 q hq).1.mono (by omega), (p2 q hq).2.mono (by omega)⟩
  obtain ⟨M, h1, h2, h3, eh⟩ := hh ps p3 (by omega)
  have hMl := hull_len h1 h3
  obtain ⟨v, hv, ev⟩ := hm 90 (by omega)
  have ev : ct 15 [.scr ns, .int 90] = some (.sh, .int v) := ev
  obtain ⟨k, hk, ek⟩ : ∃ k : Nat, k ≤ 6 ∧ 1 + v % 6 = (k : Int) := ⟨(1 + v % 6).toNat, by omega, by omega⟩
  obtain ⟨hs, k1, k2, ehs⟩ := hhs ps k p2 (by intro z; subst z; simp at p1; omega) (by omega) (by omega)
  obtain ⟨g', e, L, s3, s4, s5, s6, a1, a2, a3, rfl⟩ := forF_pre tD (a := asg (.one 3)) (b := fun g => evSs ct n f_law_k13_B0 g) (fun done g => ∃ (L : List P) (s3 s4 s5 s6 : Sl), Reg L ∧ Bnd 300 L ∧ L.length ≤ 100 + done.length ∧ g = [.sh (.scr ns), .sh (.lst (ps.map pD)), .sh (regD L), s3, s4, s5, s6]) hs hs [] [.sh (.scr ns), .sh (.lst (ps.map pD)), .sh (regD (M.map ofI)), .no, .no, .no, .no] rfl
    ⟨M.map ofI, .no, .no, .no, .no, h1, bnd_ofI h1 (fun q hq => p2 q (h3 q hq)), by simp; omega, rfl⟩ (fun done h rest g hall ⟨L, s3, s4, s5, s6, a1, a2, a3, hg⟩ => by
      subst hg
      have hd : done.length ≤ 6 := by
        have := congrArg List.length hall
        simp at this; omega
      obtain ⟨bh, nz⟩ := k2 h (by rw [hall]; simp)
      obtain ⟨M', c1, c2, c3, t4, t5, t6, et⟩ := k13_turn (n := n) hc hr (.sh (.scr ns)) (.sh (.lst (ps.map pD))) L a1 a2 (by omega) h bh nz s4 s5 s6
      exact ⟨[.sh (.scr ns), .sh (.lst (ps.map pD)), .sh (regD L), .sh (tD h), s4, s5, s6], _, by simp, et, M', _, _, _, _, c1, c2, by simp; omega, rfl⟩)
  refine runR rfl ?_
  refine stepS (g' := [.sh (.scr ns), .sh (.lst (ps.map pD)), .no, .no, .no, .no, .no]) ?_ ?_
  · show evS ct n _ [.sh (.scr ns), .no, .no, .no, .no, .no, .no] = _
    rw [evS_set, evE_call, evs_cons, evs_cons, em]
    simp [ep]
  refine stepS (g' := [.sh (.scr ns), .sh (.lst (ps.map pD)), .sh (regD (M.map ofI)), .no, .no, .no, .no]) ?_ ?_
  · have eh' : ct 38 [.lst (ps.map pD)] = some (.fr, .lst ((M.map ofI).map spD)) := eh
    simp only [evS_set, evE_call, evs_cons, evs_nil, evE_var, List.getElem?_cons_succ, List.getElem?_cons_zero, slV_sh, Option.bind_some, storable_sh, eh', noEx_fr, slOf_ff, setSl_cons, setSl_cons0, Option.map_some, regD]
  refine stepS (g' := [.sh (.scr ns), .sh (.lst (ps.map pD)), .sh (regD L), s3, s4, s5, s6]) ?_ (by simp)
  rw [f_law_k13_L0, evS_fr]
  have ei : evI ct [.sh (.scr ns), .sh (.lst (ps.map pD)), .sh (regD (M.map ofI)), .no, .no, .no, .no] (.ex (.call 59 (.cons (.var 0) (.cons (.var 1) (.cons (.bin .add (.int 1) (.bin .mod (.call 15 (.cons (.var 0) (.cons (.int 90) .nil))) (.int 6))) .nil))))) = some (.sh, hs.map tD) := by
    simp [ev, fmod_of, ek, ehs, itM]
  rw [ei, Option.bind_some, if_neg (fun z => by cases z)]
  exact e
end Ev
namespace Ev
open PySem L2
open Gm (P lex cr Cvx Reg Cv sides apart Tidy Hf hI Bnd CB SB Good)
/-! ### k14 -/
def negT (h : Tr) : Tr := (0 - h.1, 0 - h.2.1, 0 - h.2.2)
theorem negT_ev (h : Tr) (p : P) : (hT (negT h)).ev p = - (hT h).ev p := by
  unfold hT hI negT Hf.ev
  simp only [Rat.intCast_sub]
  grind
theorem negT_b {h : Tr} (b : BT 300 h) : BT 300 (negT h) := by
  obtain ⟨h1, h2, h3⟩ := b
  exact ⟨by show B 300 (0 - h.1); rw [Int.zero_sub]; exact h1.neg, by show B 300 (0 - h.2.1); rw [Int.zero_sub]; exact h2.neg, by show B 300 (0 - h.2.2); rw [Int.zero_sub]; exact h3.neg⟩
theorem negT_nz {h : Tr} (b : nzT h) : nzT (negT h) := by
  unfold nzT negT at *
  simp only
  omega
/-- three spots on a border turn nowhere -/
theorem on_border {h : Tr} (nz : nzT h) {a b c : P} (ha : (hT h).ev a = 0) (hb : (hT h).ev b = 0) (hc : (hT h).ev c = 0) : cr a b c = 0 := by
  unfold hT hI Hf.ev at *
  simp only at *
  unfold cr
  rcases nz with n | n
  · have n' := cast_ne n
    refine Gm.mul_cancel_r n' ?_
    have e1 : ((h.1 : Int) : Rat) * (b.x - a.x) = - ((h.2.1 : Int) : Rat) * (b.y - a.y) := by grind
    have e2 : ((h.1 : Int) : Rat) * (c.x - a.x) = - ((h.2.1 : Int) : Rat) * (c.y - a.y) := by grind
    have : ((b.x - a.x) * (c.y - a.y) - (b.y - a.y) * (c.x - a.x)) * ((h.1 : Int) : Rat) = (((h.1 : Int) : Rat) * (b.x - a.x)) * (c.y - a.y) - (((h.1 : Int) : Rat) * (c.x - a.x)) * (b.y - a.y) := by grind
    rw [this, e1, e2]; grind
  · have n' := cast_ne n
    refine Gm.mul_cancel_r n' ?_
    have e1 : ((h.2.1 : Int) : Rat) * (b.y - a.y) = - ((h.1 : Int) : Rat) * (b.x - a.x) := by grind
    have e2 : ((h.2.1 : Int) : Rat) * (c.y - a.y) = - ((h.1 : Int) : Rat) * (c.x - a.x) := by grind
    have : ((b.x - a.x) * (c.y - a.y) - (b.y - a.y) * (c.x - a.x)) * ((h.2.1 : Int) : Rat) = (((h.2.1 : Int) : Rat) * (c.y - a.y)) * (b.x - a.x) - (((h.2.1 : Int) : Rat) * (b.y - a.y)) * (c.x - a.x) := by grind
    rw [this, e1, e2]; grind
theorem thin_len {h : Tr} (nz : nzT h) {L : List P} (hL : Reg L) (h0 : ∀ p ∈ L, (hT h).ev p = 0) : L.length ≤ 2 := by
  match L, hL, h0 with
  | [], _, _ => simp
  | [_], _, _ => simp
  | [_, _], _, _ => simp
  | a :: b :: c :: l, hL, h0 =>
    have := hL.cvx a b c (by simp)
    rw [on_border nz (h0 a (by simp)) (h0 b (by simp)) (h0 c (by simp))] at this
    grind
/-- a region clipped: what it is -/
structure Clp (F : List D → Rs) (L : List P) (h : Tr) (M : List P) : Prop where
  reg : Reg M
  bnd : Bnd 300 M
  len : M.length ≤ L.length + 1
  cv : ∀ p, Cv M p ↔ Cv L p ∧ 0 ≤ (hT h).ev p
  e : F [regD L, tD h] = some (.fr, regD M)
theorem clp {F : List D → Rs} (hc : ClipS F) {L : List P} (hL : Reg L) (hB : Bnd 300 L) (hl : L.length ≤ 50000) {h : Tr} (bh : BT 300 h) (nz : nzT h) : ∃ M, Clp F L h M := by
  obtain ⟨M, m1, m2, e⟩ := hc L h hL hB bh nz hl
  exact ⟨M, m1, m2.bnd hB, m2.len, m2.cv, e⟩
theorem k14_turn {ct : Ct} {n : Nat} (hc : ClipS (ct 57)) (hr : IsRegS (ct 43)) (hf : SpreadS (ct 39)) (ho : OverS (ct 60)) (s0 s1 : Sl) (L S : List P) (s3 : Sl) (hL : Reg L) (hB : Bnd 300 L) (hl : L.length ≤ 1000) (sS : Reg S) (bS : Bnd 300 S) (lS : S.length ≤ 1000) (h : Tr) (bh : BT 300 h) (nz : nzT h) (s7 s8 s9 s10 : Sl) :
    ∃ M, Reg M ∧ Bnd 300 M ∧ M.length ≤ L.length + 1 ∧ (∀ p, Cv M p ↔ Cv L p ∧ 0 ≤ (hT h).ev p) ∧ ∃ t7 t8 t9, evSs ct n f_law_k14_B0 [s0, s1, .sh (regD S), s3, .sh (regD L), .sh (regD L), .sh (tD h), s7, s8, s9, s10] = some (.nx [s0, s1, .sh (regD S), s3, .sh (regD M), .sh (regD M), .sh (tD h), t7, t8, t9, s10]) := by
  haveI : BdT 300 h := ⟨bh⟩
  obtain ⟨M, c1⟩ := clp hc hL hB (by omega) bh nz
  obtain ⟨M2, c2⟩ := clp hc c1.reg c1.bnd (by have := c1.len; omega) bh nz
  have eM : M2 = M := c2.reg.uniq c1.reg fun p => by rw [c2.cv, c1.cv]; grind
  subst eM
  have bh' := negT_b bh
  have nz' := negT_nz nz
  obtain ⟨S1, d1⟩ := clp hc sS bS (by omega) bh nz
  obtain ⟨T, d2⟩ := clp hc d1.reg d1.bnd (by have := d1.len; omega) bh' nz'
  obtain ⟨S2, d3⟩ := clp hc sS bS (by omega) bh' nz'
  obtain ⟨T2, d4⟩ := clp hc d3.reg d3.bnd (by have := d3.len; omega) bh nz
  have eT : T = T2 := d2.reg.uniq d4.reg fun p => by rw [d2.cv, d1.cv, d4.cv, d3.cv]; grind
  subst eT
  have t0 : ∀ p ∈ T, (hT h).ev p = 0 := fun p hp => by
    obtain ⟨k1, k2⟩ := (d2.cv p).mp (Cv.mem hp)
    have k3 := ((d1.cv p).mp k1).2
    rw [negT_ev] at k2
    grind
  have tl := thin_len nz d2.reg t0
  have sT : ∀ p ∈ T, SpB 602 p := fun p hp => SpB_of_CB (d2.bnd.c p hp)
  have sSS : ∀ p ∈ S, SpB 602 p := fun p hp => SpB_of_CB (bS.c p hp)
  have r := hr T d2.reg sT (by omega)
  have b13 : ∀ p, SpB 602 p → BdT 1300 (fl p) := fun p hp => ⟨(@flB 602 p hp).b.mono (by omega)⟩
  have e0 : ∀ p ∈ T, over h (fl p) = 0 := fun p hp => (over_sign (fl_of p)).2.2.mpr (t0 p hp)
  have q0 : ∀ s9 s10, evE ct [s0, s1, .sh (regD S), s3, .sh (regD M2), .sh (regD M2), .sh (tD h), .sh (tD (negT h)), .sh (regD T), s9, s10] f_law_k14_C0 = some (.fr, regD []) := fun s9 s10 => by
    have hcc := compF_fm spD (fun p => !decide (over h (fl p) = 0)) spD (a := asg (.one 9)) (c := fun g1 => evC ct g1 (.cons (.cmp .ne (.call 60 (.cons (.var 6) (.cons (.call 39 (.cons (.var 9) .nil)) .nil))) (.int 0)) .nil)) (e := fun g1 => evE ct g1 (.var 9))
      (g := [s0, s1, .sh (regD S), s3, .sh (regD M2), .sh (regD M2), .sh (tD h), .sh (tD (negT h)), .sh (regD T), .no, s10]) T [] (fun p hp => ⟨[s0, s1, .sh (regD S), s3, .sh (regD M2), .sh (regD M2), .sh (tD h), .sh (tD (negT h)), .sh (regD T), .sh (spD p), s10], by simp, by simp [hf p (sT p hp), ho h (fl p) inferInstance (b13 p (sT p hp))], fun _ => ⟨(.sh, spD p), by simp, rfl⟩⟩) (by simp; omega)
    rw [List.filter_eq_nil_iff.mpr (fun p hp => by simp [e0 p hp])] at hcc
    exact evE_comp_of (m := .sh) (ds := T.map spD) (by simp [itM]) rfl hcc
  have q1 : ∀ s9 s10, evE ct [s0, s1, .sh (regD S), s3, .sh (regD M2), .sh (regD M2), .sh (tD h), .sh (tD (negT h)), .sh (regD T), s9, s10] f_law_k14_C1 = some (.fr, regD (S.filter fun p => decide (over h (fl p) < 0))) := fun s9 s10 => by
    have hcc := compF_fm spD (fun p => decide (over h (fl p) < 0)) spD (a := asg (.one 9)) (c := fun g1 => evC ct g1 (.cons (.cmp .lt (.call 60 (.cons (.var 6) (.cons (.call 39 (.cons (.var 9) .nil)) .nil))) (.int 0)) .nil)) (e := fun g1 => evE ct g1 (.var 9))
      (g := [s0, s1, .sh (regD S), s3, .sh (regD M2), .sh (regD M2), .sh (tD h), .sh (tD (negT h)), .sh (regD T), .no, s10]) S [] (fun p hp => ⟨[s0, s1, .sh (regD S), s3, .sh (regD M2), .sh (regD M2), .sh (tD h), .sh (tD (negT h)), .sh (regD T), .sh (spD p), s10], by simp, by simp [hf p (sSS p hp), ho h (fl p) inferInstance (b13 p (sSS p hp))], fun _ => ⟨(.sh, spD p), by simp, rfl⟩⟩) (by simp; omega)
    exact evE_comp_of (m := .sh) (ds := S.map spD) (by simp [itM]) rfl hcc
  refine ⟨M2, c1.reg, c1.bnd, c1.len, c1.cv, .sh (tD (negT h)), .sh (regD T), s9, ?_⟩
  have slf : ∀ b (L : List P), slOf b (M.fr, regD L) = some (if b then Sl.ow (L.map spD) else Sl.sh (regD L)) := fun b L => by cases b <;> rfl
  have nT : D.tup [.int (0 - h.1), .int (0 - h.2.1), .int (0 - h.2.2)] = tD (negT h) := rfl
  refine stepS (g' := [s0, s1, .sh (regD S), s3, .sh (regD M2), .sh (regD L), .sh (tD h), s7, s8, s9, s10]) (by simp [c1.e, slf]) ?_
  refine stepS (g' := [s0, s1, .sh (regD S), s3, .sh (regD M2), .sh (regD M2), .sh (tD h), s7, s8, s9, s10]) (by simp [c1.e, c2.e, slf]) ?_
  refine stepS (g' := [s0, s1, .sh (regD S), s3, .sh (regD M2), .sh (regD M2), .sh (tD h), .sh (tD (negT h)), s8, s9, s10]) (by simp [tD, negT]) ?_
  refine stepS (g' := [s0, s1, .sh (regD S), s3, .sh (regD M2), .sh (regD M2), .sh (tD h), .sh (tD (negT h)), .sh (regD T), s9, s10]) (by simp [d1.e, d2.e, slf]) ?_
  refine stepS (g' := [s0, s1, .sh (regD S), s3, .sh (regD M2), .sh (regD M2), .sh (tD h), .sh (tD (negT h)), .sh (regD T), s9, s10]) ?_ ?_
  · have tl' : ¬ (2 : Int) < ((T.length : Nat) : Int) := by omega
    have tl2 : ¬ 2 < T.length := by omega
    simp [d3.e, d4.e, dB_true, r, tl']
    try omega
  refine stepS (g' := [s0, s1, .sh (regD S), s3, .sh (regD M2), .sh (regD M2), .sh (tD h), .sh (tD (negT h)), .sh (regD T), s9, s10]) ?_ ?_
  · rw [evS_ife, evE_cmp, q0]
    simp [← regD_nil, dB_true]
  refine stepS (g' := [s0, s1, .sh (regD S), s3, .sh (regD M2), .sh (regD M2), .sh (tD h), .sh (tD (negT h)), .sh (regD T), s9, s10]) ?_ (by simp)
  · rw [evS_ife, evE_ands, evAnd_cons, evAnd_one, evE_cmp, q1]
    by_cases z : S.filter (fun p => decide (over h (fl p) < 0)) = []
    · -- held whole
      have all : ∀ p ∈ S, 0 ≤ (hT h).ev p := fun p hp => by
        have := List.filter_eq_nil_iff.mp z p hp
        simp at this
        exact (over_nn (fl_of p)).mp this
      have eS : S1 = S := d1.reg.uniq sS fun p => by
        rw [d1.cv]
        exact ⟨fun k => k.1, fun k => ⟨k, k _ all⟩⟩
      have d1e := d1.e
      rw [eS] at d1e
      simp [← regD_nil, dB_true z, d1e, dB_true]
    · generalize S.filter (fun p => decide (over h (fl p) < 0)) = R at z ⊢
      simp [← regD_nil, dB_false z]
theorem ev_k14 {ct : Ct} {n : Nat} {ns : List Int} (hp : Points11S ns (ct 45)) (hm : MixS ns (ct 15)) (hh : HullS (ct 38)) (hhs : Halves13S ns (ct 59)) (hc : ClipS (ct 57)) (hr : IsRegS (ct 43)) (hf : SpreadS (ct 39)) (ho : OverS (ct 60)) : TrueL ns (runFn f_law_k14 ct n) := by
  obtain ⟨m, m1, m2, em⟩ := min12 ct [.sh (.scr ns), .no, .no, .no, .no, .no, .no, .no, .no, .no, .no] ns rfl
  obtain ⟨ps, p1, p2, ep⟩ := hp m (by omega)
  have p3 : ∀ q ∈ ps, BP 150 q := fun q hq => ⟨(p2 q hq).1.mono (by omega), (p2 q hq).2.mono (by omega)⟩
  obtain ⟨M, h1, h2, h3, eh⟩ := hh ps p3 (by omega)
  have hMl := hull_len h1 h3
  obtain ⟨v, hv, ev⟩ := hm 90 (by omega)
  have ev : ct 15 [.scr ns, .int 90] = some (.sh, .int v) := ev
  obtain ⟨k, hk, ek⟩ : ∃ k : Nat, k ≤ 6 ∧ 1 + v % 6 = (k : Int) := ⟨(1 + v % 6).toNat, by omega, by omega⟩
  obtain ⟨hs, k1, k2, ehs⟩ := hhs ps k p2 (by intro z; subst z; simp at p1; omega) (by omega) (by omega)
  have bS := bnd_ofI h1 (fun q hq => p2 q (h3 q hq))
  generalize hS : M.map ofI = S at *
  have lS : S.length ≤ 12 := by rw [← hS]; simp; omega
  -- forth
  obtain ⟨g', e, L, s6, s7, s8, s9, a1, a2, a3, a4, rfl⟩ := forF_pre tD (a := asg (.one 6)) (b := fun g => evSs ct n f_law_k14_B0 g) (fun done g => ∃ (L : List P) (s6 s7 s8 s9 : Sl), Reg L ∧ Bnd 300 L ∧ L.length ≤ 100 + done.length ∧ (∀ p, Cv L p ↔ Cv S p ∧ ∀ h ∈ done, 0 ≤ (hT h).ev p) ∧ g = [.sh (.scr ns), .sh (.lst (ps.map pD)), .sh (regD S), .sh (.lst (hs.map tD)), .sh (regD L), .sh (regD L), s6, s7, s8, s9, .no]) hs hs [] [.sh (.scr ns), .sh (.lst (ps.map pD)), .sh (regD S), .sh (.lst (hs.map tD)), .sh (regD S), .sh (regD S), .no, .no, .no, .no, .no] rfl
    ⟨S, .no, .no, .no, .no, h1, bS, by simp; omega, fun p => by simp, rfl⟩ (fun done h rest g hall ⟨L, s6, s7, s8, s9, a1, a2, a3, a4, hg⟩ => by
      subst hg
      have hd : done.length ≤ 6 := by
        have := congrArg List.length hall
        simp at this; omega
      obtain ⟨bh, nz⟩ := k2 h (by rw [hall]; simp)
      obtain ⟨M', c1, c2, c3, c4, t7, t8, t9, et⟩ := k14_turn (n := n) hc hr hf ho (.sh (.scr ns)) (.sh (.lst (ps.map pD))) L S (.sh (.lst (hs.map tD))) a1 a2 (by omega) h1 bS (by omega) h bh nz s7 s8 s9 .no
      refine ⟨[.sh (.scr ns), .sh (.lst (ps.map pD)), .sh (regD S), .sh (.lst (hs.map tD)), .sh (regD L), .sh (regD L), .sh (tD h), s7, s8, s9, .no], _, by simp, et, M', _, _, _, _, c1, c2, by simp; omega, fun p => ?_, rfl⟩
      rw [c4, a4]
      simp only [List.mem_append, List.mem_singleton]
      constructor
      · rintro ⟨⟨q1, q2⟩, q3⟩
        exact ⟨q1, fun x hx => hx.elim (q2 x) fun e => by rw [e]; exact q3⟩
      · rintro ⟨q1, q2⟩
        exact ⟨⟨q1, fun x hx => q2 x (.inl hx)⟩, q2 h (.inr rfl)⟩)
  -- back
  obtain ⟨g2, e2, L2, s6', b1, b2, b3, b4, rfl⟩ := forF_pre tD (a := asg (.one 6)) (b := fun g => evSs ct n f_law_k14_B1 g) (fun done g => ∃ (L2 : List P) (s6 : Sl), Reg L2 ∧ Bnd 300 L2 ∧ L2.length ≤ 100 + done.length ∧ (∀ p, Cv L2 p ↔ Cv S p ∧ ∀ h ∈ done, 0 ≤ (hT h).ev p) ∧ g = [.sh (.scr ns), .sh (.lst (ps.map pD)), .sh (regD S), .sh (.lst (hs.map tD)), .sh (regD L), .sh (regD L), s6, s7, s8, s9, .sh (regD L2)]) hs.reverse hs.reverse [] [.sh (.scr ns), .sh (.lst (ps.map pD)), .sh (regD S), .sh (.lst (hs.map tD)), .sh (regD L), .sh (regD L), s6, s7, s8, s9, .sh (regD S)] rfl
    ⟨S, s6, h1, bS, by simp; omega, fun p => by simp, rfl⟩ (fun done h rest g hall ⟨L2, s6, a1, a2, a3, a4, hg⟩ => by
      subst hg
      have hd : done.length ≤ 6 := by
        have := congrArg List.length hall
        simp at this; omega
      obtain ⟨bh, nz⟩ := k2 h (by have : h ∈ hs.reverse := by rw [hall]; simp
                                  exact List.mem_reverse.mp this)
      obtain ⟨M', c⟩ := clp hc a1 a2 (by omega) bh nz
      have slf : slOf false (Ev.M.fr, regD M') = some (.sh (regD M')) := rfl
      refine ⟨[.sh (.scr ns), .sh (.lst (ps.map pD)), .sh (regD S), .sh (.lst (hs.map tD)), .sh (regD L), .sh (regD L), .sh (tD h), s7, s8, s9, .sh (regD L2)], [.sh (.scr ns), .sh (.lst (ps.map pD)), .sh (regD S), .sh (.lst (hs.map tD)), .sh (regD L), .sh (regD L), .sh (tD h), s7, s8, s9, .sh (regD M')], by simp, by simp [f_law_k14_B1, c.e, slf], M', _, c.reg, c.bnd, by have := c.len; simp; omega, fun p => ?_, rfl⟩
      rw [c.cv, a4]
      simp only [List.mem_append, List.mem_singleton]
      constructor
      · rintro ⟨⟨q1, q2⟩, q3⟩
        exact ⟨q1, fun x hx => hx.elim (q2 x) fun e => by rw [e]; exact q3⟩
      · rintro ⟨q1, q2⟩
        exact ⟨⟨q1, fun x hx => q2 x (.inl hx)⟩, q2 h (.inr rfl)⟩)
  have eL : L = L2 := a1.uniq b1 fun p => by
    rw [a4, b4]
    simp only [List.mem_reverse]
  subst eL
  have r := hr L a1 (fun p hp => SpB_of_CB (a2.c p hp)) (by omega)
  refine runR rfl ?_
  refine stepS (g' := [.sh (.scr ns), .sh (.lst (ps.map pD)), .no, .no, .no, .no, .no, .no, .no, .no, .no]) ?_ ?_
  · show evS ct n _ [.sh (.scr ns), .no, .no, .no, .no, .no, .no, .no, .no, .no, .no] = _
    rw [evS_set, evE_call, evs_cons, evs_cons, em]
    simp [ep]
  have slf : ∀ L : List P, slOf false (Ev.M.fr, regD L) = some (.sh (regD L)) := fun L => rfl
  refine stepS (g' := [.sh (.scr ns), .sh (.lst (ps.map pD)), .sh (regD S), .no, .no, .no, .no, .no, .no, .no, .no]) (by simp [eh, slf]) ?_
  refine stepS (g' := [.sh (.scr ns), .sh (.lst (ps.map pD)), .sh (regD S), .sh (.lst (hs.map tD)), .no, .no, .no, .no, .no, .no, .no]) (by simp [ev, fmod_of, ek, ehs]) ?_
  refine stepS (g' := [.sh (.scr ns), .sh (.lst (ps.map pD)), .sh (regD S), .sh (.lst (hs.map tD)), .sh (regD S), .no, .no, .no, .no, .no, .no]) (by simp) ?_
  refine stepS (g' := [.sh (.scr ns), .sh (.lst (ps.map pD)), .sh (regD S), .sh (.lst (hs.map tD)), .sh (regD S), .sh (regD S), .no, .no, .no, .no, .no]) (by simp) ?_
  refine stepS (g' := [.sh (.scr ns), .sh (.lst (ps.map pD)), .sh (regD S), .sh (.lst (hs.map tD)), .sh (regD L), .sh (regD L), s6, s7, s8, s9, .no]) ?_ ?_
  · rw [f_law_k14_L0, evS_fr]
    simp only [evI_ex, evE_var, List.getElem?_cons_succ, List.getElem?_cons_zero, slV_sh, Option.bind_some, asLT_lst, itM]
    rw [if_neg (fun z => by cases z)]
    exact e
  refine stepS (g' := [.sh (.scr ns), .sh (.lst (ps.map pD)), .sh (regD S), .sh (.lst (hs.map tD)), .sh (regD L), .sh (regD L), s6, s7, s8, s9, .sh (regD S)]) (by simp) ?_
  refine stepS (g' := [.sh (.scr ns), .sh (.lst (ps.map pD)), .sh (regD S), .sh (.lst (hs.map tD)), .sh (regD L), .sh (regD L), s6', s7, s8, s9, .sh (regD L)]) ?_ ?_
  · rw [f_law_k14_L1, evS_fr]
    simp only [evI_rev, evE_var, List.getElem?_cons_succ, List.getElem?_cons_zero, slV_sh, Option.bind_some, asL_lst, itM]
    rw [if_neg (fun z => by cases z), ← List.map_reverse]
    exact e2
  · simp [dB_true, r]
end Ev
namespace Ev
open PySem L2
open Gm (P lex cr Cvx Reg Cv sides apart Tidy Hf hI Bnd CB SB Good)
/-! ### k15 -/
/-- a region of points with whole numbers -/
theorem bnd_ofI' {M : List Pt} (h : Reg (M.map ofI)) (hb : ∀ q ∈ M, BP 140 q) : Bnd 300 (M.map ofI) := by
  have s1 : B 300 1 := (show B 1 1 by unfold B; decide).mono (by omega)
  have s0 : B 300 0 := (show B 1 0 by unfold B; decide).mono (by omega)
  have ver : ∀ q, BP 140 q → Gm.onL 1 0 q.1 (ofI q) ∧ Gm.onL 0 1 q.2 (ofI q) := fun q hq => by
    unfold Gm.onL ofI
    refine ⟨?_, ?_⟩
    · show ((1 : Int) : Rat) * ((q.1 : Int) : Rat) + ((0 : Int) : Rat) * ((q.2 : Int) : Rat) = ((q.1 : Int) : Rat); grind
    · show ((0 : Int) : Rat) * ((q.1 : Int) : Rat) + ((1 : Int) : Rat) * ((q.2 : Int) : Rat) = ((q.2 : Int) : Rat); grind
  refine ⟨fun p hp => ?_, fun p q hs => ?_⟩
  · obtain ⟨z, hz, rfl⟩ := List.mem_map.mp hp
    have bz := hb z hz
    exact ⟨1, 0, z.1, 0, 1, z.2, ⟨s1, s0, bz.1.mono (by omega)⟩, ⟨s0, s1, bz.2.mono (by omega)⟩, by decide, (ver z bz).1, (ver z bz).2⟩
  · obtain ⟨mp, mq⟩ := Gm.sides_mem hs
    obtain ⟨u, hu, rfl⟩ := List.mem_map.mp mp
    obtain ⟨w, hw, rfl⟩ := List.mem_map.mp mq
    have bu := hb u hu
    have bw := hb w hw
    by_cases e : u = w
    · subst e
      exact ⟨1, 0, u.1, ⟨s1, s0, bu.1.mono (by omega)⟩, .inl (by decide), (ver u bu).1, (ver u bu).1⟩
    · have b1 : B 142 (u.2 - w.2) := bu.2.sub bw.2 (by omega) (by omega)
      have b2 : B 142 (w.1 - u.1) := bw.1.sub bu.1 (by omega) (by omega)
      refine ⟨u.2 - w.2, w.1 - u.1, (u.2 - w.2) * u.1 + (w.1 - u.1) * u.2, ⟨b1.mono (by omega), b2.mono (by omega), ((b1.mul bu.1).add (b2.mul bu.2) (m := 300) (by omega) (by omega))⟩, ?_, ?_, ?_⟩
      · apply Classical.byContradiction
        intro k
        apply e
        have k1 : u.2 - w.2 = 0 := by apply Classical.byContradiction; intro w; exact k (.inl w)
        have k2 : w.1 - u.1 = 0 := by apply Classical.byContradiction; intro w; exact k (.inr w)
        exact Prod.ext (by omega) (by omega)
      · unfold Gm.onL ofI
        simp only [Rat.intCast_add, Rat.intCast_mul]
      · unfold Gm.onL ofI
        simp only [Rat.intCast_add, Rat.intCast_mul, Rat.intCast_sub]
        grind

def HalfPS (F : List D → Rs) : Prop := ∀ a b c : Int, B 300 a → B 300 b → B 300 c → ¬ (a = 0 ∧ b = 0) → ∃ (h : Tr) (g : Int), 0 < g ∧ a = g * h.1 ∧ b = g * h.2.1 ∧ c = g * h.2.2 ∧ Int.gcd (Int.gcd h.1 h.2.1 : Nat) h.2.2 = 1 ∧ BT 300 h ∧ nzT h ∧ F [.int a, .int b, .int c] = some (.sh, tD h)
theorem ev_halfP {ct : Ct} {n : Nat} (hg : GcdS (ct 0)) : HalfPS (runFn f_half ct n) := fun a b c ha hb hc h0 => by
  obtain ⟨g, x, y, z, G, e⟩ := ev_half ct n a b c 300 (fun x y hy => hg x y (hy.mono (by omega))) ha hb hc (by omega) h0
  refine ⟨(x, y, z), g, G.pos, G.fa, G.fb, G.fc, G.one, ⟨G.bx, G.by_, G.bz⟩, ?_, e⟩
  apply Classical.byContradiction
  intro k
  have k1 : x = 0 := by apply Classical.byContradiction; intro w; exact k (.inl w)
  have k2 : y = 0 := by apply Classical.byContradiction; intro w; exact k (.inr w)
  exact h0 ⟨by rw [G.fa, k1, Int.mul_zero], by rw [G.fb, k2, Int.mul_zero]⟩
theorem half_ev {a b c g : Int} {h : Tr} (ea : a = g * h.1) (eb : b = g * h.2.1) (ec : c = g * h.2.2) (p : P) : (hI a b c).ev p = ((g : Int) : Rat) * (hT h).ev p := by
  unfold hT hI Hf.ev
  subst ea eb ec
  simp only [Rat.intCast_mul]
  grind
theorem scale_nn {g : Int} (hg : 0 < g) {x : Rat} : 0 ≤ ((g : Int) : Rat) * x ↔ 0 ≤ x := ⟨fun h => Gm.mul_nn_l (castpos hg) h, fun h => Gm.mul_nn (Rat.le_of_lt (castpos hg)) h⟩
def BetwS (F : List D → Rs) : Prop := ∀ p q : Pt, p ≠ q → BP 140 p → BP 140 q → ∃ (h : Tr) (g : Int), 0 < g ∧ (∀ r, cr (ofI p) (ofI q) r = ((g : Int) : Rat) * (hT h).ev r) ∧ Int.gcd (Int.gcd h.1 h.2.1 : Nat) h.2.2 = 1 ∧ BT 300 h ∧ nzT h ∧ F [pD p, pD q] = some (.sh, tD h)
theorem ev_betw {ct : Ct} {n : Nat} (hh : HalfPS (ct 13)) : BetwS (runFn f_between ct n) := fun p q ne bp bq => by
  have b1 : B 142 (q.1 - p.1) := bq.1.sub bp.1 (by omega) (by omega)
  have b2 : B 142 (q.2 - p.2) := bq.2.sub bp.2 (by omega) (by omega)
  have b0 : B 142 (0 - (q.2 - p.2)) := by rw [Int.zero_sub]; exact b2.neg
  have o1 := B.ok b1 bp.2 (by omega)
  have o2 := B.ok b2 bp.1 (by omega)
  have n0 : ¬ (0 - (q.2 - p.2) = 0 ∧ q.1 - p.1 = 0) := fun ⟨h1, h2⟩ => ne (Prod.ext (by omega) (by omega))
  obtain ⟨h, g, hg, ea, eb, ec, one, bh, nz, e⟩ := hh _ _ _ (b0.mono (by omega)) (b1.mono (by omega)) ((b1.mul bp.2).sub (b2.mul bp.1) (m := 300) (by omega) (by omega)) n0
  refine ⟨h, g, hg, fun r => ?_, one, bh, nz, runR rfl ?_⟩
  · rw [← half_ev ea eb ec r]
    unfold cr hI Hf.ev ofI
    simp only [Rat.intCast_sub, Rat.intCast_mul]
    grind
  · simp [f_between, startE, pD, o1, o2] at e ⊢
    simp [e, tD]
theorem lmin_spec : ∀ {ns : List Int}, ns ≠ [] → ∃ m, lminI ns = some m ∧ m ∈ ns ∧ ∀ x ∈ ns, m ≤ x := fun {ns} h => by
  cases ns with
  | nil => exact absurd rfl h
  | cons a l =>
    have key : ∀ (l : List Int) (a : Int), (l.foldl min a = a ∨ l.foldl min a ∈ l) ∧ l.foldl min a ≤ a ∧ ∀ x ∈ l, l.foldl min a ≤ x := fun l => by
      induction l with
      | nil => intro a; exact ⟨.inl rfl, Int.le_refl _, fun x hx => by cases hx⟩
      | cons b l ih =>
        intro a
        obtain ⟨h1, h2, h3⟩ := ih (min a b)
        rw [List.foldl_cons]
        refine ⟨?_, by omega, fun x hx => ?_⟩
        · rcases h1 with e | e
          · rw [e]
            rcases Int.le_total a b with k | k
            · exact .inl (by omega)
            · exact .inr (by rw [Int.min_eq_right k]; simp)
          · exact .inr (by simp [e])
        · rcases List.mem_cons.mp hx with rfl | hx
          · omega
          · exact h3 x hx
    obtain ⟨h1, h2, h3⟩ := key l a
    refine ⟨_, rfl, ?_, fun x hx => ?_⟩
    · rcases h1 with e | e
      · rw [e]; simp
      · simp [e]
    · rcases List.mem_cons.mp hx with rfl | hx
      · exact h2
      · exact h3 x hx
theorem lmax_spec : ∀ {ns : List Int}, ns ≠ [] → ∃ m, lmaxI ns = some m ∧ m ∈ ns ∧ ∀ x ∈ ns, x ≤ m := fun {ns} h => by
  cases ns with
  | nil => exact absurd rfl h
  | cons a l =>
    have key : ∀ (l : List Int) (a : Int), (l.foldl max a = a ∨ l.foldl max a ∈ l) ∧ a ≤ l.foldl max a ∧ ∀ x ∈ l, x ≤ l.foldl max a := fun l => by
      induction l with
      | nil => intro a; exact ⟨.inl rfl, Int.le_refl _, fun x hx => by cases hx⟩
      | cons b l ih =>
        intro a
        obtain ⟨h1, h2, h3⟩ := ih (max a b)
        rw [List.foldl_cons]
        refine ⟨?_, by omega, fun x hx => ?_⟩
        · rcases h1 with e | e
          · rw [e]
            rcases Int.le_total a b with k | k
            · exact .inr (by rw [Int.max_eq_right k]; simp)
            · exact .inl (by omega)
          · exact .inr (by simp [e])
        · rcases List.mem_cons.mp hx with rfl | hx
          · omega
          · exact h3 x hx
    obtain ⟨h1, h2, h3⟩ := key l a
    refine ⟨_, rfl, ?_, fun x hx => ?_⟩
    · rcases h1 with e | e
      · rw [e]; simp
      · simp [e]
    · rcases List.mem_cons.mp hx with rfl | hx
      · exact h2
      · exact h3 x hx
theorem b1_min {ns : List Int} {m : Int} (h : lminI ns = some m) : b1D .min (.lst (ns.map D.int)) = some (.sh, .int m) := by
  show (do let ds ← asL (.lst (ns.map D.int)); let ns ← asInts ds; let m ← lminI ns; pure (M.sh, D.int m)) = _
  simp [asInts_map, h]
theorem b1_max {ns : List Int} {m : Int} (h : lmaxI ns = some m) : b1D .max (.lst (ns.map D.int)) = some (.sh, .int m) := by
  show (do let ds ← asL (.lst (ns.map D.int)); let ns ← asInts ds; let m ← lmaxI ns; pure (M.sh, D.int m)) = _
  simp [asInts_map, h]
/-- what lies in a square of four corners -/
theorem square_cv {lo hi : Int} (h : lo < hi) {p : P} (h1 : ((lo : Int) : Rat) ≤ p.x) (h2 : p.x ≤ ((hi : Int) : Rat)) (h3 : ((lo : Int) : Rat) ≤ p.y) (h4 : p.y ≤ ((hi : Int) : Rat)) : Cv ([(lo, lo), (hi, lo), (lo, hi), (hi, hi)].map ofI) p := fun f hf => by
  have f1 := hf (ofI (lo, lo)) (by simp)
  have f2 := hf (ofI (hi, lo)) (by simp)
  have f3 := hf (ofI (lo, hi)) (by simp)
  have f4 := hf (ofI (hi, hi)) (by simp)
  have w : (0 : Rat) < ((hi : Int) : Rat) - ((lo : Int) : Rat) := by have := Rat.intCast_lt_intCast.mpr h; grind
  unfold ofI Hf.ev at *
  simp only at *
  generalize ((lo : Int) : Rat) = l at *
  generalize ((hi : Int) : Rat) = u at *
  -- along x, below and above
  have m1 := Gm.mul_nn f1 (show 0 ≤ u - p.x by grind)
  have m2 := Gm.mul_nn f2 (show 0 ≤ p.x - l by grind)
  have m3 := Gm.mul_nn f3 (show 0 ≤ u - p.x by grind)
  have m4 := Gm.mul_nn f4 (show 0 ≤ p.x - l by grind)
  have g1 : 0 ≤ f.a * p.x + f.b * l - f.c := Gm.nn_of_mul w (by grind)
  have g2 : 0 ≤ f.a * p.x + f.b * u - f.c := Gm.nn_of_mul w (by grind)
  have m5 := Gm.mul_nn g1 (show 0 ≤ u - p.y by grind)
  have m6 := Gm.mul_nn g2 (show 0 ≤ p.y - l by grind)
  exact Gm.nn_of_mul w (by grind)
/-- the four upright and level halves and the sides make the hull -/
theorem hull_by_halves {M ps : List Pt} (hR : Reg (M.map ofI)) (h2 : ∀ p, Cv (M.map ofI) p ↔ Cv (ps.map ofI) p) (h3 : ∀ q ∈ M, q ∈ ps) (ne : M ≠ []) {x0 x1 y0 y1 : Int} (hx0 : x0 ∈ ps.map (·.1)) (hx1 : x1 ∈ ps.map (·.1)) (hy0 : y0 ∈ ps.map (·.2)) (hy1 : y1 ∈ ps.map (·.2)) {p : P}
    (p1 : ((x0 : Int) : Rat) ≤ p.x) (p2 : p.x ≤ ((x1 : Int) : Rat)) (p3 : ((y0 : Int) : Rat) ≤ p.y) (p4 : p.y ≤ ((y1 : Int) : Rat)) (hs : 1 < M.length → Gm.InS (M.map ofI) p) : Cv (M.map ofI) p := by
  -- the bounds hold of the corners
  have bx : ∀ f : Hf, (∀ q ∈ M, 0 ≤ f.ev (ofI q)) → ∀ q ∈ ps, 0 ≤ f.ev (ofI q) := fun f hf q hq => (h2 (ofI q)).mpr (Cv.mem (List.mem_map.mpr ⟨q, hq, rfl⟩)) f (fun z hz => by
    obtain ⟨w, hw, rfl⟩ := List.mem_map.mp hz
    exact hf w hw)
  obtain ⟨q0, hq0, e0⟩ := List.mem_map.mp hx0
  obtain ⟨q1, hq1, e1⟩ := List.mem_map.mp hx1
  obtain ⟨q2, hq2, e2⟩ := List.mem_map.mp hy0
  obtain ⟨q3, hq3, e3⟩ := List.mem_map.mp hy1
  by_cases l3 : 3 ≤ M.length
  · exact (Cv_many hR (by simpa using l3) p).mpr (hs (by omega))
  match M, ne, hR, hs, bx, l3 with
  | [a], _, hR, hs, bx, _ =>
    have ex : p.x = (ofI a).x := by
      have k1 := bx ⟨1, 0, (ofI a).x⟩ (by simp [Hf.ev]; grind) q0 hq0
      have k2 := bx ⟨-1, 0, -(ofI a).x⟩ (by simp [Hf.ev]; grind) q1 hq1
      unfold Hf.ev ofI at *
      simp only at *
      rw [e0] at k1; rw [e1] at k2
      grind
    have ey : p.y = (ofI a).y := by
      have k1 := bx ⟨0, 1, (ofI a).y⟩ (by simp [Hf.ev]; grind) q2 hq2
      have k2 := bx ⟨0, -1, -(ofI a).y⟩ (by simp [Hf.ev]; grind) q3 hq3
      unfold Hf.ev ofI at *
      simp only at *
      rw [e2] at k1; rw [e3] at k2
      grind
    have : p = ofI a := Gm.P.ext' ex ey
    rw [this]; exact Cv.mem (by simp)
  | [a, b], _, hR, hs, bx, _ =>
    have hab : lex (ofI a) (ofI b) := hR.1 (ofI b) (by simp)
    have hin := hs (by simp)
    have c1 := hin (ofI b) (ofI a) (by simp [Gm.sides_two])
    have c2 := hin (ofI a) (ofI b) (by simp [Gm.sides_two])
    rw [Gm.cr_swap] at c1
    have c0 : cr (ofI a) (ofI b) p = 0 := by grind
    refine (Cv_two hab).mpr ⟨c0, ?_⟩
    have lx : (ofI a).x ≤ (ofI b).x := by rcases hab with h | ⟨h, _⟩ <;> grind
    have k1 := bx ⟨1, 0, (ofI a).x⟩ (fun q hq => by simp at hq; unfold Hf.ev; rcases hq with rfl | rfl <;> grind) q0 hq0
    have k2 := bx ⟨-1, 0, -(ofI b).x⟩ (fun q hq => by simp at hq; unfold Hf.ev; rcases hq with rfl | rfl <;> grind) q1 hq1
    have k3 : (ofI a).y ≤ (ofI b).y → (ofI a).y ≤ p.y ∧ p.y ≤ (ofI b).y := fun ly => by
      have k1 := bx ⟨0, 1, (ofI a).y⟩ (fun q hq => by simp at hq; unfold Hf.ev; rcases hq with rfl | rfl <;> grind) q2 hq2
      have k2 := bx ⟨0, -1, -(ofI b).y⟩ (fun q hq => by simp at hq; unfold Hf.ev; rcases hq with rfl | rfl <;> grind) q3 hq3
      unfold Hf.ev at k1 k2
      have e2' : (ofI q2).y = ((y0 : Int) : Rat) := by rw [← e2]; rfl
      have e3' : (ofI q3).y = ((y1 : Int) : Rat) := by rw [← e3]; rfl
      rw [e2'] at k1; rw [e3'] at k2
      grind
    have e0' : (ofI q0).x = ((x0 : Int) : Rat) := by rw [← e0]; rfl
    have e1' : (ofI q1).x = ((x1 : Int) : Rat) := by rw [← e1]; rfl
    unfold Hf.ev at k1 k2
    rw [e0'] at k1
    rw [e1'] at k2
    have ax : (ofI a).x ≤ p.x := by grind
    have bx' : p.x ≤ (ofI b).x := by grind
    unfold lex
    unfold cr at c0
    rcases hab with h | ⟨hx, hy⟩
    · have key : ∀ d : Rat, d * ((ofI b).x - (ofI a).x) = 0 → d = 0 := fun d hd => Gm.mul_cancel_r (d := (ofI b).x - (ofI a).x) (by grind) (by rw [hd]; grind)
      refine ⟨fun k => ?_, fun k => ?_⟩
      · rcases k with k | ⟨k, k'⟩
        · grind
        · have := key (p.y - (ofI a).y) (by rw [k] at c0; grind)
          grind
      · rcases k with k | ⟨k, k'⟩
        · grind
        · have := key (p.y - (ofI b).y) (by rw [← k] at c0; grind)
          grind
    · obtain ⟨k4, k5⟩ := k3 (by grind)
      refine ⟨fun k => ?_, fun k => ?_⟩
      · rcases k with k | ⟨k, k'⟩ <;> grind
      · rcases k with k | ⟨k, k'⟩ <;> grind
  | _ :: _ :: _ :: _, _, _, _, _, l3 => simp at l3
end Ev
namespace Ev
open PySem L2
open Gm (P lex cr Cvx Reg Cv sides apart Tidy Hf hI Bnd CB SB Good)
theorem cv_ge {ps : List Pt} {p : P} (h : Cv (ps.map ofI) p) (f : Hf) (hf : ∀ q ∈ ps, 0 ≤ f.ev (ofI q)) : 0 ≤ f.ev p := h f fun z hz => by
  obtain ⟨q, hq, rfl⟩ := List.mem_map.mp hz
  exact hf q hq
theorem min30 (ct : Ct) (g : Env') (ns : List Int) (h : g[0]? = some (.sh (.scr ns))) : ∃ m : Nat, 1 ≤ m ∧ m ≤ 30 ∧ evE ct g (.b2 .max (.int 1) (.b2 .min (.int 30) (.b1 .len (.var 0)))) = some (.sh, .int (m : Nat)) := min63 ct g ns 0 30 (by decide) h
theorem slf (L : List P) : slOf false (M.fr, regD L) = some (.sh (regD L)) := rfl
/-- clipped by halves one behind the other -/
theorem clip_loop {ct : Ct} (hc : ClipS (ct 57)) : ∀ (hs : List Tr) (L : List P), Reg L → Bnd 300 L → L.length + hs.length ≤ 1000 → (∀ h ∈ hs, BT 300 h ∧ nzT h) →
    ∃ M, Reg M ∧ Bnd 300 M ∧ M.length ≤ L.length + hs.length ∧ (∀ p, Cv M p ↔ Cv L p ∧ ∀ h ∈ hs, 0 ≤ (hT h).ev p) ∧
      ∀ (a : D → Env' → Option Env') (b : Env' → Option Out) (E : D → Sl → Env'), (∀ d x y, a d (E x y) = some (E x (.sh d))) → (∀ L h M, ct 57 [regD L, tD h] = some (.fr, regD M) → b (E (regD L) (.sh (tD h))) = some (.nx (E (regD M) (.sh (tD h))))) → ∀ y, ∃ y', forF a b (hs.map tD) (E (regD L) y) = some (.nx (E (regD M) y'))
  | [], L, hL, hB, _, _ => ⟨L, hL, hB, by simp, fun p => by simp, fun a b E _ _ y => ⟨y, rfl⟩⟩
  | h :: hs, L, hL, hB, hl, hh => by
    simp at hl
    obtain ⟨bh, nz⟩ := hh h (by simp)
    obtain ⟨M1, c⟩ := clp hc hL hB (by omega) bh nz
    obtain ⟨M, m1, m2, m3, m4, m5⟩ := clip_loop hc hs M1 c.reg c.bnd (by have := c.len; omega) fun x hx => hh x (by simp [hx])
    refine ⟨M, m1, m2, by have := c.len; simp; omega, fun p => ?_, fun a b E h1 h2 y => ?_⟩
    · rw [m4, c.cv]
      simp only [List.mem_cons]
      constructor
      · rintro ⟨⟨q1, q2⟩, q3⟩
        exact ⟨q1, fun x hx => hx.elim (fun e => by rw [e]; exact q2) (q3 x)⟩
      · rintro ⟨q1, q2⟩
        exact ⟨⟨q1, q2 h (.inl rfl)⟩, fun x hx => q2 x (.inr hx)⟩
    · obtain ⟨y', e⟩ := m5 a b E h1 h2 (.sh (tD h))
      refine ⟨y', ?_⟩
      rw [List.map_cons, forF_nx (h1 (tD h) (regD L) y) (h2 L h M1 c.e)]
      exact e
theorem ev_k15 {ct : Ct} {n : Nat} {ns : List Int} (hp : Points11S ns (ct 45)) (hm : MixS ns (ct 15)) (hh : HullS (ct 38)) (hc : ClipS (ct 57)) (hf : HalfPS (ct 13)) (hb : BetwS (ct 21)) : TrueL ns (runFn f_law_k15 ct n) := by
  obtain ⟨m, m1, m2, em⟩ := min30 ct [.sh (.scr ns), .no, .no, .no, .no, .no, .no, .no, .no, .no, .no, .no, .no, .no] ns rfl
  obtain ⟨ps, p1, p2, ep⟩ := hp m (by omega)
  have hne : ps ≠ [] := by intro z; subst z; simp at p1; omega
  have p3 : ∀ q ∈ ps, BP 150 q := fun q hq => ⟨(p2 q hq).1.mono (by omega), (p2 q hq).2.mono (by omega)⟩
  obtain ⟨M, h1, h2, h3, eh⟩ := hh ps p3 (by omega)
  have hMl := hull_len h1 h3
  have hMne : M ≠ [] := by
    intro z
    subst z
    cases ps with
    | nil => exact hne rfl
    | cons a l => exact Gm.Cv_nil (ofI a) ((h2 (ofI a)).mpr (Cv.mem (by simp)))
  obtain ⟨v, hv, ev⟩ := hm 130 (by omega)
  have ev : ct 15 [.scr ns, .int 130] = some (.sh, .int v) := ev
  -- the bounds
  have nx : ps.map (·.1) ≠ [] := by simpa using hne
  have ny : ps.map (·.2) ≠ [] := by simpa using hne
  obtain ⟨x0, ex0, mx0, lx0⟩ := lmin_spec nx
  obtain ⟨x1, ex1, mx1, lx1⟩ := lmax_spec nx
  obtain ⟨y0, ey0, my0, ly0⟩ := lmin_spec ny
  obtain ⟨y1, ey1, my1, ly1⟩ := lmax_spec ny
  obtain ⟨lo, elo, mlo, llo⟩ := lmin_spec (ns := ps.map (·.1) ++ ps.map (·.2)) (by simp [hne])
  obtain ⟨hi, ehi, mhi, lhi⟩ := lmax_spec (ns := ps.map (·.1) ++ ps.map (·.2)) (by simp [hne])
  have bI : ∀ i, i ∈ ps.map (·.1) ++ ps.map (·.2) → B 102 i := fun i hi => by
    rcases List.mem_append.mp hi with h | h
    · obtain ⟨q, hq, rfl⟩ := List.mem_map.mp h; exact (p2 q hq).1
    · obtain ⟨q, hq, rfl⟩ := List.mem_map.mp h; exact (p2 q hq).2
  have blo := bI lo mlo
  have bhi := bI hi mhi
  have bx0 := bI x0 (List.mem_append_left _ mx0)
  have bx1 := bI x1 (List.mem_append_left _ mx1)
  have by0 := bI y0 (List.mem_append_right _ my0)
  have by1 := bI y1 (List.mem_append_right _ my1)
  obtain ⟨w, hw⟩ : ∃ w, 1 + v % 9 = w := ⟨_, rfl⟩
  have bw : B 5 w := by unfold B; rw [show (2 : Nat) ^ 5 = 32 by decide]; omega
  have bl : B 110 (lo - w) := blo.sub bw (by omega) (by omega)
  have bh' : B 110 (hi + w) := bhi.add bw (by omega) (by omega)
  have lt : lo - w < hi + w := by
    have := lhi lo mlo
    omega
  have sqb : ∀ q ∈ [(lo - w, lo - w), (hi + w, lo - w), (lo - w, hi + w), (hi + w, hi + w)], BP 140 q := fun q hq => by
    simp only [List.mem_cons, List.not_mem_nil, or_false] at hq
    rcases hq with rfl | rfl | rfl | rfl <;> exact ⟨B.mono (by assumption) (by omega), B.mono (by assumption) (by omega)⟩
  obtain ⟨S, s1, s2, s3, es⟩ := hh [(lo - w, lo - w), (hi + w, lo - w), (lo - w, hi + w), (hi + w, hi + w)] (fun q hq => ⟨(sqb q hq).1.mono (by omega), (sqb q hq).2.mono (by omega)⟩) (by simp)
  have hSl := hull_len s1 s3
  have bS := bnd_ofI' s1 (fun q hq => sqb q (s3 q hq))
  -- the four halves
  have bc1 : B 300 1 := (show B 1 1 by unfold B; decide).mono (by omega)
  have bc0 : B 300 0 := (show B 1 0 by unfold B; decide).mono (by omega)
  have bcm : B 300 (-1) := bc1.neg
  obtain ⟨a1, g1, gp1, f11, f12, f13, _, b1, z1, e1⟩ := hf 1 0 x0 bc1 bc0 (bx0.mono (by omega)) (by decide)
  obtain ⟨a2, g2, gp2, f21, f22, f23, _, b2, z2, e2⟩ := hf (-1) 0 (0 - x1) bcm bc0 (by rw [Int.zero_sub]; exact (bx1.neg).mono (by omega)) (by decide)
  obtain ⟨a3, g3, gp3, f31, f32, f33, _, b3, z3, e3⟩ := hf 0 1 y0 bc0 bc1 (by0.mono (by omega)) (by decide)
  obtain ⟨a4, g4, gp4, f41, f42, f43, _, b4, z4, e4⟩ := hf 0 (-1) (0 - y1) bc0 bcm (by rw [Int.zero_sub]; exact (by1.neg).mono (by omega)) (by decide)
  have v1 : ∀ p, 0 ≤ (hT a1).ev p ↔ ((x0 : Int) : Rat) ≤ p.x := fun p => by
    rw [← scale_nn gp1, ← half_ev f11 f12 f13 p]; unfold hI Hf.ev; simp; grind
  have v2 : ∀ p, 0 ≤ (hT a2).ev p ↔ p.x ≤ ((x1 : Int) : Rat) := fun p => by
    rw [← scale_nn gp2, ← half_ev f21 f22 f23 p]; unfold hI Hf.ev; simp; grind
  have v3 : ∀ p, 0 ≤ (hT a3).ev p ↔ ((y0 : Int) : Rat) ≤ p.y := fun p => by
    rw [← scale_nn gp3, ← half_ev f31 f32 f33 p]; unfold hI Hf.ev; simp; grind
  have v4 : ∀ p, 0 ≤ (hT a4).ev p ↔ p.y ≤ ((y1 : Int) : Rat) := fun p => by
    rw [← scale_nn gp4, ← half_ev f41 f42 f43 p]; unfold hI Hf.ev; simp; grind
  obtain ⟨L, l1, l2, l3, l4, l5⟩ := clip_loop hc [a1, a2, a3, a4] (S.map ofI) s1 bS (by simp at hSl ⊢; omega) (fun h hh => by
    simp only [List.mem_cons, List.not_mem_nil, or_false] at hh
    rcases hh with rfl | rfl | rfl | rfl
    · exact ⟨b1, z1⟩
    · exact ⟨b2, z2⟩
    · exact ⟨b3, z3⟩
    · exact ⟨b4, z4⟩)
  have l3 : L.length ≤ 10 := by simp at l3 hSl; omega
  -- slots
  obtain ⟨y', el⟩ := l5 (asg (.one 11)) (fun g => evSs ct n f_law_k15_B0 g) (fun x y => [.sh (.scr ns), .sh (.lst (ps.map pD)), .sh (regD (M.map ofI)), .sh (.lst ((ps.map (·.1)).map D.int)), .no, .no, .sh (.lst ((ps.map (·.2)).map D.int)), .sh (.int w), .sh (.int (lo - w)), .sh (.int (hi + w)), .sh x, y, .no, .no]) (fun d x y => by simp) (fun L h M e => by simp [f_law_k15_B0, e, slf]) .no
  -- the sides
  have bM : ∀ q ∈ M, BP 140 q := fun q hq => ⟨(p2 q (h3 q hq)).1.mono (by omega), (p2 q (h3 q hq)).2.mono (by omega)⟩
  have hlM : (M.map ofI).length = M.length := by simp
  obtain ⟨g', e5, L', s13, q1, q2, q3, q4, rfl⟩ := forF_pre (fun (e : Nat × P × P) => D.int (e.1 : Nat)) (a := asg (.one 13)) (b := fun g => evSs ct n f_law_k15_B1 g) (fun done g => ∃ (L' : List P) (s13 : Sl), Reg L' ∧ Bnd 300 L' ∧ L'.length ≤ 10 + done.length ∧ (∀ p, Cv L' p ↔ Cv L p ∧ (1 < M.length → ∀ e ∈ done, 0 ≤ cr e.2.1 e.2.2 p)) ∧
      g = [.sh (.scr ns), .sh (.lst (ps.map pD)), .sh (regD (M.map ofI)), .sh (.lst ((ps.map (·.1)).map D.int)), .no, .no, .sh (.lst ((ps.map (·.2)).map D.int)), .sh (.int w), .sh (.int (lo - w)), .sh (.int (hi + w)), .sh (regD L'), y', .sh (.lst (M.map pD)), s13]) (ixs (M.map ofI)) (ixs (M.map ofI)) []
    [.sh (.scr ns), .sh (.lst (ps.map pD)), .sh (regD (M.map ofI)), .sh (.lst ((ps.map (·.1)).map D.int)), .no, .no, .sh (.lst ((ps.map (·.2)).map D.int)), .sh (.int w), .sh (.int (lo - w)), .sh (.int (hi + w)), .sh (regD L), y', .sh (.lst (M.map pD)), .no] rfl
    ⟨L, .no, l1, l2, by simp; omega, fun p => by simp, rfl⟩ (fun done e rest g hall ⟨L', s13, q1, q2, q3, q4, hg⟩ => by
      subst hg
      have hd : done.length ≤ 64 := by
        have := congrArg List.length hall
        rw [ixs_len] at this
        simp at this; omega
      have he : e ∈ ixs (M.map ofI) := by rw [hall]; simp
      obtain ⟨i1, i2, i3, i4⟩ := ixs_get he
      rw [hlM] at i1 i3
      rw [List.getElem?_map] at i2 i3
      by_cases c : 1 < M.length
      · obtain ⟨b, eb, eb2⟩ := Option.map_eq_some_iff.mp i2
        obtain ⟨a, ea, ea2⟩ := Option.map_eq_some_iff.mp i3
        have at1 : atI (M.map pD) (e.1 : Int) = some (pD b) := atI_get eb
        have at2 : atI (M.map pD) ((e.1 : Int) - 1) = some (pD a) := atI_prev i1 ea
        have nab : a ≠ b := by
          intro z
          have := Gm.side_ne (L := M.map ofI) h1.nodup (by simp; omega) i4
          exact this (by rw [← eb2, ← ea2, z])
        obtain ⟨hh, g, hg, hev, _, bhh, nzh, eh2⟩ := hb a b nab (bM a (List.mem_of_getElem? ea)) (bM b (List.mem_of_getElem? eb))
        obtain ⟨L2, k⟩ := clp hc q1 q2 (by omega) bhh nzh
        have c' : (1 : Int) < ((M.length : Nat) : Int) := by omega
        refine ⟨[.sh (.scr ns), .sh (.lst (ps.map pD)), .sh (regD (M.map ofI)), .sh (.lst ((ps.map (·.1)).map D.int)), .no, .no, .sh (.lst ((ps.map (·.2)).map D.int)), .sh (.int w), .sh (.int (lo - w)), .sh (.int (hi + w)), .sh (regD L'), y', .sh (.lst (M.map pD)), .sh (.int (e.1 : Nat))], [.sh (.scr ns), .sh (.lst (ps.map pD)), .sh (regD (M.map ofI)), .sh (.lst ((ps.map (·.1)).map D.int)), .no, .no, .sh (.lst ((ps.map (·.2)).map D.int)), .sh (.int w), .sh (.int (lo - w)), .sh (.int (hi + w)), .sh (regD L2), y', .sh (.lst (M.map pD)), .sh (.int (e.1 : Nat))], by simp, ?_, L2, _, k.reg, k.bnd, by have := k.len; simp; omega, fun p => ?_, rfl⟩
        · simp only [f_law_k15_B1, evSs_cons, evSs_nil, evS_ife, evE_cmp, evE_b1, evE_var, evE_int, List.getElem?_cons_succ, List.getElem?_cons_zero, slV_sh, Option.bind_some, b1D_len, asLT_lst, Option.map_some, List.length_map, cmpD_gt, decide_eq_true c', asBl_bl, if_true, evS_set, evE_call, evs_cons, evs_nil, storable_sh, evE_idx, evE_bin, asInt_int, binD_sub, at1, at2, eh2, noEx_sh, k.e, noEx_fr, slf, setSl_cons, setSl_cons0, andThen_nx]
        · rw [k.cv, q4]
          have sg : 0 ≤ (hT hh).ev p ↔ 0 ≤ cr e.2.1 e.2.2 p := by rw [← eb2, ← ea2, hev, scale_nn hg]
          rw [sg]
          simp only [List.mem_append, List.mem_singleton]
          constructor
          · rintro ⟨⟨r1, r2⟩, r3⟩
            exact ⟨r1, fun _ x hx => hx.elim (r2 c x) fun e => by rw [e]; exact r3⟩
          · rintro ⟨r1, r2⟩
            exact ⟨⟨r1, fun _ x hx => r2 c x (.inl hx)⟩, r2 c e (.inr rfl)⟩
      · have c' : ¬ (1 : Int) < ((M.length : Nat) : Int) := by omega
        refine ⟨[.sh (.scr ns), .sh (.lst (ps.map pD)), .sh (regD (M.map ofI)), .sh (.lst ((ps.map (·.1)).map D.int)), .no, .no, .sh (.lst ((ps.map (·.2)).map D.int)), .sh (.int w), .sh (.int (lo - w)), .sh (.int (hi + w)), .sh (regD L'), y', .sh (.lst (M.map pD)), .sh (.int (e.1 : Nat))], [.sh (.scr ns), .sh (.lst (ps.map pD)), .sh (regD (M.map ofI)), .sh (.lst ((ps.map (·.1)).map D.int)), .no, .no, .sh (.lst ((ps.map (·.2)).map D.int)), .sh (.int w), .sh (.int (lo - w)), .sh (.int (hi + w)), .sh (regD L'), y', .sh (.lst (M.map pD)), .sh (.int (e.1 : Nat))], by simp, ?_, L', _, q1, q2, by simp; omega, fun p => ?_, rfl⟩
        · simp only [f_law_k15_B1, evSs_cons, evSs_nil, evS_ife, evE_cmp, evE_b1, evE_var, evE_int, List.getElem?_cons_succ, List.getElem?_cons_zero, slV_sh, Option.bind_some, b1D_len, asLT_lst, Option.map_some, List.length_map, cmpD_gt, decide_eq_false c', asBl_bl, Bool.false_eq_true, if_false, andThen_nx]
        · rw [q4]
          exact ⟨fun ⟨r1, _⟩ => ⟨r1, fun z => absurd z c⟩, fun ⟨r1, _⟩ => ⟨r1, fun z => absurd z c⟩⟩)
  -- all in all it is the hull
  have fin : L' = M.map ofI := q1.uniq h1 fun p => by
    rw [q4, l4]
    simp only [List.mem_cons, List.not_mem_nil, or_false]
    constructor
    · rintro ⟨⟨r1, r2⟩, r3⟩
      refine hull_by_halves h1 h2 h3 hMne mx0 mx1 my0 my1 ((v1 p).mp (r2 a1 (.inl rfl))) ((v2 p).mp (r2 a2 (.inr (.inl rfl)))) ((v3 p).mp (r2 a3 (.inr (.inr (.inl rfl))))) ((v4 p).mp (r2 a4 (.inr (.inr (.inr rfl))))) fun c s t hst => ?_
      rw [← ixs_snd] at hst
      obtain ⟨e, he, e3⟩ := List.mem_map.mp hst
      have := r3 c e he
      rw [e3] at this; exact this
    · intro k
      have kp := (h2 p).mp k
      have gx0 : ((x0 : Int) : Rat) ≤ p.x := by
        have := cv_ge kp ⟨1, 0, ((x0 : Int) : Rat)⟩ fun q hq => by
          have := Rat.intCast_le_intCast.mpr (lx0 q.1 (List.mem_map.mpr ⟨q, hq, rfl⟩))
          unfold Hf.ev ofI; simp only; grind
        unfold Hf.ev at this; simp only at this; grind
      have gx1 : p.x ≤ ((x1 : Int) : Rat) := by
        have := cv_ge kp ⟨-1, 0, -((x1 : Int) : Rat)⟩ fun q hq => by
          have := Rat.intCast_le_intCast.mpr (lx1 q.1 (List.mem_map.mpr ⟨q, hq, rfl⟩))
          unfold Hf.ev ofI; simp only; grind
        unfold Hf.ev at this; simp only at this; grind
      have gy0 : ((y0 : Int) : Rat) ≤ p.y := by
        have := cv_ge kp ⟨0, 1, ((y0 : Int) : Rat)⟩ fun q hq => by
          have := Rat.intCast_le_intCast.mpr (ly0 q.2 (List.mem_map.mpr ⟨q, hq, rfl⟩))
          unfold Hf.ev ofI; simp only; grind
        unfold Hf.ev at this; simp only at this; grind
      have gy1 : p.y ≤ ((y1 : Int) : Rat) := by
        have := cv_ge kp ⟨0, -1, -((y1 : Int) : Rat)⟩ fun q hq => by
          have := Rat.intCast_le_intCast.mpr (ly1 q.2 (List.mem_map.mpr ⟨q, hq, rfl⟩))
          unfold Hf.ev ofI; simp only; grind
        unfold Hf.ev at this; simp only at this; grind
      have w0 : (1 : Int) ≤ w := by omega
      have c1 := Rat.intCast_le_intCast.mpr (show lo - w ≤ x0 by have := llo x0 (List.mem_append_left _ mx0); omega)
      have c2 := Rat.intCast_le_intCast.mpr (show x1 ≤ hi + w by have := lhi x1 (List.mem_append_left _ mx1); omega)
      have c3 := Rat.intCast_le_intCast.mpr (show lo - w ≤ y0 by have := llo y0 (List.mem_append_right _ my0); omega)
      have c4 := Rat.intCast_le_intCast.mpr (show y1 ≤ hi + w by have := lhi y1 (List.mem_append_right _ my1); omega)
      refine ⟨⟨(s2 p).mpr (square_cv lt (by grind) (by grind) (by grind) (by grind)), fun h hh => ?_⟩, fun c e he => ?_⟩
      · rcases hh with rfl | rfl | rfl | rfl
        · exact (v1 p).mpr gx0
        · exact (v2 p).mpr gx1
        · exact (v3 p).mpr gy0
        · exact (v4 p).mpr gy1
      · obtain ⟨_, _, _, i4⟩ := ixs_get he
        exact k.inS h1.cvx _ _ i4
  rw [fin] at e5
  have cX : ∀ s4 s5, evE ct [.sh (.scr ns), .sh (.lst (ps.map pD)), .sh (regD (M.map ofI)), .no, s4, s5, .no, .no, .no, .no, .no, .no, .no, .no] f_law_k15_C0 = some (.fr, .lst ((ps.map (·.1)).map D.int)) := fun s4 s5 => by
    rw [List.map_map]
    exact evE_comp_of (m := .sh) (ds := ps.map pD) (by simp [itM]) rfl (compF_map pD _ ps (fun q hq => ⟨[.sh (.scr ns), .sh (.lst (ps.map pD)), .sh (regD (M.map ofI)), .no, .sh (.int q.1), .sh (.int q.2), .no, .no, .no, .no, .no, .no, .no, .no], by simp [pD, tgSlots, wipeE], by simp, (.sh, .int q.1), by simp, rfl⟩) (by omega))
  have cY : ∀ s3, evE ct [.sh (.scr ns), .sh (.lst (ps.map pD)), .sh (regD (M.map ofI)), s3, .no, .no, .no, .no, .no, .no, .no, .no, .no, .no] f_law_k15_C1 = some (.fr, .lst ((ps.map (·.2)).map D.int)) := fun s3 => by
    rw [List.map_map]
    exact evE_comp_of (m := .sh) (ds := ps.map pD) (by simp [itM]) rfl (compF_map pD _ ps (fun q hq => ⟨[.sh (.scr ns), .sh (.lst (ps.map pD)), .sh (regD (M.map ofI)), s3, .sh (.int q.1), .sh (.int q.2), .no, .no, .no, .no, .no, .no, .no, .no], by simp [pD, tgSlots, wipeE], by simp, (.sh, .int q.2), by simp, rfl⟩) (by omega))
  have cC : ∀ s3 s6 s7 s8 s9 s10 s11, evE ct [.sh (.scr ns), .sh (.lst (ps.map pD)), .sh (regD (M.map ofI)), s3, .no, .no, s6, s7, s8, s9, s10, s11, .no, .no] f_law_k15_C2 = some (.fr, .lst (M.map pD)) := fun s3 s6 s7 s8 s9 s10 s11 =>
    evE_comp_of (m := .sh) (ds := M.map (spD ∘ ofI)) (by simp [itM]) rfl (compF_map (spD ∘ ofI) _ M (fun q hq => ⟨[.sh (.scr ns), .sh (.lst (ps.map pD)), .sh (regD (M.map ofI)), s3, .sh (.tup [.int q.1, .int 1]), .sh (.tup [.int q.2, .int 1]), s6, s7, s8, s9, s10, s11, .no, .no], by simp [spD_ofI, tgSlots, wipeE], by simp, (.sh, pD q), by simp [pD], rfl⟩) (by omega))
  refine runR rfl ?_
  refine stepS (g' := [.sh (.scr ns), .sh (.lst (ps.map pD)), .no, .no, .no, .no, .no, .no, .no, .no, .no, .no, .no, .no]) ?_ ?_
  · show evS ct n _ [.sh (.scr ns), .no, .no, .no, .no, .no, .no, .no, .no, .no, .no, .no, .no, .no] = _
    rw [evS_set, evE_call, evs_cons, evs_cons, em]
    simp [ep]
  refine stepS (g' := [.sh (.scr ns), .sh (.lst (ps.map pD)), .sh (regD (M.map ofI)), .no, .no, .no, .no, .no, .no, .no, .no, .no, .no, .no]) (by simp [eh, slf]) ?_
  refine stepS (g' := [.sh (.scr ns), .sh (.lst (ps.map pD)), .sh (regD (M.map ofI)), .sh (.lst ((ps.map (·.1)).map D.int)), .no, .no, .no, .no, .no, .no, .no, .no, .no, .no]) (by rw [evS_set, cX]; simp) ?_
  refine stepS (g' := [.sh (.scr ns), .sh (.lst (ps.map pD)), .sh (regD (M.map ofI)), .sh (.lst ((ps.map (·.1)).map D.int)), .no, .no, .sh (.lst ((ps.map (·.2)).map D.int)), .no, .no, .no, .no, .no, .no, .no]) (by rw [evS_set, cY]; simp) ?_
  refine stepS (g' := [.sh (.scr ns), .sh (.lst (ps.map pD)), .sh (regD (M.map ofI)), .sh (.lst ((ps.map (·.1)).map D.int)), .no, .no, .sh (.lst ((ps.map (·.2)).map D.int)), .sh (.int w), .no, .no, .no, .no, .no, .no]) (by simp [ev, fmod_of, hw]) ?_
  have lok : lenOk (((ps.map (·.1)).map D.int).length + ((ps.map (·.2)).map D.int).length) = true := lenOk_small (by simp; omega)
  have mnn := b1_min elo
  have mxx := b1_max ehi
  rw [List.map_append] at mnn mxx
  refine stepS (g' := [.sh (.scr ns), .sh (.lst (ps.map pD)), .sh (regD (M.map ofI)), .sh (.lst ((ps.map (·.1)).map D.int)), .no, .no, .sh (.lst ((ps.map (·.2)).map D.int)), .sh (.int w), .sh (.int (lo - w)), .no, .no, .no, .no, .no]) ?_ ?_
  · simp only [evS_set, evE_bin, evE_b1, evE_var, List.getElem?_cons_succ, List.getElem?_cons_zero, slV_sh, Option.bind_some, binD_cat, lok, if_true, mnn, binD_sub, slOf_sh, setSl_cons, setSl_cons0, Option.map_some]
  refine stepS (g' := [.sh (.scr ns), .sh (.lst (ps.map pD)), .sh (regD (M.map ofI)), .sh (.lst ((ps.map (·.1)).map D.int)), .no, .no, .sh (.lst ((ps.map (·.2)).map D.int)), .sh (.int w), .sh (.int (lo - w)), .sh (.int (hi + w)), .no, .no, .no, .no]) ?_ ?_
  · simp only [evS_set, evE_bin, evE_b1, evE_var, List.getElem?_cons_succ, List.getElem?_cons_zero, slV_sh, Option.bind_some, binD_cat, lok, if_true, mxx, binD_add, slOf_sh, setSl_cons, setSl_cons0, Option.map_some]
  have es' : ct 38 [.lst [.tup [.int (lo - w), .int (lo - w)], .tup [.int (hi + w), .int (lo - w)], .tup [.int (lo - w), .int (hi + w)], .tup [.int (hi + w), .int (hi + w)]]] = some (.fr, regD (S.map ofI)) := es
  refine stepS (g' := [.sh (.scr ns), .sh (.lst (ps.map pD)), .sh (regD (M.map ofI)), .sh (.lst ((ps.map (·.1)).map D.int)), .no, .no, .sh (.lst ((ps.map (·.2)).map D.int)), .sh (.int w), .sh (.int (lo - w)), .sh (.int (hi + w)), .sh (regD (S.map ofI)), .no, .no, .no]) (by simp [es', slf]) ?_
  have gg : ∀ s12 : Sl, ∀ s10 s11 : Sl, [Sl.sh (.scr ns), .sh (.lst (ps.map pD)), .sh (regD (M.map ofI)), .sh (.lst ((ps.map (·.1)).map D.int)), .no, .no, .sh (.lst ((ps.map (·.2)).map D.int)), .sh (.int w), .sh (.int (lo - w)), .sh (.int (hi + w)), s10, s11, s12, .no] = [Sl.sh (.scr ns), .sh (.lst (ps.map pD)), .sh (regD (M.map ofI)), .sh (.lst ((ps.map (·.1)).map D.int)), .no, .no, .sh (.lst ((ps.map (·.2)).map D.int)), .sh (.int w), .sh (.int (lo - w)), .sh (.int (hi + w)), s10, s11, s12, .no] := fun _ _ _ => rfl
  refine stepS (g' := [.sh (.scr ns), .sh (.lst (ps.map pD)), .sh (regD (M.map ofI)), .sh (.lst ((ps.map (·.1)).map D.int)), .no, .no, .sh (.lst ((ps.map (·.2)).map D.int)), .sh (.int w), .sh (.int (lo - w)), .sh (.int (hi + w)), .sh (regD L), y', .no, .no]) ?_ ?_
  · rw [f_law_k15_L0, evS_fr]
    simp only [evI_ex, evE_lst, evs_cons, evs_nil, evE_call, evE_b1, evE_bin, evE_neg, evE_var, evE_int, List.getElem?_cons_succ, List.getElem?_cons_zero, slV_sh, Option.bind_some, b1_min ex0, b1_max ex1, b1_min ey0, b1_max ey1, asInt_int, binD_sub, storable_sh, e1, e2, e3, e4, noEx_sh, List.length_cons, List.length_nil, Nat.zero_add, Nat.reduceAdd, lenOk_4, if_true, asLT_lst, itM]
    exact el
  refine stepS (g' := [.sh (.scr ns), .sh (.lst (ps.map pD)), .sh (regD (M.map ofI)), .sh (.lst ((ps.map (·.1)).map D.int)), .no, .no, .sh (.lst ((ps.map (·.2)).map D.int)), .sh (.int w), .sh (.int (lo - w)), .sh (.int (hi + w)), .sh (regD L), y', .sh (.lst (M.map pD)), .no]) (by rw [evS_set, cC]; simp) ?_
  refine stepS (g' := [.sh (.scr ns), .sh (.lst (ps.map pD)), .sh (regD (M.map ofI)), .sh (.lst ((ps.map (·.1)).map D.int)), .no, .no, .sh (.lst ((ps.map (·.2)).map D.int)), .sh (.int w), .sh (.int (lo - w)), .sh (.int (hi + w)), .sh (regD (M.map ofI)), y', .sh (.lst (M.map pD)), s13]) ?_ ?_
  · rw [f_law_k15_L1, evS_fr]
    simp only [evI_rng, evE_b1, evE_var, List.getElem?_cons_succ, List.getElem?_cons_zero, slV_sh, Option.bind_some, b1D_len, asLT_lst, Option.map_some, List.length_map, asInt_int, rngOk_n (show M.length ≤ 1000000 by omega), if_true, Int.toNat_natCast]
    rw [if_neg (fun z => by cases z), ← hlM, ixs_rng]
    exact e5
  · simp [dB_true]
end Ev
namespace Ev
open PySem L2
open Gm (P lex cr Cvx Reg Cv sides apart Tidy Hf hI Bnd CB SB Good)
/-! ### wider: spots of more figures -/
def SpreadW (F : List D → Rs) : Prop := ∀ p, SpB 2200 p → F [spD p] = some (.sh, tD (fl p))
def TurnW (F : List D → Rs) : Prop := ∀ a b c, BdT 9000 a → BdT 9000 b → BdT 9000 c → F [tD a, tD b, tD c] = some (.sh, .int (det a b c))
def BelowW (F : List D → Rs) : Prop := ∀ a b : Rat, QB 2200 a → QB 2200 b → F [qD a, qD b] = some (.sh, .bl (dB (a < b)))
def AheadW (F : List D → Rs) : Prop := ∀ p q, SpB 2200 p → SpB 2200 q → F [spD p, spD q] = some (.sh, .bl (dB (lex p q)))
def BeforeW (F : List D → Rs) : Prop := ∀ (a b : Tr) (p q : P), Of a p → Of b q → BdT 9000 a → BdT 9000 b → F [tD a, tD b] = some (.sh, .bl (dB (lex p q)))
def HoldsW (F : List D → Rs) : Prop := ∀ (L : List P) (t : Tr) (p : P), Reg L → (∀ p ∈ L, SpB 602 p) → L.length ≤ 50000 → Of t p → BdT 9000 t → F [flsD L, tD t] = some (.sh, .bl (dB (Cv L p)))
theorem ev_spreadW (ct : Ct) (n : Nat) : SpreadW (runFn f_spread ct n) := fun p hp => by
  refine runR rfl ?_
  simp [f_spread, startE, spD, qD, tD, fl]
theorem ev_turnW (ct : Ct) (n : Nat) : TurnW (runFn f_left_turn ct n) := fun a b c ha hb hc => by
  refine runR rfl ?_
  simp [f_left_turn, startE, tD, det]
theorem ev_belowW (ct : Ct) (n : Nat) : BelowW (runFn f_below ct n) := fun a b ha hb => by
  rw [qD, qD, ev_below ct n _ _ _ _ 2200 ha.n ha.d hb.n hb.d (by omega), dB_dec]
  rw [dB_congr (Rat.lt_iff a b).symm]
theorem ev_aheadW {ct : Ct} {n : Nat} (hb : BelowW (ct 8)) : AheadW (runFn f_ahead ct n) := fun p q hp hq => by
  have b1 := hb p.x q.x inferInstance inferInstance
  have b2 := hb p.y q.y inferInstance inferInstance
  refine runR rfl ?_
  by_cases h : p.x = q.x
  · have e : dB (lex p q) = dB (p.y < q.y) := dB_congr (by rw [lex_iff, if_pos h])
    simp [f_ahead, startE, spD, dB_true h, b2, e]
  · have e : dB (lex p q) = dB (p.x < q.x) := dB_congr (by rw [lex_iff, if_neg h])
    simp [f_ahead, startE, spD, dB_false h, b1, e]
theorem fl_w {p : P} (h : SpB 602 p) : BdT 9000 (fl p) := ⟨(@flB 602 p h).b.mono (by omega)⟩
theorem fl_ww {p : P} (h : SpB 2200 p) : BdT 9000 (fl p) := ⟨(@flB 2200 p h).b.mono (by omega)⟩
theorem sp_w {p : P} (h : SpB 602 p) : SpB 2200 p := ⟨⟨h.x.n.mono (by omega), h.x.d.mono (by omega)⟩, ⟨h.y.n.mono (by omega), h.y.d.mono (by omega)⟩⟩
theorem ev_beforeW (ct : Ct) (n : Nat) : BeforeW (runFn f_law_before ct n) := fun a b p q ha hb ba bb => by
  have ww := Rat.mul_pos (castpos ha.w) (castpos hb.w)
  have ex : ((a.1 * b.2.2 - b.1 * a.2.2 : Int) : Rat) = (((a.2.2 : Int) : Rat) * ((b.2.2 : Int) : Rat)) * (p.x - q.x) := by
    rw [Rat.intCast_sub, Rat.intCast_mul, Rat.intCast_mul, ha.x, hb.x]; grind
  have ey : ((a.2.1 * b.2.2 - b.2.1 * a.2.2 : Int) : Rat) = (((a.2.2 : Int) : Rat) * ((b.2.2 : Int) : Rat)) * (p.y - q.y) := by
    rw [Rat.intCast_sub, Rat.intCast_mul, Rat.intCast_mul, ha.y, hb.y]; grind
  have sx := cast_sign ww ex
  have sy := cast_sign ww ey
  have e1 : a.1 * b.2.2 = b.1 * a.2.2 ↔ p.x = q.x := by
    constructor
    · intro h
      have := sx.2.2.mp (by omega); grind
    · intro h
      have := sx.2.2.mpr (by grind); omega
  have l1 : a.1 * b.2.2 < b.1 * a.2.2 ↔ p.x < q.x := by
    constructor
    · intro h
      have := sx.2.1.mp (by omega); grind
    · intro h
      have := sx.2.1.mpr (by grind); omega
  have l2 : a.2.1 * b.2.2 < b.2.1 * a.2.2 ↔ p.y < q.y := by
    constructor
    · intro h
      have := sy.2.1.mp (by omega); grind
    · intro h
      have := sy.2.1.mpr (by grind); omega
  refine runR rfl ?_
  by_cases h : a.1 * b.2.2 = b.1 * a.2.2
  · have e : decide (a.2.1 * b.2.2 < b.2.1 * a.2.2) = dB (lex p q) := by
      rw [dB_dec]; exact dB_congr (by rw [lex_iff, if_pos (e1.mp h), l2])
    simp [f_law_before, startE, tD, h, e]
  · have e : decide (a.1 * b.2.2 < b.1 * a.2.2) = dB (lex p q) := by
      rw [dB_dec]; exact dB_congr (by rw [lex_iff, if_neg (fun z => h (e1.mpr z)), l1])
    simp [f_law_before, startE, tD, h, e]
theorem ev_holdsW {ct : Ct} {n : Nat} (hb : BeforeW (ct 41)) (ht : TurnW (ct 40)) : HoldsW (runFn f_law_holds_k11 ct n) := fun L t p hL hS hl ho hbt => by
  refine runR rfl ?_
  match L, hL, hS, hl with
  | [], _, _, _ =>
    rw [dB_false (Gm.Cv_nil p)]
    simp [f_law_holds_k11, startE, flsD]
  | [a], hL, hS, _ =>
    have ba := fl_w (hS a (by simp))
    have t1 := ht (fl a) (fl a) t ba ba hbt
    have d0 : det (fl a) (fl a) t = 0 := (det_pos (fl_of a) (fl_of a) ho).2.2.mpr (Gm.cr_s a p)
    have b1 := hb t (fl a) p a ho (fl_of a) hbt ba
    have b2 := hb (fl a) t a p (fl_of a) ho ba hbt
    rw [d0] at t1
    have am : atI [tD (fl a)] (-1) = some (tD (fl a)) := rfl
    by_cases c1 : lex p a
    · rw [dB_false (fun k => (Cv_single.mp k).1 c1)]
      simp [f_law_holds_k11, startE, flsD, t1, am, b1, dB_true c1]
    · by_cases c2 : lex a p
      · rw [dB_false (fun k => (Cv_single.mp k).2 c2)]
        simp [f_law_holds_k11, startE, flsD, t1, am, b1, dB_false c1, b2, dB_true c2]
      · rw [dB_true (Cv_single.mpr ⟨c1, c2⟩)]
        simp [f_law_holds_k11, startE, flsD, t1, am, b1, dB_false c1, b2, dB_false c2]
  | [a, b], hL, hS, _ =>
    have ba := fl_w (hS a (by simp))
    have bb := fl_w (hS b (by simp))
    have hab := hL.1 b (by simp)
    have t1 := ht (fl a) (fl b) t ba bb hbt
    have d0 : det (fl a) (fl b) t = 0 ↔ cr a b p = 0 := (det_pos (fl_of a) (fl_of b) ho).2.2
    have b1 := hb t (fl a) p a ho (fl_of a) hbt ba
    have b2 := hb (fl b) t b p (fl_of b) ho bb hbt
    have am : atI [tD (fl a), tD (fl b)] (-1) = some (tD (fl b)) := rfl
    by_cases c0 : cr a b p = 0
    · rw [d0.mpr c0] at t1
      by_cases c1 : lex p a
      · rw [dB_false (fun k => ((Cv_two hab).mp k).2.1 c1)]
        simp [f_law_holds_k11, startE, flsD, t1, am, b1, dB_true c1]
      · by_cases c2 : lex b p
        · rw [dB_false (fun k => ((Cv_two hab).mp k).2.2 c2)]
          simp [f_law_holds_k11, startE, flsD, t1, am, b1, dB_false c1, b2, dB_true c2]
        · rw [dB_true ((Cv_two hab).mpr ⟨c0, c1, c2⟩)]
          simp [f_law_holds_k11, startE, flsD, t1, am, b1, dB_false c1, b2, dB_false c2]
    · have d1 : ¬ det (fl a) (fl b) t = 0 := fun z => c0 (d0.mp z)
      rw [dB_false (fun k => c0 ((Cv_two hab).mp k).1)]
      simp [f_law_holds_k11, startE, flsD, t1, am, d1]
  | a :: b :: c :: l, hL, hS, hl =>
    have hcv := Cv_many hL (by simp) p
    generalize hLe : a :: b :: c :: l = L at *
    have hlen : 3 ≤ L.length := by rw [← hLe]; simp
    have fnd := forF_find (fun (e : Nat × P × P) => D.int (e.1 : Nat)) (a := asg (.one 2)) (b := fun g => evSs ct n f_law_holds_k11_B0 g) (fun g => ∃ s, g = [.sh (flsD L), .sh (tD t), s]) (fun e => cr e.2.1 e.2.2 p < 0) .sh (.bl false) (ixs L) [.sh (flsD L), .sh (tD t), .no] ⟨.no, rfl⟩ (fun e he g ⟨s, hg⟩ => by
      subst hg
      obtain ⟨h1, h2, h3', hm⟩ := ixs_get he
      have a1 : atI (L.map fun p => tD (fl p)) (e.1 : Int) = some (tD (fl e.2.2)) := atI_get (f := fun p => tD (fl p)) h2
      have a2 : atI (L.map fun p => tD (fl p)) ((e.1 : Int) - 1) = some (tD (fl e.2.1)) := atI_prev (f := fun p => tD (fl p)) h1 h3'
      have tt := ht (fl e.2.1) (fl e.2.2) t (fl_w (hS _ (List.mem_of_getElem? h3'))) (fl_w (hS _ (List.mem_of_getElem? h2))) hbt
      have dd := (det_pos (fl_of e.2.1) (fl_of e.2.2) ho).2.1
      refine ⟨[.sh (flsD L), .sh (tD t), .sh (.int (e.1 : Nat))], by simp, fun z => ?_, fun z => ⟨[.sh (flsD L), .sh (tD t), .sh (.int (e.1 : Nat))], ?_, _, rfl⟩⟩
      · have z' := dd.mpr z
        simp [f_law_holds_k11_B0, a1, a2, tt, z']
      · have z' : ¬ det (fl e.2.1) (fl e.2.2) t < 0 := fun y => z (dd.mp y)
        simp [f_law_holds_k11_B0, a1, a2, tt, z']
        try omega)
    have n0 : ¬ ((L.length : Nat) : Int) = 0 := by omega
    have n3 : ¬ ((L.length : Nat) : Int) < 3 := by omega
    have n0' : ¬ L.length = 0 := by omega
    have st1 : ∀ ss : Sms, evS ct n (.ife (.cmp .eq (.b1 .len (.var 0)) (.int 0)) ss .nil) (startE f_law_holds_k11 [flsD L, tD t]) = some (.nx [.sh (flsD L), .sh (tD t), .no]) := fun ss => by
      show evS ct n (.ife (.cmp .eq (.b1 .len (.var 0)) (.int 0)) ss .nil) [.sh (flsD L), .sh (tD t), .no] = _
      simp only [evS_ife, evE_cmp, evE_b1, evE_var, evE_int, List.getElem?_cons_zero, slV_sh, Option.bind_some, b1D_len, asLT_flsD, Option.map_some, List.length_map, cmpD_eq, decide_eq_false n0, asBl_bl, Bool.false_eq_true, if_false, evSs_nil]
    have st2 : ∀ ss : Sms, evS ct n (.ife (.cmp .lt (.b1 .len (.var 0)) (.int 3)) ss .nil) [.sh (flsD L), .sh (tD t), .no] = some (.nx [.sh (flsD L), .sh (tD t), .no]) := fun ss => by
      simp only [evS_ife, evE_cmp, evE_b1, evE_var, evE_int, List.getElem?_cons_zero, slV_sh, Option.bind_some, b1D_len, asLT_flsD, Option.map_some, List.length_map, cmpD_lt, decide_eq_false n3, asBl_bl, Bool.false_eq_true, if_false, evSs_nil]
    have el : ∀ o, forF (asg (.one 2)) (fun g => evSs ct n f_law_holds_k11_B0 g) ((ixs L).map fun (e : Nat × P × P) => D.int (e.1 : Nat)) [.sh (flsD L), .sh (tD t), .no] = o → evS ct n f_law_holds_k11_L0 [.sh (flsD L), .sh (tD t), .no] = o := fun o h => by
      rw [f_law_holds_k11_L0, evS_fr]
      simp only [evI_rng, evE_b1, evE_var, List.getElem?_cons_zero, slV_sh, Option.bind_some, b1D_len, asLT_flsD, Option.map_some, List.length_map, asInt_int, rngOk_n (show L.length ≤ 1000000 by omega), if_true, Int.toNat_natCast]
      rw [if_neg (fun z => by cases z), ixs_rng]
      exact h
    refine stepS (st1 _) (stepS (st2 _) ?_)
    rcases fnd with ⟨⟨e, he, hc⟩, e2⟩ | ⟨hc, g', e2, s, rfl⟩
    · obtain ⟨h1, h2, h3', hm⟩ := ixs_get he
      rw [dB_false (fun k => by have := hcv.mp k e.2.1 e.2.2 hm; grind)]
      exact stepR (el _ e2)
    · have hi : Gm.InS L p := fun s t hst => by
        rw [← ixs_snd] at hst
        obtain ⟨e, he, e3⟩ := List.mem_map.mp hst
        have := hc e he
        rw [e3] at this
        grind
      rw [dB_true (hcv.mpr hi)]
      exact stepS (el _ e2) (by simp)

/-- where a spot lies: 1 inside, 0 on the border, -1 outside -/
noncomputable def liesV (L : List P) (p : P) : Int := if dB (Cv L p) = true then (if dB (∃ e ∈ sides L, cr e.1 e.2 p = 0) = true then 0 else 1) else -1
def LiesS (F : List D → Rs) : Prop := ∀ (L : List P) (p : P), Reg L → (∀ p ∈ L, SpB 602 p) → L.length ≤ 50000 → SpB 2200 p → F [regD L, spD p] = some (.sh, .int (liesV L p))
theorem in_reg (p : P) (L : List P) : inD (spD p) (regD L) = some (dB (p ∈ L)) := by
  show (if (shD (spD p) && shD (regD L)) = true then some ((L.map spD).any fun z => eqvD z (spD p)) else none) = _
  rw [shD_of (spD p) (noB_spD p) (dep_spD p), shD_of _ (noB_regD L) (dep_regD L)]
  simp only [Bool.and_self, if_true]
  congr 1
  cases e : dB (p ∈ L) with
  | true =>
    rw [List.any_eq_true]
    exact ⟨spD p, List.mem_map.mpr ⟨p, dB_iff.mp e, rfl⟩, by rw [eqvD_deq _ _ (noB_spD p) (noB_spD p)]; exact deq_self _⟩
  | false =>
    rw [List.any_eq_false]
    intro z hz
    obtain ⟨q, hq, rfl⟩ := List.mem_map.mp hz
    rw [eqvD_deq _ _ (noB_spD q) (noB_spD p)]
    rw [deq_ne fun h => dB_not.mp e (by rw [← spD_inj.mp h]; exact hq)]
    decide
theorem ev_lies {ct : Ct} {n : Nat} (hs : SpreadW (ct 48)) (ht : TurnW (ct 37)) (ha : AheadW (ct 49)) : LiesS (runFn f_lies_in ct n) := fun L p hL hS hl hp => by
  by_cases l2 : L.length < 2
  · have e : liesV L p = (if dB (p ∈ L) = true then 1 else 0) - 1 := by
      unfold liesV
      match L, l2 with
      | [], _ => rw [if_neg (by rw [dB_false (Gm.Cv_nil p)]; decide), if_neg (by rw [dB_false (by simp)]; decide)]; rfl
      | [a], _ =>
        by_cases z : p = a
        · subst z
          rw [if_pos (dB_true (Cv.mem (by simp))), if_pos (dB_true ⟨(p, p), by rw [Gm.sides_one]; simp, Gm.cr_s p p⟩), if_pos (dB_true (by simp))]; rfl
        · rw [if_neg (by rw [dB_false (fun k => z (Gm.Cv_one k))]; decide), if_neg (by rw [dB_false (by simpa using z)]; decide)]; rfl
    have l2' : ((L.length : Nat) : Int) < 2 := by omega
    refine runR rfl ?_
    refine stepR ?_
    show evS ct n _ [.sh (regD L), .sh (spD p), .no, .no, .no, .no, .no] = _
    rw [e]
    simp only [evS_ife, evE_cmp, evE_b1, evE_var, evE_int, List.getElem?_cons_zero, slV_sh, Option.bind_some, b1D_len, asLT_regD, Option.map_some, List.length_map, cmpD_lt, decide_eq_true l2', asBl_bl, if_true, evSs_cons, evS_ret, evE_bin, evE_inn, List.getElem?_cons_succ, in_reg, b1D_intb, binD_sub, storable_sh, andThen_rt]
  · have st1 : ∀ ss : Sms, evS ct n (.ife (.cmp .lt (.b1 .len (.var 0)) (.int 2)) ss .nil) (startE f_lies_in [regD L, spD p]) = some (.nx [.sh (regD L), .sh (spD p), .no, .no, .no, .no, .no]) := fun ss => by
      have l2' : ¬ ((L.length : Nat) : Int) < 2 := by omega
      show evS ct n _ [.sh (regD L), .sh (spD p), .no, .no, .no, .no, .no] = _
      simp only [evS_ife, evE_cmp, evE_b1, evE_var, evE_int, List.getElem?_cons_zero, slV_sh, Option.bind_some, b1D_len, asLT_regD, Option.map_some, List.length_map, cmpD_lt, decide_eq_false l2', asBl_bl, Bool.false_eq_true, if_false, evSs_nil]
    have c0 : evE ct [.sh (regD L), .sh (spD p), .sh (tD (fl p)), .no, .no, .no, .no] f_lies_in_C0 = some (.fr, flsD L) :=
      evE_comp_of (m := .sh) (ds := L.map spD) (by simp [itM]) rfl (compF_map spD _ L (fun q hq => ⟨[.sh (regD L), .sh (spD p), .sh (tD (fl p)), .no, .sh (spD q), .no, .no], by simp [tgSlots, wipeE], by simp, (.sh, tD (fl q)), by simp [hs q (sp_w (hS q hq))], rfl⟩) (by omega))
    obtain ⟨ts, hts⟩ : ∃ ts : List Int, ts = (ixs L).map fun e => det (fl e.2.1) (fl e.2.2) (fl p) := ⟨_, rfl⟩
    have c1 : evE ct [.sh (regD L), .sh (spD p), .sh (tD (fl p)), .sh (flsD L), .no, .no, .no] f_lies_in_C1 = some (.fr, .lst (ts.map D.int)) := by
      rw [hts, List.map_map]
      refine evE_comp_of (m := .sh) (ds := rngL 0 L.length) (by simp [rngOk_n (show L.length ≤ 1000000 by omega)]) rfl ?_
      rw [ixs_rng]
      refine compF_map (fun (e : Nat × P × P) => D.int (e.1 : Nat)) _ (ixs L) (fun e he => ?_) (by rw [ixs_len]; omega)
      obtain ⟨h1, h2, h3, _⟩ := ixs_get he
      have a1 : atI (L.map fun p => tD (fl p)) (e.1 : Int) = some (tD (fl e.2.2)) := atI_get (f := fun p => tD (fl p)) h2
      have a2 : atI (L.map fun p => tD (fl p)) ((e.1 : Int) - 1) = some (tD (fl e.2.1)) := atI_prev (f := fun p => tD (fl p)) h1 h3
      have tt := ht (fl e.2.1) (fl e.2.2) (fl p) (fl_w (hS _ (List.mem_of_getElem? h3))) (fl_w (hS _ (List.mem_of_getElem? h2))) (fl_ww hp)
      exact ⟨[.sh (regD L), .sh (spD p), .sh (tD (fl p)), .sh (flsD L), .no, .no, .sh (.int (e.1 : Nat))], by simp [tgSlots, wipeE], by simp, (.sh, .int (det (fl e.2.1) (fl e.2.2) (fl p))), by simp [a1, a2, tt], rfl⟩
    have tsl : ts.length = L.length := by rw [hts, List.length_map, ixs_len]
    have run : ∀ o, evSs ct n (.cons (.ife (.cmp .eq (.b1 .len (.var 0)) (.int 2))
        (.cons (.ret (.bin .sub (.b1 .int (.ands (.cons (.cmp .eq (.idx (.var 5) (.int 0)) (.int 0)) (.cons (.not (.call 49 (.cons (.var 1) (.cons (.idx (.var 0) (.int 0)) .nil)))) (.cons (.not (.call 49 (.cons (.idx (.var 0) (.int 1)) (.cons (.var 1) .nil)))) .nil))))) (.int 1))) .nil) .nil)
        (.cons (.ret (.bin .sub (.b1 .int (.cmp .gt (.b1 .min (.var 5)) (.int 0))) (.b1 .int (.cmp .lt (.b1 .min (.var 5)) (.int 0))))) .nil)) [.sh (regD L), .sh (spD p), .sh (tD (fl p)), .sh (flsD L), .no, .sh (.lst (ts.map D.int)), .no] = some (.rt .sh (.int o)) → runFn f_lies_in ct n [regD L, spD p] = some (.sh, .int o) := fun o h => by
      refine runR rfl ?_
      refine stepS (st1 _) ?_
      refine stepS (g' := [.sh (regD L), .sh (spD p), .sh (tD (fl p)), .no, .no, .no, .no]) (by simp [hs p hp]) ?_
      refine stepS (g' := [.sh (regD L), .sh (spD p), .sh (tD (fl p)), .sh (flsD L), .no, .no, .no]) (by rw [evS_set, c0, flsD]; simp) ?_
      refine stepS (g' := [.sh (regD L), .sh (spD p), .sh (tD (fl p)), .sh (flsD L), .no, .sh (.lst (ts.map D.int)), .no]) (by rw [evS_set, c1]; simp) ?_
      exact h
    refine run _ ?_
    by_cases e2 : L.length = 2
    · match L, e2, hL with
      | [a, b], _, hL =>
        have hab : lex a b := hL.1 b (by simp)
        have ets : ts = [det (fl b) (fl a) (fl p), det (fl a) (fl b) (fl p)] := by rw [hts]; rfl
        have d0 : det (fl b) (fl a) (fl p) = 0 ↔ cr a b p = 0 := by
          rw [(det_pos (fl_of b) (fl_of a) (fl_of p)).2.2, Gm.cr_swap]
          constructor <;> intro h <;> grind
        have b1 := ha p a hp (sp_w (hS a (by simp)))
        have b2 := ha b p (sp_w (hS b (by simp))) hp
        have ez : liesV [a, b] p = (if dB (Cv [a, b] p) = true then 1 else 0) - 1 := by
          unfold liesV
          by_cases z : Cv [a, b] p
          · rw [if_pos (dB_true z), if_pos (dB_true ⟨(a, b), by rw [Gm.sides_two]; simp, ((Cv_two hab).mp z).1⟩), if_pos (dB_true z)]; rfl
          · rw [if_neg (by rw [dB_false z]; decide), if_neg (by rw [dB_false z]; decide)]; rfl
        rw [ez, ets]
        refine stepR ?_
        by_cases c0' : cr a b p = 0
        · by_cases c1' : lex p a
          · rw [dB_false (fun k => ((Cv_two hab).mp k).2.1 c1')]
            simp [d0.mpr c0', b1, dB_true c1', regD]
          · by_cases c2' : lex b p
            · rw [dB_false (fun k => ((Cv_two hab).mp k).2.2 c2')]
              simp [d0.mpr c0', b1, dB_false c1', b2, dB_true c2', regD]
            · rw [dB_true ((Cv_two hab).mpr ⟨c0', c1', c2'⟩)]
              simp [d0.mpr c0', b1, dB_false c1', b2, dB_false c2', regD]
        · have d1 : ¬ det (fl b) (fl a) (fl p) = 0 := fun z => c0' (d0.mp z)
          rw [dB_false (fun k => c0' ((Cv_two hab).mp k).1)]
          simp [d1, regD]
    · have hcv := Cv_many hL (by omega) p
      obtain ⟨m, em, mm, lm⟩ := lmin_spec (ns := ts) (by intro z; rw [z] at tsl; simp at tsl; omega)
      have n2 : ¬ ((L.length : Nat) : Int) = 2 := by omega
      have dv : ∀ x ∈ ts, ∃ e ∈ sides L, (0 < x ↔ 0 < cr e.1 e.2 p) ∧ (x < 0 ↔ cr e.1 e.2 p < 0) ∧ (x = 0 ↔ cr e.1 e.2 p = 0) := fun x hx => by
        rw [hts] at hx
        obtain ⟨e, he, rfl⟩ := List.mem_map.mp hx
        exact ⟨e.2, (ixs_get he).2.2.2, det_pos (fl_of _) (fl_of _) (fl_of p)⟩
      have vd : ∀ e ∈ sides L, ∃ x ∈ ts, (0 < x ↔ 0 < cr e.1 e.2 p) ∧ (x < 0 ↔ cr e.1 e.2 p < 0) ∧ (x = 0 ↔ cr e.1 e.2 p = 0) := fun e he => by
        rw [← ixs_snd] at he
        obtain ⟨f, hf, rfl⟩ := List.mem_map.mp he
        exact ⟨_, by rw [hts]; exact List.mem_map.mpr ⟨f, hf, rfl⟩, det_pos (fl_of _) (fl_of _) (fl_of p)⟩
      have ev : liesV L p = (if 0 < m then 1 else 0) - (if m < 0 then 1 else 0) := by
        obtain ⟨e, he, k1, k2, k3⟩ := dv m mm
        unfold liesV
        by_cases z1 : m < 0
        · rw [if_neg (by rw [dB_false (fun k => by have := hcv.mp k e.1 e.2 he; have := k2.mp z1; grind)]; decide), if_neg (by omega), if_pos z1]; rfl
        · have hin : Cv L p := hcv.mpr fun s t hst => by
            obtain ⟨x, hx, _, q2, _⟩ := vd (s, t) hst
            have := lm x hx
            have : ¬ cr s t p < 0 := fun y => by have := q2.mpr y; omega
            grind
          rw [if_pos (dB_true hin)]
          by_cases z2 : m = 0
          · rw [if_pos (dB_true ⟨e, he, k3.mp z2⟩), if_neg (by omega), if_neg (by omega)]; rfl
          · rw [if_neg (by
              rw [dB_false (fun ⟨f, hf, y⟩ => by
                obtain ⟨x, hx, _, _, q3⟩ := vd f hf
                have := lm x hx
                have := q3.mpr y
                omega)]; decide), if_pos (by omega), if_neg (by omega)]; rfl
      refine stepS (g' := [.sh (regD L), .sh (spD p), .sh (tD (fl p)), .sh (flsD L), .no, .sh (.lst (ts.map D.int)), .no]) ?_ ?_
      · simp only [evS_ife, evE_cmp, evE_b1, evE_var, evE_int, List.getElem?_cons_zero, slV_sh, Option.bind_some, b1D_len, asLT_regD, Option.map_some, List.length_map, cmpD_eq, decide_eq_false n2, asBl_bl, Bool.false_eq_true, if_false, evSs_nil]
      · rw [ev]
        have bm := b1_min em
        simp only [evSs_cons, evSs_nil, evS_ret, evE_bin, evE_b1, evE_cmp, evE_var, evE_int, List.getElem?_cons_succ, List.getElem?_cons_zero, slV_sh, Option.bind_some, bm, cmpD_gt, cmpD_lt, b1D_intb, binD_sub, storable_sh, andThen_rt, decide_eq_true_eq]
end Ev
/-! Ev: k12. -/
namespace Ev
open PySem L2
open Gm (P lex cr Cvx Reg Cv Hf hI)
theorem lies_nn12 (L : List P) (p : P) : 0 ≤ liesV L p ↔ Cv L p := by
  unfold liesV
  by_cases h : Cv L p
  · rw [if_pos (dB_true h)]
    constructor
    · exact fun _ => h
    · intro _; split <;> omega
  · rw [if_neg (by rw [dB_false h]; decide)]
    constructor
    · intro z; omega
    · exact fun k => absurd k h
theorem eq_blbl (a b : Bool) : cmpD .eq (.bl a) (.bl b) = some (a == b) := by cases a <;> cases b <;> decide +kernel
theorem eq_regD' (L M : List P) : cmpD .eq (regD L) (regD M) = some (dB (L = M)) := by rw [eq_regD]
/-- what the hull of a list of points is -/
structure HullD (ps : List Pt) (M : List Pt) : Prop where
  reg : Reg (M.map ofI)
  cv : ∀ p, Cv (M.map ofI) p ↔ Cv (ps.map ofI) p
  mem : ∀ q ∈ M, q ∈ ps
theorem HullD.uniq {ps qs M N : List Pt} (a : HullD ps M) (b : HullD qs N) (h : ∀ p, Cv (ps.map ofI) p ↔ Cv (qs.map ofI) p) : M.map ofI = N.map ofI :=
  Reg.uniq a.reg b.reg fun p => by rw [a.cv, b.cv, h]
theorem cv_same {ps qs : List Pt} (h : ∀ q, q ∈ ps ↔ q ∈ qs) (p : P) : Cv (ps.map ofI) p ↔ Cv (qs.map ofI) p := by
  constructor
  · refine Cv.mono fun q hq => ?_
    obtain ⟨z, hz, rfl⟩ := List.mem_map.mp hq
    exact List.mem_map.mpr ⟨z, (h z).mp hz, rfl⟩
  · refine Cv.mono fun q hq => ?_
    obtain ⟨z, hz, rfl⟩ := List.mem_map.mp hq
    exact List.mem_map.mpr ⟨z, (h z).mpr hz, rfl⟩
theorem cv_parts {as bs A B' : List Pt} (a : HullD as A) (b : HullD bs B') (p : P) : Cv ((A ++ B').map ofI) p ↔ Cv ((as ++ bs).map ofI) p := by
  constructor
  · refine Cv.mono fun q hq => ?_
    obtain ⟨z, hz, rfl⟩ := List.mem_map.mp hq
    refine List.mem_map.mpr ⟨z, ?_, rfl⟩
    rcases List.mem_append.mp hz with h | h
    · exact List.mem_append_left _ (a.mem z h)
    · exact List.mem_append_right _ (b.mem z h)
  · refine Cv.trans fun q hq => ?_
    obtain ⟨z, hz, rfl⟩ := List.mem_map.mp hq
    rw [List.map_append]
    rcases List.mem_append.mp hz with h | h
    · exact Cv.mono (fun q hq => List.mem_append_left _ hq) ((a.cv _).mpr (Cv.mem (List.mem_map.mpr ⟨z, h, rfl⟩)))
    · exact Cv.mono (fun q hq => List.mem_append_right _ hq) ((b.cv _).mpr (Cv.mem (List.mem_map.mpr ⟨z, h, rfl⟩)))
theorem HullD.more {ps M N : List Pt} {q : Pt} (a : HullD ps M) (b : HullD (ps ++ [q]) N) : N.map ofI = M.map ofI ↔ Cv (M.map ofI) (ofI q) := by
  constructor
  · intro e
    rw [← e, b.cv]
    exact Cv.mem (List.mem_map.mpr ⟨q, by simp, rfl⟩)
  · intro c
    refine Reg.uniq b.reg a.reg fun p => ?_
    rw [b.cv, a.cv]
    constructor
    · refine Cv.trans fun z hz => ?_
      obtain ⟨y, hy, rfl⟩ := List.mem_map.mp hz
      rcases List.mem_append.mp hy with h | h
      · exact Cv.mem (List.mem_map.mpr ⟨y, h, rfl⟩)
      · rw [List.mem_singleton.mp h]; exact (a.cv _).mp c
    · exact Cv.mono fun z hz => by
        obtain ⟨y, hy, rfl⟩ := List.mem_map.mp hz
        exact List.mem_map.mpr ⟨y, List.mem_append_left _ hy, rfl⟩
theorem HullD.len {ps M : List Pt} (a : HullD ps M) : M.length ≤ ps.length := by
  have : M.Nodup := (List.pairwise_map.mp a.reg.nodup).imp fun {a b} h e => h (by rw [e])
  exact this.length_le_of_subset a.mem
theorem ev_k12 {ct : Ct} {n : Nat} {ns : List Int} (hp : Points11S ns (ct 45)) (hh : HullS (ct 38)) (hm : MixS ns (ct 15)) (hli : LiesS (ct 50)) : TrueL ns (runFn f_law_k12 ct n) := by
  obtain ⟨m, m1, m2, em⟩ := min63 ct [.sh (.scr ns), .no, .no, .no, .no, .no, .no, .no, .no, .no] ns 0 63 (by decide) rfl
  have em : evE ct [.sh (.scr ns), .no, .no, .no, .no, .no, .no, .no, .no, .no] (.b2 .max (.int 1) (.b2 .min (.int 63) (.b1 .len (.var 0)))) = some (.sh, .int (m : Nat)) := em
  obtain ⟨all, p1, p2, ep⟩ := hp (m + 1) (by omega)
  rw [show (((m + 1 : Nat)) : Int) = ((m : Nat) : Int) + 1 by omega] at ep
  obtain ⟨ps, q, rfl⟩ : ∃ ps q, all = ps ++ [q] := ⟨all.dropLast, all.getLast (by intro z; rw [z] at p1; simp at p1), (List.dropLast_concat_getLast _).symm⟩
  have pl : ps.length = m := by simpa using p1
  have up : ∀ {z : Pt}, BP 102 z → BP 150 z := fun h => ⟨h.1.mono (by omega), h.2.mono (by omega)⟩
  have bq : BP 150 q := up (p2 q (by simp))
  have bp : ∀ z ∈ ps, BP 150 z := fun z hz => up (p2 z (by simp [hz]))
  have hull : ∀ zs : List Pt, (∀ z ∈ zs, z ∈ ps ∨ z = q) → zs.length < 65 → ∃ M, HullD zs M ∧ ct 38 [.lst (zs.map pD)] = some (.fr, regD (M.map ofI)) := fun zs h1 h2 => by
    obtain ⟨M, a, b, c, e⟩ := hh zs (fun z hz => by rcases h1 z hz with k | k; exact bp z k; rw [k]; exact bq) h2
    exact ⟨M, ⟨a, b, c⟩, e⟩
  obtain ⟨F, hF, eF⟩ := hull ps (fun z hz => .inl hz) (by omega)
  obtain ⟨v, hv, ev⟩ := hm 130 (by omega)
  have ev : ct 15 [.scr ns, .int 130] = some (.sh, .int v) := ev
  obtain ⟨j, hj, ej⟩ := fmod_ix (v := v) hv.1 (show 0 < m + 1 by omega)
  rw [show (((m + 1 : Nat)) : Int) = ((m : Nat) : Int) + 1 by omega] at ej
  obtain ⟨A, hA, eA⟩ := hull (ps.take j) (fun z hz => .inl (List.mem_of_mem_take hz)) (by rw [List.length_take]; omega)
  obtain ⟨C, hC, eC⟩ := hull (ps.drop j) (fun z hz => .inl (List.mem_of_mem_drop hz)) (by rw [List.length_drop]; omega)
  have lA := hA.len
  have lC := hC.len
  rw [List.length_take] at lA
  rw [List.length_drop] at lC
  obtain ⟨G, hG, eG⟩ := hull (A ++ C) (fun z hz => by
    rcases List.mem_append.mp hz with h | h
    · exact .inl (List.mem_of_mem_take (hA.mem z h))
    · exact .inl (List.mem_of_mem_drop (hC.mem z h))) (by rw [List.length_append]; omega)
  have GF : G.map ofI = F.map ofI := hG.uniq hF fun p => by rw [cv_parts hA hC, List.take_append_drop]
  obtain ⟨R, hR, eR⟩ := hull ps.reverse (fun z hz => .inl (List.mem_reverse.mp hz)) (by rw [List.length_reverse]; omega)
  have RF : R.map ofI = F.map ofI := hR.uniq hF fun p => cv_same (fun z => List.mem_reverse) p
  obtain ⟨t, ht, at1⟩ : ∃ t, t ∈ ps ∧ atI (ps.map pD) (((j : Nat) : Int) - 1) = some (pD t) := by
    by_cases z : j = 0
    · subst z
      have e := List.getElem?_eq_getElem (l := ps) (show ps.length - 1 < ps.length by omega)
      refine ⟨ps[ps.length - 1]'(by omega), List.getElem_mem _, ?_⟩
      rw [show (((0 : Nat)) : Int) - 1 = -1 by omega]
      unfold atI ixN
      rw [List.length_map]
      have n1 : (1 : Int) ≤ ((ps.length : Nat) : Int) := by omega
      have n2 : (-1 + ((ps.length : Nat) : Int)).toNat = ps.length - 1 := by omega
      simp [show ps.length ≠ 0 by omega, n1, n2, List.getElem?_map, e]
    · have e := List.getElem?_eq_getElem (l := ps) (show j - 1 < ps.length by omega)
      refine ⟨ps[j - 1]'(by omega), List.getElem_mem _, ?_⟩
      rw [show ((j : Nat) : Int) - 1 = ((j - 1 : Nat) : Int) by omega]
      exact atI_get e
  obtain ⟨D2, hD2, eD2⟩ := hull (ps ++ [t]) (fun z hz => by
    rcases List.mem_append.mp hz with h | h
    · exact .inl h
    · rw [List.mem_singleton.mp h]; exact .inl ht) (by rw [List.length_append]; simp; omega)
  have DF : D2.map ofI = F.map ofI := hD2.uniq hF fun p => cv_same (fun z => by
    rw [List.mem_append, List.mem_singleton]
    exact ⟨fun h => h.elim id fun e => e ▸ ht, .inl⟩) p
  obtain ⟨N, hN, eN⟩ := hull (ps ++ [q]) (fun z hz => by
    rcases List.mem_append.mp hz with h | h
    · exact .inl h
    · exact .inr (List.mem_singleton.mp h)) (by rw [List.length_append]; simp; omega)
  have NF := hF.more hN
  have Fl := hF.len
  have FS : ∀ p ∈ F.map ofI, SpB 602 p := fun p hp => by
    obtain ⟨z, hz, rfl⟩ := List.mem_map.mp hp
    exact spB_ofI (bp z (hF.mem z hz))
  have wq : SpB 2200 (ofI q) := by
    obtain ⟨⟨a, b⟩, ⟨c, d⟩⟩ := spB_ofI bq
    exact ⟨⟨a.mono (by omega), b.mono (by omega)⟩, ⟨c.mono (by omega), d.mono (by omega)⟩⟩
  have el := hli (F.map ofI) (ofI q) hF.reg FS (by rw [List.length_map]; omega) wq
  have nn := lies_nn12 (F.map ofI) (ofI q)
  obtain ⟨W, hW⟩ : ∃ W, ps.map pD = W := ⟨_, rfl⟩
  have Wl : W.length = m := by rw [← hW]; simpa using pl
  have xs0 : (ps ++ [q]).map pD = W ++ [pD q] := by rw [List.map_append, hW]; rfl
  -- the corners of both
  have ec0 : ∀ s3 s6 s7 s8 s9 : Sl, evE ct [.sh (.scr ns), .sh (.int (m : Nat)), .sh (.lst W), s3, .sh (regD (F.map ofI)), .sh (.int (j : Nat)), s6, s7, s8, s9] f_law_k12_C0 = some (.fr, .lst ((A ++ C).map pD)) := fun s3 s6 s7 s8 s9 => by
    have c1 : cutD W none (some ((j : Nat) : Int)) = (ps.take j).map pD := by rw [← hW, cutD_none_pos, List.map_take]
    have c2 : cutD W (some ((j : Nat) : Int)) none = (ps.drop j).map pD := by rw [← hW, cutD_pos_none, List.map_drop]
    have lo : lenOk (A.length + C.length) = true := lenOk_small (by omega)
    have ei : evI ct [.sh (.scr ns), .sh (.int (m : Nat)), .sh (.lst W), s3, .sh (regD (F.map ofI)), .sh (.int (j : Nat)), s6, s7, s8, s9] (.ex (.bin .add (.call 38 (.cons (.slc (.var 2) .non (.var 5)) .nil)) (.call 38 (.cons (.slc (.var 2) (.var 5) .non) .nil)))) = some (.sh, (A ++ C).map fun z => spD (ofI z)) := by
      simp only [evI_ex, evE_bin, evE_call, evs_cons, evs_nil, evE_slc, evE_var, List.getElem?_cons_succ, List.getElem?_cons_zero, slV_sh, Option.bind_some, isNonE_non, isNonE_var, partV_t, partV_f, asInt_int, Option.map_some, slcD_lst, c1, c2, storable_fr, eA, eC, noEx_fr, regD, binD_cat, List.length_map, lo, if_true, asLT_lst, itM, List.map_map, List.map_append]
      rfl
    rw [f_law_k12_C0]
    refine evE_comp_of (m := .sh) (ds := (A ++ C).map fun z => spD (ofI z)) ei rfl (compF_map (fun z => spD (ofI z)) _ (A ++ C) (fun z hz => ?_) (by rw [List.length_append]; omega))
    exact ⟨[.sh (.scr ns), .sh (.int (m : Nat)), .sh (.lst W), s3, .sh (regD (F.map ofI)), .sh (.int (j : Nat)), s6, .sh (.tup [.int z.1, .int 1]), .sh (.tup [.int z.2, .int 1]), s9], by simp [spD_ofI, tgSlots, wipeE], by simp, (.sh, pD z), by simp [pD], rfl⟩
  have eG' : ct 38 [.lst ((A ++ C).map pD)] = some (.fr, regD (F.map ofI)) := by rw [eG, GF]
  have eR' : ct 38 [.lst W.reverse] = some (.fr, regD (F.map ofI)) := by rw [← hW, ← List.map_reverse, eR, RF]
  have eD' : ct 38 [.lst (W ++ [pD t])] = some (.fr, regD (F.map ofI)) := by
    have := eD2
    rw [List.map_append, hW, DF] at this
    exact this
  have eN' : ct 38 [.lst (W ++ [pD q])] = some (.fr, regD (N.map ofI)) := by rw [← xs0]; exact eN
  rw [hW] at eF at1
  rw [xs0] at ep
  have lo1 : lenOk (W.length + 1) = true := lenOk_small (by omega)
  obtain ⟨CD, hCD⟩ : ∃ CD, (A ++ C).map pD = CD := ⟨_, rfl⟩
  rw [hCD] at eG' ec0
  refine runR rfl ?_
  refine stepS (g' := [.sh (.scr ns), .sh (.int (m : Nat)), .no, .no, .no, .no, .no, .no, .no, .no]) ?_ ?_
  · show evS ct n _ [.sh (.scr ns), .no, .no, .no, .no, .no, .no, .no, .no, .no] = _
    rw [evS_set, em]; simp
  refine stepS (g' := [.sh (.scr ns), .sh (.int (m : Nat)), .ow (W ++ [pD q]), .no, .no, .no, .no, .no, .no, .no]) (by simp [ep]) ?_
  refine stepS (g' := [.sh (.scr ns), .sh (.int (m : Nat)), .ow W, .sh (pD q), .no, .no, .no, .no, .no, .no]) (by simp) ?_
  refine stepS (g' := [.sh (.scr ns), .sh (.int (m : Nat)), .sh (.lst W), .sh (pD q), .no, .no, .no, .no, .no, .no]) (by simp) ?_
  refine stepS (g' := [.sh (.scr ns), .sh (.int (m : Nat)), .sh (.lst W), .sh (pD q), .sh (regD (F.map ofI)), .no, .no, .no, .no, .no]) (by simp [eF, slf]) ?_
  refine stepS (g' := [.sh (.scr ns), .sh (.int (m : Nat)), .sh (.lst W), .sh (pD q), .sh (regD (F.map ofI)), .sh (.int (j : Nat)), .no, .no, .no, .no]) (by
    have nz : ¬ ((m : Nat) : Int) + 1 = 0 := by omega
    simp [ev, nz, ej]) ?_
  refine stepS (g' := [.sh (.scr ns), .sh (.int (m : Nat)), .sh (.lst W), .sh (pD q), .sh (regD (F.map ofI)), .sh (.int (j : Nat)), .sh (.lst CD), .no, .no, .no]) (by rw [evS_set, ec0]; simp [slf]) ?_
  refine stepS (g' := [.sh (.scr ns), .sh (.int (m : Nat)), .sh (.lst W), .sh (pD q), .sh (regD (F.map ofI)), .sh (.int (j : Nat)), .sh (.lst CD), .no, .no, .no]) (by simp [eG', eR', eD', at1, lo1, dB_true]) ?_
  refine stepS (g' := [.sh (.scr ns), .sh (.int (m : Nat)), .sh (.lst W), .sh (pD q), .sh (regD (F.map ofI)), .sh (.int (j : Nat)), .sh (.lst CD), .no, .no, .sh (.bl (dB (Cv (F.map ofI) (ofI q))))]) ?_ ?_
  · have el' : ct 50 [regD (F.map ofI), .tup [.tup [.int q.1, .int 1], .tup [.int q.2, .int 1]]] = some (.sh, .int (liesV (F.map ofI) (ofI q))) := by
      have := el
      rwa [spD_ofI] at this
    have eb : decide (0 ≤ liesV (F.map ofI) (ofI q)) = dB (Cv (F.map ofI) (ofI q)) := by
      by_cases c : Cv (F.map ofI) (ofI q)
      · rw [dB_true c]; exact decide_eq_true (nn.mpr c)
      · rw [dB_false c]; exact decide_eq_false fun z => c (nn.mp z)
    simp [pD, el', eb]
  refine stepR ?_
  have ebb : (dB (N.map ofI = F.map ofI) == dB (Cv (F.map ofI) (ofI q))) = true := by
    by_cases c : Cv (F.map ofI) (ofI q)
    · rw [dB_true c, dB_true (NF.mpr c)]; rfl
    · rw [dB_false c, dB_false fun z => c (NF.mp z)]; rfl
  simp [lo1, eN', eq_blbl, ebb]
end Ev
namespace Law
open PySem PySem.Spec PyProof.Rows L2 Ev
def topS (i : Nat) : Stmt := PySem.Challenge.pw_deepspot_k12_a_hull_of_hulls.main.body.getD i (.Pass ⟨0, 0, 0, 0⟩)
def names : List (Nat × Str) := [(8, Str.ofString "below"), (48, Str.ofString "spread"), (37, Str.ofString "left_turn"), (49, Str.ofString "ahead"), (38, Str.ofString "hull"), (50, Str.ofString "lies_in"), (1, Str.ofString "_law_cell_at"), (14, Str.ofString "_law_block"), (15, Str.ofString "_law_mixed"), (45, Str.ofString "_law_points"), (51, Str.ofString "law")]
def tbl : List (Nat × Fn) := [(51, f_law_k12), (45, f_law_points_k11), (15, f_law_mixed), (14, f_law_block), (1, f_law_cell_at), (50, f_lies_in), (38, f_hull), (49, f_ahead), (37, f_left_turn), (48, f_spread), (8, f_below)]
theorem sc_1 : FnScope ["one", "other"] ["one", "other"] (defScope (topS 1)) := ⟨rfl, rfl, rfl, by decide +kernel, rfl, by decide +kernel, by decide +kernel⟩
theorem ok_1 : okFn (nmOf names) ["one", "other"] ["one", "other"] f_below (topS 1) = true := by decide +kernel
theorem sc_3 : FnScope ["spot", "x", "y"] ["spot"] (defScope (topS 3)) := ⟨rfl, rfl, rfl, by decide +kernel, rfl, by decide +kernel, by decide +kernel⟩
theorem ok_3 : okFn (nmOf names) ["spot", "x", "y"] ["spot"] f_spread (topS 3) = true := by decide +kernel
theorem sc_4 : FnScope ["one", "two", "three", "found"] ["one", "two", "three"] (defScope (topS 4)) := ⟨rfl, rfl, rfl, by decide +kernel, rfl, by decide +kernel, by decide +kernel⟩
theorem ok_4 : okFn (nmOf names) ["one", "two", "three", "found"] ["one", "two", "three"] f_left_turn (topS 4) = true := by decide +kernel
theorem sc_5 : FnScope ["one", "other"] ["one", "other"] (defScope (topS 5)) := ⟨rfl, rfl, rfl, by decide +kernel, rfl, by decide +kernel, by decide +kernel⟩
theorem ok_5 : okFn (nmOf names) ["one", "other"] ["one", "other"] f_ahead (topS 5) = true := by decide +kernel
theorem sc_6 : FnScope ["points", "sorted_ones", "chains", "row", "chain", "x", "y", "ring", "bottom"] ["points"] (defScope (topS 6)) := ⟨rfl, rfl, rfl, by decide +kernel, rfl, by decide +kernel, by decide +kernel⟩
theorem ok_6 : okFn (nmOf names) ["points", "sorted_ones", "chains", "row", "chain", "x", "y", "ring", "bottom"] ["points"] f_hull (topS 6) = true := by decide +kernel
theorem sc_7 : FnScope ["region", "spot", "here", "flat", "corner", "turns", "k"] ["region", "spot"] (defScope (topS 7)) := ⟨rfl, rfl, rfl, by decide +kernel, rfl, by decide +kernel, by decide +kernel⟩
theorem ok_7 : okFn (nmOf names) ["region", "spot", "here", "flat", "corner", "turns", "k"] ["region", "spot"] f_lies_in (topS 7) = true := by decide +kernel
theorem sc_9 : FnScope ["_law_script", "_law_k"] ["_law_script", "_law_k"] (defScope (topS 9)) := ⟨rfl, rfl, rfl, by decide +kernel, rfl, by decide +kernel, by decide +kernel⟩
theorem ok_9 : okFn (nmOf names) ["_law_script", "_law_k"] ["_law_script", "_law_k"] f_law_cell_at (topS 9) = true := by decide +kernel
theorem sc_11 : FnScope ["_law_script", "_law_k", "_law_cell", "_law_j"] ["_law_script", "_law_k"] (defScope (topS 11)) := ⟨rfl, rfl, rfl, by decide +kernel, rfl, by decide +kernel, by decide +kernel⟩
theorem ok_11 : okFn (nmOf names) ["_law_script", "_law_k", "_law_cell", "_law_j"] ["_law_script", "_law_k"] f_law_block (topS 11) = true := by decide +kernel
theorem sc_12 : FnScope ["_law_script", "_law_k", "_law_cell", "_law_number"] ["_law_script", "_law_k"] (defScope (topS 12)) := ⟨rfl, rfl, rfl, by decide +kernel, rfl, by decide +kernel, by decide +kernel⟩
theorem ok_12 : okFn (nmOf names) ["_law_script", "_law_k", "_law_cell", "_law_number"] ["_law_script", "_law_k"] f_law_mixed (topS 12) = true := by decide +kernel
theorem sc_13 : FnScope ["_law_script", "_law_many", "_law_way", "_law_found", "_law_k", "_law_number", "_law_spot", "_law_step", "_law_line"] ["_law_script", "_law_many"] (defScope (topS 13)) := ⟨rfl, rfl, rfl, by decide +kernel, rfl, by decide +kernel, by decide +kernel⟩
theorem ok_13 : okFn (nmOf names) ["_law_script", "_law_many", "_law_way", "_law_found", "_law_k", "_law_number", "_law_spot", "_law_step", "_law_line"] ["_law_script", "_law_many"] f_law_points_k11 (topS 13) = true := by decide +kernel
theorem sc_14 : FnScope ["_law_script", "_law_many", "_law_points_here", "_law_more", "_law_found", "_law_at", "_law_corners", "_law_x", "_law_y", "_law_within"] ["_law_script"] (defScope (topS 14)) := ⟨rfl, rfl, rfl, by decide +kernel, rfl, by decide +kernel, by decide +kernel⟩
theorem ok_14 : okFn (nmOf names) ["_law_script", "_law_many", "_law_points_here", "_law_more", "_law_found", "_law_at", "_law_corners", "_law_x", "_law_y", "_law_within"] ["_law_script"] f_law_k12 (topS 14) = true := by decide +kernel
theorem pure_law : ∀ ns : List Int, ns.length ≤ 63 → callT fuel tbl 51 [.scr ns] = some (.sh, .bl true) := by
  intro ns hl
  have n1 : 20000 < fuel := by unfold fuel; decide
  have n2 : 1000 < fuel := by unfold fuel; decide
  have h37 : TurnS (callT fuel tbl 37) := lk (ev_turn _ _)
  have h38 : HullS (callT fuel tbl 38) := lk (ev_hull n2 (ag h37))
  have h1 : CellS ns (callT fuel tbl 1) := lk (ev_cell' _ _ ns)
  have h14 : BlockS ns (callT fuel tbl 14) := lk (ev_block' _ _ ns)
  have h15 : MixS ns (callT fuel tbl 15) := lk (ev_mixed' (ag h14))
  have w48 : SpreadW (callT fuel tbl 48) := lk (ev_spreadW _ _)
  have w37 : TurnW (callT fuel tbl 37) := lk (ev_turnW _ _)
  have w8 : BelowW (callT fuel tbl 8) := lk (ev_belowW _ _)
  have w49 : AheadW (callT fuel tbl 49) := lk (ev_aheadW (ag w8))
  have h50 : LiesS (callT fuel tbl 50) := lk (ev_lies (ag w48) (ag w37) (ag w49))
  have h45 : Points11S ns (callT fuel tbl 45) := lk (ev_points11 (ag h1) (ag h15))
  have h51 : TrueL ns (callT fuel tbl 51) := lk (ev_k12 (ag h45) (ag h38) (ag h15) (ag h50))
  exact h51
set_option maxHeartbeats 0 in
theorem all_mk {l : PySem.W.OpenLaw} {w : World} {K : PySem.W.Frag} {h : Heap} {mg : Str → Option Value} {fa : Addr} (X : K.In h) (G : h.Ns mainGlobals mg) (hfa : mg "law" = some (.ref fa)) (pure_ : ∀ ns : List Int, ns.length ≤ 63 → callT fuel tbl 51 [.scr ns] = some (.sh, .bl true))
    {f1 : Addr} {od1 an1 : Option Addr} {sl1 : Array (Option Value)} {oc1 kV1 dc1 pm1 cd1 ct1 : Value}
    {f3 : Addr} {od3 an3 : Option Addr} {sl3 : Array (Option Value)} {oc3 kV3 dc3 pm3 cd3 ct3 : Value}
    {f4 : Addr} {od4 an4 : Option Addr} {sl4 : Array (Option Value)} {oc4 kV4 dc4 pm4 cd4 ct4 : Value}
    {f5 : Addr} {od5 an5 : Option Addr} {sl5 : Array (Option Value)} {oc5 kV5 dc5 pm5 cd5 ct5 : Value}
    {f6 : Addr} {od6 an6 : Option Addr} {sl6 : Array (Option Value)} {oc6 kV6 dc6 pm6 cd6 ct6 : Value}
    {f7 : Addr} {od7 an7 : Option Addr} {sl7 : Array (Option Value)} {oc7 kV7 dc7 pm7 cd7 ct7 : Value}
    {f9 : Addr} {od9 an9 : Option Addr} {sl9 : Array (Option Value)} {oc9 kV9 dc9 pm9 cd9 ct9 : Value}
    {f11 : Addr} {od11 an11 : Option Addr} {sl11 : Array (Option Value)} {oc11 kV11 dc11 pm11 cd11 ct11 : Value}
    {f12 : Addr} {od12 an12 : Option Addr} {sl12 : Array (Option Value)} {oc12 kV12 dc12 pm12 cd12 ct12 : Value}
    {f13 : Addr} {od13 an13 : Option Addr} {sl13 : Array (Option Value)} {oc13 kV13 dc13 pm13 cd13 ct13 : Value}
    {f14 : Addr} {od14 an14 : Option Addr} {sl14 : Array (Option Value)} {oc14 kV14 dc14 pm14 cd14 ct14 : Value}
    (a1 : PySem.W.nsIn K mainGlobals "below" = some (some (.ref f1))) (l1 : K.lookup f1 = some ⟨oc1, od1, .func (PySem.W.fnOf "below" "below" (defArgs (topS 1)) (defBody (topS 1)) (defScope (topS 1)) .none kV1 dc1 pm1 an1 cd1 ct1), sl1⟩) (c1 : PySem.W.codeIn K cd1 "below" = true) (k1 : PySem.W.keepIn K (.ref f1) = true)
    (a3 : PySem.W.nsIn K mainGlobals "spread" = some (some (.ref f3))) (l3 : K.lookup f3 = some ⟨oc3, od3, .func (PySem.W.fnOf "spread" "spread" (defArgs (topS 3)) (defBody (topS 3)) (defScope (topS 3)) .none kV3 dc3 pm3 an3 cd3 ct3), sl3⟩) (c3 : PySem.W.codeIn K cd3 "spread" = true) (k3 : PySem.W.keepIn K (.ref f3) = true)
    (a4 : PySem.W.nsIn K mainGlobals "left_turn" = some (some (.ref f4))) (l4 : K.lookup f4 = some ⟨oc4, od4, .func (PySem.W.fnOf "left_turn" "left_turn" (defArgs (topS 4)) (defBody (topS 4)) (defScope (topS 4)) .none kV4 dc4 pm4 an4 cd4 ct4), sl4⟩) (c4 : PySem.W.codeIn K cd4 "left_turn" = true) (k4 : PySem.W.keepIn K (.ref f4) = true)
    (a5 : PySem.W.nsIn K mainGlobals "ahead" = some (some (.ref f5))) (l5 : K.lookup f5 = some ⟨oc5, od5, .func (PySem.W.fnOf "ahead" "ahead" (defArgs (topS 5)) (defBody (topS 5)) (defScope (topS 5)) .none kV5 dc5 pm5 an5 cd5 ct5), sl5⟩) (c5 : PySem.W.codeIn K cd5 "ahead" = true) (k5 : PySem.W.keepIn K (.ref f5) = true)
    (a6 : PySem.W.nsIn K mainGlobals "hull" = some (some (.ref f6))) (l6 : K.lookup f6 = some ⟨oc6, od6, .func (PySem.W.fnOf "hull" "hull" (defArgs (topS 6)) (defBody (topS 6)) (defScope (topS 6)) .none kV6 dc6 pm6 an6 cd6 ct6), sl6⟩) (c6 : PySem.W.codeIn K cd6 "hull" = true) (k6 : PySem.W.keepIn K (.ref f6) = true)
    (a7 : PySem.W.nsIn K mainGlobals "lies_in" = some (some (.ref f7))) (l7 : K.lookup f7 = some ⟨oc7, od7, .func (PySem.W.fnOf "lies_in" "lies_in" (defArgs (topS 7)) (defBody (topS 7)) (defScope (topS 7)) .none kV7 dc7 pm7 an7 cd7 ct7), sl7⟩) (c7 : PySem.W.codeIn K cd7 "lies_in" = true) (k7 : PySem.W.keepIn K (.ref f7) = true)
    (a9 : PySem.W.nsIn K mainGlobals "_law_cell_at" = some (some (.ref f9))) (l9 : K.lookup f9 = some ⟨oc9, od9, .func (PySem.W.fnOf "_law_cell_at" "_law_cell_at" (defArgs (topS 9)) (defBody (topS 9)) (defScope (topS 9)) .none kV9 dc9 pm9 an9 cd9 ct9), sl9⟩) (c9 : PySem.W.codeIn K cd9 "_law_cell_at" = true) (k9 : PySem.W.keepIn K (.ref f9) = true)
    (a11 : PySem.W.nsIn K mainGlobals "_law_block" = some (some (.ref f11))) (l11 : K.lookup f11 = some ⟨oc11, od11, .func (PySem.W.fnOf "_law_block" "_law_block" (defArgs (topS 11)) (defBody (topS 11)) (defScope (topS 11)) .none kV11 dc11 pm11 an11 cd11 ct11), sl11⟩) (c11 : PySem.W.codeIn K cd11 "_law_block" = true) (k11 : PySem.W.keepIn K (.ref f11) = true)
    (a12 : PySem.W.nsIn K mainGlobals "_law_mixed" = some (some (.ref f12))) (l12 : K.lookup f12 = some ⟨oc12, od12, .func (PySem.W.fnOf "_law_mixed" "_law_mixed" (defArgs (topS 12)) (defBody (topS 12)) (defScope (topS 12)) .none kV12 dc12 pm12 an12 cd12 ct12), sl12⟩) (c12 : PySem.W.codeIn K cd12 "_law_mixed" = true) (k12 : PySem.W.keepIn K (.ref f12) = true)
    (a13 : PySem.W.nsIn K mainGlobals "_law_points" = some (some (.ref f13))) (l13 : K.lookup f13 = some ⟨oc13, od13, .func (PySem.W.fnOf "_law_points" "_law_points" (defArgs (topS 13)) (defBody (topS 13)) (defScope (topS 13)) .none kV13 dc13 pm13 an13 cd13 ct13), sl13⟩) (c13 : PySem.W.codeIn K cd13 "_law_points" = true) (k13 : PySem.W.keepIn K (.ref f13) = true)
    (a14 : PySem.W.nsIn K mainGlobals "law" = some (some (.ref f14))) (l14 : K.lookup f14 = some ⟨oc14, od14, .func (PySem.W.fnOf "law" "law" (defArgs (topS 14)) (defBody (topS 14)) (defScope (topS 14)) .none kV14 dc14 pm14 an14 cd14 ct14), sl14⟩) (c14 : PySem.W.codeIn K cd14 "law" = true) (k14 : PySem.W.keepIn K (.ref f14) = true)
    (z0 : PySem.W.nsIn K mainGlobals "abs" = some none) (z1 : PySem.W.nsIn K mainGlobals "bool" = some none) (z2 : PySem.W.nsIn K mainGlobals "enumerate" = some none) (z3 : PySem.W.nsIn K mainGlobals "int" = some none) (z4 : PySem.W.nsIn K mainGlobals "isinstance" = some none) (z5 : PySem.W.nsIn K mainGlobals "len" = some none) (z6 : PySem.W.nsIn K mainGlobals "list" = some none) (z7 : PySem.W.nsIn K mainGlobals "max" = some none) (z8 : PySem.W.nsIn K mainGlobals "min" = some none) (z9 : PySem.W.nsIn K mainGlobals "range" = some none) (z10 : PySem.W.nsIn K mainGlobals "reversed" = some none) (z11 : PySem.W.nsIn K mainGlobals "set" = some none) (z12 : PySem.W.nsIn K mainGlobals "sorted" = some none) (z13 : PySem.W.nsIn K mainGlobals "sum" = some none) (z14 : PySem.W.nsIn K mainGlobals "tuple" = some none) (z15 : PySem.W.nsIn K mainGlobals "zip" = some none) :
    ∃ fd : FuncData, (∀ (s : Shared) (v : Value), BindsTo s fd ⟨[v], []⟩ [("_law_script", v)]) ∧ ∀ base : Heap, K.In base → base.Ns mainGlobals mg → FnOk l.prog w K mg base CX0 11 fa fd ["_law_script"] (spL K) := by
  have e := hfa.symm.trans (PySem.W.mg_of X G a14)
  cases e
  have F1 := fun_mk (st := topS 1) l1 c1 k1
  have b1 := F1.binds (ps := ["one", "other"]) fun _ _ _ _ _ _ us hl => match us, hl with | [_, _], _ => rfl
  have F3 := fun_mk (st := topS 3) l3 c3 k3
  have b3 := F3.binds (ps := ["spot"]) fun _ _ _ _ _ _ us hl => match us, hl with | [_], _ => rfl
  have F4 := fun_mk (st := topS 4) l4 c4 k4
  have b4 := F4.binds (ps := ["one", "two", "three"]) fun _ _ _ _ _ _ us hl => match us, hl with | [_, _, _], _ => rfl
  have F5 := fun_mk (st := topS 5) l5 c5 k5
  have b5 := F5.binds (ps := ["one", "other"]) fun _ _ _ _ _ _ us hl => match us, hl with | [_, _], _ => rfl
  have F6 := fun_mk (st := topS 6) l6 c6 k6
  have b6 := F6.binds (ps := ["points"]) fun _ _ _ _ _ _ us hl => match us, hl with | [_], _ => rfl
  have F7 := fun_mk (st := topS 7) l7 c7 k7
  have b7 := F7.binds (ps := ["region", "spot"]) fun _ _ _ _ _ _ us hl => match us, hl with | [_, _], _ => rfl
  have F9 := fun_mk (st := topS 9) l9 c9 k9
  have b9 := F9.binds (ps := ["_law_script", "_law_k"]) fun _ _ _ _ _ _ us hl => match us, hl with | [_, _], _ => rfl
  have F11 := fun_mk (st := topS 11) l11 c11 k11
  have b11 := F11.binds (ps := ["_law_script", "_law_k"]) fun _ _ _ _ _ _ us hl => match us, hl with | [_, _], _ => rfl
  have F12 := fun_mk (st := topS 12) l12 c12 k12
  have b12 := F12.binds (ps := ["_law_script", "_law_k"]) fun _ _ _ _ _ _ us hl => match us, hl with | [_, _], _ => rfl
  have F13 := fun_mk (st := topS 13) l13 c13 k13
  have b13 := F13.binds (ps := ["_law_script", "_law_many"]) fun _ _ _ _ _ _ us hl => match us, hl with | [_, _], _ => rfl
  have F14 := fun_mk (st := topS 14) l14 c14 k14
  have b14 := F14.binds (ps := ["_law_script"]) fun _ _ _ _ _ _ us hl => match us, hl with | [_], _ => rfl
  have blt : ∀ y ∈ bltNames, mg y = none := by
    intro y hy
    simp only [bltNames, List.mem_cons, List.not_mem_nil, or_false] at hy
    rcases hy with rfl | rfl | rfl | rfl | rfl | rfl | rfl | rfl | rfl | rfl | rfl | rfl | rfl | rfl | rfl | rfl
    · exact PySem.W.mg_none_of X G z0
    · exact PySem.W.mg_none_of X G z5
    · exact PySem.W.mg_none_of X G z3
    · exact PySem.W.mg_none_of X G z13
    · exact PySem.W.mg_none_of X G z8
    · exact PySem.W.mg_none_of X G z7
    · exact PySem.W.mg_none_of X G z6
    · exact PySem.W.mg_none_of X G z12
    · exact PySem.W.mg_none_of X G z11
    · exact PySem.W.mg_none_of X G z4
    · exact PySem.W.mg_none_of X G z1
    · exact PySem.W.mg_none_of X G z14
    · exact PySem.W.mg_none_of X G z9
    · exact PySem.W.mg_none_of X G z15
    · exact PySem.W.mg_none_of X G z2
    · exact PySem.W.mg_none_of X G z10
  refine ⟨PySem.W.fnOf "law" "law" (defArgs (topS 14)) (defBody (topS 14)) (defScope (topS 14)) .none kV14 dc14 pm14 an14 cd14 ct14, fun s v => .of_eq rfl, fun base _ _ => ?_⟩
  · have _here : True := trivial
    have A0 : AllOk l.prog w K mg base (nmOf names) (callT fuel []) 0 := AllOk.start fun f x e => by
      unfold names at e
      rcases nmOf_cons e with ⟨rfl, rfl⟩ | e
      · exact ⟨_, _, _, PySem.W.mg_of X G a1, k1, b1⟩
      rcases nmOf_cons e with ⟨rfl, rfl⟩ | e
      · exact ⟨_, _, _, PySem.W.mg_of X G a3, k3, b3⟩
      rcases nmOf_cons e with ⟨rfl, rfl⟩ | e
      · exact ⟨_, _, _, PySem.W.mg_of X G a4, k4, b4⟩
      rcases nmOf_cons e with ⟨rfl, rfl⟩ | e
      · exact ⟨_, _, _, PySem.W.mg_of X G a5, k5, b5⟩
      rcases nmOf_cons e with ⟨rfl, rfl⟩ | e
      · exact ⟨_, _, _, PySem.W.mg_of X G a6, k6, b6⟩
      rcases nmOf_cons e with ⟨rfl, rfl⟩ | e
      · exact ⟨_, _, _, PySem.W.mg_of X G a7, k7, b7⟩
      rcases nmOf_cons e with ⟨rfl, rfl⟩ | e
      · exact ⟨_, _, _, PySem.W.mg_of X G a9, k9, b9⟩
      rcases nmOf_cons e with ⟨rfl, rfl⟩ | e
      · exact ⟨_, _, _, PySem.W.mg_of X G a11, k11, b11⟩
      rcases nmOf_cons e with ⟨rfl, rfl⟩ | e
      · exact ⟨_, _, _, PySem.W.mg_of X G a12, k12, b12⟩
      rcases nmOf_cons e with ⟨rfl, rfl⟩ | e
      · exact ⟨_, _, _, PySem.W.mg_of X G a13, k13, b13⟩
      rcases nmOf_cons e with ⟨rfl, rfl⟩ | e
      · exact ⟨_, _, _, PySem.W.mg_of X G a14, k14, b14⟩
      cases e
    have A1 := AllOk.step (i := 8) (fn := f_below) A0 (by decide +kernel) (by decide) (PySem.W.mg_of X G a1) F1 b1 sc_1 ok_1 blt
    have A2 := AllOk.step (i := 48) (fn := f_spread) A1 (by decide +kernel) (by decide) (PySem.W.mg_of X G a3) F3 b3 sc_3 ok_3 blt
    have A3 := AllOk.step (i := 37) (fn := f_left_turn) A2 (by decide +kernel) (by decide) (PySem.W.mg_of X G a4) F4 b4 sc_4 ok_4 blt
    have A4 := AllOk.step (i := 49) (fn := f_ahead) A3 (by decide +kernel) (by decide) (PySem.W.mg_of X G a5) F5 b5 sc_5 ok_5 blt
    have A5 := AllOk.step (i := 38) (fn := f_hull) A4 (by decide +kernel) (by decide) (PySem.W.mg_of X G a6) F6 b6 sc_6 ok_6 blt
    have A6 := AllOk.step (i := 50) (fn := f_lies_in) A5 (by decide +kernel) (by decide) (PySem.W.mg_of X G a7) F7 b7 sc_7 ok_7 blt
    have A7 := AllOk.step (i := 1) (fn := f_law_cell_at) A6 (by decide +kernel) (by decide) (PySem.W.mg_of X G a9) F9 b9 sc_9 ok_9 blt
    have A8 := AllOk.step (i := 14) (fn := f_law_block) A7 (by decide +kernel) (by decide) (PySem.W.mg_of X G a11) F11 b11 sc_11 ok_11 blt
    have A9 := AllOk.step (i := 15) (fn := f_law_mixed) A8 (by decide +kernel) (by decide) (PySem.W.mg_of X G a12) F12 b12 sc_12 ok_12 blt
    have A10 := AllOk.step (i := 45) (fn := f_law_points_k11) A9 (by decide +kernel) (by decide) (PySem.W.mg_of X G a13) F13 b13 sc_13 ok_13 blt
    exact law_imp (AllOk.main (i := 51) (fn := f_law_k12) A10 F14 sc_14 ok_14 blt) pure_
end Law
open PySem PySem.W PyProof.Rows
set_option maxHeartbeats 0 in
theorem PySem.Challenge.cw_deepspot_k12_a_hull_of_hulls_holds : PySem.Challenge.rw_deepspot_k12_a_hull_of_hulls.Holds := by
  w_on; o_law; k_head; (case hw => w_witness2)
  k_fill
  refine L2.walk_of (l := PySem.Challenge.rw_deepspot_k12_a_hull_of_hulls) (n := 63) (k := 11) (x := "_law_script") (CX := fun _ => L2.CX0) (sp := fun w => Ev.spL _) rfl (by decide) rfl ⟨rfl, by decide, by decide⟩ (fun w h Y => PySem.W.kIn_of Y) ?F (fun _ _ a ns hl ho hS => ⟨a, ns, rfl, ho, hS, hl, fun _ => rfl⟩) (fun _ _ _ _ _ h => h)
  case F =>
    intro w mg fa h KX G hmg
    refine' Law.all_mk KX G hmg Law.pure_law ?a1 ?l1 ?c1 ?k1 ?a3 ?l3 ?c3 ?k3 ?a4 ?l4 ?c4 ?k4 ?a5 ?l5 ?c5 ?k5 ?a6 ?l6 ?c6 ?k6 ?a7 ?l7 ?c7 ?k7 ?a9 ?l9 ?c9 ?k9 ?a11 ?l11 ?c11 ?k11 ?a12 ?l12 ?c12 ?k12 ?a13 ?l13 ?c13 ?k13 ?a14 ?l14 ?c14 ?k14 ?z0 ?z1 ?z2 ?z3 ?z4 ?z5 ?z6 ?z7 ?z8 ?z9 ?z10 ?z11 ?z12 ?z13 ?z14 ?z15
    (case a1 => k_is)
    (case l1 => k_is)
    (case c1 => k_is)
    (case k1 => k_is)
    (case a3 => k_is)
    (case l3 => k_is)
    (case c3 => k_is)
    (case k3 => k_is)
    (case a4 => k_is)
    (case l4 => k_is)
    (case c4 => k_is)
    (case k4 => k_is)
    (case a5 => k_is)
    (case l5 => k_is)
    (case c5 => k_is)
    (case k5 => k_is)
    (case a6 => k_is)
    (case l6 => k_is)
    (case c6 => k_is)
    (case k6 => k_is)
    (case a7 => k_is)
    (case l7 => k_is)
    (case c7 => k_is)
    (case k7 => k_is)
    (case a9 => k_is)
    (case l9 => k_is)
    (case c9 => k_is)
    (case k9 => k_is)
    (case a11 => k_is)
    (case l11 => k_is)
    (case c11 => k_is)
    (case k11 => k_is)
    (case a12 => k_is)
    (case l12 => k_is)
    (case c12 => k_is)
    (case k12 => k_is)
    (case a13 => k_is)
    (case l13 => k_is)
    (case c13 => k_is)
    (case k13 => k_is)
    (case a14 => k_is)
    (case l14 => k_is)
    (case c14 => k_is)
    (case k14 => k_is)
    (case z0 => k_is)
    (case z1 => k_is)
    (case z2 => k_is)
    (case z3 => k_is)
    (case z4 => k_is)
    (case z5 => k_is)
    (case z6 => k_is)
    (case z7 => k_is)
    (case z8 => k_is)
    (case z9 => k_is)
    (case z10 => k_is)
    (case z11 => k_is)
    (case z12 => k_is)
    (case z13 => k_is)
    (case z14 => k_is)
    (case z15 => k_is)
